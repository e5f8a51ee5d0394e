import PyProof.Rows.All
import Wide.All
import OpenK.AllK
import Wide.FinOn
import PySem.Challenge.RW_sq0027_01
open PySem PySem.W PySem.Calls PyProof.Rows
set_option Elab.async false
set_option maxRecDepth 100000
set_option compiler.extract_closed false
namespace Mine
noncomputable def runT (tb : String → Option Builtin) (p : Program) (w : World) (n₀ : Nat) (ann : Option Value) : Nat → SharedT → Thread → Option SharedT
  | 0, _, _ => none
  | n + 1, s, t => match through t with
    | true => some s
    | false => match stepOk n₀ ann t with
      | false => none
      | true => match stepT (denote tb) p w s t with
        | some (s', t') => runT tb p w n₀ ann n s' t'
        | none => none
theorem run_of {tb : String → Option Builtin} {p : Program} {w : World} {n₀ : Nat} {ann : Option Value} : ∀ {n : Nat} {s s' : SharedT} {t : Thread}, runT tb p w n₀ ann n s t = some s' → topRun tb p w n₀ ann n s.abs t = some s'.abs
  | 0, _, _, _, h => by cases h
  | n + 1, s, s', t, h => by
    unfold runT at h
    unfold topRun
    cases ht : through t with
    | true => rw [ht] at h; cases h; rfl
    | false =>
      rw [ht] at h
      cases hk : stepOk n₀ ann t with
      | false => rw [hk] at h; cases h
      | true =>
        rw [hk] at h
        cases hs : stepT (denote tb) p w s t with
        | none => rw [hs] at h; cases h
        | some r => obtain ⟨s₂, t₂⟩ := r; rw [hs] at h; rw [stepT_spec hs]; exact run_of h
/-- the boot heap as a tree -/
noncomputable def bootT (P : Params) : BT := .node (boot_o_0 P) (.node (boot_o_1 P) (.node (boot_o_3 P) (.node (boot_o_7 P) .nil .nil) .nil) (.node (boot_o_5 P) (.node (boot_o_9 P) .nil .nil) .nil)) (.node (boot_o_2 P) (.node (boot_o_4 P) (.node (boot_o_8 P) .nil .nil) .nil) (.node (boot_o_6 P) (.node (boot_o_10 P) .nil .nil) .nil))
theorem boot_is (P : Params) : absHeap (bootT P) 11 {} = boot_heap P := by kernel_rfl
theorem of_boot {p : Program} {N : Nat} {γ : Type} {F : World → Shared → γ} {R : World → γ} (e : opening p = plainProg p.main.scope.names) (hN : Nat.ble 600 N = true) (f : ∀ s, fenceModules? p s = some s)
    (k : ∀ (w : World) (os : OsState), F w ⟨boot_heap w.params, Array.mk [], boot_drawn, boot_toks, os⟩ = R w) (w : World) : (fencedOpening treeTable p w N).map (F w) = some (R w) := by
  obtain ⟨⟨h, gs, d, t, os⟩, hs, hv⟩ := Option.map_eq_some_iff.mp (boot_open e hN f w)
  obtain ⟨rfl, rfl, rfl, rfl⟩ : h = boot_heap w.params ∧ gs = Array.mk [] ∧ d = boot_drawn ∧ t = boot_toks := by simpa using hv
  rw [hs]
  exact congrArg some (k w os)
theorem sized (P : Params) : ((boot_heap P).isNs mainGlobals && (Array.mk ([] : List GenState)).size == 0, (boot_heap P).objs.size, (boot_heap P).nsMap mainGlobals "__annotations__") = (true, 11, some (Value.ref 6)) := by kernel_rfl
noncomputable def getT (t : SharedT) (a : Addr) : Option Obj := match Nat.blt a t.n with
  | true => match t.tree.get a with
    | some o => alive o
    | none => none
  | false => none
theorem getT_of {t : SharedT} {a : Addr} {o : Obj} (h : getT t a = some o) : t.abs.heap.get? a = some o := by
  unfold getT at h
  cases hb : Nat.blt a t.n with
  | false => rw [hb] at h; cases h
  | true =>
    rw [hb] at h
    cases hg : t.tree.get a with
    | none => rw [hg] at h; cases h
    | some x =>
      rw [hg] at h
      show (absHeap t.tree t.n t.life).get? a = some o
      rw [abs_get (Nat.le_of_ble_eq_true hb) hg]
      exact h
theorem getT_all {t : SharedT} : ∀ {as : List Addr} {os : List Obj}, as.map (getT t) = os.map some → as.map t.abs.heap.get? = os.map some
  | [], [], _ => rfl
  | [], _ :: _, h => nomatch h
  | _ :: _, [], h => nomatch h
  | a :: as, o :: os, h => by
    rw [List.map_cons, List.map_cons] at h
    obtain ⟨h1, h2⟩ := List.cons.inj h
    rw [List.map_cons, List.map_cons, getT_of h1, getT_all h2]
theorem left_of {p q : Program} {loose : List Str} {Xt : Shared → Bool} {K : Params → Frag} {as : List Addr} {e' : ∀ P, as = (K P).map (·.1)} {ts : List Addr} {N : Nat} (row : String)
    (e : opening p = plainProg p.main.scope.names) (hN : Nat.ble 600 N = true) (f : ∀ s, fenceModules? p s = some s)
    (k : ∀ (b : Bool) (w : World) (os : OsState), (runT treeTable p (w.withFollow row b) 11 (some (Value.ref 6)) N ⟨bootT w.params, 11, {}, Array.mk [], boot_drawn, boot_toks, os⟩ (topStub p)).map
      (fun t => (staticsOk (importedModules p.main.body) (boot_heap w.params) t.abs.heap && namesBound p t.abs.heap && gensDone t.abs && laidKept (boot_heap w.params) t.abs.heap, openSeen q loose (importedModules p.main.body) Xt true t.abs, as.map (getT t), ts.map (getT t)))
      = some (true, openGood q loose, ((K (w.withFollow row b).params).map (·.2)).map some, (ts.map fun _ => tabObj #[]).map some)) :
    LeftO p q loose Xt (Hook.obs (kmHook K as e' ts)) (Hook.val (kmHook K as e' ts)) N := by
  have key : ∀ (b : Bool) (w : World) (os : OsState), (topFrom treeTable p (w.withFollow row b) N ⟨boot_heap w.params, Array.mk [], boot_drawn, boot_toks, os⟩).map
      (fun s => (openSeen q loose (importedModules p.main.body) Xt true s, Hook.obs (kmHook K as e' ts) s)) = some (openGood q loose, Hook.val (kmHook K as e' ts) (w.withFollow row b)) := by
    intro b w os
    obtain ⟨t, h1, h2⟩ := Option.map_eq_some_iff.mp (k b w os)
    simp only [Prod.mk.injEq] at h2
    obtain ⟨l1, l2, l3, l4⟩ := h2
    have r := run_of h1
    simp only [SharedT.abs, boot_is] at r
    obtain ⟨z1, z2, z3⟩ : _ ∧ _ ∧ _ := by simpa only [Prod.mk.injEq] using sized w.params
    have tf : topFrom treeTable p (w.withFollow row b) N ⟨boot_heap w.params, Array.mk [], boot_drawn, boot_toks, os⟩ = some t.abs := by
      unfold topFrom
      dsimp only
      rw [z1, z2, z3]
      dsimp only
      rw [r]
      dsimp only [Option.bind]
      simp only [SharedT.abs] at l1
      rw [l1]
      rfl
    have hy : Hook.obs (kmHook K as e' ts) t.abs = Hook.val (kmHook K as e' ts) (w.withFollow row b) := by
      show (as.map t.abs.heap.get?, ts.map t.abs.heap.get?) = ((K (w.withFollow row b).params).map fun p => some p.2, ts.map fun _ => some (tabObj #[]))
      rw [getT_all l3, getT_all l4, List.map_map, List.map_map]
      rfl
    rw [tf, Option.map_some, l2, hy]
  refine LeftO.of_split row (of_boot (R := fun w => (some (openGood q loose, Hook.val (kmHook K as e' ts) (w.withFollow row false)), some (openGood q loose, Hook.val (kmHook K as e' ts) (w.withFollow row true)))) e hN f fun w os => ?_)
  rw [key false w os, key true w os]
lay_quick Mine.runT PySem.W.openSeen PySem.W.openGood PySem.W.xlAt PySem.W.recOk PySem.W.topStub PySem.World.withFollow PySem.W.staticsOk PySem.W.namesBound PySem.W.laidKept
theorem open_is : opening PySem.Challenge.rw_sq0027_01.row.prog = plainProg PySem.Challenge.rw_sq0027_01.row.prog.main.scope.names := by
  kernel_rfl
theorem fence_is (s : Shared) : fenceModules? PySem.Challenge.rw_sq0027_01.row.prog s = some s := by
  kernel_rfl
theorem said0 : OpenLaw.wellSaid PySem.Challenge.rw_sq0027_01 = true := by
  rw [PySem.W.Fast.te9446332074065402090]
  decide +kernel
noncomputable def view : Program := PySem.W.view PySem.Challenge.pw_sq0027_01 [1, 2, 3, 5, 6, 7, 8, 9, 10, 11, 12, 13, 14, 15, 16, 17, 18, 19, 20, 21, 22, 23, 25, 26, 27, 28, 29, 30, 31, 32, 33, 34, 35, 36, 37, 38, 39, 40]
noncomputable def loose0 : List Str := [Str.ofString "PageError", Str.ofString "MAX_DIMEN", Str.ofString "NORMAL", Str.ofString "FIL", Str.ofString "FILL", Str.ofString "FILLL", Str.ofString "times_scaled", Str.ofString "over_scaled"]
noncomputable def read0 : List (Str × WData) := [(Str.ofString "MAX_DIMEN", WData.int 1073741823), (Str.ofString "NORMAL", WData.int 0), (Str.ofString "FIL", WData.int 1), (Str.ofString "FILL", WData.int 2), (Str.ofString "FILLL", WData.int 3)]
local macro_rules | `(tactic| o_law) => `(tactic| (refine holds_law said0 fun said => ?_))
local macro_rules | `(tactic| o_head $H) => `(tactic| (
  (refine' holds_open (q := view) (loose := loose0) (Xt := fun s => xlAt view read0 s && recOk PySem.Challenge.rw_sq0027_01.row.records s) (XP := XL view read0) (Yf := Hook.obs $H) (Ya := Hook.val $H) (YP := Hook.says $H) (N := 5170) ?hl (Hook.of $H) (Hook.keeps $H) (fun s e => xl_of s (Bool.and_eq_true_iff.mp e).1) XL.keeps ?hd ?hp ?hk (fun s e => recFacts_of (Bool.and_eq_true_iff.mp e).2) ?hwr ?k1 ?ok ?hb ?hw ?hc);
  (case hd => rfl);
  (case hp => rfl);
  (case hk => rfl);
  (case hwr => rfl);
  (case k1 => assumption);
  (case ok => decide +kernel);
  (case hb => exact ⟨rfl, rfl, rfl, rfl, rfl, by decide +kernel⟩);
  (case hl => refine left_of "special-get-raises" open_is (by decide) fence_is fun b => ?_; cases b; (all_goals (intro w os; rw [PySem.W.Fast.te1274714115002603182, PySem.W.Fast.te14364793385576792824, PySem.W.Fast.te4187177175401517315, PySem.W.Fast.te3486900944545009338, PySem.W.Fast.te13471830651028734593, PySem.W.Fast.te4683006035507612052, PySem.W.Fast.te16898566250750103049, PySem.W.Fast.te5923862056798008813, PySem.W.Fast.te2530740449226627131, PySem.W.Fast.te5868089070849250262]; kernel_rfl)));))
set_option maxHeartbeats 8000000 in
open_top hd for PySem.Challenge.rw_sq0027_01
theorem fill (w : World) (h : Heap) : (hd.heap_1 w.params).In h → PySem.Challenge.rw_sq0027_01.foot = 16 := by
  k_fill
  intro _; rfl
theorem cps {P : Prop} (h : ∀ Q : Prop, (P → Q) → Q) : P := h P id
abbrev PP : Program := PySem.Challenge.rw_sq0027_01.row.prog
theorem strip_exec {M : Model} {A : Around} {st : Stmt} {env : Env} {Q : Flow → Shared → Prop} {E : Value → Shared → Prop} {s : Shared} (h : wpAny M A (exec st env) Q E s) : wpAny M A (exec st env) Q E s := h
theorem strip_execs {M : Model} {A : Around} {st : List Stmt} {env : Env} {Q : Flow → Shared → Prop} {E : Value → Shared → Prop} {s : Shared} (h : wpAny M A (execs st env) Q E s) : wpAny M A (execs st env) Q E s := h
theorem foldE {M : Model} {A : Around} {st : List Stmt} {env : Env} {Q : Flow → Shared → Prop} {E : Value → Shared → Prop} {s : Shared} (h : let ev := env; wpAny M A (execs st ev) Q E s) : wpAny M A (execs st env) Q E s := h
section
variable {prog : Program} {w : World} {A₀ A : Around} {base h₀ : Heap} {s : Shared} {outer : List Env} {L : Addr} {m : Str → Option Value} {env : Env} {K : Frag} {p : Program} {loose : List Str} {mean : ExcName → Option Value} {mg mb : Str → Option Value}
  {R : Result → Shared → Prop} {name qual : Str} {params : Arguments} {body : List Stmt} {scope : Scope} {dV kV doc pm cdv ct oc : Value} {an od : Option Addr} {osl : Array (Option Value)} {f : Addr} {args : Args} {binds : List (Str × Value)}
/-- a def entered with a part of the ledger alone; the rest is kept by its ground -/
theorem code_part {news ex rest : List (Addr × Obj)}
    (hex : ∀ q ∈ ex, q ∈ news) (hrest : ∀ q ∈ rest, q ∈ news) (hoff : ∀ q ∈ rest, q.1 ∉ ex.map (·.1))
    (B : Below A₀ base outer h₀) (F : Fr h₀ L s.heap m) (X₀ : K.In h₀) (N : News h₀ L s.heap news) (T : Top p loose mean mg mb h₀) (hA : A.frames = some (env :: outer)) (hf : env.frame = some L) (hke : env.scope.kind = .function)
    (ho : K.lookup f = some ⟨oc, od, .func (fnOf name qual params body scope dV kV doc pm an cdv ct), osl⟩) (hcd : codeIn K cdv qual = true) (hroom : A.depth < recursionLimit)
    (hbind : BindsTo s (fnOf name qual params body scope dV kV doc pm an cdv ct) args binds) (hloc : ∀ y ∈ binds, scope.names.lookup y.1 = some .local)
    (h : ∀ g L' h₁, Fr h₀ L g m → Fr g L' h₁ (fun y => binds.reverse.lookup y) → News g L' h₁ ex → Below A base (env :: outer) g → K.In g → Top p loose mean mg mb g → (∀ p ∈ ex, p.1 < L') →
      wpAny (model prog w) (A.deeper (envOf qual scope L' f cdv)) (execs body (envOf qual scope L' f cdv))
        (fun fl s' => LeaveK h₀ L m g (fun r s' => News h₀ L s'.heap rest → R r s') (match fl with | .ret v => v | _ => .none) s')
        (fun e s' => wpAny (model prog w) (A.deeper (envOf qual scope L' f cdv)) (leaving (envOf qual scope L' f cdv) e) (fun _ s'' => R (.error e) s'') (fun e' s'' => R (.error e') s'') s')
        { s with heap := h₁, toks := s.toks + binds.length })
    (hco : scope.isCoroutine = false) (hgen : scope.isGenerator = false) (hk : scope.kind = .function)
    (hcell : ∀ x ∈ scope.names, x.2 ≠ .cell) : codeAny (model prog w) A (.call (.ref f) args) R s := by
  have Nx : News h₀ L s.heap ex := fun q hq => N q (hex q hq)
  refine cps ?_; intro Q9 hQ9; obtain ⟨FG, BG, st, lv⟩ := groundX (R := fun r s' => News h₀ L s'.heap rest → R r s') B F Nx hA hf hke; refine hQ9 ?_; clear hQ9 Q9
  have X := X₀.keeps F.keep
  refine codeAny_call_def (fd := fnOf name qual params body scope dV kV doc pm an cdv ct) (body := body) (binds := binds) hroom (X _ _ ho) rfl (T.nolimit.keeps F.keep) (codeRec_of X hcd) rfl hbind hcell hloc (fun h₁ hns hk₁ => ?_) hco hgen hk
  refine wpAny_mono (h _ s.heap.objs.size h₁ FG ⟨hns, fun b o e => hk₁ b o (of_hideAll _ e), Nat.le_of_eq (hideAll_size _ _)⟩
    (fun p hp => ⟨hk₁ _ _ (Nx p hp).1, Nat.ne_of_lt (Heap.lt_size (Nx p hp).1), hideAll_none _ (List.mem_map_of_mem hp)⟩) BG (X₀.keeps st) (T.keeps st) (fun p hp => Heap.lt_size (Nx p hp).1)) (fun fl s' hl => lv _ _ hl fun q hq => ?_) fun _ _ y => y
  refine cps ?_; intro Q9 hQ9; obtain ⟨L', m', news', F', -, -⟩ := hl; refine hQ9 ?_; clear hQ9 Q9
  exact ⟨F'.keep _ _ (hideAll_get _ (N q (hrest q hq)).1 (hoff q hq)), (N q (hrest q hq)).2⟩
end
theorem foldM {P : Prop} {h₀ h : Heap} {L : Addr} {m : Str → Option Value} (F : Fr h₀ L h m) (H : let m' := m; Fr h₀ L h m' → P) : P := H F
theorem storeX_V {prog : Program} {w : World} {A : Around} {cn : Str} {cs : Scope} {L a : Addr} {ccd : Value} {cl : List (Str × Addr)} {h₀ : Heap} {m : Str → Option Value} {news : List (Addr × Obj)} {x : Str} {v : Value} {Q : PUnit → Shared → Prop} {E : Value → Shared → Prop} {s : Shared}
    (F : Fr h₀ L s.heap m) (N : News h₀ L s.heap news)
    (h : ∀ h' tk', let m' := fun y => if y = x then some v else m y; Fr h₀ L h' m' → News h₀ L h' news → Q () { s with heap := h', toks := tk' })
    (hk : cs.kind = .function) (hx : (envX cn cs L a ccd cl).kindOf x = some .local) : wpAny (model prog w) A (storeName (envX cn cs L a ccd cl) x v) Q E s :=
  storeX_L F N (fun h' => h h' _) hk hx
theorem foldA {M : Model} {dp un gd} {cn : Str} {cs : Scope} {L a : Addr} {ccd : Value} {cl : List (Str × Addr)} {outer : List Env} {env : Env} {α : Type} {t : Sem α} {Q : α → Shared → Prop} {E : Value → Shared → Prop} {s : Shared}
    (h : let AA := (ktrTop dp un gd cn cs L a ccd cl outer).deeper env; AA.depth = dp + 1 → AA.units = un + 3 → wpAny M AA t Q E s) : wpAny M ((ktrTop dp un gd cn cs L a ccd cl outer).deeper env) t Q E s := h rfl rfl
theorem zc1 {x c d : Int} (h : x < c) (k : c ≤ d) : x < d := Int.lt_of_lt_of_le h k
theorem zc2 {x c d : Int} (h : x ≤ c) (k : c < d) : x < d := Int.lt_of_le_of_lt h k
theorem zc3 {x c d : Int} (h : x ≤ c) (k : c ≤ d) : x ≤ d := Int.le_trans h k
theorem zc4 {x c d : Int} (h : x < c) (k : c ≤ d + 1) : x ≤ d := Int.le_of_lt_add_one (Int.lt_of_lt_of_le h k)
theorem zc5 {x c d : Int} (h : c ≤ x) (k : d < c) : d < x := Int.lt_of_lt_of_le k h
theorem zc6 {x c d : Int} (h : c ≤ x) (k : d ≤ c) : d ≤ x := Int.le_trans k h
theorem zc7 {x c d : Int} (h : c < x) (k : d ≤ c) : d < x := Int.lt_of_le_of_lt k h
theorem zc8 {x c d : Int} (h : c < x) (k : d ≤ c + 1) : d ≤ x := Int.le_trans k h
theorem nc1 {x c d : Nat} (h : x < c) (k : c ≤ d) : x < d := Nat.lt_of_lt_of_le h k
theorem nc2 {x c d : Nat} (h : x ≤ c) (k : c < d) : x < d := Nat.lt_of_le_of_lt h k
theorem nc3 {x c d : Nat} (h : x ≤ c) (k : c ≤ d) : x ≤ d := Nat.le_trans h k
theorem nc4 {x j c d : Nat} (h : x ≤ c) (k : c + j ≤ d) : x + j ≤ d := Nat.le_trans (Nat.add_le_add_right h j) k
theorem nc5 {x c d : Nat} (h : x = c) (k : c ≤ d) : x ≤ d := h ▸ k
theorem zd1 {x c : Int} (h : 0 ≤ x) (k : 0 ≤ c) : 0 ≤ x * c := Int.mul_nonneg h k
theorem zd2 {x b c d : Int} (h : x < b) (k : 0 ≤ c ∧ b * c ≤ d) : x * c ≤ d :=
  Int.le_trans (Int.mul_le_mul_of_nonneg_right (Int.le_of_lt h) k.1) k.2
theorem zd3 {y r s b d : Int} (h : 131072 * y ≤ 2 * (r * s) + 65536) (hr : r < b) (k : 0 ≤ s ∧ 2 * (b * s) + 65536 ≤ 131072 * d) : y ≤ d := by
  have h1 : r * s ≤ b * s := Int.mul_le_mul_of_nonneg_right (Int.le_of_lt hr) k.1
  omega
theorem nle1 {a : Nat} : a ≤ a + 1 := Nat.le_succ a
theorem or_nn {M o : Int} (h : o ≤ M ∧ 0 ≤ M) : 0 ≤ M := h.2
theorem foldQ {α : Type} {M : Model} {A : Around} {t : Sem α} {Q : α → Shared → Prop} {E : Value → Shared → Prop} {s : Shared} (h : let qk := Q; let ek := E; wpAny M A t qk ek s) : wpAny M A t Q E s := h
theorem foldN {P : Prop} {h₀ h : Heap} {L : Addr} {news : List (Addr × Obj)} (N : News h₀ L h news) (H : let n' := news; News h₀ L h n' → P) : P := H N
def addrs : List (Addr × Obj) → List Nat
  | [] => []
  | (a, _) :: r => a :: addrs r
theorem lx_addrs {d : Nat} : ∀ {l : List (Addr × Obj)}, AllLt d l ↔ ∀ a ∈ addrs l, a < d
  | [] => ⟨fun _ _ h => (List.not_mem_nil h).elim, fun _ => trivial⟩
  | (a, o) :: r => ⟨fun h b hb => by rcases List.mem_cons.mp hb with rfl | hb; (exact h.1); exact lx_addrs.mp h.2 b hb, fun h => ⟨h a (.head _), lx_addrs.mpr fun b hb => h b (.tail _ hb)⟩⟩
theorem lx8 {P : Prop} {d : Nat} {l r : List (Addr × Obj)} {a1 a2 a3 a4 a5 a6 a7 a8 : Nat} (h : AllLt d l) (e : addrs l = a1 :: a2 :: a3 :: a4 :: a5 :: a6 :: a7 :: a8 :: addrs r) (H : a1 < d → a2 < d → a3 < d → a4 < d → a5 < d → a6 < d → a7 < d → a8 < d → AllLt d r → P) : P := by
  have q := lx_addrs.mp h
  rw [e] at q
  simp only [List.forall_mem_cons] at q
  refine cps ?_; intro Q9 hQ9; obtain ⟨q1, q2, q3, q4, q5, q6, q7, q8, r9⟩ := q; refine hQ9 ?_; clear hQ9 Q9
  exact H q1 q2 q3 q4 q5 q6 q7 q8 (lx_addrs.mpr r9)
theorem lx3 {P : Prop} {d : Nat} {l r : List (Addr × Obj)} {a1 a2 a3 : Nat} (h : AllLt d l) (e : addrs l = a1 :: a2 :: a3 :: addrs r) (H : a1 < d → a2 < d → a3 < d → AllLt d r → P) : P := by
  have q := lx_addrs.mp h
  rw [e] at q
  simp only [List.forall_mem_cons] at q
  refine cps ?_; intro Q9 hQ9; obtain ⟨q1, q2, q3, r9⟩ := q; refine hQ9 ?_; clear hQ9 Q9
  exact H q1 q2 q3 (lx_addrs.mpr r9)
theorem lx1 {P : Prop} {d : Nat} {l r : List (Addr × Obj)} {a1 : Nat} (h : AllLt d l) (e : addrs l = a1 :: addrs r) (H : a1 < d → AllLt d r → P) : P := by
  have q := lx_addrs.mp h
  rw [e] at q
  simp only [List.forall_mem_cons] at q
  obtain ⟨q1, r9⟩ := q
  exact H q1 (lx_addrs.mpr r9)
theorem foldO {P : Prop} {h₀ h : Heap} {L a : Addr} {o : Obj} {news : List (Addr × Obj)} (N : News h₀ L h ((a, o) :: news)) (H : let o' := o; let n' := (a, o') :: news; News h₀ L h n' → P) : P := H N
theorem newTuple_V {M : Model} {A : Around} {E : Value → Shared → Prop} {s : Shared} {h₀ : Heap} {L : Addr} {m : Str → Option Value} {news : List (Addr × Obj)} {vs : List Value} {Q : Value → Shared → Prop} (F : Fr h₀ L s.heap m) (N : News h₀ L s.heap news)
    (h : ∀ D h', let o' : Obj := { cls := .type "tuple", data := .seq vs.toArray }; let n' := (D, o') :: news; Fr h₀ L h' m → News h₀ L h' n' → (∀ p ∈ news, p.1 < D) → Q (.ref D) { s with heap := h' }) (hz : vs.length ≤ sizeLine) : wpAny M A (newTuple vs) Q E s :=
  kup_newTuple F N h hz
theorem newList_V {M : Model} {A : Around} {E : Value → Shared → Prop} {s : Shared} {h₀ : Heap} {L : Addr} {m : Str → Option Value} {news : List (Addr × Obj)} {vs : List Value} {Q : Value → Shared → Prop} (F : Fr h₀ L s.heap m) (N : News h₀ L s.heap news)
    (h : ∀ D h', let o' : Obj := listOf vs.toArray 0; let n' := (D, o') :: news; Fr h₀ L h' m → News h₀ L h' n' → (∀ p ∈ news, p.1 < D) → Q (.ref D) { s with heap := h' }) (hz : vs.length ≤ sizeLine) : wpAny M A (newList vs) Q E s :=
  newList_K F N h hz
theorem mem_at {α : Type} {l : List α} {x : α} (i : Nat) (h : l[i]? = some x) : x ∈ l := List.mem_of_getElem? h
theorem mem_dr {α : Type} {l : List α} {x : α} (n : Nat) (h : x ∈ l.drop n) : x ∈ l := List.mem_of_mem_drop h
theorem ne_lt {a b : Nat} (h : a < b) : a ≠ b := Nat.ne_of_lt h
theorem ne_gt {a b : Nat} (h : b < a) : a ≠ b := Nat.ne_of_gt h
theorem room_e {x dp j k N R : Nat} (e : x = dp + j) (h : dp + N < R) (b : Nat.ble (j + k) N = true) : x + k < R := by
  have := Nat.le_of_ble_eq_true b; omega
theorem room_e0 {x dp j N R : Nat} (e : x = dp + j) (h : dp + N < R) (b : Nat.ble j N = true) : x < R := by
  have := Nat.le_of_ble_eq_true b; omega
theorem room_ei {x dp j i k N R : Nat} (e : x = dp + j) (h : dp + N < R) (b : Nat.ble (j + i + k) N = true) : x + i + k < R := by
  have := Nat.le_of_ble_eq_true b; omega
theorem room_d {dp k N R : Nat} (h : dp + N < R) (b : Nat.ble k N = true) : dp + k < R := by
  have := Nat.le_of_ble_eq_true b; omega
theorem room_d0 {dp N R : Nat} (h : dp + N < R) : dp < R := by omega
theorem room_di {dp i k N R : Nat} (h : dp + N < R) (b : Nat.ble (i + k) N = true) : dp + i + k < R := by
  have := Nat.le_of_ble_eq_true b; omega
theorem foldAu {M : Model} {dp un gd} {cn : Str} {cs : Scope} {L a : Addr} {ccd : Value} {cl : List (Str × Addr)} {outer : List Env} {C : Addr} {vals : List Value} {env : Env} {α : Type} {t : Sem α} {Q : α → Shared → Prop} {E : Value → Shared → Prop} {s : Shared}
    (h : let AA := ((ktrTop dp un gd cn cs L a ccd cl outer).under (.builtin "type.__call__" ⟨.ref C :: vals, []⟩)).deeper env; AA.depth = dp + 2 → AA.units = un + 4 → wpAny M AA t Q E s) : wpAny M (((ktrTop dp un gd cn cs L a ccd cl outer).under (.builtin "type.__call__" ⟨.ref C :: vals, []⟩)).deeper env) t Q E s := h rfl rfl
theorem wp_at_top {α : Type} {M : Model} {A : Around} {cn : Str} {cs : Scope} {L a : Addr} {ccd : Value} {cl : List (Str × Addr)} {outer : List Env} {t : Sem α} {Q : α → Shared → Prop} {E : Value → Shared → Prop} {s : Shared}
    (hA : A.frames = some (envX cn cs L a ccd cl :: outer)) (hh : A.handled = none) (h : wpAny M (ktrTop A.depth A.units A.guards cn cs L a ccd cl outer) t Q E s) : wpAny M A t Q E s := by
  refine cps ?_; intro Q9 hQ9; obtain ⟨hd, dp, fr, gd, un⟩ := A; refine hQ9 ?_; clear hQ9 Q9
  dsimp only at hA hh
  subst hA hh
  exact h
local macro_rules | `(tactic| walk_at "m9") => `(tactic| first | exact mem_at 0 rfl | exact mem_at 1 rfl | exact mem_at 2 rfl | exact mem_at 3 rfl | exact mem_at 4 rfl | exact mem_at 5 rfl | exact mem_at 6 rfl | exact mem_at 7 rfl | exact mem_at 8 rfl)
local macro_rules | `(tactic| ktr_rel) => `(tactic| first | exact List.mem_cons_self | ktr_member | walk_at "m9" | (refine mem_dr 9 ?_; walk_at "m9") | (refine mem_dr 18 ?_; walk_at "m9") | (rename (∀ q ∈ _, q ∈ _) => h9; refine h9 _ ?_; ktr_rel) | ((repeat (first | ktr_member | refine' List.mem_cons_of_mem _ ?_)); done))
local macro_rules | `(tactic| k_mem) => `(tactic| ktr_rel)
local macro_rules | `(tactic| k_room) => `(tactic| ktr_room)
local macro_rules | `(tactic| k_units) => `(tactic| ktr_units)
local macro_rules | `(tactic| k_enter) => `(tactic| (refine' code_def ?k1 ?k2 ?k3 ?k4 ?k5 ?kA ?kF ?kK ?k6 ?k7 ?k8 ?k9 ?kB ?_ ?c2 ?c3 ?c4 ?c5; (case kA => exact rfl); (case kF => exact rfl); (case kK => first | exact rfl | assumption); (case k1 => k_asm); (case k2 => k_asm); (case k3 => k_asm); (case k4 => k_asm); (case k5 => k_asm); (case k6 => k_is); (case k7 => k_is); (case k8 => k_room); (case k9 => first | exact BindsTo.of_eq rfl | exact binds_K (by k_in) rfl (by k_is) rfl rfl rfl); (case c5 => decide); (case kB => exact locs rfl); (case c2 => exact rfl); (case c3 => exact rfl); (case c4 => exact rfl); k_whole; intro g' L' h' FG' F' N' B' X' T'; (try k_lift B'); (refine foldM F' ?_; clear F'; intro m9 F'); (try first | (with_reducible refine foldA ?_; intro A9 d9 u9) | (with_reducible refine foldAu ?_; intro A9 d9 u9)); (try (refine foldE ?_; intro e9)); (try k_unmd); (try (refine foldQ ?_; intro qk ek)); (try dsimp only)))
local macro_rules | `(tactic| walk_at "rm") => `(tactic| first | (refine room_e (by with_reducible assumption) (by with_reducible assumption) ?_; exact rfl) | (refine room_e0 (by with_reducible assumption) (by with_reducible assumption) ?_; exact rfl) | (refine room_d (by with_reducible assumption) ?_; exact rfl) | exact room_d0 (by with_reducible assumption) | (refine room_ei (by with_reducible assumption) (by with_reducible assumption) ?_; exact rfl) | (refine room_di (by with_reducible assumption) ?_; exact rfl) | omega)
local macro_rules | `(tactic| ktr_units) => `(tactic| ((try simp only [units_under_make, units_in1, units_deeper, Around.mark_units]); (try dsimp only [ktrTop]); walk_at "rm"))
local macro_rules | `(tactic| ktr_room) => `(tactic| ((try simp only [depth_under_make, depth_under_kw, depth_in1, depth_deeper]); (try dsimp only [ktrTop]); walk_at "rm"))
local macro_rules | `(tactic| walk_at "c8") => `(tactic| (exact rfl; exact rfl; exact rfl; k_asm; k_asm; k_asm; k_asm; k_asm; (first | exact rfl | assumption)))
local macro_rules | `(tactic| k_lt $h:ident) => `(tactic| (replace $h := allLt_of $h; refine lx1 $h rfl ?_; clear $h; intro _ $h; (repeat (refine lx8 $h rfl ?_; clear $h; intro _ _ _ _ _ _ _ _ $h)); (repeat (refine lx3 $h rfl ?_; clear $h; intro _ _ _ $h)); (repeat (refine lx1 $h rfl ?_; clear $h; intro _ $h))))
local macro_rules | `(tactic| k_ne) => `(tactic| first | (refine ne_lt ?_; with_reducible assumption) | (refine ne_gt ?_; with_reducible assumption) | (refine neN ?_; (try dsimp only); omega))
local macro_rules | `(tactic| omega) => `(tactic| (k_whole; first | with_reducible assumption | decide | with_reducible apply nle1 | ((with_reducible apply zc1); (with_reducible assumption); decide) | ((with_reducible apply zc2); (with_reducible assumption); decide) | ((with_reducible apply zc3); (with_reducible assumption); decide) | ((with_reducible apply zc4); (with_reducible assumption); decide) | ((with_reducible apply zc5); (with_reducible assumption); decide) | ((with_reducible apply zc6); (with_reducible assumption); decide) | ((with_reducible apply zc7); (with_reducible assumption); decide) | ((with_reducible apply zc8); (with_reducible assumption); decide) | ((with_reducible apply nc1); (with_reducible assumption); decide) | ((with_reducible apply nc2); (with_reducible assumption); decide) | ((with_reducible apply nc3); (with_reducible assumption); decide) | ((with_reducible apply nc4); (with_reducible assumption); decide) | ((with_reducible apply nc5); (with_reducible assumption); decide) | ((with_reducible apply zd1); (with_reducible assumption); decide) | ((with_reducible apply zd2); (with_reducible assumption); decide) | ((with_reducible apply zd3); (with_reducible assumption); (with_reducible assumption); decide)))
section
variable {w : World} {p : Program} {loose : List Str} {mean : ExcName → Option Value} {mg mb : Str → Option Value}
  {dp un : Nat} {gd : Option (List Code)} {cn : Str} {cs : Scope} {a : Addr} {ccd : Value} {cl : List (Str × Addr)} {outer : List Env} {A₀ : Around} {base h₀ : Heap} {L : Addr} {m : Str → Option Value} {news : List (Addr × Obj)} {s : Shared} {Q E : Value → Shared → Prop}

set_option maxRecDepth 100000 in
set_option maxHeartbeats 4000000 in
theorem whole_c {v : Int} {t1 : Tok}
  {A : Around} {vs8 : List Value} (hv8 : vs8 = [.int v t1]) (hA : A.frames = some (envX cn cs L a ccd cl :: outer)) (hh : A.handled = none) (B : Below A₀ base outer h₀) (F : Fr h₀ L s.heap m) (X : (hd.heap_1 w.params).In h₀) (N : News h₀ L s.heap news) (T : Top p loose mean mg mb h₀) (hk : cs.kind = .function)
  (hd : A.depth + 2 < recursionLimit) (hu : A.units + 30 < cLine)
  (hret : ∀ (h' : Heap) (tk' : Nat), Fr h₀ L h' m → News h₀ L h' news → Q (.int v t1) { s with heap := h', toks := tk' }) :
  wpAny (model PP w) A (call (.ref 77) vs8) Q E s := by
  subst hv8
  refine wp_at_top hA hh ?_
  refine wpAny_call ?_
  k_dflt ((refine' code_def ?k1_q ?k2_q ?k3_q ?k4_q ?k5_q ?kA_q ?kF_q ?kK_q ?k6_q ?k7_q ?k8_q ?k9_q ?kB_q ?_ ?c2_q ?c3_q ?c4_q ?c5_q; (case kA_q => exact rfl); (case kF_q => exact rfl); (case kK_q => first | exact rfl | assumption); (case k1_q => k_asm); (case k2_q => k_asm); (case k3_q => k_asm); (case k4_q => k_asm); (case k5_q => k_asm); (case k6_q => k_is); (case k7_q => k_is); (case k8_q => k_room); (case k9_q => first | exact BindsTo.of_eq rfl | exact binds_K (by k_in) rfl (by k_is) rfl rfl rfl); (case c5_q => decide); (case kB_q => exact locs rfl); (case c2_q => exact rfl); (case c3_q => exact rfl); (case c4_q => exact rfl); k_whole; intro g' L' h' FG' F' N' B' X' T'; (try k_lift B'); (refine foldM F' ?_; clear F'; intro m9 F'); (try first | (with_reducible refine foldA ?_; intro A9 d9 u9) | (with_reducible refine foldAu ?_; intro A9 d9 u9)); (try (refine foldE ?_; intro e9)); (try k_unmd); (try (refine foldQ ?_; intro qk ek)); (try dsimp only)))
  (repeat' (first | ((with_reducible show wpAny _ _ (execs _ _) _ _ _); (fail_if_success (fail_if_success k_fold)); refine foldQ ?_; intro qk ek) | ((with_reducible show wpAny _ _ (exec _ _) _ _ _); (fail_if_success (fail_if_success k_fold)); refine foldQ ?_; intro qk ek; (try (refine foldN (by with_reducible assumption) ?_; intro n9 N9))) | ((with_reducible show wpAny _ _ (eval (Expr.Name _ _) _) _ _ _); first | (with_reducible (k_here; name_kind "globalImplicit"; k_dflt (first | (name_is_builtin; refine' nameX_B ?F_q ?X_q ?T_q ?e_q ?v_q ?n_q ?_ ?a_q ?b_q; (case F_q => k_asm); (case X_q => k_asm); (case T_q => k_asm); (case a_q => rfl); (case b_q => rfl); (case e_q => k_is); (case v_q => boot_fast); (case n_q => decide); k_whole) | (refine' nameX_K ?F_q ?X_q ?T_q ?e_q ?_ ?a_q ?b_q; (case F_q => k_asm); (case X_q => k_asm); (case T_q => k_asm); (case a_q => rfl); (case b_q => rfl); (case e_q => k_is); k_whole)))) | (with_reducible (k_here; name_kind "local"; k_dflt (refine' nameX_L ?F_q ?v_q ?_ ?a_q ?b_q; (case F_q => k_asm); (case a_q => rfl); (case b_q => rfl); (case v_q => rfl); k_whole)))) | (k_unfold; (try dsimp only)) | (k_end; wrow_close) | (walk1; (all_goals (try dsimp only))) | (dsimp only; walk1) | (leave1; try dsimp only)))
  rename Fr h₀ L _ m => FF; rename News h₀ L _ _ => NN
  exact hret _ _ FF NN
set_option maxRecDepth 100000 in
set_option maxHeartbeats 4000000 in
theorem iswT_c {v lo hi : Int} {t1 t2 t3 : Tok}
  {A : Around} {vs8 : List Value} (hv8 : vs8 = [.int v t1, .int lo t2, .int hi t3]) (hA : A.frames = some (envX cn cs L a ccd cl :: outer)) (hh : A.handled = none) (B : Below A₀ base outer h₀) (F : Fr h₀ L s.heap m) (X : (hd.heap_1 w.params).In h₀) (N : News h₀ L s.heap news) (T : Top p loose mean mg mb h₀) (hk : cs.kind = .function)
  (h1 : lo ≤ v) (h2 : v ≤ hi)
  (hd : A.depth + 2 < recursionLimit) (hu : A.units + 30 < cLine)
  (hret : ∀ (h' : Heap) (tk' : Nat), Fr h₀ L h' m → News h₀ L h' news → Q (.bool true) { s with heap := h', toks := tk' }) :
  wpAny (model PP w) A (call (.ref 70) vs8) Q E s := by
  subst hv8
  refine wp_at_top hA hh ?_
  refine wpAny_call ?_
  k_dflt ((refine' code_def ?k1_q ?k2_q ?k3_q ?k4_q ?k5_q ?kA_q ?kF_q ?kK_q ?k6_q ?k7_q ?k8_q ?k9_q ?kB_q ?_ ?c2_q ?c3_q ?c4_q ?c5_q; (case kA_q => exact rfl); (case kF_q => exact rfl); (case kK_q => first | exact rfl | assumption); (case k1_q => k_asm); (case k2_q => k_asm); (case k3_q => k_asm); (case k4_q => k_asm); (case k5_q => k_asm); (case k6_q => k_is); (case k7_q => k_is); (case k8_q => k_room); (case k9_q => first | exact BindsTo.of_eq rfl | exact binds_K (by k_in) rfl (by k_is) rfl rfl rfl); (case c5_q => decide); (case kB_q => exact locs rfl); (case c2_q => exact rfl); (case c3_q => exact rfl); (case c4_q => exact rfl); k_whole; intro g' L' h' FG' F' N' B' X' T'; (try k_lift B'); (refine foldM F' ?_; clear F'; intro m9 F'); (try first | (with_reducible refine foldA ?_; intro A9 d9 u9) | (with_reducible refine foldAu ?_; intro A9 d9 u9)); (try (refine foldE ?_; intro e9)); (try k_unmd); (try (refine foldQ ?_; intro qk ek)); (try dsimp only)))
  (repeat' (first | ((with_reducible show wpAny _ _ (execs _ _) _ _ _); (fail_if_success (fail_if_success k_fold)); refine foldQ ?_; intro qk ek) | ((with_reducible show wpAny _ _ (exec _ _) _ _ _); (fail_if_success (fail_if_success k_fold)); refine foldQ ?_; intro qk ek; (try (refine foldN (by with_reducible assumption) ?_; intro n9 N9))) | ((with_reducible show wpAny _ _ (eval (Expr.Name _ _) _) _ _ _); first | (with_reducible (k_here; name_kind "globalImplicit"; k_dflt (first | (name_is_builtin; refine' nameX_B ?F_q ?X_q ?T_q ?e_q ?v_q ?n_q ?_ ?a_q ?b_q; (case F_q => k_asm); (case X_q => k_asm); (case T_q => k_asm); (case a_q => rfl); (case b_q => rfl); (case e_q => k_is); (case v_q => boot_fast); (case n_q => decide); k_whole) | (refine' nameX_K ?F_q ?X_q ?T_q ?e_q ?_ ?a_q ?b_q; (case F_q => k_asm); (case X_q => k_asm); (case T_q => k_asm); (case a_q => rfl); (case b_q => rfl); (case e_q => k_is); k_whole)))) | (with_reducible (k_here; name_kind "local"; k_dflt (refine' nameX_L ?F_q ?v_q ?_ ?a_q ?b_q; (case F_q => k_asm); (case a_q => rfl); (case b_q => rfl); (case v_q => rfl); k_whole)))) | (k_unfold; (try dsimp only)) | (k_end; wrow_close) | (walk1; (all_goals (try dsimp only))) | (dsimp only; walk1) | (leave1; try dsimp only)))
  all_goals (rename Fr h₀ L _ m => FF; rename News h₀ L _ _ => NN; refine Eq.mpr (congrArg (fun b => Q (.bool b) _) ?_) (hret _ _ FF NN); first | rfl | exact decide_eq_true (by omega) | exact decide_eq_false (by omega))
set_option maxRecDepth 100000 in
set_option maxHeartbeats 4000000 in
theorem iswF_c {v lo hi : Int} {t1 t2 t3 : Tok}
  {A : Around} {vs8 : List Value} (hv8 : vs8 = [.int v t1, .int lo t2, .int hi t3]) (hA : A.frames = some (envX cn cs L a ccd cl :: outer)) (hh : A.handled = none) (B : Below A₀ base outer h₀) (F : Fr h₀ L s.heap m) (X : (hd.heap_1 w.params).In h₀) (N : News h₀ L s.heap news) (T : Top p loose mean mg mb h₀) (hk : cs.kind = .function)
  (h1 : v < lo ∨ hi < v)
  (hd : A.depth + 2 < recursionLimit) (hu : A.units + 30 < cLine)
  (hret : ∀ (h' : Heap) (tk' : Nat), Fr h₀ L h' m → News h₀ L h' news → Q (.bool false) { s with heap := h', toks := tk' }) :
  wpAny (model PP w) A (call (.ref 70) vs8) Q E s := by
  subst hv8
  refine wp_at_top hA hh ?_
  refine wpAny_call ?_
  k_dflt ((refine' code_def ?k1_q ?k2_q ?k3_q ?k4_q ?k5_q ?kA_q ?kF_q ?kK_q ?k6_q ?k7_q ?k8_q ?k9_q ?kB_q ?_ ?c2_q ?c3_q ?c4_q ?c5_q; (case kA_q => exact rfl); (case kF_q => exact rfl); (case kK_q => first | exact rfl | assumption); (case k1_q => k_asm); (case k2_q => k_asm); (case k3_q => k_asm); (case k4_q => k_asm); (case k5_q => k_asm); (case k6_q => k_is); (case k7_q => k_is); (case k8_q => k_room); (case k9_q => first | exact BindsTo.of_eq rfl | exact binds_K (by k_in) rfl (by k_is) rfl rfl rfl); (case c5_q => decide); (case kB_q => exact locs rfl); (case c2_q => exact rfl); (case c3_q => exact rfl); (case c4_q => exact rfl); k_whole; intro g' L' h' FG' F' N' B' X' T'; (try k_lift B'); (refine foldM F' ?_; clear F'; intro m9 F'); (try first | (with_reducible refine foldA ?_; intro A9 d9 u9) | (with_reducible refine foldAu ?_; intro A9 d9 u9)); (try (refine foldE ?_; intro e9)); (try k_unmd); (try (refine foldQ ?_; intro qk ek)); (try dsimp only)))
  (repeat' (first | ((with_reducible show wpAny _ _ (execs _ _) _ _ _); (fail_if_success (fail_if_success k_fold)); refine foldQ ?_; intro qk ek) | ((with_reducible show wpAny _ _ (exec _ _) _ _ _); (fail_if_success (fail_if_success k_fold)); refine foldQ ?_; intro qk ek; (try (refine foldN (by with_reducible assumption) ?_; intro n9 N9))) | ((with_reducible show wpAny _ _ (eval (Expr.Name _ _) _) _ _ _); first | (with_reducible (k_here; name_kind "globalImplicit"; k_dflt (first | (name_is_builtin; refine' nameX_B ?F_q ?X_q ?T_q ?e_q ?v_q ?n_q ?_ ?a_q ?b_q; (case F_q => k_asm); (case X_q => k_asm); (case T_q => k_asm); (case a_q => rfl); (case b_q => rfl); (case e_q => k_is); (case v_q => boot_fast); (case n_q => decide); k_whole) | (refine' nameX_K ?F_q ?X_q ?T_q ?e_q ?_ ?a_q ?b_q; (case F_q => k_asm); (case X_q => k_asm); (case T_q => k_asm); (case a_q => rfl); (case b_q => rfl); (case e_q => k_is); k_whole)))) | (with_reducible (k_here; name_kind "local"; k_dflt (refine' nameX_L ?F_q ?v_q ?_ ?a_q ?b_q; (case F_q => k_asm); (case a_q => rfl); (case b_q => rfl); (case v_q => rfl); k_whole)))) | (k_unfold; (try dsimp only)) | (k_end; wrow_close) | (walk1; (all_goals (try dsimp only))) | (dsimp only; walk1) | (leave1; try dsimp only)))
  all_goals (rename Fr h₀ L _ m => FF; rename News h₀ L _ _ => NN; refine Eq.mpr (congrArg (fun b => Q (.bool b) _) ?_) (hret _ _ FF NN); first | rfl | exact decide_eq_true (by omega) | exact decide_eq_false (by omega))
end

/-- the jar: its cells at c, where it reads, its salt -/
def JarIs (k : Nat) (c : Addr) (oj oc : Obj) : Prop :=
  ∃ (vs : List Value) (ns : List Int) (i salt : Int) (t1 t2 : Tok) (n1 n2 : Nat),
    oj = listOf #[.ref c, .int i t1, .int salt t2] n1 ∧ oc = listOf vs.toArray n2 ∧ IntsAre vs ns ∧ ns.length ≤ 60 ∧ (∀ x ∈ ns, 0 ≤ x) ∧
    0 ≤ i ∧ i ≤ (k : Int) ∧ 0 ≤ salt ∧ salt ≤ 10000000

theorem UpdF.has {d : Addr} {o : Obj} {l : List (Addr × Obj)} {g : Obj → List (Addr × Obj)} (U : UpdF d o l g) : (d, o) ∈ l := by
  refine cps ?_; intro Q9 hQ9; obtain ⟨pre, post, eq91, -, -, -⟩ := U.split; refine hQ9 ?_; clear hQ9 Q9; subst eq91
  simp
theorem UpdF.of_mem {d : Addr} {o : Obj} {l : List (Addr × Obj)} {g : Obj → List (Addr × Obj)} (U : UpdF d o l g) {o' : Obj} {q : Addr × Obj} (h : q ∈ g o') : q = (d, o') ∨ (q ∈ l ∧ q.1 ≠ d) := by
  refine cps ?_; intro Q9 hQ9; obtain ⟨pre, post, eq91, hg, a, b⟩ := U.split; refine hQ9 ?_; clear hQ9 Q9; subst eq91
  rw [hg] at h
  rcases List.mem_append.mp h with h | h
  · exact .inr ⟨List.mem_append_left _ h, a q h⟩
  · rcases List.mem_cons.mp h with rfl | h
    · exact .inl rfl
    · exact .inr ⟨List.mem_append_right _ (.tail _ h), b q h⟩

/-- two objects of a ledger changed, the rest as it was -/
theorem news_two {h₀ h' : Heap} {L j c : Addr} {oj oc oj' oc' : Obj} {news : List (Addr × Obj)} {f1 : Obj → List (Addr × Obj)} {f2 : Obj → Obj → List (Addr × Obj)}
    (U1 : UpdF j oj news f1) (U2 : ∀ o, UpdF c oc (f1 o) (f2 o)) (N : News h₀ L h' ((j, oj') :: (c, oc') :: news.filter fun p => p.1 != j && p.1 != c)) : News h₀ L h' (f2 oj' oc') := by
  intro q hq
  rcases UpdF.of_mem (U2 oj') hq with rfl | ⟨hq, hc⟩
  · exact N _ (.tail _ (.head _))
  · rcases UpdF.of_mem U1 hq with rfl | ⟨hq, hj⟩
    · exact N _ (.head _)
    · refine N _ (.tail _ (.tail _ (List.mem_filter.mpr ⟨hq, ?_⟩)))
      simp [hj, hc]

theorem getD_nonneg {ns : List Int} (hns : ∀ x ∈ ns, 0 ≤ x) (i : Nat) : 0 ≤ ns.getD i 0 := by
  rw [List.getD_eq_getElem?_getD]
  cases h : ns[i]? with
  | none => simp
  | some v => exact hns v (List.mem_of_getElem? h)
theorem fmod_in {a b : Int} (h : 0 < b) : 0 ≤ a.fmod b ∧ a.fmod b < b := ⟨fmod_lo a h, fmod_hi a h⟩

section
variable {w : World} {p : Program} {loose : List Str} {mean : ExcName → Option Value} {mg mb : Str → Option Value}
  {dp un : Nat} {gd : Option (List Code)} {cn : Str} {cs : Scope} {a : Addr} {ccd : Value} {cl : List (Str × Addr)} {outer : List Env} {A₀ : Around} {base h₀ : Heap} {L : Addr} {m : Str → Option Value} {news : List (Addr × Obj)} {s : Shared} {Q E : Value → Shared → Prop}

theorem jar_of {k : Nat} {c : Addr} {vs : List Value} {ns : List Int} {i salt : Int} {t1 t2 : Tok} {n1 n2 : Nat} (hi : IntsAre vs ns) (hl : ns.length ≤ 60) (hns : ∀ x ∈ ns, 0 ≤ x) (h0 : 0 ≤ i) (h1 : i ≤ (k : Int)) (hs0 : 0 ≤ salt) (hs1 : salt ≤ 10000000) :
    JarIs k c (listOf #[.ref c, .int i t1, .int salt t2] n1) (listOf vs.toArray n2) := ⟨vs, ns, i, salt, t1, t2, n1, n2, rfl, rfl, hi, hl, hns, h0, h1, hs0, hs1⟩

theorem set_nonneg {ns : List Int} (hns : ∀ x ∈ ns, 0 ≤ x) {i : Nat} {v : Int} (hv : 0 ≤ v) : ∀ x ∈ ns.set i v, 0 ≤ x := fun x hx => by
  rcases List.mem_or_eq_of_mem_set hx with h | rfl
  · exact hns x h
  · exact hv

section
local macro_rules | `(tactic| k_all) => `(tactic| assumption)
set_option maxRecDepth 100000 in
set_option maxHeartbeats 4000000 in
theorem take0 {k : Nat} {j c : Addr} {vs : List Value} {ns : List Int} {i salt many : Int} {t1 t2 t3 : Tok} {n1 n2 : Nat}
  (B : Below A₀ base outer h₀) (F : Fr h₀ L s.heap m) (X : (hd.heap_1 w.params).In h₀)
  (N : News h₀ L s.heap ((j, listOf #[.ref c, .int i t1, .int salt t2] n1) :: (c, listOf vs.toArray n2) :: news))
  (T : Top p loose mean mg mb h₀) (hk : cs.kind = .function)
  (hcj : @LT.lt Nat _ c j) (hnj : ∀ p ∈ news, p.1 ≠ j) (hnc : ∀ p ∈ news, p.1 ≠ c)
  (hi : IntsAre vs ns) (hl : ns.length ≤ 60) (hns : ∀ x ∈ ns, 0 ≤ x) (h0 : 0 ≤ i) (h1 : i ≤ (k : Int)) (hk1 : k ≤ 1000) (hs0 : 0 ≤ salt) (hs1 : salt ≤ 10000000) (hm0 : 0 < many) (hm1 : many ≤ 1000)
  (hd : dp + 1 < recursionLimit) (hu : un + 8 < cLine)
  (hret : ∀ (v : Int) (t : Tok) (oj oc : Obj) (h' : Heap) (tk' : Nat), Fr h₀ L h' m → News h₀ L h' ((j, oj) :: (c, oc) :: news) → 0 ≤ v → v < many → JarIs (k + 1) c oj oc → Q (.int v t) { s with heap := h', toks := tk' }) :
  wpAny (model PP w) (ktrTop dp un gd cn cs L a ccd cl outer) (call (.ref 287) [.ref j, .int many t3]) Q E s := by
  refine wpAny_call ?_
  k_dflt ((refine' code_def ?k1_q ?k2_q ?k3_q ?k4_q ?k5_q ?kA_q ?kF_q ?kK_q ?k6_q ?k7_q ?k8_q ?k9_q ?kB_q ?_ ?c2_q ?c3_q ?c4_q ?c5_q; (case kA_q => exact rfl); (case kF_q => exact rfl); (case kK_q => first | exact rfl | assumption); (case k1_q => k_asm); (case k2_q => k_asm); (case k3_q => k_asm); (case k4_q => k_asm); (case k5_q => k_asm); (case k6_q => k_is); (case k7_q => k_is); (case k8_q => k_room); (case k9_q => first | exact BindsTo.of_eq rfl | exact binds_K (by k_in) rfl (by k_is) rfl rfl rfl); (case c5_q => decide); (case kB_q => exact locs rfl); (case c2_q => exact rfl); (case c3_q => exact rfl); (case c4_q => exact rfl); k_whole; intro g' L' h' FG' F' N' B' X' T'; (try k_lift B'); (refine foldM F' ?_; clear F'; intro m9 F'); (try first | (with_reducible refine foldA ?_; intro A9 d9 u9) | (with_reducible refine foldAu ?_; intro A9 d9 u9)); (try (refine foldE ?_; intro e9)); (try k_unmd); (try (refine foldQ ?_; intro qk ek)); (try dsimp only)))
  (repeat' (first | ((with_reducible show wpAny _ _ (execs _ _) _ _ _); (fail_if_success (fail_if_success k_fold)); refine foldQ ?_; intro qk ek) | ((with_reducible show wpAny _ _ (exec _ _) _ _ _); (fail_if_success (fail_if_success k_fold)); refine foldQ ?_; intro qk ek; (try (refine foldN (by with_reducible assumption) ?_; intro n9 N9))) | ((with_reducible show wpAny _ _ (newTuple _) _ _ _); first | (with_reducible (k_here; k_dflt (refine' newTuple_V ?F_q ?N_q ?_ ?z_q; (case F_q => k_asm); (case N_q => k_asm); (case z_q => kmk_size)); intro D' h' o' n' F' N' l1; (try k_lt l1); (try k_sweep)))) | ((with_reducible show wpAny _ _ (storeName _ _ _) _ _ _); first | (with_reducible (k_here; k_dflt (refine' storeX_V ?F_q ?N_q ?_ ?a_q ?b_q; (case F_q => k_asm); (case N_q => k_asm); (case a_q => rfl); (case b_q => rfl); k_whole; intro h' tk' m' F' N'; (try k_sweep))))) | ((with_reducible show wpAny _ _ (eval (Expr.Name _ _) _) _ _ _); first | (with_reducible (k_here; name_kind "globalImplicit"; k_dflt (first | (name_is_builtin; refine' nameX_B ?F_q ?X_q ?T_q ?e_q ?v_q ?n_q ?_ ?a_q ?b_q; (case F_q => k_asm); (case X_q => k_asm); (case T_q => k_asm); (case a_q => rfl); (case b_q => rfl); (case e_q => k_is); (case v_q => boot_fast); (case n_q => decide); k_whole) | (refine' nameX_K ?F_q ?X_q ?T_q ?e_q ?_ ?a_q ?b_q; (case F_q => k_asm); (case X_q => k_asm); (case T_q => k_asm); (case a_q => rfl); (case b_q => rfl); (case e_q => k_is); k_whole)))) | (with_reducible (k_here; name_kind "local"; k_dflt (refine' nameX_L ?F_q ?v_q ?_ ?a_q ?b_q; (case F_q => k_asm); (case a_q => rfl); (case b_q => rfl); (case v_q => rfl); k_whole)))) | (k_unfold; (try dsimp only)) | (k_end; wrow_close) | (walk1; (all_goals (try dsimp only))) | (dsimp only; walk1) | (leave1; try dsimp only)))
  all_goals (rename Fr h₀ L _ m => FF; rename News h₀ L _ _ => NN; have hb1 := fmod_in (a := (salt + i * (5 * i + 7)).fmod 1009) hm0; have hb2 := fmod_in (a := ns.getD i.toNat 0) hm0)
  · refine hret _ _ _ _ _ _ FF (fun q hq => NN q (.tail _ hq)) hb2.1 hb2.2 (jar_of (by assumption) ?_ (set_nonneg hns ?_) h0 (by omega) hs0 hs1)
    · rw [List.length_set]; exact hl
    · exact Int.fdiv_nonneg (getD_nonneg hns _) (by omega)
  · exact hret _ _ _ _ _ _ FF (fun q hq => NN q (.tail _ hq)) hb2.1 hb2.2 (jar_of hi hl hns (by omega) (by omega) hs0 hs1)
  · exact hret _ _ _ _ _ _ FF (fun q hq => NN q (.tail _ hq)) hb1.1 hb1.2 (jar_of hi hl hns (by omega) (by omega) hs0 hs1)
end

theorem take_c {k : Nat} {j c : Addr} {oj oc : Obj} {many : Int} {t3 : Tok} {f1 : Obj → List (Addr × Obj)} {f2 : Obj → Obj → List (Addr × Obj)}
  {A : Around} {vs8 : List Value} (hv8 : vs8 = [.ref j, .int many t3]) (hA : A.frames = some (envX cn cs L a ccd cl :: outer)) (hh : A.handled = none) (B : Below A₀ base outer h₀) (F : Fr h₀ L s.heap m) (X : (hd.heap_1 w.params).In h₀) (N : News h₀ L s.heap news) (T : Top p loose mean mg mb h₀) (hk : cs.kind = .function)
  (J : JarIs k c oj oc) (hcj : @LT.lt Nat _ c j) (U1 : UpdF j oj news f1) (U2 : ∀ o, UpdF c oc (f1 o) (f2 o)) (hk1 : k ≤ 1000) (hm0 : 0 < many) (hm1 : many ≤ 1000)
  (hd : A.depth + 1 < recursionLimit) (hu : A.units + 8 < cLine)
  (hret : ∀ (v : Int) (t : Tok) (oj oc : Obj) (h' : Heap) (tk' : Nat), Fr h₀ L h' m → News h₀ L h' (f2 oj oc) → 0 ≤ v → v < many → JarIs (k + 1) c oj oc → Q (.int v t) { s with heap := h', toks := tk' }) :
  wpAny (model PP w) A (call (.ref 287) vs8) Q E s := by
  subst hv8
  refine wp_at_top hA hh ?_
  refine cps ?_; intro Q9 hQ9; obtain ⟨vs, ns, i, salt, t1, t2, n1, n2, eq91, eq92, hi, hl, hns, h0, h1, hs0, hs1⟩ := J; refine hQ9 ?_; clear hQ9 Q9; subst eq91; subst eq92
  have hj := UpdF.has U1
  have hc : (c, listOf vs.toArray n2) ∈ news := by
    rcases UpdF.of_mem U1 (UpdF.has (U2 (listOf #[] 0))) with e | ⟨e, -⟩
    · exact absurd (congrArg Prod.fst e) (Nat.ne_of_lt hcj)
    · exact e
  refine take0 (news := news.filter fun p => p.1 != j && p.1 != c) (t1 := t1) (t2 := t2) (n1 := n1) (n2 := n2) B F X ?_ T hk hcj ?_ ?_ hi hl hns h0 h1 hk1 hs0 hs1 hm0 hm1 hd hu fun v t oj oc h' tk' F' N' v0 v1 J' => hret v t oj oc h' tk' F' (news_two U1 U2 N') v0 v1 J'
  · intro q hq
    rcases List.mem_cons.mp hq with rfl | hq
    · exact N _ hj
    · rcases List.mem_cons.mp hq with rfl | hq
      · exact N _ hc
      · exact N _ (List.mem_filter.mp hq).1
  · intro q hq
    have := (List.mem_filter.mp hq).2
    simp at this
    exact this.1
  · intro q hq
    have := (List.mem_filter.mp hq).2
    simp at this
    exact this.2
end
theorem led_two {h₀ h : Heap} {L j c : Addr} {oj oc : Obj} {news : List (Addr × Obj)} {f1 : Obj → List (Addr × Obj)} {f2 : Obj → Obj → List (Addr × Obj)}
    (U1 : UpdF j oj news f1) (U2 : ∀ o, UpdF c oc (f1 o) (f2 o)) (N : News h₀ L h news) (hcj : @LT.lt Nat _ c j) :
    News h₀ L h ((j, oj) :: (c, oc) :: news.filter fun p => p.1 != j && p.1 != c) ∧ (∀ p ∈ (news.filter fun p => p.1 != j && p.1 != c), p.1 ≠ j) ∧ ∀ p ∈ (news.filter fun p => p.1 != j && p.1 != c), p.1 ≠ c := by
  have hj := UpdF.has U1
  have hc : (c, oc) ∈ news := by
    rcases UpdF.of_mem U1 (UpdF.has (U2 (listOf #[] 0))) with e | ⟨e, -⟩
    · exact absurd (congrArg Prod.fst e) (Nat.ne_of_lt hcj)
    · exact e
  refine ⟨?_, ?_, ?_⟩
  · intro q hq
    rcases List.mem_cons.mp hq with rfl | hq
    · exact N _ hj
    · rcases List.mem_cons.mp hq with rfl | hq
      · exact N _ hc
      · exact N _ (List.mem_filter.mp hq).1
  · intro q hq
    have := (List.mem_filter.mp hq).2
    simp at this
    exact this.1
  · intro q hq
    have := (List.mem_filter.mp hq).2
    simp at this
    exact this.2
/-- the same with one object more in front -/
theorem news_two1 {h₀ h' : Heap} {L j c r : Addr} {oj oc oj' oc' o : Obj} {news : List (Addr × Obj)} {f1 : Obj → List (Addr × Obj)} {f2 : Obj → Obj → List (Addr × Obj)}
    (U1 : UpdF j oj news f1) (U2 : ∀ o, UpdF c oc (f1 o) (f2 o)) (N : News h₀ L h' ((r, o) :: (j, oj') :: (c, oc') :: news.filter fun p => p.1 != j && p.1 != c)) : News h₀ L h' ((r, o) :: f2 oj' oc') := by
  intro q hq
  rcases List.mem_cons.mp hq with rfl | hq
  · exact N _ (.head _)
  · exact news_two U1 U2 (fun q hq => N q (.tail _ hq)) q hq
theorem lt_two {j c r : Addr} {oj oc oj' oc' : Obj} {news : List (Addr × Obj)} {f1 : Obj → List (Addr × Obj)} {f2 : Obj → Obj → List (Addr × Obj)}
    (U1 : UpdF j oj news f1) (U2 : ∀ o, UpdF c oc (f1 o) (f2 o)) (h : ∀ p ∈ ((j, oj') :: (c, oc') :: news.filter fun p => p.1 != j && p.1 != c), p.1 < r) : ∀ p ∈ f2 oj' oc', p.1 < r := by
  intro q hq
  rcases UpdF.of_mem (U2 oj') hq with rfl | ⟨hq, hc⟩
  · exact h _ (.tail _ (.head _))
  · rcases UpdF.of_mem U1 hq with rfl | ⟨hq, hj⟩
    · exact h _ (.head _)
    · refine h _ (.tail _ (.tail _ (List.mem_filter.mpr ⟨hq, ?_⟩)))
      simp [hj, hc]

/-- a glue's five numbers -/
structure G5 where
  w : Int
  u : Int
  uo : Int
  d : Int
  od : Int
abbrev MX : Int := 1073741823
def G5.Ok (g : G5) : Prop := -MX ≤ g.w ∧ g.w ≤ MX ∧ -MX ≤ g.u ∧ g.u ≤ MX ∧ 0 ≤ g.uo ∧ g.uo ≤ 3 ∧ -MX ≤ g.d ∧ g.d ≤ MX ∧ 0 ≤ g.od ∧ g.od ≤ 3
def G5.norm (g : G5) : G5 := ⟨g.w, g.u, if g.u = 0 then 0 else g.uo, g.d, if g.d = 0 then 0 else g.od⟩
def LstG (o : Obj) (g : G5) : Prop := ∃ t1 t2 t3 t4 t5 n, o = listOf #[.int g.w t1, .int g.u t2, .int g.uo t3, .int g.d t4, .int g.od t5] n
def TupG (o : Obj) (g : G5) : Prop := ∃ t1 t2 t3 t4 t5, o = ({ cls := .type "tuple", data := .seq #[.int g.w t1, .int g.u t2, .int g.uo t3, .int g.d t4, .int g.od t5] } : Obj)

theorem LstG.elim {o : Obj} {g : G5} {T : Prop} (h : LstG o g) (k : ∀ (t1 t2 t3 t4 t5 : Tok) (n : Nat), o = listOf #[.int g.w t1, .int g.u t2, .int g.uo t3, .int g.d t4, .int g.od t5] n → T) : T := let ⟨t1, t2, t3, t4, t5, n, e⟩ := h; k t1 t2 t3 t4 t5 n e
theorem TupG.elim {o : Obj} {g : G5} {T : Prop} (h : TupG o g) (k : ∀ (t1 t2 t3 t4 t5 : Tok), o = ({ cls := .type "tuple", data := .seq #[.int g.w t1, .int g.u t2, .int g.uo t3, .int g.d t4, .int g.od t5] } : Obj) → T) : T := let ⟨t1, t2, t3, t4, t5, e⟩ := h; k t1 t2 t3 t4 t5 e
theorem size_val {i v : Int} (h0 : 0 ≤ i) (h1 : i < 6) (hv0 : 0 ≤ v) (hv1 : v < 50) :
    -MX ≤ [0, v, -v, 65536 * v + 7, 2 ^ Int.toNat 30 - 1 - v.fmod 3, v.fmod 3 + 1 - 2 ^ Int.toNat 30].getD i.toNat 0 ∧ [0, v, -v, 65536 * v + 7, 2 ^ Int.toNat 30 - 1 - v.fmod 3, v.fmod 3 + 1 - 2 ^ Int.toNat 30].getD i.toNat 0 ≤ MX := by
  have hf := fmod_in (a := v) (b := 3) (by decide)
  have hp : (2 : Int) ^ Int.toNat 30 = 1073741824 := by decide
  rw [hp]
  have : i = 0 ∨ i = 1 ∨ i = 2 ∨ i = 3 ∨ i = 4 ∨ i = 5 := by omega
  rcases this with rfl | rfl | rfl | rfl | rfl | rfl <;> simp [MX] <;> omega

section
variable {w : World} {p : Program} {loose : List Str} {mean : ExcName → Option Value} {mg mb : Str → Option Value}
  {dp un : Nat} {gd : Option (List Code)} {cn : Str} {cs : Scope} {a : Addr} {ccd : Value} {cl : List (Str × Addr)} {outer : List Env} {A₀ : Around} {base h₀ : Heap} {L : Addr} {m : Str → Option Value} {news : List (Addr × Obj)} {s : Shared} {Q E : Value → Shared → Prop}

section
local macro_rules | `(tactic| k_all) => `(tactic| assumption)
set_option maxRecDepth 100000 in
set_option maxHeartbeats 4000000 in
theorem size0 {k : Nat} {j c : Addr} {oj oc : Obj}
  (B : Below A₀ base outer h₀) (F : Fr h₀ L s.heap m) (X : (hd.heap_1 w.params).In h₀)
  (N : News h₀ L s.heap ((j, oj) :: (c, oc) :: news))
  (T : Top p loose mean mg mb h₀) (hk : cs.kind = .function) (J : JarIs k c oj oc)
  (hcj : @LT.lt Nat _ c j) (hnj : ∀ p ∈ news, p.1 ≠ j) (hnc : ∀ p ∈ news, p.1 ≠ c) (hk1 : k ≤ 900)
  (hd : dp + 2 < recursionLimit) (hu : un + 20 < cLine)
  (hret : ∀ (v : Int) (t : Tok) (oj oc : Obj) (h' : Heap) (tk' : Nat), Fr h₀ L h' m → News h₀ L h' ((j, oj) :: (c, oc) :: news) → -MX ≤ v → v ≤ MX → JarIs (k + 2) c oj oc → Q (.int v t) { s with heap := h', toks := tk' }) :
  wpAny (model PP w) (ktrTop dp un gd cn cs L a ccd cl outer) (call (.ref 294) [.ref j]) Q E s := by
  refine wpAny_call ?_
  k_dflt ((refine' code_def ?k1_q ?k2_q ?k3_q ?k4_q ?k5_q ?kA_q ?kF_q ?kK_q ?k6_q ?k7_q ?k8_q ?k9_q ?kB_q ?_ ?c2_q ?c3_q ?c4_q ?c5_q; (case kA_q => exact rfl); (case kF_q => exact rfl); (case kK_q => first | exact rfl | assumption); (case k1_q => k_asm); (case k2_q => k_asm); (case k3_q => k_asm); (case k4_q => k_asm); (case k5_q => k_asm); (case k6_q => k_is); (case k7_q => k_is); (case k8_q => k_room); (case k9_q => first | exact BindsTo.of_eq rfl | exact binds_K (by k_in) rfl (by k_is) rfl rfl rfl); (case c5_q => decide); (case kB_q => exact locs rfl); (case c2_q => exact rfl); (case c3_q => exact rfl); (case c4_q => exact rfl); k_whole; intro g' L' h' FG' F' N' B' X' T'; (try k_lift B'); (refine foldM F' ?_; clear F'; intro m9 F'); (try first | (with_reducible refine foldA ?_; intro A9 d9 u9) | (with_reducible refine foldAu ?_; intro A9 d9 u9)); (try (refine foldE ?_; intro e9)); (try k_unmd); (try (refine foldQ ?_; intro qk ek)); (try dsimp only)))
  (repeat' (first | ((with_reducible show wpAny _ _ (execs _ _) _ _ _); (fail_if_success (fail_if_success k_fold)); refine foldQ ?_; intro qk ek) | ((with_reducible show wpAny _ _ (exec _ _) _ _ _); (fail_if_success (fail_if_success k_fold)); refine foldQ ?_; intro qk ek; (try (refine foldN (by with_reducible assumption) ?_; intro n9 N9))) | ((with_reducible show wpAny _ _ (call (Value.ref _) _) _ _ _); first | (with_reducible (k_here; (with_reducible apply take_c); k_dflt (walk_at "c8"; (with_reducible assumption); (with_reducible assumption); k_updF; (intro o'; k_updF); omega; decide; decide; ktr_room; ktr_units; k_whole); intro v' t' oj' oc' h' tk' F' N' v0' v1' J'; (try dsimp only at N'); (try k_sweep); (try k_fold)))) | ((with_reducible show wpAny _ _ (newList _) _ _ _); first | (with_reducible (k_here; k_dflt (refine' newList_V ?F_q ?N_q ?_ ?z_q; (case F_q => k_asm); (case N_q => k_asm); (case z_q => size_fits)); intro D' h' o' n' F' N' l1; (try k_lt l1); (try k_sweep)))) | ((with_reducible show wpAny _ _ (newTuple _) _ _ _); first | (with_reducible (k_here; k_dflt (refine' newTuple_V ?F_q ?N_q ?_ ?z_q; (case F_q => k_asm); (case N_q => k_asm); (case z_q => kmk_size)); intro D' h' o' n' F' N' l1; (try k_lt l1); (try k_sweep)))) | ((with_reducible show wpAny _ _ (storeName _ _ _) _ _ _); first | (with_reducible (k_here; k_dflt (refine' storeX_V ?F_q ?N_q ?_ ?a_q ?b_q; (case F_q => k_asm); (case N_q => k_asm); (case a_q => rfl); (case b_q => rfl); k_whole; intro h' tk' m' F' N'; (try k_sweep))))) | ((with_reducible show wpAny _ _ (eval (Expr.Name _ _) _) _ _ _); first | (with_reducible (k_here; name_kind "globalImplicit"; k_dflt (first | (name_is_builtin; refine' nameX_B ?F_q ?X_q ?T_q ?e_q ?v_q ?n_q ?_ ?a_q ?b_q; (case F_q => k_asm); (case X_q => k_asm); (case T_q => k_asm); (case a_q => rfl); (case b_q => rfl); (case e_q => k_is); (case v_q => boot_fast); (case n_q => decide); k_whole) | (refine' nameX_K ?F_q ?X_q ?T_q ?e_q ?_ ?a_q ?b_q; (case F_q => k_asm); (case X_q => k_asm); (case T_q => k_asm); (case a_q => rfl); (case b_q => rfl); (case e_q => k_is); k_whole)))) | (with_reducible (k_here; name_kind "local"; k_dflt (refine' nameX_L ?F_q ?v_q ?_ ?a_q ?b_q; (case F_q => k_asm); (case a_q => rfl); (case b_q => rfl); (case v_q => rfl); k_whole)))) | (k_unfold; (try dsimp only)) | (k_end; wrow_close) | (walk1; (all_goals (try dsimp only))) | (dsimp only; walk1) | (leave1; try dsimp only)))
  all_goals (rename Fr h₀ L _ m => FF; rename News h₀ L _ _ => NN; rename JarIs (k + 1 + 1) c _ _ => JJ)
  refine hret _ _ _ _ _ _ FF (fun q hq => NN q (.tail _ (.tail _ hq))) ?_ ?_ JJ
  · exact (size_val (by assumption) (by assumption) (by assumption) (by assumption)).1
  · exact (size_val (by assumption) (by assumption) (by assumption) (by assumption)).2
end

theorem size_c {k : Nat} {j c : Addr} {oj oc : Obj} {f1 : Obj → List (Addr × Obj)} {f2 : Obj → Obj → List (Addr × Obj)}
  {A : Around} {vs8 : List Value} (hv8 : vs8 = [.ref j]) (hA : A.frames = some (envX cn cs L a ccd cl :: outer)) (hh : A.handled = none) (B : Below A₀ base outer h₀) (F : Fr h₀ L s.heap m) (X : (hd.heap_1 w.params).In h₀) (N : News h₀ L s.heap news) (T : Top p loose mean mg mb h₀) (hk : cs.kind = .function)
  (J : JarIs k c oj oc) (hcj : @LT.lt Nat _ c j) (U1 : UpdF j oj news f1) (U2 : ∀ o, UpdF c oc (f1 o) (f2 o)) (hk1 : k ≤ 900)
  (hd : A.depth + 2 < recursionLimit) (hu : A.units + 20 < cLine)
  (hret : ∀ (v : Int) (t : Tok) (oj oc : Obj) (h' : Heap) (tk' : Nat), Fr h₀ L h' m → News h₀ L h' (f2 oj oc) → -MX ≤ v → v ≤ MX → JarIs (k + 2) c oj oc → Q (.int v t) { s with heap := h', toks := tk' }) :
  wpAny (model PP w) A (call (.ref 294) vs8) Q E s := by
  subst hv8
  refine wp_at_top hA hh ?_
  refine cps ?_; intro Q9 hQ9; obtain ⟨n1, n2, n3⟩ := led_two U1 U2 N hcj; refine hQ9 ?_; clear hQ9 Q9
  exact size0 B F X n1 T hk J hcj n2 n3 hk1 hd hu fun v t oj oc h' tk' F' N' v0 v1 J' => hret v t oj oc h' tk' F' (news_two U1 U2 N') v0 v1 J'
end
theorem news_skip {h₀ h : Heap} {L : Addr} {a b : Addr × Obj} {l : List (Addr × Obj)} (N : News h₀ L h (a :: b :: l)) : News h₀ L h (a :: l) := fun q hq => by
  rcases List.mem_cons.mp hq with rfl | hq
  · exact N _ (.head _)
  · exact N _ (.tail _ (.tail _ hq))
theorem news_tail {h₀ h : Heap} {L : Addr} {a : Addr × Obj} {l : List (Addr × Obj)} (N : News h₀ L h (a :: l)) : News h₀ L h l := fun q hq => N _ (.tail _ hq)
theorem lst_mk {w u uo d od : Int} {t1 t2 t3 t4 t5 : Tok} {n : Nat} : LstG (listOf #[.int w t1, .int u t2, .int uo t3, .int d t4, .int od t5] n) ⟨w, u, uo, d, od⟩ := ⟨t1, t2, t3, t4, t5, n, rfl⟩
theorem tup_mk {w u uo d od : Int} {t1 t2 t3 t4 t5 : Tok} : TupG ({ cls := .type "tuple", data := .seq #[.int w t1, .int u t2, .int uo t3, .int d t4, .int od t5] } : Obj) ⟨w, u, uo, d, od⟩ := ⟨t1, t2, t3, t4, t5, rfl⟩
theorem tup_open {P : Prop} {h₀ h : Heap} {L r : Addr} {o : Obj} {g : G5} {news : List (Addr × Obj)} (G : TupG o g) (N : News h₀ L h ((r, o) :: news))
    (H : ∀ t1 t2 t3 t4 t5 : Tok, let o' := ({ cls := .type "tuple", data := .seq #[.int g.w t1, .int g.u t2, .int g.uo t3, .int g.d t4, .int g.od t5] } : Obj); let n' := (r, o') :: news; TupG o' g → News h₀ L h n' → P) : P := by
  refine TupG.elim G ?_; intro t1 t2 t3 t4 t5 eq91; subst eq91
  exact H t1 t2 t3 t4 t5 ⟨t1, t2, t3, t4, t5, rfl⟩ N
section
variable {w : World} {p : Program} {loose : List Str} {mean : ExcName → Option Value} {mg mb : Str → Option Value}
  {dp un : Nat} {gd : Option (List Code)} {cn : Str} {cs : Scope} {a : Addr} {ccd : Value} {cl : List (Str × Addr)} {outer : List Env} {A₀ : Around} {base h₀ : Heap} {L : Addr} {m : Str → Option Value} {news : List (Addr × Obj)} {s : Shared} {Q E : Value → Shared → Prop}

section
local macro_rules | `(tactic| k_all) => `(tactic| assumption)
set_option maxRecDepth 100000 in
set_option maxHeartbeats 4000000 in
theorem five0 {k : Nat} {j c : Addr} {oj oc : Obj}
  (B : Below A₀ base outer h₀) (F : Fr h₀ L s.heap m) (X : (hd.heap_1 w.params).In h₀)
  (N : News h₀ L s.heap ((j, oj) :: (c, oc) :: news))
  (T : Top p loose mean mg mb h₀) (hk : cs.kind = .function) (J : JarIs k c oj oc)
  (hcj : @LT.lt Nat _ c j) (hnj : ∀ p ∈ news, p.1 ≠ j) (hnc : ∀ p ∈ news, p.1 ≠ c) (hk1 : k ≤ 800)
  (hd : dp + 3 < recursionLimit) (hu : un + 30 < cLine)
  (hret : ∀ (r : Addr) (o : Obj) (g : G5) (oj oc : Obj) (h' : Heap) (tk' : Nat), Fr h₀ L h' m → News h₀ L h' ((r, o) :: (j, oj) :: (c, oc) :: news) → (∀ p ∈ (j, oj) :: (c, oc) :: news, p.1 < r) → LstG o g → g.Ok → JarIs (k + 8) c oj oc → Q (.ref r) { s with heap := h', toks := tk' }) :
  wpAny (model PP w) (ktrTop dp un gd cn cs L a ccd cl outer) (call (.ref 301) [.ref j]) Q E s := by
  refine wpAny_call ?_
  k_dflt ((refine' code_def ?k1_q ?k2_q ?k3_q ?k4_q ?k5_q ?kA_q ?kF_q ?kK_q ?k6_q ?k7_q ?k8_q ?k9_q ?kB_q ?_ ?c2_q ?c3_q ?c4_q ?c5_q; (case kA_q => exact rfl); (case kF_q => exact rfl); (case kK_q => first | exact rfl | assumption); (case k1_q => k_asm); (case k2_q => k_asm); (case k3_q => k_asm); (case k4_q => k_asm); (case k5_q => k_asm); (case k6_q => k_is); (case k7_q => k_is); (case k8_q => k_room); (case k9_q => first | exact BindsTo.of_eq rfl | exact binds_K (by k_in) rfl (by k_is) rfl rfl rfl); (case c5_q => decide); (case kB_q => exact locs rfl); (case c2_q => exact rfl); (case c3_q => exact rfl); (case c4_q => exact rfl); k_whole; intro g' L' h' FG' F' N' B' X' T'; (try k_lift B'); (refine foldM F' ?_; clear F'; intro m9 F'); (try first | (with_reducible refine foldA ?_; intro A9 d9 u9) | (with_reducible refine foldAu ?_; intro A9 d9 u9)); (try (refine foldE ?_; intro e9)); (try k_unmd); (try (refine foldQ ?_; intro qk ek)); (try dsimp only)))
  (repeat' (first | ((with_reducible show wpAny _ _ (execs _ _) _ _ _); (fail_if_success (fail_if_success k_fold)); refine foldQ ?_; intro qk ek) | ((with_reducible show wpAny _ _ (exec _ _) _ _ _); (fail_if_success (fail_if_success k_fold)); refine foldQ ?_; intro qk ek; (try (refine foldN (by with_reducible assumption) ?_; intro n9 N9))) | ((with_reducible show wpAny _ _ (call (Value.ref _) _) _ _ _); first | (with_reducible (k_here; (with_reducible apply size_c); k_dflt (walk_at "c8"; (with_reducible assumption); (with_reducible assumption); k_updF; (intro o'; k_updF); omega; ktr_room; ktr_units; k_whole); intro v' t' oj' oc' h' tk' F' N' v0' v1' J'; (try dsimp only at N'); (try k_sweep); (try k_fold))) | (with_reducible (k_here; (with_reducible apply take_c); k_dflt (walk_at "c8"; (with_reducible assumption); (with_reducible assumption); k_updF; (intro o'; k_updF); omega; decide; decide; ktr_room; ktr_units; k_whole); intro v' t' oj' oc' h' tk' F' N' v0' v1' J'; (try dsimp only at N'); (try k_sweep); (try k_fold)))) | ((with_reducible show wpAny _ _ (newList _) _ _ _); first | (with_reducible (k_here; k_dflt (refine' newList_V ?F_q ?N_q ?_ ?z_q; (case F_q => k_asm); (case N_q => k_asm); (case z_q => size_fits)); intro D' h' o' n' F' N' l1; (try k_lt l1); (try k_sweep)))) | ((with_reducible show wpAny _ _ (newTuple _) _ _ _); first | (with_reducible (k_here; k_dflt (refine' newTuple_V ?F_q ?N_q ?_ ?z_q; (case F_q => k_asm); (case N_q => k_asm); (case z_q => kmk_size)); intro D' h' o' n' F' N' l1; (try k_lt l1); (try k_sweep)))) | ((with_reducible show wpAny _ _ (storeName _ _ _) _ _ _); first | (with_reducible (k_here; k_dflt (refine' storeX_V ?F_q ?N_q ?_ ?a_q ?b_q; (case F_q => k_asm); (case N_q => k_asm); (case a_q => rfl); (case b_q => rfl); k_whole; intro h' tk' m' F' N'; (try k_sweep))))) | ((with_reducible show wpAny _ _ (eval (Expr.Name _ _) _) _ _ _); first | (with_reducible (k_here; name_kind "globalImplicit"; k_dflt (first | (name_is_builtin; refine' nameX_B ?F_q ?X_q ?T_q ?e_q ?v_q ?n_q ?_ ?a_q ?b_q; (case F_q => k_asm); (case X_q => k_asm); (case T_q => k_asm); (case a_q => rfl); (case b_q => rfl); (case e_q => k_is); (case v_q => boot_fast); (case n_q => decide); k_whole) | (refine' nameX_K ?F_q ?X_q ?T_q ?e_q ?_ ?a_q ?b_q; (case F_q => k_asm); (case X_q => k_asm); (case T_q => k_asm); (case a_q => rfl); (case b_q => rfl); (case e_q => k_is); k_whole)))) | (with_reducible (k_here; name_kind "local"; k_dflt (refine' nameX_L ?F_q ?v_q ?_ ?a_q ?b_q; (case F_q => k_asm); (case a_q => rfl); (case b_q => rfl); (case v_q => rfl); k_whole)))) | (k_unfold; (try dsimp only)) | (k_end; wrow_close) | (walk1; (all_goals (try dsimp only))) | (dsimp only; walk1) | (leave1; try dsimp only)))
  rename Fr h₀ L _ m => FF; rename News h₀ L _ _ => NN; rename JarIs (k + 2 + 2 + 2 + 1 + 1) c _ _ => JJ
  rename AllLt _ news => ll
  refine hret _ _ _ _ _ _ _ FF (news_skip NN) (ktn_ltOf ⟨by with_reducible assumption, by with_reducible assumption, ll⟩) lst_mk ?_ JJ
  refine ⟨?_, ?_, ?_, ?_, ?_, ?_, ?_, ?_, ?_, ?_⟩ <;> dsimp only <;> first | assumption | omega
end
theorem five_c {k : Nat} {j c : Addr} {oj oc : Obj} {f1 : Obj → List (Addr × Obj)} {f2 : Obj → Obj → List (Addr × Obj)}
  {A : Around} {vs8 : List Value} (hv8 : vs8 = [.ref j]) (hA : A.frames = some (envX cn cs L a ccd cl :: outer)) (hh : A.handled = none) (B : Below A₀ base outer h₀) (F : Fr h₀ L s.heap m) (X : (hd.heap_1 w.params).In h₀) (N : News h₀ L s.heap news) (T : Top p loose mean mg mb h₀) (hk : cs.kind = .function)
  (J : JarIs k c oj oc) (hcj : @LT.lt Nat _ c j) (U1 : UpdF j oj news f1) (U2 : ∀ o, UpdF c oc (f1 o) (f2 o)) (hk1 : k ≤ 800)
  (hd : A.depth + 3 < recursionLimit) (hu : A.units + 30 < cLine)
  (hret : ∀ (r : Addr) (o : Obj) (g : G5) (oj oc : Obj) (h' : Heap) (tk' : Nat), Fr h₀ L h' m → News h₀ L h' ((r, o) :: f2 oj oc) → (∀ p ∈ f2 oj oc, p.1 < r) → LstG o g → g.Ok → JarIs (k + 8) c oj oc → Q (.ref r) { s with heap := h', toks := tk' }) :
  wpAny (model PP w) A (call (.ref 301) vs8) Q E s := by
  subst hv8
  refine wp_at_top hA hh ?_
  refine cps ?_; intro Q9 hQ9; obtain ⟨n1, n2, n3⟩ := led_two U1 U2 N hcj; refine hQ9 ?_; clear hQ9 Q9
  exact five0 B F X n1 T hk J hcj n2 n3 hk1 hd hu fun r o g oj oc h' tk' F' N' l' v0 v1 J' => hret r o g oj oc h' tk' F' (news_two1 U1 U2 N') (lt_two U1 U2 l') v0 v1 J'
end
theorem tup_norm {g : G5} {uo od : Int} {t1 t2 t3 t4 t5 : Tok} (e1 : uo = if g.u = 0 then 0 else g.uo) (e2 : od = if g.d = 0 then 0 else g.od) :
    TupG ({ cls := .type "tuple", data := .seq #[.int g.w t1, .int g.u t2, .int uo t3, .int g.d t4, .int od t5] } : Obj) g.norm := by
  subst e1 e2
  exact ⟨t1, t2, t3, t4, t5, rfl⟩
section
variable {w : World} {p : Program} {loose : List Str} {mean : ExcName → Option Value} {mg mb : Str → Option Value}
  {dp un : Nat} {gd : Option (List Code)} {cn : Str} {cs : Scope} {a : Addr} {ccd : Value} {cl : List (Str × Addr)} {outer : List Env} {A₀ : Around} {base h₀ : Heap} {L : Addr} {m : Str → Option Value} {news : List (Addr × Obj)} {s : Shared} {Q E : Value → Shared → Prop}

set_option maxRecDepth 100000 in
set_option maxHeartbeats 4000000 in
theorem parts_c {f : Addr} {o : Obj} {g : G5}
  {A : Around} {vs8 : List Value} (hv8 : vs8 = [.ref f]) (hA : A.frames = some (envX cn cs L a ccd cl :: outer)) (hh : A.handled = none) (B : Below A₀ base outer h₀) (F : Fr h₀ L s.heap m) (X : (hd.heap_1 w.params).In h₀) (N : News h₀ L s.heap news) (T : Top p loose mean mg mb h₀) (hk : cs.kind = .function)
  (hm : (f, o) ∈ news) (ho : LstG o g)
  (hd : A.depth + 1 < recursionLimit) (hu : A.units + 8 < cLine)
  (hret : ∀ (r : Addr) (o : Obj) (h' : Heap) (tk' : Nat), Fr h₀ L h' m → News h₀ L h' ((r, o) :: news) → (∀ p ∈ news, p.1 < r) → TupG o g.norm → Q (.ref r) { s with heap := h', toks := tk' }) :
  wpAny (model PP w) A (call (.ref 308) vs8) Q E s := by
  subst hv8
  refine wp_at_top hA hh ?_
  refine LstG.elim ho ?_; intro t1 t2 t3 t4 t5 n eq91; subst eq91
  refine wpAny_call ?_
  k_dflt ((refine' code_def ?k1_q ?k2_q ?k3_q ?k4_q ?k5_q ?kA_q ?kF_q ?kK_q ?k6_q ?k7_q ?k8_q ?k9_q ?kB_q ?_ ?c2_q ?c3_q ?c4_q ?c5_q; (case kA_q => exact rfl); (case kF_q => exact rfl); (case kK_q => first | exact rfl | assumption); (case k1_q => k_asm); (case k2_q => k_asm); (case k3_q => k_asm); (case k4_q => k_asm); (case k5_q => k_asm); (case k6_q => k_is); (case k7_q => k_is); (case k8_q => k_room); (case k9_q => first | exact BindsTo.of_eq rfl | exact binds_K (by k_in) rfl (by k_is) rfl rfl rfl); (case c5_q => decide); (case kB_q => exact locs rfl); (case c2_q => exact rfl); (case c3_q => exact rfl); (case c4_q => exact rfl); k_whole; intro g' L' h' FG' F' N' B' X' T'; (try k_lift B'); (refine foldM F' ?_; clear F'; intro m9 F'); (try first | (with_reducible refine foldA ?_; intro A9 d9 u9) | (with_reducible refine foldAu ?_; intro A9 d9 u9)); (try (refine foldE ?_; intro e9)); (try k_unmd); (try (refine foldQ ?_; intro qk ek)); (try dsimp only)))
  (repeat' (first | ((with_reducible show wpAny _ _ (execs _ _) _ _ _); (fail_if_success (fail_if_success k_fold)); refine foldQ ?_; intro qk ek) | ((with_reducible show wpAny _ _ (exec _ _) _ _ _); (fail_if_success (fail_if_success k_fold)); refine foldQ ?_; intro qk ek; (try (refine foldN (by with_reducible assumption) ?_; intro n9 N9))) | ((with_reducible show wpAny _ _ (newTuple _) _ _ _); first | (with_reducible (k_here; k_dflt (refine' newTuple_V ?F_q ?N_q ?_ ?z_q; (case F_q => k_asm); (case N_q => k_asm); (case z_q => kmk_size)); intro D' h' o' n' F' N' l1; (try k_lt l1); (try k_sweep)))) | ((with_reducible show wpAny _ _ (storeName _ _ _) _ _ _); first | (with_reducible (k_here; k_dflt (refine' storeX_V ?F_q ?N_q ?_ ?a_q ?b_q; (case F_q => k_asm); (case N_q => k_asm); (case a_q => rfl); (case b_q => rfl); k_whole; intro h' tk' m' F' N'; (try k_sweep))))) | ((with_reducible show wpAny _ _ (eval (Expr.Name _ _) _) _ _ _); first | (with_reducible (k_here; name_kind "local"; k_dflt (refine' nameX_L ?F_q ?v_q ?_ ?a_q ?b_q; (case F_q => k_asm); (case a_q => rfl); (case b_q => rfl); (case v_q => rfl); k_whole)))) | (k_unfold; (try dsimp only)) | (k_end; wrow_close) | (walk1; (all_goals (try dsimp only))) | (dsimp only; walk1) | (leave1; try dsimp only)))
  all_goals (rename Fr h₀ L _ m => FF; rename News h₀ L _ _ => NN; rename ∀ p ∈ news, p.1 < _ => ll)
  all_goals exact hret _ _ _ _ FF NN ll (tup_norm (by first | (rw [if_pos (by assumption)]; done) | (rw [if_neg (by assumption)]; done)) (by first | (rw [if_pos (by assumption)]; done) | (rw [if_neg (by assumption)]; done)))
end
theorem ints4 {ys : List Value} {a b c d : Int} (h : IntsAre ys [a, b, c, d]) : ∃ t1 t2 t3 t4, ys = [.int a t1, .int b t2, .int c t3, .int d t4] := by
  cases h with | cons _ t1 h => cases h with | cons _ t2 h => cases h with | cons _ t3 h => cases h with | cons _ t4 h => cases h; exact ⟨t1, t2, t3, t4, rfl⟩
def pick (v o i : Int) : Int := if i = o then v else 0
def cutS (v b : Int) : Int := if (decide (v < 0) == decide (b < 0)) = true then (if v < 0 then -v else v).fdiv (if b < 0 then -b else b) else -((if v < 0 then -v else v).fdiv (if b < 0 then -b else b))
def psumS (v o v2 o2 : Int) : Int × Int := if o = o2 then (v + v2, o) else if o < o2 then (v2, o2) else (v, o)
abbrev tup2 (a : Int) (t : Tok) (b : Int) (t' : Tok) : Obj := { cls := .type "tuple", data := .seq #[.int a t, .int b t'] }
section
variable {w : World} {p : Program} {loose : List Str} {mean : ExcName → Option Value} {mg mb : Str → Option Value}
  {dp un : Nat} {gd : Option (List Code)} {cn : Str} {cs : Scope} {a : Addr} {ccd : Value} {cl : List (Str × Addr)} {outer : List Env} {A₀ : Around} {base h₀ : Heap} {L : Addr} {m : Str → Option Value} {news : List (Addr × Obj)} {s : Shared} {Q E : Value → Shared → Prop}

set_option maxRecDepth 100000 in
set_option maxHeartbeats 4000000 in
theorem orders_c {v o : Int} {t1 t2 : Tok}
  {A : Around} {vs8 : List Value} (hv8 : vs8 = [.int v t1, .int o t2]) (hA : A.frames = some (envX cn cs L a ccd cl :: outer)) (hh : A.handled = none) (B : Below A₀ base outer h₀) (F : Fr h₀ L s.heap m) (X : (hd.heap_1 w.params).In h₀) (N : News h₀ L s.heap news) (T : Top p loose mean mg mb h₀) (hk : cs.kind = .function)
  (h0 : 0 ≤ o) (h3 : o ≤ 3)
  (hd : A.depth + 2 < recursionLimit) (hu : A.units + 20 < cLine)
  (hret : ∀ (r : Addr) (t1 t2 t3 t4 : Tok) (h' : Heap) (tk' : Nat), Fr h₀ L h' m → News h₀ L h' ((r, listOf #[.int (pick v o 0) t1, .int (pick v o 1) t2, .int (pick v o 2) t3, .int (pick v o 3) t4] 4) :: news) → Q (.ref r) { s with heap := h', toks := tk' }) :
  wpAny (model PP w) A (call (.ref 313) vs8) Q E s := by
  subst hv8
  refine wp_at_top hA hh ?_
  refine wpAny_call ?_
  k_dflt ((refine' code_defC ?k1_q ?k2_q ?k3_q ?k4_q ?k5_q ?kA_q ?kF_q ?kK_q ?k6_q ?k7_q ?k8_q ?k9_q ?kB_q ?kD_q ?_ ?c2_q ?c3_q ?c4_q; (case kA_q => exact rfl); (case kF_q => exact rfl); (case kK_q => first | exact rfl | assumption); (case k1_q => k_asm); (case k2_q => k_asm); (case k3_q => k_asm); (case k4_q => k_asm); (case k5_q => k_asm); (case k6_q => k_is); (case k7_q => k_is); (case k8_q => ktr_room); (case k9_q => first | exact BindsTo.of_eq rfl | exact binds_K (by k_in) rfl (by k_is) rfl rfl rfl); (case kB_q => exact rfl); (case kD_q => decide +kernel); (case c2_q => exact rfl); (case c3_q => exact rfl); (case c4_q => exact rfl); k_whole; intro g' L' h' tk' cells' FG' F' N' Y' B' X' T' l1; (try k_lt l1); k_cells Y'; (try simp only [List.cons_append, List.nil_append] at N'); (try k_lift B'); (refine foldM F' ?_; clear F'; intro m9 F'); (try first | (with_reducible refine foldA ?_; intro A9 d9 u9) | (with_reducible refine foldAu ?_; intro A9 d9 u9)); (try (refine foldE ?_; intro e9)); (try k_unmd); (try (refine foldQ ?_; intro qk ek)); (try dsimp only)))
  (repeat' (first | ((with_reducible show wpAny _ _ (execs _ _) _ _ _); (fail_if_success (fail_if_success k_fold)); refine foldQ ?_; intro qk ek) | ((with_reducible show wpAny _ _ (exec _ _) _ _ _); (fail_if_success (fail_if_success k_fold)); refine foldQ ?_; intro qk ek; (try (refine foldN (by with_reducible assumption) ?_; intro n9 N9))) | ((with_reducible show wpAny _ _ (eval (Expr.Name _ _) _) _ _ _); first | (with_reducible (k_here; name_kind "globalImplicit"; k_dflt (first | (name_is_builtin; refine' nameX_B ?F_q ?X_q ?T_q ?e_q ?v_q ?n_q ?_ ?a_q ?b_q; (case F_q => k_asm); (case X_q => k_asm); (case T_q => k_asm); (case a_q => rfl); (case b_q => rfl); (case e_q => k_is); (case v_q => boot_fast); (case n_q => decide); k_whole) | (refine' nameX_K ?F_q ?X_q ?T_q ?e_q ?_ ?a_q ?b_q; (case F_q => k_asm); (case X_q => k_asm); (case T_q => k_asm); (case a_q => rfl); (case b_q => rfl); (case e_q => k_is); k_whole))))) | (k_unfold; (try dsimp only)) | (k_end; wrow_close) | (walk1; (all_goals (try dsimp only))) | (dsimp only; walk1) | (leave1; try dsimp only)))
  rename Fr h₀ L _ m => FF; rename News h₀ L _ _ => NN; rename IntsAre _ _ => hI
  have hI2 : IntsAre _ [pick v o 0, pick v o 1, pick v o 2, pick v o 3] := hI
  refine cps ?_; intro Q9 hQ9; obtain ⟨t1, t2, t3, t4, eq91⟩ := ints4 hI2; refine hQ9 ?_; clear hQ9 Q9; subst eq91
  exact hret _ _ _ _ _ _ _ FF (news_skip (news_skip NN))
set_option maxRecDepth 100000 in
set_option maxHeartbeats 4000000 in
theorem cut_c {v b : Int} {t1 t2 : Tok}
  {A : Around} {vs8 : List Value} (hv8 : vs8 = [.int v t1, .int b t2]) (hA : A.frames = some (envX cn cs L a ccd cl :: outer)) (hh : A.handled = none) (B : Below A₀ base outer h₀) (F : Fr h₀ L s.heap m) (X : (hd.heap_1 w.params).In h₀) (N : News h₀ L s.heap news) (T : Top p loose mean mg mb h₀) (hk : cs.kind = .function)
  (h0 : -MX ≤ v) (h3 : v ≤ MX) (hb : b ≠ 0) (hb0 : -10 ≤ b) (hb1 : b ≤ 10)
  (hd : A.depth + 2 < recursionLimit) (hu : A.units + 20 < cLine)
  (hret : ∀ (t : Tok) (h' : Heap) (tk' : Nat), Fr h₀ L h' m → News h₀ L h' news → Q (.int (cutS v b) t) { s with heap := h', toks := tk' }) :
  wpAny (model PP w) A (call (.ref 332) vs8) Q E s := by
  subst hv8
  refine wp_at_top hA hh ?_
  refine wpAny_call ?_
  k_dflt ((refine' code_def ?k1_q ?k2_q ?k3_q ?k4_q ?k5_q ?kA_q ?kF_q ?kK_q ?k6_q ?k7_q ?k8_q ?k9_q ?kB_q ?_ ?c2_q ?c3_q ?c4_q ?c5_q; (case kA_q => exact rfl); (case kF_q => exact rfl); (case kK_q => first | exact rfl | assumption); (case k1_q => k_asm); (case k2_q => k_asm); (case k3_q => k_asm); (case k4_q => k_asm); (case k5_q => k_asm); (case k6_q => k_is); (case k7_q => k_is); (case k8_q => k_room); (case k9_q => first | exact BindsTo.of_eq rfl | exact binds_K (by k_in) rfl (by k_is) rfl rfl rfl); (case c5_q => decide); (case kB_q => exact locs rfl); (case c2_q => exact rfl); (case c3_q => exact rfl); (case c4_q => exact rfl); k_whole; intro g' L' h' FG' F' N' B' X' T'; (try k_lift B'); (refine foldM F' ?_; clear F'; intro m9 F'); (try first | (with_reducible refine foldA ?_; intro A9 d9 u9) | (with_reducible refine foldAu ?_; intro A9 d9 u9)); (try (refine foldE ?_; intro e9)); (try k_unmd); (try (refine foldQ ?_; intro qk ek)); (try dsimp only)))
  (repeat' (first | ((with_reducible show wpAny _ _ (execs _ _) _ _ _); (fail_if_success (fail_if_success k_fold)); refine foldQ ?_; intro qk ek) | ((with_reducible show wpAny _ _ (exec _ _) _ _ _); (fail_if_success (fail_if_success k_fold)); refine foldQ ?_; intro qk ek; (try (refine foldN (by with_reducible assumption) ?_; intro n9 N9))) | ((with_reducible show wpAny _ _ (storeName _ _ _) _ _ _); first | (with_reducible (k_here; k_dflt (refine' storeX_V ?F_q ?N_q ?_ ?a_q ?b_q; (case F_q => k_asm); (case N_q => k_asm); (case a_q => rfl); (case b_q => rfl); k_whole; intro h' tk' m' F' N'; (try k_sweep))))) | ((with_reducible show wpAny _ _ (eval (Expr.Name _ _) _) _ _ _); first | (with_reducible (k_here; name_kind "globalImplicit"; k_dflt (first | (name_is_builtin; refine' nameX_B ?F_q ?X_q ?T_q ?e_q ?v_q ?n_q ?_ ?a_q ?b_q; (case F_q => k_asm); (case X_q => k_asm); (case T_q => k_asm); (case a_q => rfl); (case b_q => rfl); (case e_q => k_is); (case v_q => boot_fast); (case n_q => decide); k_whole) | (refine' nameX_K ?F_q ?X_q ?T_q ?e_q ?_ ?a_q ?b_q; (case F_q => k_asm); (case X_q => k_asm); (case T_q => k_asm); (case a_q => rfl); (case b_q => rfl); (case e_q => k_is); k_whole)))) | (with_reducible (k_here; name_kind "local"; k_dflt (refine' nameX_L ?F_q ?v_q ?_ ?a_q ?b_q; (case F_q => k_asm); (case a_q => rfl); (case b_q => rfl); (case v_q => rfl); k_whole)))) | (k_unfold; (try dsimp only)) | (k_end; wrow_close) | (walk1; (all_goals (try dsimp only))) | (dsimp only; walk1) | (leave1; try dsimp only)))
  all_goals (rename Fr h₀ L _ m => FF; rename News h₀ L _ _ => NN; rename (_ == _) = _ => hc)
  · exact cb_retI hret (by unfold cutS; rw [hc]; rfl) FF NN
  · exact cb_retI hret (by unfold cutS; rw [hc]; rfl) FF NN
set_option maxRecDepth 100000 in
set_option maxHeartbeats 4000000 in
theorem psum_c {v o v2 o2 : Int} {t1 t2 t3 t4 : Tok}
  {A : Around} {vs8 : List Value} (hv8 : vs8 = [.int v t1, .int o t2, .int v2 t3, .int o2 t4]) (hA : A.frames = some (envX cn cs L a ccd cl :: outer)) (hh : A.handled = none) (B : Below A₀ base outer h₀) (F : Fr h₀ L s.heap m) (X : (hd.heap_1 w.params).In h₀) (N : News h₀ L s.heap news) (T : Top p loose mean mg mb h₀) (hk : cs.kind = .function)
  (hd : A.depth + 2 < recursionLimit) (hu : A.units + 20 < cLine)
  (hret : ∀ (r : Addr) (t t' : Tok) (h' : Heap) (tk' : Nat), Fr h₀ L h' m → News h₀ L h' ((r, tup2 (psumS v o v2 o2).1 t (psumS v o v2 o2).2 t') :: news) → (∀ p ∈ news, p.1 < r) → Q (.ref r) { s with heap := h', toks := tk' }) :
  wpAny (model PP w) A (call (.ref 140) vs8) Q E s := by
  subst hv8
  refine wp_at_top hA hh ?_
  refine wpAny_call ?_
  k_dflt ((refine' code_def ?k1_q ?k2_q ?k3_q ?k4_q ?k5_q ?kA_q ?kF_q ?kK_q ?k6_q ?k7_q ?k8_q ?k9_q ?kB_q ?_ ?c2_q ?c3_q ?c4_q ?c5_q; (case kA_q => exact rfl); (case kF_q => exact rfl); (case kK_q => first | exact rfl | assumption); (case k1_q => k_asm); (case k2_q => k_asm); (case k3_q => k_asm); (case k4_q => k_asm); (case k5_q => k_asm); (case k6_q => k_is); (case k7_q => k_is); (case k8_q => k_room); (case k9_q => first | exact BindsTo.of_eq rfl | exact binds_K (by k_in) rfl (by k_is) rfl rfl rfl); (case c5_q => decide); (case kB_q => exact locs rfl); (case c2_q => exact rfl); (case c3_q => exact rfl); (case c4_q => exact rfl); k_whole; intro g' L' h' FG' F' N' B' X' T'; (try k_lift B'); (refine foldM F' ?_; clear F'; intro m9 F'); (try first | (with_reducible refine foldA ?_; intro A9 d9 u9) | (with_reducible refine foldAu ?_; intro A9 d9 u9)); (try (refine foldE ?_; intro e9)); (try k_unmd); (try (refine foldQ ?_; intro qk ek)); (try dsimp only)))
  (repeat' (first | ((with_reducible show wpAny _ _ (execs _ _) _ _ _); (fail_if_success (fail_if_success k_fold)); refine foldQ ?_; intro qk ek) | ((with_reducible show wpAny _ _ (exec _ _) _ _ _); (fail_if_success (fail_if_success k_fold)); refine foldQ ?_; intro qk ek; (try (refine foldN (by with_reducible assumption) ?_; intro n9 N9))) | ((with_reducible show wpAny _ _ (newTuple _) _ _ _); first | (with_reducible (k_here; k_dflt (refine' newTuple_V ?F_q ?N_q ?_ ?z_q; (case F_q => k_asm); (case N_q => k_asm); (case z_q => kmk_size)); intro D' h' o' n' F' N' l1; (try k_lt l1); (try k_sweep)))) | ((with_reducible show wpAny _ _ (eval (Expr.Name _ _) _) _ _ _); first | (with_reducible (k_here; name_kind "local"; k_dflt (refine' nameX_L ?F_q ?v_q ?_ ?a_q ?b_q; (case F_q => k_asm); (case a_q => rfl); (case b_q => rfl); (case v_q => rfl); k_whole)))) | (k_unfold; (try dsimp only)) | (k_end; wrow_close) | (walk1; (all_goals (try dsimp only))) | (dsimp only; walk1) | (leave1; try dsimp only)))
  all_goals (rename Fr h₀ L _ m => FF; rename News h₀ L _ _ => NN; rename ∀ p ∈ news, p.1 < _ => ll)
  · have e : psumS v o v2 o2 = (v + v2, o) := by unfold psumS; rw [if_pos (by assumption)]
    rw [e] at hret
    exact hret _ _ _ _ _ FF NN ll
  · have e : psumS v o v2 o2 = (v2, o2) := by unfold psumS; rw [if_neg (by assumption), if_pos (by assumption)]
    rw [e] at hret
    exact hret _ _ _ _ _ FF NN ll
  · have e : psumS v o v2 o2 = (v, o) := by unfold psumS; rw [if_neg (by assumption), if_neg (by assumption)]
    rw [e] at hret
    exact hret _ _ _ _ _ FF NN ll
end
def decNear (x : Int) : Int := (2 * x + 65536).fdiv 131072
def decRead (x sc : Int) : Int := ((2 * 65536 * x).fdiv sc + 1).fdiv 2
theorem fdiv_pos_facts {a b : Int} (hb : 0 < b) : b * a.fdiv b ≤ a ∧ a < b * a.fdiv b + b := by
  have h := Int.mul_fdiv_add_fmod a b
  have h1 := fmod_in (a := a) hb
  omega
section
variable {w : World} {p : Program} {loose : List Str} {mean : ExcName → Option Value} {mg mb : Str → Option Value}
  {dp un : Nat} {gd : Option (List Code)} {cn : Str} {cs : Scope} {a : Addr} {ccd : Value} {cl : List (Str × Addr)} {outer : List Env} {A₀ : Around} {base h₀ : Heap} {L : Addr} {m : Str → Option Value} {news : List (Addr × Obj)} {s : Shared} {Q E : Value → Shared → Prop}

set_option maxRecDepth 100000 in
set_option maxHeartbeats 4000000 in
theorem rounded_c {x : Int} {t1 t2 : Tok}
  {A : Around} {vs8 : List Value} (hv8 : vs8 = [.int x t1, .int 65536 t2]) (hA : A.frames = some (envX cn cs L a ccd cl :: outer)) (hh : A.handled = none) (B : Below A₀ base outer h₀) (F : Fr h₀ L s.heap m) (X : (hd.heap_1 w.params).In h₀) (N : News h₀ L s.heap news) (T : Top p loose mean mg mb h₀) (hk : cs.kind = .function)
  (h0 : 0 ≤ x) (h1 : x ≤ 10000000000)
  (hd : A.depth + 2 < recursionLimit) (hu : A.units + 20 < cLine)
  (hret : ∀ (y : Int) (t : Tok) (h' : Heap) (tk' : Nat), Fr h₀ L h' m → News h₀ L h' news → y = decNear x → 0 ≤ y → 131072 * y ≤ 2 * x + 65536 → Q (.int y t) { s with heap := h', toks := tk' }) :
  wpAny (model PP w) A (call (.ref 91) vs8) Q E s := by
  subst hv8
  refine wp_at_top hA hh ?_
  refine wpAny_call ?_
  k_dflt ((refine' code_def ?k1_q ?k2_q ?k3_q ?k4_q ?k5_q ?kA_q ?kF_q ?kK_q ?k6_q ?k7_q ?k8_q ?k9_q ?kB_q ?_ ?c2_q ?c3_q ?c4_q ?c5_q; (case kA_q => exact rfl); (case kF_q => exact rfl); (case kK_q => first | exact rfl | assumption); (case k1_q => k_asm); (case k2_q => k_asm); (case k3_q => k_asm); (case k4_q => k_asm); (case k5_q => k_asm); (case k6_q => k_is); (case k7_q => k_is); (case k8_q => k_room); (case k9_q => first | exact BindsTo.of_eq rfl | exact binds_K (by k_in) rfl (by k_is) rfl rfl rfl); (case c5_q => decide); (case kB_q => exact locs rfl); (case c2_q => exact rfl); (case c3_q => exact rfl); (case c4_q => exact rfl); k_whole; intro g' L' h' FG' F' N' B' X' T'; (try k_lift B'); (refine foldM F' ?_; clear F'; intro m9 F'); (try first | (with_reducible refine foldA ?_; intro A9 d9 u9) | (with_reducible refine foldAu ?_; intro A9 d9 u9)); (try (refine foldE ?_; intro e9)); (try k_unmd); (try (refine foldQ ?_; intro qk ek)); (try dsimp only)))
  (repeat' (first | ((with_reducible show wpAny _ _ (execs _ _) _ _ _); (fail_if_success (fail_if_success k_fold)); refine foldQ ?_; intro qk ek) | ((with_reducible show wpAny _ _ (exec _ _) _ _ _); (fail_if_success (fail_if_success k_fold)); refine foldQ ?_; intro qk ek; (try (refine foldN (by with_reducible assumption) ?_; intro n9 N9))) | ((with_reducible show wpAny _ _ (eval (Expr.Name _ _) _) _ _ _); first | (with_reducible (k_here; name_kind "local"; k_dflt (refine' nameX_L ?F_q ?v_q ?_ ?a_q ?b_q; (case F_q => k_asm); (case a_q => rfl); (case b_q => rfl); (case v_q => rfl); k_whole)))) | (k_unfold; (try dsimp only)) | (k_end; wrow_close) | (walk1; (all_goals (try dsimp only))) | (dsimp only; walk1) | (leave1; try dsimp only)))
  rename Fr h₀ L _ m => FF; rename News h₀ L _ _ => NN
  have hf := fdiv_pos_facts (a := 2 * x + 65536) (b := 131072) (by decide)
  exact hret _ _ _ _ FF NN rfl (by show 0 ≤ (2 * x + 65536).fdiv 131072; omega) hf.1
set_option maxRecDepth 100000 in
set_option maxHeartbeats 4000000 in
theorem reading_c {x sc : Int} {t1 t2 : Tok}
  {A : Around} {vs8 : List Value} (hv8 : vs8 = [.int x t1, .int sc t2]) (hA : A.frames = some (envX cn cs L a ccd cl :: outer)) (hh : A.handled = none) (B : Below A₀ base outer h₀) (F : Fr h₀ L s.heap m) (X : (hd.heap_1 w.params).In h₀) (N : News h₀ L s.heap news) (T : Top p loose mean mg mb h₀) (hk : cs.kind = .function)
  (h0 : 0 ≤ x) (h1 : x ≤ 10000000000) (hs0 : 0 < sc) (hs1 : sc ≤ 100000)
  (hd : A.depth + 2 < recursionLimit) (hu : A.units + 20 < cLine)
  (hret : ∀ (y : Int) (t : Tok) (h' : Heap) (tk' : Nat), Fr h₀ L h' m → News h₀ L h' news → y = decRead x sc → Q (.int y t) { s with heap := h', toks := tk' }) :
  wpAny (model PP w) A (call (.ref 98) vs8) Q E s := by
  subst hv8
  refine wp_at_top hA hh ?_
  refine wpAny_call ?_
  k_dflt ((refine' code_def ?k1_q ?k2_q ?k3_q ?k4_q ?k5_q ?kA_q ?kF_q ?kK_q ?k6_q ?k7_q ?k8_q ?k9_q ?kB_q ?_ ?c2_q ?c3_q ?c4_q ?c5_q; (case kA_q => exact rfl); (case kF_q => exact rfl); (case kK_q => first | exact rfl | assumption); (case k1_q => k_asm); (case k2_q => k_asm); (case k3_q => k_asm); (case k4_q => k_asm); (case k5_q => k_asm); (case k6_q => k_is); (case k7_q => k_is); (case k8_q => k_room); (case k9_q => first | exact BindsTo.of_eq rfl | exact binds_K (by k_in) rfl (by k_is) rfl rfl rfl); (case c5_q => decide); (case kB_q => exact locs rfl); (case c2_q => exact rfl); (case c3_q => exact rfl); (case c4_q => exact rfl); k_whole; intro g' L' h' FG' F' N' B' X' T'; (try k_lift B'); (refine foldM F' ?_; clear F'; intro m9 F'); (try first | (with_reducible refine foldA ?_; intro A9 d9 u9) | (with_reducible refine foldAu ?_; intro A9 d9 u9)); (try (refine foldE ?_; intro e9)); (try k_unmd); (try (refine foldQ ?_; intro qk ek)); (try dsimp only)))
  (repeat' (first | ((with_reducible show wpAny _ _ (execs _ _) _ _ _); (fail_if_success (fail_if_success k_fold)); refine foldQ ?_; intro qk ek) | ((with_reducible show wpAny _ _ (exec _ _) _ _ _); (fail_if_success (fail_if_success k_fold)); refine foldQ ?_; intro qk ek; (try (refine foldN (by with_reducible assumption) ?_; intro n9 N9))) | ((with_reducible show wpAny _ _ (eval (Expr.Name _ _) _) _ _ _); first | (with_reducible (k_here; name_kind "globalImplicit"; k_dflt (first | (name_is_builtin; refine' nameX_B ?F_q ?X_q ?T_q ?e_q ?v_q ?n_q ?_ ?a_q ?b_q; (case F_q => k_asm); (case X_q => k_asm); (case T_q => k_asm); (case a_q => rfl); (case b_q => rfl); (case e_q => k_is); (case v_q => boot_fast); (case n_q => decide); k_whole) | (refine' nameX_K ?F_q ?X_q ?T_q ?e_q ?_ ?a_q ?b_q; (case F_q => k_asm); (case X_q => k_asm); (case T_q => k_asm); (case a_q => rfl); (case b_q => rfl); (case e_q => k_is); k_whole)))) | (with_reducible (k_here; name_kind "local"; k_dflt (refine' nameX_L ?F_q ?v_q ?_ ?a_q ?b_q; (case F_q => k_asm); (case a_q => rfl); (case b_q => rfl); (case v_q => rfl); k_whole)))) | (k_unfold; (try dsimp only)) | (k_end; wrow_close) | (walk1; (all_goals (try dsimp only))) | (dsimp only; walk1) | (leave1; try dsimp only)))
  rename Fr h₀ L _ m => FF; rename News h₀ L _ _ => NN
  exact hret _ _ _ _ FF NN rfl
end
def decPick (P : Int) : Int × Int := if decRead (decNear (P * (10 * 1))) (10 * 1) = P then (10 * 1, decNear (P * (10 * 1))) else if decRead (decNear (P * (10 * (10 * 1)))) (10 * (10 * 1)) = P then (10 * (10 * 1), decNear (P * (10 * (10 * 1)))) else if decRead (decNear (P * (10 * (10 * (10 * 1))))) (10 * (10 * (10 * 1))) = P then (10 * (10 * (10 * 1)), decNear (P * (10 * (10 * (10 * 1))))) else if decRead (decNear (P * (10 * (10 * (10 * (10 * 1)))))) (10 * (10 * (10 * (10 * 1)))) = P then (10 * (10 * (10 * (10 * 1))), decNear (P * (10 * (10 * (10 * (10 * 1)))))) else (10 * (10 * (10 * (10 * (10 * 1)))), decNear (P * (10 * (10 * (10 * (10 * (10 * 1)))))))
def decSign (v : Int) : Str := if v < 0 then Str.ofString "-" else Str.ofString ""
def absI (v : Int) : Int := if v < 0 then -v else v
def decS (v : Int) : Str := decSign v ++ Str.ofString (toString ((absI v).fdiv 65536)) ++ Str.ofString "." ++ Txt.slice (Str.ofString (toString ((decPick ((absI v).fmod 65536)).1 + (decPick ((absI v).fmod 65536)).2))) (some 1) none
theorem dec_eq {v sc n q r : Int} {sg : Str} (hs : sg = decSign v) (hq : (absI v).fdiv 65536 = q) (hr : (absI v).fmod 65536 = r) (hp : (sc, n) = decPick r) :
    sg ++ Str.ofString (toString q) ++ Str.ofString "." ++ Txt.slice (Str.ofString (toString (sc + n))) (some 1) none = decS v := by
  unfold decS
  rw [hr, ← hp, hs, hq]
theorem pick0 {P  y0 z0 : Int} (e0 : y0 = decNear (P * (10 * 1))) (f0 : z0 = decRead y0 (10 * 1)) (c0 : z0 = P) : ((10 * 1 : Int), y0) = decPick P := by
  rw [f0, e0] at c0
  subst e0
  unfold decPick
  rw [if_pos c0]
theorem pick1 {P y0 z0 y1 z1 : Int} (e0 : y0 = decNear (P * (10 * 1))) (f0 : z0 = decRead y0 (10 * 1)) (c0 : ¬ z0 = P) (e1 : y1 = decNear (P * (10 * (10 * 1)))) (f1 : z1 = decRead y1 (10 * (10 * 1))) (c1 : z1 = P) : ((10 * (10 * 1) : Int), y1) = decPick P := by
  rw [f0, e0] at c0
  rw [f1, e1] at c1
  subst e1
  unfold decPick
  rw [if_neg c0, if_pos c1]
theorem pick2 {P y0 z0 y1 z1 y2 z2 : Int} (e0 : y0 = decNear (P * (10 * 1))) (f0 : z0 = decRead y0 (10 * 1)) (c0 : ¬ z0 = P) (e1 : y1 = decNear (P * (10 * (10 * 1)))) (f1 : z1 = decRead y1 (10 * (10 * 1))) (c1 : ¬ z1 = P) (e2 : y2 = decNear (P * (10 * (10 * (10 * 1))))) (f2 : z2 = decRead y2 (10 * (10 * (10 * 1)))) (c2 : z2 = P) : ((10 * (10 * (10 * 1)) : Int), y2) = decPick P := by
  rw [f0, e0] at c0
  rw [f1, e1] at c1
  rw [f2, e2] at c2
  subst e2
  unfold decPick
  rw [if_neg c0, if_neg c1, if_pos c2]
theorem pick3 {P y0 z0 y1 z1 y2 z2 y3 z3 : Int} (e0 : y0 = decNear (P * (10 * 1))) (f0 : z0 = decRead y0 (10 * 1)) (c0 : ¬ z0 = P) (e1 : y1 = decNear (P * (10 * (10 * 1)))) (f1 : z1 = decRead y1 (10 * (10 * 1))) (c1 : ¬ z1 = P) (e2 : y2 = decNear (P * (10 * (10 * (10 * 1))))) (f2 : z2 = decRead y2 (10 * (10 * (10 * 1)))) (c2 : ¬ z2 = P) (e3 : y3 = decNear (P * (10 * (10 * (10 * (10 * 1)))))) (f3 : z3 = decRead y3 (10 * (10 * (10 * (10 * 1))))) (c3 : z3 = P) : ((10 * (10 * (10 * (10 * 1))) : Int), y3) = decPick P := by
  rw [f0, e0] at c0
  rw [f1, e1] at c1
  rw [f2, e2] at c2
  rw [f3, e3] at c3
  subst e3
  unfold decPick
  rw [if_neg c0, if_neg c1, if_neg c2, if_pos c3]
theorem pick4 {P y0 z0 y1 z1 y2 z2 y3 z3 y4 : Int} (e0 : y0 = decNear (P * (10 * 1))) (f0 : z0 = decRead y0 (10 * 1)) (c0 : ¬ z0 = P) (e1 : y1 = decNear (P * (10 * (10 * 1)))) (f1 : z1 = decRead y1 (10 * (10 * 1))) (c1 : ¬ z1 = P) (e2 : y2 = decNear (P * (10 * (10 * (10 * 1))))) (f2 : z2 = decRead y2 (10 * (10 * (10 * 1)))) (c2 : ¬ z2 = P) (e3 : y3 = decNear (P * (10 * (10 * (10 * (10 * 1)))))) (f3 : z3 = decRead y3 (10 * (10 * (10 * (10 * 1))))) (c3 : ¬ z3 = P) (e4 : y4 = decNear (P * (10 * (10 * (10 * (10 * (10 * 1))))))) : ((10 * (10 * (10 * (10 * (10 * 1)))) : Int), y4) = decPick P := by
  rw [f0, e0] at c0
  rw [f1, e1] at c1
  rw [f2, e2] at c2
  rw [f3, e3] at c3
  subst e4
  unfold decPick
  rw [if_neg c0, if_neg c1, if_neg c2, if_neg c3]
theorem sign_pos {v : Int} (h : v < 0) : Str.ofString "-" = decSign v := (if_pos h).symm
theorem sign_neg {v : Int} (h : ¬ v < 0) : Str.ofString "" = decSign v := (if_neg h).symm
theorem sign_len {v : Int} : (decSign v).length ≤ 1 := by
  unfold decSign
  split <;> decide
inductive DecPost (v q r : Int) (m2 : Str → Option Value) : Prop
  | mk (sc n : Int) (t1 t2 tg tp : Tok) : m2 (Str.ofString "sign") = some (.str (decSign v) tg) → m2 (Str.ofString "points") = some (.int q tp) → m2 (Str.ofString "scale") = some (.int sc t1) → m2 (Str.ofString "near") = some (.int n t2) → (sc, n) = decPick r → 10 ≤ sc → sc ≤ 100000 → 0 ≤ n → n ≤ 100001 → DecPost v q r m2
inductive ForPost (g : Heap) (L : Addr) (N1 : List (Addr × Obj)) (s : Shared) (P : (Str → Option Value) → Prop) (fl : Flow) (s' : Shared) : Prop
  | mk (h2 : Heap) (ts : Nat) (m2 : Str → Option Value) : fl = Flow.next → s' = { s with heap := h2, toks := ts } → Fr g L h2 m2 → News g L h2 N1 → P m2 → ForPost g L N1 s P fl s'
def CutPost (P : Prop) : Prop := P
theorem cut_str {M : Model} {A : Around} {t : Sem Value} {g L} {h : Heap} {m} {N1} {x : Str} {Q E} {s : Shared} (F : Fr g L h m) (N : News g L h N1)
    (h1 : wpAny M A t (fun v s' => CutPost (∃ tk h2 ts, v = .str x tk ∧ s' = { s with heap := h2, toks := ts } ∧ Fr g L h2 m ∧ News g L h2 N1)) E s)
    (k : ∀ tk h2 ts, Fr g L h2 m → News g L h2 N1 → Q (.str x tk) { s with heap := h2, toks := ts }) : wpAny M A t Q E s :=
  wpAny_mono h1 (fun v s' ⟨tk, h2, ts, e1, e2, f, n⟩ => by subst e1 e2; exact k _ _ _ f n) (fun _ _ h => h)
theorem cut_for {M : Model} {A : Around} {t : Sem Flow} {g L} {h : Heap} {m} {N1} {Q E} {s : Shared} (P : (Str → Option Value) → Prop) (_ : Fr g L h m) (_ : News g L h N1)
    (h1 : wpAny M A t (ForPost g L N1 s P) E s)
    (k : ∀ h2 ts m2, Fr g L h2 m2 → News g L h2 N1 → P m2 → Q Flow.next { s with heap := h2, toks := ts }) : wpAny M A t Q E s :=
  wpAny_mono h1 (fun v s' ⟨h2, ts, m2, e1, e2, f, n, p⟩ => by subst e1 e2; exact k _ _ _ f n p) (fun _ _ h => h)
def StopHere8 : Prop := True
def MetStop8 (P : Prop) : Prop := P
theorem metStop8 {P : Prop} (h : MetStop8 P) : P := h
section
variable {w : World} {p : Program} {loose : List Str} {mean : ExcName → Option Value} {mg mb : Str → Option Value}
  {dp un : Nat} {gd : Option (List Code)} {cn : Str} {cs : Scope} {a : Addr} {ccd : Value} {cl : List (Str × Addr)} {outer : List Env} {A₀ : Around} {base h₀ : Heap} {L : Addr} {m : Str → Option Value} {news : List (Addr × Obj)} {s : Shared} {Q E : Value → Shared → Prop}

section
set_option maxRecDepth 100000 in
set_option maxHeartbeats 4000000 in
theorem dec_c {v : Int} {t1 : Tok}
  (B : Below A₀ base outer h₀) (F : Fr h₀ L s.heap m) (X : (hd.heap_1 w.params).In h₀) (N : News h₀ L s.heap news) (T : Top p loose mean mg mb h₀) (hk : cs.kind = .function)
  (h0 : -1073741823 ≤ v) (h1 : v ≤ 1073741823)
  (hd : dp + 4 < recursionLimit) (hu : un + 50 < cLine)
  (hret : ∀ (t : Tok) (h' : Heap) (tk' : Nat), Fr h₀ L h' m → News h₀ L h' news → Q (.str (decS v) t) { s with heap := h', toks := tk' }) :
  wpAny (model PP w) (ktrTop dp un gd cn cs L a ccd cl outer) (call (.ref 105) [.int v t1]) Q E s := by
  have ha0 : 0 ≤ (if v < 0 then -v else v) := by split <;> omega
  have ha1 : (if v < 0 then -v else v) ≤ 1073741823 := by split <;> omega
  have hq := fdiv_pos_facts (a := if v < 0 then -v else v) (b := 65536) (by decide)
  have hm := fmod_in (a := if v < 0 then -v else v) (b := 65536) (by decide)
  refine wpAny_call ?_
  k_dflt (refine' code_part (ex := []) (rest := news) ?hx ?hr ?hf ?k1 ?k2 ?k3 ?k4 ?k5 ?kA ?kF ?kK ?k6 ?k7 ?k8 ?k9 ?kB ?_ ?c2 ?c3 ?c4 ?c5; (case hx => (intro q hq; cases hq)); (case hr => (exact fun _ h => h)); (case hf => (intro q _ hq; cases hq)); (case kA => exact rfl); (case kF => exact rfl); (case kK => assumption); (case k1 => k_asm); (case k2 => k_asm); (case k3 => k_asm); (case k4 => k_asm); (case k5 => k_asm); (case k6 => k_is); (case k7 => k_is); (case k8 => ktr_room); (case k9 => first | exact BindsTo.of_eq rfl | exact binds_K (by k_in) rfl (by k_is) rfl rfl rfl); (case c5 => decide); (case kB => exact locs rfl); (case c2 => exact rfl); (case c3 => exact rfl); (case c4 => exact rfl); k_whole; intro g' L' h' FG' F' N' B' X' T' l1'; (try k_lt l1'); (try k_lift B'); (refine foldM F' ?_; clear F'; intro m9 F'); (try first | (with_reducible refine foldA ?_; intro A9 d9 u9) | (with_reducible refine foldAu ?_; intro A9 d9 u9)); (try (refine foldE ?_; intro e9)); (try k_unmd); (try (refine foldQ ?_; intro qk ek)); (try dsimp only))
  have sh : StopHere8 := trivial
  (repeat' (first | ((with_reducible show wpAny _ _ (execs _ _) _ _ _); (fail_if_success (fail_if_success k_fold)); refine foldQ ?_; intro qk ek) | ((with_reducible show wpAny _ _ (exec _ _) _ _ _); (fail_if_success (fail_if_success k_fold)); refine foldQ ?_; intro qk ek; (try (refine foldN (by with_reducible assumption) ?_; intro n9 N9))) | ((with_reducible show wpAny _ _ (binaryOp Operator.Add (Value.str _ _) (Value.str _ _)) _ _ _); first | (with_reducible (k_here; (with_reducible show wpAny _ _ (binaryOp Operator.Add (Value.str _ _) (Value.str (Txt.slice _ _ _) _)) _ _ _); refine add_str ?_; intro _ _))) | ((with_reducible show wpAny _ _ (eval (Expr.Name _ _) _) _ _ _); first | (with_reducible (k_here; name_kind "local"; k_dflt (refine' nameX_L ?F_q ?v_q ?_ ?a_q ?b_q; (case F_q => k_asm); (case a_q => rfl); (case b_q => rfl); (case v_q => with_reducible assumption); k_whole))) | (with_reducible (k_here; name_kind "globalImplicit"; k_dflt (first | (name_is_builtin; refine' nameX_B ?F_q ?X_q ?T_q ?e_q ?v_q ?n_q ?_ ?a_q ?b_q; (case F_q => k_asm); (case X_q => k_asm); (case T_q => k_asm); (case a_q => rfl); (case b_q => rfl); (case e_q => k_is); (case v_q => boot_fast); (case n_q => decide); k_whole) | (refine' nameX_K ?F_q ?X_q ?T_q ?e_q ?_ ?a_q ?b_q; (case F_q => k_asm); (case X_q => k_asm); (case T_q => k_asm); (case a_q => rfl); (case b_q => rfl); (case e_q => k_is); k_whole)))) | (with_reducible (k_here; name_kind "local"; k_dflt (refine' nameX_L ?F_q ?v_q ?_ ?a_q ?b_q; (case F_q => k_asm); (case a_q => rfl); (case b_q => rfl); (case v_q => rfl); k_whole)))) | ((with_reducible show wpAny _ _ (exec (Stmt.For (Expr.Name _ _) (Expr.Call _ _ _ _) _ _ _) _) _ _ _); first | (with_reducible (k_here; (with_reducible rename StopHere8 => sh'); clear sh'; refine metStop8 ?_))) | ((with_reducible show wpAny _ _ (eval (Expr.IfExp _ _ _ _) _) _ _ _); first | (with_reducible (k_here; (with_reducible rename StopHere8 => sh'); clear sh'; refine metStop8 ?_))) | ((with_reducible show wpAny _ _ (call (Value.ref _) _) _ _ _); first | (with_reducible (k_here; (with_reducible apply reading_c); k_dflt (walk_at "c8"; (first | with_reducible assumption | omega); (first | with_reducible assumption | omega); (first | with_reducible assumption | omega); (first | with_reducible assumption | omega); ktr_room; ktr_units; k_whole); intro y' t' h' tk' F' N' e1'; (try k_sweep); (try k_fold))) | (with_reducible (k_here; (with_reducible apply rounded_c); k_dflt (walk_at "c8"; (first | with_reducible assumption | omega); (first | with_reducible assumption | omega); ktr_room; ktr_units; k_whole); intro y' t' h' tk' F' N' e1' e2' e3'; (try k_sweep); (try k_fold))) | (with_reducible (k_here; (with_reducible apply whole_c); k_dflt (walk_at "c8"; ktr_room; ktr_units; k_whole); intro h' tk' F' N'; (try k_sweep); (try k_fold); (try k_sweep); (try k_fold)))) | ((with_reducible show wpAny _ _ (storeName _ _ _) _ _ _); first | (with_reducible (k_here; k_dflt (refine' storeX_V ?F_q ?N_q ?_ ?a_q ?b_q; (case F_q => k_asm); (case N_q => k_asm); (case a_q => rfl); (case b_q => rfl); k_whole; intro h' tk' m' F' N'; (try k_sweep))))) | (k_unfold; (try dsimp only)) | (k_end; wrow_close) | (walk1; (all_goals (try dsimp only))) | (dsimp only; walk1) | (leave1; try dsimp only)))
  unfold MetStop8
  refine cut_str (x := decSign v) F' N' ?_ ?_
  · clear hret
    (repeat' (first | ((with_reducible show wpAny _ _ (execs _ _) _ _ _); (fail_if_success (fail_if_success k_fold)); refine foldQ ?_; intro qk ek) | ((with_reducible show wpAny _ _ (exec _ _) _ _ _); (fail_if_success (fail_if_success k_fold)); refine foldQ ?_; intro qk ek; (try (refine foldN (by with_reducible assumption) ?_; intro n9 N9))) | ((with_reducible show wpAny _ _ (binaryOp Operator.Add (Value.str _ _) (Value.str _ _)) _ _ _); first | (with_reducible (k_here; (with_reducible show wpAny _ _ (binaryOp Operator.Add (Value.str _ _) (Value.str (Txt.slice _ _ _) _)) _ _ _); refine add_str ?_; intro _ _))) | ((with_reducible show wpAny _ _ (eval (Expr.Name _ _) _) _ _ _); first | (with_reducible (k_here; name_kind "local"; k_dflt (refine' nameX_L ?F_q ?v_q ?_ ?a_q ?b_q; (case F_q => k_asm); (case a_q => rfl); (case b_q => rfl); (case v_q => with_reducible assumption); k_whole))) | (with_reducible (k_here; name_kind "globalImplicit"; k_dflt (first | (name_is_builtin; refine' nameX_B ?F_q ?X_q ?T_q ?e_q ?v_q ?n_q ?_ ?a_q ?b_q; (case F_q => k_asm); (case X_q => k_asm); (case T_q => k_asm); (case a_q => rfl); (case b_q => rfl); (case e_q => k_is); (case v_q => boot_fast); (case n_q => decide); k_whole) | (refine' nameX_K ?F_q ?X_q ?T_q ?e_q ?_ ?a_q ?b_q; (case F_q => k_asm); (case X_q => k_asm); (case T_q => k_asm); (case a_q => rfl); (case b_q => rfl); (case e_q => k_is); k_whole)))) | (with_reducible (k_here; name_kind "local"; k_dflt (refine' nameX_L ?F_q ?v_q ?_ ?a_q ?b_q; (case F_q => k_asm); (case a_q => rfl); (case b_q => rfl); (case v_q => rfl); k_whole)))) | ((with_reducible show wpAny _ _ (exec (Stmt.For (Expr.Name _ _) (Expr.Call _ _ _ _) _ _ _) _) _ _ _); first | (with_reducible (k_here; (with_reducible rename StopHere8 => sh'); clear sh'; refine metStop8 ?_))) | ((with_reducible show wpAny _ _ (eval (Expr.IfExp _ _ _ _) _) _ _ _); first | (with_reducible (k_here; (with_reducible rename StopHere8 => sh'); clear sh'; refine metStop8 ?_))) | ((with_reducible show wpAny _ _ (call (Value.ref _) _) _ _ _); first | (with_reducible (k_here; (with_reducible apply reading_c); k_dflt (walk_at "c8"; (first | with_reducible assumption | omega); (first | with_reducible assumption | omega); (first | with_reducible assumption | omega); (first | with_reducible assumption | omega); ktr_room; ktr_units; k_whole); intro y' t' h' tk' F' N' e1'; (try k_sweep); (try k_fold))) | (with_reducible (k_here; (with_reducible apply rounded_c); k_dflt (walk_at "c8"; (first | with_reducible assumption | omega); (first | with_reducible assumption | omega); ktr_room; ktr_units; k_whole); intro y' t' h' tk' F' N' e1' e2' e3'; (try k_sweep); (try k_fold))) | (with_reducible (k_here; (with_reducible apply whole_c); k_dflt (walk_at "c8"; ktr_room; ktr_units; k_whole); intro h' tk' F' N'; (try k_sweep); (try k_fold); (try k_sweep); (try k_fold)))) | ((with_reducible show wpAny _ _ (storeName _ _ _) _ _ _); first | (with_reducible (k_here; k_dflt (refine' storeX_V ?F_q ?N_q ?_ ?a_q ?b_q; (case F_q => k_asm); (case N_q => k_asm); (case a_q => rfl); (case b_q => rfl); k_whole; intro h' tk' m' F' N'; (try k_sweep))))) | (k_unfold; (try dsimp only)) | (k_end; wrow_close) | (walk1; (all_goals (try dsimp only))) | (dsimp only; walk1) | (leave1; try dsimp only)))
    all_goals unfold CutPost
    all_goals refine ⟨_, _, _, congrArg (fun q => Value.str q _) ?_, rfl, by with_reducible assumption, by with_reducible assumption⟩
    · exact sign_pos (by with_reducible assumption)
    · exact sign_neg (by with_reducible assumption)
  clear F' N'
  have sl := sign_len (v := v)
  intro ts' h' tk' F' N'
  have sh : StopHere8 := trivial
  (repeat' (first | ((with_reducible show wpAny _ _ (execs _ _) _ _ _); (fail_if_success (fail_if_success k_fold)); refine foldQ ?_; intro qk ek) | ((with_reducible show wpAny _ _ (exec _ _) _ _ _); (fail_if_success (fail_if_success k_fold)); refine foldQ ?_; intro qk ek; (try (refine foldN (by with_reducible assumption) ?_; intro n9 N9))) | ((with_reducible show wpAny _ _ (binaryOp Operator.Add (Value.str _ _) (Value.str _ _)) _ _ _); first | (with_reducible (k_here; (with_reducible show wpAny _ _ (binaryOp Operator.Add (Value.str _ _) (Value.str (Txt.slice _ _ _) _)) _ _ _); refine add_str ?_; intro _ _))) | ((with_reducible show wpAny _ _ (eval (Expr.Name _ _) _) _ _ _); first | (with_reducible (k_here; name_kind "local"; k_dflt (refine' nameX_L ?F_q ?v_q ?_ ?a_q ?b_q; (case F_q => k_asm); (case a_q => rfl); (case b_q => rfl); (case v_q => with_reducible assumption); k_whole))) | (with_reducible (k_here; name_kind "globalImplicit"; k_dflt (first | (name_is_builtin; refine' nameX_B ?F_q ?X_q ?T_q ?e_q ?v_q ?n_q ?_ ?a_q ?b_q; (case F_q => k_asm); (case X_q => k_asm); (case T_q => k_asm); (case a_q => rfl); (case b_q => rfl); (case e_q => k_is); (case v_q => boot_fast); (case n_q => decide); k_whole) | (refine' nameX_K ?F_q ?X_q ?T_q ?e_q ?_ ?a_q ?b_q; (case F_q => k_asm); (case X_q => k_asm); (case T_q => k_asm); (case a_q => rfl); (case b_q => rfl); (case e_q => k_is); k_whole)))) | (with_reducible (k_here; name_kind "local"; k_dflt (refine' nameX_L ?F_q ?v_q ?_ ?a_q ?b_q; (case F_q => k_asm); (case a_q => rfl); (case b_q => rfl); (case v_q => rfl); k_whole)))) | ((with_reducible show wpAny _ _ (exec (Stmt.For (Expr.Name _ _) (Expr.Call _ _ _ _) _ _ _) _) _ _ _); first | (with_reducible (k_here; (with_reducible rename StopHere8 => sh'); clear sh'; refine metStop8 ?_))) | ((with_reducible show wpAny _ _ (eval (Expr.IfExp _ _ _ _) _) _ _ _); first | (with_reducible (k_here; (with_reducible rename StopHere8 => sh'); clear sh'; refine metStop8 ?_))) | ((with_reducible show wpAny _ _ (call (Value.ref _) _) _ _ _); first | (with_reducible (k_here; (with_reducible apply reading_c); k_dflt (walk_at "c8"; (first | with_reducible assumption | omega); (first | with_reducible assumption | omega); (first | with_reducible assumption | omega); (first | with_reducible assumption | omega); ktr_room; ktr_units; k_whole); intro y' t' h' tk' F' N' e1'; (try k_sweep); (try k_fold))) | (with_reducible (k_here; (with_reducible apply rounded_c); k_dflt (walk_at "c8"; (first | with_reducible assumption | omega); (first | with_reducible assumption | omega); ktr_room; ktr_units; k_whole); intro y' t' h' tk' F' N' e1' e2' e3'; (try k_sweep); (try k_fold))) | (with_reducible (k_here; (with_reducible apply whole_c); k_dflt (walk_at "c8"; ktr_room; ktr_units; k_whole); intro h' tk' F' N'; (try k_sweep); (try k_fold); (try k_sweep); (try k_fold)))) | ((with_reducible show wpAny _ _ (storeName _ _ _) _ _ _); first | (with_reducible (k_here; k_dflt (refine' storeX_V ?F_q ?N_q ?_ ?a_q ?b_q; (case F_q => k_asm); (case N_q => k_asm); (case a_q => rfl); (case b_q => rfl); k_whole; intro h' tk' m' F' N'; (try k_sweep))))) | (k_unfold; (try dsimp only)) | (k_end; wrow_close) | (walk1; (all_goals (try dsimp only))) | (dsimp only; walk1) | (leave1; try dsimp only)))
  unfold MetStop8
  rename Fr g' L' _ _ => Fo; rename News g' L' _ _ => No
  dsimp (config := { zetaDelta := true }) only at Fo No
  generalize hq1 : (if v < 0 then -v else v).fdiv 65536 = q1 at Fo No hq ⊢
  generalize hr1 : (if v < 0 then -v else v).fmod 65536 = r1 at Fo No hm ⊢
  have hm1 := hm.1
  have hm2 := hm.2
  clear hm
  refine foldM Fo ?_; clear Fo; intro m8 Fo
  refine cut_for (DecPost v q1 r1) (by with_reducible assumption) News.nil ?_ ?_
  · clear hret
    (repeat' (first | ((with_reducible show wpAny _ _ (execs _ _) _ _ _); (fail_if_success (fail_if_success k_fold)); refine foldQ ?_; intro qk ek) | ((with_reducible show wpAny _ _ (exec _ _) _ _ _); (fail_if_success (fail_if_success k_fold)); refine foldQ ?_; intro qk ek; (try (refine foldN (by with_reducible assumption) ?_; intro n9 N9))) | ((with_reducible show wpAny _ _ (binaryOp Operator.Add (Value.str _ _) (Value.str _ _)) _ _ _); first | (with_reducible (k_here; (with_reducible show wpAny _ _ (binaryOp Operator.Add (Value.str _ _) (Value.str (Txt.slice _ _ _) _)) _ _ _); refine add_str ?_; intro _ _))) | ((with_reducible show wpAny _ _ (eval (Expr.Name _ _) _) _ _ _); first | (with_reducible (k_here; name_kind "local"; k_dflt (refine' nameX_L ?F_q ?v_q ?_ ?a_q ?b_q; (case F_q => k_asm); (case a_q => rfl); (case b_q => rfl); (case v_q => with_reducible assumption); k_whole))) | (with_reducible (k_here; name_kind "globalImplicit"; k_dflt (first | (name_is_builtin; refine' nameX_B ?F_q ?X_q ?T_q ?e_q ?v_q ?n_q ?_ ?a_q ?b_q; (case F_q => k_asm); (case X_q => k_asm); (case T_q => k_asm); (case a_q => rfl); (case b_q => rfl); (case e_q => k_is); (case v_q => boot_fast); (case n_q => decide); k_whole) | (refine' nameX_K ?F_q ?X_q ?T_q ?e_q ?_ ?a_q ?b_q; (case F_q => k_asm); (case X_q => k_asm); (case T_q => k_asm); (case a_q => rfl); (case b_q => rfl); (case e_q => k_is); k_whole)))) | (with_reducible (k_here; name_kind "local"; k_dflt (refine' nameX_L ?F_q ?v_q ?_ ?a_q ?b_q; (case F_q => k_asm); (case a_q => rfl); (case b_q => rfl); (case v_q => rfl); k_whole)))) | ((with_reducible show wpAny _ _ (exec (Stmt.For (Expr.Name _ _) (Expr.Call _ _ _ _) _ _ _) _) _ _ _); first | (with_reducible (k_here; (with_reducible rename StopHere8 => sh'); clear sh'; refine metStop8 ?_))) | ((with_reducible show wpAny _ _ (eval (Expr.IfExp _ _ _ _) _) _ _ _); first | (with_reducible (k_here; (with_reducible rename StopHere8 => sh'); clear sh'; refine metStop8 ?_))) | ((with_reducible show wpAny _ _ (call (Value.ref _) _) _ _ _); first | (with_reducible (k_here; (with_reducible apply reading_c); k_dflt (walk_at "c8"; (first | with_reducible assumption | omega); (first | with_reducible assumption | omega); (first | with_reducible assumption | omega); (first | with_reducible assumption | omega); ktr_room; ktr_units; k_whole); intro y' t' h' tk' F' N' e1'; (try k_sweep); (try k_fold))) | (with_reducible (k_here; (with_reducible apply rounded_c); k_dflt (walk_at "c8"; (first | with_reducible assumption | omega); (first | with_reducible assumption | omega); ktr_room; ktr_units; k_whole); intro y' t' h' tk' F' N' e1' e2' e3'; (try k_sweep); (try k_fold))) | (with_reducible (k_here; (with_reducible apply whole_c); k_dflt (walk_at "c8"; ktr_room; ktr_units; k_whole); intro h' tk' F' N'; (try k_sweep); (try k_fold); (try k_sweep); (try k_fold)))) | ((with_reducible show wpAny _ _ (storeName _ _ _) _ _ _); first | (with_reducible (k_here; k_dflt (refine' storeX_V ?F_q ?N_q ?_ ?a_q ?b_q; (case F_q => k_asm); (case N_q => k_asm); (case a_q => rfl); (case b_q => rfl); k_whole; intro h' tk' m' F' N'; (try k_sweep))))) | (k_unfold; (try dsimp only)) | (k_end; wrow_close) | (walk1; (all_goals (try dsimp only))) | (dsimp only; walk1) | (leave1; try dsimp only)))
    all_goals refine ⟨_, _, _, rfl, rfl, by first | with_reducible assumption | assumption, News.nil, _, _, _, _, _, _, rfl, rfl, rfl, rfl, ?_, by omega, by omega, by omega, by omega⟩
    all_goals first
      | exact pick0 (by with_reducible assumption) (by with_reducible assumption) (by first | with_reducible assumption | exact Eq.symm (by with_reducible assumption))
      | exact pick1 (by with_reducible assumption) (by with_reducible assumption) (by with_reducible assumption) (by with_reducible assumption) (by with_reducible assumption) (by first | with_reducible assumption | exact Eq.symm (by with_reducible assumption))
      | exact pick2 (by with_reducible assumption) (by with_reducible assumption) (by with_reducible assumption) (by with_reducible assumption) (by with_reducible assumption) (by with_reducible assumption) (by with_reducible assumption) (by with_reducible assumption) (by first | with_reducible assumption | exact Eq.symm (by with_reducible assumption))
      | exact pick3 (by with_reducible assumption) (by with_reducible assumption) (by with_reducible assumption) (by with_reducible assumption) (by with_reducible assumption) (by with_reducible assumption) (by with_reducible assumption) (by with_reducible assumption) (by with_reducible assumption) (by with_reducible assumption) (by with_reducible assumption) (by first | with_reducible assumption | exact Eq.symm (by with_reducible assumption))
      | exact pick4 (by with_reducible assumption) (by with_reducible assumption) (by with_reducible assumption) (by with_reducible assumption) (by with_reducible assumption) (by with_reducible assumption) (by with_reducible assumption) (by with_reducible assumption) (by with_reducible assumption) (by with_reducible assumption) (by with_reducible assumption) (by with_reducible assumption) (by with_reducible assumption)
  clear Fo No
  intro h2 tk2 m2 F2 N2 ⟨sc, n, t1, t2, tg, tp, m2a, m2b, m2c, m2d, hp, b1, b2, b3, b4⟩
  (repeat' (first | ((with_reducible show wpAny _ _ (execs _ _) _ _ _); (fail_if_success (fail_if_success k_fold)); refine foldQ ?_; intro qk ek) | ((with_reducible show wpAny _ _ (exec _ _) _ _ _); (fail_if_success (fail_if_success k_fold)); refine foldQ ?_; intro qk ek; (try (refine foldN (by with_reducible assumption) ?_; intro n9 N9))) | ((with_reducible show wpAny _ _ (binaryOp Operator.Add (Value.str _ _) (Value.str _ _)) _ _ _); first | (with_reducible (k_here; (with_reducible show wpAny _ _ (binaryOp Operator.Add (Value.str _ _) (Value.str (Txt.slice _ _ _) _)) _ _ _); refine add_str ?_; intro _ _))) | ((with_reducible show wpAny _ _ (eval (Expr.Name _ _) _) _ _ _); first | (with_reducible (k_here; name_kind "local"; k_dflt (refine' nameX_L ?F_q ?v_q ?_ ?a_q ?b_q; (case F_q => k_asm); (case a_q => rfl); (case b_q => rfl); (case v_q => with_reducible assumption); k_whole))) | (with_reducible (k_here; name_kind "globalImplicit"; k_dflt (first | (name_is_builtin; refine' nameX_B ?F_q ?X_q ?T_q ?e_q ?v_q ?n_q ?_ ?a_q ?b_q; (case F_q => k_asm); (case X_q => k_asm); (case T_q => k_asm); (case a_q => rfl); (case b_q => rfl); (case e_q => k_is); (case v_q => boot_fast); (case n_q => decide); k_whole) | (refine' nameX_K ?F_q ?X_q ?T_q ?e_q ?_ ?a_q ?b_q; (case F_q => k_asm); (case X_q => k_asm); (case T_q => k_asm); (case a_q => rfl); (case b_q => rfl); (case e_q => k_is); k_whole)))) | (with_reducible (k_here; name_kind "local"; k_dflt (refine' nameX_L ?F_q ?v_q ?_ ?a_q ?b_q; (case F_q => k_asm); (case a_q => rfl); (case b_q => rfl); (case v_q => rfl); k_whole)))) | ((with_reducible show wpAny _ _ (exec (Stmt.For (Expr.Name _ _) (Expr.Call _ _ _ _) _ _ _) _) _ _ _); first | (with_reducible (k_here; (with_reducible rename StopHere8 => sh'); clear sh'; refine metStop8 ?_))) | ((with_reducible show wpAny _ _ (eval (Expr.IfExp _ _ _ _) _) _ _ _); first | (with_reducible (k_here; (with_reducible rename StopHere8 => sh'); clear sh'; refine metStop8 ?_))) | ((with_reducible show wpAny _ _ (call (Value.ref _) _) _ _ _); first | (with_reducible (k_here; (with_reducible apply reading_c); k_dflt (walk_at "c8"; (first | with_reducible assumption | omega); (first | with_reducible assumption | omega); (first | with_reducible assumption | omega); (first | with_reducible assumption | omega); ktr_room; ktr_units; k_whole); intro y' t' h' tk' F' N' e1'; (try k_sweep); (try k_fold))) | (with_reducible (k_here; (with_reducible apply rounded_c); k_dflt (walk_at "c8"; (first | with_reducible assumption | omega); (first | with_reducible assumption | omega); ktr_room; ktr_units; k_whole); intro y' t' h' tk' F' N' e1' e2' e3'; (try k_sweep); (try k_fold))) | (with_reducible (k_here; (with_reducible apply whole_c); k_dflt (walk_at "c8"; ktr_room; ktr_units; k_whole); intro h' tk' F' N'; (try k_sweep); (try k_fold); (try k_sweep); (try k_fold)))) | ((with_reducible show wpAny _ _ (storeName _ _ _) _ _ _); first | (with_reducible (k_here; k_dflt (refine' storeX_V ?F_q ?N_q ?_ ?a_q ?b_q; (case F_q => k_asm); (case N_q => k_asm); (case a_q => rfl); (case b_q => rfl); k_whole; intro h' tk' m' F' N'; (try k_sweep))))) | (k_unfold; (try dsimp only)) | (k_end; wrow_close) | (walk1; (all_goals (try dsimp only))) | (dsimp only; walk1) | (leave1; try dsimp only)))
  rename Fr h₀ L _ m => FF; rename News h₀ L _ news => NN
  exact cb_retS hret (dec_eq (v := v) rfl hq1 hr1 hp) FF NN
end
end
theorem decNear_b {P sc : Int} (h0 : 0 ≤ P) (h1 : P ≤ 65535) (hs : 0 ≤ P * sc) (hs1 : P * sc ≤ 65535 * 100000) : 0 ≤ decNear (P * sc) ∧ decNear (P * sc) ≤ 200000 := by
  have hf := fdiv_pos_facts (a := 2 * (P * sc) + 65536) (b := 131072) (by decide)
  unfold decNear
  omega
theorem decPick_b {P : Int} (h0 : 0 ≤ P) (h1 : P ≤ 65535) : 0 ≤ (decPick P).1 ∧ (decPick P).1 ≤ 100000 ∧ 0 ≤ (decPick P).2 ∧ (decPick P).2 ≤ 200000 := by
  unfold decPick
  have b1 := decNear_b (sc := 10 * 1) h0 h1 (by omega) (by omega)
  have b2 := decNear_b (sc := 10 * (10 * 1)) h0 h1 (by omega) (by omega)
  have b3 := decNear_b (sc := 10 * (10 * (10 * 1))) h0 h1 (by omega) (by omega)
  have b4 := decNear_b (sc := 10 * (10 * (10 * (10 * 1)))) h0 h1 (by omega) (by omega)
  have b5 := decNear_b (sc := 10 * (10 * (10 * (10 * (10 * 1))))) h0 h1 (by omega) (by omega)
  split
  · dsimp only; omega
  · split
    · dsimp only; omega
    · split
      · dsimp only; omega
      · split
        · dsimp only; omega
        · dsimp only; omega
theorem int_len {i : Int} (h0 : 0 ≤ i) (h1 : i < 10000000000) : (Str.ofString (toString i)).length ≤ 11 := by
  rw [PySem.ofString_length]
  exact int_text_length_le10 (k := 10) (by decide) (by
    have : i.natAbs = i.toNat := by omega
    rw [this]
    have h : (10 : Nat) ^ 10 = 10000000000 := by decide
    rw [h]; omega)
theorem absI_b {v : Int} (h0 : -1073741823 ≤ v) (h1 : v ≤ 1073741823) : 0 ≤ absI v ∧ absI v ≤ 1073741823 := by
  unfold absI; split <;> omega
theorem decS_len {v : Int} (h0 : -1073741823 ≤ v) (h1 : v ≤ 1073741823) : (decS v).length ≤ 100 := by
  have ha := absI_b h0 h1
  have hq := fdiv_pos_facts (a := absI v) (b := 65536) (by decide)
  have hm := fmod_in (a := absI v) (b := 65536) (by decide)
  have hp := decPick_b hm.1 (by omega)
  have l1 := int_len (i := (absI v).fdiv 65536) (by omega) (by omega)
  have l2 := int_len (i := (decPick ((absI v).fmod 65536)).1 + (decPick ((absI v).fmod 65536)).2) (by omega) (by omega)
  have l3 := Txt.slice_le (Str.ofString (toString ((decPick ((absI v).fmod 65536)).1 + (decPick ((absI v).fmod 65536)).2))) (some 1) none
  have l4 : (decSign v).length ≤ 1 := by unfold decSign; split <;> decide
  have l5 : (Str.ofString ".").length = 1 := by decide
  unfold decS
  simp only [Str.length_append]
  omega
def partS (v o : Int) (u : Str) : Str := decS v ++ (if o = 0 then u else Str.ofString "fi" ++ Txt.mul (Str.ofString "l") o)
def textS (g : G5) (u : Str) : Str :=
  let b := decS g.w ++ u
  let c := if g.u = 0 then b else b ++ (Str.ofString " plus " ++ partS g.u g.uo u)
  if g.d = 0 then c else c ++ (Str.ofString " minus " ++ partS g.d g.od u)
theorem fi_name {o : Int} (h0 : 1 ≤ o) (h1 : o ≤ 3) : (Str.ofString "fi" ++ Txt.mul (Str.ofString "l") o).length ≤ 5 := by
  have : o = 1 ∨ o = 2 ∨ o = 3 := by omega
  rcases this with rfl | rfl | rfl <;> decide +kernel
theorem partS_len {v o : Int} {u : Str} (h0 : -1073741823 ≤ v) (h1 : v ≤ 1073741823) (h2 : 0 ≤ o) (h3 : o ≤ 3) (hu : u.length ≤ 100) : (partS v o u).length ≤ 300 := by
  have l1 := decS_len h0 h1
  unfold partS
  split
  · rw [Str.length_append]; omega
  · have l2 := fi_name (o := o) (by omega) h3
    rw [Str.length_append]; omega
section
variable {w : World} {p : Program} {loose : List Str} {mean : ExcName → Option Value} {mg mb : Str → Option Value}
  {dp un : Nat} {gd : Option (List Code)} {cn : Str} {cs : Scope} {a : Addr} {ccd : Value} {cl : List (Str × Addr)} {outer : List Env} {A₀ : Around} {base h₀ : Heap} {L : Addr} {m : Str → Option Value} {news : List (Addr × Obj)} {s : Shared} {Q E : Value → Shared → Prop}

theorem dec_d {v : Int} {t1 : Tok}
  (B : Below A₀ base outer h₀) (F : Fr h₀ L s.heap m) (X : (hd.heap_1 w.params).In h₀) (N : News h₀ L s.heap news) (T : Top p loose mean mg mb h₀) (hk : cs.kind = .function)
  (h0 : -1073741823 ≤ v) (h1 : v ≤ 1073741823)
  (hd : dp + 4 < recursionLimit) (hu : un + 50 < cLine)
  (hret : ∀ (t : Tok) (h' : Heap) (tk' : Nat), Fr h₀ L h' m → News h₀ L h' news → (decS v).length ≤ 100 → Q (.str (decS v) t) { s with heap := h', toks := tk' }) :
  wpAny (model PP w) (ktrTop dp un gd cn cs L a ccd cl outer) (call (.ref 105) [.int v t1]) Q E s :=
  dec_c B F X N T hk h0 h1 hd hu fun t h' tk' F' N' => hret t h' tk' F' N' (decS_len h0 h1)
end
section
variable {w : World} {p : Program} {loose : List Str} {mean : ExcName → Option Value} {mg mb : Str → Option Value}
  {dp un : Nat} {gd : Option (List Code)} {cn : Str} {cs : Scope} {a : Addr} {ccd : Value} {cl : List (Str × Addr)} {outer : List Env} {A₀ : Around} {base h₀ : Heap} {L : Addr} {m : Str → Option Value} {news : List (Addr × Obj)} {s : Shared} {Q E : Value → Shared → Prop}

set_option maxRecDepth 100000 in
set_option maxHeartbeats 4000000 in
theorem partt_c {v o : Int} {u : Str} {t1 t2 t3 : Tok}
  {A : Around} {vs8 : List Value} (hv8 : vs8 = [.int v t1, .int o t2, .str u t3]) (hA : A.frames = some (envX cn cs L a ccd cl :: outer)) (hh : A.handled = none) (B : Below A₀ base outer h₀) (F : Fr h₀ L s.heap m) (X : (hd.heap_1 w.params).In h₀) (N : News h₀ L s.heap news) (T : Top p loose mean mg mb h₀) (hk : cs.kind = .function)
  (h0 : -1073741823 ≤ v) (h1 : v ≤ 1073741823) (h2 : 0 ≤ o) (h3 : o ≤ 3) (hul : u.length ≤ 100)
  (hd : A.depth + 6 < recursionLimit) (hu : A.units + 70 < cLine)
  (hret : ∀ (t : Tok) (h' : Heap) (tk' : Nat), Fr h₀ L h' m → News h₀ L h' news → (partS v o u).length ≤ 300 → Q (.str (partS v o u) t) { s with heap := h', toks := tk' }) :
  wpAny (model PP w) A (call (.ref 133) vs8) Q E s := by
  subst hv8
  refine wp_at_top hA hh ?_
  have hret' := fun t h' tk' F' N' => hret t h' tk' F' N' (partS_len h0 h1 h2 h3 hul)
  refine wpAny_call ?_
  k_dflt (refine' code_part (ex := []) (rest := news) ?hx ?hr ?hf ?k1 ?k2 ?k3 ?k4 ?k5 ?kA ?kF ?kK ?k6 ?k7 ?k8 ?k9 ?kB ?_ ?c2 ?c3 ?c4 ?c5; (case hx => (intro q hq; cases hq)); (case hr => (exact fun _ h => h)); (case hf => (intro q _ hq; cases hq)); (case kA => exact rfl); (case kF => exact rfl); (case kK => assumption); (case k1 => k_asm); (case k2 => k_asm); (case k3 => k_asm); (case k4 => k_asm); (case k5 => k_asm); (case k6 => k_is); (case k7 => k_is); (case k8 => ktr_room); (case k9 => first | exact BindsTo.of_eq rfl | exact binds_K (by k_in) rfl (by k_is) rfl rfl rfl); (case c5 => decide); (case kB => exact locs rfl); (case c2 => exact rfl); (case c3 => exact rfl); (case c4 => exact rfl); k_whole; intro g' L' h' FG' F' N' B' X' T' l1'; (try k_lt l1'); (try k_lift B'); (refine foldM F' ?_; clear F'; intro m9 F'); (try first | (with_reducible refine foldA ?_; intro A9 d9 u9) | (with_reducible refine foldAu ?_; intro A9 d9 u9)); (try (refine foldE ?_; intro e9)); (try k_unmd); (try (refine foldQ ?_; intro qk ek)); (try dsimp only))
  (repeat' (first | ((with_reducible show wpAny _ _ (execs _ _) _ _ _); (fail_if_success (fail_if_success k_fold)); refine foldQ ?_; intro qk ek) | ((with_reducible show wpAny _ _ (exec _ _) _ _ _); (fail_if_success (fail_if_success k_fold)); refine foldQ ?_; intro qk ek; (try (refine foldN (by with_reducible assumption) ?_; intro n9 N9))) | ((with_reducible show wpAny _ _ (call (Value.ref _) _) _ _ _); first | (with_reducible (k_here; (with_reducible show wpAny _ _ (call (Value.ref 105) _) _ _ _); k_dflt (refine' wp_at_top ?tA_q ?tH_q ?_; (case tA_q => exact rfl); (case tH_q => exact rfl); refine' dec_d ?k1_q ?k2_q ?k3_q ?k4_q ?k5_q ?kK_q ?n1_q ?n2_q ?kd_q ?ku_q ?_; (case k1_q => k_asm); (case k2_q => k_asm); (case k3_q => k_asm); (case k4_q => k_asm); (case k5_q => k_asm); (case kK_q => first | exact rfl | assumption); (case n1_q => first | with_reducible assumption | omega); (case n2_q => first | with_reducible assumption | omega); (case kd_q => ktr_room); (case ku_q => ktr_units); k_whole); intro t' h' tk' F' N' e1'; (try k_sweep); (try k_fold)))) | ((with_reducible show wpAny _ _ (eval (Expr.Name _ _) _) _ _ _); first | (with_reducible (k_here; name_kind "globalImplicit"; k_dflt (first | (name_is_builtin; refine' nameX_B ?F_q ?X_q ?T_q ?e_q ?v_q ?n_q ?_ ?a_q ?b_q; (case F_q => k_asm); (case X_q => k_asm); (case T_q => k_asm); (case a_q => rfl); (case b_q => rfl); (case e_q => k_is); (case v_q => boot_fast); (case n_q => decide); k_whole) | (refine' nameX_K ?F_q ?X_q ?T_q ?e_q ?_ ?a_q ?b_q; (case F_q => k_asm); (case X_q => k_asm); (case T_q => k_asm); (case a_q => rfl); (case b_q => rfl); (case e_q => k_is); k_whole)))) | (with_reducible (k_here; name_kind "local"; k_dflt (refine' nameX_L ?F_q ?v_q ?_ ?a_q ?b_q; (case F_q => k_asm); (case a_q => rfl); (case b_q => rfl); (case v_q => rfl); k_whole)))) | (k_unfold; (try dsimp only)) | (k_end; wrow_close) | (walk1; (all_goals (try dsimp only))) | (dsimp only; walk1) | (leave1; try dsimp only)))
  all_goals (rename Fr h₀ L _ m => FF; rename News h₀ L _ news => NN)
  · exact cb_retS hret' (by unfold partS; rw [if_pos (by assumption)]) FF NN
  · exact cb_retS hret' (by unfold partS; rw [if_neg (by assumption)]) FF NN
end
section
variable {prog : Program} {w : World} {A : Around} {R : Result → Shared → Prop} {h : Heap} {g : Array GenState} {d : Drawn} {t : Nat} {os : OsState} {M : Model} {E : Value → Shared → Prop}
variable {nm q : Str} {C N : Addr} {bs bm bmB : List Value} {hdct : Bool} {sn : List Str} {sub : List Value} {ab : Bool} {col : Option Bool} {dd : Option Addr} {k0 k1 k2 k3 k5 : Option Value} {B newId initId : String}

/-- __new__ of an own exception class, whatever stands between it and its built-in base -/
theorem my_check_new (F : ExcBaseFacts B newId initId bmB) (hb : bm.contains (.type B) = true) {rest : List Value} {Q : Unit → Shared → Prop} (hC : h.get? C = some (excClassObj nm q C N bs bm hdct sn sub ab col dd k0 k1 k2 k3 k5 newId))
    (hq : Q () ⟨h, g, d, t, os⟩) : wpAny M A (checkBuiltinCall newId ⟨.ref C :: rest, []⟩) Q E ⟨h, g, d, t, os⟩ := by
  have hc : (Value.ref C :: bm).contains (.type B) = true := by rw [List.contains_cons, hb, Bool.or_true]
  have hs := F.noStar
  simp only [checkBuiltinCall, F.newKind, F.newSplit, F.newRow]
  repeat (first | refine wpAny_loadPart_at hC ?_ | (refine wpAny_isSubtype_exc hC ?_; rw [hc]) | refine wpAny_staticBase_exc hC ?_ | refine wpAny_madeBy_exc hC ?_ | simp only [bne_self_eq_false, Bool.false_eq_true, if_false] | wp_step)
  exact hq
theorem my_new (F : ExcBaseFacts B newId initId bmB) (hb : bm.contains (.type B) = true) (ha : bm.contains (.type "AttributeError") = false) (hn : bm.contains (.type "NameError") = false) {rest : List Value}
    (hC : h.get? C = some (excClassObj nm q C N bs bm hdct sn sub ab col dd k0 k1 k2 k3 k5 newId))
    (hq : R (.ok (.ret (.ref (h.objs.size + 1)))) ⟨(h.push { cls := .type "tuple", data := .seq rest.toArray }).push
      { cls := .ref C, data := .fields #[.ref h.objs.size, .none, .none, .none, .bool false, .none] }, g, d, t, os⟩) (hrest : rest.length ≤ sizeLine := by size_fits) :
    codeAny (model prog w) A (.builtin newId ⟨.ref C :: rest, []⟩) R ⟨h, g, d, t, os⟩ := by
  have he := F.ends
  have c1 : (Value.ref C :: bm).contains (.type B) = true := by rw [List.contains_cons, hb, Bool.or_true]
  have c2 : (Value.ref C :: bm).contains (.type "AttributeError") = false := by rw [List.contains_cons, ha]; rfl
  have c3 : (Value.ref C :: bm).contains (.type "NameError") = false := by rw [List.contains_cons, hn]; rfl
  refine codeAny_builtinAt F.entry ?_
  unfold Builtin.«BaseException.__new__»
  refine PySem.wpAt_bind ?_
  show PySem.wpAt _ _ _ (stack >>= _) _ _ _
  refine PySem.wpAt_bind (PySem.wpAt_stack fun p below => PySem.wpAt_of_wpAny ?_)
  wp_walk
  refine PySem.wpAt_of_wpAny ?_
  rw [F.owner]
  repeat (first | with_reducible refine wpAny_madeHere_exc F.canon hC ?_ | with_reducible refine wpAny_loadPart_at hC ?_ | (with_reducible refine wpAny_isSubtype_exc hC ?_; first | rw [c1] | rw [c2] | rw [c3]) | wp_step)
  show R _ _
  rw [Heap.size_push]
  exact hq
end
section
variable {prog : Program} {w : World} {A : Around} {R : Result → Shared → Prop} {h : Heap} {g : Array GenState} {d : Drawn} {t : Nat} {os : OsState} {K : Frag}
variable {nm q : Str} {C N fI : Addr} {bs bm bmB : List Value} {hdct : Bool} {sn : List Str} {sub : List Value} {ab : Bool} {col : Option Bool} {dd : Option Addr} {k0 k1 k2 k3 k5 : Option Value} {B newId initId : String}
/-- an own exception class called, its __init__ a def of the text's -/
theorem my_make (F : ExcBaseFacts B newId initId bmB) (hb : bm.contains (.type B) = true) (ha : bm.contains (.type "AttributeError") = false) (hn : bm.contains (.type "NameError") = false) {rest : List Value}
    (hC : h.get? C = some (excClassObj nm q C N bs bm hdct sn sub ab col dd k0 k1 k2 k3 k5 newId)) (X : K.In h)
    (hi : findIn K (.ref C) "__init__" = some (some (.ref fI))) (hf : typeIn K (.ref fI) = some (.type "function"))
    (hq : codeAny (model prog w) (A.under (.builtin "type.__call__" ⟨.ref C :: rest, []⟩)) (.call (.ref fI) ⟨.ref (h.objs.size + 1) :: rest, []⟩) (InitBack (h.objs.size + 1) R)
      ⟨(h.push { cls := .type "tuple", data := .seq rest.toArray }).push { cls := .ref C, data := .fields #[.ref h.objs.size, .none, .none, .none, .bool false, .none] }, g, d, t, os⟩) (hrest : rest.length ≤ sizeLine := by size_fits) :
    codeAny (model prog w) A (.call (.ref C) ⟨rest, []⟩) R ⟨h, g, d, t, os⟩ := by
  have f1 := tc_lookup
  have f2 := tc_bind (.ref C)
  have hT : (⟨h, g, d, t, os⟩ : Shared).TypeIs (.ref C) "type" := ⟨_, hC, rfl⟩
  refine codeAny_of_tree ?_
  show wpAny _ _ (callAny (.ref C) _) _ _ _
  repeat (any_goals (first | assumption | with_reducible refine wpAny_loadPart_at hC ?_ | wp_step))
  refine ⟨rfl, ?_⟩
  refine codeAny_call_builtin_at (Code.quiet_builtin _ (by decide +kernel)) entry_typeCall (wpAny_check_type_call_sub hC ?_)
  repeat (first | with_reducible refine wpAny_loadPart_at hC ?_ | with_reducible refine wpAny_madeBy_exc hC ?_ | wp_step)
  refine codeAny_call_builtin_code (Code.quiet_builtin _ F.quiet) (my_check_new F hb hC ?_)
  refine my_new F hb ha hn hC ?_ hrest
  show wpAny _ _ _ _ _ _
  have up : ∀ b o, h.get? b = some o → ((h.push { cls := .type "tuple", data := .seq rest.toArray }).push { cls := .ref C, data := .fields #[.ref h.objs.size, .none, .none, .none, .bool false, .none] }).get? b = some o :=
    fun b o e => Heap.get?_push_of_some _ (Heap.get?_push_of_some _ e)
  have hC₁ := up _ _ hC
  have X₁ := X.keeps up
  have hget : ((h.push { cls := .type "tuple", data := .seq rest.toArray }).push
      { cls := .ref C, data := .fields #[.ref h.objs.size, .none, .none, .none, .bool false, .none] }).get? (h.objs.size + 1) = some
      { cls := .ref C, data := .fields #[.ref h.objs.size, .none, .none, .none, .bool false, .none] } := by heap_get
  have hcC : (Value.ref C :: bm).contains (.ref C) = true := by simp
  unfold isInstance
  repeat (first | with_reducible refine wpAny_loadPart_at hget ?_ | (with_reducible refine wpAny_isSubtype_exc hC₁ ?_; rw [hcC]) | wp_step)
  refine wpAny_isSubtype_exc hC₁ ?_
  rw [hcC]
  repeat (first | with_reducible refine wpAny_loadPart_at hget ?_ | wp_step)
  show wpAny _ _ (typeLookup (.ref C) _) _ _ _
  refine (looks_findIn X₁ hi).here ?_
  refine wpAny_holding (wpAny_bind ((bind_fn X₁ _ hf).here ?_))
  refine wpAny_bind (wpAny_call (codeAny_mono hq fun r s' z => ?_))
  rcases r with e | (v | _ | _ | _) <;> first | exact z | exact z.elim | skip
  obtain ⟨rfl, z⟩ := z
  exact wpAny_pure (wpAny_pure z)
end
section
variable {prog : Program} {w : World} {A : Around} {R : Result → Shared → Prop} {E : Value → Shared → Prop} {s : Shared} {K : Frag} {C x : Addr} {cd : ClassData} {vs : Array Value} {sl : Array (Option Value)} {name : Str} {v : Value}
open Builtin Builtin.ObjectAttr
/-- the first own attribute of an exception: its dict is made -/
theorem exc_osa {tk : Tok} (X : K.In s.heap) (hx : s.heap.get? x = some ⟨.ref C, none, .fields vs, sl⟩) (hc : clsIn K C = some cd) (hne : cd.mro.isEmpty = false) (hob : cd.mro.contains (.type "object") = true)
    (hpass : refuseLoop (.ref x) "__setattr__" cd.mro = pure ()) (hdct : cd.hasDict = true) (ht : takerIn K C name = some none)
    (h : ∀ h' d tk', (∀ b o, b ≠ x → s.heap.get? b = some o → h'.get? b = some o) → h'.get? x = some ⟨.ref C, some d, .fields vs, sl⟩ → R (.ok (.ret .none)) { s with heap := h', toks := tk' }) :
    codeAny (model prog w) A (.call (.builtin "object.__setattr__") ⟨[.ref x, .str name tk, v], []⟩) R s := by
  have SF := PySem.F.store_object
  have I : InstAt s.heap x ⟨.ref C, none, .fields vs, sl⟩ C none := ⟨hx, rfl, rfl, trivial⟩
  have sub : Looks (model prog w) s.heap (isInstance (.ref x) (.type "object")) true := I.type.andThen (looks_mroIn X (by unfold mroIn; rw [hc, Option.bind_some, if_neg (by rw [hne]; decide), hob]))
  refine codeAny_call_builtin SF.slot.plain SF.entry (@check_slot (model prog w) _ _ s "object.__setattr__" "object" "__setattr__" (.ref x) [.str name tk, v] [] _ SF.kind SF.split sub (SF.args (.ref x) (.str name tk) v) ?_)
  refine cps ?_; intro Q9 hQ9; obtain ⟨attr, ha, hr⟩ := Option.bind_eq_some_iff.mp ht; refine hQ9 ?_; clear hQ9 Q9
  have hm : Looks (model prog w) s.heap (mroOf (.ref C)) cd.mro := (looks_clsIn X hc).andThen .now
  have L3 : Looks (model prog w) s.heap (storeTaker? attr) none := by
    cases attr with
    | none => exact .now
    | some a =>
      refine cps ?_; intro Q9 hQ9; obtain ⟨b, hb, hb'⟩ := Option.map_eq_some_iff.mp hr; refine hQ9 ?_; clear hQ9 Q9
      refine (looks_takesIn X hb).andThen ?_
      cases b
      · exact .now
      · cases hb'
  rw [osa_eq, refuse_eq]
  refine wpAny_bind (wpAny_bind (I.type.here (wpAny_bind (hm.here ?_))))
  rw [hpass]
  refine wpAny_pure (wpAny_bind (I.type.here (wpAny_bind ((looks_findIn X ha).here (wpAny_bind (L3.here ?_))))))
  dsimp only
  refine wpAny_bind (wpAny_pure (wpAny_bind (wpAny_bind (wpAny_loadPart hx (wpAny_bind ((looks_clsIn X hc).here ?_))))))
  rw [hdct]
  dsimp only
  rw [if_neg (by decide), if_neg (by simp [typeHasDict])]
  have hx₁ : (s.heap.push { cls := .type "dict", data := .dict #[] }).get? x = some ⟨.ref C, none, .fields vs, sl⟩ := Heap.get?_push_of_some _ hx
  have hxs : x ≠ s.heap.objs.size := Nat.ne_of_lt (Heap.lt_size hx)
  refine wpAny_bind (wpAny_alloc (wpAny_bind (wpAny_update hx₁ ?_)))
  have hgd : ((s.heap.push { cls := .type "dict", data := .dict #[] }).update x fun o => { o with dict := some s.heap.objs.size }).get? s.heap.objs.size
      = some { cls := .type "dict", data := .dict #[] } := (Heap.get?_update_ne _ _ _ _ hxs.symm).trans (Heap.get?_push_at rfl rfl)
  have hxd : ((s.heap.push { cls := .type "dict", data := .dict #[] }).update x fun o => { o with dict := some s.heap.objs.size }).get? x
      = some ⟨.ref C, some s.heap.objs.size, .fields vs, sl⟩ := Heap.get?_update_self _ hx₁ rfl
  have hnd : ((s.heap.push { cls := .type "dict", data := .dict #[] }).update x fun o => { o with dict := some s.heap.objs.size }).Ns s.heap.objs.size (fun _ => none) :=
    ⟨_, #[], _, hgd, rfl, fun e he => absurd he (by simp), fun _ => rfl⟩
  have old : ∀ b o, b ≠ x → s.heap.get? b = some o → ((s.heap.push { cls := .type "dict", data := .dict #[] }).update x fun o => { o with dict := some s.heap.objs.size }).get? b = some o :=
    fun b o hb e => (Heap.get?_update_ne _ _ _ _ hb).trans (Heap.get?_push_of_some _ e)
  refine wpAny_pure (a := some s.heap.objs.size) ?_
  show wpAny _ _ (storeInDict s.heap.objs.size (.str name tk) name v) _ _ _
  unfold storeInDict newKeyGuard
  refine wpAny_bind (wpAny_pure (wpAny_bind (wpAny_nsSet1 (Heap.Ns1.of_empty hnd) fun h' hn' hs => ?_)))
  refine cps ?_; intro Q9 hQ9; obtain ⟨oD, esD, epD, hoD, hdD, hcD⟩ := hn'.count (Within.cons name v Within.nil); refine hQ9 ?_; clear hQ9 Q9
  refine wpAny_bind (wpAny_lookBehind hoD (by rw [hdD]; exact pastItsLine_dict (Nat.le_trans hcD (by rw [List.length_cons, List.length_nil, sizeLine_eq]; omega))) ?_)
  refine wpAny_pure ?_
  exact h h' s.heap.objs.size _ (fun b o hb e => (hs.2 b (Nat.ne_of_lt (Heap.lt_size e))).trans (old b o hb e)) ((hs.2 x hxs).trans hxd)
end
abbrev excO (C : Addr) (od : Option Addr) (t : Addr) : Obj := ⟨.ref C, od, .fields #[.ref t, .none, .none, .none, .bool false, .none], #[]⟩
section
variable {w : World} {p : Program} {loose : List Str} {mean : ExcName → Option Value} {mg mb : Str → Option Value}
  {dp un : Nat} {gd : Option (List Code)} {cn : Str} {cs : Scope} {a : Addr} {ccd : Value} {cl : List (Str × Addr)} {outer : List Env} {A₀ : Around} {base h₀ : Heap} {L : Addr} {m : Str → Option Value} {news : List (Addr × Obj)} {s : Shared} {Q E : Value → Shared → Prop}

section
local macro_rules | `(tactic| k_all) => `(tactic| assumption)
set_option maxRecDepth 100000 in
set_option maxHeartbeats 4000000 in
theorem excset57 {e t : Addr} {v : Value} {nf : Obj → List (Addr × Obj)} {A : Around} {Q : Unit → Shared → Prop}
    (F : Fr h₀ L s.heap m) (X : (hd.heap_1 w.params).In h₀) (N : News h₀ L s.heap news) (U : UpdF e (excO 57 none t) news nf)
    (h : ∀ h' d tk', Fr h₀ L h' m → News h₀ L h' (nf (excO 57 (some d) t)) → Q () { s with heap := h', toks := tk' }) :
    wpAny (model PP w) A (setAttr (.ref e) (Str.ofString "reason") v) Q E s := by
  have XX := X.keeps F.keep
  have hm := UpdF.has U
  have hx := (N _ hm).1
  refine set_plain XX (ox := excO 57 none t) (C := 57) (od := none) ⟨hx, rfl, rfl, trivial⟩ (by k_is) ?_
  refine exc_osa (s := { s with toks := s.toks + 1 }) XX hx (by k_is) (by rfl) (by decide +kernel) ?_ (by rfl) (by k_is) fun h' d tk' k hd' => ?_
  · rw [refuseLoop_ref, refuseLoop_ref]
    exact PySem.F.store_ValueError.passes _
  · refine h h' d tk' ⟨F.ns.at' fun o e => k _ o (Ne.symm (N _ hm).2.1) e, fun b o e => k b o (fun q => ?_) (F.keep b o e), F.above⟩ fun q hq => ?_
    · have := (N _ hm).2.2; rw [← q, e] at this; cases this
    · rcases UpdF.of_mem U hq with rfl | ⟨hq, hne⟩
      · exact ⟨hd', (N _ hm).2⟩
      · exact ⟨k _ _ hne (N q hq).1, (N q hq).2⟩
end
section
local macro_rules | `(tactic| k_all) => `(tactic| assumption)
set_option maxRecDepth 100000 in
set_option maxHeartbeats 4000000 in
theorem excset45 {e t : Addr} {v : Value} {nf : Obj → List (Addr × Obj)} {A : Around} {Q : Unit → Shared → Prop}
    (F : Fr h₀ L s.heap m) (X : (hd.heap_1 w.params).In h₀) (N : News h₀ L s.heap news) (U : UpdF e (excO 45 none t) news nf)
    (h : ∀ h' d tk', Fr h₀ L h' m → News h₀ L h' (nf (excO 45 (some d) t)) → Q () { s with heap := h', toks := tk' }) :
    wpAny (model PP w) A (setAttr (.ref e) (Str.ofString "reason") v) Q E s := by
  have XX := X.keeps F.keep
  have hm := UpdF.has U
  have hx := (N _ hm).1
  refine set_plain XX (ox := excO 45 none t) (C := 45) (od := none) ⟨hx, rfl, rfl, trivial⟩ (by k_is) ?_
  refine exc_osa (s := { s with toks := s.toks + 1 }) XX hx (by k_is) (by rfl) (by decide +kernel) ?_ (by rfl) (by k_is) fun h' d tk' k hd' => ?_
  · rw [refuseLoop_ref, refuseLoop_ref]
    exact PySem.F.store_ValueError.passes _
  · refine h h' d tk' ⟨F.ns.at' fun o e => k _ o (Ne.symm (N _ hm).2.1) e, fun b o e => k b o (fun q => ?_) (F.keep b o e), F.above⟩ fun q hq => ?_
    · have := (N _ hm).2.2; rw [← q, e] at this; cases this
    · rcases UpdF.of_mem U hq with rfl | ⟨hq, hne⟩
      · exact ⟨hd', (N _ hm).2⟩
      · exact ⟨k _ _ hne (N q hq).1, (N q hq).2⟩
end
end
section
variable {w : World} {p : Program} {loose : List Str} {mean : ExcName → Option Value} {mg mb : Str → Option Value}
  {dp un : Nat} {gd : Option (List Code)} {cn : Str} {cs : Scope} {a : Addr} {ccd : Value} {cl : List (Str × Addr)} {outer : List Env} {A₀ : Around} {base h₀ : Heap} {L : Addr} {m : Str → Option Value} {news : List (Addr × Obj)} {s : Shared} {Q E : Value → Shared → Prop}

section
local macro_rules | `(tactic| k_all) => `(tactic| assumption)
set_option maxRecDepth 100000 in
set_option maxHeartbeats 4000000 in
theorem ovf_c {x : Str} {t1 : Tok}
  {A : Around} {vs8 : List Value} (hv8 : vs8 = [.str x t1]) (hA : A.frames = some (envX cn cs L a ccd cl :: outer)) (hh : A.handled = none) (B : Below A₀ base outer h₀) (F : Fr h₀ L s.heap m) (X : (hd.heap_1 w.params).In h₀) (N : News h₀ L s.heap news) (T : Top p loose mean mg mb h₀) (hk : cs.kind = .function)
  (hd : A.depth + 4 < recursionLimit) (hu : A.units + 50 < cLine)
  (hret : ∀ (e d t : Addr) (h' : Heap) (tk' : Nat), Fr h₀ L h' m → News h₀ L h' ((e, excO 57 (some d) t) :: news) → (∀ p ∈ news, p.1 < e) → Q (.ref e) { s with heap := h', toks := tk' }) :
  wpAny (model PP w) A (call (.ref 57) vs8) Q E s := by
  subst hv8
  refine wp_at_top hA hh ?_
  refine wpAny_call ?_
  refine cps ?_; intro Q9 hQ9; obtain ⟨hh, g, d, t, os⟩ := s; refine hQ9 ?_; clear hQ9 Q9
  dsimp only at F N hret
  have XX := X.keeps F.keep
  have F1 := (F.push { cls := .type "tuple", data := .seq [Value.str x t1].toArray }).push ({ cls := .ref 57, data := .fields #[.ref hh.objs.size, .none, .none, .none, .bool false, .none] } : Obj)
  have N1 := (N.push F { cls := .type "tuple", data := .seq [Value.str x t1].toArray }).push (F.push _) ({ cls := .ref 57, data := .fields #[.ref hh.objs.size, .none, .none, .none, .bool false, .none] } : Obj)
  rw [Heap.size_push] at N1
  have hlt : ∀ p ∈ news, p.1 < hh.objs.size := fun p hp => Heap.lt_size (N p hp).1
  refine' my_make (C := 57) (fI := 29) PySem.F.excBase_ValueError ?hb ?ha ?hn (XX 57 _ ?lk) XX ?hi ?hf ?_
  (case lk => k_is)
  (case hb => rfl)
  (case ha => rfl)
  (case hn => rfl)
  (case hi => k_is)
  (case hf => k_is)
  have hl1 : ∀ p ∈ news, p.1 < hh.objs.size + 1 := fun p hp => Nat.lt_succ_of_lt (hlt p hp)
  have hne : ∀ p ∈ news, p.1 ≠ hh.objs.size + 1 := fun p hp => Nat.ne_of_lt (hl1 p hp)
  have N2 := news_skip N1
  clear N1 N F XX hlt
  generalize hh.objs.size + 1 = e1 at *
  generalize hh.objs.size = t0 at *
  generalize (hh.push _).push _ = H at *
  k_dflt k_enter
  (repeat' (first | ((with_reducible show wpAny _ _ (execs _ _) _ _ _); (fail_if_success (fail_if_success k_fold)); refine foldQ ?_; intro qk ek) | ((with_reducible show wpAny _ _ (exec _ _) _ _ _); (fail_if_success (fail_if_success k_fold)); refine foldQ ?_; intro qk ek; (try (refine foldN (by with_reducible assumption) ?_; intro n9 N9))) | ((with_reducible show wpAny _ _ (setAttr (Value.ref _) _ _) _ _ _); first | (with_reducible (k_here; k_dflt (refine' excset57 ?k1_q ?k2_q ?k3_q ?k4_q ?_; (case k1_q => k_asm); (case k2_q => k_asm); (case k3_q => k_asm); (case k4_q => k_updF); k_whole); intro h' d' tk' F' N'; (try dsimp only at N'); (try k_sweep)))) | ((with_reducible show wpAny _ _ (eval (Expr.Name _ _) _) _ _ _); first | (with_reducible (k_here; name_kind "local"; k_dflt (refine' nameX_L ?F_q ?v_q ?_ ?a_q ?b_q; (case F_q => k_asm); (case a_q => rfl); (case b_q => rfl); (case v_q => rfl); k_whole)))) | (k_unfold; (try dsimp only)) | (k_end; wrow_close) | (walk1; (all_goals (try dsimp only))) | (dsimp only; walk1) | (leave1; try dsimp only)))
  rename Fr h₀ L _ m => FF; rename News h₀ L _ _ => NN
  exact hret _ _ _ _ _ FF NN hl1
set_option maxRecDepth 100000 in
set_option maxHeartbeats 4000000 in
theorem bad_c {x : Str} {t1 : Tok}
  {A : Around} {vs8 : List Value} (hv8 : vs8 = [.str x t1]) (hA : A.frames = some (envX cn cs L a ccd cl :: outer)) (hh : A.handled = none) (B : Below A₀ base outer h₀) (F : Fr h₀ L s.heap m) (X : (hd.heap_1 w.params).In h₀) (N : News h₀ L s.heap news) (T : Top p loose mean mg mb h₀) (hk : cs.kind = .function)
  (hd : A.depth + 4 < recursionLimit) (hu : A.units + 50 < cLine)
  (hret : ∀ (e d t : Addr) (h' : Heap) (tk' : Nat), Fr h₀ L h' m → News h₀ L h' ((e, excO 45 (some d) t) :: news) → (∀ p ∈ news, p.1 < e) → Q (.ref e) { s with heap := h', toks := tk' }) :
  wpAny (model PP w) A (call (.ref 45) vs8) Q E s := by
  subst hv8
  refine wp_at_top hA hh ?_
  refine wpAny_call ?_
  refine cps ?_; intro Q9 hQ9; obtain ⟨hh, g, d, t, os⟩ := s; refine hQ9 ?_; clear hQ9 Q9
  dsimp only at F N hret
  have XX := X.keeps F.keep
  have F1 := (F.push { cls := .type "tuple", data := .seq [Value.str x t1].toArray }).push ({ cls := .ref 45, data := .fields #[.ref hh.objs.size, .none, .none, .none, .bool false, .none] } : Obj)
  have N1 := (N.push F { cls := .type "tuple", data := .seq [Value.str x t1].toArray }).push (F.push _) ({ cls := .ref 45, data := .fields #[.ref hh.objs.size, .none, .none, .none, .bool false, .none] } : Obj)
  rw [Heap.size_push] at N1
  have hlt : ∀ p ∈ news, p.1 < hh.objs.size := fun p hp => Heap.lt_size (N p hp).1
  refine' my_make (C := 45) (fI := 29) PySem.F.excBase_ValueError ?hb ?ha ?hn (XX 45 _ ?lk) XX ?hi ?hf ?_
  (case lk => k_is)
  (case hb => rfl)
  (case ha => rfl)
  (case hn => rfl)
  (case hi => k_is)
  (case hf => k_is)
  have hl1 : ∀ p ∈ news, p.1 < hh.objs.size + 1 := fun p hp => Nat.lt_succ_of_lt (hlt p hp)
  have hne : ∀ p ∈ news, p.1 ≠ hh.objs.size + 1 := fun p hp => Nat.ne_of_lt (hl1 p hp)
  have N2 := news_skip N1
  clear N1 N F XX hlt
  generalize hh.objs.size + 1 = e1 at *
  generalize hh.objs.size = t0 at *
  generalize (hh.push _).push _ = H at *
  k_dflt k_enter
  (repeat' (first | ((with_reducible show wpAny _ _ (execs _ _) _ _ _); (fail_if_success (fail_if_success k_fold)); refine foldQ ?_; intro qk ek) | ((with_reducible show wpAny _ _ (exec _ _) _ _ _); (fail_if_success (fail_if_success k_fold)); refine foldQ ?_; intro qk ek; (try (refine foldN (by with_reducible assumption) ?_; intro n9 N9))) | ((with_reducible show wpAny _ _ (setAttr (Value.ref _) _ _) _ _ _); first | (with_reducible (k_here; k_dflt (refine' excset45 ?k1_q ?k2_q ?k3_q ?k4_q ?_; (case k1_q => k_asm); (case k2_q => k_asm); (case k3_q => k_asm); (case k4_q => k_updF); k_whole); intro h' d' tk' F' N'; (try dsimp only at N'); (try k_sweep)))) | ((with_reducible show wpAny _ _ (eval (Expr.Name _ _) _) _ _ _); first | (with_reducible (k_here; name_kind "local"; k_dflt (refine' nameX_L ?F_q ?v_q ?_ ?a_q ?b_q; (case F_q => k_asm); (case a_q => rfl); (case b_q => rfl); (case v_q => rfl); k_whole)))) | (k_unfold; (try dsimp only)) | (k_end; wrow_close) | (walk1; (all_goals (try dsimp only))) | (dsimp only; walk1) | (leave1; try dsimp only)))
  rename Fr h₀ L _ m => FF; rename News h₀ L _ _ => NN
  exact hret _ _ _ _ _ FF NN hl1
end
end
def ExcC (h : Heap) (C : Addr) : Prop := ∃ (nm q : Str) (N : Addr) (bs bm : List Value) (hdct : Bool) (sn : List Str) (sub : List Value) (ab : Bool) (col : Option Bool) (dd : Option Addr) (k0 k1 k2 k3 k5 : Option Value) (newId : String),
  h.get? C = some (excClassObj nm q C N bs bm hdct sn sub ab col dd k0 k1 k2 k3 k5 newId) ∧ bm.contains (.type "BaseException") = true
/-- an own exception stands at v, and is raised -/
def OwnPost (E : Value → Shared → Prop) (v : Value) (s₁ : Shared) : Prop := ∃ e d t C, v = .ref e ∧ s₁.heap.get? e = some (excO C (some d) t) ∧ ExcC s₁.heap C ∧ E (.ref e) s₁
section
variable {M : Model} {A : Around} {E : Value → Shared → Prop} {s : Shared} {env : Env}
theorem my_raise {x : Sem Value} {Q : Flow → Shared → Prop} (hh : A.handled = none) (h : wpAny M A x (OwnPost E) E s) : wpAny M A (raiseStmt env (some x) none) Q E s := by
  unfold raiseStmt
  refine wpAny_bind (wpAny_mono h (fun v s₁ h₁ => ?_) fun _ _ x => x)
  refine cps ?_; intro Q9 hQ9; obtain ⟨e, d, t, C, eq91, he, ⟨nm, q, N, bs, bm, hdct, sn, sub, ab, col, dd, k0, k1, k2, k3, k5, newId, hC, hbase⟩, hE⟩ := h₁; refine hQ9 ?_; clear hQ9 Q9; subst eq91
  have hcB : (Value.ref C :: bm).contains (.type "BaseException") = true := by rw [List.contains_cons, hbase, Bool.or_true]
  refine cps ?_; intro Q9 hQ9; obtain ⟨hp, g, d, tk, os⟩ := s₁; refine hQ9 ?_; clear hQ9 Q9
  repeat (first | with_reducible refine wpAny_loadPart_at he ?_ | with_reducible refine wpAny_loadPart_at hC ?_ | (with_reducible refine wpAny_isSubtype_exc hC ?_; rw [hcB]) | wp_step)
  exact wpAny_raiseNew_none hh hE
theorem raise_stmt {e : Expr} {pos : Pos} {Q : Flow → Shared → Prop} (hh : A.handled = none) (h : wpAny M A (eval e env) (OwnPost E) E s) : wpAny M A (exec (.Raise (some e) none pos) env) Q E s := by
  rw [arm_exec_Raise]
  refine wpAny_bind (wpAny_standAt ?_)
  exact my_raise hh (wpAny_bind (wpAny_mono h (fun v s₁ h₁ => wpAny_bind (wpAny_standAt (wpAny_pure h₁))) fun _ _ x => x))
end
section
variable {w : World} {h₀ : Heap} {L e d t C : Addr} {m : Str → Option Value} {news : List (Addr × Obj)} {s : Shared} {E : Value → Shared → Prop}
theorem excC57 (X : (hd.heap_1 w.params).In h₀) : ExcC h₀ 57 := by
  refine' ⟨_, _, _, _, _, _, _, _, _, _, _, _, _, _, _, _, _, X 57 _ ?lk, ?hb⟩
  (case lk => rfl)
  (case hb => rfl)
theorem excC45 (X : (hd.heap_1 w.params).In h₀) : ExcC h₀ 45 := by
  refine' ⟨_, _, _, _, _, _, _, _, _, _, _, _, _, _, _, _, _, X 45 _ ?lk, ?hb⟩
  (case lk => rfl)
  (case hb => rfl)
theorem own_post (F : Fr h₀ L s.heap m) (N : News h₀ L s.heap ((e, excO C (some d) t) :: news)) (X : ExcC s.heap C) (h : E (.ref e) s) : OwnPost E (.ref e) s := ⟨e, d, t, C, rfl, (N _ (.head _)).1, X, h⟩
end
section
variable {M : Model} {A : Around} {E : Value → Shared → Prop} {s' : Shared} {base g : Heap} {outer : List Env} {L a e d t C : Addr} {m : Str → Option Value} {name : Str} {scope : Scope} {cd : Value} {Q : Unit → Shared → Prop} {news : List (Addr × Obj)}
theorem leave_own (K : Below A base outer g) (F : Fr g L s'.heap m) (N : News g L s'.heap ((e, excO C (some d) t) :: news)) (hne : ∀ p ∈ news, p.1 ≠ e)
    (hQ : ∀ h', RaisedSN base g outer e (.ref C) news h' → RaisedN base outer e (.ref C) news h' → g.UpToSlots h' → Q () { s' with heap := h' }) (hk : scope.kind = .function) :
    wpAny M (A.deeper (envOf name scope L a cd)) (leaving (envOf name scope L a cd) (.ref e)) Q E s' := by
  refine cps ?_; intro Q9 hQ9; obtain ⟨he, heL, heg⟩ := N _ (.head _); refine hQ9 ?_; clear hQ9 Q9
  have K' := K.push (name := name) (a := a) (cd := cd) F hk
  have ne : ∀ b o, g.get? b = some o → b ≠ e := fun b o q z => by rw [z, heg] at q; cases q
  have hfe : ∀ env ∈ (envOf name scope L a cd :: outer), ∀ b, env.frame = some b → b ∈ e :: (envOf name scope L a cd :: outer).filterMap (·.frame) := fun env he b hb => .tail _ (List.mem_filterMap.mpr ⟨env, he, hb⟩)
  have st : base.StaysIn (hideAll s'.heap (e :: (envOf name scope L a cd :: outer).filterMap (·.frame))) := fun b o q => hideAll_get _ (K'.stays b o q) fun hm => by
    rcases List.mem_cons.mp hm with z | hm
    · exact ne b o (K.stays b o q) z
    · rw [(K'.frames.mem hm).1] at q; cases q
  have sg : ∀ b o, g.get? b = some o → b ∉ outer.filterMap (·.frame) → (hideAll s'.heap (e :: (envOf name scope L a cd :: outer).filterMap (·.frame))).get? b = some o := fun b o q nm => hideAll_get _ (F.keep b o q) fun hm => by
    rcases List.mem_cons.mp hm with z | hm
    · exact ne b o q z
    · rcases kts_mem hm with z | z
      · rw [z, kts_self F] at q; cases q
      · exact nm z
  have hl : ∀ q ∈ news, (hideAll s'.heap (e :: (envOf name scope L a cd :: outer).filterMap (·.frame))).get? q.1 = some q.2 ∧ g.get? q.1 = none ∧ base.get? q.1 = none := fun q hq => by
    refine ⟨hideAll_get _ (N q (.tail _ hq)).1 fun hm => ?_, (N q (.tail _ hq)).2.2, fresh_of_stays K.stays (N q (.tail _ hq)).2.2⟩
    rcases List.mem_cons.mp hm with z | hm
    · exact hne q hq z
    · obtain ⟨env, he, hf⟩ := List.mem_filterMap.mp hm
      rcases List.mem_cons.mp he with rfl | he
      · exact (N q (.tail _ hq)).2.1 (Option.some.inj hf).symm
      · obtain ⟨o, ho, _⟩ := (K.frames.mem (List.mem_filterMap.mpr ⟨env, he, hf⟩)).2
        rw [(N q (.tail _ hq)).2.2] at ho; cases ho
  refine wpAny_leaving_firstW (a0 := .ref t) K'.stack (funFrames_hide K'.frames hfe) rfl he (fun b o hb => of_hideAll _ hb) (hideAll_none _ (.head _)) rfl rfl rfl fun h' hL => ?_
  refine cps ?_; intro Q9 hQ9; obtain ⟨k1, ⟨_, _, k2⟩, k3, k4⟩ := hL; refine hQ9 ?_; clear hQ9 Q9
  have R : RaisedSN base g outer e (.ref C) news h' := ⟨_, .ref t, st, sg, hl, k1, hideAll_none _ (.head _), k2, k3⟩
  exact hQ h' R R.toN ((Heap.UpToSlots.of_keeps F.keep).trans k4)
end
local macro_rules | `(tactic| walk_at "OwnPost") => `(tactic| (k_here; k_dflt (refine' own_post ?F ?N ?X ?_; (case F => k_asm); (case N => k_asm); (case X => first | exact excC57 (by k_in) | exact excC45 (by k_in)))))
def GlueD (P : Params) (o : Obj) (g : G5) : Prop := ∃ k1 k2 k3 k4 k5 t1 t2 t3 t4 t5, o = dictOf [⟨PyData.keyHash P (Str.ofString "width"), .str (Str.ofString "width") k1, .int g.w t1⟩, ⟨PyData.keyHash P (Str.ofString "stretch"), .str (Str.ofString "stretch") k2, .int g.u t2⟩,
  ⟨PyData.keyHash P (Str.ofString "stretch_order"), .str (Str.ofString "stretch_order") k3, .int g.uo t3⟩, ⟨PyData.keyHash P (Str.ofString "shrink"), .str (Str.ofString "shrink") k4, .int g.d t4⟩, ⟨PyData.keyHash P (Str.ofString "shrink_order"), .str (Str.ofString "shrink_order") k5, .int g.od t5⟩] 5
theorem GlueD.elim {P : Params} {o : Obj} {g : G5} {T : Prop} (h : GlueD P o g) (k : ∀ (k1 k2 k3 k4 k5 t1 t2 t3 t4 t5 : Tok), o = dictOf [⟨PyData.keyHash P (Str.ofString "width"), .str (Str.ofString "width") k1, .int g.w t1⟩, ⟨PyData.keyHash P (Str.ofString "stretch"), .str (Str.ofString "stretch") k2, .int g.u t2⟩,
  ⟨PyData.keyHash P (Str.ofString "stretch_order"), .str (Str.ofString "stretch_order") k3, .int g.uo t3⟩, ⟨PyData.keyHash P (Str.ofString "shrink"), .str (Str.ofString "shrink") k4, .int g.d t4⟩, ⟨PyData.keyHash P (Str.ofString "shrink_order"), .str (Str.ofString "shrink_order") k5, .int g.od t5⟩] 5 → T) : T := let ⟨k1, k2, k3, k4, k5, t1, t2, t3, t4, t5, e⟩ := h; k k1 k2 k3 k4 k5 t1 t2 t3 t4 t5 e
theorem glue_open {P : Prop} {P0 : Params} {h₀ h : Heap} {L x dx : Addr} {o : Obj} {g : G5} {news : List (Addr × Obj)} (G : GlueD P0 o g) (N : News h₀ L h ((x, instObj 208 dx) :: (dx, o) :: news))
    (H : ∀ k1 k2 k3 k4 k5 t1 t2 t3 t4 t5 : Tok, let o' := dictOf [⟨PyData.keyHash P0 (Str.ofString "width"), .str (Str.ofString "width") k1, .int g.w t1⟩, ⟨PyData.keyHash P0 (Str.ofString "stretch"), .str (Str.ofString "stretch") k2, .int g.u t2⟩,
  ⟨PyData.keyHash P0 (Str.ofString "stretch_order"), .str (Str.ofString "stretch_order") k3, .int g.uo t3⟩, ⟨PyData.keyHash P0 (Str.ofString "shrink"), .str (Str.ofString "shrink") k4, .int g.d t4⟩, ⟨PyData.keyHash P0 (Str.ofString "shrink_order"), .str (Str.ofString "shrink_order") k5, .int g.od t5⟩] 5; let n' := (x, instObj 208 dx) :: (dx, o') :: news; GlueD P0 o' g → News h₀ L h n' → P) : P := by
  refine GlueD.elim G ?_; intro k1 k2 k3 k4 k5 t1 t2 t3 t4 t5 eq91; subst eq91
  exact H k1 k2 k3 k4 k5 t1 t2 t3 t4 t5 ⟨k1, k2, k3, k4, k5, t1, t2, t3, t4, t5, rfl⟩ N
def G5.Over (g : G5) : Prop := ¬ (-MX ≤ g.w ∧ g.w ≤ MX) ∨ ¬ (-MX ≤ g.u ∧ g.u ≤ MX) ∨ ¬ (-MX ≤ g.d ∧ g.d ≤ MX)
theorem not_over {b u uo d od : Int} (h1 : -1073741823 ≤ b) (h2 : b ≤ 1073741823) (h3 : -1073741823 ≤ u) (h4 : u ≤ 1073741823) (h5 : -1073741823 ≤ d) (h6 : d ≤ 1073741823) (h : G5.Over ⟨b, u, uo, d, od⟩) : False :=
  h.elim (fun h => h ⟨h1, h2⟩) fun h => h.elim (fun h => h ⟨h3, h4⟩) fun h => h ⟨h5, h6⟩
theorem over_w {b u uo d od : Int} (h : ¬ (-1073741823 ≤ b ∧ b ≤ 1073741823)) : G5.Over ⟨b, u, uo, d, od⟩ := .inl h
theorem over_u {b u uo d od : Int} (h : ¬ (-1073741823 ≤ u ∧ u ≤ 1073741823)) : G5.Over ⟨b, u, uo, d, od⟩ := .inr (.inl h)
theorem over_d {b u uo d od : Int} (h : ¬ (-1073741823 ≤ d ∧ d ≤ 1073741823)) : G5.Over ⟨b, u, uo, d, od⟩ := .inr (.inr h)
theorem raisedSN_sub {base G : Heap} {l : List Env} {e : Addr} {cls : Value} {news news' : List (Addr × Obj)} {h : Heap} (R : RaisedSN base G l e cls news h) (hs : ∀ q ∈ news', q ∈ news) : RaisedSN base G l e cls news' h := by
  refine cps ?_; intro Q9 hQ9; obtain ⟨B, a0, x1, x2, x3, x4⟩ := R; refine hQ9 ?_; clear hQ9 Q9
  exact ⟨B, a0, x1, x2, fun q hq => x3 q (hs q hq), x4⟩
section
variable {w : World} {p : Program} {loose : List Str} {mean : ExcName → Option Value} {mg mb : Str → Option Value}
  {dp un : Nat} {gd : Option (List Code)} {cn : Str} {cs : Scope} {a : Addr} {ccd : Value} {cl : List (Str × Addr)} {outer : List Env} {A₀ : Around} {base h₀ : Heap} {L : Addr} {m : Str → Option Value} {news : List (Addr × Obj)} {s : Shared} {Q E : Value → Shared → Prop}

section
local macro_rules | `(tactic| k_all) => `(tactic| assumption)
set_option maxRecDepth 100000 in
set_option maxHeartbeats 4000000 in
theorem dimen_c {v : Int} {t1 : Tok}
  {A : Around} {vs8 : List Value} (hv8 : vs8 = [.int v t1]) (hA : A.frames = some (envX cn cs L a ccd cl :: outer)) (hh : A.handled = none) (B : Below A₀ base outer h₀) (F : Fr h₀ L s.heap m) (X : (hd.heap_1 w.params).In h₀) (N : News h₀ L s.heap news) (T : Top p loose mean mg mb h₀) (hk : cs.kind = .function)
  (hd : A.depth + 8 < recursionLimit) (hu : A.units + 100 < cLine)
  (hret : ∀ (h' : Heap) (tk' : Nat), Fr h₀ L h' m → News h₀ L h' news → -1073741823 ≤ v → v ≤ 1073741823 → Q (.int v t1) { s with heap := h', toks := tk' })
  (hraise : ∀ (e : Addr) (g h' : Heap) (tk' : Nat), Fr h₀ L g m → RaisedSN base g (envX cn cs L a ccd cl :: outer) e (.ref 57) news h' → g.UpToSlots h' → ¬ (-1073741823 ≤ v ∧ v ≤ 1073741823) → E (.ref e) { s with heap := h', toks := tk' }) :
  wpAny (model PP w) A (call (.ref 84) vs8) Q E s := by
  subst hv8
  refine wp_at_top hA hh ?_
  refine wpAny_call ?_
  k_dflt ((refine' code_def ?k1_q ?k2_q ?k3_q ?k4_q ?k5_q ?kA_q ?kF_q ?kK_q ?k6_q ?k7_q ?k8_q ?k9_q ?kB_q ?_ ?c2_q ?c3_q ?c4_q ?c5_q; (case kA_q => exact rfl); (case kF_q => exact rfl); (case kK_q => first | exact rfl | assumption); (case k1_q => k_asm); (case k2_q => k_asm); (case k3_q => k_asm); (case k4_q => k_asm); (case k5_q => k_asm); (case k6_q => k_is); (case k7_q => k_is); (case k8_q => k_room); (case k9_q => first | exact BindsTo.of_eq rfl | exact binds_K (by k_in) rfl (by k_is) rfl rfl rfl); (case c5_q => decide); (case kB_q => exact locs rfl); (case c2_q => exact rfl); (case c3_q => exact rfl); (case c4_q => exact rfl); k_whole; intro g' L' h' FG' F' N' B' X' T'; (try k_lift B'); (refine foldM F' ?_; clear F'; intro m9 F'); (try first | (with_reducible refine foldA ?_; intro A9 d9 u9) | (with_reducible refine foldAu ?_; intro A9 d9 u9)); (try (refine foldE ?_; intro e9)); (try k_unmd); (try (refine foldQ ?_; intro qk ek)); (try dsimp only)))
  (repeat' (first | ((with_reducible show wpAny _ _ (execs _ _) _ _ _); (fail_if_success (fail_if_success k_fold)); refine foldQ ?_; intro qk ek) | ((with_reducible show wpAny _ _ (exec _ _) _ _ _); (fail_if_success (fail_if_success k_fold)); refine foldQ ?_; intro qk ek; (try (refine foldN (by with_reducible assumption) ?_; intro n9 N9))) | ((with_reducible show wpAny _ _ (leaving _ (Value.ref _)) _ _ _); first | (with_reducible (k_here; k_dflt (refine' leave_own ?K_q ?F_q ?N_q ?ne_q ?_ ?hk_q; (case N_q => k_asm); (case F_q => k_asm); (case K_q => k_asm); (case ne_q => k_all); (case hk_q => rfl); k_whole); intro h' S' R' U'; (try dsimp only at S' R' U' ⊢)))) | ((with_reducible show wpAny _ _ (exec (Stmt.Raise _ _ _) _) _ _ _); first | (with_reducible (k_here; with_unfolding_all refine raise_stmt (by rfl) ?_))) | ((with_reducible show wpAny _ _ (call (Value.ref _) _) _ _ _); first | (with_reducible (k_here; (with_reducible apply ovf_c); k_dflt (walk_at "c8"; ktr_room; ktr_units; k_whole); intro e' d' t' h' tk' F' N' l1'; (try k_lt l1'); (try k_sweep); (try k_fold))) | (with_reducible (k_here; (with_reducible apply whole_c); k_dflt (walk_at "c8"; ktr_room; ktr_units; k_whole); intro h' tk' F' N'; (try k_sweep); (try k_fold); (try k_sweep); (try k_fold)))) | ((with_reducible show wpAny _ _ (eval (Expr.Name _ _) _) _ _ _); first | (with_reducible (k_here; name_kind "globalImplicit"; k_dflt (first | (name_is_builtin; refine' nameX_B ?F_q ?X_q ?T_q ?e_q ?v_q ?n_q ?_ ?a_q ?b_q; (case F_q => k_asm); (case X_q => k_asm); (case T_q => k_asm); (case a_q => rfl); (case b_q => rfl); (case e_q => k_is); (case v_q => boot_fast); (case n_q => decide); k_whole) | (refine' nameX_K ?F_q ?X_q ?T_q ?e_q ?_ ?a_q ?b_q; (case F_q => k_asm); (case X_q => k_asm); (case T_q => k_asm); (case a_q => rfl); (case b_q => rfl); (case e_q => k_is); k_whole)))) | (with_reducible (k_here; name_kind "local"; k_dflt (refine' nameX_L ?F_q ?v_q ?_ ?a_q ?b_q; (case F_q => k_asm); (case a_q => rfl); (case b_q => rfl); (case v_q => rfl); k_whole)))) | (k_unfold; (try dsimp only)) | (k_end; wrow_close) | (walk1; (all_goals (try dsimp only))) | (dsimp only; walk1) | (leave1; try dsimp only)))
  · rename Fr h₀ L _ m => FF; rename News h₀ L _ _ => NN
    exact hret _ _ FF NN (by assumption) (by assumption)
  · rename RaisedSN base _ _ _ _ _ _ => SS
    exact hraise _ _ _ _ (by assumption) SS (by assumption) (by omega)
  · rename RaisedSN base _ _ _ _ _ _ => SS
    exact hraise _ _ _ _ (by assumption) SS (by assumption) (by omega)
end
end
theorem glueD_norm {P : Params} {g : G5} {uo od : Int} {k1 k2 k3 k4 k5 t1 t2 t3 t4 t5 : Tok} (e1 : uo = if g.u = 0 then 0 else g.uo) (e2 : od = if g.d = 0 then 0 else g.od) :
    GlueD P (dictOf [⟨PyData.keyHash P (Str.ofString "width"), .str (Str.ofString "width") k1, .int g.w t1⟩, ⟨PyData.keyHash P (Str.ofString "stretch"), .str (Str.ofString "stretch") k2, .int g.u t2⟩,
  ⟨PyData.keyHash P (Str.ofString "stretch_order"), .str (Str.ofString "stretch_order") k3, .int uo t3⟩, ⟨PyData.keyHash P (Str.ofString "shrink"), .str (Str.ofString "shrink") k4, .int g.d t4⟩, ⟨PyData.keyHash P (Str.ofString "shrink_order"), .str (Str.ofString "shrink_order") k5, .int od t5⟩] 5) g.norm := by
  subst e1 e2
  exact ⟨_, _, _, _, _, _, _, _, _, _, rfl⟩
section
variable {w : World} {p : Program} {loose : List Str} {mean : ExcName → Option Value} {mg mb : Str → Option Value}
  {dp un : Nat} {gd : Option (List Code)} {cn : Str} {cs : Scope} {a : Addr} {ccd : Value} {cl : List (Str × Addr)} {outer : List Env} {A₀ : Around} {base h₀ : Heap} {L : Addr} {m : Str → Option Value} {news : List (Addr × Obj)} {s : Shared} {Q E : Value → Shared → Prop}

section
local macro_rules | `(tactic| k_all) => `(tactic| assumption)
set_option maxRecDepth 100000 in
set_option maxHeartbeats 4000000 in
theorem glue_c {b u uo d od : Int} {t1 t2 t3 t4 t5 : Tok}
  {A : Around} {vs8 : List Value} (hv8 : vs8 = [.int b t1, .int u t2, .int uo t3, .int d t4, .int od t5]) (hA : A.frames = some (envX cn cs L a ccd cl :: outer)) (hh : A.handled = none) (B : Below A₀ base outer h₀) (F : Fr h₀ L s.heap m) (X : (hd.heap_1 w.params).In h₀) (N : News h₀ L s.heap news) (T : Top p loose mean mg mb h₀) (hk : cs.kind = .function)
  (ho1 : 0 ≤ uo) (ho2 : uo ≤ 3) (ho3 : 0 ≤ od) (ho4 : od ≤ 3)
  (hd : A.depth + 12 < recursionLimit) (hu : A.units + 150 < cLine)
  (hret : ∀ (x dx : Addr) (o : Obj) (h' : Heap) (tk' : Nat), Fr h₀ L h' m → News h₀ L h' ((x, instObj 208 dx) :: (dx, o) :: news) → (∀ p ∈ news, p.1 < dx) → @LT.lt Nat _ dx x → GlueD w.params o (G5.norm ⟨b, u, uo, d, od⟩) → ¬ G5.Over ⟨b, u, uo, d, od⟩ → Q (.ref x) { s with heap := h', toks := tk' })
  (hraise : ∀ (e : Addr) (g h' : Heap) (tk' : Nat), Fr h₀ L g m → RaisedSN base g (envX cn cs L a ccd cl :: outer) e (.ref 57) news h' → g.UpToSlots h' → G5.Over ⟨b, u, uo, d, od⟩ → E (.ref e) { s with heap := h', toks := tk' }) :
  wpAny (model PP w) A (call (.ref 208) vs8) Q E s := by
  subst hv8
  refine wp_at_top hA hh ?_
  have kd := ktsDicts_nil (g := s.heap)
  (repeat' (first | ((with_reducible show wpAny _ _ (execs _ _) _ _ _); (fail_if_success (fail_if_success k_fold)); refine foldQ ?_; intro qk ek) | ((with_reducible show wpAny _ _ (exec _ _) _ _ _); (fail_if_success (fail_if_success k_fold)); refine foldQ ?_; intro qk ek; (try (refine foldN (by with_reducible assumption) ?_; intro n9 N9))) | ((with_reducible show wpAny _ _ (call (Value.ref _) _) _ _ _); first | (with_reducible (k_here; (with_reducible apply dimen_c); k_dflt (walk_at "c8"; ktr_room; ktr_units; all_goals (first | (refine fun (h' : Heap) (tk' : Nat) F' N' e1' e2' => ?_; (try k_sweep); (try k_fold)) | (refine fun (e' : Addr) (g' h' : Heap) (tk' : Nat) FG' S' U' e1' => ?_; try dsimp only))))) | (with_reducible (k_here; (with_reducible apply iswT_c); k_dflt (walk_at "c8"; (first | with_reducible assumption | omega); (first | with_reducible assumption | omega); ktr_room; ktr_units; k_whole); intro h' tk' F' N'; (try k_sweep); (try k_fold); (try k_sweep); (try k_fold)))) | ((with_reducible show wpAny _ _ (setAttr (Value.ref _) _ _) _ _ _); first | (with_reducible (k_here; k_dflt (refine' set_dict ?k1_q ?k2_q ?k3_q ?k4_q ?k5_q ?k6_q ?k7_q ?k8_q ?k9_q ?k10_q ?k11_q ?k12_q ?k13_q ?_; (case k1_q => k_asm); (case k2_q => k_asm); (case k3_q => k_asm); (case k4_q => k_inst); (case k5_q => exact rfl); (case k6_q => k_is); (case k7_q => k_is); (case k8_q => k_is); (case k9_q => k_is); (case k10_q => k_get); (case k11_q => k_put); (case k12_q => k_upd); (case k13_q => exact Nat.le_of_ble_eq_true rfl); k_whole; intro h' F' N'; (try k_sweep))))) | ((with_reducible show wpAny _ _ (eval (Expr.Name _ _) _) _ _ _); first | (with_reducible (k_here; name_kind "globalImplicit"; k_dflt (first | (name_is_builtin; refine' nameX_B ?F_q ?X_q ?T_q ?e_q ?v_q ?n_q ?_ ?a_q ?b_q; (case F_q => k_asm); (case X_q => k_asm); (case T_q => k_asm); (case a_q => rfl); (case b_q => rfl); (case e_q => k_is); (case v_q => boot_fast); (case n_q => decide); k_whole) | (refine' nameX_K ?F_q ?X_q ?T_q ?e_q ?_ ?a_q ?b_q; (case F_q => k_asm); (case X_q => k_asm); (case T_q => k_asm); (case a_q => rfl); (case b_q => rfl); (case e_q => k_is); k_whole)))) | (with_reducible (k_here; name_kind "local"; k_dflt (refine' nameX_L ?F_q ?v_q ?_ ?a_q ?b_q; (case F_q => k_asm); (case a_q => rfl); (case b_q => rfl); (case v_q => rfl); k_whole)))) | (k_unfold; (try dsimp only)) | (k_end; wrow_close) | (walk1; (all_goals (try dsimp only))) | (dsimp only; walk1) | (leave1; try dsimp only)))
  all_goals first
    | (rename Fr h₀ L _ m => FF; rename News h₀ L _ _ => NN
       refine hret _ _ _ _ _ FF NN (by assumption) (by first | assumption | omega) (glueD_norm (g := ⟨b, u, uo, d, od⟩) ?_ ?_) ?_
       · first | (rw [if_pos (by assumption)]; done) | (rw [if_neg (by assumption)]; done)
       · first | (rw [if_pos (by assumption)]; done) | (rw [if_neg (by assumption)]; done)
       · first | exact not_over (by with_reducible assumption) (by with_reducible assumption) (by with_reducible assumption) (by with_reducible assumption) (by with_reducible assumption) (by with_reducible assumption) | (unfold G5.Over MX; dsimp only; omega))
    | (rename RaisedSN base _ _ _ _ _ _ => SS
       refine hraise _ _ _ _ (by assumption) (raisedSN_sub SS ?_) (by assumption) ?_
       · exact fun q hq => List.mem_cons_of_mem _ (List.mem_cons_of_mem _ hq)
       · first | exact over_w (by with_reducible assumption) | exact over_u (by with_reducible assumption) | exact over_d (by with_reducible assumption) | (unfold G5.Over MX; dsimp only; omega))
end
end
theorem cutS_ne {v b : Int} (h : (decide (v < 0) != decide (b < 0)) = true) : cutS v b = -((if v < 0 then -v else v).fdiv (if b < 0 then -b else b)) := by
  unfold cutS
  have : (decide (v < 0) == decide (b < 0)) = false := by cases hx : (decide (v < 0) == decide (b < 0)) <;> simp_all
  rw [this]; rfl
theorem cutS_eq {v b : Int} (h : (decide (v < 0) != decide (b < 0)) = false) : cutS v b = (if v < 0 then -v else v).fdiv (if b < 0 then -b else b) := by
  unfold cutS
  have : (decide (v < 0) == decide (b < 0)) = true := by cases hx : (decide (v < 0) == decide (b < 0)) <;> simp_all
  rw [this]; rfl
section
variable {w : World} {p : Program} {loose : List Str} {mean : ExcName → Option Value} {mg mb : Str → Option Value}
  {dp un : Nat} {gd : Option (List Code)} {cn : Str} {cs : Scope} {a : Addr} {ccd : Value} {cl : List (Str × Addr)} {outer : List Env} {A₀ : Around} {base h₀ : Heap} {L : Addr} {m : Str → Option Value} {news : List (Addr × Obj)} {s : Shared} {Q E : Value → Shared → Prop}

set_option maxRecDepth 100000 in
set_option maxHeartbeats 4000000 in
theorem gparts_c {x dx : Addr} {o : Obj} {g : G5}
  {A : Around} {vs8 : List Value} (hv8 : vs8 = [.ref x]) (hA : A.frames = some (envX cn cs L a ccd cl :: outer)) (hh : A.handled = none) (B : Below A₀ base outer h₀) (F : Fr h₀ L s.heap m) (X : (hd.heap_1 w.params).In h₀) (N : News h₀ L s.heap news) (T : Top p loose mean mg mb h₀) (hk : cs.kind = .function)
  (hm1 : (x, instObj 208 dx) ∈ news) (hm2 : (dx, o) ∈ news) (hg : GlueD w.params o g)
  (hd : A.depth + 2 < recursionLimit) (hu : A.units + 20 < cLine)
  (hret : ∀ (r : Addr) (o : Obj) (h' : Heap) (tk' : Nat), Fr h₀ L h' m → News h₀ L h' ((r, o) :: news) → (∀ p ∈ news, p.1 < r) → TupG o g → Q (.ref r) { s with heap := h', toks := tk' }) :
  wpAny (model PP w) A (call (.ref 162) vs8) Q E s := by
  subst hv8
  refine wp_at_top hA hh ?_
  refine GlueD.elim hg ?_; intro k1 k2 k3 k4 k5 t1 t2 t3 t4 t5 eq91; subst eq91
  refine wpAny_call ?_
  k_dflt ((refine' code_def ?k1_q ?k2_q ?k3_q ?k4_q ?k5_q ?kA_q ?kF_q ?kK_q ?k6_q ?k7_q ?k8_q ?k9_q ?kB_q ?_ ?c2_q ?c3_q ?c4_q ?c5_q; (case kA_q => exact rfl); (case kF_q => exact rfl); (case kK_q => first | exact rfl | assumption); (case k1_q => k_asm); (case k2_q => k_asm); (case k3_q => k_asm); (case k4_q => k_asm); (case k5_q => k_asm); (case k6_q => k_is); (case k7_q => k_is); (case k8_q => k_room); (case k9_q => first | exact BindsTo.of_eq rfl | exact binds_K (by k_in) rfl (by k_is) rfl rfl rfl); (case c5_q => decide); (case kB_q => exact locs rfl); (case c2_q => exact rfl); (case c3_q => exact rfl); (case c4_q => exact rfl); k_whole; intro g' L' h' FG' F' N' B' X' T'; (try k_lift B'); (refine foldM F' ?_; clear F'; intro m9 F'); (try first | (with_reducible refine foldA ?_; intro A9 d9 u9) | (with_reducible refine foldAu ?_; intro A9 d9 u9)); (try (refine foldE ?_; intro e9)); (try k_unmd); (try (refine foldQ ?_; intro qk ek)); (try dsimp only)))
  (repeat' (first | ((with_reducible show wpAny _ _ (execs _ _) _ _ _); (fail_if_success (fail_if_success k_fold)); refine foldQ ?_; intro qk ek) | ((with_reducible show wpAny _ _ (exec _ _) _ _ _); (fail_if_success (fail_if_success k_fold)); refine foldQ ?_; intro qk ek; (try (refine foldN (by with_reducible assumption) ?_; intro n9 N9))) | ((with_reducible show wpAny _ _ (newTuple _) _ _ _); first | (with_reducible (k_here; k_dflt (refine' newTuple_V ?F_q ?N_q ?_ ?z_q; (case F_q => k_asm); (case N_q => k_asm); (case z_q => kmk_size)); intro D' h' o' n' F' N' l1; (try k_lt l1); (try k_sweep)))) | ((with_reducible show wpAny _ _ (eval (Expr.Name _ _) _) _ _ _); first | (with_reducible (k_here; name_kind "local"; k_dflt (refine' nameX_L ?F_q ?v_q ?_ ?a_q ?b_q; (case F_q => k_asm); (case a_q => rfl); (case b_q => rfl); (case v_q => rfl); k_whole)))) | (k_unfold; (try dsimp only)) | (k_end; wrow_close) | (walk1; (all_goals (try dsimp only))) | (dsimp only; walk1) | (leave1; try dsimp only)))
  rename Fr h₀ L _ m => FF; rename News h₀ L _ _ => NN
  exact hret _ _ _ _ FF NN (by assumption) tup_mk
section
local macro_rules | `(tactic| k_all) => `(tactic| assumption)
set_option maxRecDepth 100000 in
set_option maxHeartbeats 4000000 in
theorem times_c {c v : Int} {t1 t2 t3 : Tok}
  {A : Around} {vs8 : List Value} (hv8 : vs8 = [.int c t1, .int v t2, .int 0 t3]) (hA : A.frames = some (envX cn cs L a ccd cl :: outer)) (hh : A.handled = none) (B : Below A₀ base outer h₀) (F : Fr h₀ L s.heap m) (X : (hd.heap_1 w.params).In h₀) (N : News h₀ L s.heap news) (T : Top p loose mean mg mb h₀) (hk : cs.kind = .function)
  (hc0 : -10 ≤ c) (hc1 : c ≤ 10) (hv0 : -1073741823 ≤ v) (hv1 : v ≤ 1073741823)
  (hd : A.depth + 12 < recursionLimit) (hu : A.units + 150 < cLine)
  (hret : ∀ (t : Tok) (h' : Heap) (tk' : Nat), Fr h₀ L h' m → News h₀ L h' news → -1073741823 ≤ c * v → c * v ≤ 1073741823 → Q (.int (c * v) t) { s with heap := h', toks := tk' })
  (hraise : ∀ (e : Addr) (g h' : Heap) (tk' : Nat), Fr h₀ L g m → RaisedSN base g (envX cn cs L a ccd cl :: outer) e (.ref 57) news h' → g.UpToSlots h' → ¬ (-1073741823 ≤ c * v ∧ c * v ≤ 1073741823) → E (.ref e) { s with heap := h', toks := tk' }) :
  wpAny (model PP w) A (call (.ref 112) vs8) Q E s := by
  subst hv8
  refine wp_at_top hA hh ?_
  have kd := ktsDicts_nil (g := s.heap)
  refine wpAny_call ?_
  k_dflt ((refine' code_def ?k1_q ?k2_q ?k3_q ?k4_q ?k5_q ?kA_q ?kF_q ?kK_q ?k6_q ?k7_q ?k8_q ?k9_q ?kB_q ?_ ?c2_q ?c3_q ?c4_q ?c5_q; (case kA_q => exact rfl); (case kF_q => exact rfl); (case kK_q => first | exact rfl | assumption); (case k1_q => k_asm); (case k2_q => k_asm); (case k3_q => k_asm); (case k4_q => k_asm); (case k5_q => k_asm); (case k6_q => k_is); (case k7_q => k_is); (case k8_q => k_room); (case k9_q => first | exact BindsTo.of_eq rfl | exact binds_K (by k_in) rfl (by k_is) rfl rfl rfl); (case c5_q => decide); (case kB_q => exact locs rfl); (case c2_q => exact rfl); (case c3_q => exact rfl); (case c4_q => exact rfl); k_whole; intro g' L' h' FG' F' N' B' X' T'; (try k_lift B'); (refine foldM F' ?_; clear F'; intro m9 F'); (try first | (with_reducible refine foldA ?_; intro A9 d9 u9) | (with_reducible refine foldAu ?_; intro A9 d9 u9)); (try (refine foldE ?_; intro e9)); (try k_unmd); (try (refine foldQ ?_; intro qk ek)); (try dsimp only)))
  (repeat' (first | ((with_reducible show wpAny _ _ (execs _ _) _ _ _); (fail_if_success (fail_if_success k_fold)); refine foldQ ?_; intro qk ek) | ((with_reducible show wpAny _ _ (exec _ _) _ _ _); (fail_if_success (fail_if_success k_fold)); refine foldQ ?_; intro qk ek; (try (refine foldN (by with_reducible assumption) ?_; intro n9 N9))) | ((with_reducible show wpAny _ _ (call (Value.ref _) _) _ _ _); first | (with_reducible (k_here; (with_reducible apply dimen_c); k_dflt (walk_at "c8"; ktr_room; ktr_units; all_goals (first | (refine fun (h' : Heap) (tk' : Nat) F' N' e1' e2' => ?_; (try k_sweep); (try k_fold)) | (refine fun (e' : Addr) (g' h' : Heap) (tk' : Nat) FG' S' U' e1' => ?_; try dsimp only))))) | (with_reducible (k_here; (with_reducible apply whole_c); k_dflt (walk_at "c8"; ktr_room; ktr_units; k_whole); intro h' tk' F' N'; (try k_sweep); (try k_fold); (try k_sweep); (try k_fold)))) | ((with_reducible show wpAny _ _ (eval (Expr.Name _ _) _) _ _ _); first | (with_reducible (k_here; name_kind "globalImplicit"; k_dflt (first | (name_is_builtin; refine' nameX_B ?F_q ?X_q ?T_q ?e_q ?v_q ?n_q ?_ ?a_q ?b_q; (case F_q => k_asm); (case X_q => k_asm); (case T_q => k_asm); (case a_q => rfl); (case b_q => rfl); (case e_q => k_is); (case v_q => boot_fast); (case n_q => decide); k_whole) | (refine' nameX_K ?F_q ?X_q ?T_q ?e_q ?_ ?a_q ?b_q; (case F_q => k_asm); (case X_q => k_asm); (case T_q => k_asm); (case a_q => rfl); (case b_q => rfl); (case e_q => k_is); k_whole)))) | (with_reducible (k_here; name_kind "local"; k_dflt (refine' nameX_L ?F_q ?v_q ?_ ?a_q ?b_q; (case F_q => k_asm); (case a_q => rfl); (case b_q => rfl); (case v_q => rfl); k_whole)))) | (k_unfold; (try dsimp only)) | (k_end; wrow_close) | (walk1; (all_goals (try dsimp only))) | (dsimp only; walk1) | (leave1; try dsimp only)))
  · rename Fr h₀ L _ m => FF; rename News h₀ L _ _ => NN
    exact cb_retI (fun t h' tk' F' N' => hret t h' tk' F' N' (by omega) (by omega)) (by omega) FF NN
  · rename RaisedSN base _ _ _ _ _ _ => SS
    exact hraise _ _ _ _ (by assumption) SS (by assumption) (by omega)
set_option maxRecDepth 100000 in
set_option maxHeartbeats 4000000 in
theorem over_c {v b : Int} {t1 t2 : Tok}
  {A : Around} {vs8 : List Value} (hv8 : vs8 = [.int v t1, .int b t2]) (hA : A.frames = some (envX cn cs L a ccd cl :: outer)) (hh : A.handled = none) (B : Below A₀ base outer h₀) (F : Fr h₀ L s.heap m) (X : (hd.heap_1 w.params).In h₀) (N : News h₀ L s.heap news) (T : Top p loose mean mg mb h₀) (hk : cs.kind = .function)
  (hb0 : -10 ≤ b) (hb1 : b ≤ 10) (hv0 : -1073741823 ≤ v) (hv1 : v ≤ 1073741823)
  (hd : A.depth + 12 < recursionLimit) (hu : A.units + 150 < cLine)
  (hret : ∀ (r : Addr) (q t t' : Tok) (rest : Int) (h' : Heap) (tk' : Nat), Fr h₀ L h' m → News h₀ L h' ((r, tup2 (cutS v b) t rest t') :: news) → (∀ p ∈ news, p.1 < r) → b ≠ 0 → Q (.ref r) { s with heap := h', toks := tk' })
  (hraise : ∀ (e : Addr) (g h' : Heap) (tk' : Nat), Fr h₀ L g m → RaisedSN base g (envX cn cs L a ccd cl :: outer) e (.ref 57) news h' → g.UpToSlots h' → b = 0 → E (.ref e) { s with heap := h', toks := tk' }) :
  wpAny (model PP w) A (call (.ref 119) vs8) Q E s := by
  subst hv8
  refine wp_at_top hA hh ?_
  have kd := ktsDicts_nil (g := s.heap)
  refine wpAny_call ?_
  k_dflt ((refine' code_def ?k1_q ?k2_q ?k3_q ?k4_q ?k5_q ?kA_q ?kF_q ?kK_q ?k6_q ?k7_q ?k8_q ?k9_q ?kB_q ?_ ?c2_q ?c3_q ?c4_q ?c5_q; (case kA_q => exact rfl); (case kF_q => exact rfl); (case kK_q => first | exact rfl | assumption); (case k1_q => k_asm); (case k2_q => k_asm); (case k3_q => k_asm); (case k4_q => k_asm); (case k5_q => k_asm); (case k6_q => k_is); (case k7_q => k_is); (case k8_q => k_room); (case k9_q => first | exact BindsTo.of_eq rfl | exact binds_K (by k_in) rfl (by k_is) rfl rfl rfl); (case c5_q => decide); (case kB_q => exact locs rfl); (case c2_q => exact rfl); (case c3_q => exact rfl); (case c4_q => exact rfl); k_whole; intro g' L' h' FG' F' N' B' X' T'; (try k_lift B'); (refine foldM F' ?_; clear F'; intro m9 F'); (try first | (with_reducible refine foldA ?_; intro A9 d9 u9) | (with_reducible refine foldAu ?_; intro A9 d9 u9)); (try (refine foldE ?_; intro e9)); (try k_unmd); (try (refine foldQ ?_; intro qk ek)); (try dsimp only)))
  (repeat' (first | ((with_reducible show wpAny _ _ (execs _ _) _ _ _); (fail_if_success (fail_if_success k_fold)); refine foldQ ?_; intro qk ek) | ((with_reducible show wpAny _ _ (exec _ _) _ _ _); (fail_if_success (fail_if_success k_fold)); refine foldQ ?_; intro qk ek; (try (refine foldN (by with_reducible assumption) ?_; intro n9 N9))) | ((with_reducible show wpAny _ _ (leaving _ (Value.ref _)) _ _ _); first | (with_reducible (k_here; k_dflt (refine' leave_own ?K_q ?F_q ?N_q ?ne_q ?_ ?hk_q; (case N_q => k_asm); (case F_q => k_asm); (case K_q => k_asm); (case ne_q => k_all); (case hk_q => rfl); k_whole); intro h' S' R' U'; (try dsimp only at S' R' U' ⊢)))) | ((with_reducible show wpAny _ _ (exec (Stmt.Raise _ _ _) _) _ _ _); first | (with_reducible (k_here; with_unfolding_all refine raise_stmt (by rfl) ?_))) | ((with_reducible show wpAny _ _ (call (Value.ref _) _) _ _ _); first | (with_reducible (k_here; (with_reducible apply ovf_c); k_dflt (walk_at "c8"; ktr_room; ktr_units; k_whole); intro e' d' t' h' tk' F' N' l1'; (try k_lt l1'); (try k_sweep); (try k_fold))) | (with_reducible (k_here; (with_reducible apply whole_c); k_dflt (walk_at "c8"; ktr_room; ktr_units; k_whole); intro h' tk' F' N'; (try k_sweep); (try k_fold); (try k_sweep); (try k_fold)))) | ((with_reducible show wpAny _ _ (newTuple _) _ _ _); first | (with_reducible (k_here; k_dflt (refine' newTuple_V ?F_q ?N_q ?_ ?z_q; (case F_q => k_asm); (case N_q => k_asm); (case z_q => kmk_size)); intro D' h' o' n' F' N' l1; (try k_lt l1); (try k_sweep)))) | ((with_reducible show wpAny _ _ (storeName _ _ _) _ _ _); first | (with_reducible (k_here; k_dflt (refine' storeX_V ?F_q ?N_q ?_ ?a_q ?b_q; (case F_q => k_asm); (case N_q => k_asm); (case a_q => rfl); (case b_q => rfl); k_whole; intro h' tk' m' F' N'; (try k_sweep))))) | ((with_reducible show wpAny _ _ (eval (Expr.Name _ _) _) _ _ _); first | (with_reducible (k_here; name_kind "globalImplicit"; k_dflt (first | (name_is_builtin; refine' nameX_B ?F_q ?X_q ?T_q ?e_q ?v_q ?n_q ?_ ?a_q ?b_q; (case F_q => k_asm); (case X_q => k_asm); (case T_q => k_asm); (case a_q => rfl); (case b_q => rfl); (case e_q => k_is); (case v_q => boot_fast); (case n_q => decide); k_whole) | (refine' nameX_K ?F_q ?X_q ?T_q ?e_q ?_ ?a_q ?b_q; (case F_q => k_asm); (case X_q => k_asm); (case T_q => k_asm); (case a_q => rfl); (case b_q => rfl); (case e_q => k_is); k_whole)))) | (with_reducible (k_here; name_kind "local"; k_dflt (refine' nameX_L ?F_q ?v_q ?_ ?a_q ?b_q; (case F_q => k_asm); (case a_q => rfl); (case b_q => rfl); (case v_q => rfl); k_whole)))) | (k_unfold; (try dsimp only)) | (k_end; wrow_close) | (walk1; (all_goals (try dsimp only))) | (dsimp only; walk1) | (leave1; try dsimp only)))
  · rename RaisedSN base _ _ _ _ _ _ => SS
    exact hraise _ _ _ _ (by assumption) SS (by assumption) (by assumption)
  all_goals (rename Fr h₀ L _ m => FF; rename News h₀ L _ _ => NN; rename (_ != _) = _ => hc; (try dsimp (config := { zetaDelta := true }) only at NN); first | rw [← cutS_ne hc] at NN | rw [← cutS_eq hc] at NN)
  all_goals (rename AllLt _ news => ll; exact hret _ 0 _ _ _ _ _ FF (news_skip NN) (ktn_ltOf ll) (by assumption))
end
end
theorem news_drop2 {h₀ h : Heap} {L : Addr} {a b : Addr × Obj} {l l' : List (Addr × Obj)} (N : News h₀ L h (a :: b :: l)) (hs : ∀ q ∈ l', q ∈ l) : News h₀ L h (a :: b :: l') := fun q hq => by
  rcases List.mem_cons.mp hq with rfl | hq
  · exact N _ (.head _)
  · rcases List.mem_cons.mp hq with rfl | hq
    · exact N _ (.tail _ (.head _))
    · exact N _ (.tail _ (.tail _ (hs q hq)))
section
variable {w : World} {p : Program} {loose : List Str} {mean : ExcName → Option Value} {mg mb : Str → Option Value}
  {dp un : Nat} {gd : Option (List Code)} {cn : Str} {cs : Scope} {a : Addr} {ccd : Value} {cl : List (Str × Addr)} {outer : List Env} {A₀ : Around} {base h₀ : Heap} {L : Addr} {m : Str → Option Value} {news : List (Addr × Obj)} {s : Shared} {Q E : Value → Shared → Prop}

section
local macro_rules | `(tactic| k_all) => `(tactic| assumption)
set_option maxRecDepth 100000 in
set_option maxHeartbeats 4000000 in
theorem neg_c {x dx : Addr} {o : Obj} {g : G5}
  {A : Around} {vs8 : List Value} (hv8 : vs8 = [.ref x]) (hA : A.frames = some (envX cn cs L a ccd cl :: outer)) (hh : A.handled = none) (B : Below A₀ base outer h₀) (F : Fr h₀ L s.heap m) (X : (hd.heap_1 w.params).In h₀) (N : News h₀ L s.heap news) (T : Top p loose mean mg mb h₀) (hk : cs.kind = .function)
  (hm1 : (x, instObj 208 dx) ∈ news) (hm2 : (dx, o) ∈ news) (hg : GlueD w.params o g) (hok : g.Ok)
  (hd : A.depth + 20 < recursionLimit) (hu : A.units + 250 < cLine)
  (hret : ∀ (x' dx' : Addr) (o' : Obj) (h' : Heap) (tk' : Nat), Fr h₀ L h' m → News h₀ L h' ((x', instObj 208 dx') :: (dx', o') :: news) → GlueD w.params o' (G5.norm ⟨-g.w, -g.u, g.uo, -g.d, g.od⟩) → ¬ G5.Over ⟨-g.w, -g.u, g.uo, -g.d, g.od⟩ → Q (.ref x') { s with heap := h', toks := tk' })
  (hraise : ∀ (e : Addr) (gg h' : Heap) (tk' : Nat), Fr h₀ L gg m → RaisedSN base gg (envX cn cs L a ccd cl :: outer) e (.ref 57) news h' → gg.UpToSlots h' → G5.Over ⟨-g.w, -g.u, g.uo, -g.d, g.od⟩ → E (.ref e) { s with heap := h', toks := tk' }) :
  wpAny (model PP w) A (call (.ref 197) vs8) Q E s := by
  subst hv8
  refine wp_at_top hA hh ?_
  refine GlueD.elim hg ?_; intro k1 k2 k3 k4 k5 t1 t2 t3 t4 t5 eq91; subst eq91
  unfold G5.Ok MX at hok
  refine cps ?_; intro Q9 hQ9; obtain ⟨g1, g2, g3, g4, g5, g6, g7, g8, g9, g10⟩ := hok; refine hQ9 ?_; clear hQ9 Q9
  have kd := ktsDicts_nil (g := s.heap)
  refine wpAny_call ?_
  k_dflt ((refine' code_def ?k1_q ?k2_q ?k3_q ?k4_q ?k5_q ?kA_q ?kF_q ?kK_q ?k6_q ?k7_q ?k8_q ?k9_q ?kB_q ?_ ?c2_q ?c3_q ?c4_q ?c5_q; (case kA_q => exact rfl); (case kF_q => exact rfl); (case kK_q => first | exact rfl | assumption); (case k1_q => k_asm); (case k2_q => k_asm); (case k3_q => k_asm); (case k4_q => k_asm); (case k5_q => k_asm); (case k6_q => k_is); (case k7_q => k_is); (case k8_q => k_room); (case k9_q => first | exact BindsTo.of_eq rfl | exact binds_K (by k_in) rfl (by k_is) rfl rfl rfl); (case c5_q => decide); (case kB_q => exact locs rfl); (case c2_q => exact rfl); (case c3_q => exact rfl); (case c4_q => exact rfl); k_whole; intro g' L' h' FG' F' N' B' X' T'; (try k_lift B'); (refine foldM F' ?_; clear F'; intro m9 F'); (try first | (with_reducible refine foldA ?_; intro A9 d9 u9) | (with_reducible refine foldAu ?_; intro A9 d9 u9)); (try (refine foldE ?_; intro e9)); (try k_unmd); (try (refine foldQ ?_; intro qk ek)); (try dsimp only)))
  (repeat' (first | ((with_reducible show wpAny _ _ (execs _ _) _ _ _); (fail_if_success (fail_if_success k_fold)); refine foldQ ?_; intro qk ek) | ((with_reducible show wpAny _ _ (exec _ _) _ _ _); (fail_if_success (fail_if_success k_fold)); refine foldQ ?_; intro qk ek; (try (refine foldN (by with_reducible assumption) ?_; intro n9 N9))) | ((with_reducible show wpAny _ _ (call (Value.ref _) _) _ _ _); first | (with_reducible (k_here; (with_reducible apply glue_c); k_dflt (walk_at "c8"; (first | with_reducible assumption | omega); (first | with_reducible assumption | omega); (first | with_reducible assumption | omega); (first | with_reducible assumption | omega); ktr_room; ktr_units; all_goals (first | (refine fun (x' : Addr) (dx' : Addr) o' (h' : Heap) tk' F' N' l1' l2' G' K' => ?_; (try k_lt l1'); (try k_lt2 l2'); (try k_sweep); (try k_fold)) | (refine fun (e' : Addr) (g' : Heap) (h' : Heap) tk' FG' S' U' K' => ?_; try dsimp only)))))) | ((with_reducible show wpAny _ _ (eval (Expr.Name _ _) _) _ _ _); first | (with_reducible (k_here; name_kind "globalImplicit"; k_dflt (first | (name_is_builtin; refine' nameX_B ?F_q ?X_q ?T_q ?e_q ?v_q ?n_q ?_ ?a_q ?b_q; (case F_q => k_asm); (case X_q => k_asm); (case T_q => k_asm); (case a_q => rfl); (case b_q => rfl); (case e_q => k_is); (case v_q => boot_fast); (case n_q => decide); k_whole) | (refine' nameX_K ?F_q ?X_q ?T_q ?e_q ?_ ?a_q ?b_q; (case F_q => k_asm); (case X_q => k_asm); (case T_q => k_asm); (case a_q => rfl); (case b_q => rfl); (case e_q => k_is); k_whole)))) | (with_reducible (k_here; name_kind "local"; k_dflt (refine' nameX_L ?F_q ?v_q ?_ ?a_q ?b_q; (case F_q => k_asm); (case a_q => rfl); (case b_q => rfl); (case v_q => rfl); k_whole)))) | (k_unfold; (try dsimp only)) | (k_end; wrow_close) | (walk1; (all_goals (try dsimp only))) | (dsimp only; walk1) | (leave1; try dsimp only)))
  · rename Fr h₀ L _ m => FF; rename News h₀ L _ _ => NN
    exact hret _ _ _ _ _ FF NN (by assumption) (by assumption)
  · rename RaisedSN base _ _ _ _ _ _ => SS
    exact hraise _ _ _ _ (by assumption) SS (by assumption) (by assumption)
set_option maxRecDepth 100000 in
set_option maxHeartbeats 4000000 in
theorem mtimes_c {x dx : Addr} {o : Obj} {g : G5} {c : Int} {t0 : Tok}
  {A : Around} {vs8 : List Value} (hv8 : vs8 = [.ref x, .int c t0]) (hA : A.frames = some (envX cn cs L a ccd cl :: outer)) (hh : A.handled = none) (B : Below A₀ base outer h₀) (F : Fr h₀ L s.heap m) (X : (hd.heap_1 w.params).In h₀) (N : News h₀ L s.heap news) (T : Top p loose mean mg mb h₀) (hk : cs.kind = .function)
  (hm1 : (x, instObj 208 dx) ∈ news) (hm2 : (dx, o) ∈ news) (hg : GlueD w.params o g) (hok : g.Ok)
  (hc0 : -10 ≤ c) (hc1 : c ≤ 10) (hd : A.depth + 24 < recursionLimit) (hu : A.units + 300 < cLine)
  (hret : ∀ (x' dx' : Addr) (o' : Obj) (h' : Heap) (tk' : Nat), Fr h₀ L h' m → News h₀ L h' ((x', instObj 208 dx') :: (dx', o') :: news) → GlueD w.params o' (G5.norm ⟨c * g.w, c * g.u, g.uo, c * g.d, g.od⟩) → ¬ G5.Over ⟨c * g.w, c * g.u, g.uo, c * g.d, g.od⟩ → Q (.ref x') { s with heap := h', toks := tk' })
  (hraise : ∀ (e : Addr) (gg h' : Heap) (tk' : Nat), Fr h₀ L gg m → RaisedSN base gg (envX cn cs L a ccd cl :: outer) e (.ref 57) news h' → gg.UpToSlots h' → G5.Over ⟨c * g.w, c * g.u, g.uo, c * g.d, g.od⟩ → E (.ref e) { s with heap := h', toks := tk' }) :
  wpAny (model PP w) A (call (.ref 183) vs8) Q E s := by
  subst hv8
  refine wp_at_top hA hh ?_
  refine GlueD.elim hg ?_; intro k1 k2 k3 k4 k5 t1 t2 t3 t4 t5 eq91; subst eq91
  unfold G5.Ok MX at hok
  refine cps ?_; intro Q9 hQ9; obtain ⟨g1, g2, g3, g4, g5, g6, g7, g8, g9, g10⟩ := hok; refine hQ9 ?_; clear hQ9 Q9
  have kd := ktsDicts_nil (g := s.heap)
  refine wpAny_call ?_
  k_dflt ((refine' code_def ?k1_q ?k2_q ?k3_q ?k4_q ?k5_q ?kA_q ?kF_q ?kK_q ?k6_q ?k7_q ?k8_q ?k9_q ?kB_q ?_ ?c2_q ?c3_q ?c4_q ?c5_q; (case kA_q => exact rfl); (case kF_q => exact rfl); (case kK_q => first | exact rfl | assumption); (case k1_q => k_asm); (case k2_q => k_asm); (case k3_q => k_asm); (case k4_q => k_asm); (case k5_q => k_asm); (case k6_q => k_is); (case k7_q => k_is); (case k8_q => k_room); (case k9_q => first | exact BindsTo.of_eq rfl | exact binds_K (by k_in) rfl (by k_is) rfl rfl rfl); (case c5_q => decide); (case kB_q => exact locs rfl); (case c2_q => exact rfl); (case c3_q => exact rfl); (case c4_q => exact rfl); k_whole; intro g' L' h' FG' F' N' B' X' T'; (try k_lift B'); (refine foldM F' ?_; clear F'; intro m9 F'); (try first | (with_reducible refine foldA ?_; intro A9 d9 u9) | (with_reducible refine foldAu ?_; intro A9 d9 u9)); (try (refine foldE ?_; intro e9)); (try k_unmd); (try (refine foldQ ?_; intro qk ek)); (try dsimp only)))
  (repeat' (first | ((with_reducible show wpAny _ _ (execs _ _) _ _ _); (fail_if_success (fail_if_success k_fold)); refine foldQ ?_; intro qk ek) | ((with_reducible show wpAny _ _ (exec _ _) _ _ _); (fail_if_success (fail_if_success k_fold)); refine foldQ ?_; intro qk ek; (try (refine foldN (by with_reducible assumption) ?_; intro n9 N9))) | ((with_reducible show wpAny _ _ (call (Value.ref _) _) _ _ _); first | (with_reducible (k_here; (with_reducible apply times_c); k_dflt (walk_at "c8"; (first | with_reducible assumption | omega); (first | with_reducible assumption | omega); (first | with_reducible assumption | omega); (first | with_reducible assumption | omega); ktr_room; ktr_units; all_goals (first | (refine fun (t' : Tok) (h' : Heap) (tk' : Nat) F' N' e1' e2' => ?_; (try k_sweep); (try k_fold)) | (refine fun (e' : Addr) (g' : Heap) (h' : Heap) (tk' : Nat) FG' S' U' e1' => ?_; try dsimp only))))) | (with_reducible (k_here; (with_reducible apply glue_c); k_dflt (walk_at "c8"; (first | with_reducible assumption | omega); (first | with_reducible assumption | omega); (first | with_reducible assumption | omega); (first | with_reducible assumption | omega); ktr_room; ktr_units; all_goals (first | (refine fun (x' : Addr) (dx' : Addr) o' (h' : Heap) tk' F' N' l1' l2' G' K' => ?_; (try k_lt l1'); (try k_lt2 l2'); (try k_sweep); (try k_fold)) | (refine fun (e' : Addr) (g' : Heap) (h' : Heap) tk' FG' S' U' K' => ?_; try dsimp only)))))) | ((with_reducible show wpAny _ _ (newTuple _) _ _ _); first | (with_reducible (k_here; k_dflt (refine' newTuple_V ?F_q ?N_q ?_ ?z_q; (case F_q => k_asm); (case N_q => k_asm); (case z_q => kmk_size)); intro D' h' o' n' F' N' l1; (try k_lt l1); (try k_sweep)))) | ((with_reducible show wpAny _ _ (storeName _ _ _) _ _ _); first | (with_reducible (k_here; k_dflt (refine' storeX_V ?F_q ?N_q ?_ ?a_q ?b_q; (case F_q => k_asm); (case N_q => k_asm); (case a_q => rfl); (case b_q => rfl); k_whole; intro h' tk' m' F' N'; (try k_sweep))))) | ((with_reducible show wpAny _ _ (eval (Expr.Name _ _) _) _ _ _); first | (with_reducible (k_here; name_kind "globalImplicit"; k_dflt (first | (name_is_builtin; refine' nameX_B ?F_q ?X_q ?T_q ?e_q ?v_q ?n_q ?_ ?a_q ?b_q; (case F_q => k_asm); (case X_q => k_asm); (case T_q => k_asm); (case a_q => rfl); (case b_q => rfl); (case e_q => k_is); (case v_q => boot_fast); (case n_q => decide); k_whole) | (refine' nameX_K ?F_q ?X_q ?T_q ?e_q ?_ ?a_q ?b_q; (case F_q => k_asm); (case X_q => k_asm); (case T_q => k_asm); (case a_q => rfl); (case b_q => rfl); (case e_q => k_is); k_whole)))) | (with_reducible (k_here; name_kind "local"; k_dflt (refine' nameX_L ?F_q ?v_q ?_ ?a_q ?b_q; (case F_q => k_asm); (case a_q => rfl); (case b_q => rfl); (case v_q => rfl); k_whole)))) | (k_unfold; (try dsimp only)) | (k_end; wrow_close) | (walk1; (all_goals (try dsimp only))) | (dsimp only; walk1) | (leave1; try dsimp only)))
  · rename Fr h₀ L _ m => FF; rename News h₀ L _ _ => NN
    exact hret _ _ _ _ _ FF (news_drop2 NN fun q hq => List.mem_cons_of_mem _ hq) (by assumption) (by assumption)
  · rename RaisedSN base _ _ _ _ _ _ => SS
    exact hraise _ _ _ _ (by assumption) (raisedSN_sub SS fun q hq => List.mem_cons_of_mem _ hq) (by assumption) (by assumption)
  all_goals
    rename RaisedSN base _ _ _ _ _ _ => SS
    exact hraise _ _ _ _ (by assumption) (raisedSN_sub SS fun q hq => by first | exact hq | exact List.mem_cons_of_mem _ hq) (by assumption) (by unfold G5.Over MX; dsimp only; omega)
set_option maxRecDepth 100000 in
set_option maxHeartbeats 4000000 in
theorem mover_c {x dx : Addr} {o : Obj} {g : G5} {c : Int} {t0 : Tok}
  {A : Around} {vs8 : List Value} (hv8 : vs8 = [.ref x, .int c t0]) (hA : A.frames = some (envX cn cs L a ccd cl :: outer)) (hh : A.handled = none) (B : Below A₀ base outer h₀) (F : Fr h₀ L s.heap m) (X : (hd.heap_1 w.params).In h₀) (N : News h₀ L s.heap news) (T : Top p loose mean mg mb h₀) (hk : cs.kind = .function)
  (hm1 : (x, instObj 208 dx) ∈ news) (hm2 : (dx, o) ∈ news) (hg : GlueD w.params o g) (hok : g.Ok)
  (hc0 : -10 ≤ c) (hc1 : c ≤ 10) (hd : A.depth + 24 < recursionLimit) (hu : A.units + 300 < cLine)
  (hret : ∀ (x' dx' : Addr) (o' : Obj) (h' : Heap) (tk' : Nat), Fr h₀ L h' m → News h₀ L h' ((x', instObj 208 dx') :: (dx', o') :: news) → GlueD w.params o' (G5.norm ⟨cutS g.w c, cutS g.u c, g.uo, cutS g.d c, g.od⟩) → ¬ G5.Over ⟨cutS g.w c, cutS g.u c, g.uo, cutS g.d c, g.od⟩ → c ≠ 0 → Q (.ref x') { s with heap := h', toks := tk' })
  (hraise : ∀ (e : Addr) (gg h' : Heap) (tk' : Nat), Fr h₀ L gg m → RaisedSN base gg (envX cn cs L a ccd cl :: outer) e (.ref 57) news h' → gg.UpToSlots h' → (c = 0 ∨ G5.Over ⟨cutS g.w c, cutS g.u c, g.uo, cutS g.d c, g.od⟩) → E (.ref e) { s with heap := h', toks := tk' }) :
  wpAny (model PP w) A (call (.ref 190) vs8) Q E s := by
  subst hv8
  refine wp_at_top hA hh ?_
  refine GlueD.elim hg ?_; intro k1 k2 k3 k4 k5 t1 t2 t3 t4 t5 eq91; subst eq91
  unfold G5.Ok MX at hok
  refine cps ?_; intro Q9 hQ9; obtain ⟨g1, g2, g3, g4, g5, g6, g7, g8, g9, g10⟩ := hok; refine hQ9 ?_; clear hQ9 Q9
  have kd := ktsDicts_nil (g := s.heap)
  refine wpAny_call ?_
  k_dflt ((refine' code_def ?k1_q ?k2_q ?k3_q ?k4_q ?k5_q ?kA_q ?kF_q ?kK_q ?k6_q ?k7_q ?k8_q ?k9_q ?kB_q ?_ ?c2_q ?c3_q ?c4_q ?c5_q; (case kA_q => exact rfl); (case kF_q => exact rfl); (case kK_q => first | exact rfl | assumption); (case k1_q => k_asm); (case k2_q => k_asm); (case k3_q => k_asm); (case k4_q => k_asm); (case k5_q => k_asm); (case k6_q => k_is); (case k7_q => k_is); (case k8_q => k_room); (case k9_q => first | exact BindsTo.of_eq rfl | exact binds_K (by k_in) rfl (by k_is) rfl rfl rfl); (case c5_q => decide); (case kB_q => exact locs rfl); (case c2_q => exact rfl); (case c3_q => exact rfl); (case c4_q => exact rfl); k_whole; intro g' L' h' FG' F' N' B' X' T'; (try k_lift B'); (refine foldM F' ?_; clear F'; intro m9 F'); (try first | (with_reducible refine foldA ?_; intro A9 d9 u9) | (with_reducible refine foldAu ?_; intro A9 d9 u9)); (try (refine foldE ?_; intro e9)); (try k_unmd); (try (refine foldQ ?_; intro qk ek)); (try dsimp only)))
  (repeat' (first | ((with_reducible show wpAny _ _ (execs _ _) _ _ _); (fail_if_success (fail_if_success k_fold)); refine foldQ ?_; intro qk ek) | ((with_reducible show wpAny _ _ (exec _ _) _ _ _); (fail_if_success (fail_if_success k_fold)); refine foldQ ?_; intro qk ek; (try (refine foldN (by with_reducible assumption) ?_; intro n9 N9))) | ((with_reducible show wpAny _ _ (call (Value.ref _) _) _ _ _); first | (with_reducible (k_here; (with_reducible apply over_c); k_dflt (walk_at "c8"; (first | with_reducible assumption | omega); (first | with_reducible assumption | omega); (first | with_reducible assumption | omega); (first | with_reducible assumption | omega); ktr_room; ktr_units; all_goals (first | (refine fun (r' : Addr) (q' : Tok) (t' : Tok) (t2' : Tok) (x' : Int) h' tk' F' N' l1' e1' => ?_; (try k_lt l1'); (try k_sweep); (try k_fold)) | (refine fun (e' : Addr) (g' : Heap) (h' : Heap) (tk' : Nat) FG' S' U' e1' => ?_; try dsimp only))))) | (with_reducible (k_here; (with_reducible apply glue_c); k_dflt (walk_at "c8"; (first | with_reducible assumption | omega); (first | with_reducible assumption | omega); (first | with_reducible assumption | omega); (first | with_reducible assumption | omega); ktr_room; ktr_units; all_goals (first | (refine fun (x' : Addr) (dx' : Addr) o' (h' : Heap) tk' F' N' l1' l2' G' K' => ?_; (try k_lt l1'); (try k_lt2 l2'); (try k_sweep); (try k_fold)) | (refine fun (e' : Addr) (g' : Heap) (h' : Heap) tk' FG' S' U' K' => ?_; try dsimp only)))))) | ((with_reducible show wpAny _ _ (newTuple _) _ _ _); first | (with_reducible (k_here; k_dflt (refine' newTuple_V ?F_q ?N_q ?_ ?z_q; (case F_q => k_asm); (case N_q => k_asm); (case z_q => kmk_size)); intro D' h' o' n' F' N' l1; (try k_lt l1); (try k_sweep)))) | ((with_reducible show wpAny _ _ (storeName _ _ _) _ _ _); first | (with_reducible (k_here; k_dflt (refine' storeX_V ?F_q ?N_q ?_ ?a_q ?b_q; (case F_q => k_asm); (case N_q => k_asm); (case a_q => rfl); (case b_q => rfl); k_whole; intro h' tk' m' F' N'; (try k_sweep))))) | ((with_reducible show wpAny _ _ (eval (Expr.Name _ _) _) _ _ _); first | (with_reducible (k_here; name_kind "globalImplicit"; k_dflt (first | (name_is_builtin; refine' nameX_B ?F_q ?X_q ?T_q ?e_q ?v_q ?n_q ?_ ?a_q ?b_q; (case F_q => k_asm); (case X_q => k_asm); (case T_q => k_asm); (case a_q => rfl); (case b_q => rfl); (case e_q => k_is); (case v_q => boot_fast); (case n_q => decide); k_whole) | (refine' nameX_K ?F_q ?X_q ?T_q ?e_q ?_ ?a_q ?b_q; (case F_q => k_asm); (case X_q => k_asm); (case T_q => k_asm); (case a_q => rfl); (case b_q => rfl); (case e_q => k_is); k_whole)))) | (with_reducible (k_here; name_kind "local"; k_dflt (refine' nameX_L ?F_q ?v_q ?_ ?a_q ?b_q; (case F_q => k_asm); (case a_q => rfl); (case b_q => rfl); (case v_q => rfl); k_whole)))) | (k_unfold; (try dsimp only)) | (k_end; wrow_close) | (walk1; (all_goals (try dsimp only))) | (dsimp only; walk1) | (leave1; try dsimp only)))
  · rename Fr h₀ L _ m => FF; rename News h₀ L _ _ => NN
    exact hret _ _ _ _ _ FF (news_drop2 NN fun q hq => List.mem_cons_of_mem _ (List.mem_cons_of_mem _ (List.mem_cons_of_mem _ (List.mem_cons_of_mem _ hq)))) (by assumption) (by assumption) (by assumption)
  · rename RaisedSN base _ _ _ _ _ _ => SS
    exact hraise _ _ _ _ (by assumption) (raisedSN_sub SS fun q hq => List.mem_cons_of_mem _ (List.mem_cons_of_mem _ (List.mem_cons_of_mem _ (List.mem_cons_of_mem _ hq)))) (by assumption) (Or.inr (by assumption))
  all_goals
    rename RaisedSN base _ _ _ _ _ _ => SS
    exact hraise _ _ _ _ (by assumption) (raisedSN_sub SS fun q hq => by first | exact hq | exact List.mem_cons_of_mem _ hq | exact List.mem_cons_of_mem _ (List.mem_cons_of_mem _ hq) | exact List.mem_cons_of_mem _ (List.mem_cons_of_mem _ (List.mem_cons_of_mem _ hq))) (by assumption) (Or.inl (by assumption))
end
end
theorem psumS_b {v o v2 o2 : Int} (h0 : 0 ≤ o) (h3 : o ≤ 3) (h02 : 0 ≤ o2) (h32 : o2 ≤ 3) : 0 ≤ (psumS v o v2 o2).2 ∧ (psumS v o v2 o2).2 ≤ 3 := by
  unfold psumS
  split
  · exact ⟨h0, h3⟩
  · split
    · exact ⟨h02, h32⟩
    · exact ⟨h0, h3⟩
section
variable {w : World} {p : Program} {loose : List Str} {mean : ExcName → Option Value} {mg mb : Str → Option Value}
  {dp un : Nat} {gd : Option (List Code)} {cn : Str} {cs : Scope} {a : Addr} {ccd : Value} {cl : List (Str × Addr)} {outer : List Env} {A₀ : Around} {base h₀ : Heap} {L : Addr} {m : Str → Option Value} {news : List (Addr × Obj)} {s : Shared} {Q E : Value → Shared → Prop}

section
local macro_rules | `(tactic| k_all) => `(tactic| assumption)
set_option maxRecDepth 100000 in
set_option maxHeartbeats 4000000 in
theorem added_c {x dx y dy : Addr} {o o2 : Obj} {g f : G5}
  {A : Around} {vs8 : List Value} (hv8 : vs8 = [.ref x, .ref y]) (hA : A.frames = some (envX cn cs L a ccd cl :: outer)) (hh : A.handled = none) (B : Below A₀ base outer h₀) (F : Fr h₀ L s.heap m) (X : (hd.heap_1 w.params).In h₀) (N : News h₀ L s.heap news) (T : Top p loose mean mg mb h₀) (hk : cs.kind = .function)
  (hm1 : (x, instObj 208 dx) ∈ news) (hm2 : (dx, o) ∈ news) (hg : GlueD w.params o g) (hok : g.Ok)
  (hm3 : (y, instObj 208 dy) ∈ news) (hm4 : (dy, o2) ∈ news) (hf : GlueD w.params o2 f) (hfk : f.Ok)
  (hd : A.depth + 20 < recursionLimit) (hu : A.units + 250 < cLine)
  (hret : ∀ (x' dx' : Addr) (o' : Obj) (h' : Heap) (tk' : Nat), Fr h₀ L h' m → News h₀ L h' ((x', instObj 208 dx') :: (dx', o') :: news) → GlueD w.params o' (G5.norm ⟨g.w + f.w, (psumS g.u g.uo f.u f.uo).1, (psumS g.u g.uo f.u f.uo).2, (psumS g.d g.od f.d f.od).1, (psumS g.d g.od f.d f.od).2⟩) → ¬ G5.Over ⟨g.w + f.w, (psumS g.u g.uo f.u f.uo).1, (psumS g.u g.uo f.u f.uo).2, (psumS g.d g.od f.d f.od).1, (psumS g.d g.od f.d f.od).2⟩ → Q (.ref x') { s with heap := h', toks := tk' })
  (hraise : ∀ (e : Addr) (gg h' : Heap) (tk' : Nat), Fr h₀ L gg m → RaisedSN base gg (envX cn cs L a ccd cl :: outer) e (.ref 57) news h' → gg.UpToSlots h' → G5.Over ⟨g.w + f.w, (psumS g.u g.uo f.u f.uo).1, (psumS g.u g.uo f.u f.uo).2, (psumS g.d g.od f.d f.od).1, (psumS g.d g.od f.d f.od).2⟩ → E (.ref e) { s with heap := h', toks := tk' }) :
  wpAny (model PP w) A (call (.ref 176) vs8) Q E s := by
  subst hv8
  refine wp_at_top hA hh ?_
  refine GlueD.elim hg ?_; intro k1 k2 k3 k4 k5 t1 t2 t3 t4 t5 eq91; subst eq91
  refine GlueD.elim hf ?_; intro k6 k7 k8 k9 k10 t6 t7 t8 t9 t10 eq91; subst eq91
  unfold G5.Ok MX at hok hfk
  refine cps ?_; intro Q9 hQ9; obtain ⟨g1, g2, g3, g4, g5, g6, g7, g8, g9, g10⟩ := hok; refine hQ9 ?_; clear hQ9 Q9
  refine cps ?_; intro Q9 hQ9; obtain ⟨f1, f2, f3, f4, f5, f6, f7, f8, f9, f10⟩ := hfk; refine hQ9 ?_; clear hQ9 Q9
  have p1 := psumS_b (v := g.u) (v2 := f.u) g5 g6 f5 f6
  have p2 := psumS_b (v := g.d) (v2 := f.d) g9 g10 f9 f10
  have kd := ktsDicts_nil (g := s.heap)
  refine wpAny_call ?_
  k_dflt ((refine' code_def ?k1_q ?k2_q ?k3_q ?k4_q ?k5_q ?kA_q ?kF_q ?kK_q ?k6_q ?k7_q ?k8_q ?k9_q ?kB_q ?_ ?c2_q ?c3_q ?c4_q ?c5_q; (case kA_q => exact rfl); (case kF_q => exact rfl); (case kK_q => first | exact rfl | assumption); (case k1_q => k_asm); (case k2_q => k_asm); (case k3_q => k_asm); (case k4_q => k_asm); (case k5_q => k_asm); (case k6_q => k_is); (case k7_q => k_is); (case k8_q => k_room); (case k9_q => first | exact BindsTo.of_eq rfl | exact binds_K (by k_in) rfl (by k_is) rfl rfl rfl); (case c5_q => decide); (case kB_q => exact locs rfl); (case c2_q => exact rfl); (case c3_q => exact rfl); (case c4_q => exact rfl); k_whole; intro g' L' h' FG' F' N' B' X' T'; (try k_lift B'); (refine foldM F' ?_; clear F'; intro m9 F'); (try first | (with_reducible refine foldA ?_; intro A9 d9 u9) | (with_reducible refine foldAu ?_; intro A9 d9 u9)); (try (refine foldE ?_; intro e9)); (try k_unmd); (try (refine foldQ ?_; intro qk ek)); (try dsimp only)))
  (repeat' (first | ((with_reducible show wpAny _ _ (execs _ _) _ _ _); (fail_if_success (fail_if_success k_fold)); refine foldQ ?_; intro qk ek) | ((with_reducible show wpAny _ _ (exec _ _) _ _ _); (fail_if_success (fail_if_success k_fold)); refine foldQ ?_; intro qk ek; (try (refine foldN (by with_reducible assumption) ?_; intro n9 N9))) | ((with_reducible show wpAny _ _ (call (Value.ref _) _) _ _ _); first | (with_reducible (k_here; (with_reducible apply glue_c); k_dflt (walk_at "c8"; (first | with_reducible assumption | omega); (first | with_reducible assumption | omega); (first | with_reducible assumption | omega); (first | with_reducible assumption | omega); ktr_room; ktr_units; all_goals (first | (refine fun (x' : Addr) (dx' : Addr) o' (h' : Heap) tk' F' N' l1' l2' G' K' => ?_; (try k_lt l1'); (try k_lt2 l2'); (try k_sweep); (try k_fold)) | (refine fun (e' : Addr) (g' : Heap) (h' : Heap) tk' FG' S' U' K' => ?_; try dsimp only))))) | (with_reducible (k_here; (with_reducible apply psum_c); k_dflt (walk_at "c8"; ktr_room; ktr_units; k_whole); intro r' t' t2' h' tk' F' N' l1'; (try k_lt l1'); (try k_sweep); (try k_fold)))) | ((with_reducible show wpAny _ _ (storeName _ _ _) _ _ _); first | (with_reducible (k_here; k_dflt (refine' storeX_V ?F_q ?N_q ?_ ?a_q ?b_q; (case F_q => k_asm); (case N_q => k_asm); (case a_q => rfl); (case b_q => rfl); k_whole; intro h' tk' m' F' N'; (try k_sweep))))) | ((with_reducible show wpAny _ _ (eval (Expr.Name _ _) _) _ _ _); first | (with_reducible (k_here; name_kind "globalImplicit"; k_dflt (first | (name_is_builtin; refine' nameX_B ?F_q ?X_q ?T_q ?e_q ?v_q ?n_q ?_ ?a_q ?b_q; (case F_q => k_asm); (case X_q => k_asm); (case T_q => k_asm); (case a_q => rfl); (case b_q => rfl); (case e_q => k_is); (case v_q => boot_fast); (case n_q => decide); k_whole) | (refine' nameX_K ?F_q ?X_q ?T_q ?e_q ?_ ?a_q ?b_q; (case F_q => k_asm); (case X_q => k_asm); (case T_q => k_asm); (case a_q => rfl); (case b_q => rfl); (case e_q => k_is); k_whole)))) | (with_reducible (k_here; name_kind "local"; k_dflt (refine' nameX_L ?F_q ?v_q ?_ ?a_q ?b_q; (case F_q => k_asm); (case a_q => rfl); (case b_q => rfl); (case v_q => rfl); k_whole)))) | (k_unfold; (try dsimp only)) | (k_end; wrow_close) | (walk1; (all_goals (try dsimp only))) | (dsimp only; walk1) | (leave1; try dsimp only)))
  · rename Fr h₀ L _ m => FF; rename News h₀ L _ _ => NN
    exact hret _ _ _ _ _ FF (news_drop2 NN fun q hq => by repeat (first | exact hq | refine List.mem_cons_of_mem _ ?_)) (by assumption) (by assumption)
  · rename RaisedSN base _ _ _ _ _ _ => SS
    exact hraise _ _ _ _ (by assumption) (raisedSN_sub SS fun q hq => by repeat (first | exact hq | refine List.mem_cons_of_mem _ ?_)) (by assumption) (by assumption)
end
end
theorem textS_nn {g : G5} {u : Str} (hu : g.u ≠ 0) (hd : g.d ≠ 0) : (decS g.w ++ u) ++ (Str.ofString " plus " ++ partS g.u g.uo u) ++ (Str.ofString " minus " ++ partS g.d g.od u) = textS g u := by
  unfold textS; dsimp only; rw [if_neg hd, if_neg hu]
theorem textS_nz {g : G5} {u : Str} (hu : g.u ≠ 0) (hd : g.d = 0) : (decS g.w ++ u) ++ (Str.ofString " plus " ++ partS g.u g.uo u) = textS g u := by
  unfold textS; dsimp only; rw [if_pos hd, if_neg hu]
theorem textS_zn {g : G5} {u : Str} (hu : g.u = 0) (hd : g.d ≠ 0) : (decS g.w ++ u) ++ (Str.ofString " minus " ++ partS g.d g.od u) = textS g u := by
  unfold textS; dsimp only; rw [if_neg hd, if_pos hu]
theorem textS_zz {g : G5} {u : Str} (hu : g.u = 0) (hd : g.d = 0) : decS g.w ++ u = textS g u := by
  unfold textS; dsimp only; rw [if_pos hd, if_pos hu]
section
variable {w : World} {p : Program} {loose : List Str} {mean : ExcName → Option Value} {mg mb : Str → Option Value}
  {dp un : Nat} {gd : Option (List Code)} {cn : Str} {cs : Scope} {a : Addr} {ccd : Value} {cl : List (Str × Addr)} {outer : List Env} {A₀ : Around} {base h₀ : Heap} {L : Addr} {m : Str → Option Value} {news : List (Addr × Obj)} {s : Shared} {Q E : Value → Shared → Prop}

set_option maxRecDepth 100000 in
set_option maxHeartbeats 4000000 in
theorem gtext_c {x dx : Addr} {o : Obj} {g : G5} {u : Str} {t0 : Tok}
  {A : Around} {vs8 : List Value} (hv8 : vs8 = [.ref x, .str u t0]) (hA : A.frames = some (envX cn cs L a ccd cl :: outer)) (hh : A.handled = none) (B : Below A₀ base outer h₀) (F : Fr h₀ L s.heap m) (X : (hd.heap_1 w.params).In h₀) (N : News h₀ L s.heap news) (T : Top p loose mean mg mb h₀) (hk : cs.kind = .function)
  (hm1 : (x, instObj 208 dx) ∈ news) (hm2 : (dx, o) ∈ news) (hg : GlueD w.params o g) (hok : g.Ok) (hul : u.length ≤ 100)
  (hd : A.depth + 10 < recursionLimit) (hu : A.units + 120 < cLine)
  (hret : ∀ (t : Tok) (h' : Heap) (tk' : Nat), Fr h₀ L h' m → News h₀ L h' news → Q (.str (textS g u) t) { s with heap := h', toks := tk' }) :
  wpAny (model PP w) A (call (.ref 205) vs8) Q E s := by
  subst hv8
  refine wp_at_top hA hh ?_
  refine GlueD.elim hg ?_; intro k1 k2 k3 k4 k5 t1 t2 t3 t4 t5 eq91; subst eq91
  unfold G5.Ok MX at hok
  refine cps ?_; intro Q9 hQ9; obtain ⟨g1, g2, g3, g4, g5, g6, g7, g8, g9, g10⟩ := hok; refine hQ9 ?_; clear hQ9 Q9
  refine wpAny_call ?_
  k_dflt k_enter
  (repeat' (first | ((with_reducible show wpAny _ _ (execs _ _) _ _ _); (fail_if_success (fail_if_success k_fold)); refine foldQ ?_; intro qk ek) | ((with_reducible show wpAny _ _ (exec _ _) _ _ _); (fail_if_success (fail_if_success k_fold)); refine foldQ ?_; intro qk ek; (try (refine foldN (by with_reducible assumption) ?_; intro n9 N9))) | ((with_reducible show wpAny _ _ (call (Value.ref _) _) _ _ _); first | (with_reducible (k_here; (with_reducible apply partt_c); k_dflt (walk_at "c8"; (first | with_reducible assumption | omega); (first | with_reducible assumption | omega); (first | with_reducible assumption | omega); (first | with_reducible assumption | omega); (first | with_reducible assumption | omega); ktr_room; ktr_units; k_whole); intro t' h' tk' F' N' e1'; (try k_sweep); (try k_fold))) | (with_reducible (k_here; (with_reducible show wpAny _ _ (call (Value.ref 105) _) _ _ _); k_dflt (refine' wp_at_top ?tA_q ?tH_q ?_; (case tA_q => exact rfl); (case tH_q => exact rfl); refine' dec_d ?k1_q ?k2_q ?k3_q ?k4_q ?k5_q ?kK_q ?n1_q ?n2_q ?kd_q ?ku_q ?_; (case k1_q => k_asm); (case k2_q => k_asm); (case k3_q => k_asm); (case k4_q => k_asm); (case k5_q => k_asm); (case kK_q => first | exact rfl | assumption); (case n1_q => first | with_reducible assumption | omega); (case n2_q => first | with_reducible assumption | omega); (case kd_q => ktr_room); (case ku_q => ktr_units); k_whole); intro t' h' tk' F' N' e1'; (try k_sweep); (try k_fold)))) | ((with_reducible show wpAny _ _ (storeName _ _ _) _ _ _); first | (with_reducible (k_here; k_dflt (refine' storeX_V ?F_q ?N_q ?_ ?a_q ?b_q; (case F_q => k_asm); (case N_q => k_asm); (case a_q => rfl); (case b_q => rfl); k_whole; intro h' tk' m' F' N'; (try k_sweep))))) | ((with_reducible show wpAny _ _ (eval (Expr.Name _ _) _) _ _ _); first | (with_reducible (k_here; name_kind "globalImplicit"; k_dflt (first | (name_is_builtin; refine' nameX_B ?F_q ?X_q ?T_q ?e_q ?v_q ?n_q ?_ ?a_q ?b_q; (case F_q => k_asm); (case X_q => k_asm); (case T_q => k_asm); (case a_q => rfl); (case b_q => rfl); (case e_q => k_is); (case v_q => boot_fast); (case n_q => decide); k_whole) | (refine' nameX_K ?F_q ?X_q ?T_q ?e_q ?_ ?a_q ?b_q; (case F_q => k_asm); (case X_q => k_asm); (case T_q => k_asm); (case a_q => rfl); (case b_q => rfl); (case e_q => k_is); k_whole)))) | (with_reducible (k_here; name_kind "local"; k_dflt (refine' nameX_L ?F_q ?v_q ?_ ?a_q ?b_q; (case F_q => k_asm); (case a_q => rfl); (case b_q => rfl); (case v_q => rfl); k_whole)))) | (k_unfold; (try dsimp only)) | (k_end; wrow_close) | (walk1; (all_goals (try dsimp only))) | (dsimp only; walk1) | (leave1; try dsimp only)))
  all_goals (rename Fr h₀ L _ m => FF; rename News h₀ L _ _ => NN)
  · exact cb_retS hret (textS_nn (by assumption) (by assumption)) FF NN
  · exact cb_retS hret (textS_nz (by assumption) (by assumption)) FF NN
  · exact cb_retS hret (textS_zn (by assumption) (by assumption)) FF NN
  · exact cb_retS hret (textS_zz (by assumption) (by assumption)) FF NN
set_option maxRecDepth 100000 in
set_option maxHeartbeats 4000000 in
theorem gtext0_c {x dx : Addr} {o : Obj} {g : G5}
  {A : Around} {vs8 : List Value} (hv8 : vs8 = [.ref x]) (hA : A.frames = some (envX cn cs L a ccd cl :: outer)) (hh : A.handled = none) (B : Below A₀ base outer h₀) (F : Fr h₀ L s.heap m) (X : (hd.heap_1 w.params).In h₀) (N : News h₀ L s.heap news) (T : Top p loose mean mg mb h₀) (hk : cs.kind = .function)
  (hm1 : (x, instObj 208 dx) ∈ news) (hm2 : (dx, o) ∈ news) (hg : GlueD w.params o g) (hok : g.Ok)
  (hd : A.depth + 10 < recursionLimit) (hu : A.units + 120 < cLine)
  (hret : ∀ (t : Tok) (h' : Heap) (tk' : Nat), Fr h₀ L h' m → News h₀ L h' news → Q (.str (textS g (Str.ofString "pt")) t) { s with heap := h', toks := tk' }) :
  wpAny (model PP w) A (call (.ref 205) vs8) Q E s := by
  subst hv8
  refine wp_at_top hA hh ?_
  refine GlueD.elim hg ?_; intro k1 k2 k3 k4 k5 t1 t2 t3 t4 t5 eq91; subst eq91
  have hul : (Str.ofString "pt").length ≤ 100 := by decide
  unfold G5.Ok MX at hok
  refine cps ?_; intro Q9 hQ9; obtain ⟨g1, g2, g3, g4, g5, g6, g7, g8, g9, g10⟩ := hok; refine hQ9 ?_; clear hQ9 Q9
  refine wpAny_call ?_
  k_dflt k_enter
  (repeat' (first | ((with_reducible show wpAny _ _ (execs _ _) _ _ _); (fail_if_success (fail_if_success k_fold)); refine foldQ ?_; intro qk ek) | ((with_reducible show wpAny _ _ (exec _ _) _ _ _); (fail_if_success (fail_if_success k_fold)); refine foldQ ?_; intro qk ek; (try (refine foldN (by with_reducible assumption) ?_; intro n9 N9))) | ((with_reducible show wpAny _ _ (call (Value.ref _) _) _ _ _); first | (with_reducible (k_here; (with_reducible apply partt_c); k_dflt (walk_at "c8"; (first | with_reducible assumption | omega); (first | with_reducible assumption | omega); (first | with_reducible assumption | omega); (first | with_reducible assumption | omega); (first | with_reducible assumption | omega); ktr_room; ktr_units; k_whole); intro t' h' tk' F' N' e1'; (try k_sweep); (try k_fold))) | (with_reducible (k_here; (with_reducible show wpAny _ _ (call (Value.ref 105) _) _ _ _); k_dflt (refine' wp_at_top ?tA_q ?tH_q ?_; (case tA_q => exact rfl); (case tH_q => exact rfl); refine' dec_d ?k1_q ?k2_q ?k3_q ?k4_q ?k5_q ?kK_q ?n1_q ?n2_q ?kd_q ?ku_q ?_; (case k1_q => k_asm); (case k2_q => k_asm); (case k3_q => k_asm); (case k4_q => k_asm); (case k5_q => k_asm); (case kK_q => first | exact rfl | assumption); (case n1_q => first | with_reducible assumption | omega); (case n2_q => first | with_reducible assumption | omega); (case kd_q => ktr_room); (case ku_q => ktr_units); k_whole); intro t' h' tk' F' N' e1'; (try k_sweep); (try k_fold)))) | ((with_reducible show wpAny _ _ (storeName _ _ _) _ _ _); first | (with_reducible (k_here; k_dflt (refine' storeX_V ?F_q ?N_q ?_ ?a_q ?b_q; (case F_q => k_asm); (case N_q => k_asm); (case a_q => rfl); (case b_q => rfl); k_whole; intro h' tk' m' F' N'; (try k_sweep))))) | ((with_reducible show wpAny _ _ (eval (Expr.Name _ _) _) _ _ _); first | (with_reducible (k_here; name_kind "globalImplicit"; k_dflt (first | (name_is_builtin; refine' nameX_B ?F_q ?X_q ?T_q ?e_q ?v_q ?n_q ?_ ?a_q ?b_q; (case F_q => k_asm); (case X_q => k_asm); (case T_q => k_asm); (case a_q => rfl); (case b_q => rfl); (case e_q => k_is); (case v_q => boot_fast); (case n_q => decide); k_whole) | (refine' nameX_K ?F_q ?X_q ?T_q ?e_q ?_ ?a_q ?b_q; (case F_q => k_asm); (case X_q => k_asm); (case T_q => k_asm); (case a_q => rfl); (case b_q => rfl); (case e_q => k_is); k_whole)))) | (with_reducible (k_here; name_kind "local"; k_dflt (refine' nameX_L ?F_q ?v_q ?_ ?a_q ?b_q; (case F_q => k_asm); (case a_q => rfl); (case b_q => rfl); (case v_q => rfl); k_whole)))) | (k_unfold; (try dsimp only)) | (k_end; wrow_close) | (walk1; (all_goals (try dsimp only))) | (dsimp only; walk1) | (leave1; try dsimp only)))
  all_goals (rename Fr h₀ L _ m => FF; rename News h₀ L _ _ => NN)
  · exact cb_retS hret (textS_nn (by assumption) (by assumption)) FF NN
  · exact cb_retS hret (textS_nz (by assumption) (by assumption)) FF NN
  · exact cb_retS hret (textS_zn (by assumption) (by assumption)) FF NN
  · exact cb_retS hret (textS_zz (by assumption) (by assumption)) FF NN
end
abbrev tsts (ifs : List Expr) (env : Env) : Sem Bool := forIn ifs true fun c r => if r = true then do let ok ← isTrue c env (eval c env); pure (ForInStep.yield ok) else pure (ForInStep.yield r)
section
variable {prog : Program} {w : World} {A : Around} {E : Value → Shared → Prop} {s : Shared}
theorem let_tupiter {elts : List Expr} {x1} {pos : Pos} {I l T : Addr} {i : Nat} {Q : Unit → Shared → Prop} (hit : s.heap.IsTupleIter I l i) (hQ : Q () s) :
    wpAny (model prog w) A (letOwnedTupleGo (.Tuple elts x1 pos) (.ref I) (.ref T)) Q E s := by
  refine cps ?_; intro Q9 hQ9; obtain ⟨o, ho, hc, hd⟩ := hit; refine hQ9 ?_; clear hQ9 Q9
  unfold letOwnedTupleGo
  refine wpAny_bind (wpAny_load ho ?_)
  rw [hc, hd]
  have hno : ["enumerate", "zip", "dict_itemiterator", "dict_reverseitemiterator", "odict_iterator", "itertools.zip_longest", "itertools.pairwise"].contains "tuple_iterator" = false := by decide
  show wpAny _ A (if (["enumerate", "zip", "dict_itemiterator", "dict_reverseitemiterator", "odict_iterator", "itertools.zip_longest", "itertools.pairwise"].contains "tuple_iterator" && _) = true then _ else _) Q E s
  rw [hno, Bool.false_and, if_neg (by decide)]
  exact wpAny_pure hQ
/-- one turn of a comprehension, target and tests as they are -/
theorem compLoop_any {elt target iter : Expr} {ifs : List Expr} {scope : Scope} {pos : Pos} {it acc : Value} {env : Env} {R : Result → Shared → Prop} (I : Nat → Shared → Prop)
    (turn : ∀ n s, I n s → wpAny (model prog w) A (pyNext it) (fun r s₁ => match r with
      | none => R (.ok .next) s₁
      | some v => wpAny (model prog w) A (letOwnedTupleGo target it v) (fun _ s₀ => wpAny (model prog w) A (assign target env v) (fun _ s₂ =>
          wpAny (model prog w) A (tsts ifs env) (fun ok s₃ => if ok = true then wpAny (model prog w) A (eval elt env) (fun x s₄ =>
            wpAny (model prog w) A (call (.builtin "list.append") [acc, x]) (fun _ s₅ => ∃ m, m < n ∧ I m s₅) (notedBy (model prog w) A env fun e s' => R (.error e) s') s₄) (notedBy (model prog w) A env fun e s' => R (.error e) s') s₃
            else ∃ m, m < n ∧ I m s₃) (notedBy (model prog w) A env fun e s' => R (.error e) s') s₂)
          (notedBy (model prog w) A env fun e s' => R (.error e) s') s₀) (notedBy (model prog w) A env fun e s' => R (.error e) s') s₁) (notedBy (model prog w) A env fun e s' => R (.error e) s') s)
    (n : Nat) (h : I n s) : codeAny (model prog w) A (.compLoop (.ListComp elt [⟨target, iter, ifs, 0⟩] scope pos) 0 it acc env) R s := by
  refine codeAny_loop rfl I (fun n s hI => ?_) n h
  show wpAny _ A ((compTurn (.ListComp elt [⟨target, iter, ifs, 0⟩] scope pos) 0 it acc env).onRaise (fun x => do noteFrame x env; theTreesLotGoes x)) _ _ s
  refine wpAny_noted ?_
  rw [compTurn_list]
  refine wpAny_bind (wpAny_standAt (wpAny_bind (wpAny_mono (turn n s hI) (fun r s₁ h₁ => ?_) fun _ _ y => y)))
  cases r with
  | none => exact wpAny_pure h₁
  | some v =>
    refine wpAny_bind (wpAny_mono h₁ (fun _ s₀ q₀ => ?_) fun _ _ y => y)
    refine wpAny_bind (wpAny_mono q₀ (fun _ s₂ q₂ => ?_) fun _ _ y => y)
    refine wpAny_bind (wpAny_mono q₂ (fun ok s₃ q₃ => ?_) fun _ _ y => y)
    cases ok with
    | false => exact wpAny_pure ⟨rfl, q₃⟩
    | true => exact wpAny_bind (wpAny_bind (wpAny_mono q₃ (fun x s₄ q₄ => wpAny_bind (wpAny_mono q₄ (fun _ s₅ q₅ => wpAny_pure (wpAny_pure ⟨rfl, q₅⟩)) fun _ _ y => y)) fun _ _ y => y))
end
open PyProof.Rows.LCg in
/-- how a turn of a comprehension ends; the ground may be another than before -/
def EndX (Rl : Heap → Prop) (L : Addr) (m : Str → Option Value) (s₁ : Shared) (I : Addr) (oI : Obj) (C : Addr) (oC : Obj) (D : Addr) (oD : Obj) (S : List (Addr × Obj) → Prop) (rest : Value → Heap → List (Addr × Obj) → Prop) (y : Value) (s₂ : Shared) : Prop :=
  ∃ h₁ h' tk news', Rl h₁ ∧ s₂ = { s₁ with heap := h', toks := tk } ∧ Fr h₁ L h' m ∧ News h₁ L h' ((I, oI) :: (C, oC) :: (D, oD) :: news') ∧ Off3 I C D news' ∧ S news' ∧ rest y h₁ news'
open PyProof.Rows.LCg in
theorem EndX.intro {Rl : Heap → Prop} {h₁ : Heap} {L I C D : Addr} {m : Str → Option Value} {s₁ : Shared} {oI oC oD : Obj} {S : List (Addr × Obj) → Prop} {rest : Value → Heap → List (Addr × Obj) → Prop} {y : Value} {h' : Heap} {tk : Nat} {all : List (Addr × Obj)}
    (F : Fr h₁ L h' m) (N : News h₁ L h' all) (news' : List (Addr × Obj)) (hr : Rl h₁) (sub : ∀ p ∈ (I, oI) :: (C, oC) :: (D, oD) :: news', p ∈ all) (off : Off3 I C D news') (hS : S news') (r : rest y h₁ news') :
    EndX Rl L m s₁ I oI C oC D oD S rest y { s₁ with heap := h', toks := tk } := ⟨h₁, h', tk, news', hr, rfl, F, fun p hp => N p (sub p hp), off, hS, r⟩
open PyProof.Rows.LCg in
def CompX (prog : Program) (w : World) (A : Around) (Rl : Heap → Prop) (L : Addr) (m : Str → Option Value) (env : Env) (elt : Expr) (ifs : List Expr) (scope : Scope) (cl : List (Str × Addr)) (s : Shared) (S : List (Addr × Obj) → Prop) (P : Nat → Value → Prop)
    {β : Type} (BP : Value → β → List (Addr × Obj) → Prop) (BR : β → (Str → Option Value) → Prop) (Fin : Heap → List Value → List (Addr × Obj) → Prop) : Nat → Nat → List Value → Heap → List (Addr × Obj) → Prop
  | 0, _, ys, h₁, news => Fin h₁ ys news
  | k + 1, i, ys, h₁, news => ∀ v, P i v → ∃ b, BP v b news ∧ ∀ I oI C oC D m₂ h tk (E' : Value → Shared → Prop), NsObj oC m₂ → BR b m₂ → Fr h₁ L h m → News h₁ L h ((I, oI) :: (C, oC) :: (D, lst ys) :: news) → Off3 I C D news → ((@Ne Nat I C) ∧ (@Ne Nat I D) ∧ (@Ne Nat C D)) →
      wpAny (model prog w) A (tsts ifs (compEnvC scope cl C env)) (fun ok s' => if ok = true then
        wpAny (model prog w) A (eval elt (compEnvC scope cl C env)) (EndX Rl L m { s with heap := h, toks := tk } I oI C oC D (lst ys) S (fun y h₁ news' => CompX prog w A Rl L m env elt ifs scope cl s S P BP BR Fin k (i + 1) (ys ++ [y]) h₁ news')) E' s'
        else EndX Rl L m { s with heap := h, toks := tk } I oI C oC D (lst ys) S (fun _ h₁ news' => CompX prog w A Rl L m env elt ifs scope cl s S P BP BR Fin k (i + 1) ys h₁ news') Value.none s') E' { s with heap := h, toks := tk }
open PyProof.Rows.LCg in
theorem comp_block {prog : Program} {w : World} {A : Around} {E : Value → Shared → Prop} {h₀ : Heap} {L : Addr} {m : Str → Option Value} {env : Env} {elt tgt iter : Expr} {ifs : List Expr} {scope : Scope} {cl : List (Str × Addr)} {pos : Pos} {s₂ : Shared} {I : Addr} {fp : List Addr} {n : Nat} {P : Nat → Value → Prop} {St : Nat → Heap → Prop} {S : List (Addr × Obj) → Prop} {news : List (Addr × Obj)}
    {β : Type} {BP : Value → β → List (Addr × Obj) → Prop} {BR : β → (Str → Option Value) → Prop} {Rl : Heap → Prop} {Fin : Heap → List Value → List (Addr × Obj) → Prop} {RR : Value → Addr → Result → Shared → Prop}
    (W : Walks prog w A I fp [I] n P St) (hsz : n ≤ sizeLine) (hIo : ∀ i h, St i h → ∃ o, h.get? I = some o)
    (hSt : ∀ i h h' o nw h₁, St i h → h.get? I = some o → h'.get? I = some o → News h₁ L h' nw → S nw → St i h')
    (hlet : ∀ i v b nw (s : Shared) (Q : Unit → Shared → Prop) (E' : Value → Shared → Prop), St i s.heap → BP v b nw → Q () s → wpAny (model prog w) A (letOwnedTupleGo tgt (.ref I) v) Q E' s)
    (hasg : ∀ v b nw h₁ C m' (s : Shared) (Q : Unit → Shared → Prop) (E' : Value → Shared → Prop), BP v b nw → News h₁ L s.heap nw → s.heap.Ns C m' → (∀ h₃ m₂ tk, h₃.Ns C m₂ → BR b m₂ → (∀ c o, c ≠ C → s.heap.get? c = some o → h₃.get? c = some o) → Q () { s with heap := h₃, toks := tk }) → wpAny (model prog w) A (assign tgt (compEnvC scope cl C env) v) Q E' s)
    (hcell : ∀ y ∈ scope.names, y.2 ≠ .cell) (hkind : scope.kind = .function) (hst : St 0 s₂.heap) (hfp : ∀ b ∈ fp, b < s₂.heap.objs.size)
    (F : Fr h₀ L s₂.heap m) (N : News h₀ L s₂.heap news) (hIL : L ≠ I) (hI₀ : h₀.get? I = none) (off : ∀ p ∈ news, p.1 ≠ I) (hS : S news)
    (hRl : ∀ h₁, Rl h₁ → ∀ b, h₀.get? b = none → h₁.get? b = none) (hR0 : Rl h₀)
    (R : CompX prog w A Rl L m env elt ifs scope cl s₂ S P BP BR Fin n 0 [] h₀ news)
    (hRR : ∀ h₁ D C h tk m' ys news', Rl h₁ → Fr h₁ L h m → News h₁ L h ((D, lst ys) :: news') → Off1 D news' → h.Ns C m' → h₁.get? C = none → C ≠ L → C ≠ D → (∀ p ∈ news', p.1 ≠ C) → Fin h₁ ys news' → RR (.ref D) C (.ok .next) { s₂ with heap := h, toks := tk }) :
    wpAny (model prog w) A (newList []) (fun acc s₃ => wpAny (model prog w) A (newFunctionEnv scope env.globals cl [] env.qual none .none (some env)) (fun cenv s₄ =>
      codeAny (model prog w) A (.compStart (.ListComp elt [⟨tgt, iter, ifs, 0⟩] scope pos) 0 (.ref I) acc { cenv with scope := relabel scope env }) (RR acc cenv.locals) s₄) E s₃) E s₂ := by
  refine wpAny_newObj_type (wpAny_newFunctionEnv hcell (by intro y hy; simp at hy) (fun h₁ hns₁ hsb₁ => ?_) hkind)
  dsimp only at hns₁ hsb₁ ⊢
  generalize hD : s₂.heap.objs.size = D at hns₁ hsb₁ ⊢
  generalize hH2 : s₂.heap.push { cls := .type "list", dict := none, data := .seq ([] : List Value).toArray } = H2 at hns₁ hsb₁ ⊢
  have hCs : H2.objs.size = D + 1 := by rw [← hH2, Heap.size_push, hD]
  generalize hC : H2.objs.size = C at hns₁ hsb₁ hCs ⊢
  have hCD : C ≠ D := by rw [hCs]; exact Nat.ne_of_gt (Nat.lt_succ_self _)
  have lt1 : ∀ b, b < s₂.heap.objs.size → b ≠ C ∧ b ≠ D := fun b hb => by
    rw [hD] at hb
    exact ⟨by rw [hCs]; exact Nat.ne_of_lt (Nat.lt_succ_of_lt hb), Nat.ne_of_lt hb⟩
  have hDf : D ∉ fp := fun q => (lt1 _ (hfp _ q)).2 rfl
  have hCf : C ∉ fp := fun q => (lt1 _ (hfp _ q)).1 rfl
  have hI1 := lt1 I (hfp I (W.sub I List.mem_cons_self))
  have hL1 := lt1 L F.ns.lt
  have old : ∀ b o, s₂.heap.get? b = some o → h₁.get? b = some o := fun b o e => hsb₁.extBut b o (lt1 b (Heap.lt_size e)).1 (Heap.get?_push_of_some _ (hH2 ▸ Heap.get?_push_of_some _ e))
  have hacc : h₁.get? D = some (lst []) := hsb₁.extBut _ _ (Ne.symm hCD) (Heap.get?_push_of_some _ (by rw [← hH2, ← hD]; exact Heap.get?_push_size _ rfl))
  have new : ∀ a, s₂.heap.objs.size ≤ a → h₀.get? a = none := fun a ha => by
    cases e : h₀.get? a with
    | none => rfl
    | some o' => exact absurd (Heap.lt_size (F.keep a o' e)) (Nat.not_lt.mpr ha)
  have hD0 : h₀.get? D = none := new _ (Nat.le_of_eq hD)
  have hC0 : h₀.get? C = none := new _ (by rw [hCs, hD]; exact Nat.le_succ _)
  have off0 : Off3 I C D news := Off3.of fun p hp => ⟨off p hp, (lt1 _ (Heap.lt_size (N p hp).1)).1, (lt1 _ (Heap.lt_size (N p hp).1)).2⟩
  have loop : ∀ s₃ : Shared, s₃ = { s₂ with heap := h₁, toks := s₂.toks + ([] : List (Str × Value)).length } →
      codeAny (model prog w) A (.compLoop (.ListComp elt [⟨tgt, iter, ifs, 0⟩] scope pos) 0 (.ref I) (.ref D) (compEnvC scope cl C env)) (RR (.ref D) C) s₃ := by
    rintro s₃ rfl
    obtain ⟨J, Ji, Je⟩ : ∃ J : Nat → Shared → Prop, (∀ g h' tk i ys m' nw, Rl g → i ≤ n → ys.length ≤ i → St i h' → Fr g L h' m → h'.Ns C m' → News g L h' ((D, lst ys) :: nw) → Off3 I C D nw → S nw → CompX prog w A Rl L m env elt ifs scope cl s₂ S P BP BR Fin (n - i) i ys g nw → J (n + 1 - i) { s₂ with heap := h', toks := tk }) ∧ (∀ T : Nat → Shared → Prop, (∀ g h' tk i ys m' nw, Rl g → i ≤ n → ys.length ≤ i → St i h' → Fr g L h' m → h'.Ns C m' → News g L h' ((D, lst ys) :: nw) → Off3 I C D nw → S nw → CompX prog w A Rl L m env elt ifs scope cl s₂ S P BP BR Fin (n - i) i ys g nw → T (n + 1 - i) { s₂ with heap := h', toks := tk }) → ∀ k s', J k s' → T k s') :=
      ⟨fun k s' => ∀ T : Nat → Shared → Prop, (∀ g h' tk i ys m' nw, Rl g → i ≤ n → ys.length ≤ i → St i h' → Fr g L h' m → h'.Ns C m' → News g L h' ((D, lst ys) :: nw) → Off3 I C D nw → S nw → CompX prog w A Rl L m env elt ifs scope cl s₂ S P BP BR Fin (n - i) i ys g nw → T (n + 1 - i) { s₂ with heap := h', toks := tk }) → T k s', fun g h' tk i ys m' nw a1 a2 a3 a4 a5 a6 a7 a8 a9 a10 T t => t g h' tk i ys m' nw a1 a2 a3 a4 a5 a6 a7 a8 a9 a10, fun T t k s' j => j T t⟩
    refine compLoop_any J ?_ (n + 1) (Ji h₀ h₁ _ 0 [] _ news hR0 (Nat.zero_le _) (Nat.le_refl _) (W.frame _ _ _ hst fun b _ o e => old b o e) (F.keeps old) hns₁ ?_ off0 hS R)
    · refine Je _ ?_
      intro g h' tk i ys m' nw hg hi hyl st F' hn N' off' hS' R'
      have o3 := off'.mem
      have gI := hRl g hg I hI₀
      have gC := hRl g hg C hC0
      have gD := hRl g hg D hD0
      have offN : ∀ p ∈ (D, lst ys) :: nw, p.1 ≠ I := fun p hp => by
        rcases List.mem_cons.mp hp with rfl | hp
        · exact Ne.symm hI1.2
        · exact (o3 p hp).1
      by_cases hlt : i < n
      · obtain ⟨j, hj⟩ : ∃ j, n - i = j + 1 := ⟨n - i - 1, by omega⟩
        rw [hj] at R'
        refine W.item i _ _ _ hlt st fun v h₂ tk₂ hP st₂ hk₂ => ?_
        refine cps ?_; intro Q9 hQ9; obtain ⟨b, hb, R''⟩ := R' v hP; refine hQ9 ?_; clear hQ9 Q9
        have N₂ := news_but N' hk₂ offN
        refine hlet _ _ _ _ _ _ _ st₂ hb ?_
        refine hasg v b nw g C _ _ _ _ hb (fun p hp => N₂ p (.tail _ hp)) (hn.at' fun o e => hk₂ _ o (by simpa using Ne.symm hI1.1) e) fun h₃ m₂ tk₃ hn₃ hbr k₃ => ?_
        have st₃ : St (i + 1) h₃ := W.frame _ _ _ st₂ fun c hc o e => k₃ c o (fun q => hCf (by rw [← q]; exact hc)) e
        obtain ⟨oI, eI⟩ := hIo _ _ st₃
        refine cps ?_; intro Q9 hQ9; obtain ⟨oC, eC, hoC⟩ := ns_obj hn₃; refine hQ9 ?_; clear hQ9 Q9
        have F₂ := fr_but F' hk₂ (Ne.symm fun q => hIL q.symm) gI
        have F₃ : Fr g L h₃ m := ⟨F₂.ns.at' fun o e => k₃ L o hL1.1 e, fun c o e => k₃ c o (fun q => by rw [q, gC] at e; cases e) (F₂.keep c o e), F₂.above⟩
        have N₃ : News g L h₃ ((I, oI) :: (C, oC) :: (D, lst ys) :: nw) := fun p hp => by
          rcases List.mem_cons.mp hp with rfl | hp
          · exact ⟨eI, Ne.symm hIL, gI⟩
          · rcases List.mem_cons.mp hp with rfl | hp
            · exact ⟨eC, Ne.symm hL1.1, gC⟩
            · refine ⟨k₃ _ _ ?_ (N₂ p hp).1, (N₂ p hp).2⟩
              rcases List.mem_cons.mp hp with rfl | hp
              · exact Ne.symm hCD
              · exact (o3 p hp).2.1
        refine wpAny_mono (R'' I oI C oC D m₂ h₃ tk₃ _ hoC hbr F₃ N₃ off' ⟨hI1.1, hI1.2, hCD⟩) (fun ok s₄ q₄ => ?_) fun _ _ e => e
        have go : ∀ (y : Value) (s₅ : Shared) (zs : List Value → List Value) (K : Heap → List (Addr × Obj) → Prop), EndX Rl L m { s₂ with heap := h₃, toks := tk₃ } I oI C oC D (lst ys) S (fun _ g' nw' => K g' nw') y s₅ →
            ∃ g' h₅ tk₅ nw', s₅ = { s₂ with heap := h₅, toks := tk₅ } ∧ Rl g' ∧ St (i + 1) h₅ ∧ Fr g' L h₅ m ∧ News g' L h₅ ((C, oC) :: (D, lst ys) :: nw') ∧ Off3 I C D nw' ∧ S nw' ∧ K g' nw' := by
          rintro y s₅ - K ⟨g', h₅, tk₅, nw', hg', rfl, F₅, N₅, off₅, hS₅, R₅⟩
          exact ⟨g', h₅, tk₅, nw', rfl, hg', hSt _ _ _ _ _ g' st₃ eI (N₅ _ (.head _)).1 (fun p hp => N₅ p (.tail _ (.tail _ (.tail _ hp)))) hS₅, F₅, fun p hp => N₅ p (.tail _ hp), off₅, hS₅, R₅⟩
        cases ok with
        | true =>
          simp only [if_true] at q₄ ⊢
          refine wpAny_mono q₄ (fun y s₅ q₅ => ?_) fun _ _ e => e
          refine cps ?_; intro Q9 hQ9; obtain ⟨g', h₅, tk₅, nw', eq91, hg', st₅, F₅, N₅, off₅, hS₅, R₅⟩ := go y s₅ id _ q₅; refine hQ9 ?_; clear hQ9 Q9; subst eq91
          have o5 := off₅.mem
          refine append_at (hsz := by show ys.toArray.size ≤ sizeLine; rw [List.size_toArray]; exact Nat.le_trans (Nat.le_trans hyl hi) hsz) (N₅ (D, lst ys) (.tail _ (.head _))).1 fun h₆ hs₆ hD₆ => ?_
          refine ⟨n + 1 - (i + 1), by omega, Ji g' h₆ tk₅ (i + 1) (ys ++ [y]) m₂ nw' hg' hlt (by rw [List.length_append, List.length_singleton]; exact Nat.succ_le_succ hyl) (W.frame _ _ _ st₅ fun c hc o e => hs₆.extBut c o (fun q => hDf (q ▸ hc)) e) (F₅.change hs₆ (Ne.symm hL1.2) (hRl g' hg' D hD0))
            ((hoC.ns (N₅ (C, oC) (.head _)).1).sameBut hs₆ hCD) (fun p hp => ?_) off₅ hS₅ ?_⟩
          · rcases List.mem_cons.mp hp with rfl | hp
            · exact ⟨hD₆.trans (congrArg some (lst_snoc ys y)), Ne.symm hL1.2, hRl g' hg' D hD0⟩
            · have z := N₅ p (.tail _ (.tail _ hp))
              exact ⟨hs₆.extBut _ _ (o5 p hp).2.2 z.1, z.2⟩
          · rw [show n - (i + 1) = j by omega]
            exact R₅
        | false =>
          simp only [Bool.false_eq_true, if_false] at q₄ ⊢
          refine cps ?_; intro Q9 hQ9; obtain ⟨g', h₅, tk₅, nw', eq91, hg', st₅, F₅, N₅, off₅, hS₅, R₅⟩ := go Value.none s₄ id _ q₄; refine hQ9 ?_; clear hQ9 Q9; subst eq91
          refine ⟨n + 1 - (i + 1), by omega, Ji g' h₅ tk₅ (i + 1) ys m₂ nw' hg' hlt (Nat.le_succ_of_le hyl) st₅ F₅ (hoC.ns (N₅ (C, oC) (.head _)).1) (fun p hp => N₅ p (.tail _ hp)) off₅ hS₅ ?_⟩
          rw [show n - (i + 1) = j by omega]
          exact R₅
      · obtain rfl : i = n := Nat.le_antisymm hi (Nat.not_lt.mp hlt)
        rw [Nat.sub_self] at R'
        refine W.done _ _ _ st fun h₂ tk₂ hk₂ => ?_
        exact hRR g D C h₂ tk₂ _ ys nw hg (fr_but F' hk₂ hIL gI) (news_but N' hk₂ offN) off'.one (hn.at' fun o e => hk₂ _ o (by simpa using Ne.symm hI1.1) e) gC (Ne.symm hL1.1) hCD (fun p hp => (o3 p hp).2.1) R'
    · intro p hp
      rcases List.mem_cons.mp hp with rfl | hp
      · exact ⟨hacc, Ne.symm hL1.2, hD0⟩
      · exact ⟨old _ _ (N p hp).1, (N p hp).2⟩
  exact codeAny_compStart_list (loop _ rfl) (W.self 0 _ _ _ (W.frame _ _ _ hst fun b _ o e => old b o e) (loop _ rfl))
open PyProof.Rows.LCg
def SeqAt (ty : String) (ax : Addr) (its : Array Value) (nw : List (Addr × Obj)) : Prop := ∃ o, (ax, o) ∈ nw ∧ o.cls = .type ty ∧ ∃ n, o.data = .seq its n
def FinX (Rl : Heap → Prop) (L : Addr) (m : Str → Option Value) (s : Shared) (Q : Value → Shared → Prop) (h₁ : Heap) (ys : List Value) (news : List (Addr × Obj)) : Prop :=
  ∀ D h tk, Rl h₁ → Fr h₁ L h m → News h₁ L h ((D, lst ys) :: news) → Off1 D news → Q (.ref D) { s with heap := h, toks := tk }
def PairB (v : Value) (b : Value × Value) (nw : List (Addr × Obj)) : Prop := ∃ t ot n, v = .ref t ∧ (t, ot) ∈ nw ∧ ot.cls = .type "tuple" ∧ ot.data = .seq #[b.1, b.2] n
def SrcX (prog : Program) (w : World) (A : Around) (ty : String) (Rl : Heap → Prop) (h₀ : Heap) (L : Addr) (m : Str → Option Value) (env : Env) (elt : Expr) (ifs : List Expr) (scope : Scope) (cl : List (Str × Addr))
    {β : Type} (BP : Value → β → List (Addr × Obj) → Prop) (BR : β → (Str → Option Value) → Prop) (Fin : Shared → Heap → List Value → List (Addr × Obj) → Prop) (xv : Value) (s₁ : Shared) : Prop :=
  ∃ ax its news, xv = .ref ax ∧ A.handled = none ∧ Fr h₀ L s₁.heap m ∧ News h₀ L s₁.heap news ∧ SeqAt ty ax its news ∧ its.size ≤ sizeLine ∧
    ∀ s₂ : Shared, (∃ h, s₂ = { s₁ with heap := h }) → CompX prog w A Rl L m env elt ifs scope cl s₂ (SeqAt ty ax its) (fun i v => its[i]? = some v) BP BR (Fin s₂) its.size 0 [] h₀ news
theorem SrcX.mk {prog : Program} {w : World} {A : Around} {ty : String} {Rl : Heap → Prop} {h₀ : Heap} {L : Addr} {m : Str → Option Value} {env : Env} {elt : Expr} {ifs : List Expr} {scope : Scope} {cl : List (Str × Addr)}
    {β : Type} {BP : Value → β → List (Addr × Obj) → Prop} {BR : β → (Str → Option Value) → Prop} {Fin : Shared → Heap → List Value → List (Addr × Obj) → Prop} {ax : Addr} {its : Array Value} {k : Nat} {news : List (Addr × Obj)} {s₁ : Shared}
    (hh : A.handled = none) (F : Fr h₀ L s₁.heap m) (N : News h₀ L s₁.heap news) (hm : (ax, ({ cls := .type ty, data := .seq its k } : Obj)) ∈ news) (hsz : its.size ≤ sizeLine)
    (h : ∀ g, CompX prog w A Rl L m env elt ifs scope cl { s₁ with heap := g } (SeqAt ty ax its) (fun i v => its[i]? = some v) BP BR (Fin { s₁ with heap := g }) its.size 0 [] h₀ news) :
    SrcX prog w A ty Rl h₀ L m env elt ifs scope cl BP BR Fin (.ref ax) s₁ := ⟨ax, its, news, rfl, hh, F, N, ⟨_, hm, rfl, _, rfl⟩, hsz, fun _ ⟨g, e⟩ => e ▸ h g⟩
def Apart (a b : Nat) : Prop := a ≠ b
theorem apart_ne {a b : Nat} (h : Apart a b) : a ≠ b := h
theorem apart_ne' {a b : Nat} (h : Apart b a) : a ≠ b := Ne.symm h
def OffA (I C D : Addr) : List (Addr × Obj) → Prop
  | [] => True
  | p :: r => (Apart p.1 I ∧ Apart p.1 C ∧ Apart p.1 D) ∧ OffA I C D r
theorem OffA.of {I C D : Addr} : ∀ {l : List (Addr × Obj)}, Off3 I C D l → OffA I C D l
  | [], _ => trivial
  | _ :: _, x => ⟨x.1, OffA.of x.2⟩
def CompR (prog : Program) (w : World) (A : Around) (h₀ : Heap) (L : Addr) (m : Str → Option Value) (env : Env) (elt : Expr) (ifs : List Expr) (scope : Scope) (cl : List (Str × Addr)) (s : Shared) (S : List (Addr × Obj) → Prop) (P : Nat → Value → Prop)
    {β : Type} (BP : Value → β → List (Addr × Obj) → Prop) (BR : β → (Str → Option Value) → Prop) (Fin : List Value → List (Addr × Obj) → Prop) : Nat → Nat → List Value → List (Addr × Obj) → Prop
  | 0, _, ys, news => Fin ys news
  | k + 1, i, ys, news => ∀ v, P i v → ∃ b, BP v b news ∧ ∀ I oI C oC D m₂ h tk (E' : Value → Shared → Prop), NsObj oC m₂ → BR b m₂ → Fr h₀ L h m → News h₀ L h ((I, oI) :: (C, oC) :: (D, lst ys) :: news) → OffA I C D news → (Apart I C ∧ Apart I D ∧ Apart C D) →
      wpAny (model prog w) A (tsts ifs (compEnvC scope cl C env)) (fun ok s' => if ok = true then
        wpAny (model prog w) A (eval elt (compEnvC scope cl C env)) (CompEnd h₀ L m { s with heap := h, toks := tk } I oI C oC D (lst ys) S (fun y news' => CompR prog w A h₀ L m env elt ifs scope cl s S P BP BR Fin k (i + 1) (ys ++ [y]) news')) E' s'
        else CompEnd h₀ L m { s with heap := h, toks := tk } I oI C oC D (lst ys) S (fun _ news' => CompR prog w A h₀ L m env elt ifs scope cl s S P BP BR Fin k (i + 1) ys news') Value.none s') E' { s with heap := h, toks := tk }
section
variable {prog : Program} {w : World} {A : Around} {E : Value → Shared → Prop} {s : Shared} {h₀ : Heap} {L : Addr} {m : Str → Option Value} {env : Env} {elt : Expr} {ifs : List Expr} {scope : Scope} {cl : List (Str × Addr)} {S : List (Addr × Obj) → Prop} {P : Nat → Value → Prop}
    {β : Type} {BP : Value → β → List (Addr × Obj) → Prop} {BR : β → (Str → Option Value) → Prop} {Fin : List Value → List (Addr × Obj) → Prop}
theorem EndX.of_end {s₁ : Shared} {I : Addr} {oI : Obj} {C : Addr} {oC : Obj} {D : Addr} {oD : Obj} {r : Value → List (Addr × Obj) → Prop} {r' : Value → Heap → List (Addr × Obj) → Prop} {y : Value} {s₂ : Shared}
    (hr : ∀ y nw, r y nw → r' y h₀ nw) (x : CompEnd h₀ L m s₁ I oI C oC D oD S r y s₂) : EndX (fun g => g = h₀) L m s₁ I oI C oC D oD S r' y s₂ :=
  let ⟨h', tk, nw, e, F, N, o, hS, q⟩ := x; ⟨h₀, h', tk, nw, rfl, e, F, N, o, hS, hr _ _ q⟩
theorem CompR.zero {i : Nat} {ys : List Value} {news : List (Addr × Obj)} (h : Fin ys news) : CompR prog w A h₀ L m env elt ifs scope cl s S P BP BR Fin 0 i ys news := h
theorem CompR.succ {k i : Nat} {ys : List Value} {news : List (Addr × Obj)}
    (h : ∀ v, P i v → ∃ b, BP v b news ∧ ∀ I oI C oC D m₂ h tk (E' : Value → Shared → Prop), NsObj oC m₂ → BR b m₂ → Fr h₀ L h m → News h₀ L h ((I, oI) :: (C, oC) :: (D, lst ys) :: news) → OffA I C D news → (Apart I C ∧ Apart I D ∧ Apart C D) →
      wpAny (model prog w) A (tsts ifs (compEnvC scope cl C env)) (fun ok s' => if ok = true then
        wpAny (model prog w) A (eval elt (compEnvC scope cl C env)) (CompEnd h₀ L m { s with heap := h, toks := tk } I oI C oC D (lst ys) S (fun y news' => CompR prog w A h₀ L m env elt ifs scope cl s S P BP BR Fin k (i + 1) (ys ++ [y]) news')) E' s'
        else CompEnd h₀ L m { s with heap := h, toks := tk } I oI C oC D (lst ys) S (fun _ news' => CompR prog w A h₀ L m env elt ifs scope cl s S P BP BR Fin k (i + 1) ys news') Value.none s') E' { s with heap := h, toks := tk }) :
    CompR prog w A h₀ L m env elt ifs scope cl s S P BP BR Fin (k + 1) i ys news := h
theorem CompR.toX {F' : Heap → List Value → List (Addr × Obj) → Prop} (hF : ∀ ys nw, Fin ys nw → F' h₀ ys nw) : ∀ {k i : Nat} {ys : List Value} {news : List (Addr × Obj)}, CompR prog w A h₀ L m env elt ifs scope cl s S P BP BR Fin k i ys news → CompX prog w A (fun g => g = h₀) L m env elt ifs scope cl s S P BP BR F' k i ys h₀ news
  | 0, _, _, _, x => hF _ _ x
  | k + 1, i, ys, news, x => fun v hv => by
    refine cps ?_; intro Q9 hQ9; obtain ⟨b, hb, y⟩ := x v hv; refine hQ9 ?_; clear hQ9 Q9
    refine ⟨b, hb, fun I oI C oC D m₂ h tk E' h1 h2 h3 h4 h5 h6 => wpAny_mono (y I oI C oC D m₂ h tk E' h1 h2 h3 h4 (OffA.of h5) h6) (fun ok s' q => ?_) fun _ _ e => e⟩
    cases ok with
    | true =>
      simp only [if_true] at q ⊢
      exact wpAny_mono q (fun _ _ z => EndX.of_end (fun _ _ => CompR.toX hF) z) fun _ _ e => e
    | false =>
      simp only [Bool.false_eq_true, if_false] at q ⊢
      exact EndX.of_end (fun _ _ => CompR.toX hF) q
theorem tsts_one {c : Expr} {Q : Bool → Shared → Prop} (h : wpAny (model prog w) A (isTrue c env (eval c env)) Q E s) : wpAny (model prog w) A (tsts [c] env) Q E s := wpAny_tests_one h
theorem tsts_nil {Q : Bool → Shared → Prop} (h : Q true s) : wpAny (model prog w) A (tsts [] env) Q E s := wpAny_tests_nil h
end
def SrcR (prog : Program) (w : World) (A : Around) (ty : String) (h₀ : Heap) (L : Addr) (m : Str → Option Value) (env : Env) (elt : Expr) (ifs : List Expr) (scope : Scope) (cl : List (Str × Addr))
    {β : Type} (BP : Value → β → List (Addr × Obj) → Prop) (BR : β → (Str → Option Value) → Prop) (Fin : Shared → List Value → List (Addr × Obj) → Prop) (xv : Value) (s₁ : Shared) : Prop :=
  ∃ ax its news, xv = .ref ax ∧ A.handled = none ∧ Fr h₀ L s₁.heap m ∧ News h₀ L s₁.heap news ∧ SeqAt ty ax its news ∧ its.size ≤ sizeLine ∧
    ∀ s₂ : Shared, (∃ h, s₂ = { s₁ with heap := h }) → CompR prog w A h₀ L m env elt ifs scope cl s₂ (SeqAt ty ax its) (fun i v => its[i]? = some v) BP BR (Fin s₂) its.size 0 [] news
theorem SrcR.mk (n : Nat) {prog : Program} {w : World} {A : Around} {ty : String} {h₀ : Heap} {L : Addr} {m : Str → Option Value} {env : Env} {elt : Expr} {ifs : List Expr} {scope : Scope} {cl : List (Str × Addr)}
    {β : Type} {BP : Value → β → List (Addr × Obj) → Prop} {BR : β → (Str → Option Value) → Prop} {Fin : Shared → List Value → List (Addr × Obj) → Prop} {ax : Addr} {its : Array Value} {k : Nat} {news : List (Addr × Obj)} {s₁ : Shared}
    (hh : A.handled = none) (F : Fr h₀ L s₁.heap m) (N : News h₀ L s₁.heap news) (hm : (ax, ({ cls := .type ty, data := .seq its k } : Obj)) ∈ news) (hsz : its.size ≤ sizeLine) (hn : its.size = n)
    (h : ∀ g, CompR prog w A h₀ L m env elt ifs scope cl { s₁ with heap := g } (SeqAt ty ax its) (fun i v => its[i]? = some v) BP BR (Fin { s₁ with heap := g }) n 0 [] news) :
    SrcR prog w A ty h₀ L m env elt ifs scope cl BP BR Fin (.ref ax) s₁ := ⟨ax, its, news, rfl, hh, F, N, ⟨_, hm, rfl, _, rfl⟩, hsz, fun _ ⟨g, e⟩ => e ▸ hn ▸ h g⟩
section
variable {prog : Program} {w : World} {A : Around} {E : Value → Shared → Prop} {s : Shared} {h₀ : Heap} {L : Addr} {m : Str → Option Value} {env : Env}
/-- over a tuple, two names, tests -/
theorem ListComp_pairT {elt iter : Expr} {x x₂ : Str} {px px₂ tp : Pos} {tk} {ifs : List Expr} {scope : Scope} {cl : List (Str × Addr)} {pos : Pos} {Q : Value → Shared → Prop} (F₀ : Fr h₀ L s.heap m)
    (hclos : closureFor scope env = pure cl) (hcell : ∀ y ∈ scope.names, y.2 ≠ .cell) (hkind : scope.kind = .function)
    (hnames : ∀ y ∈ scope.names, y.2 = .local → scope.names.lookup y.1 = some .local) (hx : scope.names.lookup x = some .local) (hx₂ : scope.names.lookup x₂ = some .local) (hxx : x ≠ x₂) (hh : A.handled = none)
    (h : wpAny (model prog w) A (eval iter env) (SrcR prog w A "tuple" h₀ L m env elt ifs scope cl PairB (fun b m₂ => m₂ x = some b.1 ∧ m₂ x₂ = some b.2) (fun s₂ => FinE h₀ L m s₂ Q)) E s)
    (hs : ∀ x, foldedSetIterable iter env x = pure x := by intro _; rfl) :
    wpAny (model prog w) A (eval (.ListComp elt [⟨.Tuple [.Name x px, .Name x₂ px₂] tk tp, iter, ifs, 0⟩] scope pos) env) Q E s := by
  rw [eval_ListComp]
  refine wpAny_comprehension_free (use := none) rfl hs hclos hkind hnames (wpAny_mono h (fun xv s₁ h₁ => ?_) fun _ _ e => e)
  refine cps ?_; intro Q9 hQ9; obtain ⟨ax, its, news, eq91, -, F, N, ⟨o, ho, hc, k, hd⟩, hsz, R⟩ := h₁; refine hQ9 ?_; clear hQ9 Q9; subst eq91
  have hl : s₁.heap.IsTuple ax its := ⟨o, (N _ ho).1, hc, k, hd⟩
  have hlt : ax < s₁.heap.objs.size := Heap.lt_size (N _ ho).1
  refine wpAny_pyIter_tuple hl ?_
  have up : ∀ b o, s₁.heap.get? b = some o → (s₁.heap.push { cls := .type "tuple_iterator", data := .fields #[.ref ax, .int 0 0] }).get? b = some o := fun b o e => Heap.get?_push_of_some _ e
  refine comp_block (Rl := fun g => g = h₀) (S := SeqAt "tuple" ax its) (Walks.tuple hh s₁.heap.objs.size ax (Nat.ne_of_lt hlt) its) hsz (fun i h st => by obtain ⟨o, e, _⟩ := st.1; exact ⟨o, e⟩) ?_ ?_ ?_ hcell hkind ⟨⟨_, Heap.get?_push_size _ rfl, rfl, rfl⟩, ⟨o, up _ _ (N _ ho).1, hc, k, hd⟩⟩ ?_
    (F.keeps up) (N.grown up) (Nat.ne_of_lt F.ns.lt) (next_is_new F) (fun p hp => Nat.ne_of_lt (Heap.lt_size (N p hp).1)) ⟨o, ho, hc, k, hd⟩ (fun g hg b e => by rw [hg]; exact e) rfl (CompR.toX (F' := fun _ => FinE h₀ L m _ Q) (fun _ _ q => q) (R _ ⟨_, rfl⟩)) ?_
  · rintro i h h' o' nw g st e e' N' ⟨o'', hm, hc'', k'', hd''⟩
    exact ⟨by obtain ⟨o', q, r⟩ := st.1; rw [e] at q; cases q; exact ⟨_, e', r⟩, ⟨o'', (N' _ hm).1, hc'', k'', hd''⟩⟩
  · rintro i v b nw s' Q' E' st ⟨t, ot, n, rfl, -⟩ hq
    exact let_tupiter st.1 hq
  · rintro v b nw g C m' s' Q' E' ⟨t, ot, n, rfl, hm, hc', hd'⟩ N' hn hq
    refine assign_Tuple_tuple hh ⟨ot, (N' _ hm).1, hc', n, hd'⟩ rfl rfl fun h₅ he => ?_
    have he' : ∀ b o, s'.heap.get? b = some o → h₅.get? b = some o := fun b o e => he b o (Nat.ne_of_lt (Heap.lt_size e)) e
    refine assignInOrder_cons (wpAny_assign_Name (wpAny_storeName_local (lookup_relabel_local hx) (hn.at' fun o e => he' _ o e) (fun h₆ hn₆ hs₆ => ?_) (by simp [compEnvC, relabel, hkind])))
    refine assignInOrder_cons (wpAny_assign_Name (wpAny_storeName_local (lookup_relabel_local hx₂) hn₆ (fun h₃ hn₃ hs₃ => ?_) (by simp [compEnvC, relabel, hkind])))
    refine assignInOrder_nil ?_
    exact hq h₃ _ _ hn₃ ⟨by simp [hxx], by simp⟩ fun c o hc e => hs₃.extBut c o hc (hs₆.extBut c o hc (he' c o e))
  · intro b hb
    show b < (s₁.heap.push _).objs.size
    rw [Heap.size_push]
    rcases List.mem_cons.mp hb with rfl | hb
    · exact Nat.lt_succ_self _
    · rw [List.mem_singleton.mp hb]; exact Nat.lt_succ_of_lt hlt
  · rintro g D C h tk m' ys nw rfl F' N' o1 hn hC hCL hCD offC fin
    refine ⟨m', hn, fun h'' hs'' => fin D h'' tk (F'.change hs'' hCL hC) (fun p hp => ?_) o1⟩
    refine ⟨hs''.extBut _ _ ?_ (N' p hp).1, (N' p hp).2⟩
    rcases List.mem_cons.mp hp with rfl | hp
    · exact Ne.symm hCD
    · exact offC p hp
/-- over a list, one name; the ground may turn -/
theorem ListComp_name {elt iter : Expr} {x : Str} {px : Pos} {ifs : List Expr} {scope : Scope} {cl : List (Str × Addr)} {pos : Pos} {Rl : Heap → Prop} {Q : Value → Shared → Prop} (F₀ : Fr h₀ L s.heap m)
    (hclos : closureFor scope env = pure cl) (hcell : ∀ y ∈ scope.names, y.2 ≠ .cell) (hkind : scope.kind = .function)
    (hnames : ∀ y ∈ scope.names, y.2 = .local → scope.names.lookup y.1 = some .local) (hx : scope.names.lookup x = some .local) (hh : A.handled = none)
    (hRl : ∀ h₁, Rl h₁ → ∀ b, h₀.get? b = none → h₁.get? b = none) (hR0 : Rl h₀)
    (h : wpAny (model prog w) A (eval iter env) (SrcX prog w A "list" Rl h₀ L m env elt ifs scope cl (fun v b _ => v = b) (fun b m₂ => m₂ x = some b) (fun s₂ => FinX Rl L m s₂ Q)) E s)
    (hs : ∀ x, foldedSetIterable iter env x = pure x := by intro _; rfl) :
    wpAny (model prog w) A (eval (.ListComp elt [⟨.Name x px, iter, ifs, 0⟩] scope pos) env) Q E s := by
  rw [eval_ListComp]
  refine wpAny_comprehension_free (use := none) rfl hs hclos hkind hnames (wpAny_mono h (fun xv s₁ h₁ => ?_) fun _ _ e => e)
  refine cps ?_; intro Q9 hQ9; obtain ⟨ax, its, news, eq91, -, F, N, ⟨o, ho, hc, k, hd⟩, hsz, R⟩ := h₁; refine hQ9 ?_; clear hQ9 Q9; subst eq91
  have hl : s₁.heap.IsList ax its := ⟨o, (N _ ho).1, hc, k, hd⟩
  have hlt : ax < s₁.heap.objs.size := Heap.lt_size (N _ ho).1
  refine wpAny_pyIter_list hl ?_
  have up : ∀ b o, s₁.heap.get? b = some o → (s₁.heap.push { cls := .type "list_iterator", data := .fields #[.ref ax, .int 0 0] }).get? b = some o := fun b o e => Heap.get?_push_of_some _ e
  refine comp_block (Rl := Rl) (S := SeqAt "list" ax its) (Walks.list hh s₁.heap.objs.size ax (Nat.ne_of_lt hlt) its) hsz (fun i h st => by obtain ⟨o, e, _⟩ := st.1; exact ⟨o, e⟩) ?_ ?_ ?_ hcell hkind ⟨⟨_, Heap.get?_push_size _ rfl, rfl, rfl⟩, ⟨o, up _ _ (N _ ho).1, hc, k, hd⟩⟩ ?_
    (F.keeps up) (N.grown up) (Nat.ne_of_lt F.ns.lt) (next_is_new F) (fun p hp => Nat.ne_of_lt (Heap.lt_size (N p hp).1)) ⟨o, ho, hc, k, hd⟩ hRl hR0 (R _ ⟨_, rfl⟩) ?_
  · rintro i h h' o' nw g st e e' N' ⟨o'', hm, hc'', k'', hd''⟩
    exact ⟨by obtain ⟨o', q, r⟩ := st.1; rw [e] at q; cases q; exact ⟨_, e', r⟩, ⟨o'', (N' _ hm).1, hc'', k'', hd''⟩⟩
  · intro i v b nw s' Q' E' st _ hq
    exact wpAny_of_eq (by rfl : letOwnedTupleGo (.Name x px) (.ref s₁.heap.objs.size) v = pure ()) hq
  · rintro v b nw g C m' s' Q' E' rfl N' hn hq
    exact wpAny_assign_Name (wpAny_storeName_local (lookup_relabel_local hx) hn (fun h₃ hn₃ hs₃ => hq h₃ _ _ hn₃ (by simp) fun c o hc e => hs₃.extBut c o hc e) (by simp [compEnvC, relabel, hkind]))
  · intro b hb
    show b < (s₁.heap.push _).objs.size
    rw [Heap.size_push]
    rcases List.mem_cons.mp hb with rfl | hb
    · exact Nat.lt_succ_self _
    · rw [List.mem_singleton.mp hb]; exact Nat.lt_succ_of_lt hlt
  · intro g D C h tk m' ys nw hg F' N' o1 hn hC hCL hCD offC fin
    refine ⟨m', hn, fun h'' hs'' => fin D h'' tk hg (F'.change hs'' hCL hC) (fun p hp => ?_) o1⟩
    refine ⟨hs''.extBut _ _ ?_ (N' p hp).1, (N' p hp).2⟩
    rcases List.mem_cons.mp hp with rfl | hp
    · exact Ne.symm hCD
    · exact offC p hp
end
section
variable {prog : Program} {w : World} {A : Around} {E : Value → Shared → Prop} {s : Shared} {h₀ : Heap} {L : Addr} {news : List (Addr × Obj)}
theorem item_lit {value slice : Expr} {l : Addr} {items : List Value} {n : Nat} {k : Int} {u : Tok} {x : Value} {Q : Value → Shared → Prop} (h0 : 0 ≤ k) (hfit : k < 2 ^ 63) (N : News h₀ L s.heap news) (hm : (l, ({ cls := .type "list", data := .seq items.toArray n } : Obj)) ∈ news)
    (hx : items[k.toNat]? = some x) (h : Q x s)
    (hs : subscripted slice false (.ref l) (.int k u) = operate [.ref l, .int k u] (getItem (.ref l) (.int k u)) := by with_unfolding_all rfl) :
    wpAny (model prog w) A (subscriptTail value slice (.ref l) (.int k u)) Q E s :=
  tail_any (News.isList N hm).typeIs slot_list_getitem.lookup (wpAny_getItem_list (News.isList N hm) h0 hfit (by simpa using hx) h) hs
theorem item_lits {value slice : Expr} {l : Addr} {vs : List Value} {ns : List Int} {n : Nat} {k : Int} {u : Tok} {Q : Value → Shared → Prop} (h0 : 0 ≤ k) (h1 : k < ns.length) (hfit : k < 2 ^ 63) (N : News h₀ L s.heap news) (hm : (l, ({ cls := .type "list", data := .seq vs.toArray n } : Obj)) ∈ news)
    (hi : IntsAre vs ns) (h : ∀ t, Q (.int (ns.getD k.toNat 0) t) s)
    (hs : subscripted slice false (.ref l) (.int k u) = operate [.ref l, .int k u] (getItem (.ref l) (.int k u)) := by with_unfolding_all rfl) :
    wpAny (model prog w) A (subscriptTail value slice (.ref l) (.int k u)) Q E s := by
  have hlt : k.toNat < ns.length := by omega
  obtain ⟨t', e⟩ := hi.get k.toNat (ns.getD k.toNat 0) (by rw [List.getD_eq_getElem?_getD, List.getElem?_eq_getElem hlt]; rfl)
  exact tail_any (News.isList N hm).typeIs slot_list_getitem.lookup (wpAny_getItem_list (News.isList N hm) h0 hfit (x := .int _ t') (by simpa using e) (h t')) hs
end
local macro_rules | `(tactic| k_ne) => `(tactic| first | (refine apart_ne ?_; with_reducible assumption) | (refine apart_ne' ?_; with_reducible assumption))
local macro_rules | `(tactic| lcg_src) => `(tactic| exact ⟨_, by k_mem, rfl, _, rfl⟩)
local macro_rules | `(tactic| walk_at "SrcR") => `(tactic| (k_here; k_dflt (refine SrcR.mk 2 (by rfl) (by k_asm) (by k_asm) (by k_mem) (by first | size_fits | exact Nat.le_of_ble_eq_true rfl) (by rfl) ?_; intro g')))
local macro_rules | `(tactic| walk_at "CompR") => `(tactic| (with_unfolding_all first
  | (refine CompR.succ ?_; intro v' hv'; lcg_open hv'; refine ⟨(_, _), ⟨_, _, _, rfl, by k_mem, rfl, rfl⟩, ?_⟩; intro I' oI' C' oC' D' m' h' tk' E' hC' hx' F' N' off' ne'; (try dsimp only at hx'); have hx1' := hx'.1; have hx2' := hx'.2; obtain ⟨n1', n2', n3'⟩ := ne'; (try simp only [OffA, and_true] at off'); (repeat (have a1' := off'.1.1; have a2' := off'.1.2.1; have a3' := off'.1.2.2; replace off' := off'.2)); (try (have a1' := off'.1; have a2' := off'.2.1; have a3' := off'.2.2; clear off')); refine tsts_one ?_)
  | refine CompR.zero ?_))
local macro_rules | `(tactic| walk_at "FinE") => `(tactic| ((unfold LCg.FinE); intro D' h' tk' F' N' o1'; (try simp only [LCg.Off1, and_true] at o1'); (repeat (have a1' : Apart _ _ := o1'.1; replace o1' := o1'.2)); (try (have a1' : Apart _ _ := o1'; clear o1')); (try simp only [List.nil_append, List.cons_append] at N'); (try dsimp only)))
theorem news_join {h₀ h h' : Heap} {L : Addr} {news ex : List (Addr × Obj)} (N0 : News h₀ L h news) (hex : ∀ q ∈ ex, q ∈ news) (N1 : News h₀ L h' ex) (N2 : News h₀ L h' (news.filter fun p => !(ex.map (·.1)).contains p.1)) : News h₀ L h' news := fun q hq => by
  cases hc : (ex.map (·.1)).contains q.1 with
  | false => exact N2 q (List.mem_filter.mpr ⟨hq, by rw [hc]; rfl⟩)
  | true =>
    refine cps ?_; intro Q9 hQ9; obtain ⟨e, he, e1⟩ := List.mem_map.mp (List.contains_iff_mem.mp hc); refine hQ9 ?_; clear hQ9 Q9
    have a := (N0 q hq).1
    have b := (N0 e (hex e he)).1
    rw [e1] at b
    rw [b] at a
    have : e = q := Prod.ext e1 (Option.some.inj a)
    exact this ▸ N1 e he
theorem off_join {news ex : List (Addr × Obj)} : ∀ q ∈ (news.filter fun p => !(ex.map (·.1)).contains p.1), q.1 ∉ ex.map (·.1) := fun q hq hm => by
  have := (List.mem_filter.mp hq).2
  rw [List.contains_iff_mem.mpr hm] at this
  cases this
theorem rest_of {h₀ h : Heap} {L : Addr} {news : List (Addr × Obj)} (ex : List (Addr × Obj)) (N0 : News h₀ L h news) (hex : ∀ q ∈ ex, q ∈ news) :
    ∃ rest : List (Addr × Obj), (∀ q ∈ rest, q ∈ news) ∧ (∀ q ∈ rest, q.1 ∉ ex.map (·.1)) ∧ ∀ h', News h₀ L h' ex → News h₀ L h' rest → News h₀ L h' news :=
  ⟨news.filter fun p => !(ex.map (·.1)).contains p.1, fun q hq => (List.mem_filter.mp hq).1, off_join, fun _ N1 N2 => news_join N0 hex N1 N2⟩
theorem pick_getD {v o M : Int} (h0 : 0 ≤ M) (h3 : M ≤ 3) : [pick v o 0, pick v o 1, pick v o 2, pick v o 3].getD M.toNat 0 = pick v o M := by
  have : M = 0 ∨ M = 1 ∨ M = 2 ∨ M = 3 := by omega
  rcases this with rfl | rfl | rfl | rfl <;> rfl
theorem join_val {v o v2 o2 M : Int} (h0 : 0 ≤ o) (h3 : o ≤ 3) (h02 : 0 ≤ o2) (h32 : o2 ≤ 3) (hM : M = o ∨ M = o2 ∨ M = 0) (l1 : o ≤ M) (l2 : o2 ≤ M) :
    [pick v o 0, pick v o 1, pick v o 2, pick v o 3].getD M.toNat 0 + [pick v2 o2 0, pick v2 o2 1, pick v2 o2 2, pick v2 o2 3].getD M.toNat 0 = (psumS v o v2 o2).1 ∧ M = (psumS v o v2 o2).2 := by
  have hM3 : M ≤ 3 := by omega
  rw [pick_getD (by omega) hM3, pick_getD (by omega) hM3]
  unfold pick psumS
  by_cases e : o = o2
  · subst e
    have : M = o := by omega
    subst this
    simp
  · rw [if_neg e]
    by_cases l : o < o2
    · have : M = o2 := by omega
      subst this
      rw [if_pos l, if_neg (Ne.symm e), if_pos rfl]
      exact ⟨Int.zero_add _, rfl⟩
    · have : M = o := by omega
      subst this
      rw [if_neg l, if_pos rfl, if_neg e]
      exact ⟨Int.add_zero _, rfl⟩
theorem join_news {h₀ h' : Heap} {L r : Addr} {news ex rest rest' : List (Addr × Obj)} {v o v2 o2 M : Int} {t t' : Tok} (hj : ∀ h', News h₀ L h' ex → News h₀ L h' rest' → News h₀ L h' news)
    (NN : News h₀ L h' ((r, { cls := .type "tuple", data := .seq #[.int ([pick v o 0, pick v o 1, pick v o 2, pick v o 3].getD M.toNat 0 + [pick v2 o2 0, pick v2 o2 1, pick v2 o2 2, pick v2 o2 3].getD M.toNat 0) t, .int M t'] }) :: rest)) (hs : ∀ q ∈ ex, q ∈ rest)
    (N2 : News h₀ L h' rest')
    (h0 : 0 ≤ o) (h3 : o ≤ 3) (h02 : 0 ≤ o2) (h32 : o2 ≤ 3) (hM : M = o ∨ M = o2 ∨ M = 0) (l1 : o ≤ M) (l2 : o2 ≤ M) : News h₀ L h' ((r, tup2 (psumS v o v2 o2).1 t (psumS v o v2 o2).2 t') :: news) := by
  obtain ⟨e1, e2⟩ := join_val (v := v) (v2 := v2) h0 h3 h02 h32 hM l1 l2
  intro q hq
  rcases List.mem_cons.mp hq with rfl | hq
  · rw [← e1, ← e2]
    exact NN _ (.head _)
  · exact hj _ (fun q hq => NN q (.tail _ (hs q hq))) N2 q hq
section
variable {w : World} {p : Program} {loose : List Str} {mean : ExcName → Option Value} {mg mb : Str → Option Value}
  {dp un : Nat} {gd : Option (List Code)} {cn : Str} {cs : Scope} {a : Addr} {ccd : Value} {cl : List (Str × Addr)} {outer : List Env} {A₀ : Around} {base h₀ : Heap} {L : Addr} {m : Str → Option Value} {news : List (Addr × Obj)} {s : Shared} {Q E : Value → Shared → Prop}

set_option maxRecDepth 100000 in
set_option maxHeartbeats 4000000 in
theorem joined_c {v o v2 o2 : Int} {t1 t2 t3 t4 : Tok} {f1 f2 : Addr}
  {A : Around} {vs8 : List Value} (hv8 : vs8 = [.ref f1, .ref f2]) (hA : A.frames = some (envX cn cs L a ccd cl :: outer)) (hh : A.handled = none) (B : Below A₀ base outer h₀) (F : Fr h₀ L s.heap m) (X : (hd.heap_1 w.params).In h₀) (N : News h₀ L s.heap news) (T : Top p loose mean mg mb h₀) (hk : cs.kind = .function)
  (hm1 : (f1, tup2 v t1 o t2) ∈ news)
  (hm2 : (f2, tup2 v2 t3 o2 t4) ∈ news)
  (h0 : 0 ≤ o) (h3 : o ≤ 3) (h02 : 0 ≤ o2) (h32 : o2 ≤ 3) (z1 : v = 0 → o = 0) (z2 : v2 = 0 → o2 = 0)
  (hd : A.depth + 4 < recursionLimit) (hu : A.units + 50 < cLine)
  (hret : ∀ (r : Addr) (t t' : Tok) (h' : Heap) (tk' : Nat), Fr h₀ L h' m → News h₀ L h' ((r, tup2 (psumS v o v2 o2).1 t (psumS v o v2 o2).2 t') :: news) → Q (.ref r) { s with heap := h', toks := tk' }) :
  wpAny (model PP w) A (call (.ref 318) vs8) Q E s := by
  subst hv8
  refine wp_at_top hA hh ?_
  refine cps ?_; intro Q9 hQ9; obtain ⟨rest, r1, r2, hj⟩ := rest_of [(f1, tup2 v t1 o t2), (f2, tup2 v2 t3 o2 t4)] N (List.forall_mem_cons.mpr ⟨hm1, List.forall_mem_cons.mpr ⟨hm2, List.forall_mem_nil _⟩⟩); refine hQ9 ?_; clear hQ9 Q9
  refine wpAny_call ?_
  k_dflt (refine' code_part (ex := [(f1, tup2 v t1 o t2), (f2, tup2 v2 t3 o2 t4)]) (rest := rest) ?hx ?hr ?hf ?k1 ?k2 ?k3 ?k4 ?k5 ?kA ?kF ?kK ?k6 ?k7 ?k8 ?k9 ?kB ?_ ?c2 ?c3 ?c4 ?c5; (case hx => (exact List.forall_mem_cons.mpr ⟨hm1, List.forall_mem_cons.mpr ⟨hm2, List.forall_mem_nil _⟩⟩)); (case hr => (exact r1)); (case hf => (exact r2)); (case kA => exact rfl); (case kF => exact rfl); (case kK => assumption); (case k1 => k_asm); (case k2 => k_asm); (case k3 => k_asm); (case k4 => k_asm); (case k5 => k_asm); (case k6 => k_is); (case k7 => k_is); (case k8 => ktr_room); (case k9 => first | exact BindsTo.of_eq rfl | exact binds_K (by k_in) rfl (by k_is) rfl rfl rfl); (case c5 => decide); (case kB => exact locs rfl); (case c2 => exact rfl); (case c3 => exact rfl); (case c4 => exact rfl); k_whole; intro g' L' h' FG' F' N' B' X' T' l1'; (try k_lt l1'); (try k_lift B'); (refine foldM F' ?_; clear F'; intro m9 F'); (try first | (with_reducible refine foldA ?_; intro A9 d9 u9) | (with_reducible refine foldAu ?_; intro A9 d9 u9)); (try (refine foldE ?_; intro e9)); (try k_unmd); (try (refine foldQ ?_; intro qk ek)); (try dsimp only))
  (repeat' (first | ((with_reducible show wpAny _ _ (execs _ _) _ _ _); (fail_if_success (fail_if_success k_fold)); refine foldQ ?_; intro qk ek) | ((with_reducible show wpAny _ _ (exec _ _) _ _ _); (fail_if_success (fail_if_success k_fold)); refine foldQ ?_; intro qk ek; (try (refine foldN (by with_reducible assumption) ?_; intro n9 N9))) | ((with_reducible show wpAny _ _ (subscriptTail (Expr.Name _ _) (Expr.Constant _ _ _) (Value.ref _) (Value.int _ _)) _ _ _); first | (with_reducible (k_here; (with_reducible show wpAny _ _ (subscriptTail _ _ (Value.ref _) (Value.int _ _)) _ _ _); k_dflt (refine' item_tupleT ?t_q ?a_q ?b_q ?c_q ?d_q ?_ ?e_q; (case t_q => exact News.isTup (by k_asm) (by k_mem)); (case a_q => decide); (case b_q => decide); (case c_q => exact rfl); (case d_q => exact rfl); (case e_q => with_unfolding_all rfl); k_whole))) | (with_reducible (k_here; (with_reducible show wpAny _ _ (subscriptTail _ _ (Value.ref _) (Value.int _ _)) _ _ _); k_dflt (refine' item_lit ?h0_q ?h1_q ?k1_q ?k2_q ?k3_q ?_ ?k4_q; (case h0_q => decide); (case h1_q => decide); (case k1_q => k_asm); (case k2_q => k_mem); (case k3_q => exact rfl); (case k4_q => with_unfolding_all rfl); k_whole)))) | ((with_reducible show wpAny _ _ (subscriptTail (Expr.Subscript (Expr.Name _ _) (Expr.Constant _ _ _) _) (Expr.Name _ _) (Value.ref _) (Value.int _ _)) _ _ _); first | (with_reducible (k_here; (with_reducible show wpAny _ _ (subscriptTail _ _ (Value.ref _) (Value.int _ _)) _ _ _); k_dflt (refine' item_lits ?h0_q ?h1_q ?h2_q ?k1_q ?k2_q ?k3_q ?_ ?k4_q; (case k1_q => k_asm); (case k2_q => k_mem); (case k3_q => repeat constructor); (case h0_q => omega); (case h1_q => simp only [List.length_cons, List.length_nil]; omega); (case h2_q => omega); (case k4_q => with_unfolding_all rfl); k_whole); intro t'))) | ((with_reducible show wpAny _ _ (subscriptTail (Expr.Subscript (Expr.Name _ _) (Expr.Constant _ _ _) _) (Expr.Constant _ _ _) (Value.ref _) (Value.int _ _)) _ _ _); first | (with_reducible (k_here; (with_reducible show wpAny _ _ (subscriptTail _ _ (Value.ref _) (Value.int _ _)) _ _ _); k_dflt (refine' item_lit ?h0_q ?h1_q ?k1_q ?k2_q ?k3_q ?_ ?k4_q; (case h0_q => decide); (case h1_q => decide); (case k1_q => k_asm); (case k2_q => k_mem); (case k3_q => exact rfl); (case k4_q => with_unfolding_all rfl); k_whole)))) | ((with_reducible show wpAny _ _ (eval (Expr.ListComp _ _ _ _) _) _ _ _); first | (with_reducible (k_here; (with_reducible show wpAny _ _ (eval (Expr.ListComp _ [⟨Expr.Tuple [_, _] _ _, _, _, _⟩] _ _) _) _ _ _); k_dflt (refine ListComp_pairT (F₀ := by k_asm) (by with_unfolding_all rfl) (by decide) (by rfl) (by decide) (by rfl) (by rfl) (by decide) (by rfl) ?_)))) | ((with_reducible show wpAny _ _ (call (Value.ref _) _) _ _ _); first | (with_reducible (k_here; (with_reducible apply orders_c); k_dflt (walk_at "c8"; (first | with_reducible assumption | omega); (first | with_reducible assumption | omega); ktr_room; ktr_units; k_whole); intro r' t1' t2' t3' t4' h' tk' F' N'; (try k_sweep); (try k_fold)))) | ((with_reducible show wpAny _ _ (newList _) _ _ _); first | (with_reducible (k_here; k_dflt (refine' newList_V ?F_q ?N_q ?_ ?z_q; (case F_q => k_asm); (case N_q => k_asm); (case z_q => size_fits)); intro D' h' o' n' F' N' l1; (try k_lt l1); (try k_sweep)))) | ((with_reducible show wpAny _ _ (newTuple _) _ _ _); first | (with_reducible (k_here; k_dflt (refine' newTuple_V ?F_q ?N_q ?_ ?z_q; (case F_q => k_asm); (case N_q => k_asm); (case z_q => kmk_size)); intro D' h' o' n' F' N' l1; (try k_lt l1); (try k_sweep)))) | ((with_reducible show wpAny _ _ (storeName _ _ _) _ _ _); first | (with_reducible (k_here; k_dflt (refine' storeX_V ?F_q ?N_q ?_ ?a_q ?b_q; (case F_q => k_asm); (case N_q => k_asm); (case a_q => rfl); (case b_q => rfl); k_whole; intro h' tk' m' F' N'; (try k_sweep))))) | ((with_reducible show wpAny _ _ (eval (Expr.Name _ _) _) _ _ _); first | (with_reducible (k_here; name_kind "globalImplicit"; k_dflt (first | (name_is_builtin; refine' nameX_B ?F_q ?X_q ?T_q ?e_q ?v_q ?n_q ?_ ?a_q ?b_q; (case F_q => k_asm); (case X_q => k_asm); (case T_q => k_asm); (case a_q => rfl); (case b_q => rfl); (case e_q => k_is); (case v_q => boot_fast); (case n_q => decide); k_whole) | (refine' nameX_K ?F_q ?X_q ?T_q ?e_q ?_ ?a_q ?b_q; (case F_q => k_asm); (case X_q => k_asm); (case T_q => k_asm); (case a_q => rfl); (case b_q => rfl); (case e_q => k_is); k_whole)))) | (with_reducible (k_here; name_kind "local"; k_dflt (refine' nameX_L ?F_q ?v_q ?_ ?a_q ?b_q; (case F_q => k_asm); (case a_q => rfl); (case b_q => rfl); (case v_q => rfl); k_whole)))) | (k_unfold; (try dsimp only)) | (k_end; wrow_close) | (walk1; (all_goals (try dsimp only))) | (dsimp only; walk1) | (leave1; try dsimp only)))
  all_goals (rename Fr h₀ L _ m => FF; rename News h₀ L _ rest => N2; rename News h₀ L _ (_ :: _) => NN; refine hret _ _ _ _ _ FF (join_news hj NN (by lcg_sub) N2 h0 h3 h02 h32 ?_ ?_ ?_) <;> ((repeat (rename (@Ne Nat _ _) ∧ _ => q9; clear q9)); omega))
end
def G5.Nm (g : G5) : Prop := (g.u = 0 → g.uo = 0) ∧ (g.d = 0 → g.od = 0)
def G5.add (g f : G5) : G5 := ⟨g.w + f.w, (psumS g.u g.uo f.u f.uo).1, (psumS g.u g.uo f.u f.uo).2, (psumS g.d g.od f.d f.od).1, (psumS g.d g.od f.d f.od).2⟩
theorem norm_nm (g : G5) : g.norm.Nm := by
  constructor
  · intro h
    show (if g.u = 0 then 0 else g.uo) = 0
    exact if_pos h
  · intro h
    show (if g.d = 0 then 0 else g.od) = 0
    exact if_pos h
theorem norm_ok {g : G5} (h : g.Ok) : g.norm.Ok := by
  refine cps ?_; intro Q9 hQ9; obtain ⟨a, b, c, d, e, f, i, j, k, l⟩ := h; refine hQ9 ?_; clear hQ9 Q9
  refine ⟨a, b, c, d, ?_, ?_, i, j, ?_, ?_⟩ <;> (show _ ≤ _; dsimp only [G5.norm]; split <;> omega)
section
variable {w : World} {p : Program} {loose : List Str} {mean : ExcName → Option Value} {mg mb : Str → Option Value}
  {dp un : Nat} {gd : Option (List Code)} {cn : Str} {cs : Scope} {a : Addr} {ccd : Value} {cl : List (Str × Addr)} {outer : List Env} {A₀ : Around} {base h₀ : Heap} {L : Addr} {m : Str → Option Value} {news : List (Addr × Obj)} {s : Shared} {Q E : Value → Shared → Prop}

set_option maxRecDepth 100000 in
set_option maxHeartbeats 4000000 in
theorem sum_c {f1 f2 : Addr} {oa ob : Obj} {g f : G5}
  {A : Around} {vs8 : List Value} (hv8 : vs8 = [.ref f1, .ref f2]) (hA : A.frames = some (envX cn cs L a ccd cl :: outer)) (hh : A.handled = none) (B : Below A₀ base outer h₀) (F : Fr h₀ L s.heap m) (X : (hd.heap_1 w.params).In h₀) (N : News h₀ L s.heap news) (T : Top p loose mean mg mb h₀) (hk : cs.kind = .function)
  (hm1 : (f1, oa) ∈ news) (hm2 : (f2, ob) ∈ news) (h1 : TupG oa g) (h2 : TupG ob f) (ok1 : g.Ok) (ok2 : f.Ok) (nm1 : g.Nm) (nm2 : f.Nm)
  (hd : A.depth + 6 < recursionLimit) (hu : A.units + 80 < cLine)
  (hret : ∀ (r : Addr) (o : Obj) (h' : Heap) (tk' : Nat), Fr h₀ L h' m → News h₀ L h' ((r, o) :: news) → (∀ p ∈ news, p.1 < r) → TupG o (g.add f).norm → Q (.ref r) { s with heap := h', toks := tk' }) :
  wpAny (model PP w) A (call (.ref 325) vs8) Q E s := by
  subst hv8
  refine wp_at_top hA hh ?_
  refine TupG.elim h1 ?_; intro t1 t2 t3 t4 t5 eq91; subst eq91
  refine TupG.elim h2 ?_; intro t6 t7 t8 t9 t10 eq91; subst eq91
  unfold G5.Ok MX at ok1 ok2
  unfold G5.Nm at nm1 nm2
  refine cps ?_; intro Q9 hQ9; obtain ⟨a1, a2, a3, a4, a5, a6, a7, a8, a9, a10⟩ := ok1; refine hQ9 ?_; clear hQ9 Q9
  refine cps ?_; intro Q9 hQ9; obtain ⟨b1, b2, b3, b4, b5, b6, b7, b8, b9, b10⟩ := ok2; refine hQ9 ?_; clear hQ9 Q9
  obtain ⟨c1, c2⟩ := nm1
  obtain ⟨c3, c4⟩ := nm2
  refine wpAny_call ?_
  k_dflt ((refine' code_def ?k1_q ?k2_q ?k3_q ?k4_q ?k5_q ?kA_q ?kF_q ?kK_q ?k6_q ?k7_q ?k8_q ?k9_q ?kB_q ?_ ?c2_q ?c3_q ?c4_q ?c5_q; (case kA_q => exact rfl); (case kF_q => exact rfl); (case kK_q => first | exact rfl | assumption); (case k1_q => k_asm); (case k2_q => k_asm); (case k3_q => k_asm); (case k4_q => k_asm); (case k5_q => k_asm); (case k6_q => k_is); (case k7_q => k_is); (case k8_q => k_room); (case k9_q => first | exact BindsTo.of_eq rfl | exact binds_K (by k_in) rfl (by k_is) rfl rfl rfl); (case c5_q => decide); (case kB_q => exact locs rfl); (case c2_q => exact rfl); (case c3_q => exact rfl); (case c4_q => exact rfl); k_whole; intro g' L' h' FG' F' N' B' X' T'; (try k_lift B'); (refine foldM F' ?_; clear F'; intro m9 F'); (try first | (with_reducible refine foldA ?_; intro A9 d9 u9) | (with_reducible refine foldAu ?_; intro A9 d9 u9)); (try (refine foldE ?_; intro e9)); (try k_unmd); (try (refine foldQ ?_; intro qk ek)); (try dsimp only)))
  (repeat' (first | ((with_reducible show wpAny _ _ (execs _ _) _ _ _); (fail_if_success (fail_if_success k_fold)); refine foldQ ?_; intro qk ek) | ((with_reducible show wpAny _ _ (exec _ _) _ _ _); (fail_if_success (fail_if_success k_fold)); refine foldQ ?_; intro qk ek; (try (refine foldN (by with_reducible assumption) ?_; intro n9 N9))) | ((with_reducible show wpAny _ _ (call (Value.ref _) _) _ _ _); first | (with_reducible (k_here; (with_reducible apply joined_c); k_dflt (walk_at "c8"; k_mem; k_mem; (first | with_reducible assumption | omega); (first | with_reducible assumption | omega); (first | with_reducible assumption | omega); (first | with_reducible assumption | omega); (first | with_reducible assumption | omega); (first | with_reducible assumption | omega); ktr_room; ktr_units; k_whole); intro r' t' t2' h' tk' F' N'; (try k_sweep); (try k_fold); (try k_sweep); (try k_fold))) | (with_reducible (k_here; (with_reducible apply parts_c); k_dflt (walk_at "c8"; k_mem; (first | with_reducible assumption | exact lst_mk); ktr_room; ktr_units; k_whole); intro r' o' h' tk' F' N' l1' G'; (try k_lt l1'); (try k_sweep); (try k_fold)))) | ((with_reducible show wpAny _ _ (subscriptTail (Expr.Name _ _) (Expr.Constant _ _ _) (Value.ref _) (Value.int _ _)) _ _ _); first | (with_reducible (k_here; (with_reducible show wpAny _ _ (subscriptTail _ _ (Value.ref _) (Value.int _ _)) _ _ _); k_dflt (refine' item_tupleT ?t_q ?a_q ?b_q ?c_q ?d_q ?_ ?e_q; (case t_q => exact News.isTup (by k_asm) (by k_mem)); (case a_q => decide); (case b_q => decide); (case c_q => exact rfl); (case d_q => exact rfl); (case e_q => with_unfolding_all rfl); k_whole)))) | ((with_reducible show wpAny _ _ (newList _) _ _ _); first | (with_reducible (k_here; k_dflt (refine' newList_V ?F_q ?N_q ?_ ?z_q; (case F_q => k_asm); (case N_q => k_asm); (case z_q => size_fits)); intro D' h' o' n' F' N' l1; (try k_lt l1); (try k_sweep)))) | ((with_reducible show wpAny _ _ (newTuple _) _ _ _); first | (with_reducible (k_here; k_dflt (refine' newTuple_V ?F_q ?N_q ?_ ?z_q; (case F_q => k_asm); (case N_q => k_asm); (case z_q => kmk_size)); intro D' h' o' n' F' N' l1; (try k_lt l1); (try k_sweep)))) | ((with_reducible show wpAny _ _ (storeName _ _ _) _ _ _); first | (with_reducible (k_here; k_dflt (refine' storeX_V ?F_q ?N_q ?_ ?a_q ?b_q; (case F_q => k_asm); (case N_q => k_asm); (case a_q => rfl); (case b_q => rfl); k_whole; intro h' tk' m' F' N'; (try k_sweep))))) | ((with_reducible show wpAny _ _ (eval (Expr.Name _ _) _) _ _ _); first | (with_reducible (k_here; name_kind "globalImplicit"; k_dflt (first | (name_is_builtin; refine' nameX_B ?F_q ?X_q ?T_q ?e_q ?v_q ?n_q ?_ ?a_q ?b_q; (case F_q => k_asm); (case X_q => k_asm); (case T_q => k_asm); (case a_q => rfl); (case b_q => rfl); (case e_q => k_is); (case v_q => boot_fast); (case n_q => decide); k_whole) | (refine' nameX_K ?F_q ?X_q ?T_q ?e_q ?_ ?a_q ?b_q; (case F_q => k_asm); (case X_q => k_asm); (case T_q => k_asm); (case a_q => rfl); (case b_q => rfl); (case e_q => k_is); k_whole)))) | (with_reducible (k_here; name_kind "local"; k_dflt (refine' nameX_L ?F_q ?v_q ?_ ?a_q ?b_q; (case F_q => k_asm); (case a_q => rfl); (case b_q => rfl); (case v_q => rfl); k_whole)))) | (k_unfold; (try dsimp only)) | (k_end; wrow_close) | (walk1; (all_goals (try dsimp only))) | (dsimp only; walk1) | (leave1; try dsimp only)))
  rename Fr h₀ L _ m => FF; rename News h₀ L _ _ => NN; rename TupG _ _ => GG
  rename AllLt _ news => ll
  exact hret _ _ _ _ FF (news_skip (news_skip (news_skip (news_skip (news_skip (news_skip (news_skip NN))))))) (ktn_ltOf ll) GG
end
inductive Res where
  | tup (g : G5)
  | over
  | arg
def ValIs (v : Value) (r : Addr) (o : Obj) : Res → Prop
  | .tup g => v = .ref r ∧ TupG o g
  | .over => ∃ t, v = .str "over" t
  | .arg => ∃ t, v = .str "argument" t
/-- what a deed does: it gives a glue back, or it raises -/
def DeedSpec (w : World) (base : Heap) (p : Program) (loose : List Str) (mean : ExcName → Option Value) (mg mb : Str → Option Value) (f : Addr) (need : List (Addr × Obj)) (bd bu : Nat) (res : Res) : Prop :=
  ∀ {dp un : Nat} {gd : Option (List Code)} {cn : Str} {cs : Scope} {a : Addr} {ccd : Value} {cl : List (Str × Addr)} {outer : List Env} {A₀ : Around} {h₀ : Heap} {L : Addr} {m : Str → Option Value} {news : List (Addr × Obj)} {s : Shared} {Q E : Value → Shared → Prop}
    (_ : Below A₀ base outer h₀) (_ : Fr h₀ L s.heap m) (_ : (hd.heap_1 w.params).In h₀) (_ : News h₀ L s.heap news) (_ : Top p loose mean mg mb h₀) (_ : cs.kind = .function)
    (_ : ∀ q ∈ need, q ∈ news) (_ : dp + bd < recursionLimit) (_ : un + bu < cLine)
    (_ : ∀ (x dx : Addr) (o : Obj) (g : G5) (h' : Heap) (tk' : Nat), Fr h₀ L h' m → News h₀ L h' ((x, instObj 208 dx) :: (dx, o) :: news) → GlueD w.params o g → res = .tup g → Q (.ref x) { s with heap := h', toks := tk' })
    (_ : ∀ (e : Addr) (g h' : Heap) (tk' : Nat), Fr h₀ L g m → RaisedSN base g (envX cn cs L a ccd cl :: outer) e (.ref 57) news h' → g.UpToSlots h' → res = .over → E (.ref e) { s with heap := h', toks := tk' })
    (_ : ∀ (e : Addr) (g h' : Heap) (tk' : Nat), Fr h₀ L g m → RaisedSN base g (envX cn cs L a ccd cl :: outer) e (.ref 45) news h' → g.UpToSlots h' → res = .arg → E (.ref e) { s with heap := h', toks := tk' }),
    wpAny (model PP w) (ktrTop dp un gd cn cs L a ccd cl outer) (call (.ref f) []) Q E s
section
variable {prog : Program} {w : World} {A₀ A : Around} {s : Shared} {base h₀ g₀ : Heap} {env : Env} {outer : List Env} {L : Addr} {m : Str → Option Value} {news : List (Addr × Obj)} {K : Frag} {p : Program} {loose : List Str} {mean : ExcName → Option Value} {mg mb : Str → Option Value}
    {R : Result → Shared → Prop} {name qual : Str} {params : Arguments} {body : List Stmt} {scope : Scope} {dV kV doc pm cdv ct oc : Value} {an od : Option Addr} {osl : Array (Option Value)} {f : Addr} {args : Args} {binds : List (Str × Value)}
/-- a def that catches, called from a frame that has cells -/
theorem code_defSX (B : Below A₀ base outer h₀) (F : Fr h₀ L s.heap m) (X₀ : K.In h₀) (N : News h₀ L s.heap news) (T : Top p loose mean mg mb h₀) (XB : K.In base) (TB : Top p loose mean mg mb base) (D : KtsDicts (outer.filterMap (·.frame)) h₀)
    (T0 : KtsTurn (outer.filterMap (·.frame)) g₀ h₀) (hA : A.frames = some (env :: outer)) (hf : env.frame = some L) (hke : env.scope.kind = .function)
    (ho : K.lookup f = some ⟨oc, od, .func (fnOf name qual params body scope dV kV doc pm an cdv ct), osl⟩) (hcd : codeIn K cdv qual = true) (hroom : A.depth < recursionLimit)
    (hbind : BindsTo s (fnOf name qual params body scope dV kV doc pm an cdv ct) args binds) (hloc : ∀ y ∈ binds, scope.names.lookup y.1 = some .local)
    (h : ∀ g L' h₁, Fr h₀ L g m → Fr g L' h₁ (fun y => binds.reverse.lookup y) → News g L' h₁ news → Below A base (env :: outer) g → K.In g → Top p loose mean mg mb g → KtsDicts ((env :: outer).filterMap (·.frame)) g → (∀ p ∈ news, p.1 < L') →
      wpAny (model prog w) (A.deeper (envOf qual scope L' f cdv)) (execs body (envOf qual scope L' f cdv))
        (fun fl s' => LeaveS ((env :: outer).filterMap (·.frame)) A₀ base outer K p loose mean mg mb g₀ h₀ L m g R (match fl with | .ret v => v | _ => .none) s')
        (fun e s' => wpAny (model prog w) (A.deeper (envOf qual scope L' f cdv)) (leaving (envOf qual scope L' f cdv) e) (fun _ s'' => R (.error e) s'') (fun e' s'' => R (.error e') s'') s')
        { s with heap := h₁, toks := s.toks + binds.length })
    (hco : scope.isCoroutine = false) (hgen : scope.isGenerator = false) (hk : scope.kind = .function)
    (hcell : ∀ x ∈ scope.names, x.2 ≠ .cell) : codeAny (model prog w) A (.call (.ref f) args) R s := by
  have X := X₀.keeps F.keep
  refine cps ?_; intro Q9 hQ9; obtain ⟨FG, BG, st, -⟩ := groundX (R := R) B F N hA hf hke; refine hQ9 ?_; clear hQ9 Q9
  have fm : (env :: outer).filterMap (·.frame) = L :: outer.filterMap (·.frame) := by simp [hf]
  have nL₀ : h₀.get? L = none := kts_self F
  refine cps ?_; intro Q9 hQ9; obtain ⟨oL, es, ep, hL, hLd, hLk, hLf⟩ := F.ns; refine hQ9 ?_; clear hQ9 Q9
  have nL : L ∉ news.map (·.1) := fun q => by
    refine cps ?_; intro Q9 hQ9; obtain ⟨p, hp, e⟩ := List.mem_map.mp q; refine hQ9 ?_; clear hQ9 Q9
    exact (N p hp).2.1 e
  have hLg := hideAll_get (news.map (·.1)) hL nL
  refine codeAny_call_def (fd := fnOf name qual params body scope dV kV doc pm an cdv ct) (body := body) (binds := binds) hroom (X _ _ ho) rfl (T.nolimit.keeps F.keep) (codeRec_of X hcd) rfl hbind hcell hloc (fun h₁ hns hk₁ => ?_) hco hgen hk
  refine wpAny_mono (h _ s.heap.objs.size h₁ FG ⟨hns, fun b o e => hk₁ b o (of_hideAll _ e), Nat.le_of_eq (hideAll_size _ _)⟩
    (fun p hp => ⟨hk₁ _ _ (N p hp).1, Nat.ne_of_lt (Heap.lt_size (N p hp).1), hideAll_none _ (List.mem_map_of_mem hp)⟩) BG (X₀.keeps st) (T.keeps st) (fun b hb => by
      rw [fm] at hb
      rcases List.mem_cons.mp hb with rfl | hb
      · exact ⟨oL, es, ep, hLg, hLd⟩
      · obtain ⟨o, es', n', ho', hd'⟩ := D b hb
        exact ⟨o, es', n', st b o ho', hd'⟩) (fun p hp => Heap.lt_size (N p hp).1)) (fun fl s' hl => ?_) fun _ _ y => y
  rcases hl with ⟨L', m', news', F', N', k⟩ | ⟨g', L', m', news', T', F', N', k⟩
  · refine k ⟨⟨oL, es, ep, F'.keep _ _ hLg, hLd, hLk, hLf⟩, fun b o e => F'.keep b o (st b o e), F.above⟩ fun p hp => ⟨(N' p hp).1, fun q => ?_, ?_⟩
    · have := (N' p hp).2.2; rw [q, hLg] at this; cases this
    · cases q : h₀.get? p.1 with
      | none => rfl
      | some o => have := (N' p hp).2.2; rw [st _ _ q] at this; cases this
  · obtain ⟨sl, hs⟩ := T'.up hLg
    rw [fm] at T'
    obtain ⟨T₁, S₁⟩ := kts_turn_at (h := s'.heap) (fs := outer.filterMap (·.frame)) (g := h₀)
      (fun b hb => by
        refine cps ?_; intro Q9 hQ9; obtain ⟨_, o, ho', _⟩ := B.frames.mem hb; refine hQ9 ?_; clear hQ9 Q9
        exact ⟨o, ho'⟩)
      (fun b o e nmem => F'.keep b o (T'.other b o (st b o e) (fun q => by
        rcases List.mem_cons.mp q with z | z
        · rw [z, nL₀] at e
          cases e
        · exact nmem z)))
      (fun b o e hm => by
        obtain ⟨sl', hs'⟩ := T'.up (st b o e)
        exact ⟨sl', F'.keep _ _ hs'⟩)
    have B₃ : Below A₀ base outer (ktsHeap s'.heap (outer.filterMap (·.frame)) h₀) := ⟨B.stack, fun b o e => T₁.other b o (B.stays b o e) (fun hm => by
      rw [(B.frames.mem hm).1] at e
      cases e), B.frames.of_keeps fun b o e _ => by
      obtain ⟨sl', hs'⟩ := T₁.up e
      exact ⟨_, hs', rfl⟩⟩
    refine k _ (T0.trans T₁) ⟨⟨_, es, ep, F'.keep _ _ hs, hLd, hLk, hLf⟩, S₁, by rw [T₁.size]; exact F.above⟩ (fun p hp => ⟨(N' p hp).1, fun q => ?_, ?_⟩) B₃ (XB.keeps B₃.stays) (TB.keeps B₃.stays) (D.turn T₁)
    · have := (N' p hp).2.2; rw [q, hs] at this; cases this
    · refine T₁.none_ _ ?_
      cases q : h₀.get? p.1 with
      | none => rfl
      | some o =>
        obtain ⟨sl', hs'⟩ := T'.up (st _ _ q)
        have := (N' p hp).2.2
        rw [hs'] at this
        cases this
end
theorem news_dup {h₀ h' : Heap} {L : Addr} {news : List (Addr × Obj)} {q : Addr × Obj} (N : News h₀ L h' news) (hq : q ∈ news) : News h₀ L h' (q :: news) := fun x hx => by
  rcases List.mem_cons.mp hx with rfl | hx
  · exact N _ hq
  · exact N _ hx
section
variable {w : World} {p : Program} {loose : List Str} {mean : ExcName → Option Value} {mg mb : Str → Option Value}
  {dp un : Nat} {gd : Option (List Code)} {cn : Str} {cs : Scope} {a : Addr} {ccd : Value} {cl : List (Str × Addr)} {outer : List Env} {A₀ : Around} {base h₀ : Heap} {L : Addr} {m : Str → Option Value} {news : List (Addr × Obj)} {s : Shared} {Q E : Value → Shared → Prop}

section
set_option maxRecDepth 100000 in
set_option maxHeartbeats 4000000 in
theorem met_c {f : Addr} {oc : Value} {od : Option Addr} {fd : FuncData} {sl : Array (Option Value)} {need : List (Addr × Obj)} {bd bu : Nat} {res : Res}
  (B : Below A₀ base outer h₀) (F : Fr h₀ L s.heap m) (X : (hd.heap_1 w.params).In h₀) (N : News h₀ L s.heap news) (T : Top p loose mean mg mb h₀) (hk : cs.kind = .function)
  (XB : (hd.heap_1 w.params).In base) (TB : Top p loose mean mg mb base) (D : KtsDicts (outer.filterMap (·.frame)) h₀)
  (hn : ∀ q ∈ need, q ∈ news) (hm : (f, (⟨oc, od, .func fd, sl⟩ : Obj)) ∈ news) (S : DeedSpec w base p loose mean mg mb f need bd bu res)
  (hd : dp + bd + 5 < recursionLimit) (hu : un + bu + 60 < cLine) (hd' : dp + 12 < recursionLimit) (hu' : un + 120 < cLine)
  (hret : ∀ (v : Value) (r : Addr) (o : Obj) (h₀' h' : Heap) (tk' : Nat), KtsTurn (outer.filterMap (·.frame)) h₀ h₀' → Fr h₀' L h' m → News h₀' L h' ((r, o) :: news) → ValIs v r o res → ((∀ p ∈ news, p.1 < r) ∨ r = f) →
    Below A₀ base outer h₀' → (Mine.hd.heap_1 w.params).In h₀' → Top p loose mean mg mb h₀' → KtsDicts (outer.filterMap (·.frame)) h₀' → Q v { s with heap := h', toks := tk' }) :
  wpAny (model PP w) (ktrTop dp un gd cn cs L a ccd cl outer) (call (.ref 339) [.ref f]) Q E s := by
  refine wpAny_call ?_
  k_dflt (refine' code_defSX ?k1 ?k2 ?k3 ?k4 ?k5 ?XB ?TB ?D ?T0 ?kA ?kF ?kK ?k6 ?k7 ?k8 ?k9 ?kB ?_ ?c2 ?c3 ?c4 ?c5; (case kA => exact rfl); (case kF => exact rfl); (case kK => assumption); (case k1 => k_asm); (case k2 => k_asm); (case k3 => k_asm); (case k4 => k_asm); (case k5 => k_asm); (case XB => assumption); (case TB => assumption); (case D => assumption); (case T0 => exact KtsTurn.refl); (case k6 => k_is); (case k7 => k_is); (case k8 => ktr_room); (case k9 => first | exact BindsTo.of_eq rfl | exact binds_K (by k_in) rfl (by k_is) rfl rfl rfl); (case kB => exact locs rfl); (case c2 => exact rfl); (case c3 => exact rfl); (case c4 => exact rfl); (case c5 => decide); k_whole; intro g' L' h' FG' F' N' B' X' T' D' l1'; (try k_lt l1'); (try k_lift B'); (refine foldM F' ?_; clear F'; intro m9 F'); (try first | (with_reducible refine foldA ?_; intro A9 d9 u9) | (with_reducible refine foldAu ?_; intro A9 d9 u9)); (try (refine foldE ?_; intro e9)); (try k_unmd); (try (refine foldQ ?_; intro qk ek)); (try dsimp only))
  (repeat' (first | ((with_reducible show wpAny _ _ (execs _ _) _ _ _); (fail_if_success (fail_if_success k_fold)); refine foldQ ?_; intro qk ek) | ((with_reducible show wpAny _ _ (exec _ _) _ _ _); (fail_if_success (fail_if_success k_fold)); refine foldQ ?_; intro qk ek; (try (refine foldN (by with_reducible assumption) ?_; intro n9 N9))) | ((with_reducible show wpAny _ _ (call (Value.ref _) _) _ _ _); first | (with_reducible (k_here; (with_reducible apply gparts_c); k_dflt (walk_at "c8"; k_mem; k_mem; (with_reducible assumption); ktr_room; ktr_units; k_whole); intro r' o' h' tk' F' N' l1' G'; (try k_lt l1'); (try k_sweep); (try k_fold))) | ((k_here; (with_reducible rename DeedSpec _ _ _ _ _ _ _ _ _ _ _ _ => SS); k_dflt (refine' wp_at_top ?tA_q ?tH_q ?_; (case tA_q => exact rfl); (case tH_q => exact rfl); refine' SS ?k1_q ?k2_q ?k3_q ?k4_q ?k5_q ?kK_q ?n1_q ?kd_q ?ku_q ?_ ?_ ?_; (case k1_q => k_asm); (case k2_q => k_asm); (case k3_q => k_asm); (case k4_q => k_asm); (case k5_q => k_asm); (case kK_q => exact rfl); (case n1_q => assumption); (case kd_q => ktr_room); (case ku_q => ktr_units)); all_goals first | (refine fun (x' : Addr) (dx' : Addr) (o' : Obj) (g' : G5) h' tk' F' N' G' e' => ?_; have G2' := G'; obtain ⟨k1', k2', k3', k4', k5', t1', t2', t3', t4', t5', eo'⟩ := G'; subst eo'; (try k_sweep); (try k_fold)) | (refine fun (e' : Addr) (g' : Heap) (h' : Heap) (tk' : Nat) FG' S' U' e1' => ?_; try dsimp only)))) | ((with_reducible show wpAny _ _ (callWith _ (Value.ref _) _ _ _) _ _ _); first | (with_reducible (k_here; k_dflt (refine' callWith_F0 ?k1_q ?_; (case k1_q => exact FnAt.of (by k_asm) (by k_mem)); k_whole; try dsimp only [List.nil_append, List.cons_append])))) | ((with_reducible show wpAny _ _ (storeName _ _ _) _ _ _); first | (with_reducible (k_here; k_dflt (refine' storeX_V ?F_q ?N_q ?_ ?a_q ?b_q; (case F_q => k_asm); (case N_q => k_asm); (case a_q => rfl); (case b_q => rfl); k_whole; intro h' tk' m' F' N'; (try k_sweep))))) | ((with_reducible show wpAny _ _ (eval (Expr.Name _ _) _) _ _ _); first | (with_reducible (k_here; name_kind "local"; k_dflt (refine' nameX_L ?F_q ?v_q ?_ ?a_q ?b_q; (case F_q => k_asm); (case a_q => rfl); (case b_q => rfl); (case v_q => rfl); k_whole)))) | (k_unfold; (try dsimp only)) | (k_end; wrow_close) | (walk1; (all_goals (try dsimp only))) | (dsimp only; walk1) | (leave1; try dsimp only)))
  all_goals (rename res = _ => ee; subst ee)
  · rename Fr h₀ L _ m => FF; rename News h₀ L _ _ => NN; rename TupG _ _ => GG; rename AllLt _ news => ll
    exact hret _ _ _ h₀ _ _ KtsTurn.refl FF (news_skip (news_skip NN)) ⟨rfl, GG⟩ (.inl (ktn_ltOf ll)) B X T D
  all_goals (rename KtsTurn _ h₀ _ => TT; rename Fr _ L _ m => FF; rename News _ L _ _ => NN; rename Below A₀ base outer _ => BB; rename (Mine.hd.heap_1 w.params).In _ => XX; rename Top _ _ _ _ _ _ => TP; rename KtsDicts _ _ => DD)
  · exact hret _ _ _ _ _ _ TT FF (news_dup NN hm) ⟨_, rfl⟩ (.inr rfl) BB XX TP DD
  · exact hret _ _ _ _ _ _ TT FF (news_dup NN hm) ⟨_, rfl⟩ (.inr rfl) BB XX TP DD
end
end
open Classical in
noncomputable def resOf (g : G5) : Res := if g.Over then .over else .tup g.norm
theorem resOf_over {g : G5} (h : g.Over) : resOf g = .over := if_pos h
theorem resOf_tup {g : G5} (h : ¬ g.Over) : resOf g = .tup g.norm := if_neg h
theorem norm_norm (g : G5) : g.norm.norm = g.norm := by
  refine cps ?_; intro Q9 hQ9; obtain ⟨w, u, uo, d, od⟩ := g; refine hQ9 ?_; clear hQ9 Q9
  show G5.mk w u (if u = 0 then 0 else (if u = 0 then 0 else uo)) d (if d = 0 then 0 else (if d = 0 then 0 else od)) = G5.mk w u (if u = 0 then 0 else uo) d (if d = 0 then 0 else od)
  congr 1 <;> split <;> rfl
theorem resOf_norm (g : G5) : resOf g.norm = resOf g := by
  by_cases h : g.Over
  · rw [resOf_over h, resOf_over (g := g.norm) h]
  · rw [resOf_tup h, resOf_tup (g := g.norm) h, norm_norm]
section
variable {prog : Program} {w : World} {A : Around} {E : Value → Shared → Prop} {s : Shared} {h₀ : Heap} {L : Addr} {m : Str → Option Value} {news : List (Addr × Obj)}
theorem max_three_N {a b c : Int} {t u x : Tok} {Q : Value → Shared → Prop} (hh : A.handled = none) (F : Fr h₀ L s.heap m) (N : News h₀ L s.heap news)
    (h : ∀ (M : Int) (t' : Tok) h' tk, Fr h₀ L h' m → News h₀ L h' news → (M = a ∨ M = b ∨ M = c) → (a ≤ M ∧ b ≤ M ∧ c ≤ M) → Q (.int M t') { s with heap := h', toks := tk }) :
    wpAny (model prog w) A (call (.builtin "max") [.int a t, .int b u, .int c x]) Q E s := by
  refine max_three_ints hh fun h' tk hk => ?_
  have key := fun M t' => h M t' h' tk (F.grownK hk) (N.grown hk)
  by_cases hba : b > a
  · rw [if_pos hba]
    by_cases hc : c > b
    · rw [if_pos hc]; exact key _ _ (by omega) (by omega)
    · rw [if_neg hc]; exact key _ _ (by omega) (by omega)
  · rw [if_neg hba]
    by_cases hc : c > a
    · rw [if_pos hc]; exact key _ _ (by omega) (by omega)
    · rw [if_neg hc]; exact key _ _ (by omega) (by omega)
end
section
variable {w : World} {p : Program} {loose : List Str} {mean : ExcName → Option Value} {mg mb : Str → Option Value}
  {dp un : Nat} {gd : Option (List Code)} {cn : Str} {cs : Scope} {a : Addr} {ccd : Value} {cl : List (Str × Addr)} {outer : List Env} {A₀ : Around} {base h₀ : Heap} {L : Addr} {m : Str → Option Value} {news : List (Addr × Obj)} {s : Shared} {Q E : Value → Shared → Prop}

set_option maxRecDepth 100000 in
set_option maxHeartbeats 4000000 in
theorem due_c {f : Addr} {o : Obj} {g : G5}
  {A : Around} {vs8 : List Value} (hv8 : vs8 = [.ref f]) (hA : A.frames = some (envX cn cs L a ccd cl :: outer)) (hh : A.handled = none) (B : Below A₀ base outer h₀) (F : Fr h₀ L s.heap m) (X : (hd.heap_1 w.params).In h₀) (N : News h₀ L s.heap news) (T : Top p loose mean mg mb h₀) (hk : cs.kind = .function)
  (hm : (f, o) ∈ news) (ho : LstG o g)
  (hd : A.depth + 4 < recursionLimit) (hu : A.units + 40 < cLine)
  (hret : ∀ (v : Value) (r : Addr) (o : Obj) (h' : Heap) (tk' : Nat), Fr h₀ L h' m → News h₀ L h' ((r, o) :: news) → ValIs v r o (resOf g) → ((∀ p ∈ news, p.1 < r) ∨ r = f) → Q v { s with heap := h', toks := tk' }) :
  wpAny (model PP w) A (call (.ref 346) vs8) Q E s := by
  subst hv8
  refine wp_at_top hA hh ?_
  have ho2 := ho
  have hp : (2 : Int) ^ Int.toNat 30 = 1073741824 := by decide
  refine LstG.elim ho ?_; intro t1 t2 t3 t4 t5 n eq91; subst eq91
  refine wpAny_call ?_
  k_dflt ((refine' code_def ?k1_q ?k2_q ?k3_q ?k4_q ?k5_q ?kA_q ?kF_q ?kK_q ?k6_q ?k7_q ?k8_q ?k9_q ?kB_q ?_ ?c2_q ?c3_q ?c4_q ?c5_q; (case kA_q => exact rfl); (case kF_q => exact rfl); (case kK_q => first | exact rfl | assumption); (case k1_q => k_asm); (case k2_q => k_asm); (case k3_q => k_asm); (case k4_q => k_asm); (case k5_q => k_asm); (case k6_q => k_is); (case k7_q => k_is); (case k8_q => k_room); (case k9_q => first | exact BindsTo.of_eq rfl | exact binds_K (by k_in) rfl (by k_is) rfl rfl rfl); (case c5_q => decide); (case kB_q => exact locs rfl); (case c2_q => exact rfl); (case c3_q => exact rfl); (case c4_q => exact rfl); k_whole; intro g' L' h' FG' F' N' B' X' T'; (try k_lift B'); (refine foldM F' ?_; clear F'; intro m9 F'); (try first | (with_reducible refine foldA ?_; intro A9 d9 u9) | (with_reducible refine foldAu ?_; intro A9 d9 u9)); (try (refine foldE ?_; intro e9)); (try k_unmd); (try (refine foldQ ?_; intro qk ek)); (try dsimp only)))
  (repeat' (first | ((with_reducible show wpAny _ _ (execs _ _) _ _ _); (fail_if_success (fail_if_success k_fold)); refine foldQ ?_; intro qk ek) | ((with_reducible show wpAny _ _ (exec _ _) _ _ _); (fail_if_success (fail_if_success k_fold)); refine foldQ ?_; intro qk ek; (try (refine foldN (by with_reducible assumption) ?_; intro n9 N9))) | ((with_reducible show wpAny _ _ (call (Value.builtin "max") _) _ _ _); first | (with_reducible (k_here; (with_reducible show wpAny _ _ (call (Value.builtin _) [Value.int _ _, Value.int _ _, Value.int _ _]) _ _ _); k_dflt (refine' max_three_N ?hh_q ?F_q ?N_q ?_; (case hh_q => exact rfl); (case F_q => k_asm); (case N_q => k_asm)); intro M' t' h' tk' F' N' a' b'))) | ((with_reducible show wpAny _ _ (subscriptTail (Expr.Subscript (Expr.Name _ _) (Expr.Constant _ _ _) _) (Expr.Constant _ _ _) (Value.ref _) (Value.int _ _)) _ _ _); first | (with_reducible (k_here; (with_reducible show wpAny _ _ (subscriptTail _ _ (Value.ref _) (Value.int _ _)) _ _ _); k_dflt (refine' item_lit ?h0_q ?h1_q ?k1_q ?k2_q ?k3_q ?_ ?k4_q; (case h0_q => decide); (case h1_q => decide); (case k1_q => k_asm); (case k2_q => k_mem); (case k3_q => exact rfl); (case k4_q => with_unfolding_all rfl); k_whole)))) | ((with_reducible show wpAny _ _ (subscriptTail (Expr.Name _ _) (Expr.Constant _ _ _) (Value.ref _) (Value.int _ _)) _ _ _); first | (with_reducible (k_here; (with_reducible show wpAny _ _ (subscriptTail _ _ (Value.ref _) (Value.int _ _)) _ _ _); k_dflt (refine' item_lit ?h0_q ?h1_q ?k1_q ?k2_q ?k3_q ?_ ?k4_q; (case h0_q => decide); (case h1_q => decide); (case k1_q => k_asm); (case k2_q => k_mem); (case k3_q => exact rfl); (case k4_q => with_unfolding_all rfl); k_whole)))) | ((with_reducible show wpAny _ _ (call (Value.ref _) _) _ _ _); first | (with_reducible (k_here; (with_reducible apply parts_c); k_dflt (walk_at "c8"; k_mem; (first | with_reducible assumption | exact lst_mk); ktr_room; ktr_units; k_whole); intro r' o' h' tk' F' N' l1' G'; (try k_lt l1'); (try k_sweep); (try k_fold)))) | ((with_reducible show wpAny _ _ (eval (Expr.Name _ _) _) _ _ _); first | (with_reducible (k_here; name_kind "globalImplicit"; k_dflt (first | (name_is_builtin; refine' nameX_B ?F_q ?X_q ?T_q ?e_q ?v_q ?n_q ?_ ?a_q ?b_q; (case F_q => k_asm); (case X_q => k_asm); (case T_q => k_asm); (case a_q => rfl); (case b_q => rfl); (case e_q => k_is); (case v_q => boot_fast); (case n_q => decide); k_whole) | (refine' nameX_K ?F_q ?X_q ?T_q ?e_q ?_ ?a_q ?b_q; (case F_q => k_asm); (case X_q => k_asm); (case T_q => k_asm); (case a_q => rfl); (case b_q => rfl); (case e_q => k_is); k_whole)))) | (with_reducible (k_here; name_kind "local"; k_dflt (refine' nameX_L ?F_q ?v_q ?_ ?a_q ?b_q; (case F_q => k_asm); (case a_q => rfl); (case b_q => rfl); (case v_q => rfl); k_whole)))) | (k_unfold; (try dsimp only)) | (k_end; wrow_close) | (walk1; (all_goals (try dsimp only))) | (dsimp only; walk1) | (leave1; try dsimp only)))
  all_goals (rename Fr h₀ L _ m => FF; rename News h₀ L _ _ => NN)
  · rename _ ∨ _ => ha; rename _ ∧ _ ∧ _ => hb
    refine hret _ _ _ _ _ FF (news_dup NN hm) ?_ (.inr rfl)
    rw [resOf_over (by unfold G5.Over MX; omega)]
    exact ⟨_, rfl⟩
  · rename _ ∨ _ => ha; rename _ ∧ _ ∧ _ => hb; rename TupG _ _ => GG
    rename ∀ p ∈ news, _ => ll
    refine hret _ _ _ _ _ FF NN ?_ (.inl ll)
    rw [resOf_tup (by unfold G5.Over MX; omega)]
    exact ⟨rfl, GG⟩
end
def ordS (o : Int) (u : Str) : Str := if o = 0 then u else Str.ofString "fi" ++ Txt.mul (Str.ofString "l") o
theorem ordS_len {o : Int} {u : Str} (h2 : 0 ≤ o) (h3 : o ≤ 3) (hu : u.length ≤ 100) : (ordS o u).length ≤ 100 := by
  unfold ordS
  split
  · exact hu
  · have := fi_name (o := o) (by omega) h3
    omega
theorem ordS_get {o : Int} {u : Str} (h2 : 0 ≤ o) (h3 : o ≤ 3) : [u, Str.ofString "fil", Str.ofString "fill", Str.ofString "filll"].getD o.toNat PySem.Str.empty = ordS o u := by
  have : o = 0 ∨ o = 1 ∨ o = 2 ∨ o = 3 := by omega
  have e1 : Str.ofString "fil" = Str.ofString "fi" ++ Txt.mul (Str.ofString "l") 1 := by decide +kernel
  have e2 : Str.ofString "fill" = Str.ofString "fi" ++ Txt.mul (Str.ofString "l") 2 := by decide +kernel
  have e3 : Str.ofString "filll" = Str.ofString "fi" ++ Txt.mul (Str.ofString "l") 3 := by decide +kernel
  rcases this with rfl | rfl | rfl | rfl
  · rfl
  · show Str.ofString "fil" = _; unfold ordS; rw [if_neg (by decide), e1]
  · show Str.ofString "fill" = _; unfold ordS; rw [if_neg (by decide), e2]
  · show Str.ofString "filll" = _; unfold ordS; rw [if_neg (by decide), e3]
section
variable {prog : Program} {w : World} {A : Around} {E : Value → Shared → Prop} {s : Shared} {h₀ : Heap} {L : Addr} {news : List (Addr × Obj)}
theorem item_names {value slice : Expr} {l : Addr} {n : Nat} {k : Int} {u : Str} {tu t1 t2 t3 tk : Tok} {Q : Value → Shared → Prop} (N : News h₀ L s.heap news)
    (hm : (l, ({ cls := .type "list", data := .seq #[.str u t1, .str (Str.ofString "fil") t2, .str (Str.ofString "fill") t3, .str (Str.ofString "filll") tk] n } : Obj)) ∈ news) (h0 : 0 ≤ k) (h1 : k ≤ 3) (hu : u.length ≤ 100)
    (h : ∀ t, (ordS k u).length ≤ 100 → Q (.str (ordS k u) t) s)
    (hs : subscripted slice false (.ref l) (.int k tu) = operate [.ref l, .int k tu] (getItem (.ref l) (.int k tu)) := by with_unfolding_all rfl) :
    wpAny (model prog w) A (subscriptTail value slice (.ref l) (.int k tu)) Q E s := by
  refine KTb.item_list (vs := [.str u t1, .str (Str.ofString "fil") t2, .str (Str.ofString "fill") t3, .str (Str.ofString "filll") tk]) (News.isList N hm) (by repeat constructor) h0 (by simp only [List.length_cons, List.length_nil]; omega) (by omega) (fun t' _ => ?_) hs
  rw [ordS_get h0 h1]
  exact h t' (ordS_len h0 h1 hu)
end
section
section
variable {w : World} {p : Program} {loose : List Str} {mean : ExcName → Option Value} {mg mb : Str → Option Value}
  {dp un : Nat} {gd : Option (List Code)} {cn : Str} {cs : Scope} {a : Addr} {ccd : Value} {cl : List (Str × Addr)} {outer : List Env} {A₀ : Around} {base h₀ : Heap} {L : Addr} {m : Str → Option Value} {news : List (Addr × Obj)} {s : Shared} {Q E : Value → Shared → Prop}

set_option maxRecDepth 100000 in
set_option maxHeartbeats 4000000 in
theorem tdue_c {f : Addr} {o : Obj} {g : G5} {u : Str} {t0 : Tok}
  {A : Around} {vs8 : List Value} (hv8 : vs8 = [.ref f, .str u t0]) (hA : A.frames = some (envX cn cs L a ccd cl :: outer)) (hh : A.handled = none) (B : Below A₀ base outer h₀) (F : Fr h₀ L s.heap m) (X : (hd.heap_1 w.params).In h₀) (N : News h₀ L s.heap news) (T : Top p loose mean mg mb h₀) (hk : cs.kind = .function)
  (hm : (f, o) ∈ news) (ho : TupG o g) (hok : g.Ok) (hul : u.length ≤ 100)
  (hd : A.depth + 10 < recursionLimit) (hu : A.units + 120 < cLine)
  (hret : ∀ (t : Tok) (h' : Heap) (tk' : Nat), Fr h₀ L h' m → News h₀ L h' news → Q (.str (textS g u) t) { s with heap := h', toks := tk' }) :
  wpAny (model PP w) A (call (.ref 353) vs8) Q E s := by
  subst hv8
  refine wp_at_top hA hh ?_
  refine TupG.elim ho ?_; intro t1 t2 t3 t4 t5 eq91; subst eq91
  unfold G5.Ok MX at hok
  refine cps ?_; intro Q9 hQ9; obtain ⟨g1, g2, g3, g4, g5, g6, g7, g8, g9, g10⟩ := hok; refine hQ9 ?_; clear hQ9 Q9
  refine wpAny_call ?_
  k_dflt ((refine' code_def ?k1_q ?k2_q ?k3_q ?k4_q ?k5_q ?kA_q ?kF_q ?kK_q ?k6_q ?k7_q ?k8_q ?k9_q ?kB_q ?_ ?c2_q ?c3_q ?c4_q ?c5_q; (case kA_q => exact rfl); (case kF_q => exact rfl); (case kK_q => first | exact rfl | assumption); (case k1_q => k_asm); (case k2_q => k_asm); (case k3_q => k_asm); (case k4_q => k_asm); (case k5_q => k_asm); (case k6_q => k_is); (case k7_q => k_is); (case k8_q => k_room); (case k9_q => first | exact BindsTo.of_eq rfl | exact binds_K (by k_in) rfl (by k_is) rfl rfl rfl); (case c5_q => decide); (case kB_q => exact locs rfl); (case c2_q => exact rfl); (case c3_q => exact rfl); (case c4_q => exact rfl); k_whole; intro g' L' h' FG' F' N' B' X' T'; (try k_lift B'); (refine foldM F' ?_; clear F'; intro m9 F'); (try first | (with_reducible refine foldA ?_; intro A9 d9 u9) | (with_reducible refine foldAu ?_; intro A9 d9 u9)); (try (refine foldE ?_; intro e9)); (try k_unmd); (try (refine foldQ ?_; intro qk ek)); (try dsimp only)))
  (repeat' (first | ((with_reducible show wpAny _ _ (execs _ _) _ _ _); (fail_if_success (fail_if_success k_fold)); refine foldQ ?_; intro qk ek) | ((with_reducible show wpAny _ _ (exec _ _) _ _ _); (fail_if_success (fail_if_success k_fold)); refine foldQ ?_; intro qk ek; (try (refine foldN (by with_reducible assumption) ?_; intro n9 N9))) | ((with_reducible show wpAny _ _ (subscriptTail (Expr.Name _ _) (Expr.Subscript _ _ _) (Value.ref _) _) _ _ _); first | (with_reducible (k_here; (with_reducible show wpAny _ _ (subscriptTail _ _ (Value.ref _) (Value.int _ _)) _ _ _); k_dflt (refine' item_names ?k1_q ?k2_q ?k3_q ?k4_q ?k5_q ?_ ?k6_q; (case k1_q => k_asm); (case k2_q => k_mem); (case k3_q => omega); (case k4_q => omega); (case k5_q => with_reducible assumption); (case k6_q => with_unfolding_all rfl); k_whole); intro t' l'))) | ((with_reducible show wpAny _ _ (subscriptTail (Expr.Name _ _) (Expr.Constant _ _ _) (Value.ref _) (Value.int _ _)) _ _ _); first | (with_reducible (k_here; (with_reducible show wpAny _ _ (subscriptTail _ _ (Value.ref _) (Value.int _ _)) _ _ _); k_dflt (refine' item_tupleT ?t_q ?a_q ?b_q ?c_q ?d_q ?_ ?e_q; (case t_q => exact News.isTup (by k_asm) (by k_mem)); (case a_q => decide); (case b_q => decide); (case c_q => exact rfl); (case d_q => exact rfl); (case e_q => with_unfolding_all rfl); k_whole)))) | ((with_reducible show wpAny _ _ (call (Value.ref _) _) _ _ _); first | (with_reducible (k_here; (with_reducible show wpAny _ _ (call (Value.ref 105) _) _ _ _); k_dflt (refine' wp_at_top ?tA_q ?tH_q ?_; (case tA_q => exact rfl); (case tH_q => exact rfl); refine' dec_d ?k1_q ?k2_q ?k3_q ?k4_q ?k5_q ?kK_q ?n1_q ?n2_q ?kd_q ?ku_q ?_; (case k1_q => k_asm); (case k2_q => k_asm); (case k3_q => k_asm); (case k4_q => k_asm); (case k5_q => k_asm); (case kK_q => first | exact rfl | assumption); (case n1_q => first | with_reducible assumption | omega); (case n2_q => first | with_reducible assumption | omega); (case kd_q => ktr_room); (case ku_q => ktr_units); k_whole); intro t' h' tk' F' N' e1'; (try k_sweep); (try k_fold)))) | ((with_reducible show wpAny _ _ (newList _) _ _ _); first | (with_reducible (k_here; k_dflt (refine' newList_V ?F_q ?N_q ?_ ?z_q; (case F_q => k_asm); (case N_q => k_asm); (case z_q => size_fits)); intro D' h' o' n' F' N' l1; (try k_lt l1); (try k_sweep)))) | ((with_reducible show wpAny _ _ (storeName _ _ _) _ _ _); first | (with_reducible (k_here; k_dflt (refine' storeX_V ?F_q ?N_q ?_ ?a_q ?b_q; (case F_q => k_asm); (case N_q => k_asm); (case a_q => rfl); (case b_q => rfl); k_whole; intro h' tk' m' F' N'; (try k_sweep))))) | ((with_reducible show wpAny _ _ (eval (Expr.Name _ _) _) _ _ _); first | (with_reducible (k_here; name_kind "globalImplicit"; k_dflt (first | (name_is_builtin; refine' nameX_B ?F_q ?X_q ?T_q ?e_q ?v_q ?n_q ?_ ?a_q ?b_q; (case F_q => k_asm); (case X_q => k_asm); (case T_q => k_asm); (case a_q => rfl); (case b_q => rfl); (case e_q => k_is); (case v_q => boot_fast); (case n_q => decide); k_whole) | (refine' nameX_K ?F_q ?X_q ?T_q ?e_q ?_ ?a_q ?b_q; (case F_q => k_asm); (case X_q => k_asm); (case T_q => k_asm); (case a_q => rfl); (case b_q => rfl); (case e_q => k_is); k_whole)))) | (with_reducible (k_here; name_kind "local"; k_dflt (refine' nameX_L ?F_q ?v_q ?_ ?a_q ?b_q; (case F_q => k_asm); (case a_q => rfl); (case b_q => rfl); (case v_q => rfl); k_whole)))) | (k_unfold; (try dsimp only)) | (k_end; wrow_close) | (walk1; (all_goals (try dsimp only))) | (dsimp only; walk1) | (leave1; try dsimp only)))
  all_goals (rename Fr h₀ L _ m => FF; rename News h₀ L _ _ => NN)
  · exact cb_retS hret (by rw [← textS_nn (by assumption) (by assumption)]; simp only [partS, ordS, Str.append_assoc]) FF (news_tail NN)
  · exact cb_retS hret (by rw [← textS_nz (by assumption) (by assumption)]; simp only [partS, ordS, Str.append_assoc]) FF (news_tail NN)
  · exact cb_retS hret (by rw [← textS_zn (by assumption) (by assumption)]; simp only [partS, ordS, Str.append_assoc]) FF (news_tail NN)
  · exact cb_retS hret (by rw [← textS_zz (by assumption) (by assumption)]) FF (news_tail NN)
end
end
theorem news_skip_tail {h₀ h : Heap} {L : Addr} {a b : Addr × Obj} {l : List (Addr × Obj)} (N : News h₀ L h (a :: b :: l)) : News h₀ L h l := fun q hq => N _ (.tail _ (.tail _ hq))
def G5.eqb (g f : G5) : Bool := (g.w == f.w && (g.u == f.u && (g.uo == f.uo && (g.d == f.d && g.od == f.od))))
theorem eqb_self (g : G5) : g.eqb g = true := by simp [G5.eqb]
section
variable {w : World} {p : Program} {loose : List Str} {mean : ExcName → Option Value} {mg mb : Str → Option Value}
  {dp un : Nat} {gd : Option (List Code)} {cn : Str} {cs : Scope} {a : Addr} {ccd : Value} {cl : List (Str × Addr)} {outer : List Env} {A₀ : Around} {base h₀ : Heap} {L : Addr} {m : Str → Option Value} {news : List (Addr × Obj)} {s : Shared} {Q E : Value → Shared → Prop}

set_option maxRecDepth 100000 in
set_option maxHeartbeats 4000000 in
theorem cmpeq_c {x y : Addr} {o o2 : Obj} {g f : G5}
  (B : Below A₀ base outer h₀) (F : Fr h₀ L s.heap m) (X : (hd.heap_1 w.params).In h₀) (N : News h₀ L s.heap news) (T : Top p loose mean mg mb h₀) (hk : cs.kind = .function)
  (hm1 : (x, o) ∈ news) (hm2 : (y, o2) ∈ news) (hg : TupG o g) (hf : TupG o2 f)
  (hd : dp + 10 < recursionLimit) (hu : un + 120 < cLine)
  (hret : Q (.bool (g.eqb f)) s) :
  wpAny (model PP w) (ktrTop dp un gd cn cs L a ccd cl outer) (compareOp .Eq (.ref x) (.ref y)) Q E s := by
  refine TupG.elim hg ?_; intro t1 t2 t3 t4 t5 eq91; subst eq91
  refine TupG.elim hf ?_; intro r1 r2 r3 r4 r5 eq91; subst eq91
  (repeat' (first | ((with_reducible show wpAny _ _ (execs _ _) _ _ _); (fail_if_success (fail_if_success k_fold)); refine foldQ ?_; intro qk ek) | ((with_reducible show wpAny _ _ (exec _ _) _ _ _); (fail_if_success (fail_if_success k_fold)); refine foldQ ?_; intro qk ek; (try (refine foldN (by with_reducible assumption) ?_; intro n9 N9))) | (k_unfold; (try dsimp only)) | (k_end; wrow_close) | (walk1; (all_goals (try dsimp only))) | (dsimp only; walk1) | (leave1; try dsimp only)))
  exact hret
set_option maxRecDepth 100000 in
set_option maxHeartbeats 4000000 in
theorem cmpne_c {x y : Addr} {o o2 : Obj} {g f : G5}
  (B : Below A₀ base outer h₀) (F : Fr h₀ L s.heap m) (X : (hd.heap_1 w.params).In h₀) (N : News h₀ L s.heap news) (T : Top p loose mean mg mb h₀) (hk : cs.kind = .function)
  (hm1 : (x, o) ∈ news) (hm2 : (y, o2) ∈ news) (hg : TupG o g) (hf : TupG o2 f)
  (hd : dp + 10 < recursionLimit) (hu : un + 120 < cLine)
  (hret : Q (.bool (!g.eqb f)) s) :
  wpAny (model PP w) (ktrTop dp un gd cn cs L a ccd cl outer) (compareOp .NotEq (.ref x) (.ref y)) Q E s := by
  refine TupG.elim hg ?_; intro t1 t2 t3 t4 t5 eq91; subst eq91
  refine TupG.elim hf ?_; intro r1 r2 r3 r4 r5 eq91; subst eq91
  (repeat' (first | ((with_reducible show wpAny _ _ (execs _ _) _ _ _); (fail_if_success (fail_if_success k_fold)); refine foldQ ?_; intro qk ek) | ((with_reducible show wpAny _ _ (exec _ _) _ _ _); (fail_if_success (fail_if_success k_fold)); refine foldQ ?_; intro qk ek; (try (refine foldN (by with_reducible assumption) ?_; intro n9 N9))) | (k_unfold; (try dsimp only)) | (k_end; wrow_close) | (walk1; (all_goals (try dsimp only))) | (dsimp only; walk1) | (leave1; try dsimp only)))
  exact hret
set_option maxRecDepth 100000 in
set_option maxHeartbeats 4000000 in
theorem cmpval_c {v1 v2 : Value} {x y : Addr} {o o2 : Obj} {res res2 : Res}
  (B : Below A₀ base outer h₀) (F : Fr h₀ L s.heap m) (X : (hd.heap_1 w.params).In h₀) (N : News h₀ L s.heap news) (T : Top p loose mean mg mb h₀) (hk : cs.kind = .function)
  (hm1 : (x, o) ∈ news) (V1 : ValIs v1 x o res) (hm2 : (y, o2) ∈ news) (V2 : ValIs v2 y o2 res2) (e : res = res2)
  (hd : dp + 10 < recursionLimit) (hu : un + 120 < cLine)
  (hret : Q (.bool false) s) :
  wpAny (model PP w) (ktrTop dp un gd cn cs L a ccd cl outer) (compareOp .NotEq v1 v2) Q E s := by
  subst e
  cases res with
  | tup g =>
    obtain ⟨rfl, G1⟩ := V1
    obtain ⟨rfl, G2⟩ := V2
    refine cmpne_c B F X N T hk hm1 hm2 G1 G2 hd hu ?_
    rw [eqb_self]
    exact hret
  | over =>
    obtain ⟨t1, rfl⟩ := V1
    obtain ⟨t2, rfl⟩ := V2
    (repeat' (first | ((with_reducible show wpAny _ _ (execs _ _) _ _ _); (fail_if_success (fail_if_success k_fold)); refine foldQ ?_; intro qk ek) | ((with_reducible show wpAny _ _ (exec _ _) _ _ _); (fail_if_success (fail_if_success k_fold)); refine foldQ ?_; intro qk ek; (try (refine foldN (by with_reducible assumption) ?_; intro n9 N9))) | (k_unfold; (try dsimp only)) | (k_end; wrow_close) | (walk1; (all_goals (try dsimp only))) | (dsimp only; walk1) | (leave1; try dsimp only)))
    exact hret
  | arg =>
    obtain ⟨t1, rfl⟩ := V1
    obtain ⟨t2, rfl⟩ := V2
    (repeat' (first | ((with_reducible show wpAny _ _ (execs _ _) _ _ _); (fail_if_success (fail_if_success k_fold)); refine foldQ ?_; intro qk ek) | ((with_reducible show wpAny _ _ (exec _ _) _ _ _); (fail_if_success (fail_if_success k_fold)); refine foldQ ?_; intro qk ek; (try (refine foldN (by with_reducible assumption) ?_; intro n9 N9))) | (k_unfold; (try dsimp only)) | (k_end; wrow_close) | (walk1; (all_goals (try dsimp only))) | (dsimp only; walk1) | (leave1; try dsimp only)))
    exact hret
section
set_option maxRecDepth 100000 in
set_option maxHeartbeats 4000000 in
theorem same_c {x dx y dy : Addr} {o o2 : Obj} {g f : G5}
  {A : Around} {vs8 : List Value} (hv8 : vs8 = [.ref x, .ref y]) (hA : A.frames = some (envX cn cs L a ccd cl :: outer)) (hh : A.handled = none) (B : Below A₀ base outer h₀) (F : Fr h₀ L s.heap m) (X : (hd.heap_1 w.params).In h₀) (N : News h₀ L s.heap news) (T : Top p loose mean mg mb h₀) (hk : cs.kind = .function)
  (hm1 : (x, instObj 208 dx) ∈ news) (hm2 : (dx, o) ∈ news) (hg : GlueD w.params o g)
  (hm3 : (y, instObj 208 dy) ∈ news) (hm4 : (dy, o2) ∈ news) (hf : GlueD w.params o2 f)
  (hd : A.depth + 20 < recursionLimit) (hu : A.units + 220 < cLine)
  (hret : ∀ (h' : Heap) (tk' : Nat), Fr h₀ L h' m → News h₀ L h' news → Q (.bool (g.eqb f)) { s with heap := h', toks := tk' }) :
  wpAny (model PP w) A (call (.ref 169) vs8) Q E s := by
  subst hv8
  refine wp_at_top hA hh ?_
  have hg2 := hg
  have hf2 := hf
  refine GlueD.elim hg ?_; intro k1 k2 k3 k4 k5 t1 t2 t3 t4 t5 eq91; subst eq91
  refine GlueD.elim hf ?_; intro q1 q2 q3 q4 q5 r1 r2 r3 r4 r5 eq91; subst eq91
  refine wpAny_call ?_
  k_dflt ((refine' code_def ?k1_q ?k2_q ?k3_q ?k4_q ?k5_q ?kA_q ?kF_q ?kK_q ?k6_q ?k7_q ?k8_q ?k9_q ?kB_q ?_ ?c2_q ?c3_q ?c4_q ?c5_q; (case kA_q => exact rfl); (case kF_q => exact rfl); (case kK_q => first | exact rfl | assumption); (case k1_q => k_asm); (case k2_q => k_asm); (case k3_q => k_asm); (case k4_q => k_asm); (case k5_q => k_asm); (case k6_q => k_is); (case k7_q => k_is); (case k8_q => k_room); (case k9_q => first | exact BindsTo.of_eq rfl | exact binds_K (by k_in) rfl (by k_is) rfl rfl rfl); (case c5_q => decide); (case kB_q => exact locs rfl); (case c2_q => exact rfl); (case c3_q => exact rfl); (case c4_q => exact rfl); k_whole; intro g' L' h' FG' F' N' B' X' T'; (try k_lift B'); (refine foldM F' ?_; clear F'; intro m9 F'); (try first | (with_reducible refine foldA ?_; intro A9 d9 u9) | (with_reducible refine foldAu ?_; intro A9 d9 u9)); (try (refine foldE ?_; intro e9)); (try k_unmd); (try (refine foldQ ?_; intro qk ek)); (try dsimp only)))
  (repeat' (first | ((with_reducible show wpAny _ _ (execs _ _) _ _ _); (fail_if_success (fail_if_success k_fold)); refine foldQ ?_; intro qk ek) | ((with_reducible show wpAny _ _ (exec _ _) _ _ _); (fail_if_success (fail_if_success k_fold)); refine foldQ ?_; intro qk ek; (try (refine foldN (by with_reducible assumption) ?_; intro n9 N9))) | ((with_reducible show wpAny _ _ (compareOp CmpOp.Eq (Value.ref _) (Value.ref _)) _ _ _); first | (with_reducible (k_here; k_dflt (refine' wp_at_top ?tA_q ?tH_q ?_; (case tA_q => exact rfl); (case tH_q => exact rfl); refine' cmpeq_c ?k1_q ?k2_q ?k3_q ?k4_q ?k5_q ?kK_q ?m1_q ?m2_q ?m3_q ?m4_q ?kd_q ?ku_q ?_; (case k1_q => k_asm); (case k2_q => k_asm); (case k3_q => k_asm); (case k4_q => k_asm); (case k5_q => k_asm); (case kK_q => first | exact rfl | assumption); (case m1_q => k_mem); (case m2_q => k_mem); (case m3_q => with_reducible assumption); (case m4_q => with_reducible assumption); (case kd_q => ktr_room); (case ku_q => ktr_units); k_whole)))) | ((with_reducible show wpAny _ _ (call (Value.ref _) _) _ _ _); first | (with_reducible (k_here; (with_reducible apply gparts_c); k_dflt (walk_at "c8"; k_mem; k_mem; (with_reducible assumption); ktr_room; ktr_units; k_whole); intro r' o' h' tk' F' N' l1' G'; (try k_lt l1'); (try k_sweep); (try k_fold)))) | ((with_reducible show wpAny _ _ (eval (Expr.Name _ _) _) _ _ _); first | (with_reducible (k_here; name_kind "local"; k_dflt (refine' nameX_L ?F_q ?v_q ?_ ?a_q ?b_q; (case F_q => k_asm); (case a_q => rfl); (case b_q => rfl); (case v_q => rfl); k_whole)))) | (k_unfold; (try dsimp only)) | (k_end; wrow_close) | (walk1; (all_goals (try dsimp only))) | (dsimp only; walk1) | (leave1; try dsimp only)))
  rename Fr h₀ L _ m => FF; rename News h₀ L _ _ => NN
  exact hret _ _ FF (news_skip_tail NN)
end
end
theorem among_app {pos : Pos} {a b : Int} {c v : Value} : ∀ {l : List Value}, TriplesOk l → codeAmong pos (l ++ [rawInt a, rawInt b, c]) = some v → codeAmong pos l = some v ∨ v = c
  | [], _, h => by
    simp only [List.nil_append, rawInt, codeAmong] at h
    split at h
    · exact .inr (Option.some.inj h).symm
    · cases h
  | .int x tx :: .int y ty :: z :: r, ht, h => by
    simp only [List.cons_append, codeAmong] at h ⊢
    split at h
    · rename_i hc
      rw [if_pos hc]
      exact .inl h
    · rename_i hc
      rw [if_neg hc]
      exact among_app (l := r) ht h
/-- a table of lambdas' code objects, all made, all of one name -/
def TabGood (qual : Str) (ps : Array Value) (cods : List (Addr × Obj)) : Prop :=
  TriplesOk ps.toList ∧ ∀ pos v, codeAmong pos ps.toList = some v → ∃ c oc vs t, v = .ref c ∧ (c, oc) ∈ cods ∧ oc.data = .fields vs ∧ vs[1]? = some (.str qual t)
theorem TabGood.nil {qual : Str} {cods : List (Addr × Obj)} : TabGood qual #[] cods := ⟨True.intro, fun _ _ h => by cases h⟩
theorem TabGood.mono {qual : Str} {ps : Array Value} {cods cods' : List (Addr × Obj)} (G : TabGood qual ps cods) (h : ∀ q ∈ cods, q ∈ cods') : TabGood qual ps cods' :=
  ⟨G.1, fun pos v e => let ⟨c, oc, vs, t, a, b, d, f⟩ := G.2 pos v e; ⟨c, oc, vs, t, a, h _ b, d, f⟩⟩
section
variable {M : Model} {A : Around} {E : Value → Shared → Prop} {s : Shared} {h₀ : Heap} {L a c P : Addr} {m mg mb : Str → Option Value} {cn : Str} {cs : Scope} {ccd : Value} {cl : List (Str × Addr)} {news cods : List (Addr × Obj)} {g : Obj → List (Addr × Obj)}
  {p : Program} {loose : List Str} {mean : ExcName → Option Value} {name qual : Str} {params : Arguments} {body : Expr} {scope : Scope} {ps : Array Value} {pos : Pos} {firstLine : Nat} {clos : List (Str × Addr)}
theorem kla_any {qual' : Str} {Q : Value → Shared → Prop} (F : Fr h₀ L s.heap m) (N : News h₀ L s.heap news) (T : Top p loose mean mg mb h₀) (C : CodeHd h₀ c P) (hcd : ccd = .ref c) (U : UpdF P (tabObj ps) news g) (G : TabGood qual' ps cods) (hq : qual' = qual) (hsub : ∀ q ∈ cods, q ∈ news) (hne : ∀ q ∈ cods, @Ne Nat q.1 P)
    (hcl : closureFor scope (envX cn cs L a ccd cl) = pure clos)
    (h : ∀ f c' oc vs t ctv ps' h' tk, Fr h₀ L h' m →
      News h₀ L h' ((f, kla_obj name qual params body scope clos ((mg "__name__").getD .none) c' ctv) :: (c', oc) :: g (tabObj ps')) →
      oc.data = .fields vs → vs[1]? = some (.str qual t) → TabGood qual' ps' ((c', oc) :: cods) → (∀ q ∈ news, q.1 < f) → Apart c' P → Apart f P → ((c', oc) ∈ cods ∨ ∀ q ∈ news, q.1 < c') → Q (.ref f) { s with heap := h', toks := tk }) :
    wpAny M A (makeFunction name qual params (.expr body) scope (envX cn cs L a ccd cl) [] [] [] pos firstLine) Q E s := by
  subst hq
  have hP := UpdF.has U
  cases hf : codeAmong pos ps.toList with
  | none =>
    refine kla_nest F N T C hcd U G.1 hf hcl fun f c' oc vs t ctv h' tk F' N' d1 d2 l1 l2 => h f c' oc vs t ctv _ h' tk F' N' d1 d2 ⟨?_, ?_⟩ (fun q hq => Nat.lt_trans (l1 q hq) l2) (Nat.ne_of_gt (l1 _ hP)) (Nat.ne_of_gt (Nat.lt_trans (l1 _ hP) l2)) (.inr l1)
    · have : (ps ++ #[rawInt pos.line, rawInt pos.col, .ref c']).toList = ps.toList ++ [rawInt pos.line, rawInt pos.col, .ref c'] := by simp
      rw [this]
      exact TriplesOk_snoc _ _ _ _ G.1
    · intro pos' v e
      have : (ps ++ #[rawInt pos.line, rawInt pos.col, .ref c']).toList = ps.toList ++ [rawInt pos.line, rawInt pos.col, .ref c'] := by simp
      rw [this] at e
      rcases among_app G.1 e with e | rfl
      · obtain ⟨c2, oc2, vs2, t2, x1, x2, x3, x4⟩ := G.2 pos' v e
        exact ⟨c2, oc2, vs2, t2, x1, .tail _ x2, x3, x4⟩
      · exact ⟨c', oc, vs, t, rfl, .head _, d1, d2⟩
  | some v =>
    refine cps ?_; intro Q9 hQ9; obtain ⟨c2, oc2, vs2, t2, eq91, x2, x3, x4⟩ := G.2 pos v hf; refine hQ9 ?_; clear hQ9 Q9; subst eq91
    refine kla_hit F N T C hcd hP G.1 hf hcl fun f ctv h' tk F' N' l1 => h f c2 oc2 vs2 t2 ctv ps h' tk F' (fun q hq => ?_) x3 x4 (G.mono fun q hq => .tail _ hq) l1 (hne _ x2) (Nat.ne_of_gt (l1 _ hP)) (.inl x2)
    rcases List.mem_cons.mp hq with rfl | hq
    · exact N' _ (.head _)
    · rcases List.mem_cons.mp hq with rfl | hq
      · exact N' _ (.tail _ (hsub _ x2))
      · refine N' _ (.tail _ ?_)
        rcases UpdF.of_mem U hq with rfl | hq
        · exact hP
        · exact hq.1
end
section
variable {prog : Program} {w : World} {A₀ A : Around} {s : Shared} {base h₀ g₀ : Heap} {env : Env} {outer : List Env} {L : Addr} {m : Str → Option Value} {news : List (Addr × Obj)} {K : Frag} {p : Program} {loose : List Str} {mean : ExcName → Option Value} {mg mb : Str → Option Value}
    {R : Result → Shared → Prop} {name qual : Str} {params : Arguments} {body : List Stmt} {scope : Scope} {dV kV doc pm cdv ct oc : Value} {an od : Option Addr} {osl : Array (Option Value)} {f : Addr} {args : Args} {binds : List (Str × Value)}
/-- the ground of a frame below which something is caught -/
theorem groundS (B : Below A₀ base outer h₀) (F : Fr h₀ L s.heap m) (N : News h₀ L s.heap news) (XB : K.In base) (TB : Top p loose mean mg mb base) (D : KtsDicts (outer.filterMap (·.frame)) h₀)
    (T0 : KtsTurn (outer.filterMap (·.frame)) g₀ h₀) (hA : A.frames = some (env :: outer)) (hf : env.frame = some L) (hke : env.scope.kind = .function) :
    KtsDicts ((env :: outer).filterMap (·.frame)) (hideAll s.heap (news.map (·.1))) ∧
    ∀ v s', LeaveS ((env :: outer).filterMap (·.frame)) A₀ base outer K p loose mean mg mb g₀ h₀ L m (hideAll s.heap (news.map (·.1))) R v s' → R (.ok (.ret v)) s' := by
  refine cps ?_; intro Q9 hQ9; obtain ⟨FG, BG, st, -⟩ := groundX (R := R) B F N hA hf hke; refine hQ9 ?_; clear hQ9 Q9
  have fm : (env :: outer).filterMap (·.frame) = L :: outer.filterMap (·.frame) := by simp [hf]
  have nL₀ : h₀.get? L = none := kts_self F
  refine cps ?_; intro Q9 hQ9; obtain ⟨oL, es, ep, hL, hLd, hLk, hLf⟩ := F.ns; refine hQ9 ?_; clear hQ9 Q9
  have nL : L ∉ news.map (·.1) := fun q => by
    refine cps ?_; intro Q9 hQ9; obtain ⟨p, hp, e⟩ := List.mem_map.mp q; refine hQ9 ?_; clear hQ9 Q9
    exact (N p hp).2.1 e
  have hLg := hideAll_get (news.map (·.1)) hL nL
  refine ⟨fun b hb => ?_, fun v s' hl => ?_⟩
  · rw [fm] at hb
    rcases List.mem_cons.mp hb with rfl | hb
    · exact ⟨oL, es, ep, hLg, hLd⟩
    · obtain ⟨o, es', n', ho', hd'⟩ := D b hb
      exact ⟨o, es', n', st b o ho', hd'⟩
  rcases hl with ⟨L', m', news', F', N', k⟩ | ⟨g', L', m', news', T', F', N', k⟩
  · refine k ⟨⟨oL, es, ep, F'.keep _ _ hLg, hLd, hLk, hLf⟩, fun b o e => F'.keep b o (st b o e), F.above⟩ fun p hp => ⟨(N' p hp).1, fun q => ?_, ?_⟩
    · have := (N' p hp).2.2; rw [q, hLg] at this; cases this
    · cases q : h₀.get? p.1 with
      | none => rfl
      | some o => have := (N' p hp).2.2; rw [st _ _ q] at this; cases this
  · obtain ⟨sl, hs⟩ := T'.up hLg
    rw [fm] at T'
    obtain ⟨T₁, S₁⟩ := kts_turn_at (h := s'.heap) (fs := outer.filterMap (·.frame)) (g := h₀)
      (fun b hb => by
        refine cps ?_; intro Q9 hQ9; obtain ⟨_, o, ho', _⟩ := B.frames.mem hb; refine hQ9 ?_; clear hQ9 Q9
        exact ⟨o, ho'⟩)
      (fun b o e nmem => F'.keep b o (T'.other b o (st b o e) (fun q => by
        rcases List.mem_cons.mp q with z | z
        · rw [z, nL₀] at e
          cases e
        · exact nmem z)))
      (fun b o e hm => by
        obtain ⟨sl', hs'⟩ := T'.up (st b o e)
        exact ⟨sl', F'.keep _ _ hs'⟩)
    have B₃ : Below A₀ base outer (ktsHeap s'.heap (outer.filterMap (·.frame)) h₀) := ⟨B.stack, fun b o e => T₁.other b o (B.stays b o e) (fun hm => by
      rw [(B.frames.mem hm).1] at e
      cases e), B.frames.of_keeps fun b o e _ => by
      obtain ⟨sl', hs'⟩ := T₁.up e
      exact ⟨_, hs', rfl⟩⟩
    refine k _ (T0.trans T₁) ⟨⟨_, es, ep, F'.keep _ _ hs, hLd, hLk, hLf⟩, S₁, by rw [T₁.size]; exact F.above⟩ (fun p hp => ⟨(N' p hp).1, fun q => ?_, ?_⟩) B₃ (XB.keeps B₃.stays) (TB.keeps B₃.stays) (D.turn T₁)
    · have := (N' p hp).2.2; rw [q, hs] at this; cases this
    · refine T₁.none_ _ ?_
      cases q : h₀.get? p.1 with
      | none => rfl
      | some o =>
        obtain ⟨sl', hs'⟩ := T'.up (st _ _ q)
        have := (N' p hp).2.2
        rw [hs'] at this
        cases this
/-- a def with cells that catches -/
theorem code_defSC (B : Below A₀ base outer h₀) (F : Fr h₀ L s.heap m) (X₀ : K.In h₀) (N : News h₀ L s.heap news) (T : Top p loose mean mg mb h₀) (XB : K.In base) (TB : Top p loose mean mg mb base) (D : KtsDicts (outer.filterMap (·.frame)) h₀)
    (T0 : KtsTurn (outer.filterMap (·.frame)) g₀ h₀) (hA : A.frames = some (env :: outer)) (hf : env.frame = some L) (hke : env.scope.kind = .function)
    (ho : K.lookup f = some ⟨oc, od, .func (fnOf name qual params body scope dV kV doc pm an cdv ct), osl⟩) (hcd : codeIn K cdv qual = true) (hroom : A.depth < recursionLimit)
    (hbind : BindsTo s (fnOf name qual params body scope dV kV doc pm an cdv ct) args binds) (hkind : (binds.all fun y => scope.names.lookup y.1 == some .local || scope.names.lookup y.1 == some .cell) = true)
    (hnd : ((cellsFrom 0 scope.names []).map (·.1)).Nodup)
    (h : ∀ g L' h₁ tk cells, Fr h₀ L g m → Fr g L' h₁ (bindL (envOfC qual scope L' f cdv).kindOf binds fun _ => none) → News g L' h₁ (cells ++ news) →
      CellsAre (bindC (envOfC qual scope L' f cdv).kindOf binds fun _ => none) (cellsFrom (L' + 1) scope.names []) cells → Below A base (env :: outer) g → K.In g → Top p loose mean mg mb g → KtsDicts ((env :: outer).filterMap (·.frame)) g → (∀ p ∈ news, p.1 < L') →
      wpAny (model prog w) (A.deeper (envOfC qual scope L' f cdv)) (execs body (envOfC qual scope L' f cdv))
        (fun fl s' => LeaveS ((env :: outer).filterMap (·.frame)) A₀ base outer K p loose mean mg mb g₀ h₀ L m g R (match fl with | .ret v => v | _ => .none) s')
        (fun e s' => wpAny (model prog w) (A.deeper (envOfC qual scope L' f cdv)) (leaving (envOfC qual scope L' f cdv) e) (fun _ s'' => R (.error e) s'') (fun e' s'' => R (.error e') s'') s')
        { s with heap := h₁, toks := tk })
    (hco : scope.isCoroutine = false) (hgen : scope.isGenerator = false) (hk : scope.kind = .function) : codeAny (model prog w) A (.call (.ref f) args) R s := by
  have X := X₀.keeps F.keep
  refine cps ?_; intro Q9 hQ9; obtain ⟨FG, BG, st, -⟩ := groundX (R := R) B F N hA hf hke; refine hQ9 ?_; clear hQ9 Q9
  obtain ⟨DG, lv⟩ := groundS (R := R) B F N XB TB D T0 hA hf hke
  refine codeAny_call_function hroom (X _ _ ho) rfl hco hgen rfl (codeRec_of X hcd) (hbind _ _ _ _ ?_)
  refine wpAny_newFunctionEnv_cells hk (kindsX hkind _) fun env' he s' x => ?_
  subst he
  refine ⟨(T.nolimit.keeps F.keep).keeps x.toInCall.keep, codeAny_func ?_⟩
  refine cps ?_; intro Q9 hQ9; obtain ⟨h₁, tk, eq91, _⟩ := x.done; refine hQ9 ?_; clear hQ9 Q9; subst eq91
  have up := x.toInCall.keep
  have nd := cellsFrom_names scope.names 0 (s.heap.objs.size + 1) [] [] rfl ▸ hnd
  refine cps ?_; intro Q9 hQ9; obtain ⟨cells, NC, Y⟩ := Cl.news (h₀ := s.heap) (Nat.le_refl _) fun n c hm => ⟨x.cell n c (lookup_of_mem_nodup nd hm), x.above n c hm⟩; refine hQ9 ?_; clear hQ9 Q9
  have Nn : News (hideAll s.heap (news.map (·.1))) s.heap.objs.size h₁ (cells ++ news) := fun q hq => by
    rcases List.mem_append.mp hq with hq | hq
    · refine ⟨(NC q hq).1, (NC q hq).2.1, ?_⟩
      cases z : (hideAll s.heap (news.map (·.1))).get? q.1 with
      | none => rfl
      | some o => have := of_hideAll _ z; rw [(NC q hq).2.2] at this; cases this
    · exact ⟨up _ _ (N q hq).1, Nat.ne_of_lt (Heap.lt_size (N q hq).1), hideAll_none _ (List.mem_map_of_mem hq)⟩
  exact wpAny_mono (h _ s.heap.objs.size h₁ tk cells FG ⟨x.toInCall.ns, fun b o e => up b o (of_hideAll _ e), Nat.le_of_eq (hideAll_size _ _)⟩ Nn Y BG (X₀.keeps st) (T.keeps st) DG (fun q hq => Heap.lt_size (N q hq).1))
    (fun fl s' hl => lv _ _ hl) fun _ _ y => y
end
section
variable {M : Model} {A : Around} {E : Value → Shared → Prop} {s' : Shared} {base g g₂ : Heap} {env : Env} {outer : List Env} {L e : Addr} {m : Str → Option Value} {Q : Unit → Shared → Prop} {news : List (Addr × Obj)}
/-- a raise passes a frame of any kind -/
theorem leave_onX {cls : Value} (hf : env.frame = some L) (K : Below A base outer g) (F : Fr g L g₂ m) (R : RaisedSN base g₂ (env :: outer) e cls news s'.heap) (hsm : g₂.UpToSlots s'.heap)
    (hQ : ∀ h', RaisedSN base g outer e cls news h' → RaisedN base outer e cls news h' → g.UpToSlots h' → Q () { s' with heap := h' }) :
    wpAny M (A.deeper env) (leaving env (.ref e)) Q E s' := by
  refine cps ?_; intro Q9 hQ9; obtain ⟨B, a0, hB, hBG, hl, hfl⟩ := R; refine hQ9 ?_; clear hQ9 Q9
  have fm : (env :: outer).filterMap (·.frame) = L :: outer.filterMap (·.frame) := by simp [hf]
  refine wpAny_leaves_onW (Around.frames_deeper K.stack) hf hfl fun h' x1 x2 => ?_
  have R : RaisedSN base g outer e cls news h' := ⟨B, a0, hB, fun b o q nm => hBG b o (F.keep b o q) (fun hm => by
    rw [fm] at hm
    rcases List.mem_cons.mp hm with z | z
    · rw [z, kts_self F] at q
      cases q
    · exact nm z), fun q hq => ⟨(hl q hq).1, kts_none F.keep (hl q hq).2.1, (hl q hq).2.2⟩, x1⟩
  exact hQ h' R R.toN ((Heap.UpToSlots.of_keeps F.keep).trans (hsm.trans x2))
end
/-- one below the other, hidden from omega -/
def Bel (a b : Nat) : Prop := a < b
theorem bel_ne {a b : Nat} (h : Bel a b) : a ≠ b := Nat.ne_of_lt h
theorem bel_ne' {a b : Nat} (h : Bel b a) : a ≠ b := Nat.ne_of_gt h
theorem bel_of {a b : Nat} (h : a < b) : Bel a b := h
def AllBel (d : Nat) : List (Addr × Obj) → Prop
  | [] => True
  | p :: r => Bel p.1 d ∧ AllBel d r
theorem allBel_of {d : Addr} : ∀ {l : List (Addr × Obj)}, (∀ p ∈ l, p.1 < d) → AllBel d l
  | [], _ => trivial
  | p :: _, h => ⟨h p (.head _), allBel_of fun q hq => h q (.tail _ hq)⟩
theorem bx_addrs {d : Nat} : ∀ {l : List (Addr × Obj)}, AllBel d l ↔ ∀ a ∈ addrs l, Bel a d
  | [] => ⟨fun _ _ h => (List.not_mem_nil h).elim, fun _ => trivial⟩
  | (a, o) :: r => ⟨fun h b hb => by rcases List.mem_cons.mp hb with rfl | hb; (exact h.1); exact bx_addrs.mp h.2 b hb, fun h => ⟨h a (.head _), bx_addrs.mpr fun b hb => h b (.tail _ hb)⟩⟩
theorem bx8 {P : Prop} {d : Nat} {l r : List (Addr × Obj)} {a1 a2 a3 a4 a5 a6 a7 a8 : Nat} (h : AllBel d l) (e : addrs l = a1 :: a2 :: a3 :: a4 :: a5 :: a6 :: a7 :: a8 :: addrs r) (H : Bel a1 d → Bel a2 d → Bel a3 d → Bel a4 d → Bel a5 d → Bel a6 d → Bel a7 d → Bel a8 d → AllBel d r → P) : P := by
  have q := bx_addrs.mp h
  rw [e] at q
  simp only [List.forall_mem_cons] at q
  refine cps ?_; intro Q9 hQ9; obtain ⟨q1, q2, q3, q4, q5, q6, q7, q8, r9⟩ := q; refine hQ9 ?_; clear hQ9 Q9
  exact H q1 q2 q3 q4 q5 q6 q7 q8 (bx_addrs.mpr r9)
theorem bx3 {P : Prop} {d : Nat} {l r : List (Addr × Obj)} {a1 a2 a3 : Nat} (h : AllBel d l) (e : addrs l = a1 :: a2 :: a3 :: addrs r) (H : Bel a1 d → Bel a2 d → Bel a3 d → AllBel d r → P) : P := by
  have q := bx_addrs.mp h
  rw [e] at q
  simp only [List.forall_mem_cons] at q
  refine cps ?_; intro Q9 hQ9; obtain ⟨q1, q2, q3, r9⟩ := q; refine hQ9 ?_; clear hQ9 Q9
  exact H q1 q2 q3 (bx_addrs.mpr r9)
theorem bx1 {P : Prop} {d : Nat} {l r : List (Addr × Obj)} {a1 : Nat} (h : AllBel d l) (e : addrs l = a1 :: addrs r) (H : Bel a1 d → AllBel d r → P) : P := by
  have q := bx_addrs.mp h
  rw [e] at q
  simp only [List.forall_mem_cons] at q
  obtain ⟨q1, r9⟩ := q
  exact H q1 (bx_addrs.mpr r9)
theorem allBel_ne {d : Nat} : ∀ {l : List (Addr × Obj)}, AllBel d l → ∀ p ∈ l, @Ne Nat p.1 d
  | [], _, _, h => nomatch h
  | _ :: _, h, p, hp => by
    rcases List.mem_cons.mp hp with rfl | hp
    · exact bel_ne h.1
    · exact allBel_ne h.2 p hp
theorem allBel_lt {d : Nat} : ∀ {l : List (Addr × Obj)}, AllBel d l → ∀ p ∈ l, @LT.lt Nat _ p.1 d
  | [], _, _, h => nomatch h
  | _ :: _, h, p, hp => by
    rcases List.mem_cons.mp hp with rfl | hp
    · exact h.1
    · exact allBel_lt h.2 p hp
section
variable {M : Model} {A : Around} {E : Value → Shared → Prop} {s : Shared} {env : Env} {pos : Pos} {f : Value} {first : List Value} {Q : Value → Shared → Prop} {h₀ : Heap} {L : Addr} {m : Str → Option Value} {K : Frag}
theorem callWith_K0F (F : Fr h₀ L s.heap m) (X : K.In h₀) (hk : keepIn K f = true) (h : wpAny M A (call f (first ++ [])) Q E s) : wpAny M A (callWith pos f first (backTo pos (starEach [] env)) []) Q E s :=
  callWith_K0 (X.keeps F.keep) hk h
end
theorem allBel_mono {d d' : Nat} (hd : d ≤ d') : ∀ {l : List (Addr × Obj)}, AllBel d l → AllBel d' l
  | [], _ => trivial
  | _ :: _, h => ⟨Nat.lt_of_lt_of_le h.1 hd, allBel_mono hd h.2⟩
def StopHere : Prop := True
def MetStop (P : Prop) : Prop := P
theorem metStop {P : Prop} (h : MetStop P) : P := h
theorem fr_congr {g : Heap} {L : Addr} {h : Heap} {m m' : Str → Option Value} (F : Fr g L h m) (e : ∀ y, m y = m' y) : Fr g L h m' := (funext e : m = m') ▸ F
theorem norm_num {g : G5} (h : g.Ok) : -1073741823 ≤ g.norm.w ∧ g.norm.w ≤ 1073741823 ∧ -1073741823 ≤ g.norm.u ∧ g.norm.u ≤ 1073741823 ∧ 0 ≤ g.norm.uo ∧ g.norm.uo ≤ 3 ∧ -1073741823 ≤ g.norm.d ∧ g.norm.d ≤ 1073741823 ∧ 0 ≤ g.norm.od ∧ g.norm.od ≤ 3 := norm_ok h
section
variable {prog : Program} {w : World} {A : Around} {s : Shared} {h₀ : Heap} {L : Addr} {news : List (Addr × Obj)} {E : Value → Shared → Prop}
theorem item_seq {value slice : Expr} {l : Addr} {items : List Value} {n : Nat} {C : String} {k : Int} {u : Tok} {x : Value} {Q : Value → Shared → Prop} (h0 : 0 ≤ k) (hfit : k < 2 ^ 63) (N : News h₀ L s.heap news) (hm : (l, ({ cls := .type C, data := .seq items.toArray n } : Obj)) ∈ news)
    (hC : C = "tuple" ∨ C = "list") (hx : items[k.toNat]? = some x) (h : Q x s)
    (hs : subscripted slice false (.ref l) (.int k u) = operate [.ref l, .int k u] (getItem (.ref l) (.int k u)) := by with_unfolding_all rfl) :
    wpAny (model prog w) A (subscriptTail value slice (.ref l) (.int k u)) Q E s := by
  rcases hC with rfl | rfl
  · refine item_tupleT (News.isTup N hm) (by omega) hfit (j := k.toNat) ?_ hx h hs
    have := List.getElem?_eq_some_iff.mp hx
    obtain ⟨hlt, -⟩ := this
    unfold seqIndex?
    simp [h0]
    omega
  · exact item_lit h0 hfit N hm hx h hs
end
section
variable {w : World} {p : Program} {loose : List Str} {mean : ExcName → Option Value} {mg mb : Str → Option Value}
  {dp un : Nat} {gd : Option (List Code)} {cn : Str} {cs : Scope} {a : Addr} {ccd : Value} {cl : List (Str × Addr)} {outer : List Env} {A₀ : Around} {base h₀ : Heap} {L : Addr} {m : Str → Option Value} {news : List (Addr × Obj)} {s : Shared} {Q E : Value → Shared → Prop}

section
local macro_rules | `(tactic| k_all) => `(tactic| assumption)
set_option maxRecDepth 100000 in
set_option maxHeartbeats 4000000 in
theorem doorA_c {b u uo : Int} {t1 t2 t3 : Tok}
  {A : Around} {vs8 : List Value} (hv8 : vs8 = [.int b t1, .int u t2, .int uo t3]) (hA : A.frames = some (envX cn cs L a ccd cl :: outer)) (hh : A.handled = none) (B : Below A₀ base outer h₀) (F : Fr h₀ L s.heap m) (X : (hd.heap_1 w.params).In h₀) (N : News h₀ L s.heap news) (T : Top p loose mean mg mb h₀) (hk : cs.kind = .function)
  (h : uo < 0 ∨ 3 < uo)
  (hd : A.depth + 12 < recursionLimit) (hu : A.units + 150 < cLine)
  (hraise : ∀ (e : Addr) (g h' : Heap) (tk' : Nat), Fr h₀ L g m → RaisedSN base g (envX cn cs L a ccd cl :: outer) e (.ref 45) news h' → g.UpToSlots h' → E (.ref e) { s with heap := h', toks := tk' }) :
  wpAny (model PP w) A (call (.ref 208) vs8) Q E s := by
  subst hv8
  refine wp_at_top hA hh ?_
  have kd := ktsDicts_nil (g := s.heap)
  (repeat' (first | ((with_reducible show wpAny _ _ (execs _ _) _ _ _); (fail_if_success (fail_if_success k_fold)); refine foldQ ?_; intro qk ek) | ((with_reducible show wpAny _ _ (exec _ _) _ _ _); (fail_if_success (fail_if_success k_fold)); refine foldQ ?_; intro qk ek; (try (refine foldN (by with_reducible assumption) ?_; intro n9 N9))) | ((with_reducible show wpAny _ _ (leaving _ (Value.ref _)) _ _ _); first | (with_reducible (k_here; k_dflt (refine' leave_own ?K_q ?F_q ?N_q ?ne_q ?_ ?hk_q; (case N_q => k_asm); (case F_q => k_asm); (case K_q => k_asm); (case ne_q => k_all); (case hk_q => rfl); k_whole); intro h' S' R' U'; (try dsimp only at S' R' U' ⊢)))) | ((with_reducible show wpAny _ _ (exec (Stmt.Raise _ _ _) _) _ _ _); first | (with_reducible (k_here; with_unfolding_all refine raise_stmt (by rfl) ?_))) | ((with_reducible show wpAny _ _ (call (Value.ref _) _) _ _ _); first | (with_reducible (k_here; (with_reducible apply bad_c); k_dflt (walk_at "c8"; ktr_room; ktr_units; k_whole); intro e' d' t' h' tk' F' N' l1'; (try k_lt l1'); (try k_sweep); (try k_fold))) | (with_reducible (k_here; (with_reducible apply iswF_c); k_dflt (walk_at "c8"; (first | with_reducible assumption | omega); ktr_room; ktr_units; k_whole); intro h' tk' F' N'; (try k_sweep); (try k_fold); (try k_sweep); (try k_fold)))) | ((with_reducible show wpAny _ _ (eval (Expr.Name _ _) _) _ _ _); first | (with_reducible (k_here; name_kind "globalImplicit"; k_dflt (first | (name_is_builtin; refine' nameX_B ?F_q ?X_q ?T_q ?e_q ?v_q ?n_q ?_ ?a_q ?b_q; (case F_q => k_asm); (case X_q => k_asm); (case T_q => k_asm); (case a_q => rfl); (case b_q => rfl); (case e_q => k_is); (case v_q => boot_fast); (case n_q => decide); k_whole) | (refine' nameX_K ?F_q ?X_q ?T_q ?e_q ?_ ?a_q ?b_q; (case F_q => k_asm); (case X_q => k_asm); (case T_q => k_asm); (case a_q => rfl); (case b_q => rfl); (case e_q => k_is); k_whole)))) | (with_reducible (k_here; name_kind "local"; k_dflt (refine' nameX_L ?F_q ?v_q ?_ ?a_q ?b_q; (case F_q => k_asm); (case a_q => rfl); (case b_q => rfl); (case v_q => rfl); k_whole)))) | (k_unfold; (try dsimp only)) | (k_end; wrow_close) | (walk1; (all_goals (try dsimp only))) | (dsimp only; walk1) | (leave1; try dsimp only)))
  all_goals first
    | (rename RaisedSN base _ _ _ _ _ _ => SS; exact hraise _ _ _ _ (by assumption) (raisedSN_sub SS fun q hq => List.mem_cons_of_mem _ (List.mem_cons_of_mem _ hq)) (by assumption))
    | (exfalso; omega)
set_option maxRecDepth 100000 in
set_option maxHeartbeats 4000000 in
theorem doorB_c {b u d od : Int} {t1 t2 t3 t4 t5 : Tok}
  {A : Around} {vs8 : List Value} (hv8 : vs8 = [.int b t1, .int u t2, .int 0 t3, .int d t4, .int od t5]) (hA : A.frames = some (envX cn cs L a ccd cl :: outer)) (hh : A.handled = none) (B : Below A₀ base outer h₀) (F : Fr h₀ L s.heap m) (X : (hd.heap_1 w.params).In h₀) (N : News h₀ L s.heap news) (T : Top p loose mean mg mb h₀) (hk : cs.kind = .function)
  (h : od < 0 ∨ 3 < od)
  (hd : A.depth + 12 < recursionLimit) (hu : A.units + 150 < cLine)
  (hraise : ∀ (e : Addr) (g h' : Heap) (tk' : Nat), Fr h₀ L g m → RaisedSN base g (envX cn cs L a ccd cl :: outer) e (.ref 45) news h' → g.UpToSlots h' → E (.ref e) { s with heap := h', toks := tk' }) :
  wpAny (model PP w) A (call (.ref 208) vs8) Q E s := by
  subst hv8
  refine wp_at_top hA hh ?_
  have kd := ktsDicts_nil (g := s.heap)
  (repeat' (first | ((with_reducible show wpAny _ _ (execs _ _) _ _ _); (fail_if_success (fail_if_success k_fold)); refine foldQ ?_; intro qk ek) | ((with_reducible show wpAny _ _ (exec _ _) _ _ _); (fail_if_success (fail_if_success k_fold)); refine foldQ ?_; intro qk ek; (try (refine foldN (by with_reducible assumption) ?_; intro n9 N9))) | ((with_reducible show wpAny _ _ (leaving _ (Value.ref _)) _ _ _); first | (with_reducible (k_here; k_dflt (refine' leave_own ?K_q ?F_q ?N_q ?ne_q ?_ ?hk_q; (case N_q => k_asm); (case F_q => k_asm); (case K_q => k_asm); (case ne_q => k_all); (case hk_q => rfl); k_whole); intro h' S' R' U'; (try dsimp only at S' R' U' ⊢)))) | ((with_reducible show wpAny _ _ (exec (Stmt.Raise _ _ _) _) _ _ _); first | (with_reducible (k_here; with_unfolding_all refine raise_stmt (by rfl) ?_))) | ((with_reducible show wpAny _ _ (call (Value.ref _) _) _ _ _); first | (with_reducible (k_here; (with_reducible apply bad_c); k_dflt (walk_at "c8"; ktr_room; ktr_units; k_whole); intro e' d' t' h' tk' F' N' l1'; (try k_lt l1'); (try k_sweep); (try k_fold))) | (with_reducible (k_here; (with_reducible apply iswT_c); k_dflt (walk_at "c8"; (first | with_reducible assumption | omega); (first | with_reducible assumption | omega); ktr_room; ktr_units; k_whole); intro h' tk' F' N'; (try k_sweep); (try k_fold); (try k_sweep); (try k_fold))) | (with_reducible (k_here; (with_reducible apply iswF_c); k_dflt (walk_at "c8"; (first | with_reducible assumption | omega); ktr_room; ktr_units; k_whole); intro h' tk' F' N'; (try k_sweep); (try k_fold); (try k_sweep); (try k_fold)))) | ((with_reducible show wpAny _ _ (eval (Expr.Name _ _) _) _ _ _); first | (with_reducible (k_here; name_kind "globalImplicit"; k_dflt (first | (name_is_builtin; refine' nameX_B ?F_q ?X_q ?T_q ?e_q ?v_q ?n_q ?_ ?a_q ?b_q; (case F_q => k_asm); (case X_q => k_asm); (case T_q => k_asm); (case a_q => rfl); (case b_q => rfl); (case e_q => k_is); (case v_q => boot_fast); (case n_q => decide); k_whole) | (refine' nameX_K ?F_q ?X_q ?T_q ?e_q ?_ ?a_q ?b_q; (case F_q => k_asm); (case X_q => k_asm); (case T_q => k_asm); (case a_q => rfl); (case b_q => rfl); (case e_q => k_is); k_whole)))) | (with_reducible (k_here; name_kind "local"; k_dflt (refine' nameX_L ?F_q ?v_q ?_ ?a_q ?b_q; (case F_q => k_asm); (case a_q => rfl); (case b_q => rfl); (case v_q => rfl); k_whole)))) | (k_unfold; (try dsimp only)) | (k_end; wrow_close) | (walk1; (all_goals (try dsimp only))) | (dsimp only; walk1) | (leave1; try dsimp only)))
  all_goals first
    | (rename RaisedSN base _ _ _ _ _ _ => SS; exact hraise _ _ _ _ (by assumption) (raisedSN_sub SS fun q hq => List.mem_cons_of_mem _ (List.mem_cons_of_mem _ hq)) (by assumption))
    | (exfalso; omega)
set_option maxRecDepth 100000 in
set_option maxHeartbeats 4000000 in
theorem doorC_c 
  {A : Around} {vs8 : List Value} (hv8 : vs8 = [.bool true]) (hA : A.frames = some (envX cn cs L a ccd cl :: outer)) (hh : A.handled = none) (B : Below A₀ base outer h₀) (F : Fr h₀ L s.heap m) (X : (hd.heap_1 w.params).In h₀) (N : News h₀ L s.heap news) (T : Top p loose mean mg mb h₀) (hk : cs.kind = .function)
  (hd : A.depth + 12 < recursionLimit) (hu : A.units + 150 < cLine)
  (hraise : ∀ (e : Addr) (g h' : Heap) (tk' : Nat), Fr h₀ L g m → RaisedSN base g (envX cn cs L a ccd cl :: outer) e (.ref 45) news h' → g.UpToSlots h' → E (.ref e) { s with heap := h', toks := tk' }) :
  wpAny (model PP w) A (call (.ref 208) vs8) Q E s := by
  subst hv8
  refine wp_at_top hA hh ?_
  have kd := ktsDicts_nil (g := s.heap)
  (repeat' (first | ((with_reducible show wpAny _ _ (execs _ _) _ _ _); (fail_if_success (fail_if_success k_fold)); refine foldQ ?_; intro qk ek) | ((with_reducible show wpAny _ _ (exec _ _) _ _ _); (fail_if_success (fail_if_success k_fold)); refine foldQ ?_; intro qk ek; (try (refine foldN (by with_reducible assumption) ?_; intro n9 N9))) | ((with_reducible show wpAny _ _ (leaving _ (Value.ref _)) _ _ _); first | (with_reducible (k_here; (with_reducible rename RaisedSN _ _ _ _ _ _ _ => rs9); k_dflt (refine' leave_onX ?k0_q ?k1_q ?k2_q ?k3_q ?k4_q ?_; (case k0_q => exact rfl); (case k3_q => assumption); (case k2_q => assumption); (case k1_q => assumption); (case k4_q => assumption); k_whole; intro h' S' R' U'; (try dsimp only at S' R' U' ⊢); (try dsimp only [InitBack])))) | (with_reducible (k_here; k_dflt (refine' leave_own ?K_q ?F_q ?N_q ?ne_q ?_ ?hk_q; (case N_q => k_asm); (case F_q => k_asm); (case K_q => k_asm); (case ne_q => k_all); (case hk_q => rfl); k_whole); intro h' S' R' U'; (try dsimp only at S' R' U' ⊢)))) | ((with_reducible show wpAny _ _ (exec (Stmt.Raise _ _ _) _) _ _ _); first | (with_reducible (k_here; with_unfolding_all refine raise_stmt (by rfl) ?_))) | ((with_reducible show wpAny _ _ (call (Value.ref _) _) _ _ _); first | (with_reducible (k_here; (with_reducible apply bad_c); k_dflt (walk_at "c8"; ktr_room; ktr_units; k_whole); intro e' d' t' h' tk' F' N' l1'; (try k_lt l1'); (try k_sweep); (try k_fold))) | (with_reducible (k_here; (with_reducible apply iswT_c); k_dflt (walk_at "c8"; (first | with_reducible assumption | omega); (first | with_reducible assumption | omega); ktr_room; ktr_units; k_whole); intro h' tk' F' N'; (try k_sweep); (try k_fold); (try k_sweep); (try k_fold)))) | ((with_reducible show wpAny _ _ (eval (Expr.Name _ _) _) _ _ _); first | (with_reducible (k_here; name_kind "globalImplicit"; k_dflt (first | (name_is_builtin; refine' nameX_B ?F_q ?X_q ?T_q ?e_q ?v_q ?n_q ?_ ?a_q ?b_q; (case F_q => k_asm); (case X_q => k_asm); (case T_q => k_asm); (case a_q => rfl); (case b_q => rfl); (case e_q => k_is); (case v_q => boot_fast); (case n_q => decide); k_whole) | (refine' nameX_K ?F_q ?X_q ?T_q ?e_q ?_ ?a_q ?b_q; (case F_q => k_asm); (case X_q => k_asm); (case T_q => k_asm); (case a_q => rfl); (case b_q => rfl); (case e_q => k_is); k_whole)))) | (with_reducible (k_here; name_kind "local"; k_dflt (refine' nameX_L ?F_q ?v_q ?_ ?a_q ?b_q; (case F_q => k_asm); (case a_q => rfl); (case b_q => rfl); (case v_q => rfl); k_whole)))) | (k_unfold; (try dsimp only)) | (k_end; wrow_close) | (walk1; (all_goals (try dsimp only))) | (dsimp only; walk1) | (leave1; try dsimp only)))
  all_goals first
    | (rename RaisedSN base _ _ _ _ _ _ => SS; exact hraise _ _ _ _ (by assumption) (raisedSN_sub SS fun q hq => List.mem_cons_of_mem _ (List.mem_cons_of_mem _ hq)) (by assumption))
    | (exfalso; omega)
set_option maxRecDepth 100000 in
set_option maxHeartbeats 4000000 in
theorem doorD_c {t1 t2 : Tok}
  {A : Around} {vs8 : List Value} (hv8 : vs8 = [.int 0 t1, .int 0 t2, .bool true]) (hA : A.frames = some (envX cn cs L a ccd cl :: outer)) (hh : A.handled = none) (B : Below A₀ base outer h₀) (F : Fr h₀ L s.heap m) (X : (hd.heap_1 w.params).In h₀) (N : News h₀ L s.heap news) (T : Top p loose mean mg mb h₀) (hk : cs.kind = .function)
  (hd : A.depth + 12 < recursionLimit) (hu : A.units + 150 < cLine)
  (hraise : ∀ (e : Addr) (g h' : Heap) (tk' : Nat), Fr h₀ L g m → RaisedSN base g (envX cn cs L a ccd cl :: outer) e (.ref 45) news h' → g.UpToSlots h' → E (.ref e) { s with heap := h', toks := tk' }) :
  wpAny (model PP w) A (call (.ref 208) vs8) Q E s := by
  subst hv8
  refine wp_at_top hA hh ?_
  have kd := ktsDicts_nil (g := s.heap)
  (repeat' (first | ((with_reducible show wpAny _ _ (execs _ _) _ _ _); (fail_if_success (fail_if_success k_fold)); refine foldQ ?_; intro qk ek) | ((with_reducible show wpAny _ _ (exec _ _) _ _ _); (fail_if_success (fail_if_success k_fold)); refine foldQ ?_; intro qk ek; (try (refine foldN (by with_reducible assumption) ?_; intro n9 N9))) | ((with_reducible show wpAny _ _ (leaving _ (Value.ref _)) _ _ _); first | (with_reducible (k_here; k_dflt (refine' leave_own ?K_q ?F_q ?N_q ?ne_q ?_ ?hk_q; (case N_q => k_asm); (case F_q => k_asm); (case K_q => k_asm); (case ne_q => k_all); (case hk_q => rfl); k_whole); intro h' S' R' U'; (try dsimp only at S' R' U' ⊢)))) | ((with_reducible show wpAny _ _ (exec (Stmt.Raise _ _ _) _) _ _ _); first | (with_reducible (k_here; with_unfolding_all refine raise_stmt (by rfl) ?_))) | ((with_reducible show wpAny _ _ (call (Value.ref _) _) _ _ _); first | (with_reducible (k_here; (with_reducible apply bad_c); k_dflt (walk_at "c8"; ktr_room; ktr_units; k_whole); intro e' d' t' h' tk' F' N' l1'; (try k_lt l1'); (try k_sweep); (try k_fold)))) | ((with_reducible show wpAny _ _ (eval (Expr.Name _ _) _) _ _ _); first | (with_reducible (k_here; name_kind "globalImplicit"; k_dflt (first | (name_is_builtin; refine' nameX_B ?F_q ?X_q ?T_q ?e_q ?v_q ?n_q ?_ ?a_q ?b_q; (case F_q => k_asm); (case X_q => k_asm); (case T_q => k_asm); (case a_q => rfl); (case b_q => rfl); (case e_q => k_is); (case v_q => boot_fast); (case n_q => decide); k_whole) | (refine' nameX_K ?F_q ?X_q ?T_q ?e_q ?_ ?a_q ?b_q; (case F_q => k_asm); (case X_q => k_asm); (case T_q => k_asm); (case a_q => rfl); (case b_q => rfl); (case e_q => k_is); k_whole)))) | (with_reducible (k_here; name_kind "local"; k_dflt (refine' nameX_L ?F_q ?v_q ?_ ?a_q ?b_q; (case F_q => k_asm); (case a_q => rfl); (case b_q => rfl); (case v_q => rfl); k_whole)))) | (k_unfold; (try dsimp only)) | (k_end; wrow_close) | (walk1; (all_goals (try dsimp only))) | (dsimp only; walk1) | (leave1; try dsimp only)))
  all_goals first
    | (rename RaisedSN base _ _ _ _ _ _ => SS; exact hraise _ _ _ _ (by assumption) (raisedSN_sub SS fun q hq => List.mem_cons_of_mem _ (List.mem_cons_of_mem _ hq)) (by assumption))
    | (exfalso; omega)
set_option maxRecDepth 100000 in
set_option maxHeartbeats 4000000 in
theorem doorE_c {t1 t2 : Tok}
  {A : Around} {vs8 : List Value} (hv8 : vs8 = [.int 0 t1, .str (Str.ofString "1") t2]) (hA : A.frames = some (envX cn cs L a ccd cl :: outer)) (hh : A.handled = none) (B : Below A₀ base outer h₀) (F : Fr h₀ L s.heap m) (X : (hd.heap_1 w.params).In h₀) (N : News h₀ L s.heap news) (T : Top p loose mean mg mb h₀) (hk : cs.kind = .function)
  (hd : A.depth + 12 < recursionLimit) (hu : A.units + 150 < cLine)
  (hraise : ∀ (e : Addr) (g h' : Heap) (tk' : Nat), Fr h₀ L g m → RaisedSN base g (envX cn cs L a ccd cl :: outer) e (.ref 45) news h' → g.UpToSlots h' → E (.ref e) { s with heap := h', toks := tk' }) :
  wpAny (model PP w) A (call (.ref 208) vs8) Q E s := by
  subst hv8
  refine wp_at_top hA hh ?_
  have kd := ktsDicts_nil (g := s.heap)
  (repeat' (first | ((with_reducible show wpAny _ _ (execs _ _) _ _ _); (fail_if_success (fail_if_success k_fold)); refine foldQ ?_; intro qk ek) | ((with_reducible show wpAny _ _ (exec _ _) _ _ _); (fail_if_success (fail_if_success k_fold)); refine foldQ ?_; intro qk ek; (try (refine foldN (by with_reducible assumption) ?_; intro n9 N9))) | ((with_reducible show wpAny _ _ (leaving _ (Value.ref _)) _ _ _); first | (with_reducible (k_here; (with_reducible rename RaisedSN _ _ _ _ _ _ _ => rs9); k_dflt (refine' leave_onX ?k0_q ?k1_q ?k2_q ?k3_q ?k4_q ?_; (case k0_q => exact rfl); (case k3_q => assumption); (case k2_q => assumption); (case k1_q => assumption); (case k4_q => assumption); k_whole; intro h' S' R' U'; (try dsimp only at S' R' U' ⊢); (try dsimp only [InitBack])))) | (with_reducible (k_here; k_dflt (refine' leave_own ?K_q ?F_q ?N_q ?ne_q ?_ ?hk_q; (case N_q => k_asm); (case F_q => k_asm); (case K_q => k_asm); (case ne_q => k_all); (case hk_q => rfl); k_whole); intro h' S' R' U'; (try dsimp only at S' R' U' ⊢)))) | ((with_reducible show wpAny _ _ (call (Value.ref _) _) _ _ _); first | (with_reducible (k_here; (with_reducible apply dimen_c); k_dflt (walk_at "c8"; ktr_room; ktr_units; all_goals (first | (refine fun (h' : Heap) (tk' : Nat) F' N' e1' e2' => ?_; (try k_sweep); (try k_fold)) | (refine fun (e' : Addr) (g' h' : Heap) (tk' : Nat) FG' S' U' e1' => ?_; try dsimp only))))) | (with_reducible (k_here; (with_reducible apply bad_c); k_dflt (walk_at "c8"; ktr_room; ktr_units; k_whole); intro e' d' t' h' tk' F' N' l1'; (try k_lt l1'); (try k_sweep); (try k_fold))) | (with_reducible (k_here; (with_reducible apply iswT_c); k_dflt (walk_at "c8"; (first | with_reducible assumption | omega); (first | with_reducible assumption | omega); ktr_room; ktr_units; k_whole); intro h' tk' F' N'; (try k_sweep); (try k_fold); (try k_sweep); (try k_fold)))) | ((with_reducible show wpAny _ _ (setAttr (Value.ref _) _ _) _ _ _); first | (with_reducible (k_here; k_dflt (refine' set_dict ?k1_q ?k2_q ?k3_q ?k4_q ?k5_q ?k6_q ?k7_q ?k8_q ?k9_q ?k10_q ?k11_q ?k12_q ?k13_q ?_; (case k1_q => k_asm); (case k2_q => k_asm); (case k3_q => k_asm); (case k4_q => k_inst); (case k5_q => exact rfl); (case k6_q => k_is); (case k7_q => k_is); (case k8_q => k_is); (case k9_q => k_is); (case k10_q => k_get); (case k11_q => k_put); (case k12_q => k_upd); (case k13_q => exact Nat.le_of_ble_eq_true rfl); k_whole; intro h' F' N'; (try k_sweep))))) | ((with_reducible show wpAny _ _ (exec (Stmt.Raise _ _ _) _) _ _ _); first | (with_reducible (k_here; with_unfolding_all refine raise_stmt (by rfl) ?_))) | ((with_reducible show wpAny _ _ (eval (Expr.Name _ _) _) _ _ _); first | (with_reducible (k_here; name_kind "globalImplicit"; k_dflt (first | (name_is_builtin; refine' nameX_B ?F_q ?X_q ?T_q ?e_q ?v_q ?n_q ?_ ?a_q ?b_q; (case F_q => k_asm); (case X_q => k_asm); (case T_q => k_asm); (case a_q => rfl); (case b_q => rfl); (case e_q => k_is); (case v_q => boot_fast); (case n_q => decide); k_whole) | (refine' nameX_K ?F_q ?X_q ?T_q ?e_q ?_ ?a_q ?b_q; (case F_q => k_asm); (case X_q => k_asm); (case T_q => k_asm); (case a_q => rfl); (case b_q => rfl); (case e_q => k_is); k_whole)))) | (with_reducible (k_here; name_kind "local"; k_dflt (refine' nameX_L ?F_q ?v_q ?_ ?a_q ?b_q; (case F_q => k_asm); (case a_q => rfl); (case b_q => rfl); (case v_q => rfl); k_whole)))) | (k_unfold; (try dsimp only)) | (k_end; wrow_close) | (walk1; (all_goals (try dsimp only))) | (dsimp only; walk1) | (leave1; try dsimp only)))
  all_goals first
    | (rename RaisedSN base _ _ _ _ _ _ => SS; exact hraise _ _ _ _ (by assumption) (raisedSN_sub SS fun q hq => List.mem_cons_of_mem _ (List.mem_cons_of_mem _ hq)) (by assumption))
    | (exfalso; omega)
set_option maxRecDepth 100000 in
set_option maxHeartbeats 4000000 in
theorem doorF_c {t1 t2 t3 : Tok}
  {A : Around} {vs8 : List Value} (hv8 : vs8 = [.int 0 t1, .int 0 t2, .int 0 t3, .none]) (hA : A.frames = some (envX cn cs L a ccd cl :: outer)) (hh : A.handled = none) (B : Below A₀ base outer h₀) (F : Fr h₀ L s.heap m) (X : (hd.heap_1 w.params).In h₀) (N : News h₀ L s.heap news) (T : Top p loose mean mg mb h₀) (hk : cs.kind = .function)
  (hd : A.depth + 12 < recursionLimit) (hu : A.units + 150 < cLine)
  (hraise : ∀ (e : Addr) (g h' : Heap) (tk' : Nat), Fr h₀ L g m → RaisedSN base g (envX cn cs L a ccd cl :: outer) e (.ref 45) news h' → g.UpToSlots h' → E (.ref e) { s with heap := h', toks := tk' }) :
  wpAny (model PP w) A (call (.ref 208) vs8) Q E s := by
  subst hv8
  refine wp_at_top hA hh ?_
  have kd := ktsDicts_nil (g := s.heap)
  (repeat' (first | ((with_reducible show wpAny _ _ (execs _ _) _ _ _); (fail_if_success (fail_if_success k_fold)); refine foldQ ?_; intro qk ek) | ((with_reducible show wpAny _ _ (exec _ _) _ _ _); (fail_if_success (fail_if_success k_fold)); refine foldQ ?_; intro qk ek; (try (refine foldN (by with_reducible assumption) ?_; intro n9 N9))) | ((with_reducible show wpAny _ _ (leaving _ (Value.ref _)) _ _ _); first | (with_reducible (k_here; (with_reducible rename RaisedSN _ _ _ _ _ _ _ => rs9); k_dflt (refine' leave_onX ?k0_q ?k1_q ?k2_q ?k3_q ?k4_q ?_; (case k0_q => exact rfl); (case k3_q => assumption); (case k2_q => assumption); (case k1_q => assumption); (case k4_q => assumption); k_whole; intro h' S' R' U'; (try dsimp only at S' R' U' ⊢); (try dsimp only [InitBack])))) | (with_reducible (k_here; k_dflt (refine' leave_own ?K_q ?F_q ?N_q ?ne_q ?_ ?hk_q; (case N_q => k_asm); (case F_q => k_asm); (case K_q => k_asm); (case ne_q => k_all); (case hk_q => rfl); k_whole); intro h' S' R' U'; (try dsimp only at S' R' U' ⊢)))) | ((with_reducible show wpAny _ _ (call (Value.ref _) _) _ _ _); first | (with_reducible (k_here; (with_reducible apply dimen_c); k_dflt (walk_at "c8"; ktr_room; ktr_units; all_goals (first | (refine fun (h' : Heap) (tk' : Nat) F' N' e1' e2' => ?_; (try k_sweep); (try k_fold)) | (refine fun (e' : Addr) (g' h' : Heap) (tk' : Nat) FG' S' U' e1' => ?_; try dsimp only))))) | (with_reducible (k_here; (with_reducible apply bad_c); k_dflt (walk_at "c8"; ktr_room; ktr_units; k_whole); intro e' d' t' h' tk' F' N' l1'; (try k_lt l1'); (try k_sweep); (try k_fold))) | (with_reducible (k_here; (with_reducible apply iswT_c); k_dflt (walk_at "c8"; (first | with_reducible assumption | omega); (first | with_reducible assumption | omega); ktr_room; ktr_units; k_whole); intro h' tk' F' N'; (try k_sweep); (try k_fold); (try k_sweep); (try k_fold)))) | ((with_reducible show wpAny _ _ (setAttr (Value.ref _) _ _) _ _ _); first | (with_reducible (k_here; k_dflt (refine' set_dict ?k1_q ?k2_q ?k3_q ?k4_q ?k5_q ?k6_q ?k7_q ?k8_q ?k9_q ?k10_q ?k11_q ?k12_q ?k13_q ?_; (case k1_q => k_asm); (case k2_q => k_asm); (case k3_q => k_asm); (case k4_q => k_inst); (case k5_q => exact rfl); (case k6_q => k_is); (case k7_q => k_is); (case k8_q => k_is); (case k9_q => k_is); (case k10_q => k_get); (case k11_q => k_put); (case k12_q => k_upd); (case k13_q => exact Nat.le_of_ble_eq_true rfl); k_whole; intro h' F' N'; (try k_sweep))))) | ((with_reducible show wpAny _ _ (exec (Stmt.Raise _ _ _) _) _ _ _); first | (with_reducible (k_here; with_unfolding_all refine raise_stmt (by rfl) ?_))) | ((with_reducible show wpAny _ _ (eval (Expr.Name _ _) _) _ _ _); first | (with_reducible (k_here; name_kind "globalImplicit"; k_dflt (first | (name_is_builtin; refine' nameX_B ?F_q ?X_q ?T_q ?e_q ?v_q ?n_q ?_ ?a_q ?b_q; (case F_q => k_asm); (case X_q => k_asm); (case T_q => k_asm); (case a_q => rfl); (case b_q => rfl); (case e_q => k_is); (case v_q => boot_fast); (case n_q => decide); k_whole) | (refine' nameX_K ?F_q ?X_q ?T_q ?e_q ?_ ?a_q ?b_q; (case F_q => k_asm); (case X_q => k_asm); (case T_q => k_asm); (case a_q => rfl); (case b_q => rfl); (case e_q => k_is); k_whole)))) | (with_reducible (k_here; name_kind "local"; k_dflt (refine' nameX_L ?F_q ?v_q ?_ ?a_q ?b_q; (case F_q => k_asm); (case a_q => rfl); (case b_q => rfl); (case v_q => rfl); k_whole)))) | (k_unfold; (try dsimp only)) | (k_end; wrow_close) | (walk1; (all_goals (try dsimp only))) | (dsimp only; walk1) | (leave1; try dsimp only)))
  all_goals first
    | (rename RaisedSN base _ _ _ _ _ _ => SS; exact hraise _ _ _ _ (by assumption) (raisedSN_sub SS fun q hq => List.mem_cons_of_mem _ (List.mem_cons_of_mem _ hq)) (by assumption))
    | (exfalso; omega)
set_option maxRecDepth 100000 in
set_option maxHeartbeats 4000000 in
theorem doorG_c {v : Int} {t1 : Tok}
  {A : Around} {vs8 : List Value} (hv8 : vs8 = [.int v t1]) (hA : A.frames = some (envX cn cs L a ccd cl :: outer)) (hh : A.handled = none) (B : Below A₀ base outer h₀) (F : Fr h₀ L s.heap m) (X : (hd.heap_1 w.params).In h₀) (N : News h₀ L s.heap news) (T : Top p loose mean mg mb h₀) (hk : cs.kind = .function)
  (h : 1073741823 < v)
  (hd : A.depth + 12 < recursionLimit) (hu : A.units + 150 < cLine)
  (hraise : ∀ (e : Addr) (g h' : Heap) (tk' : Nat), Fr h₀ L g m → RaisedSN base g (envX cn cs L a ccd cl :: outer) e (.ref 57) news h' → g.UpToSlots h' → E (.ref e) { s with heap := h', toks := tk' }) :
  wpAny (model PP w) A (call (.ref 208) vs8) Q E s := by
  subst hv8
  refine wp_at_top hA hh ?_
  have kd := ktsDicts_nil (g := s.heap)
  (repeat' (first | ((with_reducible show wpAny _ _ (execs _ _) _ _ _); (fail_if_success (fail_if_success k_fold)); refine foldQ ?_; intro qk ek) | ((with_reducible show wpAny _ _ (exec _ _) _ _ _); (fail_if_success (fail_if_success k_fold)); refine foldQ ?_; intro qk ek; (try (refine foldN (by with_reducible assumption) ?_; intro n9 N9))) | ((with_reducible show wpAny _ _ (leaving _ (Value.ref _)) _ _ _); first | (with_reducible (k_here; (with_reducible rename RaisedSN _ _ _ _ _ _ _ => rs9); k_dflt (refine' leave_onX ?k0_q ?k1_q ?k2_q ?k3_q ?k4_q ?_; (case k0_q => exact rfl); (case k3_q => assumption); (case k2_q => assumption); (case k1_q => assumption); (case k4_q => assumption); k_whole; intro h' S' R' U'; (try dsimp only at S' R' U' ⊢); (try dsimp only [InitBack]))))) | ((with_reducible show wpAny _ _ (call (Value.ref _) _) _ _ _); first | (with_reducible (k_here; (with_reducible apply dimen_c); k_dflt (walk_at "c8"; ktr_room; ktr_units; all_goals (first | (refine fun (h' : Heap) (tk' : Nat) F' N' e1' e2' => ?_; (try k_sweep); (try k_fold)) | (refine fun (e' : Addr) (g' h' : Heap) (tk' : Nat) FG' S' U' e1' => ?_; try dsimp only))))) | (with_reducible (k_here; (with_reducible apply iswT_c); k_dflt (walk_at "c8"; (first | with_reducible assumption | omega); (first | with_reducible assumption | omega); ktr_room; ktr_units; k_whole); intro h' tk' F' N'; (try k_sweep); (try k_fold); (try k_sweep); (try k_fold)))) | ((with_reducible show wpAny _ _ (setAttr (Value.ref _) _ _) _ _ _); first | (with_reducible (k_here; k_dflt (refine' set_dict ?k1_q ?k2_q ?k3_q ?k4_q ?k5_q ?k6_q ?k7_q ?k8_q ?k9_q ?k10_q ?k11_q ?k12_q ?k13_q ?_; (case k1_q => k_asm); (case k2_q => k_asm); (case k3_q => k_asm); (case k4_q => k_inst); (case k5_q => exact rfl); (case k6_q => k_is); (case k7_q => k_is); (case k8_q => k_is); (case k9_q => k_is); (case k10_q => k_get); (case k11_q => k_put); (case k12_q => k_upd); (case k13_q => exact Nat.le_of_ble_eq_true rfl); k_whole; intro h' F' N'; (try k_sweep))))) | ((with_reducible show wpAny _ _ (eval (Expr.Name _ _) _) _ _ _); first | (with_reducible (k_here; name_kind "globalImplicit"; k_dflt (first | (name_is_builtin; refine' nameX_B ?F_q ?X_q ?T_q ?e_q ?v_q ?n_q ?_ ?a_q ?b_q; (case F_q => k_asm); (case X_q => k_asm); (case T_q => k_asm); (case a_q => rfl); (case b_q => rfl); (case e_q => k_is); (case v_q => boot_fast); (case n_q => decide); k_whole) | (refine' nameX_K ?F_q ?X_q ?T_q ?e_q ?_ ?a_q ?b_q; (case F_q => k_asm); (case X_q => k_asm); (case T_q => k_asm); (case a_q => rfl); (case b_q => rfl); (case e_q => k_is); k_whole)))) | (with_reducible (k_here; name_kind "local"; k_dflt (refine' nameX_L ?F_q ?v_q ?_ ?a_q ?b_q; (case F_q => k_asm); (case a_q => rfl); (case b_q => rfl); (case v_q => rfl); k_whole)))) | (k_unfold; (try dsimp only)) | (k_end; wrow_close) | (walk1; (all_goals (try dsimp only))) | (dsimp only; walk1) | (leave1; try dsimp only)))
  all_goals first
    | (rename RaisedSN base _ _ _ _ _ _ => SS; exact hraise _ _ _ _ (by assumption) (raisedSN_sub SS fun q hq => List.mem_cons_of_mem _ (List.mem_cons_of_mem _ hq)) (by assumption))
    | (exfalso; omega)
set_option maxRecDepth 100000 in
set_option maxHeartbeats 4000000 in
theorem doorH_c {v : Int} {t1 t2 : Tok}
  {A : Around} {vs8 : List Value} (hv8 : vs8 = [.int 0 t1, .int v t2]) (hA : A.frames = some (envX cn cs L a ccd cl :: outer)) (hh : A.handled = none) (B : Below A₀ base outer h₀) (F : Fr h₀ L s.heap m) (X : (hd.heap_1 w.params).In h₀) (N : News h₀ L s.heap news) (T : Top p loose mean mg mb h₀) (hk : cs.kind = .function)
  (h : v < -1073741823)
  (hd : A.depth + 12 < recursionLimit) (hu : A.units + 150 < cLine)
  (hraise : ∀ (e : Addr) (g h' : Heap) (tk' : Nat), Fr h₀ L g m → RaisedSN base g (envX cn cs L a ccd cl :: outer) e (.ref 57) news h' → g.UpToSlots h' → E (.ref e) { s with heap := h', toks := tk' }) :
  wpAny (model PP w) A (call (.ref 208) vs8) Q E s := by
  subst hv8
  refine wp_at_top hA hh ?_
  have kd := ktsDicts_nil (g := s.heap)
  (repeat' (first | ((with_reducible show wpAny _ _ (execs _ _) _ _ _); (fail_if_success (fail_if_success k_fold)); refine foldQ ?_; intro qk ek) | ((with_reducible show wpAny _ _ (exec _ _) _ _ _); (fail_if_success (fail_if_success k_fold)); refine foldQ ?_; intro qk ek; (try (refine foldN (by with_reducible assumption) ?_; intro n9 N9))) | ((with_reducible show wpAny _ _ (leaving _ (Value.ref _)) _ _ _); first | (with_reducible (k_here; (with_reducible rename RaisedSN _ _ _ _ _ _ _ => rs9); k_dflt (refine' leave_onX ?k0_q ?k1_q ?k2_q ?k3_q ?k4_q ?_; (case k0_q => exact rfl); (case k3_q => assumption); (case k2_q => assumption); (case k1_q => assumption); (case k4_q => assumption); k_whole; intro h' S' R' U'; (try dsimp only at S' R' U' ⊢); (try dsimp only [InitBack]))))) | ((with_reducible show wpAny _ _ (call (Value.ref _) _) _ _ _); first | (with_reducible (k_here; (with_reducible apply dimen_c); k_dflt (walk_at "c8"; ktr_room; ktr_units; all_goals (first | (refine fun (h' : Heap) (tk' : Nat) F' N' e1' e2' => ?_; (try k_sweep); (try k_fold)) | (refine fun (e' : Addr) (g' h' : Heap) (tk' : Nat) FG' S' U' e1' => ?_; try dsimp only))))) | (with_reducible (k_here; (with_reducible apply iswT_c); k_dflt (walk_at "c8"; (first | with_reducible assumption | omega); (first | with_reducible assumption | omega); ktr_room; ktr_units; k_whole); intro h' tk' F' N'; (try k_sweep); (try k_fold); (try k_sweep); (try k_fold)))) | ((with_reducible show wpAny _ _ (setAttr (Value.ref _) _ _) _ _ _); first | (with_reducible (k_here; k_dflt (refine' set_dict ?k1_q ?k2_q ?k3_q ?k4_q ?k5_q ?k6_q ?k7_q ?k8_q ?k9_q ?k10_q ?k11_q ?k12_q ?k13_q ?_; (case k1_q => k_asm); (case k2_q => k_asm); (case k3_q => k_asm); (case k4_q => k_inst); (case k5_q => exact rfl); (case k6_q => k_is); (case k7_q => k_is); (case k8_q => k_is); (case k9_q => k_is); (case k10_q => k_get); (case k11_q => k_put); (case k12_q => k_upd); (case k13_q => exact Nat.le_of_ble_eq_true rfl); k_whole; intro h' F' N'; (try k_sweep))))) | ((with_reducible show wpAny _ _ (eval (Expr.Name _ _) _) _ _ _); first | (with_reducible (k_here; name_kind "globalImplicit"; k_dflt (first | (name_is_builtin; refine' nameX_B ?F_q ?X_q ?T_q ?e_q ?v_q ?n_q ?_ ?a_q ?b_q; (case F_q => k_asm); (case X_q => k_asm); (case T_q => k_asm); (case a_q => rfl); (case b_q => rfl); (case e_q => k_is); (case v_q => boot_fast); (case n_q => decide); k_whole) | (refine' nameX_K ?F_q ?X_q ?T_q ?e_q ?_ ?a_q ?b_q; (case F_q => k_asm); (case X_q => k_asm); (case T_q => k_asm); (case a_q => rfl); (case b_q => rfl); (case e_q => k_is); k_whole)))) | (with_reducible (k_here; name_kind "local"; k_dflt (refine' nameX_L ?F_q ?v_q ?_ ?a_q ?b_q; (case F_q => k_asm); (case a_q => rfl); (case b_q => rfl); (case v_q => rfl); k_whole)))) | (k_unfold; (try dsimp only)) | (k_end; wrow_close) | (walk1; (all_goals (try dsimp only))) | (dsimp only; walk1) | (leave1; try dsimp only)))
  all_goals first
    | (rename RaisedSN base _ _ _ _ _ _ => SS; exact hraise _ _ _ _ (by assumption) (raisedSN_sub SS fun q hq => List.mem_cons_of_mem _ (List.mem_cons_of_mem _ hq)) (by assumption))
    | (exfalso; omega)
end
end
def topOf (ns : List Int) : Int := if ns.getD 3 0 ≠ 0 then 3 else if ns.getD 2 0 ≠ 0 then 2 else if ns.getD 1 0 ≠ 0 then 1 else 0
inductive L4 (o : Obj) (ns : List Int) : Prop
  | mk (a b c d : Int) (t1 t2 t3 t4 : Tok) (n : Nat) : (ns = [a, b, c, d]) → (o = listOf #[.int a t1, .int b t2, .int c t3, .int d t4] n) → L4 o ns
theorem topOf_ret {v : Int} {tk0 : Tok} {ns : List Int} {h₀ h' : Heap} {L : Addr} {m : Str → Option Value} {news : List (Addr × Obj)} {s : Shared} {tk' : Nat} {Q : Value → Shared → Prop}
  (hret : ∀ (t : Tok) (h' : Heap) (tk' : Nat), Fr h₀ L h' m → News h₀ L h' news → Q (.int (topOf ns) t) { s with heap := h', toks := tk' }) (e : topOf ns = v) (F : Fr h₀ L h' m) (N : News h₀ L h' news) : Q (.int v tk0) { s with heap := h', toks := tk' } := by
  subst e
  exact hret _ _ _ F N
section
variable {w : World} {p : Program} {loose : List Str} {mean : ExcName → Option Value} {mg mb : Str → Option Value}
  {dp un : Nat} {gd : Option (List Code)} {cn : Str} {cs : Scope} {a : Addr} {ccd : Value} {cl : List (Str × Addr)} {outer : List Env} {A₀ : Around} {base h₀ : Heap} {L : Addr} {m : Str → Option Value} {news : List (Addr × Obj)} {s : Shared} {Q E : Value → Shared → Prop}

set_option maxRecDepth 100000 in
set_option maxHeartbeats 4000000 in
theorem top_c {l : Addr} {o : Obj} {ns : List Int}
  {A : Around} {vs8 : List Value} (hv8 : vs8 = [.ref l]) (hA : A.frames = some (envX cn cs L a ccd cl :: outer)) (hh : A.handled = none) (B : Below A₀ base outer h₀) (F : Fr h₀ L s.heap m) (X : (hd.heap_1 w.params).In h₀) (N : News h₀ L s.heap news) (T : Top p loose mean mg mb h₀) (hk : cs.kind = .function)
  (hm : (l, o) ∈ news) (ho : L4 o ns)
  (hd : A.depth + 2 < recursionLimit) (hu : A.units + 20 < cLine)
  (hret : ∀ (t : Tok) (h' : Heap) (tk' : Nat), Fr h₀ L h' m → News h₀ L h' news → Q (.int (topOf ns) t) { s with heap := h', toks := tk' }) :
  wpAny (model PP w) A (call (.ref 219) vs8) Q E s := by
  subst hv8
  refine wp_at_top hA hh ?_
  refine cps ?_; intro Q9 hQ9; obtain ⟨a0, a1, a2, a3, t1, t2, t3, t4, n, eq91, eq92⟩ := ho; refine hQ9 ?_; clear hQ9 Q9; subst eq91; subst eq92
  refine cps ?_; intro Q9 hQ9; obtain ⟨rest, r1, r2, hj⟩ := rest_of [(l, listOf #[.int a0 t1, .int a1 t2, .int a2 t3, .int a3 t4] n)] N (List.forall_mem_cons.mpr ⟨hm, List.forall_mem_nil _⟩); refine hQ9 ?_; clear hQ9 Q9
  refine wpAny_call ?_
  k_dflt (refine' code_part (ex := [(l, listOf #[.int a0 t1, .int a1 t2, .int a2 t3, .int a3 t4] n)]) (rest := rest) ?hx ?hr ?hf ?k1 ?k2 ?k3 ?k4 ?k5 ?kA ?kF ?kK ?k6 ?k7 ?k8 ?k9 ?kB ?_ ?c2 ?c3 ?c4 ?c5; (case hx => (exact List.forall_mem_cons.mpr ⟨hm, List.forall_mem_nil _⟩)); (case hr => (exact r1)); (case hf => (exact r2)); (case kA => exact rfl); (case kF => exact rfl); (case kK => assumption); (case k1 => k_asm); (case k2 => k_asm); (case k3 => k_asm); (case k4 => k_asm); (case k5 => k_asm); (case k6 => k_is); (case k7 => k_is); (case k8 => ktr_room); (case k9 => first | exact BindsTo.of_eq rfl | exact binds_K (by k_in) rfl (by k_is) rfl rfl rfl); (case c5 => decide); (case kB => exact locs rfl); (case c2 => exact rfl); (case c3 => exact rfl); (case c4 => exact rfl); k_whole; intro g' L' h' FG' F' N' B' X' T' l1'; (try k_lt l1'); (try k_lift B'); (refine foldM F' ?_; clear F'; intro m9 F'); (try first | (with_reducible refine foldA ?_; intro A9 d9 u9) | (with_reducible refine foldAu ?_; intro A9 d9 u9)); (try (refine foldE ?_; intro e9)); (try k_unmd); (try (refine foldQ ?_; intro qk ek)); (try dsimp only))
  (repeat' (first | ((with_reducible show wpAny _ _ (execs _ _) _ _ _); (fail_if_success (fail_if_success k_fold)); refine foldQ ?_; intro qk ek) | ((with_reducible show wpAny _ _ (exec _ _) _ _ _); (fail_if_success (fail_if_success k_fold)); refine foldQ ?_; intro qk ek; (try (refine foldN (by with_reducible assumption) ?_; intro n9 N9))) | ((with_reducible show wpAny _ _ (newTuple _) _ _ _); first | (with_reducible (k_here; k_dflt (refine' newTuple_V ?F_q ?N_q ?_ ?z_q; (case F_q => k_asm); (case N_q => k_asm); (case z_q => kmk_size)); intro D' h' o' n' F' N' l1; (try k_lt l1); (try k_sweep)))) | ((with_reducible show wpAny _ _ (storeName _ _ _) _ _ _); first | (with_reducible (k_here; k_dflt (refine' storeX_V ?F_q ?N_q ?_ ?a_q ?b_q; (case F_q => k_asm); (case N_q => k_asm); (case a_q => rfl); (case b_q => rfl); k_whole; intro h' tk' m' F' N'; (try k_sweep))))) | ((with_reducible show wpAny _ _ (eval (Expr.Name _ _) _) _ _ _); first | (with_reducible (k_here; name_kind "globalImplicit"; k_dflt (first | (name_is_builtin; refine' nameX_B ?F_q ?X_q ?T_q ?e_q ?v_q ?n_q ?_ ?a_q ?b_q; (case F_q => k_asm); (case X_q => k_asm); (case T_q => k_asm); (case a_q => rfl); (case b_q => rfl); (case e_q => k_is); (case v_q => boot_fast); (case n_q => decide); k_whole) | (refine' nameX_K ?F_q ?X_q ?T_q ?e_q ?_ ?a_q ?b_q; (case F_q => k_asm); (case X_q => k_asm); (case T_q => k_asm); (case a_q => rfl); (case b_q => rfl); (case e_q => k_is); k_whole)))) | (with_reducible (k_here; name_kind "local"; k_dflt (refine' nameX_L ?F_q ?v_q ?_ ?a_q ?b_q; (case F_q => k_asm); (case a_q => rfl); (case b_q => rfl); (case v_q => rfl); k_whole)))) | (k_unfold; (try dsimp only)) | (k_end; wrow_close) | (walk1; (all_goals (try dsimp only))) | (dsimp only; walk1) | (leave1; try dsimp only)))
  all_goals (rename Fr h₀ L _ m => FF; rename News h₀ L _ rest => N2; rename News h₀ L _ (_ :: _) => NN; refine topOf_ret hret ?_ FF (hj _ (fun q hq => by rw [List.mem_singleton.mp hq]; exact NN _ (by k_mem)) N2); unfold topOf; simp_all)
end
open PyProof.Rows.LCg
section
/-- how a turn of a for ends; the ground may be another than before -/
def ForEnd (Rl : Heap → Prop) (L : Addr) (s₁ : Shared) (I : Addr) (oI : Obj) (S : List (Addr × Obj) → Prop) (rest : (Str → Option Value) → Heap → List (Addr × Obj) → Prop) (Q : Flow → Shared → Prop) (f : Flow) (s₂ : Shared) : Prop :=
  match f with
  | .ret v => Q (.ret v) s₂
  | .brk => Q .next s₂
  | _ => ∃ g' h' tk m' news', Rl g' ∧ s₂ = { s₁ with heap := h', toks := tk } ∧ Fr g' L h' m' ∧ News g' L h' ((I, oI) :: news') ∧ (∀ p ∈ news', p.1 ≠ I) ∧ S news' ∧ rest m' g' news'
def ForX (prog : Program) (w : World) (A : Around) (E : Value → Shared → Prop) (Rl : Heap → Prop) (env : Env) (target : Expr) (body : List Stmt) (Q : Flow → Shared → Prop) (s : Shared) (S : List (Addr × Obj) → Prop) : List Value → (Str → Option Value) → Heap → List (Addr × Obj) → Prop
  | [], m, g, news => ∀ h tk, Fr g env.locals h m → News g env.locals h news → Q .next { s with heap := h, toks := tk }
  | v :: vs, m, g, news => ∀ I oI h tk, Fr g env.locals h m → News g env.locals h ((I, oI) :: news) → (∀ p ∈ news, p.1 ≠ I) →
      wpAny (model prog w) A (assign target env v) (fun _ s₁ => wpAny (model prog w) A (execs body env) (ForEnd Rl env.locals { s with heap := h, toks := tk } I oI S (fun m' g' news' => ForX prog w A E Rl env target body Q s S vs m' g' news') Q) E s₁) E { s with heap := h, toks := tk }
variable {prog : Program} {w : World} {A : Around} {E : Value → Shared → Prop} {s : Shared} {env : Env} {h₀ : Heap} {target : Expr} {body : List Stmt} {Q : Flow → Shared → Prop} {Rl : Heap → Prop} {m : Str → Option Value} {news : List (Addr × Obj)} {S : List (Addr × Obj) → Prop}
theorem forX_loop {R : Result → Shared → Prop} {I : Addr} {fp : List Addr} {its : List Value} {St : Nat → Heap → Prop} (W : Walks prog w A I fp [I] its.length (fun i v => its[i]? = some v) St)
    (hIo : ∀ i h, St i h → ∃ o, h.get? I = some o)
    (hSt : ∀ i h h' o nw h₁, St i h → h.get? I = some o → h'.get? I = some o → News h₁ env.locals h' nw → S nw → St i h')
    (hgo : ∀ i v (s' : Shared) (Q' : Unit → Shared → Prop) (E' : Value → Shared → Prop), St i s'.heap → Q' () s' → wpAny (model prog w) A (letOwnedTupleGo target (.ref I) v) Q' E' s')
    (hLI : env.locals ≠ I) (hI₀ : h₀.get? I = none) (hRl : ∀ h₁, Rl h₁ → ∀ b, h₀.get? b = none → h₁.get? b = none) (hR0 : Rl h₀)
    (hst : St 0 s.heap) (F : Fr h₀ env.locals s.heap m) (N : News h₀ env.locals s.heap news) (off : ∀ p ∈ news, p.1 ≠ I) (hS : S news)
    (hE : ∀ e s', E e s' → notedBy (model prog w) A env (fun e s' => R (.error e) s') e s') (hQ : ∀ f s', Q f s' → R (.ok f) s')
    (X : ForX prog w A E Rl env target body Q s S its m h₀ news) :
    codeAny (model prog w) A (.forLoop target (.ref I) body [] env) R s := by
  obtain ⟨J, Ji, Je⟩ : ∃ J : Nat → Shared → Prop, (∀ g h' tk m' nw i, Rl g → St i h' → Fr g env.locals h' m' → News g env.locals h' nw → (∀ p ∈ nw, p.1 ≠ I) → S nw → i ≤ its.length → ForX prog w A E Rl env target body Q s S (its.drop i) m' g nw → J (its.length + 1 - i) { s with heap := h', toks := tk }) ∧ (∀ T : Nat → Shared → Prop, (∀ g h' tk m' nw i, Rl g → St i h' → Fr g env.locals h' m' → News g env.locals h' nw → (∀ p ∈ nw, p.1 ≠ I) → S nw → i ≤ its.length → ForX prog w A E Rl env target body Q s S (its.drop i) m' g nw → T (its.length + 1 - i) { s with heap := h', toks := tk }) → ∀ k s', J k s' → T k s') :=
    ⟨fun k s' => ∀ T : Nat → Shared → Prop, (∀ g h' tk m' nw i, Rl g → St i h' → Fr g env.locals h' m' → News g env.locals h' nw → (∀ p ∈ nw, p.1 ≠ I) → S nw → i ≤ its.length → ForX prog w A E Rl env target body Q s S (its.drop i) m' g nw → T (its.length + 1 - i) { s with heap := h', toks := tk }) → T k s', fun g h' tk m' nw i a1 a2 a3 a4 a5 a6 a7 a8 T t => t g h' tk m' nw i a1 a2 a3 a4 a5 a6 a7 a8, fun T t k s' j => j T t⟩
  refine codeAny_forLoop_any J ?_ (its.length + 1) (Ji h₀ s.heap s.toks m news 0 hR0 hst F N off hS (Nat.zero_le _) (by rw [List.drop_zero]; exact X))
  refine Je _ ?_
  intro g h' tk m' nw i hg st F' N' off' hS' hi X'
  have gI := hRl g hg I hI₀
  by_cases hlt : i < its.length
  · rw [List.drop_eq_getElem_cons hlt] at X'
    refine W.item i _ _ _ hlt st fun v h₂ tk₂ hP st₂ hk₂ => ?_
    have hv : its[i] = v := by rw [List.getElem?_eq_getElem hlt] at hP; exact Option.some.inj hP
    subst hv
    refine hgo _ _ _ _ _ st₂ ?_
    obtain ⟨oI, eI⟩ := hIo _ _ st₂
    have F₂ := fr_but F' hk₂ hLI gI
    have N₂ : News g env.locals h₂ ((I, oI) :: nw) := fun p hp => by
      rcases List.mem_cons.mp hp with rfl | hp
      · exact ⟨eI, Ne.symm hLI, gI⟩
      · exact news_but N' hk₂ off' p hp
    refine wpAny_mono (X' I oI h₂ tk₂ F₂ N₂ off') (fun _ s₃ q₃ => wpAny_mono q₃ (fun f s₄ q₄ => ?_) fun _ _ e => hE _ _ e) fun _ _ e => hE _ _ e
    cases f with
    | ret v => exact hQ _ _ q₄
    | brk => exact hQ _ _ q₄
    | cont =>
      refine cps ?_; intro Q9 hQ9; obtain ⟨g₅, h₅, tk₅, m₅, nw₅, hg₅, eq91, F₅, N₅, off₅, hS₅, X₅⟩ := q₄; refine hQ9 ?_; clear hQ9 Q9; subst eq91
      exact ⟨its.length + 1 - (i + 1), Nat.sub_lt_sub_left (Nat.lt_succ_of_lt hlt) (Nat.lt_succ_self i), Ji g₅ h₅ tk₅ m₅ nw₅ (i + 1) hg₅ (hSt _ _ _ _ _ g₅ st₂ eI (N₅ _ (.head _)).1 (fun p hp => N₅ p (.tail _ hp)) hS₅) F₅ (fun p hp => N₅ p (.tail _ hp)) off₅ hS₅ hlt X₅⟩
    | next =>
      refine cps ?_; intro Q9 hQ9; obtain ⟨g₅, h₅, tk₅, m₅, nw₅, hg₅, eq91, F₅, N₅, off₅, hS₅, X₅⟩ := q₄; refine hQ9 ?_; clear hQ9 Q9; subst eq91
      exact ⟨its.length + 1 - (i + 1), Nat.sub_lt_sub_left (Nat.lt_succ_of_lt hlt) (Nat.lt_succ_self i), Ji g₅ h₅ tk₅ m₅ nw₅ (i + 1) hg₅ (hSt _ _ _ _ _ g₅ st₂ eI (N₅ _ (.head _)).1 (fun p hp => N₅ p (.tail _ hp)) hS₅) F₅ (fun p hp => N₅ p (.tail _ hp)) off₅ hS₅ hlt X₅⟩
  · obtain rfl : i = its.length := Nat.le_antisymm hi (Nat.not_lt.mp hlt)
    rw [List.drop_length] at X'
    refine W.done _ _ _ st fun h₂ tk₂ hk₂ => wpAny_execs_nil ?_
    exact hQ _ _ (X' h₂ tk₂ (fr_but F' hk₂ hLI gI) (news_but N' hk₂ off'))
def SrcF (prog : Program) (w : World) (A : Around) (E : Value → Shared → Prop) (ty : String) (Rl : Heap → Prop) (h₀ : Heap) (env : Env) (target : Expr) (body : List Stmt) (Q : Flow → Shared → Prop) (xv : Value) (s₁ : Shared) : Prop :=
  ∃ ax its m news, xv = .ref ax ∧ Fr h₀ env.locals s₁.heap m ∧ News h₀ env.locals s₁.heap news ∧ SeqAt ty ax its.toArray news ∧
    ∀ s₂ : Shared, (∃ h, s₂ = { s₁ with heap := h }) → ForX prog w A E Rl env target body Q s₂ (SeqAt ty ax its.toArray) its m h₀ news
theorem SrcF.mk {ty : String} {ax : Addr} {its : List Value} {k : Nat} {s₁ : Shared} (F : Fr h₀ env.locals s₁.heap m) (N : News h₀ env.locals s₁.heap news) (hm : (ax, ({ cls := .type ty, data := .seq its.toArray k } : Obj)) ∈ news)
    (h : ∀ g, ForX prog w A E Rl env target body Q { s₁ with heap := g } (SeqAt ty ax its.toArray) its m h₀ news) : SrcF prog w A E ty Rl h₀ env target body Q (.ref ax) s₁ :=
  ⟨ax, its, m, news, rfl, F, N, ⟨_, hm, rfl, _, rfl⟩, fun _ ⟨g, e⟩ => e ▸ h g⟩
theorem For_listX {iter : Expr} {pos : Pos} (_F : Fr h₀ env.locals s.heap m) (hh : A.handled = none) (hRl : ∀ h₁, Rl h₁ → ∀ b, h₀.get? b = none → h₁.get? b = none) (hR0 : Rl h₀)
    (h : wpAny (model prog w) A (eval iter env) (SrcF prog w A E "list" Rl h₀ env target body Q) E s)
    (hs : ∀ x, foldedSetIterable iter env x = pure x := by intro _; rfl) (hE : PassesOwn (model prog w) A env E := by passes_own) :
    wpAny (model prog w) A (exec (.For target iter body [] pos) env) Q E s := by
  refine wpAny_For (wpAny_mono h (fun xv s₁ h₁ => ?_) fun _ _ e => e) hs
  refine cps ?_; intro Q9 hQ9; obtain ⟨ax, its, m, news, eq91, F, N, ⟨o, ho, hc, k, hd⟩, X⟩ := h₁; refine hQ9 ?_; clear hQ9 Q9; subst eq91
  have hl : s₁.heap.IsList ax its.toArray := ⟨o, (N _ ho).1, hc, k, hd⟩
  have hlt : ax < s₁.heap.objs.size := Heap.lt_size (N _ ho).1
  refine wpAny_pyIter_list hl ?_
  have up : ∀ b o, s₁.heap.get? b = some o → (s₁.heap.push { cls := .type "list_iterator", data := .fields #[.ref ax, .int 0 0] }).get? b = some o := fun b o e => Heap.get?_push_of_some _ e
  have W := Walks.list (prog := prog) (w := w) hh s₁.heap.objs.size ax (Nat.ne_of_lt hlt) its.toArray
  have W' : Walks prog w A s₁.heap.objs.size [s₁.heap.objs.size, ax] [s₁.heap.objs.size] its.length (fun i v => its[i]? = some v) (fun i h => h.IsListIter s₁.heap.objs.size ax i ∧ h.IsList ax its.toArray) := by
    simpa using W
  refine forX_loop (R := fun r s' => match r with | .ok f => Q f s' | .error e => cameBackBy (model prog w) A env E e s') (Rl := Rl) (S := SeqAt "list" ax its.toArray) W' (fun i h st => by obtain ⟨o, e, _⟩ := st.1; exact ⟨o, e⟩) ?_ (fun i v s' Q' E' st hq => letGo_listiter st.1 hq)
    (Nat.ne_of_lt F.ns.lt) (next_is_new F) hRl hR0 ⟨⟨_, Heap.get?_push_size _ rfl, rfl, rfl⟩, ⟨o, up _ _ (N _ ho).1, hc, k, hd⟩⟩ (F.keeps up) (N.grown up) (fun p hp => Nat.ne_of_lt (Heap.lt_size (N p hp).1)) ⟨o, ho, hc, k, hd⟩ hE (fun _ _ q => q) (X _ ⟨_, rfl⟩)
  rintro i h h' o' nw g st e e' N' ⟨o'', hm, hc'', k'', hd''⟩
  exact ⟨by obtain ⟨o', q, r⟩ := st.1; rw [e] at q; cases q; exact ⟨_, e', r⟩, ⟨o'', (N' _ hm).1, hc'', k'', hd''⟩⟩
theorem For_tupX {iter : Expr} {pos : Pos} (_F : Fr h₀ env.locals s.heap m) (hh : A.handled = none) (hRl : ∀ h₁, Rl h₁ → ∀ b, h₀.get? b = none → h₁.get? b = none) (hR0 : Rl h₀)
    (h : wpAny (model prog w) A (eval iter env) (SrcF prog w A E "tuple" Rl h₀ env target body Q) E s)
    (hs : ∀ x, foldedSetIterable iter env x = pure x := by intro _; rfl) (hE : PassesOwn (model prog w) A env E := by passes_own) :
    wpAny (model prog w) A (exec (.For target iter body [] pos) env) Q E s := by
  refine wpAny_For (wpAny_mono h (fun xv s₁ h₁ => ?_) fun _ _ e => e) hs
  refine cps ?_; intro Q9 hQ9; obtain ⟨ax, its, m, news, eq91, F, N, ⟨o, ho, hc, k, hd⟩, X⟩ := h₁; refine hQ9 ?_; clear hQ9 Q9; subst eq91
  have hl : s₁.heap.IsTuple ax its.toArray := ⟨o, (N _ ho).1, hc, k, hd⟩
  have hlt : ax < s₁.heap.objs.size := Heap.lt_size (N _ ho).1
  refine wpAny_pyIter_tuple hl ?_
  have up : ∀ b o, s₁.heap.get? b = some o → (s₁.heap.push { cls := .type "tuple_iterator", data := .fields #[.ref ax, .int 0 0] }).get? b = some o := fun b o e => Heap.get?_push_of_some _ e
  have W := Walks.tuple (prog := prog) (w := w) hh s₁.heap.objs.size ax (Nat.ne_of_lt hlt) its.toArray
  have W' : Walks prog w A s₁.heap.objs.size [s₁.heap.objs.size, ax] [s₁.heap.objs.size] its.length (fun i v => its[i]? = some v) (fun i h => h.IsTupleIter s₁.heap.objs.size ax i ∧ h.IsTuple ax its.toArray) := by
    simpa using W
  refine forX_loop (R := fun r s' => match r with | .ok f => Q f s' | .error e => cameBackBy (model prog w) A env E e s') (Rl := Rl) (S := SeqAt "tuple" ax its.toArray) W' (fun i h st => by obtain ⟨o, e, _⟩ := st.1; exact ⟨o, e⟩) ?_ (fun i v s' Q' E' st hq => letGo_tupleiter st.1 hq)
    (Nat.ne_of_lt F.ns.lt) (next_is_new F) hRl hR0 ⟨⟨_, Heap.get?_push_size _ rfl, rfl, rfl⟩, ⟨o, up _ _ (N _ ho).1, hc, k, hd⟩⟩ (F.keeps up) (N.grown up) (fun p hp => Nat.ne_of_lt (Heap.lt_size (N p hp).1)) ⟨o, ho, hc, k, hd⟩ hE (fun _ _ q => q) (X _ ⟨_, rfl⟩)
  rintro i h h' o' nw g st e e' N' ⟨o'', hm, hc'', k'', hd''⟩
  exact ⟨by obtain ⟨o', q, r⟩ := st.1; rw [e] at q; cases q; exact ⟨_, e', r⟩, ⟨o'', (N' _ hm).1, hc'', k'', hd''⟩⟩
end
inductive TotD (P : Params) (su sd : Addr) (n : Int) (o : Obj) : Prop
  | mk (k1 k2 k3 t : Tok) : (o = dictOf [⟨PyData.keyHash P (Str.ofString "natural"), .str (Str.ofString "natural") k1, .int n t⟩, ⟨PyData.keyHash P (Str.ofString "stretch"), .str (Str.ofString "stretch") k2, .ref su⟩, ⟨PyData.keyHash P (Str.ofString "shrink"), .str (Str.ofString "shrink") k3, .ref sd⟩] 3) → TotD P su sd n o
theorem totD_mk {P : Params} {su sd : Addr} {n : Int} {k1 k2 k3 t : Tok} : TotD P su sd n (dictOf [⟨PyData.keyHash P (Str.ofString "natural"), .str (Str.ofString "natural") k1, .int n t⟩, ⟨PyData.keyHash P (Str.ofString "stretch"), .str (Str.ofString "stretch") k2, .ref su⟩,
  ⟨PyData.keyHash P (Str.ofString "shrink"), .str (Str.ofString "shrink") k3, .ref sd⟩] 3) := ⟨_, _, _, _, rfl⟩
theorem l4_mk {a b c d : Int} {t1 t2 t3 t4 : Tok} {n : Nat} : L4 (listOf #[.int a t1, .int b t2, .int c t3, .int d t4] n) [a, b, c, d] := ⟨_, _, _, _, _, _, _, _, _, rfl, rfl⟩
theorem news_four {h₀ h : Heap} {L : Addr} {a b c d : Addr × Obj} {l : List (Addr × Obj)} (N : News h₀ L h (d :: c :: a :: b :: l)) : News h₀ L h (a :: b :: c :: d :: l) := fun q hq => by
  simp only [List.mem_cons] at hq
  rcases hq with rfl | rfl | rfl | rfl | hq
  · exact N _ (.tail _ (.tail _ (.head _)))
  · exact N _ (.tail _ (.tail _ (.tail _ (.head _))))
  · exact N _ (.tail _ (.head _))
  · exact N _ (.head _)
  · exact N _ (.tail _ (.tail _ (.tail _ (.tail _ hq))))
section
variable {w : World} {p : Program} {loose : List Str} {mean : ExcName → Option Value} {mg mb : Str → Option Value}
  {dp un : Nat} {gd : Option (List Code)} {cn : Str} {cs : Scope} {a : Addr} {ccd : Value} {cl : List (Str × Addr)} {outer : List Env} {A₀ : Around} {base h₀ : Heap} {L : Addr} {m : Str → Option Value} {news : List (Addr × Obj)} {s : Shared} {Q E : Value → Shared → Prop}

section
local macro_rules | `(tactic| k_all) => `(tactic| assumption)
set_option maxRecDepth 100000 in
set_option maxHeartbeats 4000000 in
theorem tnew_c
  {A : Around} {vs8 : List Value} (hv8 : vs8 = []) (hA : A.frames = some (envX cn cs L a ccd cl :: outer)) (hh : A.handled = none) (B : Below A₀ base outer h₀) (F : Fr h₀ L s.heap m) (X : (hd.heap_1 w.params).In h₀) (N : News h₀ L s.heap news) (T : Top p loose mean mg mb h₀) (hk : cs.kind = .function)
  (hd : A.depth + 5 < recursionLimit) (hu : A.units + 50 < cLine)
  (hret : ∀ (x dx su sd : Addr) (o ou od : Obj) (h' : Heap) (tk' : Nat), Fr h₀ L h' m → News h₀ L h' ((x, instObj 271 dx) :: (dx, o) :: (su, ou) :: (sd, od) :: news) → (∀ p ∈ news, p.1 < dx) → @LT.lt Nat _ dx x → @LT.lt Nat _ x su → @LT.lt Nat _ su sd → TotD w.params su sd 0 o → L4 ou [0, 0, 0, 0] → L4 od [0, 0, 0, 0] → Q (.ref x) { s with heap := h', toks := tk' }) :
  wpAny (model PP w) A (call (.ref 271) vs8) Q E s := by
  subst hv8
  refine wp_at_top hA hh ?_
  (repeat' (first | ((with_reducible show wpAny _ _ (execs _ _) _ _ _); (fail_if_success (fail_if_success k_fold)); refine foldQ ?_; intro qk ek) | ((with_reducible show wpAny _ _ (exec _ _) _ _ _); (fail_if_success (fail_if_success k_fold)); refine foldQ ?_; intro qk ek; (try (refine foldN (by with_reducible assumption) ?_; intro n9 N9))) | ((with_reducible show wpAny _ _ (setAttr (Value.ref _) _ _) _ _ _); first | (with_reducible (k_here; k_dflt (refine' set_dict ?k1_q ?k2_q ?k3_q ?k4_q ?k5_q ?k6_q ?k7_q ?k8_q ?k9_q ?k10_q ?k11_q ?k12_q ?k13_q ?_; (case k1_q => k_asm); (case k2_q => k_asm); (case k3_q => k_asm); (case k4_q => k_inst); (case k5_q => exact rfl); (case k6_q => k_is); (case k7_q => k_is); (case k8_q => k_is); (case k9_q => k_is); (case k10_q => k_get); (case k11_q => k_put); (case k12_q => k_upd); (case k13_q => exact Nat.le_of_ble_eq_true rfl); k_whole; intro h' F' N'; (try k_sweep))))) | ((with_reducible show wpAny _ _ (newList _) _ _ _); first | (with_reducible (k_here; k_dflt (refine' newList_V ?F_q ?N_q ?_ ?z_q; (case F_q => k_asm); (case N_q => k_asm); (case z_q => size_fits)); intro D' h' o' n' F' N' l1; (try k_lt l1); (try k_sweep)))) | ((with_reducible show wpAny _ _ (eval (Expr.Name _ _) _) _ _ _); first | (with_reducible (k_here; name_kind "local"; k_dflt (refine' nameX_L ?F_q ?v_q ?_ ?a_q ?b_q; (case F_q => k_asm); (case a_q => rfl); (case b_q => rfl); (case v_q => rfl); k_whole)))) | (k_unfold; (try dsimp only)) | (k_end; wrow_close) | (walk1; (all_goals (try dsimp only))) | (dsimp only; walk1) | (leave1; try dsimp only)))
  rename Fr h₀ L _ m => FF; rename News h₀ L _ _ => NN
  refine hret _ _ _ _ _ _ _ _ _ FF (news_four NN) (by assumption) (by first | assumption | omega) ?_ ?_ totD_mk l4_mk l4_mk
  · show @LT.lt Nat _ _ _; omega
  · show @LT.lt Nat _ _ _; omega
end
end
theorem news_copy {h₀ h : Heap} {L : Addr} {a b c d e f : Addr × Obj} {l : List (Addr × Obj)} (N : News h₀ L h (d :: c :: a :: b :: e :: f :: l)) : News h₀ L h (a :: b :: c :: d :: l) := fun q hq => by
  simp only [List.mem_cons] at hq
  rcases hq with rfl | rfl | rfl | rfl | hq
  · exact N _ (.tail _ (.tail _ (.head _)))
  · exact N _ (.tail _ (.tail _ (.tail _ (.head _))))
  · exact N _ (.tail _ (.head _))
  · exact N _ (.head _)
  · exact N _ (.tail _ (.tail _ (.tail _ (.tail _ (.tail _ (.tail _ hq))))))
section
variable {w : World} {p : Program} {loose : List Str} {mean : ExcName → Option Value} {mg mb : Str → Option Value}
  {dp un : Nat} {gd : Option (List Code)} {cn : Str} {cs : Scope} {a : Addr} {ccd : Value} {cl : List (Str × Addr)} {outer : List Env} {A₀ : Around} {base h₀ : Heap} {L : Addr} {m : Str → Option Value} {news : List (Addr × Obj)} {s : Shared} {Q E : Value → Shared → Prop}

section
local macro_rules | `(tactic| k_all) => `(tactic| assumption)
set_option maxRecDepth 100000 in
set_option maxHeartbeats 4000000 in
theorem tcopy_c {x dx su sd : Addr} {n : Int} {o ou od : Obj} {us ds : List Int}
  {A : Around} {vs8 : List Value} (hv8 : vs8 = [.ref x]) (hA : A.frames = some (envX cn cs L a ccd cl :: outer)) (hh : A.handled = none) (B : Below A₀ base outer h₀) (F : Fr h₀ L s.heap m) (X : (hd.heap_1 w.params).In h₀) (N : News h₀ L s.heap news) (T : Top p loose mean mg mb h₀) (hk : cs.kind = .function)
  (hm1 : (x, instObj 271 dx) ∈ news) (hm2 : (dx, o) ∈ news) (hg : TotD w.params su sd n o) (hm3 : (su, ou) ∈ news) (hm4 : (sd, od) ∈ news) (hu4 : L4 ou us) (hd4 : L4 od ds)
  (hd : A.depth + 8 < recursionLimit) (hu : A.units + 80 < cLine)
  (hret : ∀ (x dx su sd : Addr) (o ou od : Obj) (h' : Heap) (tk' : Nat), Fr h₀ L h' m → News h₀ L h' ((x, instObj 271 dx) :: (dx, o) :: (su, ou) :: (sd, od) :: news) → (∀ p ∈ news, p.1 < dx) → @LT.lt Nat _ dx x → @LT.lt Nat _ x su → @LT.lt Nat _ su sd → TotD w.params su sd n o → L4 ou us → L4 od ds → Q (.ref x) { s with heap := h', toks := tk' }) :
  wpAny (model PP w) A (call (.ref 268) vs8) Q E s := by
  subst hv8
  refine wp_at_top hA hh ?_
  have hg' := hg
  refine cps ?_; intro Q9 hQ9; obtain ⟨a0, a1, a2, a3, t1, t2, t3, t4, n1, eq91, eq92⟩ := hu4; refine hQ9 ?_; clear hQ9 Q9; subst eq91; subst eq92
  refine cps ?_; intro Q9 hQ9; obtain ⟨b0, b1, b2, b3, r1, r2, r3, r4, n2, eq91, eq92⟩ := hd4; refine hQ9 ?_; clear hQ9 Q9; subst eq91; subst eq92
  refine cps ?_; intro Q9 hQ9; obtain ⟨k1, k2, k3, t, eq91⟩ := hg; refine hQ9 ?_; clear hQ9 Q9; subst eq91
  refine wpAny_call ?_
  k_dflt ((refine' code_def ?k1_q ?k2_q ?k3_q ?k4_q ?k5_q ?kA_q ?kF_q ?kK_q ?k6_q ?k7_q ?k8_q ?k9_q ?kB_q ?_ ?c2_q ?c3_q ?c4_q ?c5_q; (case kA_q => exact rfl); (case kF_q => exact rfl); (case kK_q => first | exact rfl | assumption); (case k1_q => k_asm); (case k2_q => k_asm); (case k3_q => k_asm); (case k4_q => k_asm); (case k5_q => k_asm); (case k6_q => k_is); (case k7_q => k_is); (case k8_q => k_room); (case k9_q => first | exact BindsTo.of_eq rfl | exact binds_K (by k_in) rfl (by k_is) rfl rfl rfl); (case c5_q => decide); (case kB_q => exact locs rfl); (case c2_q => exact rfl); (case c3_q => exact rfl); (case c4_q => exact rfl); k_whole; intro g' L' h' FG' F' N' B' X' T'; (try k_lift B'); (refine foldM F' ?_; clear F'; intro m9 F'); (try first | (with_reducible refine foldA ?_; intro A9 d9 u9) | (with_reducible refine foldAu ?_; intro A9 d9 u9)); (try (refine foldE ?_; intro e9)); (try k_unmd); (try (refine foldQ ?_; intro qk ek)); (try dsimp only)))
  (repeat' (first | ((with_reducible show wpAny _ _ (execs _ _) _ _ _); (fail_if_success (fail_if_success k_fold)); refine foldQ ?_; intro qk ek) | ((with_reducible show wpAny _ _ (exec _ _) _ _ _); (fail_if_success (fail_if_success k_fold)); refine foldQ ?_; intro qk ek; (try (refine foldN (by with_reducible assumption) ?_; intro n9 N9))) | ((with_reducible show wpAny _ _ (call (Value.ref _) _) _ _ _); first | (with_reducible (k_here; (with_reducible apply tnew_c); k_dflt (walk_at "c8"; ktr_room; ktr_units; k_whole); intro x' dx' su' sd' o' ou' od' h' tk' F' N' l1' l2' l3' l4' T' U1' U2'; k_dflt (obtain ⟨k1', k2', k3', t1', eo'⟩ := T'; subst eo'); (try k_lt l1'); (try k_lt2 l2'); (try k_sweep); (try k_fold); (try k_sweep); (try k_fold)))) | ((with_reducible show wpAny _ _ (setAttr (Value.ref _) _ _) _ _ _); first | (with_reducible (k_here; k_dflt (refine' set_dict ?k1_q ?k2_q ?k3_q ?k4_q ?k5_q ?k6_q ?k7_q ?k8_q ?k9_q ?k10_q ?k11_q ?k12_q ?k13_q ?_; (case k1_q => k_asm); (case k2_q => k_asm); (case k3_q => k_asm); (case k4_q => k_inst); (case k5_q => exact rfl); (case k6_q => k_is); (case k7_q => k_is); (case k8_q => k_is); (case k9_q => k_is); (case k10_q => k_get); (case k11_q => k_put); (case k12_q => k_upd); (case k13_q => exact Nat.le_of_ble_eq_true rfl); k_whole; intro h' F' N'; (try k_sweep))))) | ((with_reducible show wpAny _ _ (storeName _ _ _) _ _ _); first | (with_reducible (k_here; k_dflt (refine' storeX_V ?F_q ?N_q ?_ ?a_q ?b_q; (case F_q => k_asm); (case N_q => k_asm); (case a_q => rfl); (case b_q => rfl); k_whole; intro h' tk' m' F' N'; (try k_sweep))))) | ((with_reducible show wpAny _ _ (eval (Expr.Name _ _) _) _ _ _); first | (with_reducible (k_here; name_kind "globalImplicit"; k_dflt (first | (name_is_builtin; refine' nameX_B ?F_q ?X_q ?T_q ?e_q ?v_q ?n_q ?_ ?a_q ?b_q; (case F_q => k_asm); (case X_q => k_asm); (case T_q => k_asm); (case a_q => rfl); (case b_q => rfl); (case e_q => k_is); (case v_q => boot_fast); (case n_q => decide); k_whole) | (refine' nameX_K ?F_q ?X_q ?T_q ?e_q ?_ ?a_q ?b_q; (case F_q => k_asm); (case X_q => k_asm); (case T_q => k_asm); (case a_q => rfl); (case b_q => rfl); (case e_q => k_is); k_whole)))) | (with_reducible (k_here; name_kind "local"; k_dflt (refine' nameX_L ?F_q ?v_q ?_ ?a_q ?b_q; (case F_q => k_asm); (case a_q => rfl); (case b_q => rfl); (case v_q => rfl); k_whole)))) | (k_unfold; (try dsimp only)) | (k_end; wrow_close) | (walk1; (all_goals (try dsimp only))) | (dsimp only; walk1) | (leave1; try dsimp only)))
  rename Fr h₀ L _ m => FF; rename News h₀ L _ _ => NN
  refine hret _ _ _ _ _ _ _ _ _ FF (news_copy NN) (by assumption) (by assumption) ?_ ?_ totD_mk l4_mk l4_mk
  · show @LT.lt Nat _ _ _; omega
  · show @LT.lt Nat _ _ _; omega
end
end
theorem l4_vs {o : Obj} {ns : List Int} (h : L4 o ns) : ∃ vs n, o = listOf vs.toArray n ∧ IntsAre vs ns ∧ ns.length = 4 := by
  refine cps ?_; intro Q9 hQ9; obtain ⟨a, b, c, d, t1, t2, t3, t4, n, eq91, eq92⟩ := h; refine hQ9 ?_; clear hQ9 Q9; subst eq91; subst eq92
  exact ⟨[.int a t1, .int b t2, .int c t3, .int d t4], n, rfl, .cons _ _ (.cons _ _ (.cons _ _ (.cons _ _ .nil))), rfl⟩
theorem l4_of {vs : List Value} {ns : List Int} {n : Nat} (h : IntsAre vs ns) (hl : ns.length = 4) : L4 (listOf vs.toArray n) ns := by
  match ns, hl with
  | [a, b, c, d], _ =>
    refine cps ?_; intro Q9 hQ9; obtain ⟨t1, t2, t3, t4, eq91⟩ := ints4 h; refine hQ9 ?_; clear hQ9 Q9; subst eq91
    exact ⟨a, b, c, d, t1, t2, t3, t4, n, rfl, rfl⟩
def bump (ns : List Int) (o v : Int) : List Int := ns.set o.toNat (ns.getD o.toNat 0 + v)
section
variable {w : World} {p : Program} {loose : List Str} {mean : ExcName → Option Value} {mg mb : Str → Option Value}
  {dp un : Nat} {gd : Option (List Code)} {cn : Str} {cs : Scope} {a : Addr} {ccd : Value} {cl : List (Str × Addr)} {outer : List Env} {A₀ : Around} {base h₀ : Heap} {L : Addr} {m : Str → Option Value} {news : List (Addr × Obj)} {s : Shared} {Q E : Value → Shared → Prop}

section
local macro_rules | `(tactic| k_all) => `(tactic| assumption)
set_option maxRecDepth 100000 in
set_option maxHeartbeats 4000000 in
theorem tadd0 {x dx su sd gx gdx : Addr} {n : Int} {o ou od og : Obj} {us ds : List Int} {g : G5}
  (B : Below A₀ base outer h₀) (F : Fr h₀ L s.heap m) (X : (hd.heap_1 w.params).In h₀) (N : News h₀ L s.heap ((dx, o) :: (su, ou) :: (sd, od) :: news)) (T : Top p loose mean mg mb h₀) (hk : cs.kind = .function)
  (hm1 : (x, instObj 271 dx) ∈ news) (hg : TotD w.params su sd n o) (hu4 : L4 ou us) (hd4 : L4 od ds)
  (hm2 : (gx, instObj 208 gdx) ∈ news) (hm3 : (gdx, og) ∈ news) (hgg : GlueD w.params og g) (q1 : 0 ≤ g.uo) (q2 : g.uo ≤ 3) (q3 : 0 ≤ g.od) (q4 : g.od ≤ 3)
  (a1 : @LT.lt Nat _ dx su) (a2 : @LT.lt Nat _ su sd) (b1 : ∀ p ∈ news, p.1 ≠ dx) (b2 : ∀ p ∈ news, p.1 ≠ su) (b3 : ∀ p ∈ news, p.1 ≠ sd)
  (hd : dp + 4 < recursionLimit) (hu : un + 40 < cLine)
  (hret : ∀ (v : Value) (o ou od : Obj) (h' : Heap) (tk' : Nat), Fr h₀ L h' m → News h₀ L h' ((dx, o) :: (su, ou) :: (sd, od) :: news) → TotD w.params su sd (n + g.w) o → L4 ou (bump us g.uo g.u) → L4 od (bump ds g.od g.d) → Q v { s with heap := h', toks := tk' }) :
  wpAny (model PP w) (ktrTop dp un gd cn cs L a ccd cl outer) (call (.ref 240) [.ref x, .ref gx]) Q E s := by
  have hgg' := hgg
  refine cps ?_; intro Q9 hQ9; obtain ⟨us', n1, eq91, iu, lu⟩ := l4_vs hu4; refine hQ9 ?_; clear hQ9 Q9; subst eq91
  refine cps ?_; intro Q9 hQ9; obtain ⟨ds', n2, eq91, ids, ld⟩ := l4_vs hd4; refine hQ9 ?_; clear hQ9 Q9; subst eq91
  refine cps ?_; intro Q9 hQ9; obtain ⟨k1, k2, k3, t, eq91⟩ := hg; refine hQ9 ?_; clear hQ9 Q9; subst eq91
  refine GlueD.elim hgg ?_; intro j1 j2 j3 j4 j5 t1 t2 t3 t4 t5 eq91; subst eq91
  refine wpAny_call ?_
  k_dflt ((refine' code_def ?k1_q ?k2_q ?k3_q ?k4_q ?k5_q ?kA_q ?kF_q ?kK_q ?k6_q ?k7_q ?k8_q ?k9_q ?kB_q ?_ ?c2_q ?c3_q ?c4_q ?c5_q; (case kA_q => exact rfl); (case kF_q => exact rfl); (case kK_q => first | exact rfl | assumption); (case k1_q => k_asm); (case k2_q => k_asm); (case k3_q => k_asm); (case k4_q => k_asm); (case k5_q => k_asm); (case k6_q => k_is); (case k7_q => k_is); (case k8_q => k_room); (case k9_q => first | exact BindsTo.of_eq rfl | exact binds_K (by k_in) rfl (by k_is) rfl rfl rfl); (case c5_q => decide); (case kB_q => exact locs rfl); (case c2_q => exact rfl); (case c3_q => exact rfl); (case c4_q => exact rfl); k_whole; intro g' L' h' FG' F' N' B' X' T'; (try k_lift B'); (refine foldM F' ?_; clear F'; intro m9 F'); (try first | (with_reducible refine foldA ?_; intro A9 d9 u9) | (with_reducible refine foldAu ?_; intro A9 d9 u9)); (try (refine foldE ?_; intro e9)); (try k_unmd); (try (refine foldQ ?_; intro qk ek)); (try dsimp only)))
  (repeat' (first | ((with_reducible show wpAny _ _ (execs _ _) _ _ _); (fail_if_success (fail_if_success k_fold)); refine foldQ ?_; intro qk ek) | ((with_reducible show wpAny _ _ (exec _ _) _ _ _); (fail_if_success (fail_if_success k_fold)); refine foldQ ?_; intro qk ek; (try (refine foldN (by with_reducible assumption) ?_; intro n9 N9))) | ((with_reducible show wpAny _ _ (setAttr (Value.ref _) _ _) _ _ _); first | (with_reducible (k_here; k_dflt (refine' set_dict ?k1_q ?k2_q ?k3_q ?k4_q ?k5_q ?k6_q ?k7_q ?k8_q ?k9_q ?k10_q ?k11_q ?k12_q ?k13_q ?_; (case k1_q => k_asm); (case k2_q => k_asm); (case k3_q => k_asm); (case k4_q => k_inst); (case k5_q => exact rfl); (case k6_q => k_is); (case k7_q => k_is); (case k8_q => k_is); (case k9_q => k_is); (case k10_q => k_get); (case k11_q => k_put); (case k12_q => k_upd); (case k13_q => exact Nat.le_of_ble_eq_true rfl); k_whole; intro h' F' N'; (try k_sweep))))) | ((with_reducible show wpAny _ _ (eval (Expr.Name _ _) _) _ _ _); first | (with_reducible (k_here; name_kind "local"; k_dflt (refine' nameX_L ?F_q ?v_q ?_ ?a_q ?b_q; (case F_q => k_asm); (case a_q => rfl); (case b_q => rfl); (case v_q => rfl); k_whole)))) | (k_unfold; (try dsimp only)) | (k_end; wrow_close) | (walk1; (all_goals (try dsimp only))) | (dsimp only; walk1) | (leave1; try dsimp only)))
  rename Fr h₀ L _ m => FF; rename News h₀ L _ _ => NN; rename IntsAre (us'.set _ _) _ => i1; rename IntsAre (ds'.set _ _) _ => i2
  exact hret _ _ _ _ _ _ FF NN totD_mk (l4_of i1 (by unfold bump; rw [List.length_set]; exact lu)) (l4_of i2 (by unfold bump; rw [List.length_set]; exact ld))
set_option maxRecDepth 100000 in
set_option maxHeartbeats 4000000 in
theorem tops_c {x dx su sd : Addr} {n : Int} {o ou od : Obj} {us ds : List Int}
  {A : Around} {vs8 : List Value} (hv8 : vs8 = [.ref x]) (hA : A.frames = some (envX cn cs L a ccd cl :: outer)) (hh : A.handled = none) (B : Below A₀ base outer h₀) (F : Fr h₀ L s.heap m) (X : (hd.heap_1 w.params).In h₀) (N : News h₀ L s.heap news) (T : Top p loose mean mg mb h₀) (hk : cs.kind = .function)
  (hm1 : (x, instObj 271 dx) ∈ news) (hm2 : (dx, o) ∈ news) (hg : TotD w.params su sd n o) (hm3 : (su, ou) ∈ news) (hm4 : (sd, od) ∈ news) (hu4 : L4 ou us) (hd4 : L4 od ds)
  (hd : A.depth + 6 < recursionLimit) (hu : A.units + 50 < cLine)
  (hret : ∀ (t : Tok) (h' : Heap) (tk' : Nat), Fr h₀ L h' m → News h₀ L h' news → Q (.int (topOf us) t) { s with heap := h', toks := tk' }) :
  wpAny (model PP w) A (call (.ref 254) vs8) Q E s := by
  subst hv8
  refine wp_at_top hA hh ?_
  refine cps ?_; intro Q9 hQ9; obtain ⟨k1, k2, k3, t, eq91⟩ := hg; refine hQ9 ?_; clear hQ9 Q9; subst eq91
  refine wpAny_call ?_
  k_dflt ((refine' code_def ?k1_q ?k2_q ?k3_q ?k4_q ?k5_q ?kA_q ?kF_q ?kK_q ?k6_q ?k7_q ?k8_q ?k9_q ?kB_q ?_ ?c2_q ?c3_q ?c4_q ?c5_q; (case kA_q => exact rfl); (case kF_q => exact rfl); (case kK_q => first | exact rfl | assumption); (case k1_q => k_asm); (case k2_q => k_asm); (case k3_q => k_asm); (case k4_q => k_asm); (case k5_q => k_asm); (case k6_q => k_is); (case k7_q => k_is); (case k8_q => k_room); (case k9_q => first | exact BindsTo.of_eq rfl | exact binds_K (by k_in) rfl (by k_is) rfl rfl rfl); (case c5_q => decide); (case kB_q => exact locs rfl); (case c2_q => exact rfl); (case c3_q => exact rfl); (case c4_q => exact rfl); k_whole; intro g' L' h' FG' F' N' B' X' T'; (try k_lift B'); (refine foldM F' ?_; clear F'; intro m9 F'); (try first | (with_reducible refine foldA ?_; intro A9 d9 u9) | (with_reducible refine foldAu ?_; intro A9 d9 u9)); (try (refine foldE ?_; intro e9)); (try k_unmd); (try (refine foldQ ?_; intro qk ek)); (try dsimp only)))
  (repeat' (first | ((with_reducible show wpAny _ _ (execs _ _) _ _ _); (fail_if_success (fail_if_success k_fold)); refine foldQ ?_; intro qk ek) | ((with_reducible show wpAny _ _ (exec _ _) _ _ _); (fail_if_success (fail_if_success k_fold)); refine foldQ ?_; intro qk ek; (try (refine foldN (by with_reducible assumption) ?_; intro n9 N9))) | ((with_reducible show wpAny _ _ (call (Value.ref _) _) _ _ _); first | (with_reducible (k_here; (with_reducible apply top_c); k_dflt (walk_at "c8"; k_mem; (with_reducible assumption); ktr_room; ktr_units; k_whole); intro t' h' tk' F' N'; (try k_sweep); (try k_fold); (try k_sweep); (try k_fold)))) | ((with_reducible show wpAny _ _ (eval (Expr.Name _ _) _) _ _ _); first | (with_reducible (k_here; name_kind "globalImplicit"; k_dflt (first | (name_is_builtin; refine' nameX_B ?F_q ?X_q ?T_q ?e_q ?v_q ?n_q ?_ ?a_q ?b_q; (case F_q => k_asm); (case X_q => k_asm); (case T_q => k_asm); (case a_q => rfl); (case b_q => rfl); (case e_q => k_is); (case v_q => boot_fast); (case n_q => decide); k_whole) | (refine' nameX_K ?F_q ?X_q ?T_q ?e_q ?_ ?a_q ?b_q; (case F_q => k_asm); (case X_q => k_asm); (case T_q => k_asm); (case a_q => rfl); (case b_q => rfl); (case e_q => k_is); k_whole)))) | (with_reducible (k_here; name_kind "local"; k_dflt (refine' nameX_L ?F_q ?v_q ?_ ?a_q ?b_q; (case F_q => k_asm); (case a_q => rfl); (case b_q => rfl); (case v_q => rfl); k_whole)))) | (k_unfold; (try dsimp only)) | (k_end; wrow_close) | (walk1; (all_goals (try dsimp only))) | (dsimp only; walk1) | (leave1; try dsimp only)))
  rename Fr h₀ L _ m => FF; rename News h₀ L _ _ => NN
  exact hret _ _ _ FF NN
set_option maxRecDepth 100000 in
set_option maxHeartbeats 4000000 in
theorem topd_c {x dx su sd : Addr} {n : Int} {o ou od : Obj} {us ds : List Int}
  {A : Around} {vs8 : List Value} (hv8 : vs8 = [.ref x]) (hA : A.frames = some (envX cn cs L a ccd cl :: outer)) (hh : A.handled = none) (B : Below A₀ base outer h₀) (F : Fr h₀ L s.heap m) (X : (hd.heap_1 w.params).In h₀) (N : News h₀ L s.heap news) (T : Top p loose mean mg mb h₀) (hk : cs.kind = .function)
  (hm1 : (x, instObj 271 dx) ∈ news) (hm2 : (dx, o) ∈ news) (hg : TotD w.params su sd n o) (hm3 : (su, ou) ∈ news) (hm4 : (sd, od) ∈ news) (hu4 : L4 ou us) (hd4 : L4 od ds)
  (hd : A.depth + 6 < recursionLimit) (hu : A.units + 50 < cLine)
  (hret : ∀ (t : Tok) (h' : Heap) (tk' : Nat), Fr h₀ L h' m → News h₀ L h' news → Q (.int (topOf ds) t) { s with heap := h', toks := tk' }) :
  wpAny (model PP w) A (call (.ref 261) vs8) Q E s := by
  subst hv8
  refine wp_at_top hA hh ?_
  refine cps ?_; intro Q9 hQ9; obtain ⟨k1, k2, k3, t, eq91⟩ := hg; refine hQ9 ?_; clear hQ9 Q9; subst eq91
  refine wpAny_call ?_
  k_dflt ((refine' code_def ?k1_q ?k2_q ?k3_q ?k4_q ?k5_q ?kA_q ?kF_q ?kK_q ?k6_q ?k7_q ?k8_q ?k9_q ?kB_q ?_ ?c2_q ?c3_q ?c4_q ?c5_q; (case kA_q => exact rfl); (case kF_q => exact rfl); (case kK_q => first | exact rfl | assumption); (case k1_q => k_asm); (case k2_q => k_asm); (case k3_q => k_asm); (case k4_q => k_asm); (case k5_q => k_asm); (case k6_q => k_is); (case k7_q => k_is); (case k8_q => k_room); (case k9_q => first | exact BindsTo.of_eq rfl | exact binds_K (by k_in) rfl (by k_is) rfl rfl rfl); (case c5_q => decide); (case kB_q => exact locs rfl); (case c2_q => exact rfl); (case c3_q => exact rfl); (case c4_q => exact rfl); k_whole; intro g' L' h' FG' F' N' B' X' T'; (try k_lift B'); (refine foldM F' ?_; clear F'; intro m9 F'); (try first | (with_reducible refine foldA ?_; intro A9 d9 u9) | (with_reducible refine foldAu ?_; intro A9 d9 u9)); (try (refine foldE ?_; intro e9)); (try k_unmd); (try (refine foldQ ?_; intro qk ek)); (try dsimp only)))
  (repeat' (first | ((with_reducible show wpAny _ _ (execs _ _) _ _ _); (fail_if_success (fail_if_success k_fold)); refine foldQ ?_; intro qk ek) | ((with_reducible show wpAny _ _ (exec _ _) _ _ _); (fail_if_success (fail_if_success k_fold)); refine foldQ ?_; intro qk ek; (try (refine foldN (by with_reducible assumption) ?_; intro n9 N9))) | ((with_reducible show wpAny _ _ (call (Value.ref _) _) _ _ _); first | (with_reducible (k_here; (with_reducible apply top_c); k_dflt (walk_at "c8"; k_mem; (with_reducible assumption); ktr_room; ktr_units; k_whole); intro t' h' tk' F' N'; (try k_sweep); (try k_fold); (try k_sweep); (try k_fold)))) | ((with_reducible show wpAny _ _ (eval (Expr.Name _ _) _) _ _ _); first | (with_reducible (k_here; name_kind "globalImplicit"; k_dflt (first | (name_is_builtin; refine' nameX_B ?F_q ?X_q ?T_q ?e_q ?v_q ?n_q ?_ ?a_q ?b_q; (case F_q => k_asm); (case X_q => k_asm); (case T_q => k_asm); (case a_q => rfl); (case b_q => rfl); (case e_q => k_is); (case v_q => boot_fast); (case n_q => decide); k_whole) | (refine' nameX_K ?F_q ?X_q ?T_q ?e_q ?_ ?a_q ?b_q; (case F_q => k_asm); (case X_q => k_asm); (case T_q => k_asm); (case a_q => rfl); (case b_q => rfl); (case e_q => k_is); k_whole)))) | (with_reducible (k_here; name_kind "local"; k_dflt (refine' nameX_L ?F_q ?v_q ?_ ?a_q ?b_q; (case F_q => k_asm); (case a_q => rfl); (case b_q => rfl); (case v_q => rfl); k_whole)))) | (k_unfold; (try dsimp only)) | (k_end; wrow_close) | (walk1; (all_goals (try dsimp only))) | (dsimp only; walk1) | (leave1; try dsimp only)))
  rename Fr h₀ L _ m => FF; rename News h₀ L _ _ => NN
  exact hret _ _ _ FF NN
end
end
local macro_rules | `(tactic| k_lt $h:ident) => `(tactic| (replace $h := allBel_of $h; (repeat (refine bx8 $h rfl ?_; clear $h; intro _ _ _ _ _ _ _ _ $h)); (repeat (refine bx3 $h rfl ?_; clear $h; intro _ _ _ $h)); (repeat (refine bx1 $h rfl ?_; clear $h; intro _ $h))))
local macro_rules | `(tactic| k_lt2 $h:ident) => `(tactic| replace $h := bel_of $h)
local macro_rules | `(tactic| k_ne) => `(tactic| first | (refine apart_ne ?_; with_reducible assumption) | (refine apart_ne' ?_; with_reducible assumption) | (refine bel_ne' ?_; with_reducible assumption) | (refine bel_ne ?_; with_reducible assumption))
local macro_rules | `(tactic| k_all) => `(tactic| first | with_reducible assumption | (refine allBel_ne ?_; with_reducible assumption))
noncomputable def resCut (g : G5) (c : Int) : Res := if c = 0 then .over else resOf ⟨cutS g.w c, cutS g.u c, g.uo, cutS g.d c, g.od⟩
theorem resCut_zero {g : G5} {c : Int} (h : c = 0) : resCut g c = .over := if_pos h
theorem resCut_ne {g : G5} {c : Int} (h : c ≠ 0) : resCut g c = resOf ⟨cutS g.w c, cutS g.u c, g.uo, cutS g.d c, g.od⟩ := if_neg h
theorem res_mul {g : G5} {c : Int} : resOf ⟨c * g.w, c * g.u, g.uo, c * g.d, g.od⟩ = resOf ⟨g.w * c, g.u * c, g.uo, g.d * c, g.od⟩ := by
  rw [Int.mul_comm c g.w, Int.mul_comm c g.u, Int.mul_comm c g.d]
theorem res_neg {g : G5} (h : g.Ok) (n : g.Nm) : resOf ⟨-g.w, -g.u, g.uo, -g.d, g.od⟩ = .tup ⟨-g.w, -g.u, g.uo, -g.d, g.od⟩ := by
  refine cps ?_; intro Q9 hQ9; obtain ⟨a, b, c, d, e, f, i, j, k, l⟩ := h; refine hQ9 ?_; clear hQ9 Q9
  unfold MX at *
  rw [resOf_tup (by unfold G5.Over MX; dsimp only; omega)]
  unfold G5.norm
  dsimp only
  have h1 : (if -g.u = 0 then 0 else g.uo) = g.uo := by
    split
    · exact (n.1 (by omega)).symm
    · rfl
  have h2 : (if -g.d = 0 then 0 else g.od) = g.od := by
    split
    · exact (n.2 (by omega)).symm
    · rfl
  rw [h1, h2]
theorem all_ne {d t : Nat} {l : List (Addr × Obj)} (h : AllLt d l) (hd : d ≤ t) : ∀ p ∈ l, p.1 ≠ t := by
  induction l with
  | nil => intro p hp; cases hp
  | cons q r ih =>
    intro p hp
    rcases List.mem_cons.mp hp with rfl | hp
    · exact Nat.ne_of_lt (Nat.lt_of_lt_of_le h.1 hd)
    · exact ih h.2 p hp
def DuePost (g : Heap) (L : Addr) (mm : Str → Option Value) (news : List (Addr × Obj)) (res : Res) (s : Shared) (f : Flow) (s' : Shared) : Prop :=
  f = .next ∧ ∃ (h' : Heap) (tk' : Nat) (v : Value) (r : Addr) (o : Obj), s' = { s with heap := h', toks := tk' } ∧ Fr g L h' (fun y => if y = Str.ofString "due" then some v else mm y) ∧ News g L h' ((r, o) :: news) ∧ ValIs v r o res ∧ Apart r 355
theorem join_due (res : Res) {M : Model} {A : Around} {E : Value → Shared → Prop} {st : Stmt} {env : Env} {s : Shared} {g : Heap} {L : Addr} {v0 : Value} {mm : Str → Option Value} {news : List (Addr × Obj)} {Q : Flow → Shared → Prop}
    (_F : Fr g L s.heap (fun y => if y = Str.ofString "due" then some v0 else mm y)) (_N : News g L s.heap news)
    (h : wpAny M A (exec st env) (DuePost g L mm news res s) E s)
    (hQ : ∀ (h' : Heap) (tk' : Nat) (v : Value) (r : Addr) (o : Obj), Fr g L h' (fun y => if y = Str.ofString "due" then some v else mm y) → News g L h' ((r, o) :: news) → ValIs v r o res → Apart r 355 → Q .next { s with heap := h', toks := tk' }) :
    wpAny M A (exec st env) Q E s := by
  refine wpAny_mono h (fun f s' q => ?_) fun _ _ e => e
  refine cps ?_; intro Q9 hQ9; obtain ⟨eq91, h', tk', v, r, o, eq92, F, N, V, a⟩ := q; refine hQ9 ?_; clear hQ9 Q9; subst eq91; subst eq92
  exact hQ h' tk' v r o F N V a
theorem resCut_over {g : G5} {c : Int} (h : c = 0 ∨ G5.Over ⟨cutS g.w c, cutS g.u c, g.uo, cutS g.d c, g.od⟩) : resCut g c = .over := by
  by_cases e : c = 0
  · exact resCut_zero e
  · rw [resCut_ne e]; exact resOf_over (h.resolve_left e)
theorem resCut_tup {g : G5} {c : Int} (e : c ≠ 0) (h : ¬ G5.Over ⟨cutS g.w c, cutS g.u c, g.uo, cutS g.d c, g.od⟩) : resCut g c = .tup (G5.norm ⟨cutS g.w c, cutS g.u c, g.uo, cutS g.d c, g.od⟩) := by
  rw [resCut_ne e]; exact resOf_tup h
section
variable {w : World} {p : Program} {loose : List Str} {mean : ExcName → Option Value} {mg mb : Str → Option Value}
  {dp un : Nat} {gd : Option (List Code)} {cn : Str} {cs : Scope} {a : Addr} {ccd : Value} {cl : List (Str × Addr)} {outer : List Env} {A₀ : Around} {base h₀ : Heap} {L : Addr} {m : Str → Option Value} {news : List (Addr × Obj)} {s : Shared} {Q E : Value → Shared → Prop}

theorem cmptup_c {v1 : Value} {x y : Addr} {o o2 : Obj} {res : Res} {g2 : G5}
  (B : Below A₀ base outer h₀) (F : Fr h₀ L s.heap m) (X : (hd.heap_1 w.params).In h₀) (N : News h₀ L s.heap news) (T : Top p loose mean mg mb h₀) (hk : cs.kind = .function)
  (hm1 : (x, o) ∈ news) (V1 : ValIs v1 x o res) (hm2 : (y, o2) ∈ news) (V2 : TupG o2 g2) (e : res = .tup g2)
  (hd : dp + 10 < recursionLimit) (hu : un + 120 < cLine)
  (hret : Q (.bool false) s) :
  wpAny (model PP w) (ktrTop dp un gd cn cs L a ccd cl outer) (compareOp .NotEq v1 (.ref y)) Q E s :=
  cmpval_c B F X N T hk hm1 V1 hm2 (show ValIs (.ref y) y o2 (.tup g2) from ⟨rfl, V2⟩) e hd hu hret
end
def CodsNew (cods0 news prev : List (Addr × Obj)) : Prop := ∀ z ∈ prev, z ∈ cods0 ∨ (@LT.lt Nat _ 355 z.1 ∧ ∀ p ∈ news, @LT.lt Nat _ p.1 z.1)
theorem CodsNew.step {cods0 news prev led : List (Addr × Obj)} {q : Addr × Obj} (h : CodsNew cods0 news prev) (x : q ∈ prev ∨ ∀ z ∈ led, z.1 < q.1) (h5 : ∃ o, ((355 : Addr), o) ∈ led) (hn : ∀ z ∈ news, z ∈ led) : CodsNew cods0 news (q :: prev) := fun z hz => by
  rcases List.mem_cons.mp hz with rfl | hz
  · rcases x with x | x
    · exact h _ x
    · obtain ⟨o, h5⟩ := h5
      exact .inr ⟨x _ h5, fun p hp => x p (hn p hp)⟩
  · exact h z hz
abbrev qDeeds : Str := Str.ofString "_law_deeds_right.<locals>.<lambda>"
section
section
variable {w : World} {p : Program} {loose : List Str} {mean : ExcName → Option Value} {mg mb : Str → Option Value}
  {dp un : Nat} {gd : Option (List Code)} {cn : Str} {cs : Scope} {a : Addr} {ccd : Value} {cl : List (Str × Addr)} {outer : List Env} {A₀ : Around} {base h₀ : Heap} {L : Addr} {m : Str → Option Value} {news : List (Addr × Obj)} {s : Shared} {Q E : Value → Shared → Prop}

set_option maxRecDepth 100000 in
set_option maxHeartbeats 12000000 in
theorem deeds0 {f1 f2 : Addr} {o1 o2 : Obj} {g f : G5} {c b : Int} {t1 t2 : Tok} {ps : Array Value} {cods : List (Addr × Obj)}
  (B : Below A₀ base outer h₀) (F : Fr h₀ L s.heap m) (X : (hd.heap_1 w.params).In h₀) (N : News h₀ L s.heap ((355, tabObj ps) :: news)) (T : Top p loose mean mg mb h₀) (hk : cs.kind = .function)
  (XB : (hd.heap_1 w.params).In base) (TB : Top p loose mean mg mb base) (D : KtsDicts (outer.filterMap (·.frame)) h₀)
  (hne : ∀ p ∈ news, @Ne Nat p.1 355) (hm1 : (f1, o1) ∈ news) (hm2 : (f2, o2) ∈ news) (h1 : LstG o1 g) (h2 : LstG o2 f) (ok1 : g.Ok) (ok2 : f.Ok)
  (hc0 : -10 ≤ c) (hc1 : c ≤ 10) (hb0 : -10 ≤ b) (hb1 : b ≤ 10) (GT : TabGood qDeeds ps cods) (hsub : ∀ q ∈ cods, q ∈ news) (CH : CodeHd base 359 355)
  (hd : dp + 100 < recursionLimit) (hu : un + 1500 < cLine)
  (hret : ∀ (ps' : Array Value) (cods' : List (Addr × Obj)) (h₀' h' : Heap) (tk' : Nat), KtsTurn (outer.filterMap (·.frame)) h₀ h₀' → Fr h₀' L h' m → News h₀' L h' ((355, tabObj ps') :: news) → News h₀' L h' cods' → TabGood qDeeds ps' cods' → (∀ q ∈ cods', q ∈ cods ∨ ∀ p ∈ ((355, tabObj ps) :: news), p.1 < q.1) →
    Below A₀ base outer h₀' → (Mine.hd.heap_1 w.params).In h₀' → Top p loose mean mg mb h₀' → KtsDicts (outer.filterMap (·.frame)) h₀' → Q (.bool true) { s with heap := h', toks := tk' }) :
  wpAny (model PP w) (ktrTop dp un gd cn cs L a ccd cl outer) (call (.ref 360) [.ref f1, .ref f2, .int c t1, .int b t2]) Q E s := by
  have cn0 : CodsNew cods news cods := fun z h => .inl h
  have hcne : ∀ q ∈ cods, @Ne Nat q.1 355 := fun q hq => hne q (hsub q hq)
  have h1' := h1
  have h2' := h2
  have okn1 := norm_ok ok1
  have okn2 := norm_ok ok2
  have eN := res_neg okn1 (norm_nm g)
  refine cps ?_; intro Q9 hQ9; obtain ⟨na1, na2, na3, na4, na5, na6, na7, na8, na9, na10⟩ := norm_ok ok1; refine hQ9 ?_; clear hQ9 Q9
  refine cps ?_; intro Q9 hQ9; obtain ⟨nb1, nb2, nb3, nb4, nb5, nb6, nb7, nb8, nb9, nb10⟩ := norm_ok ok2; refine hQ9 ?_; clear hQ9 Q9
  have nn1 := norm_num ok1
  have nn2 := norm_num ok2
  refine cps ?_; intro Q9 hQ9; obtain ⟨p1, p2, p3, p4, p5, p6, p7, p8, p9, p10⟩ := nn1; refine hQ9 ?_; clear hQ9 Q9
  refine cps ?_; intro Q9 hQ9; obtain ⟨r1, r2, r3, r4, r5, r6, r7, r8, r9, r10⟩ := nn2; refine hQ9 ?_; clear hQ9 Q9
  have okn1e : (G5.norm ⟨g.w, g.u, g.uo, g.d, g.od⟩).Ok := norm_ok ok1
  have okn2e : (G5.norm ⟨f.w, f.u, f.uo, f.d, f.od⟩).Ok := norm_ok ok2
  have nmn1 := norm_nm g
  have nmn2 := norm_nm f
  have ok1' := ok1
  have ok2' := ok2
  refine LstG.elim h1 ?_; intro s1 s2 s3 s4 s5 n eq91; subst eq91
  refine LstG.elim h2 ?_; intro s6 s7 s8 s9 s10 n' eq91; subst eq91
  unfold G5.Ok MX at ok1 ok2
  refine cps ?_; intro Q9 hQ9; obtain ⟨a1, a2, a3, a4, a5, a6, a7, a8, a9, a10⟩ := ok1; refine hQ9 ?_; clear hQ9 Q9
  refine cps ?_; intro Q9 hQ9; obtain ⟨b1, b2, b3, b4, b5, b6, b7, b8, b9, b10⟩ := ok2; refine hQ9 ?_; clear hQ9 Q9
  refine wpAny_call ?_
  k_dflt (refine' code_defSC ?k1 ?k2 ?k3 ?k4 ?k5 ?XB ?TB ?D ?T0 ?kA ?kF ?kK ?k6 ?k7 ?k8 ?k9 ?kB ?kD ?_ ?c2 ?c3 ?c4; (case kA => exact rfl); (case kF => exact rfl); (case kK => assumption); (case k1 => k_asm); (case k2 => k_asm); (case k3 => k_asm); (case k4 => k_asm); (case k5 => k_asm); (case XB => assumption); (case TB => assumption); (case D => assumption); (case T0 => exact KtsTurn.refl); (case k6 => k_is); (case k7 => k_is); (case k8 => ktr_room); (case k9 => first | exact BindsTo.of_eq rfl | exact binds_K (by k_in) rfl (by k_is) rfl rfl rfl); (case kB => exact rfl); (case kD => decide +kernel); (case c2 => exact rfl); (case c3 => exact rfl); (case c4 => exact rfl); k_whole; intro g' L' h' tk' cells' FG' F' N' Y' B' X' T' D' l1; (have b9 : @LT.lt Nat _ 355 L' := l1 (355, _) (by k_mem)); (try k_lt l1); k_cells Y'; (try simp only [List.cons_append, List.nil_append] at N'); (try k_lift B'); (refine foldM F' ?_; clear F'; intro m9 F'); (try first | (with_reducible refine foldA ?_; intro A9 d9 u9) | (with_reducible refine foldAu ?_; intro A9 d9 u9)); (try (refine foldE ?_; intro e9)); (try k_unmd); (try (refine foldQ ?_; intro qk ek)); (try dsimp only))
  have ac1 : Apart (L' + 1) 355 := by (show @Ne Nat _ _); omega
  have ac2 : Apart (L' + 1 + 1) 355 := by (show @Ne Nat _ _); omega
  have ac3 : Apart (L' + 1 + 1 + 1) 355 := by (show @Ne Nat _ _); omega
  have ac4 : Apart (L' + 1 + 1 + 1 + 1) 355 := by (show @Ne Nat _ _); omega
  have an1 : AllBel (L' + 1) news := allBel_mono (by omega) l1
  have an2 : AllBel (L' + 1 + 1) news := allBel_mono (by omega) l1
  have an3 : AllBel (L' + 1 + 1 + 1) news := allBel_mono (by omega) l1
  have an4 : AllBel (L' + 1 + 1 + 1 + 1) news := allBel_mono (by omega) l1
  (repeat' (first | ((with_reducible show wpAny _ _ (execs _ _) _ _ _); (fail_if_success (fail_if_success k_fold)); refine foldQ ?_; intro qk ek) | ((with_reducible show wpAny _ _ (exec _ _) _ _ _); (fail_if_success (fail_if_success k_fold)); refine foldQ ?_; intro qk ek; (try (refine foldN (by with_reducible assumption) ?_; intro n9 N9))) | ((with_reducible show wpAny _ _ (call (Value.ref _) _) _ _ _); first | (with_reducible (k_here; (with_reducible show wpAny _ _ (call (Value.ref 339) _) _ _ _); refine metStop ?_)) | (with_reducible (k_here; (with_reducible apply glue_c); k_dflt (walk_at "c8"; (first | with_reducible assumption | omega); (first | with_reducible assumption | omega); (first | with_reducible assumption | omega); (first | with_reducible assumption | omega); ktr_room; ktr_units; all_goals (first | (refine fun (x' : Addr) (dx' : Addr) (o' : Obj) h' tk' F' N' l1' l2' G' e1' => ?_; refine glue_open G' N' ?_; clear N' G'; intro k1' k2' k3' k4' k5' t1' t2' t3' t4' t5' o9 n9 G2' N'; (have l3' := fun p hp => Nat.lt_trans (l1' p hp) l2'); (try k_lt l1'); (try k_lt l3'); (try k_lt2 l2'); (try k_sweep); (try k_fold)) | (refine fun (e' : Addr) (g' : Heap) (h' : Heap) (tk' : Nat) FG' S' U' e1' => ?_; exfalso; first | exact not_over (by with_reducible assumption) (by with_reducible assumption) (by with_reducible assumption) (by with_reducible assumption) (by with_reducible assumption) (by with_reducible assumption) e1' | (unfold G5.Over MX at e1'; dsimp only at e1'; omega)))))) | (with_reducible (k_here; (with_reducible apply parts_c); k_dflt (walk_at "c8"; k_mem; (first | with_reducible assumption | exact lst_mk); ktr_room; ktr_units; k_whole); intro r' o' h' tk' F' N' l1' G'; k_dflt (refine tup_open G' N' ?_; clear N' G'; intro t1' t2' t3' t4' t5' o9 n9 G2' N'); (try k_lt l1'); (try k_sweep); (try k_fold)))) | ((with_reducible show wpAny _ _ (eval (Expr.Lambda _ _ _ _) _) _ _ _); first | (with_reducible (k_here; k_dflt (refine' kla_eval ?d0_q ?_; (case d0_q => exact rfl)); k_dflt (refine' kla_any ?F_q ?N_q ?T_q ?C_q ?cd_q ?U_q ?G_q ?hq_q ?sub_q ?ne_q ?cl_q ?_; (case F_q => k_asm); (case N_q => k_asm); (case T_q => k_asm); (case cd_q => exact rfl); (case C_q => kn_code); (case U_q => k_updF); (case G_q => with_reducible assumption); (case hq_q => first | exact rfl | decide +kernel); (case sub_q => (repeat (refine' List.forall_mem_cons.mpr ⟨?ma_q, ?_⟩; (case ma_q => k_mem))); intro q' hq'; (repeat (refine List.mem_cons_of_mem _ ?_)); revert q' hq'; with_reducible assumption); (case ne_q => (repeat (refine' List.forall_mem_cons.mpr ⟨apart_ne ?ma_q, ?_⟩; (case ma_q => first | with_reducible assumption | (dsimp only; with_reducible assumption)))); assumption); (case cl_q => exact rfl); k_whole); intro f' c' oc' vs' t' ct' ps' h' tk' F' N' d1' d2' G' l1' a1' a2' x'; (with_reducible rename CodsNew _ _ _ => cn'); (replace cn' := CodsNew.step cn' x' ⟨_, by k_mem⟩ (fun z hz => by repeat (first | exact hz | refine List.mem_cons_of_mem _ ?_))); clear x'; (try dsimp only at N'); (refine foldO N' ?_; clear N'; intro o9 n9 N'); (try k_lt l1'); (try k_sweep); (try k_fold)))) | ((with_reducible show wpAny _ _ (subscriptTail (Expr.Name _ _) (Expr.Constant _ _ _) (Value.ref _) (Value.int _ _)) _ _ _); first | (with_reducible (k_here; (with_reducible show wpAny _ _ (subscriptTail _ _ (Value.ref _) (Value.int _ _)) _ _ _); k_dflt (refine' item_seq ?h0_q ?h1_q ?k1_q ?k2_q ?kc_q ?k3_q ?_ ?k4_q; (case h0_q => decide); (case h1_q => decide); (case k1_q => k_asm); (case k2_q => with_reducible k_mem); (case kc_q => first | exact .inl rfl | exact .inr rfl); (case k3_q => exact rfl); (case k4_q => with_unfolding_all rfl); k_whole)))) | ((with_reducible show wpAny _ _ (callWith _ (Value.ref _) _ _ _) _ _ _); first | (with_reducible (k_here; k_dflt (refine' callWith_K ?k1_q ?k2_q ?_; (case k1_q => k_asm); (case k2_q => k_is); k_whole)))) | ((with_reducible show wpAny _ _ (newTuple _) _ _ _); first | (with_reducible (k_here; k_dflt (refine' newTuple_V ?F_q ?N_q ?_ ?z_q; (case F_q => k_asm); (case N_q => k_asm); (case z_q => kmk_size)); intro D' h' o' n' F' N' l1; (try k_lt l1); (try k_sweep)))) | ((with_reducible show wpAny _ _ (storeName _ _ _) _ _ _); first | (with_reducible (k_here; k_dflt (refine' storeX_V ?F_q ?N_q ?_ ?a_q ?b_q; (case F_q => k_asm); (case N_q => k_asm); (case a_q => rfl); (case b_q => rfl); k_whole; intro h' tk' m' F' N'; (try k_sweep))))) | ((with_reducible show wpAny _ _ (eval (Expr.Name _ _) _) _ _ _); first | (with_reducible (k_here; name_kind "globalImplicit"; k_dflt (first | (name_is_builtin; refine' nameX_B ?F_q ?X_q ?T_q ?e_q ?v_q ?n_q ?_ ?a_q ?b_q; (case F_q => k_asm); (case X_q => k_asm); (case T_q => k_asm); (case a_q => rfl); (case b_q => rfl); (case e_q => k_is); (case v_q => boot_fast); (case n_q => decide); k_whole) | (refine' nameX_K ?F_q ?X_q ?T_q ?e_q ?_ ?a_q ?b_q; (case F_q => k_asm); (case X_q => k_asm); (case T_q => k_asm); (case a_q => rfl); (case b_q => rfl); (case e_q => k_is); k_whole)))) | (with_reducible (k_here; name_kind "local"; k_dflt (refine' nameX_L ?F_q ?v_q ?_ ?a_q ?b_q; (case F_q => k_asm); (case a_q => rfl); (case b_q => rfl); (case v_q => rfl); k_whole)))) | (k_unfold; (try dsimp only)) | (k_end; wrow_close) | (walk1; (all_goals (try dsimp only))) | (dsimp only; walk1) | (leave1; try dsimp only)))
  unfold MetStop
  k_dflt (refine' wp_at_top ?tA ?tH ?_; (case tA => exact rfl); (case tH => exact rfl); refine' met_c (bd := 60) (bu := 700) (res := resOf (g.norm.add f.norm)) ?k1 ?k2 ?k3 ?k4 ?k5 ?kK ?XB ?TB ?D ?hn ?hm ?S ?kd ?ku ?kd2 ?ku2 ?_; (case k1 => k_asm); (case k2 => k_asm); (case k3 => k_asm); (case k4 => k_asm); (case k5 => k_asm); (case kK => exact rfl); (case XB => assumption); (case TB => assumption); (case D => assumption); (case hn => exact fun _ h => h); (case hm => k_mem); (case kd => ktr_room); (case ku => ktr_units); (case kd2 => ktr_room); (case ku2 => ktr_units))
  case S =>
    intro dp' un' gd' cn' cs' a' ccd' cl' outer' A0' h0' L2' m' news' s' Q' E' B2' F2' X2' N2' T2' hk' hn' hd' hu' hret' hr57 hr45
    refine wpAny_call ?_
    k_dflt (refine' kla_code ?k1 ?k2 ?k3 ?k4 ?k5 ?kA ?kF ?kK ?k6 ?k7 ?k8 ?k9 ?kB ?_ ?c2 ?c3 ?c4 ?c5; (case kA => exact rfl); (case kF => exact rfl); (case kK => exact hk'); (case k1 => k_asm); (case k2 => k_asm); (case k3 => k_asm); (case k4 => k_asm); (case k5 => k_asm); (case k6 => k_mem); (case k7 => exact codeRec_news (by k_asm) (by k_mem) (by assumption) (by assumption)); (case k8 => ktr_room); (case k9 => exact rfl); (case c5 => decide); (case kB => exact locs rfl); (case c2 => exact rfl); (case c3 => exact rfl); (case c4 => exact rfl); k_whole; intro g3' L3' h3' FG3' F3' N3' B3' X3' T3'; (try k_lift B3'); (refine foldM F3' ?_; clear F3'; intro m9 F3'); (try first | (with_reducible refine foldA ?_; intro A9 d9 u9) | (with_reducible refine foldAu ?_; intro A9 d9 u9)); (try (refine foldE ?_; intro e9)); (try k_unmd); (try (refine foldQ ?_; intro qk ek)); (try dsimp only))
    have kd := ktsDicts_nil (g := g3')
    (repeat' (first | ((with_reducible show wpAny _ _ (execs _ _) _ _ _); (fail_if_success (fail_if_success k_fold)); refine foldQ ?_; intro qk ek) | ((with_reducible show wpAny _ _ (exec _ _) _ _ _); (fail_if_success (fail_if_success k_fold)); refine foldQ ?_; intro qk ek; (try (refine foldN (by with_reducible assumption) ?_; intro n9 N9))) | ((with_reducible show wpAny _ _ (callWith _ (Value.ref _) _ _ _) _ _ _); first | (with_reducible (k_here; k_dflt (refine' callWith_K ?k1_q ?k2_q ?_; (case k1_q => k_asm); (case k2_q => k_is); k_whole)))) | ((with_reducible show wpAny _ _ (leaving _ (Value.ref _)) _ _ _); first | (with_reducible (k_here; (with_reducible rename RaisedSN _ _ _ _ _ _ _ => rs9); k_dflt (refine' leave_onX ?k0_q ?k1_q ?k2_q ?k3_q ?k4_q ?_; (case k0_q => exact rfl); (case k3_q => assumption); (case k2_q => assumption); (case k1_q => assumption); (case k4_q => assumption); k_whole; intro h' S' R' U'; (try dsimp only at S' R' U' ⊢); (try dsimp only [InitBack]))))) | ((with_reducible show wpAny _ _ (call (Value.ref _) _) _ _ _); first | (with_reducible (k_here; (with_reducible apply added_c); k_dflt (walk_at "c8"; k_mem; k_mem; (with_reducible assumption); (with_reducible assumption); k_mem; k_mem; (with_reducible assumption); (with_reducible assumption); ktr_room; ktr_units; all_goals (first | (refine fun (x' : Addr) (dx' : Addr) o' (h' : Heap) tk' F' N' G' K' => ?_; (try k_sweep); (try k_fold)) | (refine fun (e' : Addr) (g' : Heap) (h' : Heap) (tk' : Nat) FG' S' U' K' => ?_; try dsimp only)))))) | (k_unfold; (try dsimp only)) | (k_end; wrow_close) | (walk1; (all_goals (try dsimp only))) | (dsimp only; walk1) | (leave1; try dsimp only)))
    · rename Fr h0' L2' _ m' => FF; rename News h0' L2' _ _ => NN; rename GlueD _ _ _ => GG; rename ¬ G5.Over _ => KK; exact hret' _ _ _ _ _ _ FF NN GG (resOf_tup KK)
    · rename RaisedSN _ _ _ _ _ _ _ => SS; rename G5.Over _ => OV; exact hr57 _ _ _ _ (by assumption) SS (by assumption) (resOf_over OV)
  intro v9 r9 o9 hh9 h9 tk9 TT9 F9 N9 V9 R9 B9 X9 T9 D9
  (try (replace TT9 := KtsTurn.trans TTa TT9))
  (try clear TTa)
  have TTa := TT9
  clear TT9
  have ar9 : Apart r9 355 := by
    rcases R9 with R9 | R9
    · exact Nat.ne_of_gt (R9 (355, _) (by k_mem))
    · rw [R9]; assumption
  (try k_fold)
  (repeat' (first | ((with_reducible show wpAny _ _ (execs _ _) _ _ _); (fail_if_success (fail_if_success k_fold)); refine foldQ ?_; intro qk ek) | ((with_reducible show wpAny _ _ (exec _ _) _ _ _); (fail_if_success (fail_if_success k_fold)); refine foldQ ?_; intro qk ek; (try (refine foldN (by with_reducible assumption) ?_; intro n9 N9))) | ((with_reducible show wpAny _ _ (call (Value.ref _) _) _ _ _); first | (with_reducible (k_here; (with_reducible show wpAny _ _ (call (Value.ref 339) _) _ _ _); refine metStop ?_)) | (with_reducible (k_here; (with_reducible apply due_c); k_dflt (walk_at "c8"; k_mem; (first | with_reducible assumption | exact lst_mk); ktr_room; ktr_units; k_whole); intro v' r' o' h' tk' F' N' V' R'; k_dflt (have ar' : Apart r' 355 := by (rcases R' with R' | R'; (exact Nat.ne_of_gt (R' (355, _) (by k_mem))); (rw [R']; exact bel_ne' (by with_reducible assumption)))); (try k_sweep); (try k_fold))) | (with_reducible (k_here; (with_reducible apply sum_c); k_dflt (walk_at "c8"; k_mem; k_mem; (with_reducible assumption); (with_reducible assumption); (with_reducible assumption); (with_reducible assumption); (with_reducible assumption); (with_reducible assumption); ktr_room; ktr_units; k_whole); intro r' o' h' tk' F' N' l1' G'; k_dflt (refine tup_open G' N' ?_; clear N' G'; intro t1' t2' t3' t4' t5' o9 n9 G2' N'); (try k_lt l1'); (try k_sweep); (try k_fold)))) | ((with_reducible show wpAny _ _ (compareOp CmpOp.NotEq _ _) _ _ _); first | (with_reducible (k_here; k_dflt (refine' wp_at_top ?tA_q ?tH_q ?_; (case tA_q => exact rfl); (case tH_q => exact rfl); refine' cmpval_c ?k1_q ?k2_q ?k3_q ?k4_q ?k5_q ?kK_q ?m1_q ?v1_q ?m2_q ?v2_q ?e1_q ?kd_q ?ku_q ?_; (case v1_q => with_reducible assumption); (case v2_q => first | with_reducible assumption | exact (show ValIs _ _ _ .over from ⟨_, rfl⟩) | exact (show ValIs _ _ _ (.tup _) from ⟨rfl, tup_mk⟩)); (case k1_q => k_asm); (case k2_q => k_asm); (case k3_q => k_asm); (case k4_q => k_asm); (case k5_q => k_asm); (case kK_q => first | exact rfl | assumption); (case m1_q => k_mem); (case m2_q => k_mem); (case e1_q => first | exact rfl | with_reducible assumption | exact (resOf_norm _).symm | exact res_mul | exact resCut_zero (by assumption) | exact resCut_ne (by assumption) | assumption); (case kd_q => ktr_room); (case ku_q => ktr_units); k_whole)))) | ((with_reducible show wpAny _ _ (eval (Expr.Lambda _ _ _ _) _) _ _ _); first | (with_reducible (k_here; k_dflt (refine' kla_eval ?d0_q ?_; (case d0_q => exact rfl)); k_dflt (refine' kla_any ?F_q ?N_q ?T_q ?C_q ?cd_q ?U_q ?G_q ?hq_q ?sub_q ?ne_q ?cl_q ?_; (case F_q => k_asm); (case N_q => k_asm); (case T_q => k_asm); (case cd_q => exact rfl); (case C_q => kn_code); (case U_q => k_updF); (case G_q => with_reducible assumption); (case hq_q => first | exact rfl | decide +kernel); (case sub_q => (repeat (refine' List.forall_mem_cons.mpr ⟨?ma_q, ?_⟩; (case ma_q => k_mem))); intro q' hq'; (repeat (refine List.mem_cons_of_mem _ ?_)); revert q' hq'; with_reducible assumption); (case ne_q => (repeat (refine' List.forall_mem_cons.mpr ⟨apart_ne ?ma_q, ?_⟩; (case ma_q => first | with_reducible assumption | (dsimp only; with_reducible assumption)))); assumption); (case cl_q => exact rfl); k_whole); intro f' c' oc' vs' t' ct' ps' h' tk' F' N' d1' d2' G' l1' a1' a2' x'; (with_reducible rename CodsNew _ _ _ => cn'); (replace cn' := CodsNew.step cn' x' ⟨_, by k_mem⟩ (fun z hz => by repeat (first | exact hz | refine List.mem_cons_of_mem _ ?_))); clear x'; (try dsimp only at N'); (refine foldO N' ?_; clear N'; intro o9 n9 N'); (try k_lt l1'); (try k_sweep); (try k_fold)))) | ((with_reducible show wpAny _ _ (call (Value.type _) [Value.ref _]) _ _ _); first | (with_reducible (k_here; (with_reducible show wpAny _ _ (call (Value.type _) [Value.ref _]) _ _ _); k_dflt (refine' kup_listOfT ?F_q ?N_q ?b_q ?e_q ?_ ?z_q; (case F_q => k_asm); (case N_q => k_asm); (case b_q => k_mem); (case e_q => kl_lit); (case z_q => kl_room)); intro D' c' h' F' N' l1; (try k_lt l1); (try k_sweep)))) | ((with_reducible show wpAny _ _ (callWith _ (Value.ref _) _ _ _) _ _ _); first | (with_reducible (k_here; k_dflt (refine' callWith_K ?k1_q ?k2_q ?_; (case k1_q => k_asm); (case k2_q => k_is); k_whole)))) | ((with_reducible show wpAny _ _ (eval (Expr.Name _ _) _) _ _ _); first | (with_reducible (k_here; name_kind "globalImplicit"; k_dflt (first | (name_is_builtin; refine' nameX_B ?F_q ?X_q ?T_q ?e_q ?v_q ?n_q ?_ ?a_q ?b_q; (case F_q => k_asm); (case X_q => k_asm); (case T_q => k_asm); (case a_q => rfl); (case b_q => rfl); (case e_q => k_is); (case v_q => boot_fast); (case n_q => decide); k_whole) | (refine' nameX_K ?F_q ?X_q ?T_q ?e_q ?_ ?a_q ?b_q; (case F_q => k_asm); (case X_q => k_asm); (case T_q => k_asm); (case a_q => rfl); (case b_q => rfl); (case e_q => k_is); k_whole)))) | (with_reducible (k_here; name_kind "local"; k_dflt (refine' nameX_L ?F_q ?v_q ?_ ?a_q ?b_q; (case F_q => k_asm); (case a_q => rfl); (case b_q => rfl); (case v_q => rfl); k_whole)))) | (k_unfold; (try dsimp only)) | (k_end; wrow_close) | (walk1; (all_goals (try dsimp only))) | (dsimp only; walk1) | (leave1; try dsimp only)))
  unfold MetStop
  k_dflt (refine' wp_at_top ?tA ?tH ?_; (case tA => exact rfl); (case tH => exact rfl); refine' met_c (bd := 60) (bu := 700) (res := resOf ⟨c * g.norm.w, c * g.norm.u, g.norm.uo, c * g.norm.d, g.norm.od⟩) ?k1 ?k2 ?k3 ?k4 ?k5 ?kK ?XB ?TB ?D ?hn ?hm ?S ?kd ?ku ?kd2 ?ku2 ?_; (case k1 => k_asm); (case k2 => k_asm); (case k3 => k_asm); (case k4 => k_asm); (case k5 => k_asm); (case kK => exact rfl); (case XB => assumption); (case TB => assumption); (case D => assumption); (case hn => exact fun _ h => h); (case hm => k_mem); (case kd => ktr_room); (case ku => ktr_units); (case kd2 => ktr_room); (case ku2 => ktr_units))
  case S =>
    intro dp' un' gd' cn' cs' a' ccd' cl' outer' A0' h0' L2' m' news' s' Q' E' B2' F2' X2' N2' T2' hk' hn' hd' hu' hret' hr57 hr45
    refine wpAny_call ?_
    k_dflt (refine' kla_code ?k1 ?k2 ?k3 ?k4 ?k5 ?kA ?kF ?kK ?k6 ?k7 ?k8 ?k9 ?kB ?_ ?c2 ?c3 ?c4 ?c5; (case kA => exact rfl); (case kF => exact rfl); (case kK => exact hk'); (case k1 => k_asm); (case k2 => k_asm); (case k3 => k_asm); (case k4 => k_asm); (case k5 => k_asm); (case k6 => k_mem); (case k7 => exact codeRec_news (by k_asm) (by k_mem) (by assumption) (by assumption)); (case k8 => ktr_room); (case k9 => exact rfl); (case c5 => decide); (case kB => exact locs rfl); (case c2 => exact rfl); (case c3 => exact rfl); (case c4 => exact rfl); k_whole; intro g3' L3' h3' FG3' F3' N3' B3' X3' T3'; (try k_lift B3'); (refine foldM F3' ?_; clear F3'; intro m9 F3'); (try first | (with_reducible refine foldA ?_; intro A9 d9 u9) | (with_reducible refine foldAu ?_; intro A9 d9 u9)); (try (refine foldE ?_; intro e9)); (try k_unmd); (try (refine foldQ ?_; intro qk ek)); (try dsimp only))
    have kd := ktsDicts_nil (g := g3')
    (repeat' (first | ((with_reducible show wpAny _ _ (execs _ _) _ _ _); (fail_if_success (fail_if_success k_fold)); refine foldQ ?_; intro qk ek) | ((with_reducible show wpAny _ _ (exec _ _) _ _ _); (fail_if_success (fail_if_success k_fold)); refine foldQ ?_; intro qk ek; (try (refine foldN (by with_reducible assumption) ?_; intro n9 N9))) | ((with_reducible show wpAny _ _ (callWith _ (Value.ref _) _ _ _) _ _ _); first | (with_reducible (k_here; k_dflt (refine' callWith_K ?k1_q ?k2_q ?_; (case k1_q => k_asm); (case k2_q => k_is); k_whole)))) | ((with_reducible show wpAny _ _ (leaving _ (Value.ref _)) _ _ _); first | (with_reducible (k_here; (with_reducible rename RaisedSN _ _ _ _ _ _ _ => rs9); k_dflt (refine' leave_onX ?k0_q ?k1_q ?k2_q ?k3_q ?k4_q ?_; (case k0_q => exact rfl); (case k3_q => assumption); (case k2_q => assumption); (case k1_q => assumption); (case k4_q => assumption); k_whole; intro h' S' R' U'; (try dsimp only at S' R' U' ⊢); (try dsimp only [InitBack]))))) | ((with_reducible show wpAny _ _ (call (Value.ref _) _) _ _ _); first | (with_reducible (k_here; (with_reducible apply mtimes_c); k_dflt (walk_at "c8"; k_mem; k_mem; (with_reducible assumption); (with_reducible assumption); (first | with_reducible assumption | omega); (first | with_reducible assumption | omega); ktr_room; ktr_units; all_goals (first | (refine fun (x' : Addr) (dx' : Addr) o' (h' : Heap) tk' F' N' G' K' => ?_; (try k_sweep); (try k_fold)) | (refine fun (e' : Addr) (g' : Heap) (h' : Heap) (tk' : Nat) FG' S' U' K' => ?_; try dsimp only)))))) | (k_unfold; (try dsimp only)) | (k_end; wrow_close) | (walk1; (all_goals (try dsimp only))) | (dsimp only; walk1) | (leave1; try dsimp only)))
    · rename Fr h0' L2' _ m' => FF; rename News h0' L2' _ _ => NN; rename GlueD _ _ _ => GG; rename ¬ G5.Over _ => KK; exact hret' _ _ _ _ _ _ FF NN GG (resOf_tup KK)
    · rename RaisedSN _ _ _ _ _ _ _ => SS; rename G5.Over _ => OV; exact hr57 _ _ _ _ (by assumption) SS (by assumption) (resOf_over OV)
  intro v9 r9 o9 hh9 h9 tk9 TT9 F9 N9 V9 R9 B9 X9 T9 D9
  (try (replace TT9 := KtsTurn.trans TTa TT9))
  (try clear TTa)
  have TTa := TT9
  clear TT9
  have ar9 : Apart r9 355 := by
    rcases R9 with R9 | R9
    · exact Nat.ne_of_gt (R9 (355, _) (by k_mem))
    · rw [R9]; assumption
  (try k_fold)
  have stp : StopHere := trivial
  (repeat' (first | ((with_reducible show wpAny _ _ (execs _ _) _ _ _); (fail_if_success (fail_if_success k_fold)); refine foldQ ?_; intro qk ek) | ((with_reducible show wpAny _ _ (exec _ _) _ _ _); (fail_if_success (fail_if_success k_fold)); refine foldQ ?_; intro qk ek; (try (refine foldN (by with_reducible assumption) ?_; intro n9 N9))) | ((with_reducible show wpAny _ _ (exec (Stmt.If _ _ _ _) _) _ _ _); first | (with_reducible (k_here; (with_reducible rename StopHere => sh'); (with_reducible show wpAny _ _ (exec (Stmt.If (Expr.Compare (Expr.Name _ _) _ _ _) _ _ _) _) _ _ _); clear sh'; refine metStop ?_))) | ((with_reducible show wpAny _ _ (compareOp CmpOp.NotEq _ _) _ _ _); first | (with_reducible (k_here; k_dflt (refine' wp_at_top ?tA_q ?tH_q ?_; (case tA_q => exact rfl); (case tH_q => exact rfl); refine' cmpval_c ?k1_q ?k2_q ?k3_q ?k4_q ?k5_q ?kK_q ?m1_q ?v1_q ?m2_q ?v2_q ?e1_q ?kd_q ?ku_q ?_; (case v1_q => with_reducible assumption); (case v2_q => first | with_reducible assumption | exact (show ValIs _ _ _ .over from ⟨_, rfl⟩) | exact (show ValIs _ _ _ (.tup _) from ⟨rfl, tup_mk⟩)); (case k1_q => k_asm); (case k2_q => k_asm); (case k3_q => k_asm); (case k4_q => k_asm); (case k5_q => k_asm); (case kK_q => first | exact rfl | assumption); (case m1_q => k_mem); (case m2_q => k_mem); (case e1_q => first | exact rfl | with_reducible assumption | exact (resOf_norm _).symm | exact res_mul | exact resCut_zero (by assumption) | exact resCut_ne (by assumption) | assumption); (case kd_q => ktr_room); (case ku_q => ktr_units); k_whole)))) | ((with_reducible show wpAny _ _ (call (Value.ref _) _) _ _ _); first | (with_reducible (k_here; (with_reducible apply due_c); k_dflt (walk_at "c8"; k_mem; (first | with_reducible assumption | exact lst_mk); ktr_room; ktr_units; k_whole); intro v' r' o' h' tk' F' N' V' R'; k_dflt (have ar' : Apart r' 355 := by (rcases R' with R' | R'; (exact Nat.ne_of_gt (R' (355, _) (by k_mem))); (rw [R']; exact bel_ne' (by with_reducible assumption)))); (try k_sweep); (try k_fold)))) | ((with_reducible show wpAny _ _ (subscriptTail (Expr.Name _ _) (Expr.Constant _ _ _) (Value.ref _) (Value.int _ _)) _ _ _); first | (with_reducible (k_here; (with_reducible show wpAny _ _ (subscriptTail _ _ (Value.ref _) (Value.int _ _)) _ _ _); k_dflt (refine' item_seq ?h0_q ?h1_q ?k1_q ?k2_q ?kc_q ?k3_q ?_ ?k4_q; (case h0_q => decide); (case h1_q => decide); (case k1_q => k_asm); (case k2_q => with_reducible k_mem); (case kc_q => first | exact .inl rfl | exact .inr rfl); (case k3_q => exact rfl); (case k4_q => with_unfolding_all rfl); k_whole)))) | ((with_reducible show wpAny _ _ (callWith _ (Value.ref _) _ _ _) _ _ _); first | (with_reducible (k_here; k_dflt (refine' callWith_K ?k1_q ?k2_q ?_; (case k1_q => k_asm); (case k2_q => k_is); k_whole)))) | ((with_reducible show wpAny _ _ (newList _) _ _ _); first | (with_reducible (k_here; k_dflt (refine' newList_V ?F_q ?N_q ?_ ?z_q; (case F_q => k_asm); (case N_q => k_asm); (case z_q => size_fits)); intro D' h' o' n' F' N' l1; (try k_lt l1); (try k_sweep)))) | ((with_reducible show wpAny _ _ (storeName _ _ _) _ _ _); first | (with_reducible (k_here; k_dflt (refine' storeX_V ?F_q ?N_q ?_ ?a_q ?b_q; (case F_q => k_asm); (case N_q => k_asm); (case a_q => rfl); (case b_q => rfl); k_whole; intro h' tk' m' F' N'; (try k_sweep))))) | ((with_reducible show wpAny _ _ (eval (Expr.Name _ _) _) _ _ _); first | (with_reducible (k_here; name_kind "globalImplicit"; k_dflt (first | (name_is_builtin; refine' nameX_B ?F_q ?X_q ?T_q ?e_q ?v_q ?n_q ?_ ?a_q ?b_q; (case F_q => k_asm); (case X_q => k_asm); (case T_q => k_asm); (case a_q => rfl); (case b_q => rfl); (case e_q => k_is); (case v_q => boot_fast); (case n_q => decide); k_whole) | (refine' nameX_K ?F_q ?X_q ?T_q ?e_q ?_ ?a_q ?b_q; (case F_q => k_asm); (case X_q => k_asm); (case T_q => k_asm); (case a_q => rfl); (case b_q => rfl); (case e_q => k_is); k_whole)))) | (with_reducible (k_here; name_kind "local"; k_dflt (refine' nameX_L ?F_q ?v_q ?_ ?a_q ?b_q; (case F_q => k_asm); (case a_q => rfl); (case b_q => rfl); (case v_q => rfl); k_whole)))) | (k_unfold; (try dsimp only)) | (k_end; wrow_close) | (walk1; (all_goals (try dsimp only))) | (dsimp only; walk1) | (leave1; try dsimp only)))
  unfold MetStop
  rename Fr _ _ _ _ => FF; rename News _ _ _ _ => NN; rename Apart _ 355 => ar8
  refine join_due (resCut g.norm b) FF NN ?_ ?_
  · (repeat' (first | ((with_reducible show wpAny _ _ (execs _ _) _ _ _); (fail_if_success (fail_if_success k_fold)); refine foldQ ?_; intro qk ek) | ((with_reducible show wpAny _ _ (exec _ _) _ _ _); (fail_if_success (fail_if_success k_fold)); refine foldQ ?_; intro qk ek; (try (refine foldN (by with_reducible assumption) ?_; intro n9 N9))) | ((with_reducible show wpAny _ _ (call (Value.ref _) _) _ _ _); first | (with_reducible (k_here; (with_reducible apply due_c); k_dflt (walk_at "c8"; k_mem; (first | with_reducible assumption | exact lst_mk); ktr_room; ktr_units; k_whole); intro v' r' o' h' tk' F' N' V' R'; k_dflt (have ar' : Apart r' 355 := by (rcases R' with R' | R'; (exact Nat.ne_of_gt (R' (355, _) (by k_mem))); (rw [R']; exact bel_ne' (by with_reducible assumption)))); (try k_sweep); (try k_fold))) | (with_reducible (k_here; (with_reducible apply cut_c); k_dflt (walk_at "c8"; (first | with_reducible assumption | omega); (first | with_reducible assumption | omega); (first | with_reducible assumption | omega); (first | with_reducible assumption | omega); (first | with_reducible assumption | omega); ktr_room; ktr_units; k_whole); intro t' h' tk' F' N'; (try k_sweep); (try k_fold)))) | ((with_reducible show wpAny _ _ (subscriptTail (Expr.Name _ _) (Expr.Constant _ _ _) (Value.ref _) (Value.int _ _)) _ _ _); first | (with_reducible (k_here; (with_reducible show wpAny _ _ (subscriptTail _ _ (Value.ref _) (Value.int _ _)) _ _ _); k_dflt (refine' item_seq ?h0_q ?h1_q ?k1_q ?k2_q ?kc_q ?k3_q ?_ ?k4_q; (case h0_q => decide); (case h1_q => decide); (case k1_q => k_asm); (case k2_q => with_reducible k_mem); (case kc_q => first | exact .inl rfl | exact .inr rfl); (case k3_q => exact rfl); (case k4_q => with_unfolding_all rfl); k_whole)))) | ((with_reducible show wpAny _ _ (callWith _ (Value.ref _) _ _ _) _ _ _); first | (with_reducible (k_here; k_dflt (refine' callWith_K ?k1_q ?k2_q ?_; (case k1_q => k_asm); (case k2_q => k_is); k_whole)))) | ((with_reducible show wpAny _ _ (newList _) _ _ _); first | (with_reducible (k_here; k_dflt (refine' newList_V ?F_q ?N_q ?_ ?z_q; (case F_q => k_asm); (case N_q => k_asm); (case z_q => size_fits)); intro D' h' o' n' F' N' l1; (try k_lt l1); (try k_sweep)))) | ((with_reducible show wpAny _ _ (storeName _ _ _) _ _ _); first | (with_reducible (k_here; k_dflt (refine' storeX_V ?F_q ?N_q ?_ ?a_q ?b_q; (case F_q => k_asm); (case N_q => k_asm); (case a_q => rfl); (case b_q => rfl); k_whole; intro h' tk' m' F' N'; (try k_sweep))))) | ((with_reducible show wpAny _ _ (eval (Expr.Name _ _) _) _ _ _); first | (with_reducible (k_here; name_kind "globalImplicit"; k_dflt (first | (name_is_builtin; refine' nameX_B ?F_q ?X_q ?T_q ?e_q ?v_q ?n_q ?_ ?a_q ?b_q; (case F_q => k_asm); (case X_q => k_asm); (case T_q => k_asm); (case a_q => rfl); (case b_q => rfl); (case e_q => k_is); (case v_q => boot_fast); (case n_q => decide); k_whole) | (refine' nameX_K ?F_q ?X_q ?T_q ?e_q ?_ ?a_q ?b_q; (case F_q => k_asm); (case X_q => k_asm); (case T_q => k_asm); (case a_q => rfl); (case b_q => rfl); (case e_q => k_is); k_whole)))) | (with_reducible (k_here; name_kind "local"; k_dflt (refine' nameX_L ?F_q ?v_q ?_ ?a_q ?b_q; (case F_q => k_asm); (case a_q => rfl); (case b_q => rfl); (case v_q => rfl); k_whole)))) | (k_unfold; (try dsimp only)) | (k_end; wrow_close) | (walk1; (all_goals (try dsimp only))) | (dsimp only; walk1) | (leave1; try dsimp only)))
    · rename Fr _ _ _ _ => F7; rename News _ _ _ _ => N7; rename ValIs _ _ _ _ => V7; rename Apart _ 355 => a7
      refine ⟨rfl, _, _, _, _, _, rfl, fr_congr F7 (fun y => ?_), ?_, by rw [resCut_ne (by assumption)]; exact V7, a7⟩
      · by_cases e : y = Str.ofString "due"
        · rw [if_pos e]; exact if_pos e
        · rw [if_neg e]; exact (if_neg e).trans (if_neg e)
      · exact fun q hq => N7 q (by rcases List.mem_cons.mp hq with rfl | hq; (exact .head _); exact .tail _ (.tail _ hq))
    · rename Fr _ _ _ _ => F7; rename News _ _ _ _ => N7
      exact ⟨rfl, _, _, _, _, _, rfl, F7, news_dup N7 (.head _), by rw [resCut_zero (by assumption)]; exact ⟨_, rfl⟩, ar8⟩
  intro h8 tk8 v8 r8 o8 F8 N8 V8 ar7
  dsimp only
  (repeat' (first | ((with_reducible show wpAny _ _ (execs _ _) _ _ _); (fail_if_success (fail_if_success k_fold)); refine foldQ ?_; intro qk ek) | ((with_reducible show wpAny _ _ (exec _ _) _ _ _); (fail_if_success (fail_if_success k_fold)); refine foldQ ?_; intro qk ek; (try (refine foldN (by with_reducible assumption) ?_; intro n9 N9))) | ((with_reducible show wpAny _ _ (call (Value.ref _) _) _ _ _); first | (with_reducible (k_here; (with_reducible show wpAny _ _ (call (Value.ref 339) _) _ _ _); refine metStop ?_))) | ((with_reducible show wpAny _ _ (eval (Expr.Lambda _ _ _ _) _) _ _ _); first | (with_reducible (k_here; k_dflt (refine' kla_eval ?d0_q ?_; (case d0_q => exact rfl)); k_dflt (refine' kla_any ?F_q ?N_q ?T_q ?C_q ?cd_q ?U_q ?G_q ?hq_q ?sub_q ?ne_q ?cl_q ?_; (case F_q => k_asm); (case N_q => k_asm); (case T_q => k_asm); (case cd_q => exact rfl); (case C_q => kn_code); (case U_q => k_updF); (case G_q => with_reducible assumption); (case hq_q => first | exact rfl | decide +kernel); (case sub_q => (repeat (refine' List.forall_mem_cons.mpr ⟨?ma_q, ?_⟩; (case ma_q => k_mem))); intro q' hq'; (repeat (refine List.mem_cons_of_mem _ ?_)); revert q' hq'; with_reducible assumption); (case ne_q => (repeat (refine' List.forall_mem_cons.mpr ⟨apart_ne ?ma_q, ?_⟩; (case ma_q => first | with_reducible assumption | (dsimp only; with_reducible assumption)))); assumption); (case cl_q => exact rfl); k_whole); intro f' c' oc' vs' t' ct' ps' h' tk' F' N' d1' d2' G' l1' a1' a2' x'; (with_reducible rename CodsNew _ _ _ => cn'); (replace cn' := CodsNew.step cn' x' ⟨_, by k_mem⟩ (fun z hz => by repeat (first | exact hz | refine List.mem_cons_of_mem _ ?_))); clear x'; (try dsimp only at N'); (refine foldO N' ?_; clear N'; intro o9 n9 N'); (try k_lt l1'); (try k_sweep); (try k_fold)))) | ((with_reducible show wpAny _ _ (callWith _ (Value.ref _) _ _ _) _ _ _); first | (with_reducible (k_here; k_dflt (refine' callWith_K ?k1_q ?k2_q ?_; (case k1_q => k_asm); (case k2_q => k_is); k_whole)))) | ((with_reducible show wpAny _ _ (eval (Expr.Name _ _) _) _ _ _); first | (with_reducible (k_here; name_kind "globalImplicit"; k_dflt (first | (name_is_builtin; refine' nameX_B ?F_q ?X_q ?T_q ?e_q ?v_q ?n_q ?_ ?a_q ?b_q; (case F_q => k_asm); (case X_q => k_asm); (case T_q => k_asm); (case a_q => rfl); (case b_q => rfl); (case e_q => k_is); (case v_q => boot_fast); (case n_q => decide); k_whole) | (refine' nameX_K ?F_q ?X_q ?T_q ?e_q ?_ ?a_q ?b_q; (case F_q => k_asm); (case X_q => k_asm); (case T_q => k_asm); (case a_q => rfl); (case b_q => rfl); (case e_q => k_is); k_whole))))) | (k_unfold; (try dsimp only)) | (k_end; wrow_close) | (walk1; (all_goals (try dsimp only))) | (dsimp only; walk1) | (leave1; try dsimp only)))
  unfold MetStop
  k_dflt (refine' wp_at_top ?tA ?tH ?_; (case tA => exact rfl); (case tH => exact rfl); refine' met_c (bd := 60) (bu := 700) (res := resCut g.norm b) ?k1 ?k2 ?k3 ?k4 ?k5 ?kK ?XB ?TB ?D ?hn ?hm ?S ?kd ?ku ?kd2 ?ku2 ?_; (case k1 => k_asm); (case k2 => k_asm); (case k3 => k_asm); (case k4 => k_asm); (case k5 => k_asm); (case kK => exact rfl); (case XB => assumption); (case TB => assumption); (case D => assumption); (case hn => exact fun _ h => h); (case hm => k_mem); (case kd => ktr_room); (case ku => ktr_units); (case kd2 => ktr_room); (case ku2 => ktr_units))
  case S =>
    intro dp' un' gd' cn' cs' a' ccd' cl' outer' A0' h0' L2' m' news' s' Q' E' B2' F2' X2' N2' T2' hk' hn' hd' hu' hret' hr57 hr45
    refine wpAny_call ?_
    k_dflt (refine' kla_code ?k1 ?k2 ?k3 ?k4 ?k5 ?kA ?kF ?kK ?k6 ?k7 ?k8 ?k9 ?kB ?_ ?c2 ?c3 ?c4 ?c5; (case kA => exact rfl); (case kF => exact rfl); (case kK => exact hk'); (case k1 => k_asm); (case k2 => k_asm); (case k3 => k_asm); (case k4 => k_asm); (case k5 => k_asm); (case k6 => k_mem); (case k7 => exact codeRec_news (by k_asm) (by k_mem) (by assumption) (by assumption)); (case k8 => ktr_room); (case k9 => exact rfl); (case c5 => decide); (case kB => exact locs rfl); (case c2 => exact rfl); (case c3 => exact rfl); (case c4 => exact rfl); k_whole; intro g3' L3' h3' FG3' F3' N3' B3' X3' T3'; (try k_lift B3'); (refine foldM F3' ?_; clear F3'; intro m9 F3'); (try first | (with_reducible refine foldA ?_; intro A9 d9 u9) | (with_reducible refine foldAu ?_; intro A9 d9 u9)); (try (refine foldE ?_; intro e9)); (try k_unmd); (try (refine foldQ ?_; intro qk ek)); (try dsimp only))
    have kd := ktsDicts_nil (g := g3')
    (repeat' (first | ((with_reducible show wpAny _ _ (execs _ _) _ _ _); (fail_if_success (fail_if_success k_fold)); refine foldQ ?_; intro qk ek) | ((with_reducible show wpAny _ _ (exec _ _) _ _ _); (fail_if_success (fail_if_success k_fold)); refine foldQ ?_; intro qk ek; (try (refine foldN (by with_reducible assumption) ?_; intro n9 N9))) | ((with_reducible show wpAny _ _ (callWith _ (Value.ref _) _ _ _) _ _ _); first | (with_reducible (k_here; k_dflt (refine' callWith_K ?k1_q ?k2_q ?_; (case k1_q => k_asm); (case k2_q => k_is); k_whole)))) | ((with_reducible show wpAny _ _ (leaving _ (Value.ref _)) _ _ _); first | (with_reducible (k_here; (with_reducible rename RaisedSN _ _ _ _ _ _ _ => rs9); k_dflt (refine' leave_onX ?k0_q ?k1_q ?k2_q ?k3_q ?k4_q ?_; (case k0_q => exact rfl); (case k3_q => assumption); (case k2_q => assumption); (case k1_q => assumption); (case k4_q => assumption); k_whole; intro h' S' R' U'; (try dsimp only at S' R' U' ⊢); (try dsimp only [InitBack]))))) | ((with_reducible show wpAny _ _ (call (Value.ref _) _) _ _ _); first | (with_reducible (k_here; (with_reducible apply mover_c); k_dflt (walk_at "c8"; k_mem; k_mem; (with_reducible assumption); (with_reducible assumption); (first | with_reducible assumption | omega); (first | with_reducible assumption | omega); ktr_room; ktr_units; all_goals (first | (refine fun (x' : Addr) (dx' : Addr) o' (h' : Heap) tk' F' N' G' K' e1' => ?_; (try k_sweep); (try k_fold)) | (refine fun (e' : Addr) (g' : Heap) (h' : Heap) (tk' : Nat) FG' S' U' K' => ?_; try dsimp only)))))) | (k_unfold; (try dsimp only)) | (k_end; wrow_close) | (walk1; (all_goals (try dsimp only))) | (dsimp only; walk1) | (leave1; try dsimp only)))
    · rename Fr h0' L2' _ m' => FF; rename News h0' L2' _ _ => NN; rename GlueD _ _ _ => GG; rename ¬ G5.Over _ => KK; exact hret' _ _ _ _ _ _ FF NN GG (resCut_tup (by assumption) KK)
    · rename RaisedSN _ _ _ _ _ _ _ => SS; rename _ ∨ G5.Over _ => OV; exact hr57 _ _ _ _ (by assumption) SS (by assumption) (resCut_over OV)
  intro v9 r9 o9 hh9 h9 tk9 TT9 F9 N9 V9 R9 B9 X9 T9 D9
  (try (replace TT9 := KtsTurn.trans TTa TT9))
  (try clear TTa)
  have TTa := TT9
  clear TT9
  have ar9 : Apart r9 355 := by
    rcases R9 with R9 | R9
    · exact Nat.ne_of_gt (R9 (355, _) (by k_mem))
    · rw [R9]; assumption
  (try k_fold)
  (repeat' (first | ((with_reducible show wpAny _ _ (execs _ _) _ _ _); (fail_if_success (fail_if_success k_fold)); refine foldQ ?_; intro qk ek) | ((with_reducible show wpAny _ _ (exec _ _) _ _ _); (fail_if_success (fail_if_success k_fold)); refine foldQ ?_; intro qk ek; (try (refine foldN (by with_reducible assumption) ?_; intro n9 N9))) | ((with_reducible show wpAny _ _ (call (Value.ref _) _) _ _ _); first | (with_reducible (k_here; (with_reducible show wpAny _ _ (call (Value.ref 339) _) _ _ _); refine metStop ?_))) | ((with_reducible show wpAny _ _ (compareOp CmpOp.NotEq _ _) _ _ _); first | (with_reducible (k_here; k_dflt (refine' wp_at_top ?tA_q ?tH_q ?_; (case tA_q => exact rfl); (case tH_q => exact rfl); refine' cmpval_c ?k1_q ?k2_q ?k3_q ?k4_q ?k5_q ?kK_q ?m1_q ?v1_q ?m2_q ?v2_q ?e1_q ?kd_q ?ku_q ?_; (case v1_q => with_reducible assumption); (case v2_q => first | with_reducible assumption | exact (show ValIs _ _ _ .over from ⟨_, rfl⟩) | exact (show ValIs _ _ _ (.tup _) from ⟨rfl, tup_mk⟩)); (case k1_q => k_asm); (case k2_q => k_asm); (case k3_q => k_asm); (case k4_q => k_asm); (case k5_q => k_asm); (case kK_q => first | exact rfl | assumption); (case m1_q => k_mem); (case m2_q => k_mem); (case e1_q => first | exact rfl | with_reducible assumption | exact (resOf_norm _).symm | exact res_mul | exact resCut_zero (by assumption) | exact resCut_ne (by assumption) | assumption); (case kd_q => ktr_room); (case ku_q => ktr_units); k_whole)))) | ((with_reducible show wpAny _ _ (eval (Expr.Lambda _ _ _ _) _) _ _ _); first | ((k_here; k_dflt (refine' kla_eval ?d0_q ?_; (case d0_q => exact rfl)); k_dflt (refine' kla_any ?F_q ?N_q ?T_q ?C_q ?cd_q ?U_q ?G_q ?hq_q ?sub_q ?ne_q ?cl_q ?_; (case F_q => k_asm); (case N_q => k_asm); (case T_q => k_asm); (case cd_q => exact rfl); (case C_q => kn_code); (case U_q => k_updF); (case G_q => with_reducible assumption); (case hq_q => first | exact rfl | decide +kernel); (case sub_q => (repeat (refine' List.forall_mem_cons.mpr ⟨?ma_q, ?_⟩; (case ma_q => k_mem))); intro q' hq'; (repeat (refine List.mem_cons_of_mem _ ?_)); revert q' hq'; with_reducible assumption); (case ne_q => (repeat (refine' List.forall_mem_cons.mpr ⟨apart_ne ?ma_q, ?_⟩; (case ma_q => first | with_reducible assumption | (dsimp only; with_reducible assumption)))); assumption); (case cl_q => exact rfl); k_whole); intro f' c' oc' vs' t' ct' ps' h' tk' F' N' d1' d2' G' l1' a1' a2' x'; (with_reducible rename CodsNew _ _ _ => cn'); (replace cn' := CodsNew.step cn' x' ⟨_, by k_mem⟩ (fun z hz => by repeat (first | exact hz | refine List.mem_cons_of_mem _ ?_))); clear x'; (try dsimp only at N'); (refine foldO N' ?_; clear N'; intro o9 n9 N'); (try k_lt l1'); (try k_sweep); (try k_fold)))) | ((with_reducible show wpAny _ _ (callWith _ (Value.ref _) _ _ _) _ _ _); first | (with_reducible (k_here; k_dflt (refine' callWith_K ?k1_q ?k2_q ?_; (case k1_q => k_asm); (case k2_q => k_is); k_whole)))) | ((with_reducible show wpAny _ _ (eval (Expr.Name _ _) _) _ _ _); first | (with_reducible (k_here; name_kind "globalImplicit"; k_dflt (first | (name_is_builtin; refine' nameX_B ?F_q ?X_q ?T_q ?e_q ?v_q ?n_q ?_ ?a_q ?b_q; (case F_q => k_asm); (case X_q => k_asm); (case T_q => k_asm); (case a_q => rfl); (case b_q => rfl); (case e_q => k_is); (case v_q => boot_fast); (case n_q => decide); k_whole) | (refine' nameX_K ?F_q ?X_q ?T_q ?e_q ?_ ?a_q ?b_q; (case F_q => k_asm); (case X_q => k_asm); (case T_q => k_asm); (case a_q => rfl); (case b_q => rfl); (case e_q => k_is); k_whole)))) | (with_reducible (k_here; name_kind "local"; k_dflt (refine' nameX_L ?F_q ?v_q ?_ ?a_q ?b_q; (case F_q => k_asm); (case a_q => rfl); (case b_q => rfl); (case v_q => rfl); k_whole)))) | (k_unfold; (try dsimp only)) | (k_end; wrow_close) | (walk1; (all_goals (try dsimp only))) | (dsimp only; walk1) | (leave1; try dsimp only)))
  unfold MetStop
  k_dflt (refine' wp_at_top ?tA ?tH ?_; (case tA => exact rfl); (case tH => exact rfl); refine' met_c (bd := 60) (bu := 700) (res := resOf ⟨-g.norm.w, -g.norm.u, g.norm.uo, -g.norm.d, g.norm.od⟩) ?k1 ?k2 ?k3 ?k4 ?k5 ?kK ?XB ?TB ?D ?hn ?hm ?S ?kd ?ku ?kd2 ?ku2 ?_; (case k1 => k_asm); (case k2 => k_asm); (case k3 => k_asm); (case k4 => k_asm); (case k5 => k_asm); (case kK => exact rfl); (case XB => assumption); (case TB => assumption); (case D => assumption); (case hn => exact fun _ h => h); (case hm => k_mem); (case kd => ktr_room); (case ku => ktr_units); (case kd2 => ktr_room); (case ku2 => ktr_units))
  case S =>
    intro dp' un' gd' cn' cs' a' ccd' cl' outer' A0' h0' L2' m' news' s' Q' E' B2' F2' X2' N2' T2' hk' hn' hd' hu' hret' hr57 hr45
    refine wpAny_call ?_
    k_dflt (refine' kla_code ?k1 ?k2 ?k3 ?k4 ?k5 ?kA ?kF ?kK ?k6 ?k7 ?k8 ?k9 ?kB ?_ ?c2 ?c3 ?c4 ?c5; (case kA => exact rfl); (case kF => exact rfl); (case kK => exact hk'); (case k1 => k_asm); (case k2 => k_asm); (case k3 => k_asm); (case k4 => k_asm); (case k5 => k_asm); (case k6 => k_mem); (case k7 => exact codeRec_news (by k_asm) (by k_mem) (by assumption) (by assumption)); (case k8 => ktr_room); (case k9 => exact rfl); (case c5 => decide); (case kB => exact locs rfl); (case c2 => exact rfl); (case c3 => exact rfl); (case c4 => exact rfl); k_whole; intro g3' L3' h3' FG3' F3' N3' B3' X3' T3'; (try k_lift B3'); (refine foldM F3' ?_; clear F3'; intro m9 F3'); (try first | (with_reducible refine foldA ?_; intro A9 d9 u9) | (with_reducible refine foldAu ?_; intro A9 d9 u9)); (try (refine foldE ?_; intro e9)); (try k_unmd); (try (refine foldQ ?_; intro qk ek)); (try dsimp only))
    have kd := ktsDicts_nil (g := g3')
    (repeat' (first | ((with_reducible show wpAny _ _ (execs _ _) _ _ _); (fail_if_success (fail_if_success k_fold)); refine foldQ ?_; intro qk ek) | ((with_reducible show wpAny _ _ (exec _ _) _ _ _); (fail_if_success (fail_if_success k_fold)); refine foldQ ?_; intro qk ek; (try (refine foldN (by with_reducible assumption) ?_; intro n9 N9))) | ((with_reducible show wpAny _ _ (callWith _ (Value.ref _) _ _ _) _ _ _); first | (with_reducible (k_here; (with_reducible show wpAny _ _ (callWith _ _ _ (backTo _ (starEach [] _)) []) _ _ _); k_dflt (refine' callWith_K0F ?k1_q ?k2_q ?k3_q ?_; (case k1_q => k_asm); (case k2_q => k_asm); (case k3_q => k_is); k_whole)))) | ((with_reducible show wpAny _ _ (leaving _ (Value.ref _)) _ _ _); first | (with_reducible (k_here; (with_reducible rename RaisedSN _ _ _ _ _ _ _ => rs9); k_dflt (refine' leave_onX ?k0_q ?k1_q ?k2_q ?k3_q ?k4_q ?_; (case k0_q => exact rfl); (case k3_q => assumption); (case k2_q => assumption); (case k1_q => assumption); (case k4_q => assumption); k_whole; intro h' S' R' U'; (try dsimp only at S' R' U' ⊢); (try dsimp only [InitBack]))))) | ((with_reducible show wpAny _ _ (call (Value.ref _) _) _ _ _); first | (with_reducible (k_here; (with_reducible apply neg_c); k_dflt (walk_at "c8"; k_mem; k_mem; (with_reducible assumption); (with_reducible assumption); ktr_room; ktr_units; all_goals (first | (refine fun (x' : Addr) (dx' : Addr) o' (h' : Heap) tk' F' N' G' K' => ?_; (try k_sweep); (try k_fold)) | (refine fun (e' : Addr) (g' : Heap) (h' : Heap) (tk' : Nat) FG' S' U' K' => ?_; try dsimp only)))))) | (k_unfold; (try dsimp only)) | (k_end; wrow_close) | (walk1; (all_goals (try dsimp only))) | (dsimp only; walk1) | (leave1; try dsimp only)))
    · rename Fr h0' L2' _ m' => FF; rename News h0' L2' _ _ => NN; rename GlueD _ _ _ => GG; rename ¬ G5.Over _ => KK; exact hret' _ _ _ _ _ _ FF NN GG (resOf_tup KK)
    · rename RaisedSN _ _ _ _ _ _ _ => SS; rename G5.Over _ => OV; exact hr57 _ _ _ _ (by assumption) SS (by assumption) (resOf_over OV)
  intro v9 r9 o9 hh9 h9 tk9 TT9 F9 N9 V9 R9 B9 X9 T9 D9
  (try (replace TT9 := KtsTurn.trans TTa TT9))
  (try clear TTa)
  have TTa := TT9
  clear TT9
  have ar9 : Apart r9 355 := by
    rcases R9 with R9 | R9
    · exact Nat.ne_of_gt (R9 (355, _) (by k_mem))
    · rw [R9]; assumption
  (try k_fold)
  (repeat' (first | ((with_reducible show wpAny _ _ (execs _ _) _ _ _); (fail_if_success (fail_if_success k_fold)); refine foldQ ?_; intro qk ek) | ((with_reducible show wpAny _ _ (exec _ _) _ _ _); (fail_if_success (fail_if_success k_fold)); refine foldQ ?_; intro qk ek; (try (refine foldN (by with_reducible assumption) ?_; intro n9 N9))) | ((with_reducible show wpAny _ _ (compareOp CmpOp.NotEq _ _) _ _ _); first | (with_reducible (k_here; (with_reducible show wpAny _ _ (compareOp _ _ (Value.ref _)) _ _ _); k_dflt (refine' wp_at_top ?tA_q ?tH_q ?_; (case tA_q => exact rfl); (case tH_q => exact rfl); refine' cmptup_c ?k1_q ?k2_q ?k3_q ?k4_q ?k5_q ?kK_q ?m1_q ?v1_q ?m2_q ?v2_q ?e1_q ?kd_q ?ku_q ?_; (case v1_q => with_reducible assumption); (case k1_q => k_asm); (case k2_q => k_asm); (case k3_q => k_asm); (case k4_q => k_asm); (case k5_q => k_asm); (case kK_q => first | exact rfl | assumption); (case m1_q => k_mem); (case m2_q => k_mem); (case v2_q => first | with_reducible assumption | exact tup_mk); (case e1_q => with_reducible assumption); (case kd_q => ktr_room); (case ku_q => ktr_units); k_whole)))) | ((with_reducible show wpAny _ _ (call (Value.ref _) _) _ _ _); first | (with_reducible (k_here; (with_reducible apply glue_c); k_dflt (walk_at "c8"; (first | with_reducible assumption | omega); (first | with_reducible assumption | omega); (first | with_reducible assumption | omega); (first | with_reducible assumption | omega); ktr_room; ktr_units; all_goals (first | (refine fun (x' : Addr) (dx' : Addr) (o' : Obj) h' tk' F' N' l1' l2' G' e1' => ?_; refine glue_open G' N' ?_; clear N' G'; intro k1' k2' k3' k4' k5' t1' t2' t3' t4' t5' o9 n9 G2' N'; (have l3' := fun p hp => Nat.lt_trans (l1' p hp) l2'); (try k_lt l1'); (try k_lt l3'); (try k_lt2 l2'); (try k_sweep); (try k_fold)) | (refine fun (e' : Addr) (g' : Heap) (h' : Heap) (tk' : Nat) FG' S' U' e1' => ?_; exfalso; first | exact not_over (by with_reducible assumption) (by with_reducible assumption) (by with_reducible assumption) (by with_reducible assumption) (by with_reducible assumption) (by with_reducible assumption) e1' | (unfold G5.Over MX at e1'; dsimp only at e1'; omega)))))) | (with_reducible (k_here; (with_reducible apply same_c); k_dflt (walk_at "c8"; k_mem; k_mem; (with_reducible assumption); k_mem; k_mem; (with_reducible assumption); ktr_room; ktr_units; k_whole); intro h' tk' F' N'; (try k_sweep); (try k_fold))) | (with_reducible (k_here; (with_reducible apply tdue_c); k_dflt (walk_at "c8"; k_mem; (with_reducible assumption); (with_reducible assumption); (first | with_reducible assumption | decide); ktr_room; ktr_units; k_whole); intro t' h' tk' F' N'; (try k_sweep); (try k_fold))) | (with_reducible (k_here; (with_reducible apply gtext0_c); k_dflt (walk_at "c8"; k_mem; k_mem; (with_reducible assumption); (with_reducible assumption); ktr_room; ktr_units; k_whole); intro t' h' tk' F' N'; (try k_sweep); (try k_fold))) | (with_reducible (k_here; (with_reducible apply gtext_c); k_dflt (walk_at "c8"; k_mem; k_mem; (with_reducible assumption); (with_reducible assumption); (first | with_reducible assumption | decide); ktr_room; ktr_units; k_whole); intro t' h' tk' F' N'; (try k_sweep); (try k_fold))) | (with_reducible (k_here; (with_reducible apply gparts_c); k_dflt (walk_at "c8"; k_mem; k_mem; (with_reducible assumption); ktr_room; ktr_units; k_whole); intro r' o' h' tk' F' N' l1' G'; (try k_lt l1'); (try k_sweep); (try k_fold)))) | ((with_reducible show wpAny _ _ (subscriptTail (Expr.Name _ _) (Expr.Constant _ _ _) (Value.ref _) (Value.int _ _)) _ _ _); first | (with_reducible (k_here; (with_reducible show wpAny _ _ (subscriptTail _ _ (Value.ref _) (Value.int _ _)) _ _ _); k_dflt (refine' item_seq ?h0_q ?h1_q ?k1_q ?k2_q ?kc_q ?k3_q ?_ ?k4_q; (case h0_q => decide); (case h1_q => decide); (case k1_q => k_asm); (case k2_q => with_reducible k_mem); (case kc_q => first | exact .inl rfl | exact .inr rfl); (case k3_q => exact rfl); (case k4_q => with_unfolding_all rfl); k_whole)))) | ((with_reducible show wpAny _ _ (callWith _ (Value.ref _) _ _ _) _ _ _); first | (with_reducible (k_here; (with_reducible show wpAny _ _ (callWith _ _ _ (backTo _ (starEach [] _)) []) _ _ _); k_dflt (refine' callWith_K0F ?k1_q ?k2_q ?k3_q ?_; (case k1_q => k_asm); (case k2_q => k_asm); (case k3_q => k_is); k_whole))) | (with_reducible (k_here; k_dflt (refine' callWith_K ?k1_q ?k2_q ?_; (case k1_q => k_asm); (case k2_q => k_is); k_whole)))) | ((with_reducible show wpAny _ _ (compareOp CmpOp.Eq (Value.ref _) (Value.ref _)) _ _ _); first | (with_reducible (k_here; k_dflt (refine' wp_at_top ?tA_q ?tH_q ?_; (case tA_q => exact rfl); (case tH_q => exact rfl); refine' cmpeq_c ?k1_q ?k2_q ?k3_q ?k4_q ?k5_q ?kK_q ?m1_q ?m2_q ?m3_q ?m4_q ?kd_q ?ku_q ?_; (case k1_q => k_asm); (case k2_q => k_asm); (case k3_q => k_asm); (case k4_q => k_asm); (case k5_q => k_asm); (case kK_q => first | exact rfl | assumption); (case m1_q => k_mem); (case m2_q => k_mem); (case m3_q => with_reducible assumption); (case m4_q => with_reducible assumption); (case kd_q => ktr_room); (case ku_q => ktr_units); k_whole)))) | ((with_reducible show wpAny _ _ (newTuple _) _ _ _); first | (with_reducible (k_here; k_dflt (refine' newTuple_V ?F_q ?N_q ?_ ?z_q; (case F_q => k_asm); (case N_q => k_asm); (case z_q => kmk_size)); intro D' h' o' n' F' N' l1; (try k_lt l1); (try k_sweep)))) | ((with_reducible show wpAny _ _ (eval (Expr.Name _ _) _) _ _ _); first | (with_reducible (k_here; name_kind "globalImplicit"; k_dflt (first | (name_is_builtin; refine' nameX_B ?F_q ?X_q ?T_q ?e_q ?v_q ?n_q ?_ ?a_q ?b_q; (case F_q => k_asm); (case X_q => k_asm); (case T_q => k_asm); (case a_q => rfl); (case b_q => rfl); (case e_q => k_is); (case v_q => boot_fast); (case n_q => decide); k_whole) | (refine' nameX_K ?F_q ?X_q ?T_q ?e_q ?_ ?a_q ?b_q; (case F_q => k_asm); (case X_q => k_asm); (case T_q => k_asm); (case a_q => rfl); (case b_q => rfl); (case e_q => k_is); k_whole)))) | (with_reducible (k_here; name_kind "local"; k_dflt (refine' nameX_L ?F_q ?v_q ?_ ?a_q ?b_q; (case F_q => k_asm); (case a_q => rfl); (case b_q => rfl); (case v_q => rfl); k_whole)))) | (k_unfold; (try dsimp only)) | (k_end; wrow_close) | (walk1; (all_goals (try dsimp only))) | (dsimp only; walk1) | (leave1; try dsimp only)))
  all_goals first
    | (exfalso; rename (textS _ _ != textS _ _) = true => q9; exact absurd q9 (by rw [show ∀ (x : Str), (x != x) = false from fun x => bne_self_eq_false x]; exact Bool.false_ne_true))
    | (exfalso; rename G5.eqb _ _ = false => q9; exact absurd q9 (by rw [show G5.eqb _ _ = true from eqb_self _]; exact Bool.noConfusion))
    | (exfalso; rename (_ == _) = false => q9; exact absurd q9 (by rw [show (_ == _) = true from beq_self_eq_true _]; exact Bool.noConfusion))
    | skip
  rename Fr _ L _ m => kF; rename News _ L _ _ => kN; rename KtsTurn (List.filterMap _ outer) h₀ _ => kT; rename Below A₀ base outer _ => kB; rename (Mine.hd.heap_1 w.params).In _ => kX; rename Top _ _ _ _ _ _ => kP; rename KtsDicts (List.filterMap _ outer) _ => kD
  rename TabGood _ _ _ => GG; rename CodsNew _ _ _ => cn
  show Q (Value.bool (G5.eqb g.norm g.norm.norm)) _
  rw [norm_norm, eqb_self]
  refine hret _ _ _ _ _ kT kF (fun q hq => kN q ?_) (fun q hq => kN q ?_) GG (fun q hq => ?_) kB kX kP kD
  · rcases List.mem_cons.mp hq with rfl | hq
    · k_mem
    · repeat (first | exact hq | refine List.mem_cons_of_mem _ ?_)
  · rcases List.mem_cons.mp hq with rfl | hq
    · k_mem
    rcases List.mem_cons.mp hq with rfl | hq
    · k_mem
    rcases List.mem_cons.mp hq with rfl | hq
    · k_mem
    rcases List.mem_cons.mp hq with rfl | hq
    · k_mem
    · have hq2 := hsub q hq
      repeat (first | exact hq2 | refine List.mem_cons_of_mem _ ?_)
  · rcases cn q hq with h | ⟨h, h'⟩
    · exact .inl h
    · exact .inr (List.forall_mem_cons.mpr ⟨h, h'⟩)
end
end
open PyProof.Rows.LCg in
def RlD (fs : List Addr) (A : Around) (base : Heap) (l : List Env) (K : Frag) (p : Program) (loose : List Str) (mean : ExcName → Option Value) (mg mb : Str → Option Value) (g' g : Heap) : Prop :=
  KtsTurn fs g' g ∧ Below A base l g ∧ K.In g ∧ Top p loose mean mg mb g ∧ KtsDicts fs g
def DoorOk (w : World) (base : Heap) (p : Program) (loose : List Str) (mean : ExcName → Option Value) (mg mb : Str → Option Value) (res : Res) (need : List (Addr × Obj)) (v : Value) : Prop :=
  ∃ (f : Addr), v = .ref f ∧ ∃ (oc : Value) (od : Option Addr) (fd : FuncData) (sl : Array (Option Value)), (f, (⟨oc, od, .func fd, sl⟩ : Obj)) ∈ need ∧ DeedSpec w base p loose mean mg mb f need 60 700 res
open PyProof.Rows.LCg in
theorem door_src {prog : Program} {w w₁ : World} {A : Around} {Rl : Heap → Prop} {h₀ : Heap} {L : Addr} {m : Str → Option Value} {env : Env} {elt : Expr} {ifs : List Expr} {scope : Scope} {cl : List (Str × Addr)}
    {β : Type} {BP : Value → β → List (Addr × Obj) → Prop} {BR : β → (Str → Option Value) → Prop} {Fin : Shared → Heap → List Value → List (Addr × Obj) → Prop} {ax : Addr} {its : List Value} {k : Nat} {news : List (Addr × Obj)} {s₁ : Shared}
    {base : Heap} {p₁ : Program} {loose : List Str} {mean : ExcName → Option Value} {mg mb : Str → Option Value} {res : Res}
    (hh : A.handled = none) (F : Fr h₀ L s₁.heap m) (N : News h₀ L s₁.heap news) (hm : (ax, ({ cls := .type "list", data := .seq its.toArray k } : Obj)) ∈ news) (hsz : its.toArray.size ≤ sizeLine)
    (hS : ∀ v ∈ its, DoorOk w₁ base p₁ loose mean mg mb res news v)
    (h : ∀ g, (∀ v ∈ its, DoorOk w₁ base p₁ loose mean mg mb res news v) → CompX prog w A Rl L m env elt ifs scope cl { s₁ with heap := g } (SeqAt "list" ax its.toArray) (fun i v => its.toArray[i]? = some v) BP BR (Fin { s₁ with heap := g }) its.toArray.size 0 [] h₀ news) :
    SrcX prog w A "list" Rl h₀ L m env elt ifs scope cl BP BR Fin (.ref ax) s₁ := SrcX.mk hh F N hm hsz fun g => h g hS
open PyProof.Rows.LCg in
theorem compX_inv {prog : Program} {w : World} {A : Around} {Rl : Heap → Prop} {L : Addr} {m : Str → Option Value} {env : Env} {elt : Expr} {x : Str} {scope : Scope} {cl : List (Str × Addr)} {s : Shared} {its : Array Value} {ax : Addr} {Fin : Heap → List Value → List (Addr × Obj) → Prop} {news : List (Addr × Obj)} (J : Nat → List Value → Prop)
    (step : ∀ i ys v g I oI C oC D m₂ h tk (E' : Value → Shared → Prop), its[i]? = some v → Rl g → J i ys → NsObj oC m₂ → m₂ x = some v → Fr g L h m → News g L h ((I, oI) :: (C, oC) :: (D, lst ys) :: news) → Off3 I C D news → ((@Ne Nat I C) ∧ (@Ne Nat I D) ∧ (@Ne Nat C D)) →
      wpAny (model prog w) A (eval elt (compEnvC scope cl C env)) (fun y s₂ => ∃ g' h' tk', Rl g' ∧ s₂ = { s with heap := h', toks := tk' } ∧ Fr g' L h' m ∧ News g' L h' ((I, oI) :: (C, oC) :: (D, lst ys) :: news) ∧ J (i + 1) (ys ++ [y])) E' { s with heap := h, toks := tk })
    (hfin : ∀ g ys, Rl g → J its.size ys → Fin g ys news) (hS : SeqAt "list" ax its news) :
    ∀ k i ys g, i + k = its.size → Rl g → J i ys → CompX prog w A Rl L m env elt [] scope cl s (SeqAt "list" ax its) (fun i v => its[i]? = some v) (fun v b _ => v = b) (fun b m₂ => m₂ x = some b) Fin k i ys g news
  | 0, i, ys, g, e, r, j => hfin g ys r (by rw [← e]; exact j)
  | k + 1, i, ys, g, e, r, j => fun v hv => ⟨v, rfl, fun I oI C oC D m₂ h tk E' h1 h2 h3 h4 h5 h6 => tsts_nil (by
      show wpAny _ _ _ _ _ _
      refine wpAny_mono (step i ys v g I oI C oC D m₂ h tk E' hv r j h1 h2 h3 h4 h5 h6) (fun y s₂ q => ?_) fun _ _ e => e
      refine cps ?_; intro Q9 hQ9; obtain ⟨g', h', tk', r', eq91, F', N', j'⟩ := q; refine hQ9 ?_; clear hQ9 Q9; subst eq91
      exact ⟨g', h', tk', news, r', rfl, F', N', h5, hS, compX_inv J step hfin hS k (i + 1) _ g' (by omega) r' j'⟩)⟩
theorem off1_at {D : Addr} {q : Addr × Obj} : ∀ {l : List (Addr × Obj)}, LCg.Off1 D l → q ∈ l → Apart q.1 D
  | _ :: _, x, h => by
    rcases List.mem_cons.mp h with rfl | h
    · exact x.1
    · exact off1_at x.2 h
theorem len6 {α : Type} {l : List α} (h : l.length = 6) : ∃ a b c d e f, l = [a, b, c, d, e, f] := by
  match l, h with
  | [a, b, c, d, e, f], _ => exact ⟨a, b, c, d, e, f, rfl⟩
theorem len3 {α : Type} {l : List α} (h : l.length = 3) : ∃ a b c, l = [a, b, c] := by
  match l, h with
  | [a, b, c], _ => exact ⟨a, b, c, rfl⟩
abbrev qDoors : Str := Str.ofString "_law_doors_right.<locals>.<lambda>"
section
variable {w : World} {p : Program} {loose : List Str} {mean : ExcName → Option Value} {mg mb : Str → Option Value}
  {dp un : Nat} {gd : Option (List Code)} {cn : Str} {cs : Scope} {a : Addr} {ccd : Value} {cl : List (Str × Addr)} {outer : List Env} {A₀ : Around} {base h₀ : Heap} {L : Addr} {m : Str → Option Value} {news : List (Addr × Obj)} {s : Shared} {Q E : Value → Shared → Prop}

theorem cmp6_c {x y : Addr} {z0 z1 z2 z3 z4 z5 y0 y1 y2 y3 y4 y5 : Tok} {k n : Nat}
  (B : Below A₀ base outer h₀) (F : Fr h₀ L s.heap m) (X : (hd.heap_1 w.params).In h₀) (N : News h₀ L s.heap news) (T : Top p loose mean mg mb h₀) (hk : cs.kind = .function)
  (hm1 : (x, listOf #[.str (Str.ofString "argument") z0, .str (Str.ofString "argument") z1, .str (Str.ofString "argument") z2, .str (Str.ofString "argument") z3, .str (Str.ofString "argument") z4, .str (Str.ofString "argument") z5] k) ∈ news)
  (hm2 : (y, listOf #[.str (Str.ofString "argument") y0, .str (Str.ofString "argument") y1, .str (Str.ofString "argument") y2, .str (Str.ofString "argument") y3, .str (Str.ofString "argument") y4, .str (Str.ofString "argument") y5] n) ∈ news)
  (hd : dp + 10 < recursionLimit) (hu : un + 120 < cLine)
  (hret : Q (.bool false) s) :
  wpAny (model PP w) (ktrTop dp un gd cn cs L a ccd cl outer) (compareOp .NotEq (.ref x) (.ref y)) Q E s := by
  (repeat' (first | ((with_reducible show wpAny _ _ (execs _ _) _ _ _); (fail_if_success (fail_if_success k_fold)); refine foldQ ?_; intro qk ek) | ((with_reducible show wpAny _ _ (exec _ _) _ _ _); (fail_if_success (fail_if_success k_fold)); refine foldQ ?_; intro qk ek; (try (refine foldN (by with_reducible assumption) ?_; intro n9 N9))) | (k_unfold; (try dsimp only)) | (k_end; wrow_close) | (walk1; (all_goals (try dsimp only))) | (dsimp only; walk1) | (leave1; try dsimp only)))
  exact hret
theorem cmp3_c {x y : Addr} {z0 z1 z2 y0 y1 y2 : Tok} {k n : Nat}
  (B : Below A₀ base outer h₀) (F : Fr h₀ L s.heap m) (X : (hd.heap_1 w.params).In h₀) (N : News h₀ L s.heap news) (T : Top p loose mean mg mb h₀) (hk : cs.kind = .function)
  (hm1 : (x, listOf #[.str (Str.ofString "over") z0, .str (Str.ofString "over") z1, .str (Str.ofString "over") z2] k) ∈ news)
  (hm2 : (y, listOf #[.str (Str.ofString "over") y0, .str (Str.ofString "over") y1, .str (Str.ofString "over") y2] n) ∈ news)
  (hd : dp + 10 < recursionLimit) (hu : un + 120 < cLine)
  (hret : Q (.bool true) s) :
  wpAny (model PP w) (ktrTop dp un gd cn cs L a ccd cl outer) (compareOp .Eq (.ref x) (.ref y)) Q E s := by
  (repeat' (first | ((with_reducible show wpAny _ _ (execs _ _) _ _ _); (fail_if_success (fail_if_success k_fold)); refine foldQ ?_; intro qk ek) | ((with_reducible show wpAny _ _ (exec _ _) _ _ _); (fail_if_success (fail_if_success k_fold)); refine foldQ ?_; intro qk ek; (try (refine foldN (by with_reducible assumption) ?_; intro n9 N9))) | (k_unfold; (try dsimp only)) | (k_end; wrow_close) | (walk1; (all_goals (try dsimp only))) | (dsimp only; walk1) | (leave1; try dsimp only)))
  exact hret
section
set_option maxRecDepth 100000 in
set_option maxHeartbeats 12000000 in
theorem doors0 {fv : Addr} {o : Obj} {g : G5} {ps : Array Value} {cods : List (Addr × Obj)}
  (B : Below A₀ base outer h₀) (F : Fr h₀ L s.heap m) (X : (hd.heap_1 w.params).In h₀) (N : News h₀ L s.heap ((362, tabObj ps) :: news)) (T : Top p loose mean mg mb h₀) (hk : cs.kind = .function)
  (XB : (hd.heap_1 w.params).In base) (TB : Top p loose mean mg mb base) (D : KtsDicts (outer.filterMap (·.frame)) h₀)
  (hne : ∀ p ∈ news, @Ne Nat p.1 362) (hm : (fv, o) ∈ news) (ho : LstG o g) (ok : g.Ok)
  (GT : TabGood qDoors ps cods) (hsub : ∀ q ∈ cods, q ∈ news) (CH : CodeHd base 364 362)
  (hd : dp + 100 < recursionLimit) (hu : un + 1500 < cLine)
  (hret : ∀ (ps' : Array Value) (h₀' h' : Heap) (tk' : Nat), KtsTurn (outer.filterMap (·.frame)) h₀ h₀' → Fr h₀' L h' m → News h₀' L h' ((362, tabObj ps') :: news) →
    Below A₀ base outer h₀' → (Mine.hd.heap_1 w.params).In h₀' → Top p loose mean mg mb h₀' → KtsDicts (outer.filterMap (·.frame)) h₀' → Q (.bool true) { s with heap := h', toks := tk' }) :
  wpAny (model PP w) (ktrTop dp un gd cn cs L a ccd cl outer) (call (.ref 365) [.ref fv]) Q E s := by
  have hp : (2 : Int) ^ Int.toNat 30 = 1073741824 := by decide
  have hcne : ∀ q ∈ cods, @Ne Nat q.1 362 := fun q hq => hne q (hsub q hq)
  refine LstG.elim ho ?_; intro s1 s2 s3 s4 s5 n eq91; subst eq91
  unfold G5.Ok MX at ok
  refine cps ?_; intro Q9 hQ9; obtain ⟨a1, a2, a3, a4, a5, a6, a7, a8, a9, a10⟩ := ok; refine hQ9 ?_; clear hQ9 Q9
  refine wpAny_call ?_
  k_dflt (refine' code_defSC ?k1 ?k2 ?k3 ?k4 ?k5 ?XB ?TB ?D ?T0 ?kA ?kF ?kK ?k6 ?k7 ?k8 ?k9 ?kB ?kD ?_ ?c2 ?c3 ?c4; (case kA => exact rfl); (case kF => exact rfl); (case kK => assumption); (case k1 => k_asm); (case k2 => k_asm); (case k3 => k_asm); (case k4 => k_asm); (case k5 => k_asm); (case XB => assumption); (case TB => assumption); (case D => assumption); (case T0 => exact KtsTurn.refl); (case k6 => k_is); (case k7 => k_is); (case k8 => ktr_room); (case k9 => first | exact BindsTo.of_eq rfl | exact binds_K (by k_in) rfl (by k_is) rfl rfl rfl); (case kB => exact rfl); (case kD => decide +kernel); (case c2 => exact rfl); (case c3 => exact rfl); (case c4 => exact rfl); k_whole; intro g' L' h' tk' cells' FG' F' N' Y' B' X' T' D' l1; (have b9 : @LT.lt Nat _ 362 L' := l1 (362, _) (by k_mem)); (try k_lt l1); k_cells Y'; (try simp only [List.cons_append, List.nil_append] at N'); (try k_lift B'); (refine foldM F' ?_; clear F'; intro m9 F'); (try first | (with_reducible refine foldA ?_; intro A9 d9 u9) | (with_reducible refine foldAu ?_; intro A9 d9 u9)); (try (refine foldE ?_; intro e9)); (try k_unmd); (try (refine foldQ ?_; intro qk ek)); (try dsimp only))
  have ac1 : Apart (L' + 1) 362 := by (show @Ne Nat _ _); omega
  have an1 : AllBel (L' + 1) news := allBel_mono (by omega) l1
  (repeat' (first | ((with_reducible show wpAny _ _ (execs _ _) _ _ _); (fail_if_success (fail_if_success k_fold)); refine foldQ ?_; intro qk ek) | ((with_reducible show wpAny _ _ (exec _ _) _ _ _); (fail_if_success (fail_if_success k_fold)); refine foldQ ?_; intro qk ek; (try (refine foldN (by with_reducible assumption) ?_; intro n9 N9))) | ((with_reducible show wpAny _ _ (eval (Expr.ListComp _ _ _ _) _) _ _ _); first | (with_reducible (k_here; refine metStop ?_))) | ((with_reducible show wpAny _ _ (eval (Expr.Lambda _ _ _ _) _) _ _ _); first | (with_reducible (k_here; k_dflt (refine' kla_eval ?d0_q ?_; (case d0_q => exact rfl)); k_dflt (refine' kla_any ?F_q ?N_q ?T_q ?C_q ?cd_q ?U_q ?G_q ?hq_q ?sub_q ?ne_q ?cl_q ?_; (case F_q => k_asm); (case N_q => k_asm); (case T_q => k_asm); (case cd_q => exact rfl); (case C_q => kn_code); (case U_q => k_updF); (case G_q => with_reducible assumption); (case hq_q => first | exact rfl | decide +kernel); (case sub_q => (repeat (refine' List.forall_mem_cons.mpr ⟨?ma_q, ?_⟩; (case ma_q => k_mem))); intro q' hq'; (repeat (refine List.mem_cons_of_mem _ ?_)); revert q' hq'; with_reducible assumption); (case ne_q => (repeat (refine' List.forall_mem_cons.mpr ⟨apart_ne ?ma_q, ?_⟩; (case ma_q => first | with_reducible assumption | (dsimp only; with_reducible assumption)))); assumption); (case cl_q => exact rfl); k_whole); intro f' c' oc' vs' t' ct' ps' h' tk' F' N' d1' d2' G' l1' a1' a2' x'; clear x'; (try dsimp only at N'); (refine foldO N' ?_; clear N'; intro o9 n9 N'); (try k_lt l1'); (try k_sweep); (try k_fold)))) | ((with_reducible show wpAny _ _ (newList _) _ _ _); first | (with_reducible (k_here; k_dflt (refine' newList_V ?F_q ?N_q ?_ ?z_q; (case F_q => k_asm); (case N_q => k_asm); (case z_q => size_fits)); intro D' h' o' n' F' N' l1; (try k_lt l1); (try k_sweep)))) | ((with_reducible show wpAny _ _ (storeName _ _ _) _ _ _); first | (with_reducible (k_here; k_dflt (refine' storeX_V ?F_q ?N_q ?_ ?a_q ?b_q; (case F_q => k_asm); (case N_q => k_asm); (case a_q => rfl); (case b_q => rfl); k_whole; intro h' tk' m' F' N'; (try k_sweep))))) | (k_unfold; (try dsimp only)) | (k_end; wrow_close) | (walk1; (all_goals (try dsimp only))) | (dsimp only; walk1) | (leave1; try dsimp only)))
  unfold MetStop
  rename Fr _ L' _ _ => FF; rename News _ L' _ _ => NN; rename Below (ktrTop dp un gd cn cs L a ccd cl outer) base (envX cn cs L a ccd cl :: outer) _ => BB; rename (Mine.hd.heap_1 w.params).In _ => XX; rename Top _ _ _ _ _ _ => TP; rename KtsDicts _ _ => DD
  k_dflt (refine ListComp_name (Rl := RlD (List.filterMap (fun x => x.frame) (envX cn cs L a ccd cl :: outer)) (ktrTop dp un gd cn cs L a ccd cl outer) base (envX cn cs L a ccd cl :: outer) (Mine.hd.heap_1 w.params) p loose mean mg mb _) (F₀ := FF) (by with_unfolding_all rfl) (by decide) (by rfl) (by decide) (by rfl) (by rfl) (fun _ h b e => h.1.none_ b e) ⟨KtsTurn.refl, BB, XX, TP, DD⟩ ?_)
  (repeat' (first | ((with_reducible show wpAny _ _ (execs _ _) _ _ _); (fail_if_success (fail_if_success k_fold)); refine foldQ ?_; intro qk ek) | ((with_reducible show wpAny _ _ (exec _ _) _ _ _); (fail_if_success (fail_if_success k_fold)); refine foldQ ?_; intro qk ek; (try (refine foldN (by with_reducible assumption) ?_; intro n9 N9))) | ((with_reducible show wpAny _ _ (eval (Expr.Name _ _) _) _ _ _); first | (with_reducible (k_here; name_kind "local"; k_dflt (refine' nameX_L ?F_q ?v_q ?_ ?a_q ?b_q; (case F_q => k_asm); (case a_q => rfl); (case b_q => rfl); (case v_q => rfl); k_whole)))) | (k_unfold; (try dsimp only)) | (k_end; wrow_close) | (walk1; (all_goals (try dsimp only))) | (dsimp only; walk1) | (leave1; try dsimp only)))
  refine door_src (w₁ := w) (base := base) (p₁ := p) (loose := loose) (mean := mean) (mg := mg) (mb := mb) (res := .arg) rfl FF NN (by k_mem) (by first | size_fits | exact Nat.le_of_ble_eq_true rfl) ?hS ?hX
  case hS =>
    simp only [List.forall_mem_cons]
    refine ⟨?_, ?_, ?_, ?_, ?_, ?_, fun _ h => nomatch h⟩
    · refine ⟨_, rfl, _, _, _, _, by k_mem, ?_⟩
      (repeat (with_reducible rename Bel _ _ => q9; clear q9)); (repeat (with_reducible rename AllBel _ _ => q9; clear q9)); (repeat (with_reducible rename Apart _ _ => q9; clear q9)); (repeat (with_reducible rename News _ _ _ _ => q9; clear q9)); (repeat (with_reducible rename Fr _ _ _ _ => q9; clear q9)); (repeat (with_reducible rename Below _ _ _ _ => q9; clear q9)); (repeat (with_reducible rename TabGood _ _ _ => q9; clear q9)); (repeat (with_reducible rename Top _ _ _ _ _ _ => q9; clear q9)); (repeat (with_reducible rename Frag.In _ _ => q9; clear q9)); (repeat (with_reducible rename KtsDicts _ _ => q9; clear q9)); clear hret hne hsub
      intro dp' un' gd' cn' cs' a' ccd' cl' outer' A0' h0' L2' m' news' s' Q' E' B2' F2' X2' N2' T2' hk' hn' hd' hu' hret' hr57 hr45
      have hfv := hn' (fv, _) (by k_mem)
      refine wpAny_call ?_
      k_dflt (refine' kla_code ?k1 ?k2 ?k3 ?k4 ?k5 ?kA ?kF ?kK ?k6 ?k7 ?k8 ?k9 ?kB ?_ ?c2 ?c3 ?c4 ?c5; (case kA => exact rfl); (case kF => exact rfl); (case kK => exact hk'); (case k1 => k_asm); (case k2 => k_asm); (case k3 => k_asm); (case k4 => k_asm); (case k5 => k_asm); (case k6 => k_mem); (case k7 => exact codeRec_news (by k_asm) (by k_mem) (by assumption) (by assumption)); (case k8 => ktr_room); (case k9 => exact rfl); (case c5 => decide); (case kB => exact locs rfl); (case c2 => exact rfl); (case c3 => exact rfl); (case c4 => exact rfl); k_whole; intro g3' L3' h3' FG3' F3' N3' B3' X3' T3'; (try k_lift B3'); (refine foldM F3' ?_; clear F3'; intro m9 F3'); (try first | (with_reducible refine foldA ?_; intro A9 d9 u9) | (with_reducible refine foldAu ?_; intro A9 d9 u9)); (try (refine foldE ?_; intro e9)); (try k_unmd); (try (refine foldQ ?_; intro qk ek)); (try dsimp only))
      have kd := ktsDicts_nil (g := g3')
      (repeat' (first | ((with_reducible show wpAny _ _ (execs _ _) _ _ _); (fail_if_success (fail_if_success k_fold)); refine foldQ ?_; intro qk ek) | ((with_reducible show wpAny _ _ (exec _ _) _ _ _); (fail_if_success (fail_if_success k_fold)); refine foldQ ?_; intro qk ek; (try (refine foldN (by with_reducible assumption) ?_; intro n9 N9))) | ((with_reducible show wpAny _ _ (subscriptTail (Expr.Name _ _) (Expr.Constant _ _ _) (Value.ref _) (Value.int _ _)) _ _ _); first | (with_reducible (k_here; (with_reducible show wpAny _ _ (subscriptTail _ _ (Value.ref _) (Value.int _ _)) _ _ _); k_dflt (refine' item_seq ?h0_q ?h1_q ?k1_q ?k2_q ?kc_q ?k3_q ?_ ?k4_q; (case h0_q => decide); (case h1_q => decide); (case k1_q => k_asm); (case k2_q => with_reducible k_mem); (case kc_q => first | exact .inl rfl | exact .inr rfl); (case k3_q => exact rfl); (case k4_q => with_unfolding_all rfl); k_whole)))) | ((with_reducible show wpAny _ _ (callWith _ (Value.ref _) _ _ _) _ _ _); first | (with_reducible (k_here; k_dflt (refine' callWith_K ?k1_q ?k2_q ?_; (case k1_q => k_asm); (case k2_q => k_is); k_whole)))) | ((with_reducible show wpAny _ _ (call (Value.ref _) _) _ _ _); first | (with_reducible (k_here; (with_reducible apply doorA_c); k_dflt (walk_at "c8"; (first | with_reducible assumption | omega); ktr_room; ktr_units; k_whole); (intro e' g' h' tk' FG' S' U'); (try dsimp only)))) | ((with_reducible show wpAny _ _ (leaving _ (Value.ref _)) _ _ _); first | (with_reducible (k_here; (with_reducible rename RaisedSN _ _ _ _ _ _ _ => rs9); k_dflt (refine' leave_onX ?k0_q ?k1_q ?k2_q ?k3_q ?k4_q ?_; (case k0_q => exact rfl); (case k3_q => assumption); (case k2_q => assumption); (case k1_q => assumption); (case k4_q => assumption); k_whole; intro h' S' R' U'; (try dsimp only at S' R' U' ⊢); (try dsimp only [InitBack]))))) | ((with_reducible show wpAny _ _ (eval (Expr.Name _ _) _) _ _ _); first | (with_reducible (k_here; name_kind "globalImplicit"; k_dflt (first | (name_is_builtin; refine' nameX_B ?F_q ?X_q ?T_q ?e_q ?v_q ?n_q ?_ ?a_q ?b_q; (case F_q => k_asm); (case X_q => k_asm); (case T_q => k_asm); (case a_q => rfl); (case b_q => rfl); (case e_q => k_is); (case v_q => boot_fast); (case n_q => decide); k_whole) | (refine' nameX_K ?F_q ?X_q ?T_q ?e_q ?_ ?a_q ?b_q; (case F_q => k_asm); (case X_q => k_asm); (case T_q => k_asm); (case a_q => rfl); (case b_q => rfl); (case e_q => k_is); k_whole))))) | (k_unfold; (try dsimp only)) | (k_end; wrow_close) | (walk1; (all_goals (try dsimp only))) | (dsimp only; walk1) | (leave1; try dsimp only)))
      rename RaisedSN base _ _ _ _ _ _ => SS; exact hr45 _ _ _ _ (by assumption) SS (by assumption) rfl
    · refine ⟨_, rfl, _, _, _, _, by k_mem, ?_⟩
      (repeat (with_reducible rename Bel _ _ => q9; clear q9)); (repeat (with_reducible rename AllBel _ _ => q9; clear q9)); (repeat (with_reducible rename Apart _ _ => q9; clear q9)); (repeat (with_reducible rename News _ _ _ _ => q9; clear q9)); (repeat (with_reducible rename Fr _ _ _ _ => q9; clear q9)); (repeat (with_reducible rename Below _ _ _ _ => q9; clear q9)); (repeat (with_reducible rename TabGood _ _ _ => q9; clear q9)); (repeat (with_reducible rename Top _ _ _ _ _ _ => q9; clear q9)); (repeat (with_reducible rename Frag.In _ _ => q9; clear q9)); (repeat (with_reducible rename KtsDicts _ _ => q9; clear q9)); clear hret hne hsub
      intro dp' un' gd' cn' cs' a' ccd' cl' outer' A0' h0' L2' m' news' s' Q' E' B2' F2' X2' N2' T2' hk' hn' hd' hu' hret' hr57 hr45
      have hfv := hn' (fv, _) (by k_mem)
      refine wpAny_call ?_
      k_dflt (refine' kla_code ?k1 ?k2 ?k3 ?k4 ?k5 ?kA ?kF ?kK ?k6 ?k7 ?k8 ?k9 ?kB ?_ ?c2 ?c3 ?c4 ?c5; (case kA => exact rfl); (case kF => exact rfl); (case kK => exact hk'); (case k1 => k_asm); (case k2 => k_asm); (case k3 => k_asm); (case k4 => k_asm); (case k5 => k_asm); (case k6 => k_mem); (case k7 => exact codeRec_news (by k_asm) (by k_mem) (by assumption) (by assumption)); (case k8 => ktr_room); (case k9 => exact rfl); (case c5 => decide); (case kB => exact locs rfl); (case c2 => exact rfl); (case c3 => exact rfl); (case c4 => exact rfl); k_whole; intro g3' L3' h3' FG3' F3' N3' B3' X3' T3'; (try k_lift B3'); (refine foldM F3' ?_; clear F3'; intro m9 F3'); (try first | (with_reducible refine foldA ?_; intro A9 d9 u9) | (with_reducible refine foldAu ?_; intro A9 d9 u9)); (try (refine foldE ?_; intro e9)); (try k_unmd); (try (refine foldQ ?_; intro qk ek)); (try dsimp only))
      have kd := ktsDicts_nil (g := g3')
      (repeat' (first | ((with_reducible show wpAny _ _ (execs _ _) _ _ _); (fail_if_success (fail_if_success k_fold)); refine foldQ ?_; intro qk ek) | ((with_reducible show wpAny _ _ (exec _ _) _ _ _); (fail_if_success (fail_if_success k_fold)); refine foldQ ?_; intro qk ek; (try (refine foldN (by with_reducible assumption) ?_; intro n9 N9))) | ((with_reducible show wpAny _ _ (subscriptTail (Expr.Name _ _) (Expr.Constant _ _ _) (Value.ref _) (Value.int _ _)) _ _ _); first | (with_reducible (k_here; (with_reducible show wpAny _ _ (subscriptTail _ _ (Value.ref _) (Value.int _ _)) _ _ _); k_dflt (refine' item_seq ?h0_q ?h1_q ?k1_q ?k2_q ?kc_q ?k3_q ?_ ?k4_q; (case h0_q => decide); (case h1_q => decide); (case k1_q => k_asm); (case k2_q => with_reducible k_mem); (case kc_q => first | exact .inl rfl | exact .inr rfl); (case k3_q => exact rfl); (case k4_q => with_unfolding_all rfl); k_whole)))) | ((with_reducible show wpAny _ _ (callWith _ (Value.ref _) _ _ _) _ _ _); first | (with_reducible (k_here; k_dflt (refine' callWith_K ?k1_q ?k2_q ?_; (case k1_q => k_asm); (case k2_q => k_is); k_whole)))) | ((with_reducible show wpAny _ _ (call (Value.ref _) _) _ _ _); first | (with_reducible (k_here; (with_reducible apply doorB_c); k_dflt (walk_at "c8"; (first | with_reducible assumption | omega); ktr_room; ktr_units; k_whole); (intro e' g' h' tk' FG' S' U'); (try dsimp only)))) | ((with_reducible show wpAny _ _ (leaving _ (Value.ref _)) _ _ _); first | (with_reducible (k_here; (with_reducible rename RaisedSN _ _ _ _ _ _ _ => rs9); k_dflt (refine' leave_onX ?k0_q ?k1_q ?k2_q ?k3_q ?k4_q ?_; (case k0_q => exact rfl); (case k3_q => assumption); (case k2_q => assumption); (case k1_q => assumption); (case k4_q => assumption); k_whole; intro h' S' R' U'; (try dsimp only at S' R' U' ⊢); (try dsimp only [InitBack]))))) | ((with_reducible show wpAny _ _ (eval (Expr.Name _ _) _) _ _ _); first | (with_reducible (k_here; name_kind "globalImplicit"; k_dflt (first | (name_is_builtin; refine' nameX_B ?F_q ?X_q ?T_q ?e_q ?v_q ?n_q ?_ ?a_q ?b_q; (case F_q => k_asm); (case X_q => k_asm); (case T_q => k_asm); (case a_q => rfl); (case b_q => rfl); (case e_q => k_is); (case v_q => boot_fast); (case n_q => decide); k_whole) | (refine' nameX_K ?F_q ?X_q ?T_q ?e_q ?_ ?a_q ?b_q; (case F_q => k_asm); (case X_q => k_asm); (case T_q => k_asm); (case a_q => rfl); (case b_q => rfl); (case e_q => k_is); k_whole))))) | (k_unfold; (try dsimp only)) | (k_end; wrow_close) | (walk1; (all_goals (try dsimp only))) | (dsimp only; walk1) | (leave1; try dsimp only)))
      rename RaisedSN base _ _ _ _ _ _ => SS; exact hr45 _ _ _ _ (by assumption) SS (by assumption) rfl
    · refine ⟨_, rfl, _, _, _, _, by k_mem, ?_⟩
      (repeat (with_reducible rename Bel _ _ => q9; clear q9)); (repeat (with_reducible rename AllBel _ _ => q9; clear q9)); (repeat (with_reducible rename Apart _ _ => q9; clear q9)); (repeat (with_reducible rename News _ _ _ _ => q9; clear q9)); (repeat (with_reducible rename Fr _ _ _ _ => q9; clear q9)); (repeat (with_reducible rename Below _ _ _ _ => q9; clear q9)); (repeat (with_reducible rename TabGood _ _ _ => q9; clear q9)); (repeat (with_reducible rename Top _ _ _ _ _ _ => q9; clear q9)); (repeat (with_reducible rename Frag.In _ _ => q9; clear q9)); (repeat (with_reducible rename KtsDicts _ _ => q9; clear q9)); clear hret hne hsub
      intro dp' un' gd' cn' cs' a' ccd' cl' outer' A0' h0' L2' m' news' s' Q' E' B2' F2' X2' N2' T2' hk' hn' hd' hu' hret' hr57 hr45
      have hfv := hn' (fv, _) (by k_mem)
      refine wpAny_call ?_
      k_dflt (refine' kla_code ?k1 ?k2 ?k3 ?k4 ?k5 ?kA ?kF ?kK ?k6 ?k7 ?k8 ?k9 ?kB ?_ ?c2 ?c3 ?c4 ?c5; (case kA => exact rfl); (case kF => exact rfl); (case kK => exact hk'); (case k1 => k_asm); (case k2 => k_asm); (case k3 => k_asm); (case k4 => k_asm); (case k5 => k_asm); (case k6 => k_mem); (case k7 => exact codeRec_news (by k_asm) (by k_mem) (by assumption) (by assumption)); (case k8 => ktr_room); (case k9 => exact rfl); (case c5 => decide); (case kB => exact locs rfl); (case c2 => exact rfl); (case c3 => exact rfl); (case c4 => exact rfl); k_whole; intro g3' L3' h3' FG3' F3' N3' B3' X3' T3'; (try k_lift B3'); (refine foldM F3' ?_; clear F3'; intro m9 F3'); (try first | (with_reducible refine foldA ?_; intro A9 d9 u9) | (with_reducible refine foldAu ?_; intro A9 d9 u9)); (try (refine foldE ?_; intro e9)); (try k_unmd); (try (refine foldQ ?_; intro qk ek)); (try dsimp only))
      have kd := ktsDicts_nil (g := g3')
      (repeat' (first | ((with_reducible show wpAny _ _ (execs _ _) _ _ _); (fail_if_success (fail_if_success k_fold)); refine foldQ ?_; intro qk ek) | ((with_reducible show wpAny _ _ (exec _ _) _ _ _); (fail_if_success (fail_if_success k_fold)); refine foldQ ?_; intro qk ek; (try (refine foldN (by with_reducible assumption) ?_; intro n9 N9))) | ((with_reducible show wpAny _ _ (callWith _ (Value.ref _) _ _ _) _ _ _); first | (with_reducible (k_here; k_dflt (refine' callWith_K ?k1_q ?k2_q ?_; (case k1_q => k_asm); (case k2_q => k_is); k_whole)))) | ((with_reducible show wpAny _ _ (call (Value.ref _) _) _ _ _); first | (with_reducible (k_here; (with_reducible apply doorC_c); k_dflt (walk_at "c8"; ktr_room; ktr_units; k_whole); (intro e' g' h' tk' FG' S' U'); (try dsimp only)))) | ((with_reducible show wpAny _ _ (leaving _ (Value.ref _)) _ _ _); first | (with_reducible (k_here; (with_reducible rename RaisedSN _ _ _ _ _ _ _ => rs9); k_dflt (refine' leave_onX ?k0_q ?k1_q ?k2_q ?k3_q ?k4_q ?_; (case k0_q => exact rfl); (case k3_q => assumption); (case k2_q => assumption); (case k1_q => assumption); (case k4_q => assumption); k_whole; intro h' S' R' U'; (try dsimp only at S' R' U' ⊢); (try dsimp only [InitBack]))))) | ((with_reducible show wpAny _ _ (eval (Expr.Name _ _) _) _ _ _); first | (with_reducible (k_here; name_kind "globalImplicit"; k_dflt (first | (name_is_builtin; refine' nameX_B ?F_q ?X_q ?T_q ?e_q ?v_q ?n_q ?_ ?a_q ?b_q; (case F_q => k_asm); (case X_q => k_asm); (case T_q => k_asm); (case a_q => rfl); (case b_q => rfl); (case e_q => k_is); (case v_q => boot_fast); (case n_q => decide); k_whole) | (refine' nameX_K ?F_q ?X_q ?T_q ?e_q ?_ ?a_q ?b_q; (case F_q => k_asm); (case X_q => k_asm); (case T_q => k_asm); (case a_q => rfl); (case b_q => rfl); (case e_q => k_is); k_whole))))) | (k_unfold; (try dsimp only)) | (k_end; wrow_close) | (walk1; (all_goals (try dsimp only))) | (dsimp only; walk1) | (leave1; try dsimp only)))
      rename RaisedSN base _ _ _ _ _ _ => SS; exact hr45 _ _ _ _ (by assumption) SS (by assumption) rfl
    · refine ⟨_, rfl, _, _, _, _, by k_mem, ?_⟩
      (repeat (with_reducible rename Bel _ _ => q9; clear q9)); (repeat (with_reducible rename AllBel _ _ => q9; clear q9)); (repeat (with_reducible rename Apart _ _ => q9; clear q9)); (repeat (with_reducible rename News _ _ _ _ => q9; clear q9)); (repeat (with_reducible rename Fr _ _ _ _ => q9; clear q9)); (repeat (with_reducible rename Below _ _ _ _ => q9; clear q9)); (repeat (with_reducible rename TabGood _ _ _ => q9; clear q9)); (repeat (with_reducible rename Top _ _ _ _ _ _ => q9; clear q9)); (repeat (with_reducible rename Frag.In _ _ => q9; clear q9)); (repeat (with_reducible rename KtsDicts _ _ => q9; clear q9)); clear hret hne hsub
      intro dp' un' gd' cn' cs' a' ccd' cl' outer' A0' h0' L2' m' news' s' Q' E' B2' F2' X2' N2' T2' hk' hn' hd' hu' hret' hr57 hr45
      have hfv := hn' (fv, _) (by k_mem)
      refine wpAny_call ?_
      k_dflt (refine' kla_code ?k1 ?k2 ?k3 ?k4 ?k5 ?kA ?kF ?kK ?k6 ?k7 ?k8 ?k9 ?kB ?_ ?c2 ?c3 ?c4 ?c5; (case kA => exact rfl); (case kF => exact rfl); (case kK => exact hk'); (case k1 => k_asm); (case k2 => k_asm); (case k3 => k_asm); (case k4 => k_asm); (case k5 => k_asm); (case k6 => k_mem); (case k7 => exact codeRec_news (by k_asm) (by k_mem) (by assumption) (by assumption)); (case k8 => ktr_room); (case k9 => exact rfl); (case c5 => decide); (case kB => exact locs rfl); (case c2 => exact rfl); (case c3 => exact rfl); (case c4 => exact rfl); k_whole; intro g3' L3' h3' FG3' F3' N3' B3' X3' T3'; (try k_lift B3'); (refine foldM F3' ?_; clear F3'; intro m9 F3'); (try first | (with_reducible refine foldA ?_; intro A9 d9 u9) | (with_reducible refine foldAu ?_; intro A9 d9 u9)); (try (refine foldE ?_; intro e9)); (try k_unmd); (try (refine foldQ ?_; intro qk ek)); (try dsimp only))
      have kd := ktsDicts_nil (g := g3')
      (repeat' (first | ((with_reducible show wpAny _ _ (execs _ _) _ _ _); (fail_if_success (fail_if_success k_fold)); refine foldQ ?_; intro qk ek) | ((with_reducible show wpAny _ _ (exec _ _) _ _ _); (fail_if_success (fail_if_success k_fold)); refine foldQ ?_; intro qk ek; (try (refine foldN (by with_reducible assumption) ?_; intro n9 N9))) | ((with_reducible show wpAny _ _ (callWith _ (Value.ref _) _ _ _) _ _ _); first | (with_reducible (k_here; k_dflt (refine' callWith_K ?k1_q ?k2_q ?_; (case k1_q => k_asm); (case k2_q => k_is); k_whole)))) | ((with_reducible show wpAny _ _ (call (Value.ref _) _) _ _ _); first | (with_reducible (k_here; (with_reducible apply doorD_c); k_dflt (walk_at "c8"; ktr_room; ktr_units; k_whole); (intro e' g' h' tk' FG' S' U'); (try dsimp only)))) | ((with_reducible show wpAny _ _ (leaving _ (Value.ref _)) _ _ _); first | (with_reducible (k_here; (with_reducible rename RaisedSN _ _ _ _ _ _ _ => rs9); k_dflt (refine' leave_onX ?k0_q ?k1_q ?k2_q ?k3_q ?k4_q ?_; (case k0_q => exact rfl); (case k3_q => assumption); (case k2_q => assumption); (case k1_q => assumption); (case k4_q => assumption); k_whole; intro h' S' R' U'; (try dsimp only at S' R' U' ⊢); (try dsimp only [InitBack]))))) | ((with_reducible show wpAny _ _ (eval (Expr.Name _ _) _) _ _ _); first | (with_reducible (k_here; name_kind "globalImplicit"; k_dflt (first | (name_is_builtin; refine' nameX_B ?F_q ?X_q ?T_q ?e_q ?v_q ?n_q ?_ ?a_q ?b_q; (case F_q => k_asm); (case X_q => k_asm); (case T_q => k_asm); (case a_q => rfl); (case b_q => rfl); (case e_q => k_is); (case v_q => boot_fast); (case n_q => decide); k_whole) | (refine' nameX_K ?F_q ?X_q ?T_q ?e_q ?_ ?a_q ?b_q; (case F_q => k_asm); (case X_q => k_asm); (case T_q => k_asm); (case a_q => rfl); (case b_q => rfl); (case e_q => k_is); k_whole))))) | (k_unfold; (try dsimp only)) | (k_end; wrow_close) | (walk1; (all_goals (try dsimp only))) | (dsimp only; walk1) | (leave1; try dsimp only)))
      rename RaisedSN base _ _ _ _ _ _ => SS; exact hr45 _ _ _ _ (by assumption) SS (by assumption) rfl
    · refine ⟨_, rfl, _, _, _, _, by k_mem, ?_⟩
      (repeat (with_reducible rename Bel _ _ => q9; clear q9)); (repeat (with_reducible rename AllBel _ _ => q9; clear q9)); (repeat (with_reducible rename Apart _ _ => q9; clear q9)); (repeat (with_reducible rename News _ _ _ _ => q9; clear q9)); (repeat (with_reducible rename Fr _ _ _ _ => q9; clear q9)); (repeat (with_reducible rename Below _ _ _ _ => q9; clear q9)); (repeat (with_reducible rename TabGood _ _ _ => q9; clear q9)); (repeat (with_reducible rename Top _ _ _ _ _ _ => q9; clear q9)); (repeat (with_reducible rename Frag.In _ _ => q9; clear q9)); (repeat (with_reducible rename KtsDicts _ _ => q9; clear q9)); clear hret hne hsub
      intro dp' un' gd' cn' cs' a' ccd' cl' outer' A0' h0' L2' m' news' s' Q' E' B2' F2' X2' N2' T2' hk' hn' hd' hu' hret' hr57 hr45
      have hfv := hn' (fv, _) (by k_mem)
      refine wpAny_call ?_
      k_dflt (refine' kla_code ?k1 ?k2 ?k3 ?k4 ?k5 ?kA ?kF ?kK ?k6 ?k7 ?k8 ?k9 ?kB ?_ ?c2 ?c3 ?c4 ?c5; (case kA => exact rfl); (case kF => exact rfl); (case kK => exact hk'); (case k1 => k_asm); (case k2 => k_asm); (case k3 => k_asm); (case k4 => k_asm); (case k5 => k_asm); (case k6 => k_mem); (case k7 => exact codeRec_news (by k_asm) (by k_mem) (by assumption) (by assumption)); (case k8 => ktr_room); (case k9 => exact rfl); (case c5 => decide); (case kB => exact locs rfl); (case c2 => exact rfl); (case c3 => exact rfl); (case c4 => exact rfl); k_whole; intro g3' L3' h3' FG3' F3' N3' B3' X3' T3'; (try k_lift B3'); (refine foldM F3' ?_; clear F3'; intro m9 F3'); (try first | (with_reducible refine foldA ?_; intro A9 d9 u9) | (with_reducible refine foldAu ?_; intro A9 d9 u9)); (try (refine foldE ?_; intro e9)); (try k_unmd); (try (refine foldQ ?_; intro qk ek)); (try dsimp only))
      have kd := ktsDicts_nil (g := g3')
      (repeat' (first | ((with_reducible show wpAny _ _ (execs _ _) _ _ _); (fail_if_success (fail_if_success k_fold)); refine foldQ ?_; intro qk ek) | ((with_reducible show wpAny _ _ (exec _ _) _ _ _); (fail_if_success (fail_if_success k_fold)); refine foldQ ?_; intro qk ek; (try (refine foldN (by with_reducible assumption) ?_; intro n9 N9))) | ((with_reducible show wpAny _ _ (callWith _ (Value.ref _) _ _ _) _ _ _); first | (with_reducible (k_here; k_dflt (refine' callWith_K ?k1_q ?k2_q ?_; (case k1_q => k_asm); (case k2_q => k_is); k_whole)))) | ((with_reducible show wpAny _ _ (call (Value.ref _) _) _ _ _); first | (with_reducible (k_here; (with_reducible apply doorE_c); k_dflt (walk_at "c8"; ktr_room; ktr_units; k_whole); (intro e' g' h' tk' FG' S' U'); (try dsimp only)))) | ((with_reducible show wpAny _ _ (leaving _ (Value.ref _)) _ _ _); first | (with_reducible (k_here; (with_reducible rename RaisedSN _ _ _ _ _ _ _ => rs9); k_dflt (refine' leave_onX ?k0_q ?k1_q ?k2_q ?k3_q ?k4_q ?_; (case k0_q => exact rfl); (case k3_q => assumption); (case k2_q => assumption); (case k1_q => assumption); (case k4_q => assumption); k_whole; intro h' S' R' U'; (try dsimp only at S' R' U' ⊢); (try dsimp only [InitBack]))))) | ((with_reducible show wpAny _ _ (eval (Expr.Name _ _) _) _ _ _); first | (with_reducible (k_here; name_kind "globalImplicit"; k_dflt (first | (name_is_builtin; refine' nameX_B ?F_q ?X_q ?T_q ?e_q ?v_q ?n_q ?_ ?a_q ?b_q; (case F_q => k_asm); (case X_q => k_asm); (case T_q => k_asm); (case a_q => rfl); (case b_q => rfl); (case e_q => k_is); (case v_q => boot_fast); (case n_q => decide); k_whole) | (refine' nameX_K ?F_q ?X_q ?T_q ?e_q ?_ ?a_q ?b_q; (case F_q => k_asm); (case X_q => k_asm); (case T_q => k_asm); (case a_q => rfl); (case b_q => rfl); (case e_q => k_is); k_whole))))) | (k_unfold; (try dsimp only)) | (k_end; wrow_close) | (walk1; (all_goals (try dsimp only))) | (dsimp only; walk1) | (leave1; try dsimp only)))
      rename RaisedSN base _ _ _ _ _ _ => SS; exact hr45 _ _ _ _ (by assumption) SS (by assumption) rfl
    · refine ⟨_, rfl, _, _, _, _, by k_mem, ?_⟩
      (repeat (with_reducible rename Bel _ _ => q9; clear q9)); (repeat (with_reducible rename AllBel _ _ => q9; clear q9)); (repeat (with_reducible rename Apart _ _ => q9; clear q9)); (repeat (with_reducible rename News _ _ _ _ => q9; clear q9)); (repeat (with_reducible rename Fr _ _ _ _ => q9; clear q9)); (repeat (with_reducible rename Below _ _ _ _ => q9; clear q9)); (repeat (with_reducible rename TabGood _ _ _ => q9; clear q9)); (repeat (with_reducible rename Top _ _ _ _ _ _ => q9; clear q9)); (repeat (with_reducible rename Frag.In _ _ => q9; clear q9)); (repeat (with_reducible rename KtsDicts _ _ => q9; clear q9)); clear hret hne hsub
      intro dp' un' gd' cn' cs' a' ccd' cl' outer' A0' h0' L2' m' news' s' Q' E' B2' F2' X2' N2' T2' hk' hn' hd' hu' hret' hr57 hr45
      have hfv := hn' (fv, _) (by k_mem)
      refine wpAny_call ?_
      k_dflt (refine' kla_code ?k1 ?k2 ?k3 ?k4 ?k5 ?kA ?kF ?kK ?k6 ?k7 ?k8 ?k9 ?kB ?_ ?c2 ?c3 ?c4 ?c5; (case kA => exact rfl); (case kF => exact rfl); (case kK => exact hk'); (case k1 => k_asm); (case k2 => k_asm); (case k3 => k_asm); (case k4 => k_asm); (case k5 => k_asm); (case k6 => k_mem); (case k7 => exact codeRec_news (by k_asm) (by k_mem) (by assumption) (by assumption)); (case k8 => ktr_room); (case k9 => exact rfl); (case c5 => decide); (case kB => exact locs rfl); (case c2 => exact rfl); (case c3 => exact rfl); (case c4 => exact rfl); k_whole; intro g3' L3' h3' FG3' F3' N3' B3' X3' T3'; (try k_lift B3'); (refine foldM F3' ?_; clear F3'; intro m9 F3'); (try first | (with_reducible refine foldA ?_; intro A9 d9 u9) | (with_reducible refine foldAu ?_; intro A9 d9 u9)); (try (refine foldE ?_; intro e9)); (try k_unmd); (try (refine foldQ ?_; intro qk ek)); (try dsimp only))
      have kd := ktsDicts_nil (g := g3')
      (repeat' (first | ((with_reducible show wpAny _ _ (execs _ _) _ _ _); (fail_if_success (fail_if_success k_fold)); refine foldQ ?_; intro qk ek) | ((with_reducible show wpAny _ _ (exec _ _) _ _ _); (fail_if_success (fail_if_success k_fold)); refine foldQ ?_; intro qk ek; (try (refine foldN (by with_reducible assumption) ?_; intro n9 N9))) | ((with_reducible show wpAny _ _ (callWith _ (Value.ref _) _ _ _) _ _ _); first | (with_reducible (k_here; k_dflt (refine' callWith_K ?k1_q ?k2_q ?_; (case k1_q => k_asm); (case k2_q => k_is); k_whole)))) | ((with_reducible show wpAny _ _ (call (Value.ref _) _) _ _ _); first | (with_reducible (k_here; (with_reducible apply doorF_c); k_dflt (walk_at "c8"; ktr_room; ktr_units; k_whole); (intro e' g' h' tk' FG' S' U'); (try dsimp only)))) | ((with_reducible show wpAny _ _ (leaving _ (Value.ref _)) _ _ _); first | (with_reducible (k_here; (with_reducible rename RaisedSN _ _ _ _ _ _ _ => rs9); k_dflt (refine' leave_onX ?k0_q ?k1_q ?k2_q ?k3_q ?k4_q ?_; (case k0_q => exact rfl); (case k3_q => assumption); (case k2_q => assumption); (case k1_q => assumption); (case k4_q => assumption); k_whole; intro h' S' R' U'; (try dsimp only at S' R' U' ⊢); (try dsimp only [InitBack]))))) | ((with_reducible show wpAny _ _ (eval (Expr.Name _ _) _) _ _ _); first | (with_reducible (k_here; name_kind "globalImplicit"; k_dflt (first | (name_is_builtin; refine' nameX_B ?F_q ?X_q ?T_q ?e_q ?v_q ?n_q ?_ ?a_q ?b_q; (case F_q => k_asm); (case X_q => k_asm); (case T_q => k_asm); (case a_q => rfl); (case b_q => rfl); (case e_q => k_is); (case v_q => boot_fast); (case n_q => decide); k_whole) | (refine' nameX_K ?F_q ?X_q ?T_q ?e_q ?_ ?a_q ?b_q; (case F_q => k_asm); (case X_q => k_asm); (case T_q => k_asm); (case a_q => rfl); (case b_q => rfl); (case e_q => k_is); k_whole))))) | (k_unfold; (try dsimp only)) | (k_end; wrow_close) | (walk1; (all_goals (try dsimp only))) | (dsimp only; walk1) | (leave1; try dsimp only)))
      rename RaisedSN base _ _ _ _ _ _ => SS; exact hr45 _ _ _ _ (by assumption) SS (by assumption) rfl
  intro gg hS
  refine compX_inv (fun i ys => ∃ ts : List Tok, ys = ts.map (fun t => Value.str (Str.ofString "argument") t) ∧ ts.length = i) ?hstep ?hfin ⟨_, by k_mem, rfl, _, rfl⟩ _ 0 [] _ rfl ⟨KtsTurn.refl, BB, XX, TP, DD⟩ ⟨[], rfl, rfl⟩
  case hstep =>
    intro i ys v g1 I oI C oC D m2 h1 tk1 E1 hi hR J nC hx F1 N1 off ne
    obtain ⟨f, rfl, oc, od, fd, sl, hmf, SPEC⟩ := hS v (by have hiz := Array.mem_of_getElem? hi; simpa using hiz)
    refine cps ?_; intro Q9 hQ9; obtain ⟨TTr, Br, Xr, Tr, Dr⟩ := hR; refine hQ9 ?_; clear hQ9 Q9
    (repeat' (first | ((with_reducible show wpAny _ _ (execs _ _) _ _ _); (fail_if_success (fail_if_success k_fold)); refine foldQ ?_; intro qk ek) | ((with_reducible show wpAny _ _ (exec _ _) _ _ _); (fail_if_success (fail_if_success k_fold)); refine foldQ ?_; intro qk ek; (try (refine foldN (by with_reducible assumption) ?_; intro n9 N9))) | ((with_reducible show wpAny _ _ (call (Value.ref _) _) _ _ _); first | (with_reducible (k_here; (with_reducible show wpAny _ _ (call (Value.ref 339) _) _ _ _); refine metStop ?_))) | ((with_reducible show wpAny _ _ (callWith _ (Value.ref _) _ _ _) _ _ _); first | (with_reducible (k_here; k_dflt (refine' callWith_K ?k1_q ?k2_q ?_; (case k1_q => k_asm); (case k2_q => k_is); k_whole)))) | (k_unfold; (try dsimp only)) | (k_end; wrow_close) | (walk1; (all_goals (try dsimp only))) | (dsimp only; walk1) | (leave1; try dsimp only)))
    unfold MetStop
    k_dflt (refine' wp_at_top ?tA ?tH ?_; (case tA => exact rfl); (case tH => exact rfl); refine' met_c (bd := 60) (bu := 700) (res := .arg) ?k1 ?k2 ?k3 ?k4 ?k5 ?kK ?XB ?TB ?D ?hn ?hm SPEC ?kd ?ku ?kd2 ?ku2 ?_; (case k1 => k_asm); (case k2 => k_asm); (case k3 => k_asm); (case k4 => k_asm); (case k5 => k_asm); (case kK => exact rfl); (case XB => assumption); (case TB => assumption); (case D => assumption); (case hn => exact fun _ h => .tail _ (.tail _ (.tail _ h))); (case hm => exact .tail _ (.tail _ (.tail _ hmf))); (case kd => ktr_room); (case ku => ktr_units); (case kd2 => ktr_room); (case ku2 => ktr_units))
    intro v9 r9 o9 hh9 h9 tk9 TT9 F9 N9 V9 R9 B9 X9 T9 D9
    obtain ⟨t9, rfl⟩ := V9
    refine cps ?_; intro Q9 hQ9; obtain ⟨ts, eq91, hts⟩ := J; refine hQ9 ?_; clear hQ9 Q9; subst eq91
    exact ⟨hh9, h9, tk9, ⟨TTr.trans TT9, B9, X9, T9, D9⟩, rfl, F9, fun q hq => N9 q (.tail _ hq), ts ++ [t9], by simp, by simp [hts]⟩
  case hfin =>
    intro g1 ys hR J
    refine cps ?_; intro Q9 hQ9; obtain ⟨ts, eq91, hts⟩ := J; refine hQ9 ?_; clear hQ9 Q9; subst eq91
    refine cps ?_; intro Q9 hQ9; obtain ⟨z0, z1, z2, z3, z4, z5, eq91⟩ := len6 hts; refine hQ9 ?_; clear hQ9 Q9; subst eq91
    refine cps ?_; intro Q9 hQ9; obtain ⟨TTr, Br, Xr, Tr, Dr⟩ := hR; refine hQ9 ?_; clear hQ9 Q9
    (try (replace TTr := KtsTurn.trans TTa TTr))
    (try clear TTa)
    have TTa := TTr
    clear TTr
    unfold FinX
    intro D5 h5 tk5 hR5 F5 N5 o15
    clear hR5
    simp only [List.map] at N5
    have ad15 : Apart 362 D5 := off1_at o15 (q := (362, _)) (by k_mem)
    clear o15
    (repeat' (first | ((with_reducible show wpAny _ _ (execs _ _) _ _ _); (fail_if_success (fail_if_success k_fold)); refine foldQ ?_; intro qk ek) | ((with_reducible show wpAny _ _ (exec _ _) _ _ _); (fail_if_success (fail_if_success k_fold)); refine foldQ ?_; intro qk ek; (try (refine foldN (by with_reducible assumption) ?_; intro n9 N9))) | ((with_reducible show wpAny _ _ (compareOp CmpOp.NotEq (Value.ref _) (Value.ref _)) _ _ _); first | (with_reducible (k_here; k_dflt (refine' wp_at_top ?tA_q ?tH_q ?_; (case tA_q => exact rfl); (case tH_q => exact rfl); refine' cmp6_c ?k1_q ?k2_q ?k3_q ?k4_q ?k5_q ?kK_q ?m1_q ?m2_q ?kd_q ?ku_q ?_; (case k1_q => k_asm); (case k2_q => k_asm); (case k3_q => k_asm); (case k4_q => k_asm); (case k5_q => k_asm); (case kK_q => first | exact rfl | assumption); (case m1_q => k_mem); (case m2_q => k_mem); (case kd_q => ktr_room); (case ku_q => ktr_units); k_whole)))) | ((with_reducible show wpAny _ _ (binaryOp Operator.Mult (Value.ref _) (Value.int _ _)) _ _ _); first | (with_reducible (k_here; (with_reducible show wpAny _ _ (binaryOp Operator.Mult (Value.ref _) (Value.int _ _)) _ _ _); k_dflt (refine' KMa.mul ?F_q ?N_q ?l_q ?lo_q ?hi_q ?z_q ?e_q ?_; (case F_q => k_asm); (case N_q => k_asm); (case l_q => exact News.isList (by k_asm) (by k_mem)); (case lo_q => first | omega | decide); (case hi_q => first | omega | decide); (case z_q => (simp only [List.length_cons, List.length_nil]; decide)); (case e_q => (simp only [Int.reduceToNat, List.replicate_succ, List.replicate_zero, List.flatten_cons, List.flatten_nil, List.cons_append, List.nil_append, List.append_nil]; first | done | exact rfl)); k_whole); intro D' h' F' N' l1; (try k_lt l1); (try k_sweep)))) | ((with_reducible show wpAny _ _ (eval (Expr.ListComp _ _ _ _) _) _ _ _); first | (with_reducible (k_here; refine metStop ?_))) | ((with_reducible show wpAny _ _ (eval (Expr.Lambda _ _ _ _) _) _ _ _); first | (with_reducible (k_here; k_dflt (refine' kla_eval ?d0_q ?_; (case d0_q => exact rfl)); k_dflt (refine' kla_any ?F_q ?N_q ?T_q ?C_q ?cd_q ?U_q ?G_q ?hq_q ?sub_q ?ne_q ?cl_q ?_; (case F_q => k_asm); (case N_q => k_asm); (case T_q => k_asm); (case cd_q => exact rfl); (case C_q => kn_code); (case U_q => k_updF); (case G_q => with_reducible assumption); (case hq_q => first | exact rfl | decide +kernel); (case sub_q => (repeat (refine' List.forall_mem_cons.mpr ⟨?ma_q, ?_⟩; (case ma_q => k_mem))); intro q' hq'; (repeat (refine List.mem_cons_of_mem _ ?_)); revert q' hq'; with_reducible assumption); (case ne_q => (repeat (refine' List.forall_mem_cons.mpr ⟨apart_ne ?ma_q, ?_⟩; (case ma_q => first | with_reducible assumption | (dsimp only; with_reducible assumption)))); assumption); (case cl_q => exact rfl); k_whole); intro f' c' oc' vs' t' ct' ps' h' tk' F' N' d1' d2' G' l1' a1' a2' x'; clear x'; (try dsimp only at N'); (refine foldO N' ?_; clear N'; intro o9 n9 N'); (try k_lt l1'); (try k_sweep); (try k_fold)))) | ((with_reducible show wpAny _ _ (newList _) _ _ _); first | (with_reducible (k_here; k_dflt (refine' newList_V ?F_q ?N_q ?_ ?z_q; (case F_q => k_asm); (case N_q => k_asm); (case z_q => size_fits)); intro D' h' o' n' F' N' l1; (try k_lt l1); (try k_sweep)))) | ((with_reducible show wpAny _ _ (storeName _ _ _) _ _ _); first | (with_reducible (k_here; k_dflt (refine' storeX_V ?F_q ?N_q ?_ ?a_q ?b_q; (case F_q => k_asm); (case N_q => k_asm); (case a_q => rfl); (case b_q => rfl); k_whole; intro h' tk' m' F' N'; (try k_sweep))))) | (k_unfold; (try dsimp only)) | (k_end; wrow_close) | (walk1; (all_goals (try dsimp only))) | (dsimp only; walk1) | (leave1; try dsimp only)))
    unfold MetStop
    rename Fr _ L' _ _ => FF; rename News _ L' _ _ => NN; rename Below (ktrTop dp un gd cn cs L a ccd cl outer) base (envX cn cs L a ccd cl :: outer) _ => BB; rename (Mine.hd.heap_1 w.params).In _ => XX; rename Top _ _ _ _ _ _ => TP; rename KtsDicts _ _ => DD
    k_dflt (refine ListComp_name (Rl := RlD (List.filterMap (fun x => x.frame) (envX cn cs L a ccd cl :: outer)) (ktrTop dp un gd cn cs L a ccd cl outer) base (envX cn cs L a ccd cl :: outer) (Mine.hd.heap_1 w.params) p loose mean mg mb _) (F₀ := FF) (by with_unfolding_all rfl) (by decide) (by rfl) (by decide) (by rfl) (by rfl) (fun _ h b e => h.1.none_ b e) ⟨KtsTurn.refl, BB, XX, TP, DD⟩ ?_)
    (repeat' (first | ((with_reducible show wpAny _ _ (execs _ _) _ _ _); (fail_if_success (fail_if_success k_fold)); refine foldQ ?_; intro qk ek) | ((with_reducible show wpAny _ _ (exec _ _) _ _ _); (fail_if_success (fail_if_success k_fold)); refine foldQ ?_; intro qk ek; (try (refine foldN (by with_reducible assumption) ?_; intro n9 N9))) | ((with_reducible show wpAny _ _ (eval (Expr.Name _ _) _) _ _ _); first | (with_reducible (k_here; name_kind "local"; k_dflt (refine' nameX_L ?F_q ?v_q ?_ ?a_q ?b_q; (case F_q => k_asm); (case a_q => rfl); (case b_q => rfl); (case v_q => rfl); k_whole)))) | (k_unfold; (try dsimp only)) | (k_end; wrow_close) | (walk1; (all_goals (try dsimp only))) | (dsimp only; walk1) | (leave1; try dsimp only)))
    refine door_src (w₁ := w) (base := base) (p₁ := p) (loose := loose) (mean := mean) (mg := mg) (mb := mb) (res := .over) rfl FF NN (by k_mem) (by first | size_fits | exact Nat.le_of_ble_eq_true rfl) ?hS2 ?hX2
    case hS2 =>
      simp only [List.forall_mem_cons]
      refine ⟨?_, ?_, ?_, fun _ h => nomatch h⟩
      · refine ⟨_, rfl, _, _, _, _, by k_mem, ?_⟩
        (repeat (with_reducible rename Bel _ _ => q9; clear q9)); (repeat (with_reducible rename AllBel _ _ => q9; clear q9)); (repeat (with_reducible rename Apart _ _ => q9; clear q9)); (repeat (with_reducible rename News _ _ _ _ => q9; clear q9)); (repeat (with_reducible rename Fr _ _ _ _ => q9; clear q9)); (repeat (with_reducible rename Below _ _ _ _ => q9; clear q9)); (repeat (with_reducible rename TabGood _ _ _ => q9; clear q9)); (repeat (with_reducible rename Top _ _ _ _ _ _ => q9; clear q9)); (repeat (with_reducible rename Frag.In _ _ => q9; clear q9)); (repeat (with_reducible rename KtsDicts _ _ => q9; clear q9)); clear hret hne hsub
        intro dp' un' gd' cn' cs' a' ccd' cl' outer' A0' h0' L2' m' news' s' Q' E' B2' F2' X2' N2' T2' hk' hn' hd' hu' hret' hr57 hr45
        have hfv := hn' (fv, _) (by k_mem)
        refine wpAny_call ?_
        k_dflt (refine' kla_code ?k1 ?k2 ?k3 ?k4 ?k5 ?kA ?kF ?kK ?k6 ?k7 ?k8 ?k9 ?kB ?_ ?c2 ?c3 ?c4 ?c5; (case kA => exact rfl); (case kF => exact rfl); (case kK => exact hk'); (case k1 => k_asm); (case k2 => k_asm); (case k3 => k_asm); (case k4 => k_asm); (case k5 => k_asm); (case k6 => k_mem); (case k7 => exact codeRec_news (by k_asm) (by k_mem) (by assumption) (by assumption)); (case k8 => ktr_room); (case k9 => exact rfl); (case c5 => decide); (case kB => exact locs rfl); (case c2 => exact rfl); (case c3 => exact rfl); (case c4 => exact rfl); k_whole; intro g3' L3' h3' FG3' F3' N3' B3' X3' T3'; (try k_lift B3'); (refine foldM F3' ?_; clear F3'; intro m9 F3'); (try first | (with_reducible refine foldA ?_; intro A9 d9 u9) | (with_reducible refine foldAu ?_; intro A9 d9 u9)); (try (refine foldE ?_; intro e9)); (try k_unmd); (try (refine foldQ ?_; intro qk ek)); (try dsimp only))
        have kd := ktsDicts_nil (g := g3')
        (repeat' (first | ((with_reducible show wpAny _ _ (execs _ _) _ _ _); (fail_if_success (fail_if_success k_fold)); refine foldQ ?_; intro qk ek) | ((with_reducible show wpAny _ _ (exec _ _) _ _ _); (fail_if_success (fail_if_success k_fold)); refine foldQ ?_; intro qk ek; (try (refine foldN (by with_reducible assumption) ?_; intro n9 N9))) | ((with_reducible show wpAny _ _ (subscriptTail (Expr.Name _ _) (Expr.Constant _ _ _) (Value.ref _) (Value.int _ _)) _ _ _); first | (with_reducible (k_here; (with_reducible show wpAny _ _ (subscriptTail _ _ (Value.ref _) (Value.int _ _)) _ _ _); k_dflt (refine' item_seq ?h0_q ?h1_q ?k1_q ?k2_q ?kc_q ?k3_q ?_ ?k4_q; (case h0_q => decide); (case h1_q => decide); (case k1_q => k_asm); (case k2_q => with_reducible k_mem); (case kc_q => first | exact .inl rfl | exact .inr rfl); (case k3_q => exact rfl); (case k4_q => with_unfolding_all rfl); k_whole)))) | ((with_reducible show wpAny _ _ (callWith _ (Value.ref _) _ _ _) _ _ _); first | (with_reducible (k_here; k_dflt (refine' callWith_K ?k1_q ?k2_q ?_; (case k1_q => k_asm); (case k2_q => k_is); k_whole)))) | ((with_reducible show wpAny _ _ (call (Value.ref _) _) _ _ _); first | (with_reducible (k_here; (with_reducible apply doorG_c); k_dflt (walk_at "c8"; (first | with_reducible assumption | omega); ktr_room; ktr_units; k_whole); (intro e' g' h' tk' FG' S' U'); (try dsimp only)))) | ((with_reducible show wpAny _ _ (leaving _ (Value.ref _)) _ _ _); first | (with_reducible (k_here; (with_reducible rename RaisedSN _ _ _ _ _ _ _ => rs9); k_dflt (refine' leave_onX ?k0_q ?k1_q ?k2_q ?k3_q ?k4_q ?_; (case k0_q => exact rfl); (case k3_q => assumption); (case k2_q => assumption); (case k1_q => assumption); (case k4_q => assumption); k_whole; intro h' S' R' U'; (try dsimp only at S' R' U' ⊢); (try dsimp only [InitBack]))))) | ((with_reducible show wpAny _ _ (eval (Expr.Name _ _) _) _ _ _); first | (with_reducible (k_here; name_kind "globalImplicit"; k_dflt (first | (name_is_builtin; refine' nameX_B ?F_q ?X_q ?T_q ?e_q ?v_q ?n_q ?_ ?a_q ?b_q; (case F_q => k_asm); (case X_q => k_asm); (case T_q => k_asm); (case a_q => rfl); (case b_q => rfl); (case e_q => k_is); (case v_q => boot_fast); (case n_q => decide); k_whole) | (refine' nameX_K ?F_q ?X_q ?T_q ?e_q ?_ ?a_q ?b_q; (case F_q => k_asm); (case X_q => k_asm); (case T_q => k_asm); (case a_q => rfl); (case b_q => rfl); (case e_q => k_is); k_whole))))) | (k_unfold; (try dsimp only)) | (k_end; wrow_close) | (walk1; (all_goals (try dsimp only))) | (dsimp only; walk1) | (leave1; try dsimp only)))
        rename RaisedSN base _ _ _ _ _ _ => SS; exact hr57 _ _ _ _ (by assumption) SS (by assumption) rfl
      · refine ⟨_, rfl, _, _, _, _, by k_mem, ?_⟩
        (repeat (with_reducible rename Bel _ _ => q9; clear q9)); (repeat (with_reducible rename AllBel _ _ => q9; clear q9)); (repeat (with_reducible rename Apart _ _ => q9; clear q9)); (repeat (with_reducible rename News _ _ _ _ => q9; clear q9)); (repeat (with_reducible rename Fr _ _ _ _ => q9; clear q9)); (repeat (with_reducible rename Below _ _ _ _ => q9; clear q9)); (repeat (with_reducible rename TabGood _ _ _ => q9; clear q9)); (repeat (with_reducible rename Top _ _ _ _ _ _ => q9; clear q9)); (repeat (with_reducible rename Frag.In _ _ => q9; clear q9)); (repeat (with_reducible rename KtsDicts _ _ => q9; clear q9)); clear hret hne hsub
        intro dp' un' gd' cn' cs' a' ccd' cl' outer' A0' h0' L2' m' news' s' Q' E' B2' F2' X2' N2' T2' hk' hn' hd' hu' hret' hr57 hr45
        have hfv := hn' (fv, _) (by k_mem)
        refine wpAny_call ?_
        k_dflt (refine' kla_code ?k1 ?k2 ?k3 ?k4 ?k5 ?kA ?kF ?kK ?k6 ?k7 ?k8 ?k9 ?kB ?_ ?c2 ?c3 ?c4 ?c5; (case kA => exact rfl); (case kF => exact rfl); (case kK => exact hk'); (case k1 => k_asm); (case k2 => k_asm); (case k3 => k_asm); (case k4 => k_asm); (case k5 => k_asm); (case k6 => k_mem); (case k7 => exact codeRec_news (by k_asm) (by k_mem) (by assumption) (by assumption)); (case k8 => ktr_room); (case k9 => exact rfl); (case c5 => decide); (case kB => exact locs rfl); (case c2 => exact rfl); (case c3 => exact rfl); (case c4 => exact rfl); k_whole; intro g3' L3' h3' FG3' F3' N3' B3' X3' T3'; (try k_lift B3'); (refine foldM F3' ?_; clear F3'; intro m9 F3'); (try first | (with_reducible refine foldA ?_; intro A9 d9 u9) | (with_reducible refine foldAu ?_; intro A9 d9 u9)); (try (refine foldE ?_; intro e9)); (try k_unmd); (try (refine foldQ ?_; intro qk ek)); (try dsimp only))
        have kd := ktsDicts_nil (g := g3')
        (repeat' (first | ((with_reducible show wpAny _ _ (execs _ _) _ _ _); (fail_if_success (fail_if_success k_fold)); refine foldQ ?_; intro qk ek) | ((with_reducible show wpAny _ _ (exec _ _) _ _ _); (fail_if_success (fail_if_success k_fold)); refine foldQ ?_; intro qk ek; (try (refine foldN (by with_reducible assumption) ?_; intro n9 N9))) | ((with_reducible show wpAny _ _ (callWith _ (Value.ref _) _ _ _) _ _ _); first | (with_reducible (k_here; k_dflt (refine' callWith_K ?k1_q ?k2_q ?_; (case k1_q => k_asm); (case k2_q => k_is); k_whole)))) | ((with_reducible show wpAny _ _ (call (Value.ref _) _) _ _ _); first | (with_reducible (k_here; (with_reducible apply doorH_c); k_dflt (walk_at "c8"; (first | with_reducible assumption | omega); ktr_room; ktr_units; k_whole); (intro e' g' h' tk' FG' S' U'); (try dsimp only)))) | ((with_reducible show wpAny _ _ (leaving _ (Value.ref _)) _ _ _); first | (with_reducible (k_here; (with_reducible rename RaisedSN _ _ _ _ _ _ _ => rs9); k_dflt (refine' leave_onX ?k0_q ?k1_q ?k2_q ?k3_q ?k4_q ?_; (case k0_q => exact rfl); (case k3_q => assumption); (case k2_q => assumption); (case k1_q => assumption); (case k4_q => assumption); k_whole; intro h' S' R' U'; (try dsimp only at S' R' U' ⊢); (try dsimp only [InitBack]))))) | ((with_reducible show wpAny _ _ (eval (Expr.Name _ _) _) _ _ _); first | (with_reducible (k_here; name_kind "globalImplicit"; k_dflt (first | (name_is_builtin; refine' nameX_B ?F_q ?X_q ?T_q ?e_q ?v_q ?n_q ?_ ?a_q ?b_q; (case F_q => k_asm); (case X_q => k_asm); (case T_q => k_asm); (case a_q => rfl); (case b_q => rfl); (case e_q => k_is); (case v_q => boot_fast); (case n_q => decide); k_whole) | (refine' nameX_K ?F_q ?X_q ?T_q ?e_q ?_ ?a_q ?b_q; (case F_q => k_asm); (case X_q => k_asm); (case T_q => k_asm); (case a_q => rfl); (case b_q => rfl); (case e_q => k_is); k_whole))))) | (k_unfold; (try dsimp only)) | (k_end; wrow_close) | (walk1; (all_goals (try dsimp only))) | (dsimp only; walk1) | (leave1; try dsimp only)))
        rename RaisedSN base _ _ _ _ _ _ => SS; exact hr57 _ _ _ _ (by assumption) SS (by assumption) rfl
      · refine ⟨_, rfl, _, _, _, _, by k_mem, ?_⟩
        (repeat (with_reducible rename Bel _ _ => q9; clear q9)); (repeat (with_reducible rename AllBel _ _ => q9; clear q9)); (repeat (with_reducible rename Apart _ _ => q9; clear q9)); (repeat (with_reducible rename News _ _ _ _ => q9; clear q9)); (repeat (with_reducible rename Fr _ _ _ _ => q9; clear q9)); (repeat (with_reducible rename Below _ _ _ _ => q9; clear q9)); (repeat (with_reducible rename TabGood _ _ _ => q9; clear q9)); (repeat (with_reducible rename Top _ _ _ _ _ _ => q9; clear q9)); (repeat (with_reducible rename Frag.In _ _ => q9; clear q9)); (repeat (with_reducible rename KtsDicts _ _ => q9; clear q9)); clear hret hne hsub
        intro dp' un' gd' cn' cs' a' ccd' cl' outer' A0' h0' L2' m' news' s' Q' E' B2' F2' X2' N2' T2' hk' hn' hd' hu' hret' hr57 hr45
        have hfv := hn' (fv, _) (by k_mem)
        refine wpAny_call ?_
        k_dflt (refine' kla_code ?k1 ?k2 ?k3 ?k4 ?k5 ?kA ?kF ?kK ?k6 ?k7 ?k8 ?k9 ?kB ?_ ?c2 ?c3 ?c4 ?c5; (case kA => exact rfl); (case kF => exact rfl); (case kK => exact hk'); (case k1 => k_asm); (case k2 => k_asm); (case k3 => k_asm); (case k4 => k_asm); (case k5 => k_asm); (case k6 => k_mem); (case k7 => exact codeRec_news (by k_asm) (by k_mem) (by assumption) (by assumption)); (case k8 => ktr_room); (case k9 => exact rfl); (case c5 => decide); (case kB => exact locs rfl); (case c2 => exact rfl); (case c3 => exact rfl); (case c4 => exact rfl); k_whole; intro g3' L3' h3' FG3' F3' N3' B3' X3' T3'; (try k_lift B3'); (refine foldM F3' ?_; clear F3'; intro m9 F3'); (try first | (with_reducible refine foldA ?_; intro A9 d9 u9) | (with_reducible refine foldAu ?_; intro A9 d9 u9)); (try (refine foldE ?_; intro e9)); (try k_unmd); (try (refine foldQ ?_; intro qk ek)); (try dsimp only))
        have kd := ktsDicts_nil (g := g3')
        (repeat' (first | ((with_reducible show wpAny _ _ (execs _ _) _ _ _); (fail_if_success (fail_if_success k_fold)); refine foldQ ?_; intro qk ek) | ((with_reducible show wpAny _ _ (exec _ _) _ _ _); (fail_if_success (fail_if_success k_fold)); refine foldQ ?_; intro qk ek; (try (refine foldN (by with_reducible assumption) ?_; intro n9 N9))) | ((with_reducible show wpAny _ _ (callWith _ (Value.ref _) _ _ _) _ _ _); first | (with_reducible (k_here; k_dflt (refine' callWith_K ?k1_q ?k2_q ?_; (case k1_q => k_asm); (case k2_q => k_is); k_whole)))) | ((with_reducible show wpAny _ _ (leaving _ (Value.ref _)) _ _ _); first | (with_reducible (k_here; (with_reducible rename RaisedSN _ _ _ _ _ _ _ => rs9); k_dflt (refine' leave_onX ?k0_q ?k1_q ?k2_q ?k3_q ?k4_q ?_; (case k0_q => exact rfl); (case k3_q => assumption); (case k2_q => assumption); (case k1_q => assumption); (case k4_q => assumption); k_whole; intro h' S' R' U'; (try dsimp only at S' R' U' ⊢); (try dsimp only [InitBack]))))) | ((with_reducible show wpAny _ _ (call (Value.ref _) _) _ _ _); first | (with_reducible (k_here; (with_reducible apply glue_c); k_dflt (walk_at "c8"; (first | with_reducible assumption | omega); (first | with_reducible assumption | omega); (first | with_reducible assumption | omega); (first | with_reducible assumption | omega); ktr_room; ktr_units; all_goals (first | (refine fun (x' : Addr) (dx' : Addr) o' (h' : Heap) tk' F' N' l1' l2' G' K' => ?_; (try k_lt l1'); (try k_lt2 l2'); (try k_sweep); (try k_fold)) | (refine fun (e' : Addr) (g' : Heap) (h' : Heap) tk' FG' S' U' K' => ?_; try dsimp only)))))) | ((with_reducible show wpAny _ _ (eval (Expr.Name _ _) _) _ _ _); first | (with_reducible (k_here; name_kind "globalImplicit"; k_dflt (first | (name_is_builtin; refine' nameX_B ?F_q ?X_q ?T_q ?e_q ?v_q ?n_q ?_ ?a_q ?b_q; (case F_q => k_asm); (case X_q => k_asm); (case T_q => k_asm); (case a_q => rfl); (case b_q => rfl); (case e_q => k_is); (case v_q => boot_fast); (case n_q => decide); k_whole) | (refine' nameX_K ?F_q ?X_q ?T_q ?e_q ?_ ?a_q ?b_q; (case F_q => k_asm); (case X_q => k_asm); (case T_q => k_asm); (case a_q => rfl); (case b_q => rfl); (case e_q => k_is); k_whole))))) | (k_unfold; (try dsimp only)) | (k_end; wrow_close) | (walk1; (all_goals (try dsimp only))) | (dsimp only; walk1) | (leave1; try dsimp only)))
        all_goals first | (rename RaisedSN base _ _ _ _ _ _ => SS; exact hr57 _ _ _ _ (by assumption) SS (by assumption) rfl) | (exfalso; rename ¬ G5.Over _ => KK; exact KK (by unfold G5.Over MX; dsimp only; omega))
    intro gg hS
    refine compX_inv (fun i ys => ∃ ts : List Tok, ys = ts.map (fun t => Value.str (Str.ofString "over") t) ∧ ts.length = i) ?hstep2 ?hfin2 ⟨_, by k_mem, rfl, _, rfl⟩ _ 0 [] _ rfl ⟨KtsTurn.refl, BB, XX, TP, DD⟩ ⟨[], rfl, rfl⟩
    case hstep2 =>
      intro i ys v g1 I oI C oC D m2 h1 tk1 E1 hi hR J nC hx F1 N1 off ne
      obtain ⟨f, rfl, oc, od, fd, sl, hmf, SPEC⟩ := hS v (by have hiz := Array.mem_of_getElem? hi; simpa using hiz)
      refine cps ?_; intro Q9 hQ9; obtain ⟨TTr, Br, Xr, Tr, Dr⟩ := hR; refine hQ9 ?_; clear hQ9 Q9
      (repeat' (first | ((with_reducible show wpAny _ _ (execs _ _) _ _ _); (fail_if_success (fail_if_success k_fold)); refine foldQ ?_; intro qk ek) | ((with_reducible show wpAny _ _ (exec _ _) _ _ _); (fail_if_success (fail_if_success k_fold)); refine foldQ ?_; intro qk ek; (try (refine foldN (by with_reducible assumption) ?_; intro n9 N9))) | ((with_reducible show wpAny _ _ (call (Value.ref _) _) _ _ _); first | (with_reducible (k_here; (with_reducible show wpAny _ _ (call (Value.ref 339) _) _ _ _); refine metStop ?_))) | ((with_reducible show wpAny _ _ (callWith _ (Value.ref _) _ _ _) _ _ _); first | (with_reducible (k_here; k_dflt (refine' callWith_K ?k1_q ?k2_q ?_; (case k1_q => k_asm); (case k2_q => k_is); k_whole)))) | (k_unfold; (try dsimp only)) | (k_end; wrow_close) | (walk1; (all_goals (try dsimp only))) | (dsimp only; walk1) | (leave1; try dsimp only)))
      unfold MetStop
      k_dflt (refine' wp_at_top ?tA ?tH ?_; (case tA => exact rfl); (case tH => exact rfl); refine' met_c (bd := 60) (bu := 700) (res := .over) ?k1 ?k2 ?k3 ?k4 ?k5 ?kK ?XB ?TB ?D ?hn ?hm SPEC ?kd ?ku ?kd2 ?ku2 ?_; (case k1 => k_asm); (case k2 => k_asm); (case k3 => k_asm); (case k4 => k_asm); (case k5 => k_asm); (case kK => exact rfl); (case XB => assumption); (case TB => assumption); (case D => assumption); (case hn => exact fun _ h => .tail _ (.tail _ (.tail _ h))); (case hm => exact .tail _ (.tail _ (.tail _ hmf))); (case kd => ktr_room); (case ku => ktr_units); (case kd2 => ktr_room); (case ku2 => ktr_units))
      intro v9 r9 o9 hh9 h9 tk9 TT9 F9 N9 V9 R9 B9 X9 T9 D9
      obtain ⟨t9, rfl⟩ := V9
      refine cps ?_; intro Q9 hQ9; obtain ⟨ts, eq91, hts⟩ := J; refine hQ9 ?_; clear hQ9 Q9; subst eq91
      exact ⟨hh9, h9, tk9, ⟨TTr.trans TT9, B9, X9, T9, D9⟩, rfl, F9, fun q hq => N9 q (.tail _ hq), ts ++ [t9], by simp, by simp [hts]⟩
    case hfin2 =>
      intro g1 ys hR J
      refine cps ?_; intro Q9 hQ9; obtain ⟨ts, eq91, hts⟩ := J; refine hQ9 ?_; clear hQ9 Q9; subst eq91
      refine cps ?_; intro Q9 hQ9; obtain ⟨z0, z1, z2, eq91⟩ := len3 hts; refine hQ9 ?_; clear hQ9 Q9; subst eq91
      refine cps ?_; intro Q9 hQ9; obtain ⟨TTr, Br, Xr, Tr, Dr⟩ := hR; refine hQ9 ?_; clear hQ9 Q9
      (try (replace TTr := KtsTurn.trans TTa TTr))
      (try clear TTa)
      have TTa := TTr
      clear TTr
      unfold FinX
      intro D5 h5 tk5 hR5 F5 N5 o15
      clear hR5
      simp only [List.map] at N5
      have ad15 : Apart 362 D5 := off1_at o15 (q := (362, _)) (by k_mem)
      clear o15
      (repeat' (first | ((with_reducible show wpAny _ _ (execs _ _) _ _ _); (fail_if_success (fail_if_success k_fold)); refine foldQ ?_; intro qk ek) | ((with_reducible show wpAny _ _ (exec _ _) _ _ _); (fail_if_success (fail_if_success k_fold)); refine foldQ ?_; intro qk ek; (try (refine foldN (by with_reducible assumption) ?_; intro n9 N9))) | ((with_reducible show wpAny _ _ (compareOp CmpOp.Eq (Value.ref _) (Value.ref _)) _ _ _); first | (with_reducible (k_here; k_dflt (refine' wp_at_top ?tA_q ?tH_q ?_; (case tA_q => exact rfl); (case tH_q => exact rfl); refine' cmp3_c ?k1_q ?k2_q ?k3_q ?k4_q ?k5_q ?kK_q ?m1_q ?m2_q ?kd_q ?ku_q ?_; (case k1_q => k_asm); (case k2_q => k_asm); (case k3_q => k_asm); (case k4_q => k_asm); (case k5_q => k_asm); (case kK_q => first | exact rfl | assumption); (case m1_q => k_mem); (case m2_q => k_mem); (case kd_q => ktr_room); (case ku_q => ktr_units); k_whole)))) | ((with_reducible show wpAny _ _ (binaryOp Operator.Mult (Value.ref _) (Value.int _ _)) _ _ _); first | (with_reducible (k_here; (with_reducible show wpAny _ _ (binaryOp Operator.Mult (Value.ref _) (Value.int _ _)) _ _ _); k_dflt (refine' KMa.mul ?F_q ?N_q ?l_q ?lo_q ?hi_q ?z_q ?e_q ?_; (case F_q => k_asm); (case N_q => k_asm); (case l_q => exact News.isList (by k_asm) (by k_mem)); (case lo_q => first | omega | decide); (case hi_q => first | omega | decide); (case z_q => (simp only [List.length_cons, List.length_nil]; decide)); (case e_q => (simp only [Int.reduceToNat, List.replicate_succ, List.replicate_zero, List.flatten_cons, List.flatten_nil, List.cons_append, List.nil_append, List.append_nil]; first | done | exact rfl)); k_whole); intro D' h' F' N' l1; (try k_lt l1); (try k_sweep)))) | ((with_reducible show wpAny _ _ (newList _) _ _ _); first | (with_reducible (k_here; k_dflt (refine' newList_V ?F_q ?N_q ?_ ?z_q; (case F_q => k_asm); (case N_q => k_asm); (case z_q => size_fits)); intro D' h' o' n' F' N' l1; (try k_lt l1); (try k_sweep)))) | (k_unfold; (try dsimp only)) | (k_end; wrow_close) | (walk1; (all_goals (try dsimp only))) | (dsimp only; walk1) | (leave1; try dsimp only)))
      rename Fr _ L _ m => kF; rename News _ L _ _ => kN; rename KtsTurn (List.filterMap _ outer) h₀ _ => kT; rename Below A₀ base outer _ => kB; rename (Mine.hd.heap_1 w.params).In _ => kX; rename Top _ _ _ _ _ _ => kP; rename KtsDicts (List.filterMap _ outer) _ => kD
      rename TabGood _ _ _ => GG
      exact hret _ _ _ _ kT kF (fun q hq => kN q (by rcases List.mem_cons.mp hq with rfl | hq; (k_mem); repeat (first | exact hq | refine List.mem_cons_of_mem _ ?_))) kB kX kP kD
end
end
theorem news_one {h₀ h' : Heap} {L d : Addr} {o o' : Obj} {led : List (Addr × Obj)} {f : Obj → List (Addr × Obj)} (U : UpdF d o led f) (N : News h₀ L h' ((d, o') :: led.filter fun p => p.1 != d)) : News h₀ L h' (f o') := fun q hq => by
  rcases UpdF.of_mem U hq with rfl | ⟨hq, hd⟩
  · exact N _ (.head _)
  · exact N _ (.tail _ (List.mem_filter.mpr ⟨hq, by simpa using hd⟩))
theorem led_one {h₀ h : Heap} {L d : Addr} {o : Obj} {led : List (Addr × Obj)} {f : Obj → List (Addr × Obj)} (U : UpdF d o led f) (N : News h₀ L h led) : News h₀ L h ((d, o) :: led.filter fun p => p.1 != d) := fun q hq => by
  rcases List.mem_cons.mp hq with rfl | hq
  · exact N _ (UpdF.has U)
  · exact N _ (List.mem_filter.mp hq).1
theorem off_ne {d : Nat} {led : List (Addr × Obj)} : ∀ p ∈ (led.filter fun p => p.1 != d), @Ne Nat p.1 d := fun p hp => by
  have := (List.mem_filter.mp hp).2
  simpa using this
theorem in_off {d : Nat} {led : List (Addr × Obj)} {q : Addr × Obj} (h : q ∈ led) (hd : @Ne Nat q.1 d) : q ∈ led.filter fun p => p.1 != d := List.mem_filter.mpr ⟨h, by simpa using hd⟩
section
variable {w : World} {p : Program} {loose : List Str} {mean : ExcName → Option Value} {mg mb : Str → Option Value}
  {dp un : Nat} {gd : Option (List Code)} {cn : Str} {cs : Scope} {a : Addr} {ccd : Value} {cl : List (Str × Addr)} {outer : List Env} {A₀ : Around} {base h₀ : Heap} {L : Addr} {m : Str → Option Value} {news : List (Addr × Obj)} {s : Shared} {Q E : Value → Shared → Prop}

theorem deeds_c {f1 f2 : Addr} {o1 o2 : Obj} {g f : G5} {c b : Int} {t1 t2 : Tok} {ps : Array Value} {cods : List (Addr × Obj)} {fl : Obj → List (Addr × Obj)}
  (B : Below A₀ base outer h₀) (F : Fr h₀ L s.heap m) (X : (hd.heap_1 w.params).In h₀) (N : News h₀ L s.heap news) (T : Top p loose mean mg mb h₀) (hk : cs.kind = .function)
  (XB : (hd.heap_1 w.params).In base) (TB : Top p loose mean mg mb base) (D : KtsDicts (outer.filterMap (·.frame)) h₀)
  (U : UpdF 355 (tabObj ps) news fl) (hm1 : (f1, o1) ∈ news) (hm2 : (f2, o2) ∈ news) (h1 : LstG o1 g) (h2 : LstG o2 f) (ok1 : g.Ok) (ok2 : f.Ok) (n1 : @Ne Nat f1 355) (n2 : @Ne Nat f2 355)
  (hc0 : -10 ≤ c) (hc1 : c ≤ 10) (hb0 : -10 ≤ b) (hb1 : b ≤ 10) (GT : TabGood qDeeds ps cods) (hsub : ∀ q ∈ cods, q ∈ news) (hcne : ∀ q ∈ cods, @Ne Nat q.1 355) (CH : CodeHd base 359 355)
  (hd : dp + 100 < recursionLimit) (hu : un + 1500 < cLine)
  (hret : ∀ (ps' : Array Value) (cods' : List (Addr × Obj)) (h₀' h' : Heap) (tk' : Nat), KtsTurn (outer.filterMap (·.frame)) h₀ h₀' → Fr h₀' L h' m → News h₀' L h' (fl (tabObj ps')) → News h₀' L h' cods' → TabGood qDeeds ps' cods' → (∀ q ∈ cods', q ∈ cods ∨ ∀ p ∈ news, p.1 < q.1) →
    Below A₀ base outer h₀' → (Mine.hd.heap_1 w.params).In h₀' → Top p loose mean mg mb h₀' → KtsDicts (outer.filterMap (·.frame)) h₀' → Q (.bool true) { s with heap := h', toks := tk' }) :
  wpAny (model PP w) (ktrTop dp un gd cn cs L a ccd cl outer) (call (.ref 360) [.ref f1, .ref f2, .int c t1, .int b t2]) Q E s :=
  deeds0 (news := news.filter fun p => p.1 != 355) B F X (led_one U N) T hk XB TB D off_ne (in_off hm1 n1) (in_off hm2 n2) h1 h2 ok1 ok2 hc0 hc1 hb0 hb1 GT (fun q hq => in_off (hsub q hq) (hcne q hq)) CH hd hu
    fun ps' cods' h₀' h' tk' tt F' N' NC G' cn B' X' T' D' => hret ps' cods' h₀' h' tk' tt F' (news_one U N') NC G' (fun q hq => (cn q hq).elim .inl fun h => .inr fun p hp => by
      by_cases e : p.1 = 355
      · have h5 : @LT.lt Nat _ 355 q.1 := h _ (.head _)
        rw [e]; exact h5
      · exact h p (.tail _ (in_off hp e))) B' X' T' D'
theorem doors_c {fv : Addr} {o : Obj} {g : G5} {ps : Array Value} {cods : List (Addr × Obj)} {fl : Obj → List (Addr × Obj)}
  (B : Below A₀ base outer h₀) (F : Fr h₀ L s.heap m) (X : (hd.heap_1 w.params).In h₀) (N : News h₀ L s.heap news) (T : Top p loose mean mg mb h₀) (hk : cs.kind = .function)
  (XB : (hd.heap_1 w.params).In base) (TB : Top p loose mean mg mb base) (D : KtsDicts (outer.filterMap (·.frame)) h₀)
  (U : UpdF 362 (tabObj ps) news fl) (hm : (fv, o) ∈ news) (ho : LstG o g) (ok : g.Ok) (n1 : @Ne Nat fv 362)
  (GT : TabGood qDoors ps cods) (hsub : ∀ q ∈ cods, q ∈ news) (hcne : ∀ q ∈ cods, @Ne Nat q.1 362) (CH : CodeHd base 364 362)
  (hd : dp + 100 < recursionLimit) (hu : un + 1500 < cLine)
  (hret : ∀ (ps' : Array Value) (h₀' h' : Heap) (tk' : Nat), KtsTurn (outer.filterMap (·.frame)) h₀ h₀' → Fr h₀' L h' m → News h₀' L h' (fl (tabObj ps')) →
    Below A₀ base outer h₀' → (Mine.hd.heap_1 w.params).In h₀' → Top p loose mean mg mb h₀' → KtsDicts (outer.filterMap (·.frame)) h₀' → Q (.bool true) { s with heap := h', toks := tk' }) :
  wpAny (model PP w) (ktrTop dp un gd cn cs L a ccd cl outer) (call (.ref 365) [.ref fv]) Q E s :=
  doors0 (news := news.filter fun p => p.1 != 362) B F X (led_one U N) T hk XB TB D off_ne (in_off hm n1) ho ok GT (fun q hq => in_off (hsub q hq) (hcne q hq)) CH hd hu
    fun ps' h₀' h' tk' tt F' N' B' X' T' D' => hret ps' h₀' h' tk' tt F' (news_one U N') B' X' T' D'
end
theorem ForEnd.mono {Rl : Heap → Prop} {L : Addr} {s₁ s₂ : Shared} {I : Addr} {oI : Obj} {S : List (Addr × Obj) → Prop} {r r' : (Str → Option Value) → Heap → List (Addr × Obj) → Prop} {Q : Flow → Shared → Prop} {f : Flow} (hr : ∀ m g nw, r m g nw → r' m g nw) (h : ForEnd Rl L s₁ I oI S r Q f s₂) : ForEnd Rl L s₁ I oI S r' Q f s₂ := by
  cases f with
  | ret v => exact h
  | brk => exact h
  | next =>
    refine cps ?_; intro Q9 hQ9; obtain ⟨g, h', tk, m', nw, h1, h2, h3, h4, h5, h6, h7⟩ := h; refine hQ9 ?_; clear hQ9 Q9
    exact ⟨g, h', tk, m', nw, h1, h2, h3, h4, h5, h6, hr _ _ _ h7⟩
  | cont =>
    refine cps ?_; intro Q9 hQ9; obtain ⟨g, h', tk, m', nw, h1, h2, h3, h4, h5, h6, h7⟩ := h; refine hQ9 ?_; clear hQ9 Q9
    exact ⟨g, h', tk, m', nw, h1, h2, h3, h4, h5, h6, hr _ _ _ h7⟩
theorem forX_inv {prog : Program} {w : World} {A : Around} {E : Value → Shared → Prop} {Rl : Heap → Prop} {env : Env} {target : Expr} {body : List Stmt} {Q : Flow → Shared → Prop} {s : Shared} {S : List (Addr × Obj) → Prop}
    (J : List Value → (Str → Option Value) → Heap → List (Addr × Obj) → Prop)
    (done : ∀ m g nw h tk, J [] m g nw → Fr g env.locals h m → News g env.locals h nw → Q .next { s with heap := h, toks := tk })
    (step : ∀ v vs m g nw I oI h tk, J (v :: vs) m g nw → Fr g env.locals h m → News g env.locals h ((I, oI) :: nw) → (∀ p ∈ nw, p.1 ≠ I) →
      wpAny (model prog w) A (assign target env v) (fun _ s₁ => wpAny (model prog w) A (execs body env) (ForEnd Rl env.locals { s with heap := h, toks := tk } I oI S (J vs) Q) E s₁) E { s with heap := h, toks := tk }) :
    ∀ vs m g nw, J vs m g nw → ForX prog w A E Rl env target body Q s S vs m g nw
  | [], m, g, nw, j => fun h tk F N => done m g nw h tk j F N
  | v :: vs, m, g, nw, j => fun I oI h tk F N off => wpAny_mono (step v vs m g nw I oI h tk j F N off) (fun _ _ q => wpAny_mono q (fun _ _ e => ForEnd.mono (forX_inv J done step vs) e) fun _ _ e => e) fun _ _ e => e
abbrev tupO (a : Array Value) : Obj := { cls := .type "tuple", data := .seq a }
inductive CopyOk (P : Params) (nw : List (Addr × Obj)) (v : Value) : Prop
  | mk (t x dx su sd d ul dl : Addr) (o ou od oul odl : Obj) (n : Int) (us ds : List Int) (tk : Tok) : (v = .ref t) → ((t, tupO #[.ref x, .ref d]) ∈ nw) → ((x, instObj 271 dx) ∈ nw) → ((dx, o) ∈ nw) → (TotD P su sd n o) → ((su, ou) ∈ nw) → (L4 ou us) → ((sd, od) ∈ nw) → (L4 od ds) → ((d, tupO #[.int n tk, .ref ul, .ref dl]) ∈ nw) → ((ul, oul) ∈ nw) → (L4 oul us) → ((dl, odl) ∈ nw) → (L4 odl ds) → CopyOk P nw v
theorem CopyOk.mono {P : Params} {nw nw' : List (Addr × Obj)} {v : Value} (h : ∀ q ∈ nw, q ∈ nw') (c : CopyOk P nw v) : CopyOk P nw' v := by
  refine cps ?_; intro Q9 hQ9; obtain ⟨t, x, dx, su, sd, d, ul, dl, o, ou, od, oul, odl, n, us, ds, tk, e, h1, h2, h3, h4, h5, h6, h7, h8, h9, ha, hb, hc, hd⟩ := c; refine hQ9 ?_; clear hQ9 Q9
  exact ⟨t, x, dx, su, sd, d, ul, dl, o, ou, od, oul, odl, n, us, ds, tk, e, h _ h1, h _ h2, h _ h3, h4, h _ h5, h6, h _ h7, h8, h _ h9, h _ ha, hb, h _ hc, hd⟩
abbrev shapeM (n : Int) (t : Tok) (o5 os ow : Option Value) (cp dn up x pl fv : Addr) (mm : Str → Option Value) : Str → Option Value := fun y => if y = Str.ofString "whole" then some (.int n t) else if y = Str.ofString "five" then o5 else if y = Str.ofString "size" then os else if y = Str.ofString "which" then ow else if y = Str.ofString "copies" then some (.ref cp) else if y = Str.ofString "down" then some (.ref dn) else if y = Str.ofString "up" then some (.ref up) else if y = Str.ofString "totals" then some (.ref x) else if y = Str.ofString "plan" then some (.ref pl) else if y = Str.ofString "fives" then some (.ref fv) else mm y
theorem shape_in {n : Int} {t : Tok} {cp dn up x pl fv : Addr} {m : Str → Option Value} (e1 : m (Str.ofString "whole") = some (.int n t)) (e2 : m (Str.ofString "copies") = some (.ref cp)) (e3 : m (Str.ofString "down") = some (.ref dn)) (e4 : m (Str.ofString "up") = some (.ref up)) (e5 : m (Str.ofString "totals") = some (.ref x)) (e6 : m (Str.ofString "plan") = some (.ref pl)) (e7 : m (Str.ofString "fives") = some (.ref fv)) :
    ∀ y, m y = shapeM n t (m (Str.ofString "five")) (m (Str.ofString "size")) (m (Str.ofString "which")) cp dn up x pl fv m y := by
  intro y
  unfold shapeM
  repeat' split
  all_goals first | rfl | (subst_vars; assumption) | (subst_vars; rfl)
theorem tot_perm {g h : Heap} {L : Addr} {d cp dn up x dx su sd ca : Addr × Obj} {l : List (Addr × Obj)} (N : News g L h (d :: cp :: dn :: up :: x :: dx :: su :: sd :: ca :: l)) : News g L h (ca :: cp :: dn :: up :: x :: dx :: su :: sd :: l) := fun q hq => N q (by
  (iterate 8 (rcases List.mem_cons.mp hq with hq | hq; (· rw [hq]; (repeat (first | exact List.mem_cons_self | refine List.mem_cons_of_mem _ ?_))))); (repeat (first | exact hq | refine List.mem_cons_of_mem _ ?_)))
theorem allLt_mem {d : Nat} : ∀ {l : List (Addr × Obj)}, AllLt d l → ∀ p ∈ l, p.1 < d
  | [], _, _, h => nomatch h
  | _ :: _, h, p, hp => by
    rcases List.mem_cons.mp hp with rfl | hp
    · exact h.1
    · exact allLt_mem h.2 p hp
abbrev shape2 (ot od oh : Option Value) (mm : Str → Option Value) : Str → Option Value := fun y => if y = Str.ofString "top" then ot else if y = Str.ofString "due" then od else if y = Str.ofString "held" then oh else mm y
theorem shape2_in {m : Str → Option Value} : ∀ y, m y = shape2 (m (Str.ofString "top")) (m (Str.ofString "due")) (m (Str.ofString "held")) m y := by
  intro y
  unfold shape2
  repeat' split
  all_goals first | rfl | (subst_vars; rfl)
inductive CopJ (P : Params) (g0 : Heap) (ca : Addr) (mm : Str → Option Value) (vs0 : List Value) (cp : Addr) (k : Nat) (nw0 : List (Addr × Obj)) (vs : List Value) (m : Str → Option Value) (g : Heap) (nw : List (Addr × Obj)) : Prop
  | mk (oc : Obj) (ot od oh : Option Value) (R : List (Addr × Obj)) : (g0 = g) → ((∃ v, oc.data = .cell v)) → (m = shape2 ot od oh mm) → (nw = (ca, oc) :: R) → ((∀ p ∈ R, p.1 ≠ ca)) → ((∀ v ∈ vs, CopyOk P R v)) → ((cp, listOf vs0.toArray k) ∈ R) → ((∀ q ∈ nw0, q ∈ R)) → CopJ P g0 ca mm vs0 cp k nw0 vs m g nw
theorem cop_perm {g h : Heap} {L : Addr} {d d2 ca : Addr × Obj} {l : List (Addr × Obj)} (N : News g L h (d :: d2 :: ca :: l)) : News g L h (ca :: d :: d2 :: l) := fun q hq => N q (by
  (iterate 3 (rcases List.mem_cons.mp hq with hq | hq; (· rw [hq]; (repeat (first | exact List.mem_cons_self | refine List.mem_cons_of_mem _ ?_))))); (repeat (first | exact hq | refine List.mem_cons_of_mem _ ?_)))
abbrev shape1 (ot : Option Value) (mm : Str → Option Value) : Str → Option Value := fun y => if y = Str.ofString "top" then ot else mm y
theorem shape1_in {m : Str → Option Value} : ∀ y, m y = shape1 (m (Str.ofString "top")) m y := by
  intro y
  unfold shape1
  split
  · subst_vars; rfl
  · rfl
inductive TopItem (R : List (Addr × Obj)) (v : Value) : Prop
  | mk (t l : Addr) (o : Obj) (ns : List Int) (tk : Tok) : (v = .ref t) → ((t, tupO #[.ref l, .int (topOf ns) tk]) ∈ R) → ((l, o) ∈ R) → (L4 o ns) → TopItem R v
inductive InJ (g0 : Heap) (ca : Addr) (mm : Str → Option Value) (need : List (Addr × Obj)) (src : Addr × Obj) (vs : List Value) (m : Str → Option Value) (g : Heap) (nw : List (Addr × Obj)) : Prop
  | mk (oc : Obj) (ot : Option Value) (R : List (Addr × Obj)) : (g0 = g) → ((∃ v, oc.data = .cell v)) → (m = shape1 ot mm) → (nw = (ca, oc) :: R) → ((∀ p ∈ R, p.1 ≠ ca)) → ((∀ q ∈ need, q ∈ R)) → (src ∈ R) → ((∀ v ∈ vs, TopItem R v)) → InJ g0 ca mm need src vs m g nw
theorem in_perm {g h : Heap} {L : Addr} {d d2 d3 d4 d5 d6 i ca : Addr × Obj} {l : List (Addr × Obj)} (N : News g L h (d :: d2 :: d3 :: d4 :: d5 :: d6 :: i :: ca :: l)) : News g L h (ca :: d :: d2 :: d3 :: i :: l) := fun q hq => N q (by
  (iterate 5 (rcases List.mem_cons.mp hq with hq | hq; (· rw [hq]; (repeat (first | exact List.mem_cons_self | refine List.mem_cons_of_mem _ ?_))))); (repeat (first | exact hq | refine List.mem_cons_of_mem _ ?_)))
def nz (ns : List Int) : Nat → List Int
  | 0 => []
  | i + 1 => if ns.getD i 0 = 0 then nz ns i else nz ns i ++ [(i : Int)]
theorem ints_snoc {ys : List Value} {zs : List Int} {v : Int} {t : Tok} (h : IntsAre ys zs) : IntsAre (ys ++ [.int v t]) (zs ++ [v]) := by
  induction h with
  | nil => exact .cons _ _ .nil
  | cons n t' _ ih => exact .cons _ _ ih
theorem nz_len (ns : List Int) : ∀ i, (nz ns i).length ≤ i
  | 0 => Nat.le_refl _
  | i + 1 => by
    unfold nz
    have := nz_len ns i
    split
    · omega
    · rw [List.length_append, List.length_singleton]; omega
theorem nz_step (ns : List Int) (i : Nat) : nz ns (i + 1) = nz ns i ++ (bif decide (ns.getD i 0 = 0) then [] else [(i : Int)]) := by
  show (if _ then _ else _) = _
  by_cases h : ns.getD i 0 = 0
  · rw [if_pos h, decide_eq_true h]; exact (List.append_nil _).symm
  · rw [if_neg h, decide_eq_false h]; rfl
theorem ite_b {c : Prop} [Decidable c] {a b : Int} : (if ¬ c then a else b) = bif decide c then b else a := by
  by_cases h : c
  · rw [if_neg (not_not_intro h), decide_eq_true h]; rfl
  · rw [if_pos h, decide_eq_false h]; rfl
theorem topOf_b (ns : List Int) : topOf ns = bif decide (ns.getD 3 0 = 0) then (bif decide (ns.getD 2 0 = 0) then (bif decide (ns.getD 1 0 = 0) then 0 else 1) else 2) else 3 := by
  unfold topOf
  rw [show (if ns.getD 1 0 ≠ 0 then (1 : Int) else 0) = _ from ite_b, show (if ns.getD 2 0 ≠ 0 then (2 : Int) else _) = _ from ite_b]
  exact ite_b
theorem top_b : ∀ b0 b1 b2 b3 : Bool, (bif b3 then (bif b2 then (bif b1 then (0 : Int) else 1) else 2) else 3) ∈ ((([] ++ (bif b0 then [] else [((0 : Nat) : Int)])) ++ (bif b1 then [] else [((1 : Nat) : Int)])) ++ (bif b2 then [] else [((2 : Nat) : Int)])) ++ (bif b3 then [] else [((3 : Nat) : Int)]) ++ [0] ∧
    ∀ z ∈ ((([] ++ (bif b0 then [] else [((0 : Nat) : Int)])) ++ (bif b1 then [] else [((1 : Nat) : Int)])) ++ (bif b2 then [] else [((2 : Nat) : Int)])) ++ (bif b3 then [] else [((3 : Nat) : Int)]) ++ [0], z ≤ (bif b3 then (bif b2 then (bif b1 then (0 : Int) else 1) else 2) else 3) := by
  decide +kernel
theorem top_max {ns : List Int} {M : Int} (h : M ∈ nz ns 4 ++ [0]) (hl : ∀ z ∈ nz ns 4 ++ [0], z ≤ M) : M = topOf ns := by
  rw [nz_step, nz_step, nz_step, nz_step] at h hl
  rw [topOf_b]
  obtain ⟨a, b⟩ := top_b (decide (ns.getD 0 0 = 0)) (decide (ns.getD 1 0 = 0)) (decide (ns.getD 2 0 = 0)) (decide (ns.getD 3 0 = 0))
  exact Int.le_antisymm (b M h) (hl _ a)
section
open PyProof.Rows.LCg PyProof.Rows.LCt
def TurnT (h₀ : Heap) (L : Addr) (m : Str → Option Value) (s₁ : Shared) (I : Addr) (oI : Obj) (C : Addr) (oC : Obj) (D : Addr) (oD : Obj) (news : List (Addr × Obj)) (ok : Prop) (s₂ : Shared) : Prop :=
  ∃ h' tk, s₂ = { s₁ with heap := h', toks := tk } ∧ Fr h₀ L h' m ∧ News h₀ L h' ((I, oI) :: (C, oC) :: (D, oD) :: news) ∧ ok
theorem compT_inv {prog : Program} {w : World} {A : Around} {h₀ : Heap} {L : Addr} {m : Str → Option Value} {env : Env} {ct elt : Expr} {x : Str} {scope : Scope} {cl : List (Str × Addr)} {s : Shared} {P : Nat → Value → Prop} {Fin : List Value → List (Addr × Obj) → Prop} {news : List (Addr × Obj)} (n : Nat) (J : Nat → List Value → Prop)
    (hfin : ∀ ys, J n ys → Fin ys news)
    (step : ∀ i ys v I oI C oC D m₂ h tk (E' : Value → Shared → Prop), i < n → J i ys → P i v → NsObj oC m₂ → m₂ x = some v → Fr h₀ L h m → News h₀ L h ((I, oI) :: (C, oC) :: (D, lst ys) :: news) → Off3 I C D news → ((@Ne Nat I C) ∧ (@Ne Nat I D) ∧ (@Ne Nat C D)) →
      wpAny (model prog w) A (isTrue ct (compEnvC scope cl C env) (eval ct (compEnvC scope cl C env))) (fun ok s' => if ok = true then
        wpAny (model prog w) A (eval elt (compEnvC scope cl C env)) (fun y => TurnT h₀ L m { s with heap := h, toks := tk } I oI C oC D (lst ys) news (J (i + 1) (ys ++ [y]))) E' s'
        else TurnT h₀ L m { s with heap := h, toks := tk } I oI C oC D (lst ys) news (J (i + 1) ys) s') E' { s with heap := h, toks := tk }) :
    ∀ k i ys, i + k = n → J i ys → CompRestT prog w A h₀ L m env ct elt x scope cl s (fun _ => True) P Fin k i ys news
  | 0, i, ys, e, j => CompRestT.zero (hfin ys (by rw [← e]; exact j))
  | k + 1, i, ys, e, j => CompRestT.succ fun v I oI C oC D m₂ h tk E' h1 h2 h3 h4 h5 h6 h7 => by
    refine wpAny_mono (step i ys v I oI C oC D m₂ h tk E' (by omega) j h1 h2 h3 h4 h5 h6 h7) (fun ok s' q => ?_) fun _ _ e => e
    cases ok with
    | true =>
      simp only [if_true] at q ⊢
      refine wpAny_mono q (fun y s'' z => ?_) fun _ _ e => e
      refine cps ?_; intro Q9 hQ9; obtain ⟨h', tk', eq91, F', N', j'⟩ := z; refine hQ9 ?_; clear hQ9 Q9; subst eq91
      exact ⟨h', tk', news, rfl, F', N', h6, trivial, compT_inv n J hfin step k (i + 1) _ (by omega) j'⟩
    | false =>
      simp only [Bool.false_eq_true, if_false] at q ⊢
      refine cps ?_; intro Q9 hQ9; obtain ⟨h', tk', eq91, F', N', j'⟩ := q; refine hQ9 ?_; clear hQ9 Q9; subst eq91
      exact ⟨h', tk', news, rfl, F', N', h6, trivial, compT_inv n J hfin step k (i + 1) _ (by omega) j'⟩
end
theorem shape1_up {a b : Option Value} {mm : Str → Option Value} : ∀ y, (fun y => if y = Str.ofString "top" then a else shape1 b mm y) y = shape1 a mm y := by
  intro y
  dsimp only [shape1]
  by_cases e : y = Str.ofString "top"
  · simp only [if_pos e]
  · simp only [if_neg e]
theorem shape12 {a b c d e f : Option Value} {mm : Str → Option Value} : ∀ y, shape1 a (fun y => if y = Str.ofString "due" then b else if y = Str.ofString "held" then c else shape2 d e f mm y) y = shape2 a b c mm y := by
  intro y
  dsimp only [shape1, shape2]
  by_cases e1 : y = Str.ofString "top"
  · simp only [if_pos e1]
  by_cases e2 : y = Str.ofString "due"
  · simp only [if_neg e1, if_pos e2]
  by_cases e3 : y = Str.ofString "held"
  · simp only [if_neg e1, if_neg e2, if_pos e3]
  simp only [if_neg e1, if_neg e2, if_neg e3]
theorem nz_pos {ns : List Int} {ys : List Value} {i : Nat} {t : Tok} (J : IntsAre ys (nz ns i)) (h : ns.getD (0 + (i : Int)).toNat 0 ≠ 0) : IntsAre (ys ++ [.int (0 + (i : Int)) t]) (nz ns (i + 1)) := by
  rw [Int.zero_add] at h ⊢
  rw [Int.toNat_natCast] at h
  show IntsAre _ (if ns.getD i 0 = 0 then nz ns i else nz ns i ++ [(i : Int)])
  rw [if_neg h]
  exact ints_snoc J
theorem nz_zero {ns : List Int} {ys : List Value} {i : Nat} (J : IntsAre ys (nz ns i)) (h : ns.getD (0 + (i : Int)).toNat 0 = 0) : IntsAre ys (nz ns (i + 1)) := by
  rw [Int.zero_add, Int.toNat_natCast] at h
  show IntsAre _ (if ns.getD i 0 = 0 then nz ns i else nz ns i ++ [(i : Int)])
  rw [if_pos h]
  exact J
inductive TotJ (P : Params) (g0 : Heap) (ca : Addr) (oc : Obj) (x dx su sd up dn cp pl fv : Addr) (nw0 : List (Addr × Obj)) (mm : Str → Option Value) (vs0 : List Value) (vs : List Value) (m : Str → Option Value) (g : Heap) (nw : List (Addr × Obj)) : Prop
  | mk (n : Int) (t : Tok) (o5 os ow : Option Value) (us ds : List Int) (od ou odn oup odw : Obj) (cs : List Value) (k : Nat) (rest : List (Addr × Obj)) : (g0 = g) → (m = shapeM n t o5 os ow cp dn up x pl fv mm) → (nw = (ca, oc) :: (cp, listOf cs.toArray k) :: (dn, odw) :: (up, oup) :: (x, instObj 271 dx) :: (dx, od) :: (su, ou) :: (sd, odn) :: rest) → (TotD P su sd n od) → (L4 ou us) → (L4 odn ds) → (L4 oup us) → (L4 odw ds) → ((∀ q ∈ nw0, q ∈ rest)) → ((∀ p ∈ rest, p.1 ≠ ca)) → ((∀ p ∈ rest, p.1 ≠ cp)) → ((∀ p ∈ rest, p.1 ≠ dn)) → ((∀ p ∈ rest, p.1 ≠ up)) → ((∀ p ∈ rest, p.1 ≠ x)) → ((∀ p ∈ rest, p.1 ≠ dx)) → ((∀ p ∈ rest, p.1 ≠ su)) → ((∀ p ∈ rest, p.1 ≠ sd)) → ((∀ c ∈ cs, CopyOk P rest c)) → ((∀ v ∈ vs, v ∈ vs0)) → (cs.length + vs.length ≤ 8) → TotJ P g0 ca oc x dx su sd up dn cp pl fv nw0 mm vs0 vs m g nw
theorem five_at {a1 a2 a3 : Addr} {o1 o2 o3 : Obj} {g1 g2 g3 : G5} {nw : List (Addr × Obj)} {k : Int} (hf1 : (a1, o1) ∈ nw) (hf2 : (a2, o2) ∈ nw) (hf3 : (a3, o3) ∈ nw) (hg1 : LstG o1 g1) (hg2 : LstG o2 g2) (hg3 : LstG o3 g3) (ok1 : g1.Ok) (ok2 : g2.Ok) (ok3 : g3.Ok) (h0 : 0 ≤ k) (h1 : k < 3) :
    ∃ (a : Addr) (o : Obj) (g : G5), ([.ref a1, .ref a2, .ref a3] : List Value)[k.toNat]? = some (.ref a) ∧ (a, o) ∈ nw ∧ LstG o g ∧ g.Ok := by
  have : k = 0 ∨ k = 1 ∨ k = 2 := by omega
  rcases this with rfl | rfl | rfl
  · exact ⟨a1, o1, g1, rfl, hf1, hg1, ok1⟩
  · exact ⟨a2, o2, g2, rfl, hf2, hg2, ok2⟩
  · exact ⟨a3, o3, g3, rfl, hf3, hg3, ok3⟩
theorem glueD_nn {P : Params} {o : Obj} {g : G5} (h : GlueD P o (G5.norm ⟨g.norm.w, g.norm.u, g.norm.uo, g.norm.d, g.norm.od⟩)) : GlueD P o g.norm := (norm_norm g) ▸ h
theorem shape_add {n n' : Int} {t t' : Tok} {o5 os ow v5 vs vw : Option Value} {cp dn up x pl fv : Addr} {mm : Str → Option Value} : ∀ y, (fun y => if y = Str.ofString "whole" then some (Value.int n' t') else if y = Str.ofString "five" then v5 else if y = Str.ofString "size" then vs else if y = Str.ofString "which" then vw else shapeM n t o5 os ow cp dn up x pl fv mm y) y = shapeM n' t' v5 vs vw cp dn up x pl fv mm y := by
  intro y
  dsimp only [shapeM]
  by_cases e1 : y = Str.ofString "whole"
  · simp only [if_pos e1]
  by_cases e2 : y = Str.ofString "five"
  · simp only [if_neg e1, if_pos e2]
  by_cases e3 : y = Str.ofString "size"
  · simp only [if_neg e1, if_neg e2, if_pos e3]
  by_cases e4 : y = Str.ofString "which"
  · simp only [if_neg e1, if_neg e2, if_neg e3, if_pos e4]
  simp only [if_neg e1, if_neg e2, if_neg e3, if_neg e4]
theorem shape_wid {n n' : Int} {t t' : Tok} {o5 os ow vs vw : Option Value} {cp dn up x pl fv : Addr} {mm : Str → Option Value} : ∀ y, (fun y => if y = Str.ofString "whole" then some (Value.int n' t') else if y = Str.ofString "size" then vs else if y = Str.ofString "which" then vw else shapeM n t o5 os ow cp dn up x pl fv mm y) y = shapeM n' t' o5 vs vw cp dn up x pl fv mm y := by
  intro y
  dsimp only [shapeM]
  by_cases e1 : y = Str.ofString "whole"
  · simp only [if_pos e1]
  by_cases e2 : y = Str.ofString "five"
  · have e3 : y ≠ Str.ofString "size" := by rw [e2]; decide
    have e4 : y ≠ Str.ofString "which" := by rw [e2]; decide
    simp only [if_neg e1, if_pos e2, if_neg e3, if_neg e4]
  by_cases e3 : y = Str.ofString "size"
  · simp only [if_neg e1, if_neg e2, if_pos e3]
  by_cases e4 : y = Str.ofString "which"
  · simp only [if_neg e1, if_neg e2, if_neg e3, if_pos e4]
  simp only [if_neg e1, if_neg e2, if_neg e3, if_neg e4]
theorem tot_end {P : Params} {g' h' : Heap} {Lz : Addr} {s₁ : Shared} {tk' : Nat} {I ca cp dn up x dx su sd pl fv D0 D1 D2 D3 xc dxc suc sdc : Addr} {oI oc odw oup od ou odn odl oul odc ouc osc : Obj} {n n' : Int} {t t' : Tok} {us ds us' ds' : List Int} {k n2 : Nat} {cs vs0 vs : List Value} {v : Value} {rest nw0 : List (Addr × Obj)} {o5 os ow : Option Value} {m' mm : Str → Option Value} {Q : Flow → Shared → Prop}
    (F : Fr g' Lz h' m')
    (NN : News g' Lz h' ((D0, tupO #[.ref xc, .ref D1]) :: (D1, tupO #[.int n t, .ref D3, .ref D2]) :: (D2, odl) :: (D3, oul) :: (xc, instObj 271 dxc) :: (dxc, odc) :: (suc, ouc) :: (sdc, osc) :: (I, oI) :: (ca, oc) :: (cp, listOf (cs.toArray.push (.ref D0)) (k + 1)) :: (dn, odw) :: (up, oup) :: (x, instObj 271 dx) :: (dx, od) :: (su, ou) :: (sd, odn) :: rest))
    (em : ∀ y, m' y = shapeM n' t' o5 os ow cp dn up x pl fv mm y)
    (TD : TotD P su sd n' od) (U1 : L4 ou us') (U2 : L4 odn ds') (U3 : L4 oup us') (U4 : L4 odw ds')
    (TC : TotD P suc sdc n odc) (V1 : L4 ouc us) (V2 : L4 osc ds) (V3 : L4 oul us) (V4 : L4 odl ds)
    (hin : ∀ q ∈ nw0, q ∈ rest) (r0 : ∀ p ∈ rest, p.1 ≠ ca) (r1 : ∀ p ∈ rest, p.1 ≠ cp) (r2 : ∀ p ∈ rest, p.1 ≠ dn) (r3 : ∀ p ∈ rest, p.1 ≠ up) (r4 : ∀ p ∈ rest, p.1 ≠ x) (r5 : ∀ p ∈ rest, p.1 ≠ dx) (r6 : ∀ p ∈ rest, p.1 ≠ su) (r7 : ∀ p ∈ rest, p.1 ≠ sd)
    (hc : ∀ c ∈ cs, CopyOk P rest c) (hsub : ∀ v' ∈ v :: vs, v' ∈ vs0) (hlen : cs.length + (v :: vs).length ≤ 8) (hpl : (pl, listOf vs0.toArray n2) ∈ nw0)
    (j0 : Apart ca I) (j1 : Apart cp I) (j2 : Apart dn I) (j3 : Apart up I) (j4 : Apart x I) (j5 : Apart dx I) (j6 : Apart su I) (j7 : Apart sd I) (j9 : ∀ p ∈ rest, p.1 ≠ I)
    (b : @LT.lt Nat _ I dxc ∧ @LT.lt Nat _ ca dxc ∧ @LT.lt Nat _ cp dxc ∧ @LT.lt Nat _ dn dxc ∧ @LT.lt Nat _ up dxc ∧ @LT.lt Nat _ x dxc ∧ @LT.lt Nat _ dx dxc ∧ @LT.lt Nat _ su dxc ∧ @LT.lt Nat _ sd dxc)
    (d : @LT.lt Nat _ dxc xc ∧ @LT.lt Nat _ xc suc ∧ @LT.lt Nat _ suc sdc ∧ @LT.lt Nat _ sdc D3 ∧ @LT.lt Nat _ D3 D2 ∧ @LT.lt Nat _ D2 D1 ∧ @LT.lt Nat _ D1 D0) :
    ForEnd (fun g => g = g') Lz s₁ I oI (SeqAt "list" pl vs0.toArray) (TotJ P g' ca oc x dx su sd up dn cp pl fv nw0 mm vs0 vs) Q .next { s₁ with heap := h', toks := tk' } := by
  have ap : ∀ (z : Nat), @LT.lt Nat _ z dxc → (∀ p ∈ rest, p.1 ≠ z) → ∀ p ∈ (D0, tupO #[.ref xc, .ref D1]) :: (D1, tupO #[.int n t, .ref D3, .ref D2]) :: (D2, odl) :: (D3, oul) :: (xc, instObj 271 dxc) :: (dxc, odc) :: (suc, ouc) :: (sdc, osc) :: rest, p.1 ≠ z := by
    intro z hz hr
    refine cps ?_; intro Q9 hQ9; obtain ⟨d1, d2, d3, d4, d5, d6, d7⟩ := d; refine hQ9 ?_; clear hQ9 Q9
    have z1 := Nat.lt_trans hz d1
    have z2 := Nat.lt_trans z1 d2
    have z3 := Nat.lt_trans z2 d3
    have z4 := Nat.lt_trans z3 d4
    have z5 := Nat.lt_trans z4 d5
    have z6 := Nat.lt_trans z5 d6
    exact List.forall_mem_cons.mpr ⟨Nat.ne_of_gt (Nat.lt_trans z6 d7), List.forall_mem_cons.mpr ⟨Nat.ne_of_gt z6, List.forall_mem_cons.mpr ⟨Nat.ne_of_gt z5, List.forall_mem_cons.mpr ⟨Nat.ne_of_gt z4, List.forall_mem_cons.mpr ⟨Nat.ne_of_gt z1, List.forall_mem_cons.mpr ⟨Nat.ne_of_gt hz, List.forall_mem_cons.mpr ⟨Nat.ne_of_gt z2, List.forall_mem_cons.mpr ⟨Nat.ne_of_gt z3, hr⟩⟩⟩⟩⟩⟩⟩⟩
  refine ⟨g', h', tk', _, (ca, oc) :: (cp, listOf (cs ++ [Value.ref D0]).toArray (k + 1)) :: (dn, odw) :: (up, oup) :: (x, instObj 271 dx) :: (dx, od) :: (su, ou) :: (sd, odn) :: ((D0, tupO #[.ref xc, .ref D1]) :: (D1, tupO #[.int n t, .ref D3, .ref D2]) :: (D2, odl) :: (D3, oul) :: (xc, instObj 271 dxc) :: (dxc, odc) :: (suc, ouc) :: (sdc, osc) :: rest), rfl, rfl, fr_congr F em, fun q hq => ?_, ?_, ?_, n', t', o5, os, ow, us', ds', od, ou, odn, oup, odw, cs ++ [Value.ref D0], k + 1, _, rfl, rfl, rfl, TD, U1, U2, U3, U4, fun q hq => by repeat (first | exact hin q hq | refine List.mem_cons_of_mem _ ?_), ap _ b.2.1 r0, ap _ b.2.2.1 r1, ap _ b.2.2.2.1 r2, ap _ b.2.2.2.2.1 r3, ap _ b.2.2.2.2.2.1 r4, ap _ b.2.2.2.2.2.2.1 r5, ap _ b.2.2.2.2.2.2.2.1 r6, ap _ b.2.2.2.2.2.2.2.2 r7, ?_, fun v' h => hsub v' (.tail _ h), by simp only [List.length_append, List.length_cons, List.length_nil] at *; omega⟩
  · try dsimp (config := { zetaDelta := true }) only at NN
    rw [List.push_toArray] at NN
    refine NN q ?_
    clear NN F em TD U1 U2 U3 U4 TC V1 V2 V3 V4 hc hsub hlen hpl j0 j1 j2 j3 j4 j5 j6 j7 j9 b d ap hin r0 r1 r2 r3 r4 r5 r6 r7
    iterate 17 (rcases List.mem_cons.mp hq with hq | hq; (· rw [hq]; (repeat (first | exact List.mem_cons_self | refine List.mem_cons_of_mem _ ?_))))
    repeat (first | exact hq | refine List.mem_cons_of_mem _ ?_)
  · exact List.forall_mem_cons.mpr ⟨j0, List.forall_mem_cons.mpr ⟨j1, List.forall_mem_cons.mpr ⟨j2, List.forall_mem_cons.mpr ⟨j3, List.forall_mem_cons.mpr ⟨j4, List.forall_mem_cons.mpr ⟨j5, List.forall_mem_cons.mpr ⟨j6, List.forall_mem_cons.mpr ⟨j7, ap _ b.1 j9⟩⟩⟩⟩⟩⟩⟩⟩
  · refine ⟨listOf vs0.toArray n2, ?_, rfl, n2, rfl⟩
    repeat (first | exact hin _ hpl | refine List.mem_cons_of_mem _ ?_)
  · intro c h
    rcases List.mem_append.mp h with h | h
    · exact (hc c h).mono fun q hq => by repeat (first | exact hq | refine List.mem_cons_of_mem _ ?_)
    · rw [List.mem_singleton.mp h]
      exact ⟨D0, xc, dxc, suc, sdc, D1, D3, D2, odc, ouc, osc, oul, odl, n, us, ds, t, rfl, by ktr_rel, by ktr_rel, by ktr_rel, TC, by ktr_rel, V1, by ktr_rel, V2, by ktr_rel, by ktr_rel, V3, by ktr_rel, V4⟩
inductive TotS (P : Params) (g' : Heap) (L' : Addr) (hh : Heap) (pl fv : Addr) (news : List (Addr × Obj)) : Prop
  | mk (oc : Obj) (cp dn up x dx su sd : Addr) (od ou odn oup odw : Obj) (o5 os ow : Option Value) (mm : Str → Option Value) (t0 : Tok) (rest : List (Addr × Obj)) (vc0 : Option Value) : oc.data = .cell vc0 → Fr g' L' hh (shapeM 0 t0 o5 os ow cp dn up x pl fv mm) →
      News g' L' hh ((L' + 1, oc) :: (cp, listOf #[] 0) :: (dn, odw) :: (up, oup) :: (x, instObj 271 dx) :: (dx, od) :: (su, ou) :: (sd, odn) :: rest) → TotD P su sd 0 od → L4 ou [0, 0, 0, 0] → L4 odn [0, 0, 0, 0] → L4 oup [0, 0, 0, 0] → L4 odw [0, 0, 0, 0] → (∀ q ∈ news, q ∈ rest) →
      Bel (L' + 1) dx → Bel (L' + 1) x → Bel (L' + 1) su → Bel (L' + 1) sd → Bel (L' + 1) up → Bel (L' + 1) dn → Bel (L' + 1) cp → Bel dx x → Bel dx su → Bel dx sd → Bel dx up → Bel dx dn → Bel dx cp → Bel x su → Bel x sd → Bel x up → Bel x dn → Bel x cp → Bel su sd → Bel su up → Bel su dn → Bel su cp → Bel sd up → Bel sd dn → Bel sd cp → Bel up dn → Bel up cp → Bel dn cp →
      (∀ p ∈ rest, p.1 ≠ L' + 1) → (∀ p ∈ rest, p.1 ≠ cp) → (∀ p ∈ rest, p.1 ≠ dn) → (∀ p ∈ rest, p.1 ≠ up) → (∀ p ∈ rest, p.1 ≠ x) → (∀ p ∈ rest, p.1 ≠ dx) → (∀ p ∈ rest, p.1 ≠ su) → (∀ p ∈ rest, p.1 ≠ sd) → TotS P g' L' hh pl fv news
section
variable {w : World} {p : Program} {loose : List Str} {mean : ExcName → Option Value} {mg mb : Str → Option Value}
  {dp un : Nat} {gd : Option (List Code)} {cn : Str} {cs : Scope} {a : Addr} {ccd : Value} {cl : List (Str × Addr)} {outer : List Env} {A₀ : Around} {base h₀ : Heap} {L : Addr} {m : Str → Option Value} {news : List (Addr × Obj)} {s : Shared} {Q E : Value → Shared → Prop}

section
set_option maxRecDepth 100000 in
set_option maxHeartbeats 4000000 in
theorem totals0 {fv pl a1 a2 a3 : Addr} {o1 o2 o3 : Obj} {g1 g2 g3 : G5} {n1 n2 : Nat} {vs : List Value}
  {A : Around} {vs8 : List Value} (hv8 : vs8 = [.ref fv, .ref pl]) (hA : A.frames = some (envX cn cs L a ccd cl :: outer)) (hh : A.handled = none) (B : Below A₀ base outer h₀) (F : Fr h₀ L s.heap m) (X : (hd.heap_1 w.params).In h₀) (N : News h₀ L s.heap news) (T : Top p loose mean mg mb h₀) (hk : cs.kind = .function)
  (hf : (fv, listOf #[.ref a1, .ref a2, .ref a3] n1) ∈ news) (hf1 : (a1, o1) ∈ news) (hf2 : (a2, o2) ∈ news) (hf3 : (a3, o3) ∈ news) (hg1 : LstG o1 g1) (hg2 : LstG o2 g2) (hg3 : LstG o3 g3) (ok1 : g1.Ok) (ok2 : g2.Ok) (ok3 : g3.Ok)
  (hp : (pl, listOf vs.toArray n2) ∈ news) (hv : ∀ v ∈ vs, ∃ t k z t1 t2, v = .ref t ∧ (t, tup2 k t1 z t2) ∈ news ∧ 0 ≤ k ∧ k ≤ 3 ∧ -100000 ≤ z ∧ z ≤ 100000) (hl : vs.length ≤ 8)
  (hd : A.depth + 20 < recursionLimit) (hu : A.units + 500 < cLine)
  (hret : ∀ (h' : Heap) (tk' : Nat), Fr h₀ L h' m → News h₀ L h' news → Q (.bool true) { s with heap := h', toks := tk' }) :
  wpAny (model PP w) A (call (.ref 370) vs8) Q E s := by
  subst hv8
  refine wp_at_top hA hh ?_
  refine wpAny_call ?_
  k_dflt (refine' code_defC ?k1 ?k2 ?k3 ?k4 ?k5 ?kA ?kF ?kK ?k6 ?k7 ?k8 ?k9 ?kB ?kD ?_ ?c2 ?c3 ?c4; (case kA => exact rfl); (case kF => exact rfl); (case kK => first | exact rfl | assumption); (case k1 => k_asm); (case k2 => k_asm); (case k3 => k_asm); (case k4 => k_asm); (case k5 => k_asm); (case k6 => k_is); (case k7 => k_is); (case k8 => ktr_room); (case k9 => first | exact BindsTo.of_eq rfl | exact binds_K (by k_in) rfl (by k_is) rfl rfl rfl); (case kB => exact rfl); (case kD => decide +kernel); (case c2 => exact rfl); (case c3 => exact rfl); (case c4 => exact rfl); k_whole; intro g' L' h' tk' cells' FG' F' N' Y' B' X' T' l1; (try k_lt l1); k_cells Y'; (try simp only [List.cons_append, List.nil_append] at N'); (try k_lift B'); (refine foldM F' ?_; clear F'; intro m9 F'); (try first | (with_reducible refine foldA ?_; intro A9 d9 u9) | (with_reducible refine foldAu ?_; intro A9 d9 u9)); (try (refine foldE ?_; intro e9)); (try k_unmd); (try (refine foldQ ?_; intro qk ek)); (try dsimp only))
  have an1 : AllBel (L' + 1) news := allBel_mono (by omega) l1
  have stp : StopHere := trivial
  (repeat' (first | ((with_reducible show wpAny _ _ (execs _ _) _ _ _); (fail_if_success (fail_if_success k_fold)); refine foldQ ?_; intro qk ek) | ((with_reducible show wpAny _ _ (exec _ _) _ _ _); (fail_if_success (fail_if_success k_fold)); refine foldQ ?_; intro qk ek; (try (refine foldN (by with_reducible assumption) ?_; intro n9 N9))) | ((with_reducible show wpAny _ _ (eval (Expr.ListComp _ _ _ _) _) _ _ _); first | (with_reducible (k_here; (with_reducible rename StopHere => sh'); clear sh'; refine metStop ?_))) | ((with_reducible show wpAny _ _ (exec (Stmt.For (Expr.Tuple _ _ _) (Expr.Tuple _ _ _) _ _ _) _) _ _ _); first | (with_reducible (k_here; (with_reducible rename StopHere => sh'); clear sh'; refine metStop ?_))) | ((with_reducible show wpAny _ _ (exec (Stmt.For _ _ _ _ _) _) _ _ _); first | (with_reducible (k_here; (with_reducible rename StopHere => sh'); clear sh'; refine metStop ?_))) | ((with_reducible show wpAny _ _ (call (Value.ref _) _) _ _ _); first | (with_reducible (k_here; (with_reducible apply tnew_c); k_dflt (walk_at "c8"; ktr_room; ktr_units; k_whole); intro x' dx' su' sd' o' ou' od' h' tk' F' N' l1' l2' l3' l4' T' U1' U2'; (have l5' := fun p hp => Nat.lt_trans (l1' p hp) l2'); (have l6' := fun p hp => Nat.lt_trans (l5' p hp) l3'); (have l7' := fun p hp => Nat.lt_trans (l6' p hp) l4'); (have l8' := Nat.lt_trans l2' l3'); (have l9' := Nat.lt_trans l8' l4'); (have l10' := Nat.lt_trans l3' l4'); (try k_lt l1'); (try k_lt l5'); (try k_lt l6'); (try k_lt l7'); k_lt2 l2'; k_lt2 l3'; k_lt2 l4'; k_lt2 l8'; k_lt2 l9'; k_lt2 l10'; (try k_sweep); (try k_fold); (try k_sweep); (try k_fold)))) | ((with_reducible show wpAny _ _ (callWith _ (Value.ref _) _ _ _) _ _ _); first | (with_reducible (k_here; (with_reducible show wpAny _ _ (callWith _ _ _ (backTo _ (starEach [] _)) []) _ _ _); k_dflt (refine' callWith_K0F ?k1_q ?k2_q ?k3_q ?_; (case k1_q => k_asm); (case k2_q => k_asm); (case k3_q => k_is); k_whole)))) | ((with_reducible show wpAny _ _ (newList _) _ _ _); first | (with_reducible (k_here; k_dflt (refine' newList_V ?F_q ?N_q ?_ ?z_q; (case F_q => k_asm); (case N_q => k_asm); (case z_q => size_fits)); intro D' h' o' n' F' N' l1; (try k_lt l1); (try k_sweep)))) | ((with_reducible show wpAny _ _ (newTuple _) _ _ _); first | (with_reducible (k_here; k_dflt (refine' newTuple_V ?F_q ?N_q ?_ ?z_q; (case F_q => k_asm); (case N_q => k_asm); (case z_q => kmk_size)); intro D' h' o' n' F' N' l1; (try k_lt l1); (try k_sweep)))) | ((with_reducible show wpAny _ _ (storeName _ _ _) _ _ _); first | (with_reducible (k_here; k_dflt (refine' storeX_V ?F_q ?N_q ?_ ?a_q ?b_q; (case F_q => k_asm); (case N_q => k_asm); (case a_q => rfl); (case b_q => rfl); k_whole; intro h' tk' m' F' N'; (try k_sweep))))) | ((with_reducible show wpAny _ _ (eval (Expr.Name _ _) _) _ _ _); first | (with_reducible (k_here; name_kind "globalImplicit"; k_dflt (first | (name_is_builtin; refine' nameX_B ?F_q ?X_q ?T_q ?e_q ?v_q ?n_q ?_ ?a_q ?b_q; (case F_q => k_asm); (case X_q => k_asm); (case T_q => k_asm); (case a_q => rfl); (case b_q => rfl); (case e_q => k_is); (case v_q => boot_fast); (case n_q => decide); k_whole) | (refine' nameX_K ?F_q ?X_q ?T_q ?e_q ?_ ?a_q ?b_q; (case F_q => k_asm); (case X_q => k_asm); (case T_q => k_asm); (case a_q => rfl); (case b_q => rfl); (case e_q => k_is); k_whole))))) | (k_unfold; (try dsimp only)) | (k_end; wrow_close) | (walk1; (all_goals (try dsimp only))) | (dsimp only; walk1) | (leave1; try dsimp only)))
  unfold MetStop
  rename Fr g' L' _ _ => FF; rename News g' L' _ _ => NN; rename TotD _ _ _ _ _ => TT
  have FF2 := fr_congr FF (shape_in rfl rfl rfl rfl rfl rfl rfl)
  clear FF
  rename Heap => hh
  have TS : TotS w.params g' L' hh pl fv news := by
    refine .mk _ _ _ _ _ _ _ _ _ _ _ _ _ _ _ _ _ _ news _ (by assumption) FF2 (tot_perm NN) TT (by assumption) (by assumption) l4_mk l4_mk (fun _ h => h) ?_ ?_ ?_ ?_ ?_ ?_ ?_ ?_ ?_ ?_ ?_ ?_ ?_ ?_ ?_ ?_ ?_ ?_ ?_ ?_ ?_ ?_ ?_ ?_ ?_ ?_ ?_ ?_ ?_ ?_ ?_ ?_ ?_ ?_ ?_ ?_
    all_goals first | with_reducible assumption | k_all | exact bel_of (by omega)
  refine cps ?_; intro Q9 hQ9; obtain ⟨oc, cp, dn, up, x, dx, su, sd, od, ou, odn, oup, odw, o5, os, ow, mm, t0, rest, vc0, hoc, FF3, NN3, TT, U1, U2, U3, U4, hin, cc1, cc2, cc3, cc4, cc5, cc6, cc7, cc8, cc9, cc10, cc11, cc12, cc13, cc14, cc15, cc16, cc17, cc18, cc19, cc20, cc21, cc22, cc23, cc24, cc25, cc26, cc27, cc28, r0, r1, r2, r3, r4, r5, r6, r7⟩ := TS; refine hQ9 ?_; clear hQ9 Q9
  clear FF2 NN
  have hp2 := hin _ hp
  refine For_listX FF3 rfl (Rl := fun g => g = g') (fun _ e b h => by rw [e]; exact h) rfl ?_
  (repeat' (first | ((with_reducible show wpAny _ _ (execs _ _) _ _ _); (fail_if_success (fail_if_success k_fold)); refine foldQ ?_; intro qk ek) | ((with_reducible show wpAny _ _ (exec _ _) _ _ _); (fail_if_success (fail_if_success k_fold)); refine foldQ ?_; intro qk ek; (try (refine foldN (by with_reducible assumption) ?_; intro n9 N9))) | ((with_reducible show wpAny _ _ (eval (Expr.Name _ _) _) _ _ _); first | (with_reducible (k_here; name_kind "local"; k_dflt (refine' nameX_L ?F_q ?v_q ?_ ?a_q ?b_q; (case F_q => k_asm); (case a_q => rfl); (case b_q => rfl); (case v_q => rfl); k_whole)))) | (k_unfold; (try dsimp only)) | (k_end; wrow_close) | (walk1; (all_goals (try dsimp only))) | (dsimp only; walk1) | (leave1; try dsimp only)))
  refine SrcF.mk (by k_asm) (by k_asm) (by k_mem) ?_
  intro gg
  refine forX_inv (TotJ w.params g' (L' + 1) oc x dx su sd up dn cp pl fv news mm vs) ?_ ?_ _ _ _ _ ⟨0, t0, o5, os, ow, _, _, _, _, _, _, _, [], 0, rest, rfl, rfl, rfl, TT, U1, U2, U3, U4, hin, r0, r1, r2, r3, r4, r5, r6, r7, (fun c hc => nomatch hc), (fun v h => h), (by simpa using hl)⟩
  · intro m1 g1 nw h tk J1 F1 N1
    clear FF3 NN3 TT U1 U2 U3 U4 r0 r1 r2 r3 r4 r5 r6 r7 hp2 hin
    clear rest t0 o5 os ow od ou odn oup odw
    refine cps ?_; intro Q9 hQ9; obtain ⟨n, t, o5, os, ow, us, ds, od, ou, odn, oup, odw, cs', k, rest, eq91, eq92, eq93, TD, U1, U2, U3, U4, hin, r0, r1, r2, r3, r4, r5, r6, r7, hc, hsub, hlen⟩ := J1; refine hQ9 ?_; clear hQ9 Q9; subst eq91; subst eq92; subst eq93
    have hsz : cs'.toArray.size ≤ sizeLine := Nat.le_trans (by simp only [List.size_toArray, List.length_cons] at *; omega : _ ≤ 8) (Nat.le_of_ble_eq_true rfl)
    have stp : StopHere := trivial
    dsimp only
    (repeat' (first | ((with_reducible show wpAny _ _ (execs _ _) _ _ _); (fail_if_success (fail_if_success k_fold)); refine foldQ ?_; intro qk ek) | ((with_reducible show wpAny _ _ (exec _ _) _ _ _); (fail_if_success (fail_if_success k_fold)); refine foldQ ?_; intro qk ek; (try (refine foldN (by with_reducible assumption) ?_; intro n9 N9))) | ((with_reducible show wpAny _ _ (eval (Expr.ListComp _ _ _ _) _) _ _ _); first | (with_reducible (k_here; (with_reducible rename StopHere => sh'); clear sh'; refine metStop ?_))) | ((with_reducible show wpAny _ _ (exec (Stmt.For (Expr.Tuple _ _ _) (Expr.Tuple _ _ _) _ _ _) _) _ _ _); first | (with_reducible (k_here; (with_reducible rename StopHere => sh'); clear sh'; refine metStop ?_))) | ((with_reducible show wpAny _ _ (exec (Stmt.For _ _ _ _ _) _) _ _ _); first | (with_reducible (k_here; (with_reducible rename StopHere => sh'); clear sh'; refine metStop ?_))) | ((with_reducible show wpAny _ _ (call (Value.builtin "list.append") _) _ _ _); first | (with_reducible (k_here; k_dflt (refine' append_K ?k1_q ?k2_q ?k3_q ?_ ?z_q; (case k1_q => k_asm); (case k2_q => k_asm); (case k3_q => k_upd); (case z_q => with_reducible assumption); k_whole); intro h' F' N'; (try k_sweep)))) | ((with_reducible show wpAny _ _ (newTuple _) _ _ _); first | (with_reducible (k_here; k_dflt (refine' newTuple_V ?F_q ?N_q ?_ ?z_q; (case F_q => k_asm); (case N_q => k_asm); (case z_q => kmk_size)); intro D' h' o' n' F' N' l1; (try k_lt l1); (try k_sweep)))) | ((with_reducible show wpAny _ _ (eval (Expr.Name _ _) _) _ _ _); first | (with_reducible (k_here; name_kind "local"; k_dflt (refine' nameX_L ?F_q ?v_q ?_ ?a_q ?b_q; (case F_q => k_asm); (case a_q => rfl); (case b_q => rfl); (case v_q => rfl); k_whole)))) | (k_unfold; (try dsimp only)) | (k_end; wrow_close) | (walk1; (all_goals (try dsimp only))) | (dsimp only; walk1) | (leave1; try dsimp only)))
    unfold MetStop
    rename Fr g' _ _ _ => FF; rename News g' _ _ _ => NN
    try dsimp (config := { zetaDelta := true }) only at NN
    rw [List.push_toArray] at NN
    replace NN := cop_perm NN
    have FF2 := fr_congr FF shape2_in
    refine For_listX FF2 rfl (Rl := fun g => g = g') (fun _ e b h => by rw [e]; exact h) rfl ?_
    (repeat' (first | ((with_reducible show wpAny _ _ (execs _ _) _ _ _); (fail_if_success (fail_if_success k_fold)); refine foldQ ?_; intro qk ek) | ((with_reducible show wpAny _ _ (exec _ _) _ _ _); (fail_if_success (fail_if_success k_fold)); refine foldQ ?_; intro qk ek; (try (refine foldN (by with_reducible assumption) ?_; intro n9 N9))) | ((with_reducible show wpAny _ _ (eval (Expr.Name _ _) _) _ _ _); first | (with_reducible (k_here; name_kind "local"; k_dflt (refine' nameX_L ?F_q ?v_q ?_ ?a_q ?b_q; (case F_q => k_asm); (case a_q => rfl); (case b_q => rfl); (case v_q => rfl); k_whole)))) | (k_unfold; (try dsimp only)) | (k_end; wrow_close) | (walk1; (all_goals (try dsimp only))) | (dsimp only; walk1) | (leave1; try dsimp only)))
    refine SrcF.mk FF2 NN (by k_mem) ?_
    intro gg2
    refine forX_inv (CopJ w.params g' (L' + 1) _ (cs' ++ [_]) cp (k + 1) news) ?_ ?_ _ _ _ _ ⟨oc, _, _, _, _, rfl, ⟨_, hoc⟩, rfl, rfl, ?_, ?_, by k_mem, fun q hq => by repeat (first | exact hin q hq | refine List.mem_cons_of_mem _ ?_)⟩
    · intro m1 g1 nw h1 tk1 J1 F1 N1
      refine cps ?_; intro Q9 hQ9; obtain ⟨oc2, ot, od2, oh, R, eq91, ⟨vc2, hoc2⟩, eq92, eq93, rR, hR, hcpR, hinR⟩ := J1; refine hQ9 ?_; clear hQ9 Q9; subst eq91; subst eq92; subst eq93
      dsimp only
      (repeat' (first | ((with_reducible show wpAny _ _ (execs _ _) _ _ _); (fail_if_success (fail_if_success k_fold)); refine foldQ ?_; intro qk ek) | ((with_reducible show wpAny _ _ (exec _ _) _ _ _); (fail_if_success (fail_if_success k_fold)); refine foldQ ?_; intro qk ek; (try (refine foldN (by with_reducible assumption) ?_; intro n9 N9))) | (k_unfold; (try dsimp only)) | (k_end; wrow_close) | (walk1; (all_goals (try dsimp only))) | (dsimp only; walk1) | (leave1; try dsimp only)))
      rename Fr h₀ L _ m => FF; rename News h₀ L _ _ => NN
      exact hret _ _ FF fun q hq => NN q (.tail _ (hinR q hq))
    · intro v vs' m1 g1 nw I oI h1 tk1 J1 F1 N1 off
      refine cps ?_; intro Q9 hQ9; obtain ⟨oc2, ot, od2, oh, R, eq91, ⟨vc2, hoc2⟩, eq92, eq93, rR, hR, hcpR, hinR⟩ := J1; refine hQ9 ?_; clear hQ9 Q9; subst eq91; subst eq92; subst eq93
      refine cps ?_; intro Q9 hQ9; obtain ⟨t1, x1, dx1, su1, sd1, d1, ul1, dl1, e1, eu1, ed1, eul1, edl1, n1', us1, ds1, tk3, eq91, hm1, hm2, hm3, TC, hm4, V1, hm5, V2, hm6, hm7, V3, hm8, V4⟩ := hR v (.head _); refine hQ9 ?_; clear hQ9 Q9; subst eq91
      have TC' := TC
      have V1' := V1
      have V2' := V2
      have V3' := V3
      have V4' := V4
      refine cps ?_; intro Q9 hQ9; obtain ⟨z1, z2, z3, z4, eq91⟩ := TC; refine hQ9 ?_; clear hQ9 Q9; subst eq91
      refine cps ?_; intro Q9 hQ9; obtain ⟨b0, b1, b2, b3, y1, y2, y3, y4, ny, eq91, eq92⟩ := V1; refine hQ9 ?_; clear hQ9 Q9; subst eq91; subst eq92
      refine cps ?_; intro Q9 hQ9; obtain ⟨c0, c1', c2', c3', y5, y6, y7, y8, ny2, eq91, eq92⟩ := V2; refine hQ9 ?_; clear hQ9 Q9; subst eq91; subst eq92
      refine cps ?_; intro Q9 hQ9; obtain ⟨_, _, _, _, y9, y10, y11, y12, ny3, ee, eq91⟩ := V3; refine hQ9 ?_; clear hQ9 Q9; subst eq91
      simp only [List.cons.injEq, and_true] at ee
      refine cps ?_; intro Q9 hQ9; obtain ⟨eq91, eq92, eq93, eq94⟩ := ee; refine hQ9 ?_; clear hQ9 Q9; subst eq91; subst eq92; subst eq93; subst eq94
      refine cps ?_; intro Q9 hQ9; obtain ⟨_, _, _, _, y13, y14, y15, y16, ny4, ee, eq91⟩ := V4; refine hQ9 ?_; clear hQ9 Q9; subst eq91
      simp only [List.cons.injEq, and_true] at ee
      refine cps ?_; intro Q9 hQ9; obtain ⟨eq91, eq92, eq93, eq94⟩ := ee; refine hQ9 ?_; clear hQ9 Q9; subst eq91; subst eq92; subst eq93; subst eq94
      have offa : Apart (L' + 1) I := off _ (.head _)
      have offR : ∀ p ∈ R, p.1 ≠ I := fun p hp => off p (.tail _ hp)
      clear off
      have stp2 : StopHere := trivial
      (repeat' (first | ((with_reducible show wpAny _ _ (execs _ _) _ _ _); (fail_if_success (fail_if_success k_fold)); refine foldQ ?_; intro qk ek) | ((with_reducible show wpAny _ _ (exec _ _) _ _ _); (fail_if_success (fail_if_success k_fold)); refine foldQ ?_; intro qk ek; (try (refine foldN (by with_reducible assumption) ?_; intro n9 N9))) | ((with_reducible show wpAny _ _ (eval (Expr.ListComp _ _ _ _) _) _ _ _); first | (with_reducible (k_here; (with_reducible rename StopHere => sh'); clear sh'; refine metStop ?_))) | ((with_reducible show wpAny _ _ (exec (Stmt.For (Expr.Tuple _ _ _) (Expr.Tuple _ _ _) _ _ _) _) _ _ _); first | (with_reducible (k_here; (with_reducible rename StopHere => sh'); clear sh'; refine metStop ?_))) | ((with_reducible show wpAny _ _ (exec (Stmt.For _ _ _ _ _) _) _ _ _); first | (with_reducible (k_here; (with_reducible rename StopHere => sh'); clear sh'; refine metStop ?_))) | ((with_reducible show wpAny _ _ (call (Value.type _) [Value.ref _]) _ _ _); first | (with_reducible (k_here; (with_reducible show wpAny _ _ (call (Value.type _) [Value.ref _]) _ _ _); k_dflt (refine' list_copyK ?k1_q ?k2_q ?k3_q ?_ ?z_q; (case k1_q => k_asm); (case k2_q => k_asm); (case k3_q => exact News.isList (by k_asm) (by k_mem)); (case z_q => size_fits); k_whole); intro D' c' h' F' N' l1; (try k_lt l1); (try k_sweep)))) | ((with_reducible show wpAny _ _ (newTuple _) _ _ _); first | (with_reducible (k_here; k_dflt (refine' newTuple_V ?F_q ?N_q ?_ ?z_q; (case F_q => k_asm); (case N_q => k_asm); (case z_q => kmk_size)); intro D' h' o' n' F' N' l1; (try k_lt l1); (try k_sweep)))) | ((with_reducible show wpAny _ _ (storeName _ _ _) _ _ _); first | (with_reducible (k_here; k_dflt (refine' storeX_V ?F_q ?N_q ?_ ?a_q ?b_q; (case F_q => k_asm); (case N_q => k_asm); (case a_q => rfl); (case b_q => rfl); k_whole; intro h' tk' m' F' N'; (try k_sweep))))) | ((with_reducible show wpAny _ _ (eval (Expr.Name _ _) _) _ _ _); first | (with_reducible (k_here; name_kind "globalImplicit"; k_dflt (first | (name_is_builtin; refine' nameX_B ?F_q ?X_q ?T_q ?e_q ?v_q ?n_q ?_ ?a_q ?b_q; (case F_q => k_asm); (case X_q => k_asm); (case T_q => k_asm); (case a_q => rfl); (case b_q => rfl); (case e_q => k_is); (case v_q => boot_fast); (case n_q => decide); k_whole) | (refine' nameX_K ?F_q ?X_q ?T_q ?e_q ?_ ?a_q ?b_q; (case F_q => k_asm); (case X_q => k_asm); (case T_q => k_asm); (case a_q => rfl); (case b_q => rfl); (case e_q => k_is); k_whole)))) | (with_reducible (k_here; name_kind "local"; k_dflt (refine' nameX_L ?F_q ?v_q ?_ ?a_q ?b_q; (case F_q => k_asm); (case a_q => rfl); (case b_q => rfl); (case v_q => rfl); k_whole)))) | (k_unfold; (try dsimp only)) | (k_end; wrow_close) | (walk1; (all_goals (try dsimp only))) | (dsimp only; walk1) | (leave1; try dsimp only)))
      unfold MetStop
      rename Fr g' _ _ _ => FF
      have FF2 := fr_congr FF shape1_in
      refine For_tupX FF2 rfl (Rl := fun g => g = g') (fun _ e b h => by rw [e]; exact h) rfl ?_
      clear FF2
      (repeat' (first | ((with_reducible show wpAny _ _ (execs _ _) _ _ _); (fail_if_success (fail_if_success k_fold)); refine foldQ ?_; intro qk ek) | ((with_reducible show wpAny _ _ (exec _ _) _ _ _); (fail_if_success (fail_if_success k_fold)); refine foldQ ?_; intro qk ek; (try (refine foldN (by with_reducible assumption) ?_; intro n9 N9))) | ((with_reducible show wpAny _ _ (call (Value.ref _) _) _ _ _); first | (with_reducible (k_here; (with_reducible apply topd_c); k_dflt (walk_at "c8"; k_mem; k_mem; (with_reducible assumption); k_mem; k_mem; (with_reducible assumption); (with_reducible assumption); ktr_room; ktr_units; k_whole); intro t' h' tk' F' N'; (try k_sweep); (try k_fold); (try k_sweep); (try k_fold))) | (with_reducible (k_here; (with_reducible apply tops_c); k_dflt (walk_at "c8"; k_mem; k_mem; (with_reducible assumption); k_mem; k_mem; (with_reducible assumption); (with_reducible assumption); ktr_room; ktr_units; k_whole); intro t' h' tk' F' N'; (try k_sweep); (try k_fold); (try k_sweep); (try k_fold)))) | ((with_reducible show wpAny _ _ (callWith _ (Value.ref _) _ _ _) _ _ _); first | (with_reducible (k_here; (with_reducible show wpAny _ _ (callWith _ _ _ (backTo _ (starEach [] _)) []) _ _ _); k_dflt (refine' callWith_K0F ?k1_q ?k2_q ?k3_q ?_; (case k1_q => k_asm); (case k2_q => k_asm); (case k3_q => k_is); k_whole)))) | ((with_reducible show wpAny _ _ (subscriptTail (Expr.Name _ _) (Expr.Constant _ _ _) (Value.ref _) (Value.int _ _)) _ _ _); first | (with_reducible (k_here; (with_reducible show wpAny _ _ (subscriptTail _ _ (Value.ref _) (Value.int _ _)) _ _ _); k_dflt (refine' item_tupleT ?t_q ?a_q ?b_q ?c_q ?d_q ?_ ?e_q; (case t_q => exact News.isTup (by k_asm) (by k_mem)); (case a_q => decide); (case b_q => decide); (case c_q => exact rfl); (case d_q => exact rfl); (case e_q => with_unfolding_all rfl); k_whole)))) | ((with_reducible show wpAny _ _ (newTuple _) _ _ _); first | (with_reducible (k_here; k_dflt (refine' newTuple_V ?F_q ?N_q ?_ ?z_q; (case F_q => k_asm); (case N_q => k_asm); (case z_q => kmk_size)); intro D' h' o' n' F' N' l1; (try k_lt l1); (try k_sweep)))) | ((with_reducible show wpAny _ _ (eval (Expr.Name _ _) _) _ _ _); first | (with_reducible (k_here; name_kind "local"; k_dflt (refine' nameX_L ?F_q ?v_q ?_ ?a_q ?b_q; (case F_q => k_asm); (case a_q => rfl); (case b_q => rfl); (case v_q => rfl); k_whole)))) | (k_unfold; (try dsimp only)) | (k_end; wrow_close) | (walk1; (all_goals (try dsimp only))) | (dsimp only; walk1) | (leave1; try dsimp only)))
      rename Fr g' _ _ _ => FF; rename News g' _ _ _ => NN
      replace NN := in_perm NN
      have FF2 := fr_congr FF shape1_in
      refine SrcF.mk (its := [_, _]) FF2 NN (by k_mem) ?_
      intro gg3
      refine forX_inv (InJ g' (L' + 1) _ ((I, oI) :: R) (_, _)) ?_ ?_ _ _ _ _ ⟨oc2, _, _, rfl, ⟨_, hoc2⟩, rfl, rfl, ?_, ?_, List.mem_cons_self, ?_⟩
      · intro m1 g1 nw h2 tk2 J1 F1 N1
        refine cps ?_; intro Q9 hQ9; obtain ⟨oc4, ot4, R4, eq91, ⟨vc4, hoc4⟩, eq92, eq93, rR4, need4, src4, it4⟩ := J1; refine hQ9 ?_; clear hQ9 Q9; subst eq91; subst eq92; subst eq93
        dsimp only
        (repeat' (first | ((with_reducible show wpAny _ _ (execs _ _) _ _ _); (fail_if_success (fail_if_success k_fold)); refine foldQ ?_; intro qk ek) | ((with_reducible show wpAny _ _ (exec _ _) _ _ _); (fail_if_success (fail_if_success k_fold)); refine foldQ ?_; intro qk ek; (try (refine foldN (by with_reducible assumption) ?_; intro n9 N9))) | (k_unfold; (try dsimp only)) | (k_end; wrow_close) | (walk1; (all_goals (try dsimp only))) | (dsimp only; walk1) | (leave1; try dsimp only)))
        exact ⟨g', _, _, _, (L' + 1, oc4) :: R, rfl, rfl, fr_congr F1 shape12, fun q hq => N1 q (by rcases List.mem_cons.mp hq with rfl | hq; (exact .tail _ (need4 _ (.head _))); rcases List.mem_cons.mp hq with rfl | hq; (exact .head _); exact .tail _ (need4 _ (.tail _ hq))), List.forall_mem_cons.mpr ⟨offa, offR⟩, ⟨_, .tail _ hcpR, rfl, _, rfl⟩, oc4, _, _, _, R, rfl, ⟨_, hoc4⟩, rfl, rfl, rR, fun v h => hR v (.tail _ h), hcpR, hinR⟩
      · intro v vs' m1 g1 nw I3 oI3 h2 tk2 J1 F1 N1 off3
        refine cps ?_; intro Q9 hQ9; obtain ⟨oc3, ot3, R3, eq91, ⟨vc3, hoc3⟩, eq92, eq93, rR3, need3, src3, it3⟩ := J1; refine hQ9 ?_; clear hQ9 Q9; subst eq91; subst eq92; subst eq93
        refine cps ?_; intro Q9 hQ9; obtain ⟨t4, l4, o4, ns4, tk4, eq91, hm41, hm42, V41⟩ := it3 v (.head _); refine hQ9 ?_; clear hQ9 Q9; subst eq91
        have V41' := V41
        refine cps ?_; intro Q9 hQ9; obtain ⟨b0, b1, b2, b3, y1, y2, y3, y4, ny, eq91, eq92⟩ := V41; refine hQ9 ?_; clear hQ9 Q9; subst eq91; subst eq92
        have offa3 : Apart (L' + 1) I3 := off3 _ (.head _)
        have offR3 : ∀ p ∈ R3, p.1 ≠ I3 := fun p hp => off3 p (.tail _ hp)
        clear off3
        have stp3 : StopHere := trivial
        (repeat' (first | ((with_reducible show wpAny _ _ (execs _ _) _ _ _); (fail_if_success (fail_if_success k_fold)); refine foldQ ?_; intro qk ek) | ((with_reducible show wpAny _ _ (exec _ _) _ _ _); (fail_if_success (fail_if_success k_fold)); refine foldQ ?_; intro qk ek; (try (refine foldN (by with_reducible assumption) ?_; intro n9 N9))) | ((with_reducible show wpAny _ _ (eval (Expr.ListComp _ _ _ _) _) _ _ _); first | (with_reducible (k_here; (with_reducible rename StopHere => sh'); clear sh'; refine metStop ?_))) | ((with_reducible show wpAny _ _ (exec (Stmt.For (Expr.Tuple _ _ _) (Expr.Tuple _ _ _) _ _ _) _) _ _ _); first | (with_reducible (k_here; (with_reducible rename StopHere => sh'); clear sh'; refine metStop ?_))) | ((with_reducible show wpAny _ _ (exec (Stmt.For _ _ _ _ _) _) _ _ _); first | (with_reducible (k_here; (with_reducible rename StopHere => sh'); clear sh'; refine metStop ?_))) | ((with_reducible show wpAny _ _ (storeName _ _ _) _ _ _); first | (with_reducible (k_here; k_dflt (refine' storeX_V ?F_q ?N_q ?_ ?a_q ?b_q; (case F_q => k_asm); (case N_q => k_asm); (case a_q => rfl); (case b_q => rfl); k_whole; intro h' tk' m' F' N'; (try k_sweep))))) | ((with_reducible show wpAny _ _ (eval (Expr.Name _ _) _) _ _ _); first | (with_reducible (k_here; name_kind "globalImplicit"; k_dflt (first | (name_is_builtin; refine' nameX_B ?F_q ?X_q ?T_q ?e_q ?v_q ?n_q ?_ ?a_q ?b_q; (case F_q => k_asm); (case X_q => k_asm); (case T_q => k_asm); (case a_q => rfl); (case b_q => rfl); (case e_q => k_is); (case v_q => boot_fast); (case n_q => decide); k_whole) | (refine' nameX_K ?F_q ?X_q ?T_q ?e_q ?_ ?a_q ?b_q; (case F_q => k_asm); (case X_q => k_asm); (case T_q => k_asm); (case a_q => rfl); (case b_q => rfl); (case e_q => k_is); k_whole)))) | (with_reducible (k_here; name_kind "local"; k_dflt (refine' nameX_L ?F_q ?v_q ?_ ?a_q ?b_q; (case F_q => k_asm); (case a_q => rfl); (case b_q => rfl); (case v_q => rfl); k_whole)))) | (k_unfold; (try dsimp only)) | (k_end; wrow_close) | (walk1; (all_goals (try dsimp only))) | (dsimp only; walk1) | (leave1; try dsimp only)))
        unfold MetStop
        rename Fr g' _ _ _ => FF
        k_dflt (refine LCt.ListComp_T (F₀ := FF) (by with_unfolding_all rfl) (by decide) (by rfl) (by decide) (by rfl) ?_)
        (repeat' (first | ((with_reducible show wpAny _ _ (execs _ _) _ _ _); (fail_if_success (fail_if_success k_fold)); refine foldQ ?_; intro qk ek) | ((with_reducible show wpAny _ _ (exec _ _) _ _ _); (fail_if_success (fail_if_success k_fold)); refine foldQ ?_; intro qk ek; (try (refine foldN (by with_reducible assumption) ?_; intro n9 N9))) | ((with_reducible show wpAny _ _ (eval (Expr.Name _ _) _) _ _ _); first | (with_reducible (k_here; name_kind "globalImplicit"; k_dflt (first | (name_is_builtin; refine' nameX_B ?F_q ?X_q ?T_q ?e_q ?v_q ?n_q ?_ ?a_q ?b_q; (case F_q => k_asm); (case X_q => k_asm); (case T_q => k_asm); (case a_q => rfl); (case b_q => rfl); (case e_q => k_is); (case v_q => boot_fast); (case n_q => decide); k_whole) | (refine' nameX_K ?F_q ?X_q ?T_q ?e_q ?_ ?a_q ?b_q; (case F_q => k_asm); (case X_q => k_asm); (case T_q => k_asm); (case a_q => rfl); (case b_q => rfl); (case e_q => k_is); k_whole))))) | (k_unfold; (try dsimp only)) | (k_end; wrow_close) | (walk1; (all_goals (try dsimp only))) | (dsimp only; walk1) | (leave1; try dsimp only)))
        refine LCt.CompSrcT.range (n := 4) (by rfl) (by k_asm) (by k_asm) (by assumption) (by first | decide | rfl) (by first | rfl | decide) (by first | size_fits | exact Nat.le_of_ble_eq_true rfl) ?_
        intro gg4
        refine compT_inv 4 (fun i ys => IntsAre ys (nz [b0, b1, b2, b3] i)) ?_ ?_ 4 0 [] rfl .nil
        · intro ys hi4
          unfold LCg.FinE
          intro D5 h5 tk5 F5 N5 o15
          have len4 := nz_len [b0, b1, b2, b3] 4
          have len5 := hi4.length
          (repeat' (first | ((with_reducible show wpAny _ _ (execs _ _) _ _ _); (fail_if_success (fail_if_success k_fold)); refine foldQ ?_; intro qk ek) | ((with_reducible show wpAny _ _ (exec _ _) _ _ _); (fail_if_success (fail_if_success k_fold)); refine foldQ ?_; intro qk ek; (try (refine foldN (by with_reducible assumption) ?_; intro n9 N9))) | ((with_reducible show wpAny _ _ (call (Value.ref _) _) _ _ _); first | (with_reducible (k_here; (with_reducible apply top_c); k_dflt (walk_at "c8"; k_mem; (first | with_reducible assumption | exact l4_mk); ktr_room; ktr_units; k_whole); intro t' h' tk' F' N'; (try k_sweep); (try k_fold); (try k_sweep); (try k_fold)))) | ((with_reducible show wpAny _ _ (call (Value.type _) [Value.ref _]) _ _ _); first | (with_reducible (k_here; (with_reducible show wpAny _ _ (call (Value.type _) [Value.ref _]) _ _ _); k_dflt (refine' list_copyK ?k1_q ?k2_q ?k3_q ?_ ?z_q; (case k1_q => k_asm); (case k2_q => k_asm); (case k3_q => exact News.isList (by k_asm) (by k_mem)); (case z_q => size_fits); k_whole); intro D' c' h' F' N' l1; (try k_lt l1); (try k_sweep)))) | ((with_reducible show wpAny _ _ (callWith _ (Value.ref _) _ _ _) _ _ _); first | (with_reducible (k_here; k_dflt (refine' callWith_K ?k1_q ?k2_q ?_; (case k1_q => k_asm); (case k2_q => k_is); k_whole)))) | ((with_reducible show wpAny _ _ (newList _) _ _ _); first | (with_reducible (k_here; k_dflt (refine' newList_V ?F_q ?N_q ?_ ?z_q; (case F_q => k_asm); (case N_q => k_asm); (case z_q => size_fits)); intro D' h' o' n' F' N' l1; (try k_lt l1); (try k_sweep)))) | ((with_reducible show wpAny _ _ (eval (Expr.Name _ _) _) _ _ _); first | (with_reducible (k_here; name_kind "globalImplicit"; k_dflt (first | (name_is_builtin; refine' nameX_B ?F_q ?X_q ?T_q ?e_q ?v_q ?n_q ?_ ?a_q ?b_q; (case F_q => k_asm); (case X_q => k_asm); (case T_q => k_asm); (case a_q => rfl); (case b_q => rfl); (case e_q => k_is); (case v_q => boot_fast); (case n_q => decide); k_whole) | (refine' nameX_K ?F_q ?X_q ?T_q ?e_q ?_ ?a_q ?b_q; (case F_q => k_asm); (case X_q => k_asm); (case T_q => k_asm); (case a_q => rfl); (case b_q => rfl); (case e_q => k_is); k_whole)))) | (with_reducible (k_here; name_kind "local"; k_dflt (refine' nameX_L ?F_q ?v_q ?_ ?a_q ?b_q; (case F_q => k_asm); (case a_q => rfl); (case b_q => rfl); (case v_q => rfl); k_whole)))) | (k_unfold; (try dsimp only)) | (k_end; wrow_close) | (walk1; (all_goals (try dsimp only))) | (dsimp only; walk1) | (leave1; try dsimp only)))
          · exfalso
            exact absurd (top_max (by assumption) (by assumption)).symm (by assumption)
          · exfalso
            rename _ ≠ topOf _ => hq9
            exact hq9 rfl
          · rename Fr g' _ _ _ => FF; rename News g' _ _ _ => NN
            exact ⟨g', _, _, _, _, rfl, rfl, fr_congr FF shape1_up, fun q hq => NN q (.tail _ (.tail _ (.tail _ (.tail _ hq)))), List.forall_mem_cons.mpr ⟨offa3, offR3⟩, ⟨_, .tail _ src3, rfl, _, rfl⟩, _, _, R3, rfl, ⟨_, by assumption⟩, rfl, rfl, rR3, need3, src3, fun v h => it3 v (.tail _ h)⟩
        · intro i ys v5 I5 oI5 C5 oC5 D5 m5 h5 tk5 E5 hi5 J5 hv5 nC5 e5 F5 N5 off5 ne5
          obtain ⟨t5, rfl⟩ := hv5
          (repeat' (first | ((with_reducible show wpAny _ _ (execs _ _) _ _ _); (fail_if_success (fail_if_success k_fold)); refine foldQ ?_; intro qk ek) | ((with_reducible show wpAny _ _ (exec _ _) _ _ _); (fail_if_success (fail_if_success k_fold)); refine foldQ ?_; intro qk ek; (try (refine foldN (by with_reducible assumption) ?_; intro n9 N9))) | ((with_reducible show wpAny _ _ (subscriptTail (Expr.Name _ _) (Expr.Name _ _) (Value.ref _) (Value.int _ _)) _ _ _); first | (with_reducible (k_here; (with_reducible show wpAny _ _ (subscriptTail _ _ (Value.ref _) (Value.int _ _)) _ _ _); k_dflt (refine' item_lits ?h0_q ?h1_q ?h2_q ?k1_q ?k2_q ?k3_q ?_ ?k4_q; (case k1_q => k_asm); (case k2_q => k_mem); (case k3_q => repeat constructor); (case h0_q => omega); (case h1_q => simp only [List.length_cons, List.length_nil]; omega); (case h2_q => omega); (case k4_q => with_unfolding_all rfl); k_whole); intro t'))) | ((with_reducible show wpAny _ _ (subscriptTail (Expr.Subscript (Expr.Name _ _) (Expr.Constant _ _ _) _) (Expr.Name _ _) (Value.ref _) (Value.int _ _)) _ _ _); first | (with_reducible (k_here; (with_reducible show wpAny _ _ (subscriptTail _ _ (Value.ref _) (Value.int _ _)) _ _ _); k_dflt (refine' item_lits ?h0_q ?h1_q ?h2_q ?k1_q ?k2_q ?k3_q ?_ ?k4_q; (case k1_q => k_asm); (case k2_q => k_mem); (case k3_q => repeat constructor); (case h0_q => omega); (case h1_q => simp only [List.length_cons, List.length_nil]; omega); (case h2_q => omega); (case k4_q => with_unfolding_all rfl); k_whole); intro t'))) | (k_unfold; (try dsimp only)) | (k_end; wrow_close) | (walk1; (all_goals (try dsimp only))) | (dsimp only; walk1) | (leave1; try dsimp only)))
          · exact ⟨_, _, rfl, F5, N5, nz_pos J5 (by assumption)⟩
          · exact ⟨_, _, rfl, F5, N5, nz_zero J5 (by assumption)⟩
      · clear FF2 NN
        refine List.forall_mem_cons.mpr ⟨?_, List.forall_mem_cons.mpr ⟨?_, List.forall_mem_cons.mpr ⟨?_, List.forall_mem_cons.mpr ⟨?_, rR⟩⟩⟩⟩
        · show @Ne Nat _ _; first | k_ne | omega
        · show @Ne Nat _ _; first | k_ne | omega
        · show @Ne Nat _ _; first | k_ne | omega
        · exact apart_ne' offa
      · exact fun q hq => .tail _ (.tail _ (.tail _ hq))
      · intro v hv
        rcases List.mem_cons.mp hv with rfl | hv
        · exact ⟨_, ul1, _, _, _, rfl, by k_mem, by k_mem, l4_mk⟩
        · rw [List.mem_singleton.mp hv]
          exact ⟨_, dl1, _, _, _, rfl, by k_mem, by k_mem, l4_mk⟩
    · clear FF2
      simp only [List.forall_mem_cons]
      refine ⟨?_, ?_, ?_, ?_, ?_, ?_, ?_, ?_, ?_, r0⟩ <;> ((show @Ne Nat _ _); first | k_ne | omega)
    · intro c h
      rcases List.mem_append.mp h with h | h
      · exact (hc c h).mono fun q hq => by repeat (first | exact hq | refine List.mem_cons_of_mem _ ?_)
      · rw [List.mem_singleton.mp h]
        exact ⟨_, x, dx, su, sd, _, up, dn, od, ou, odn, oup, odw, n, us, ds, t, rfl, by k_mem, by k_mem, by k_mem, TD, by k_mem, U1, by k_mem, U2, by k_mem, by k_mem, U3, by k_mem, U4⟩
  clear FF3 NN3 TT U1 U2 U3 U4 r0 r1 r2 r3 r4 r5 r6 r7 hp2 hin
  clear rest t0 o5 os ow od ou odn oup odw
  intro v vs' m1 g1 nw I oI h tk J1 F1 N1 off
  refine cps ?_; intro Q9 hQ9; obtain ⟨n, t, o5, os, ow, us, ds, od, ou, odn, oup, odw, cs', k, rest, eq91, eq92, eq93, TD, U1, U2, U3, U4, hin, r0, r1, r2, r3, r4, r5, r6, r7, hc, hsub, hlen⟩ := J1; refine hQ9 ?_; clear hQ9 Q9; subst eq91; subst eq92; subst eq93
  have hsz : cs'.toArray.size ≤ sizeLine := Nat.le_trans (by simp only [List.size_toArray, List.length_cons] at *; omega : _ ≤ 8) (Nat.le_of_ble_eq_true rfl)
  refine cps ?_; intro Q9 hQ9; obtain ⟨tt, kk, zz, tk1, tk2, eq91, hmt, k0, k3, z0, z1⟩ := hv v (hsub v (.head _)); refine hQ9 ?_; clear hQ9 Q9; subst eq91
  have hmt' := hin _ hmt
  have hf' := hin _ hf
  simp only [List.forall_mem_cons] at off
  refine cps ?_; intro Q9 hQ9; obtain ⟨i1, i2, i3, i4, i5, i6, i7, i8, i9⟩ := off; refine hQ9 ?_; clear hQ9 Q9
  have i1' : Apart (L' + 1) I := i1
  have i2' : Apart cp I := i2
  have i3' : Apart dn I := i3
  have i4' : Apart up I := i4
  have i5' : Apart x I := i5
  have i6' : Apart dx I := i6
  have i7' : Apart su I := i7
  have i8' : Apart sd I := i8
  clear i1 i2 i3 i4 i5 i6 i7 i8
  refine cps ?_; intro Q9 hQ9; obtain ⟨us1, nu1, eq91, iu1, lu1⟩ := l4_vs U1; refine hQ9 ?_; clear hQ9 Q9; subst eq91
  refine cps ?_; intro Q9 hQ9; obtain ⟨ds1, nd1, eq91, id1, ld1⟩ := l4_vs U2; refine hQ9 ?_; clear hQ9 Q9; subst eq91
  refine cps ?_; intro Q9 hQ9; obtain ⟨us2, nu2, eq91, iu2, lu2⟩ := l4_vs U3; refine hQ9 ?_; clear hQ9 Q9; subst eq91
  refine cps ?_; intro Q9 hQ9; obtain ⟨ds2, nd2, eq91, id2, ld2⟩ := l4_vs U4; refine hQ9 ?_; clear hQ9 Q9; subst eq91
  have TD' := TD
  refine cps ?_; intro Q9 hQ9; obtain ⟨q1, q2, q3, q4, eq91⟩ := TD; refine hQ9 ?_; clear hQ9 Q9; subst eq91
  by_cases hk3 : kk < 3
  · obtain ⟨ai, oi, gi, hx, hmi, LGi, oki⟩ := five_at (hin _ hf1) (hin _ hf2) (hin _ hf3) hg1 hg2 hg3 ok1 ok2 ok3 k0 hk3
    refine cps ?_; intro Q9 hQ9; obtain ⟨na1, na2, na3, na4, na5, na6, na7, na8, na9, na10⟩ := norm_num oki; refine hQ9 ?_; clear hQ9 Q9
    (repeat' (first | ((with_reducible show wpAny _ _ (execs _ _) _ _ _); (fail_if_success (fail_if_success k_fold)); refine foldQ ?_; intro qk ek) | ((with_reducible show wpAny _ _ (exec _ _) _ _ _); (fail_if_success (fail_if_success k_fold)); refine foldQ ?_; intro qk ek; (try (refine foldN (by with_reducible assumption) ?_; intro n9 N9))) | ((with_reducible show wpAny _ _ (call (Value.builtin "list.append") _) _ _ _); first | (with_reducible (k_here; k_dflt (refine' append_K ?k1_q ?k2_q ?k3_q ?_ ?z_q; (case k1_q => k_asm); (case k2_q => k_asm); (case k3_q => k_upd); (case z_q => with_reducible assumption); k_whole); intro h' F' N'; (try k_sweep)))) | ((with_reducible show wpAny _ _ (subscriptTail (Expr.Name _ _) (Expr.Name _ _) (Value.ref _) (Value.int _ _)) _ _ _); first | (with_reducible (k_here; (with_reducible show wpAny _ _ (subscriptTail _ _ (Value.ref _) (Value.int _ _)) _ _ _); k_dflt (refine' item_lit ?h0_q ?h1_q ?k1_q ?k2_q ?k3_q ?_ ?k4_q; (case k1_q => k_asm); (case k2_q => k_mem); (case k3_q => with_reducible assumption); (case h0_q => omega); (case h1_q => omega); (case k4_q => with_unfolding_all rfl); k_whole)))) | ((with_reducible show wpAny _ _ (call (Value.ref _) _) _ _ _); first | (with_reducible (k_here; (with_reducible apply glue_c); k_dflt (walk_at "c8"; (first | with_reducible assumption | omega); (first | with_reducible assumption | omega); (first | with_reducible assumption | omega); (first | with_reducible assumption | omega); ktr_room; ktr_units; all_goals (first | (refine fun (x' : Addr) (dx' : Addr) (o' : Obj) h' tk' F' N' l1' l2' G' e1' => ?_; replace G' := glueD_nn G'; refine glue_open G' N' ?_; clear N' G'; intro k1' k2' k3' k4' k5' t1' t2' t3' t4' t5' o9 n9 G2' N'; (have l3' := fun p hp => Nat.lt_trans (l1' p hp) l2'); (try k_lt l1'); (try k_lt l3'); (try k_lt2 l2'); (try k_sweep); (try k_fold)) | (refine fun (e' : Addr) (g' : Heap) (h' : Heap) (tk' : Nat) FG' S' U' e1' => ?_; exfalso; first | exact not_over (by with_reducible assumption) (by with_reducible assumption) (by with_reducible assumption) (by with_reducible assumption) (by with_reducible assumption) (by with_reducible assumption) e1' | (unfold G5.Over MX at e1'; dsimp only at e1'; omega)))))) | (with_reducible (k_here; (with_reducible apply parts_c); k_dflt (walk_at "c8"; k_mem; (first | with_reducible assumption | exact lst_mk); ktr_room; ktr_units; k_whole); intro r' o' h' tk' F' N' l1' G'; k_dflt (refine tup_open G' N' ?_; clear N' G'; intro t1' t2' t3' t4' t5' o9 n9 G2' N'); (try k_lt l1'); (try k_sweep); (try k_fold))) | (with_reducible (k_here; (with_reducible apply tcopy_c); k_dflt (walk_at "c8"; k_mem; k_mem; (with_reducible assumption); k_mem; k_mem; (with_reducible assumption); (with_reducible assumption); ktr_room; ktr_units; k_whole); intro x' dx' su' sd' o' ou' od' h' tk' F' N' l1' l2' l3' l4' T' U1' U2'; (have l5' := fun p hp => Nat.lt_trans (l1' p hp) l2'); (have l6' := fun p hp => Nat.lt_trans (l5' p hp) l3'); (have l7' := fun p hp => Nat.lt_trans (l6' p hp) l4'); (have l8' := Nat.lt_trans l2' l3'); (have l9' := Nat.lt_trans l8' l4'); (have l10' := Nat.lt_trans l3' l4'); (try k_lt l1'); (try k_lt l5'); (try k_lt l6'); (try k_lt l7'); k_lt2 l2'; k_lt2 l3'; k_lt2 l4'; k_lt2 l8'; k_lt2 l9'; k_lt2 l10'; (try k_sweep); (try k_fold); (try k_sweep); (try k_fold))) | (with_reducible (k_here; (with_reducible show wpAny _ _ (call (Value.ref 240) _) _ _ _); k_dflt (refine wpAny_call ?_; k_enter)))) | ((with_reducible show wpAny _ _ (call (Value.type _) [Value.ref _]) _ _ _); first | (with_reducible (k_here; (with_reducible show wpAny _ _ (call (Value.type _) [Value.ref _]) _ _ _); k_dflt (refine' list_copyK ?k1_q ?k2_q ?k3_q ?_ ?z_q; (case k1_q => k_asm); (case k2_q => k_asm); (case k3_q => exact News.isList (by k_asm) (by k_mem)); (case z_q => size_fits); k_whole); intro D' c' h' F' N' l1; (try k_lt l1); (try k_sweep)))) | ((with_reducible show wpAny _ _ (callWith _ (Value.ref _) _ _ _) _ _ _); first | (with_reducible (k_here; (with_reducible show wpAny _ _ (callWith _ _ _ (backTo _ (starEach [] _)) []) _ _ _); k_dflt (refine' callWith_K0F ?k1_q ?k2_q ?k3_q ?_; (case k1_q => k_asm); (case k2_q => k_asm); (case k3_q => k_is); k_whole))) | (with_reducible (k_here; k_dflt (refine' callWith_K ?k1_q ?k2_q ?_; (case k1_q => k_asm); (case k2_q => k_is); k_whole)))) | ((with_reducible show wpAny _ _ (subscriptTail (Expr.Name _ _) (Expr.Constant _ _ _) (Value.ref _) (Value.int _ _)) _ _ _); first | (with_reducible (k_here; (with_reducible show wpAny _ _ (subscriptTail _ _ (Value.ref _) (Value.int _ _)) _ _ _); k_dflt (refine' item_tupleT ?t_q ?a_q ?b_q ?c_q ?d_q ?_ ?e_q; (case t_q => exact News.isTup (by k_asm) (by k_mem)); (case a_q => decide); (case b_q => decide); (case c_q => exact rfl); (case d_q => exact rfl); (case e_q => with_unfolding_all rfl); k_whole)))) | ((with_reducible show wpAny _ _ (setAttr (Value.ref _) _ _) _ _ _); first | (with_reducible (k_here; k_dflt (refine' set_dict ?k1_q ?k2_q ?k3_q ?k4_q ?k5_q ?k6_q ?k7_q ?k8_q ?k9_q ?k10_q ?k11_q ?k12_q ?k13_q ?_; (case k1_q => k_asm); (case k2_q => k_asm); (case k3_q => k_asm); (case k4_q => k_inst); (case k5_q => exact rfl); (case k6_q => k_is); (case k7_q => k_is); (case k8_q => k_is); (case k9_q => k_is); (case k10_q => k_get); (case k11_q => k_put); (case k12_q => k_upd); (case k13_q => exact Nat.le_of_ble_eq_true rfl); k_whole; intro h' F' N'; (try k_sweep))))) | ((with_reducible show wpAny _ _ (newTuple _) _ _ _); first | (with_reducible (k_here; k_dflt (refine' newTuple_V ?F_q ?N_q ?_ ?z_q; (case F_q => k_asm); (case N_q => k_asm); (case z_q => kmk_size)); intro D' h' o' n' F' N' l1; (try k_lt l1); (try k_sweep)))) | ((with_reducible show wpAny _ _ (storeName _ _ _) _ _ _); first | (with_reducible (k_here; k_dflt (refine' storeX_V ?F_q ?N_q ?_ ?a_q ?b_q; (case F_q => k_asm); (case N_q => k_asm); (case a_q => rfl); (case b_q => rfl); k_whole; intro h' tk' m' F' N'; (try k_sweep))))) | ((with_reducible show wpAny _ _ (eval (Expr.Name _ _) _) _ _ _); first | (with_reducible (k_here; name_kind "globalImplicit"; k_dflt (first | (name_is_builtin; refine' nameX_B ?F_q ?X_q ?T_q ?e_q ?v_q ?n_q ?_ ?a_q ?b_q; (case F_q => k_asm); (case X_q => k_asm); (case T_q => k_asm); (case a_q => rfl); (case b_q => rfl); (case e_q => k_is); (case v_q => boot_fast); (case n_q => decide); k_whole) | (refine' nameX_K ?F_q ?X_q ?T_q ?e_q ?_ ?a_q ?b_q; (case F_q => k_asm); (case X_q => k_asm); (case T_q => k_asm); (case a_q => rfl); (case b_q => rfl); (case e_q => k_is); k_whole)))) | (with_reducible (k_here; name_kind "local"; k_dflt (refine' nameX_L ?F_q ?v_q ?_ ?a_q ?b_q; (case F_q => k_asm); (case a_q => rfl); (case b_q => rfl); (case v_q => rfl); k_whole)))) | (k_unfold; (try dsimp only)) | (k_end; wrow_close) | (walk1; (all_goals (try dsimp only))) | (dsimp only; walk1) | (leave1; try dsimp only)))
    rename Fr g' L' _ _ => FF; rename News g' L' _ _ => NN
    refine tot_end (v := .ref tt) FF (news_tail (news_tail (news_tail NN))) shape_add totD_mk (l4_of (by assumption) (by first | (rw [List.length_set]; assumption) | assumption)) (l4_of (by assumption) (by first | (rw [List.length_set]; assumption) | assumption)) (l4_of (by assumption) (by first | (rw [List.length_set]; assumption) | assumption)) (l4_of (by assumption) (by first | (rw [List.length_set]; assumption) | assumption)) (by assumption) (by assumption) (by assumption) (l4_of iu2 lu2) (l4_of id2 ld2) hin r0 r1 r2 r3 r4 r5 r6 r7 hc hsub hlen hp i1' i2' i3' i4' i5' i6' i7' i8' i9 (by refine ⟨?_, ?_, ?_, ?_, ?_, ?_, ?_, ?_, ?_⟩ <;> (show @LT.lt Nat _ _ _; first | (show Bel _ _; with_reducible assumption) | omega)) (by refine ⟨?_, ?_, ?_, ?_, ?_, ?_, ?_⟩ <;> (show @LT.lt Nat _ _ _; first | (show Bel _ _; with_reducible assumption) | omega))
  · (repeat' (first | ((with_reducible show wpAny _ _ (execs _ _) _ _ _); (fail_if_success (fail_if_success k_fold)); refine foldQ ?_; intro qk ek) | ((with_reducible show wpAny _ _ (exec _ _) _ _ _); (fail_if_success (fail_if_success k_fold)); refine foldQ ?_; intro qk ek; (try (refine foldN (by with_reducible assumption) ?_; intro n9 N9))) | ((with_reducible show wpAny _ _ (call (Value.builtin "list.append") _) _ _ _); first | (with_reducible (k_here; k_dflt (refine' append_K ?k1_q ?k2_q ?k3_q ?_ ?z_q; (case k1_q => k_asm); (case k2_q => k_asm); (case k3_q => k_upd); (case z_q => with_reducible assumption); k_whole); intro h' F' N'; (try k_sweep)))) | ((with_reducible show wpAny _ _ (call (Value.ref _) _) _ _ _); first | (with_reducible (k_here; (with_reducible apply tcopy_c); k_dflt (walk_at "c8"; k_mem; k_mem; (with_reducible assumption); k_mem; k_mem; (with_reducible assumption); (with_reducible assumption); ktr_room; ktr_units; k_whole); intro x' dx' su' sd' o' ou' od' h' tk' F' N' l1' l2' l3' l4' T' U1' U2'; (have l5' := fun p hp => Nat.lt_trans (l1' p hp) l2'); (have l6' := fun p hp => Nat.lt_trans (l5' p hp) l3'); (have l7' := fun p hp => Nat.lt_trans (l6' p hp) l4'); (have l8' := Nat.lt_trans l2' l3'); (have l9' := Nat.lt_trans l8' l4'); (have l10' := Nat.lt_trans l3' l4'); (try k_lt l1'); (try k_lt l5'); (try k_lt l6'); (try k_lt l7'); k_lt2 l2'; k_lt2 l3'; k_lt2 l4'; k_lt2 l8'; k_lt2 l9'; k_lt2 l10'; (try k_sweep); (try k_fold); (try k_sweep); (try k_fold))) | (with_reducible (k_here; (with_reducible show wpAny _ _ (call (Value.ref 247) _) _ _ _); k_dflt (refine wpAny_call ?_; k_enter)))) | ((with_reducible show wpAny _ _ (call (Value.type _) [Value.ref _]) _ _ _); first | (with_reducible (k_here; (with_reducible show wpAny _ _ (call (Value.type _) [Value.ref _]) _ _ _); k_dflt (refine' list_copyK ?k1_q ?k2_q ?k3_q ?_ ?z_q; (case k1_q => k_asm); (case k2_q => k_asm); (case k3_q => exact News.isList (by k_asm) (by k_mem)); (case z_q => size_fits); k_whole); intro D' c' h' F' N' l1; (try k_lt l1); (try k_sweep)))) | ((with_reducible show wpAny _ _ (callWith _ (Value.ref _) _ _ _) _ _ _); first | (with_reducible (k_here; (with_reducible show wpAny _ _ (callWith _ _ _ (backTo _ (starEach [] _)) []) _ _ _); k_dflt (refine' callWith_K0F ?k1_q ?k2_q ?k3_q ?_; (case k1_q => k_asm); (case k2_q => k_asm); (case k3_q => k_is); k_whole))) | (with_reducible (k_here; k_dflt (refine' callWith_K ?k1_q ?k2_q ?_; (case k1_q => k_asm); (case k2_q => k_is); k_whole)))) | ((with_reducible show wpAny _ _ (setAttr (Value.ref _) _ _) _ _ _); first | (with_reducible (k_here; k_dflt (refine' set_dict ?k1_q ?k2_q ?k3_q ?k4_q ?k5_q ?k6_q ?k7_q ?k8_q ?k9_q ?k10_q ?k11_q ?k12_q ?k13_q ?_; (case k1_q => k_asm); (case k2_q => k_asm); (case k3_q => k_asm); (case k4_q => k_inst); (case k5_q => exact rfl); (case k6_q => k_is); (case k7_q => k_is); (case k8_q => k_is); (case k9_q => k_is); (case k10_q => k_get); (case k11_q => k_put); (case k12_q => k_upd); (case k13_q => exact Nat.le_of_ble_eq_true rfl); k_whole; intro h' F' N'; (try k_sweep))))) | ((with_reducible show wpAny _ _ (newTuple _) _ _ _); first | (with_reducible (k_here; k_dflt (refine' newTuple_V ?F_q ?N_q ?_ ?z_q; (case F_q => k_asm); (case N_q => k_asm); (case z_q => kmk_size)); intro D' h' o' n' F' N' l1; (try k_lt l1); (try k_sweep)))) | ((with_reducible show wpAny _ _ (storeName _ _ _) _ _ _); first | (with_reducible (k_here; k_dflt (refine' storeX_V ?F_q ?N_q ?_ ?a_q ?b_q; (case F_q => k_asm); (case N_q => k_asm); (case a_q => rfl); (case b_q => rfl); k_whole; intro h' tk' m' F' N'; (try k_sweep))))) | ((with_reducible show wpAny _ _ (eval (Expr.Name _ _) _) _ _ _); first | (with_reducible (k_here; name_kind "globalImplicit"; k_dflt (first | (name_is_builtin; refine' nameX_B ?F_q ?X_q ?T_q ?e_q ?v_q ?n_q ?_ ?a_q ?b_q; (case F_q => k_asm); (case X_q => k_asm); (case T_q => k_asm); (case a_q => rfl); (case b_q => rfl); (case e_q => k_is); (case v_q => boot_fast); (case n_q => decide); k_whole) | (refine' nameX_K ?F_q ?X_q ?T_q ?e_q ?_ ?a_q ?b_q; (case F_q => k_asm); (case X_q => k_asm); (case T_q => k_asm); (case a_q => rfl); (case b_q => rfl); (case e_q => k_is); k_whole)))) | (with_reducible (k_here; name_kind "local"; k_dflt (refine' nameX_L ?F_q ?v_q ?_ ?a_q ?b_q; (case F_q => k_asm); (case a_q => rfl); (case b_q => rfl); (case v_q => rfl); k_whole)))) | (k_unfold; (try dsimp only)) | (k_end; wrow_close) | (walk1; (all_goals (try dsimp only))) | (dsimp only; walk1) | (leave1; try dsimp only)))
    rename Fr g' L' _ _ => FF; rename News g' L' _ _ => NN
    refine tot_end (v := .ref tt) FF NN shape_wid totD_mk (l4_of iu1 lu1) (l4_of id1 ld1) (l4_of iu2 lu2) (l4_of id2 ld2) (by assumption) (by assumption) (by assumption) (l4_of iu2 lu2) (l4_of id2 ld2) hin r0 r1 r2 r3 r4 r5 r6 r7 hc hsub hlen hp i1' i2' i3' i4' i5' i6' i7' i8' i9 (by refine ⟨?_, ?_, ?_, ?_, ?_, ?_, ?_, ?_, ?_⟩ <;> (show @LT.lt Nat _ _ _; first | (show Bel _ _; with_reducible assumption) | omega)) (by refine ⟨?_, ?_, ?_, ?_, ?_, ?_, ?_⟩ <;> (show @LT.lt Nat _ _ _; first | (show Bel _ _; with_reducible assumption) | omega))
end
end
theorem off1_mem {D : Addr} : ∀ {l : List (Addr × Obj)}, PyProof.Rows.LCg.Off1 D l → ∀ p ∈ l, @Ne Nat p.1 D
  | [], _, _, h => nomatch h
  | _ :: _, h, p, hp => by
    rcases List.mem_cons.mp hp with rfl | hp
    · exact h.1
    · exact off1_mem h.2 p hp
theorem jar_perm {g h : Heap} {L : Addr} {a b c d e : Addr × Obj} {l : List (Addr × Obj)} (N : News g L h (a :: b :: c :: d :: e :: l)) : News g L h (a :: d :: l) := fun q hq => by
  rcases List.mem_cons.mp hq with rfl | hq
  · exact N _ (.head _)
  rcases List.mem_cons.mp hq with rfl | hq
  · exact N _ (.tail _ (.tail _ (.tail _ (.head _))))
  · exact N _ (.tail _ (.tail _ (.tail _ (.tail _ (.tail _ hq)))))
theorem jar_sum : ∀ (l : List Int), 0 ≤ (l.map fun x => (if x < 0 then -x else x).fmod 65521).sum ∧ (l.map fun x => (if x < 0 then -x else x).fmod 65521).sum ≤ 65521 * (l.length : Int)
  | [] => ⟨Int.le_refl _, Int.le_refl _⟩
  | x :: l => by
    obtain ⟨a, b⟩ := jar_sum l
    have c := fmod_in (a := if x < 0 then -x else x) (b := 65521) (by decide)
    rw [List.map_cons, List.sum_cons, List.length_cons]
    constructor <;> omega
section
open PyProof.Rows.LCg
theorem ints_at {ws : List Value} {ms : List Int} {i : Nat} {v : Value} (h : IntsAre ws ms) (hv : ws.toArray[i]? = some v) : ∃ x t, ms[i]? = some x ∧ v = .int x t := by
  have hv' : ws[i]? = some v := by simpa using hv
  have hlt : i < ms.length := by rw [← h.length]; exact (List.getElem?_eq_some_iff.mp hv').1
  obtain ⟨t, ht⟩ := h.get i ms[i] (by simp [hlt])
  rw [hv'] at ht
  exact ⟨ms[i], t, by simp [hlt], Option.some.inj ht⟩
theorem ints_next {ys : List Value} {ms : List Int} {i : Nat} {x y : Int} {t : Tok} {f : Int → Int} (J : IntsAre ys ((ms.take i).map f)) (hx : ms[i]? = some x) (e : y = f x) : IntsAre (ys ++ [.int y t]) ((ms.take (i + 1)).map f) := by
  rw [List.take_add_one, hx, Option.toList_some, List.map_append, List.map_singleton, ← e]
  exact ints_snoc J
theorem compU_inv {prog : Program} {w : World} {A : Around} {h₀ : Heap} {L : Addr} {m : Str → Option Value} {env : Env} {elt : Expr} {x : Str} {scope : Scope} {cl : List (Str × Addr)} {s : Shared} {its : Array Value} {ax : Addr} {Fin : List Value → List (Addr × Obj) → Prop} {news : List (Addr × Obj)} (hS : SrcAt h₀ ax its news) (J : Nat → List Value → Prop)
    (hfin : ∀ ys, J its.size ys → Fin ys news)
    (step : ∀ i ys v I oI C oC D m₂ h tk (E' : Value → Shared → Prop), its[i]? = some v → J i ys → NsObj oC m₂ → m₂ x = some v → Fr h₀ L h m → News h₀ L h ((I, oI) :: (C, oC) :: (D, lst ys) :: news) → Off3 I C D news → ((@Ne Nat I C) ∧ (@Ne Nat I D) ∧ (@Ne Nat C D)) →
      wpAny (model prog w) A (eval elt (compEnvC scope cl C env)) (fun y => TurnT h₀ L m { s with heap := h, toks := tk } I oI C oC D (lst ys) news (J (i + 1) (ys ++ [y]))) E' { s with heap := h, toks := tk }) :
    ∀ k i ys, i + k = its.size → J i ys → CompRest prog w A h₀ L m env elt x scope cl s (SrcAt h₀ ax its) (fun i v => its[i]? = some v) Fin k i ys news
  | 0, i, ys, e, j => CompRest.zero (hfin ys (by rw [← e]; exact j))
  | k + 1, i, ys, e, j => CompRest.succ fun v I oI C oC D m₂ h tk E' h1 h2 h3 h4 h5 h6 h7 => by
    refine wpAny_mono (step i ys v I oI C oC D m₂ h tk E' h1 j h2 h3 h4 h5 h6 h7) (fun y s'' z => ?_) fun _ _ e => e
    refine cps ?_; intro Q9 hQ9; obtain ⟨h', tk', eq91, F', N', j'⟩ := z; refine hQ9 ?_; clear hQ9 Q9; subst eq91
    exact ⟨h', tk', news, rfl, F', N', h6, hS, compU_inv hS J hfin step k (i + 1) _ (by omega) j'⟩
end
section
variable {w : World} {p : Program} {loose : List Str} {mean : ExcName → Option Value} {mg mb : Str → Option Value}
  {dp un : Nat} {gd : Option (List Code)} {cn : Str} {cs : Scope} {a : Addr} {ccd : Value} {cl : List (Str × Addr)} {outer : List Env} {A₀ : Around} {base h₀ : Heap} {L : Addr} {m : Str → Option Value} {news : List (Addr × Obj)} {s : Shared} {Q E : Value → Shared → Prop}

section
set_option maxRecDepth 100000 in
set_option maxHeartbeats 4000000 in
theorem jar_c {sc : Addr} {vs : List Value} {ns : List Int}
  (B : Below A₀ base outer h₀) (F : Fr h₀ L s.heap m) (X : (hd.heap_1 w.params).In h₀) (N : News h₀ L s.heap news) (T : Top p loose mean mg mb h₀) (hk : cs.kind = .function)
  (hl : h₀.IsList sc vs.toArray) (hi : IntsAre vs ns) (hn : ¬ 63 < ns.length)
  (hd : dp + 8 < recursionLimit) (hu : un + 80 < cLine)
  (hret : ∀ (j c : Addr) (oj oc : Obj) (h' : Heap) (tk' : Nat), Fr h₀ L h' m → News h₀ L h' ((j, oj) :: (c, oc) :: news) → (∀ p ∈ news, @Ne Nat p.1 c) → (∀ p ∈ news, p.1 < j) → @LT.lt Nat _ c j → JarIs 0 c oj oc → Q (.ref j) { s with heap := h', toks := tk' }) :
  wpAny (model PP w) (ktrTop dp un gd cn cs L a ccd cl outer) (call (.ref 280) [.ref sc]) Q E s := by
  have hz : vs.toArray.size ≤ sizeLine := Nat.le_trans (by rw [List.size_toArray, hi.length]; omega : _ ≤ 63) (Nat.le_of_ble_eq_true rfl)
  refine wpAny_call ?_
  k_dflt (refine' code_def ?k1 ?k2 ?k3 ?k4 ?k5 ?kA ?kF ?kK ?k6 ?k7 ?k8 ?k9 ?kB ?_ ?c2 ?c3 ?c4 ?c5; (case kA => exact rfl); (case kF => exact rfl); (case kK => assumption); (case k1 => k_asm); (case k2 => k_asm); (case k3 => k_asm); (case k4 => k_asm); (case k5 => k_asm); (case k6 => k_is); (case k7 => k_is); (case k8 => ktr_room); (case k9 => first | exact BindsTo.of_eq rfl | exact binds_K (by k_in) rfl (by k_is) rfl rfl rfl); (case c5 => decide); (case kB => exact locs rfl); (case c2 => exact rfl); (case c3 => exact rfl); (case c4 => exact rfl); k_whole; intro g' L' h' FG' F' N' B' X' T'; (try k_lift B'); (refine foldM F' ?_; clear F'; intro m9 F'); (try first | (with_reducible refine foldA ?_; intro A9 d9 u9) | (with_reducible refine foldAu ?_; intro A9 d9 u9)); (try (refine foldE ?_; intro e9)); (try k_unmd); (try (refine foldQ ?_; intro qk ek)); (try dsimp only))
  have hl2 := hl.at fun o e => FG'.keep _ o e
  (repeat' (first | ((with_reducible show wpAny _ _ (execs _ _) _ _ _); (fail_if_success (fail_if_success k_fold)); refine foldQ ?_; intro qk ek) | ((with_reducible show wpAny _ _ (exec _ _) _ _ _); (fail_if_success (fail_if_success k_fold)); refine foldQ ?_; intro qk ek; (try (refine foldN (by with_reducible assumption) ?_; intro n9 N9))) | ((with_reducible show wpAny _ _ (eval (Expr.ListComp _ _ _ _) _) _ _ _); first | (with_reducible (k_here; refine metStop ?_))) | ((with_reducible show wpAny _ _ (subscriptTail (Expr.Name _ _) (Expr.Slice _ _ _ _) (Value.ref _) (Value.ref _)) _ _ _); first | (with_reducible (k_here; (with_reducible show wpAny _ _ (subscriptTail _ (PySem.Expr.Slice _ _ none _) (Value.ref _) (Value.ref _)) _ _ _); k_dflt (refine' kmk_slice_ints (s := ⟨_, _, _, _, _⟩) ?F_q ?N_q ?l_q ?p_q ?q_q ?i_q ?m_q ?c_q ?_ ?s_q ?t_q ?z_q; (case F_q => k_asm); (case N_q => k_asm); (case l_q => kmk_list); (case p_q => kmk_part); (case q_q => kmk_part); (case i_q => l_ints); (case m_q => kmk_nums); (case c_q => kmk_len); (case s_q => with_unfolding_all rfl); (case t_q => kmk_pure); (case z_q => with_reducible assumption)); intro D' ws' h' F' N' l1 hI' hC' hL'; (try simp only [Int.reduceNeg, Int.neg_neg, Int.reduceToNat] at hI' hC' hL'); (try k_lt l1); (try k_sweep)))) | ((with_reducible show wpAny _ _ (newList _) _ _ _); first | (with_reducible (k_here; k_dflt (refine' newList_V ?F_q ?N_q ?_ ?z_q; (case F_q => k_asm); (case N_q => k_asm); (case z_q => size_fits)); intro D' h' o' n' F' N' l1; (try k_lt l1); (try k_sweep)))) | ((with_reducible show wpAny _ _ (eval (Expr.Name _ _) _) _ _ _); first | (with_reducible (k_here; name_kind "globalImplicit"; k_dflt (first | (name_is_builtin; refine' nameX_B ?F_q ?X_q ?T_q ?e_q ?v_q ?n_q ?_ ?a_q ?b_q; (case F_q => k_asm); (case X_q => k_asm); (case T_q => k_asm); (case a_q => rfl); (case b_q => rfl); (case e_q => k_is); (case v_q => boot_fast); (case n_q => decide); k_whole) | (refine' nameX_K ?F_q ?X_q ?T_q ?e_q ?_ ?a_q ?b_q; (case F_q => k_asm); (case X_q => k_asm); (case T_q => k_asm); (case a_q => rfl); (case b_q => rfl); (case e_q => k_is); k_whole)))) | (with_reducible (k_here; name_kind "local"; k_dflt (refine' nameX_L ?F_q ?v_q ?_ ?a_q ?b_q; (case F_q => k_asm); (case a_q => rfl); (case b_q => rfl); (case v_q => rfl); k_whole)))) | (k_unfold; (try dsimp only)) | (k_end; wrow_close) | (walk1; (all_goals (try dsimp only))) | (dsimp only; walk1) | (leave1; try dsimp only)))
  unfold MetStop
  rename Fr g' L' _ _ => FF
  k_dflt (refine LCg.ListComp_U (F₀ := FF) (by with_unfolding_all rfl) (by decide) (by rfl) (by decide) (by rfl) ?_)
  (repeat' (first | ((with_reducible show wpAny _ _ (execs _ _) _ _ _); (fail_if_success (fail_if_success k_fold)); refine foldQ ?_; intro qk ek) | ((with_reducible show wpAny _ _ (exec _ _) _ _ _); (fail_if_success (fail_if_success k_fold)); refine foldQ ?_; intro qk ek; (try (refine foldN (by with_reducible assumption) ?_; intro n9 N9))) | ((with_reducible show wpAny _ _ (eval (Expr.ListComp _ _ _ _) _) _ _ _); first | (with_reducible (k_here; refine metStop ?_))) | ((with_reducible show wpAny _ _ (subscriptTail (Expr.Name _ _) (Expr.Slice _ _ _ _) (Value.ref _) (Value.ref _)) _ _ _); first | (with_reducible (k_here; (with_reducible show wpAny _ _ (subscriptTail _ (PySem.Expr.Slice _ _ none _) (Value.ref _) (Value.ref _)) _ _ _); k_dflt (refine' kmk_slice_ints (s := ⟨_, _, _, _, _⟩) ?F_q ?N_q ?l_q ?p_q ?q_q ?i_q ?m_q ?c_q ?_ ?s_q ?t_q ?z_q; (case F_q => k_asm); (case N_q => k_asm); (case l_q => kmk_list); (case p_q => kmk_part); (case q_q => kmk_part); (case i_q => l_ints); (case m_q => kmk_nums); (case c_q => kmk_len); (case s_q => with_unfolding_all rfl); (case t_q => kmk_pure); (case z_q => with_reducible assumption)); intro D' ws' h' F' N' l1 hI' hC' hL'; (try simp only [Int.reduceNeg, Int.neg_neg, Int.reduceToNat] at hI' hC' hL'); (try k_lt l1); (try k_sweep)))) | ((with_reducible show wpAny _ _ (newList _) _ _ _); first | (with_reducible (k_here; k_dflt (refine' newList_V ?F_q ?N_q ?_ ?z_q; (case F_q => k_asm); (case N_q => k_asm); (case z_q => size_fits)); intro D' h' o' n' F' N' l1; (try k_lt l1); (try k_sweep)))) | ((with_reducible show wpAny _ _ (eval (Expr.Name _ _) _) _ _ _); first | (with_reducible (k_here; name_kind "globalImplicit"; k_dflt (first | (name_is_builtin; refine' nameX_B ?F_q ?X_q ?T_q ?e_q ?v_q ?n_q ?_ ?a_q ?b_q; (case F_q => k_asm); (case X_q => k_asm); (case T_q => k_asm); (case a_q => rfl); (case b_q => rfl); (case e_q => k_is); (case v_q => boot_fast); (case n_q => decide); k_whole) | (refine' nameX_K ?F_q ?X_q ?T_q ?e_q ?_ ?a_q ?b_q; (case F_q => k_asm); (case X_q => k_asm); (case T_q => k_asm); (case a_q => rfl); (case b_q => rfl); (case e_q => k_is); k_whole)))) | (with_reducible (k_here; name_kind "local"; k_dflt (refine' nameX_L ?F_q ?v_q ?_ ?a_q ?b_q; (case F_q => k_asm); (case a_q => rfl); (case b_q => rfl); (case v_q => rfl); k_whole)))) | (k_unfold; (try dsimp only)) | (k_end; wrow_close) | (walk1; (all_goals (try dsimp only))) | (dsimp only; walk1) | (leave1; try dsimp only)))
  rename Fr g' L' _ _ => F1; rename News g' L' _ _ => N1; rename IntsAre _ (List.take 60 ns) => I1
  have Z1 := I1.length
  refine LCg.CompSrc.ledger (by rfl) F1 N1 (by k_mem) (Nat.le_trans (by rw [List.size_toArray, Z1, List.length_take]; omega : _ ≤ 60) (Nat.le_of_ble_eq_true rfl)) ?_
  intro gg1
  refine compU_inv (.inr ⟨_, List.mem_cons_self, rfl, _, rfl⟩) (fun i ys => IntsAre ys (((List.take 60 ns).take i).map (fun x => if x < 0 then -x else x))) ?hfin1 ?hstep1 _ 0 [] (Nat.zero_add _) .nil
  case hstep1 =>
    intro i ys v I oI C oC D m2 h1 tk1 E1 hi5 J nC hx F1 N1 off ne
    refine cps ?_; intro Q9 hQ9; obtain ⟨x5, t5, hx5, eq91⟩ := ints_at I1 hi5; refine hQ9 ?_; clear hQ9 Q9; subst eq91
    (repeat' (first | ((with_reducible show wpAny _ _ (execs _ _) _ _ _); (fail_if_success (fail_if_success k_fold)); refine foldQ ?_; intro qk ek) | ((with_reducible show wpAny _ _ (exec _ _) _ _ _); (fail_if_success (fail_if_success k_fold)); refine foldQ ?_; intro qk ek; (try (refine foldN (by with_reducible assumption) ?_; intro n9 N9))) | ((with_reducible show wpAny _ _ (eval (Expr.ListComp _ _ _ _) _) _ _ _); first | (with_reducible (k_here; refine metStop ?_))) | ((with_reducible show wpAny _ _ (subscriptTail (Expr.Name _ _) (Expr.Slice _ _ _ _) (Value.ref _) (Value.ref _)) _ _ _); first | (with_reducible (k_here; (with_reducible show wpAny _ _ (subscriptTail _ (PySem.Expr.Slice _ _ none _) (Value.ref _) (Value.ref _)) _ _ _); k_dflt (refine' kmk_slice_ints (s := ⟨_, _, _, _, _⟩) ?F_q ?N_q ?l_q ?p_q ?q_q ?i_q ?m_q ?c_q ?_ ?s_q ?t_q ?z_q; (case F_q => k_asm); (case N_q => k_asm); (case l_q => kmk_list); (case p_q => kmk_part); (case q_q => kmk_part); (case i_q => l_ints); (case m_q => kmk_nums); (case c_q => kmk_len); (case s_q => with_unfolding_all rfl); (case t_q => kmk_pure); (case z_q => with_reducible assumption)); intro D' ws' h' F' N' l1 hI' hC' hL'; (try simp only [Int.reduceNeg, Int.neg_neg, Int.reduceToNat] at hI' hC' hL'); (try k_lt l1); (try k_sweep)))) | ((with_reducible show wpAny _ _ (newList _) _ _ _); first | (with_reducible (k_here; k_dflt (refine' newList_V ?F_q ?N_q ?_ ?z_q; (case F_q => k_asm); (case N_q => k_asm); (case z_q => size_fits)); intro D' h' o' n' F' N' l1; (try k_lt l1); (try k_sweep)))) | ((with_reducible show wpAny _ _ (eval (Expr.Name _ _) _) _ _ _); first | (with_reducible (k_here; name_kind "globalImplicit"; k_dflt (first | (name_is_builtin; refine' nameX_B ?F_q ?X_q ?T_q ?e_q ?v_q ?n_q ?_ ?a_q ?b_q; (case F_q => k_asm); (case X_q => k_asm); (case T_q => k_asm); (case a_q => rfl); (case b_q => rfl); (case e_q => k_is); (case v_q => boot_fast); (case n_q => decide); k_whole) | (refine' nameX_K ?F_q ?X_q ?T_q ?e_q ?_ ?a_q ?b_q; (case F_q => k_asm); (case X_q => k_asm); (case T_q => k_asm); (case a_q => rfl); (case b_q => rfl); (case e_q => k_is); k_whole)))) | (with_reducible (k_here; name_kind "local"; k_dflt (refine' nameX_L ?F_q ?v_q ?_ ?a_q ?b_q; (case F_q => k_asm); (case a_q => rfl); (case b_q => rfl); (case v_q => rfl); k_whole)))) | (k_unfold; (try dsimp only)) | (k_end; wrow_close) | (walk1; (all_goals (try dsimp only))) | (dsimp only; walk1) | (leave1; try dsimp only)))
    all_goals (refine ⟨_, _, rfl, by assumption, by assumption, ints_next J hx5 (by rfl)⟩)
  case hfin1 =>
    intro ys1 J1
    rw [List.size_toArray, Z1, List.take_length] at J1
    unfold LCg.FinE
    intro D1 h1 tk1 F51 N51 o11
    have lJ1 : ys1.length ≤ 60 := by rw [J1.length, List.length_map, List.length_take]; omega
    (repeat' (first | ((with_reducible show wpAny _ _ (execs _ _) _ _ _); (fail_if_success (fail_if_success k_fold)); refine foldQ ?_; intro qk ek) | ((with_reducible show wpAny _ _ (exec _ _) _ _ _); (fail_if_success (fail_if_success k_fold)); refine foldQ ?_; intro qk ek; (try (refine foldN (by with_reducible assumption) ?_; intro n9 N9))) | ((with_reducible show wpAny _ _ (eval (Expr.ListComp _ _ _ _) _) _ _ _); first | (with_reducible (k_here; refine metStop ?_))) | ((with_reducible show wpAny _ _ (subscriptTail (Expr.Name _ _) (Expr.Slice _ _ _ _) (Value.ref _) (Value.ref _)) _ _ _); first | (with_reducible (k_here; (with_reducible show wpAny _ _ (subscriptTail _ (PySem.Expr.Slice _ _ none _) (Value.ref _) (Value.ref _)) _ _ _); k_dflt (refine' kmk_slice_ints (s := ⟨_, _, _, _, _⟩) ?F_q ?N_q ?l_q ?p_q ?q_q ?i_q ?m_q ?c_q ?_ ?s_q ?t_q ?z_q; (case F_q => k_asm); (case N_q => k_asm); (case l_q => kmk_list); (case p_q => kmk_part); (case q_q => kmk_part); (case i_q => l_ints); (case m_q => kmk_nums); (case c_q => kmk_len); (case s_q => with_unfolding_all rfl); (case t_q => kmk_pure); (case z_q => with_reducible assumption)); intro D' ws' h' F' N' l1 hI' hC' hL'; (try simp only [Int.reduceNeg, Int.neg_neg, Int.reduceToNat] at hI' hC' hL'); (try k_lt l1); (try k_sweep)))) | ((with_reducible show wpAny _ _ (newList _) _ _ _); first | (with_reducible (k_here; k_dflt (refine' newList_V ?F_q ?N_q ?_ ?z_q; (case F_q => k_asm); (case N_q => k_asm); (case z_q => size_fits)); intro D' h' o' n' F' N' l1; (try k_lt l1); (try k_sweep)))) | ((with_reducible show wpAny _ _ (eval (Expr.Name _ _) _) _ _ _); first | (with_reducible (k_here; name_kind "globalImplicit"; k_dflt (first | (name_is_builtin; refine' nameX_B ?F_q ?X_q ?T_q ?e_q ?v_q ?n_q ?_ ?a_q ?b_q; (case F_q => k_asm); (case X_q => k_asm); (case T_q => k_asm); (case a_q => rfl); (case b_q => rfl); (case e_q => k_is); (case v_q => boot_fast); (case n_q => decide); k_whole) | (refine' nameX_K ?F_q ?X_q ?T_q ?e_q ?_ ?a_q ?b_q; (case F_q => k_asm); (case X_q => k_asm); (case T_q => k_asm); (case a_q => rfl); (case b_q => rfl); (case e_q => k_is); k_whole)))) | (with_reducible (k_here; name_kind "local"; k_dflt (refine' nameX_L ?F_q ?v_q ?_ ?a_q ?b_q; (case F_q => k_asm); (case a_q => rfl); (case b_q => rfl); (case v_q => rfl); k_whole)))) | (k_unfold; (try dsimp only)) | (k_end; wrow_close) | (walk1; (all_goals (try dsimp only))) | (dsimp only; walk1) | (leave1; try dsimp only)))
    unfold MetStop
    rename Fr g' L' _ _ => FF
    k_dflt (refine LCg.ListComp_U (F₀ := FF) (by with_unfolding_all rfl) (by decide) (by rfl) (by decide) (by rfl) ?_)
    (repeat' (first | ((with_reducible show wpAny _ _ (execs _ _) _ _ _); (fail_if_success (fail_if_success k_fold)); refine foldQ ?_; intro qk ek) | ((with_reducible show wpAny _ _ (exec _ _) _ _ _); (fail_if_success (fail_if_success k_fold)); refine foldQ ?_; intro qk ek; (try (refine foldN (by with_reducible assumption) ?_; intro n9 N9))) | ((with_reducible show wpAny _ _ (eval (Expr.ListComp _ _ _ _) _) _ _ _); first | (with_reducible (k_here; refine metStop ?_))) | ((with_reducible show wpAny _ _ (subscriptTail (Expr.Name _ _) (Expr.Slice _ _ _ _) (Value.ref _) (Value.ref _)) _ _ _); first | (with_reducible (k_here; (with_reducible show wpAny _ _ (subscriptTail _ (PySem.Expr.Slice _ _ none _) (Value.ref _) (Value.ref _)) _ _ _); k_dflt (refine' kmk_slice_ints (s := ⟨_, _, _, _, _⟩) ?F_q ?N_q ?l_q ?p_q ?q_q ?i_q ?m_q ?c_q ?_ ?s_q ?t_q ?z_q; (case F_q => k_asm); (case N_q => k_asm); (case l_q => kmk_list); (case p_q => kmk_part); (case q_q => kmk_part); (case i_q => l_ints); (case m_q => kmk_nums); (case c_q => kmk_len); (case s_q => with_unfolding_all rfl); (case t_q => kmk_pure); (case z_q => with_reducible assumption)); intro D' ws' h' F' N' l1 hI' hC' hL'; (try simp only [Int.reduceNeg, Int.neg_neg, Int.reduceToNat] at hI' hC' hL'); (try k_lt l1); (try k_sweep)))) | ((with_reducible show wpAny _ _ (newList _) _ _ _); first | (with_reducible (k_here; k_dflt (refine' newList_V ?F_q ?N_q ?_ ?z_q; (case F_q => k_asm); (case N_q => k_asm); (case z_q => size_fits)); intro D' h' o' n' F' N' l1; (try k_lt l1); (try k_sweep)))) | ((with_reducible show wpAny _ _ (eval (Expr.Name _ _) _) _ _ _); first | (with_reducible (k_here; name_kind "globalImplicit"; k_dflt (first | (name_is_builtin; refine' nameX_B ?F_q ?X_q ?T_q ?e_q ?v_q ?n_q ?_ ?a_q ?b_q; (case F_q => k_asm); (case X_q => k_asm); (case T_q => k_asm); (case a_q => rfl); (case b_q => rfl); (case e_q => k_is); (case v_q => boot_fast); (case n_q => decide); k_whole) | (refine' nameX_K ?F_q ?X_q ?T_q ?e_q ?_ ?a_q ?b_q; (case F_q => k_asm); (case X_q => k_asm); (case T_q => k_asm); (case a_q => rfl); (case b_q => rfl); (case e_q => k_is); k_whole)))) | (with_reducible (k_here; name_kind "local"; k_dflt (refine' nameX_L ?F_q ?v_q ?_ ?a_q ?b_q; (case F_q => k_asm); (case a_q => rfl); (case b_q => rfl); (case v_q => rfl); k_whole)))) | (k_unfold; (try dsimp only)) | (k_end; wrow_close) | (walk1; (all_goals (try dsimp only))) | (dsimp only; walk1) | (leave1; try dsimp only)))
    rename Fr g' L' _ _ => F2; rename News g' L' _ _ => N2; rename IntsAre _ (List.take 60 ns) => I2
    have Z2 := I2.length
    refine LCg.CompSrc.ledger (by rfl) F2 N2 (by k_mem) (Nat.le_trans (by rw [List.size_toArray, Z2, List.length_take]; omega : _ ≤ 60) (Nat.le_of_ble_eq_true rfl)) ?_
    intro gg2
    refine compU_inv (.inr ⟨_, List.mem_cons_self, rfl, _, rfl⟩) (fun i ys => IntsAre ys (((List.take 60 ns).take i).map (fun x => (if x < 0 then -x else x).fmod 65521))) ?hfin2 ?hstep2 _ 0 [] (Nat.zero_add _) .nil
    case hstep2 =>
      intro i ys v I oI C oC D m2 h1 tk1 E1 hi5 J nC hx F1 N1 off ne
      refine cps ?_; intro Q9 hQ9; obtain ⟨x5, t5, hx5, eq91⟩ := ints_at I2 hi5; refine hQ9 ?_; clear hQ9 Q9; subst eq91
      (repeat' (first | ((with_reducible show wpAny _ _ (execs _ _) _ _ _); (fail_if_success (fail_if_success k_fold)); refine foldQ ?_; intro qk ek) | ((with_reducible show wpAny _ _ (exec _ _) _ _ _); (fail_if_success (fail_if_success k_fold)); refine foldQ ?_; intro qk ek; (try (refine foldN (by with_reducible assumption) ?_; intro n9 N9))) | ((with_reducible show wpAny _ _ (eval (Expr.ListComp _ _ _ _) _) _ _ _); first | (with_reducible (k_here; refine metStop ?_))) | ((with_reducible show wpAny _ _ (subscriptTail (Expr.Name _ _) (Expr.Slice _ _ _ _) (Value.ref _) (Value.ref _)) _ _ _); first | (with_reducible (k_here; (with_reducible show wpAny _ _ (subscriptTail _ (PySem.Expr.Slice _ _ none _) (Value.ref _) (Value.ref _)) _ _ _); k_dflt (refine' kmk_slice_ints (s := ⟨_, _, _, _, _⟩) ?F_q ?N_q ?l_q ?p_q ?q_q ?i_q ?m_q ?c_q ?_ ?s_q ?t_q ?z_q; (case F_q => k_asm); (case N_q => k_asm); (case l_q => kmk_list); (case p_q => kmk_part); (case q_q => kmk_part); (case i_q => l_ints); (case m_q => kmk_nums); (case c_q => kmk_len); (case s_q => with_unfolding_all rfl); (case t_q => kmk_pure); (case z_q => with_reducible assumption)); intro D' ws' h' F' N' l1 hI' hC' hL'; (try simp only [Int.reduceNeg, Int.neg_neg, Int.reduceToNat] at hI' hC' hL'); (try k_lt l1); (try k_sweep)))) | ((with_reducible show wpAny _ _ (newList _) _ _ _); first | (with_reducible (k_here; k_dflt (refine' newList_V ?F_q ?N_q ?_ ?z_q; (case F_q => k_asm); (case N_q => k_asm); (case z_q => size_fits)); intro D' h' o' n' F' N' l1; (try k_lt l1); (try k_sweep)))) | ((with_reducible show wpAny _ _ (eval (Expr.Name _ _) _) _ _ _); first | (with_reducible (k_here; name_kind "globalImplicit"; k_dflt (first | (name_is_builtin; refine' nameX_B ?F_q ?X_q ?T_q ?e_q ?v_q ?n_q ?_ ?a_q ?b_q; (case F_q => k_asm); (case X_q => k_asm); (case T_q => k_asm); (case a_q => rfl); (case b_q => rfl); (case e_q => k_is); (case v_q => boot_fast); (case n_q => decide); k_whole) | (refine' nameX_K ?F_q ?X_q ?T_q ?e_q ?_ ?a_q ?b_q; (case F_q => k_asm); (case X_q => k_asm); (case T_q => k_asm); (case a_q => rfl); (case b_q => rfl); (case e_q => k_is); k_whole)))) | (with_reducible (k_here; name_kind "local"; k_dflt (refine' nameX_L ?F_q ?v_q ?_ ?a_q ?b_q; (case F_q => k_asm); (case a_q => rfl); (case b_q => rfl); (case v_q => rfl); k_whole)))) | (k_unfold; (try dsimp only)) | (k_end; wrow_close) | (walk1; (all_goals (try dsimp only))) | (dsimp only; walk1) | (leave1; try dsimp only)))
      all_goals (refine ⟨_, _, rfl, by assumption, by assumption, ints_next J hx5 (by rfl)⟩)
    case hfin2 =>
      intro ys2 J2
      rw [List.size_toArray, Z2, List.take_length] at J2
      unfold LCg.FinE
      intro D2 h2 tk2 F52 N52 o12
      have lJ2 : ys2.length ≤ 60 := by rw [J2.length, List.length_map, List.length_take]; omega
      (repeat' (first | ((with_reducible show wpAny _ _ (execs _ _) _ _ _); (fail_if_success (fail_if_success k_fold)); refine foldQ ?_; intro qk ek) | ((with_reducible show wpAny _ _ (exec _ _) _ _ _); (fail_if_success (fail_if_success k_fold)); refine foldQ ?_; intro qk ek; (try (refine foldN (by with_reducible assumption) ?_; intro n9 N9))) | ((with_reducible show wpAny _ _ (eval (Expr.ListComp _ _ _ _) _) _ _ _); first | (with_reducible (k_here; refine metStop ?_))) | ((with_reducible show wpAny _ _ (subscriptTail (Expr.Name _ _) (Expr.Slice _ _ _ _) (Value.ref _) (Value.ref _)) _ _ _); first | (with_reducible (k_here; (with_reducible show wpAny _ _ (subscriptTail _ (PySem.Expr.Slice _ _ none _) (Value.ref _) (Value.ref _)) _ _ _); k_dflt (refine' kmk_slice_ints (s := ⟨_, _, _, _, _⟩) ?F_q ?N_q ?l_q ?p_q ?q_q ?i_q ?m_q ?c_q ?_ ?s_q ?t_q ?z_q; (case F_q => k_asm); (case N_q => k_asm); (case l_q => kmk_list); (case p_q => kmk_part); (case q_q => kmk_part); (case i_q => l_ints); (case m_q => kmk_nums); (case c_q => kmk_len); (case s_q => with_unfolding_all rfl); (case t_q => kmk_pure); (case z_q => with_reducible assumption)); intro D' ws' h' F' N' l1 hI' hC' hL'; (try simp only [Int.reduceNeg, Int.neg_neg, Int.reduceToNat] at hI' hC' hL'); (try k_lt l1); (try k_sweep)))) | ((with_reducible show wpAny _ _ (newList _) _ _ _); first | (with_reducible (k_here; k_dflt (refine' newList_V ?F_q ?N_q ?_ ?z_q; (case F_q => k_asm); (case N_q => k_asm); (case z_q => size_fits)); intro D' h' o' n' F' N' l1; (try k_lt l1); (try k_sweep)))) | ((with_reducible show wpAny _ _ (eval (Expr.Name _ _) _) _ _ _); first | (with_reducible (k_here; name_kind "globalImplicit"; k_dflt (first | (name_is_builtin; refine' nameX_B ?F_q ?X_q ?T_q ?e_q ?v_q ?n_q ?_ ?a_q ?b_q; (case F_q => k_asm); (case X_q => k_asm); (case T_q => k_asm); (case a_q => rfl); (case b_q => rfl); (case e_q => k_is); (case v_q => boot_fast); (case n_q => decide); k_whole) | (refine' nameX_K ?F_q ?X_q ?T_q ?e_q ?_ ?a_q ?b_q; (case F_q => k_asm); (case X_q => k_asm); (case T_q => k_asm); (case a_q => rfl); (case b_q => rfl); (case e_q => k_is); k_whole)))) | (with_reducible (k_here; name_kind "local"; k_dflt (refine' nameX_L ?F_q ?v_q ?_ ?a_q ?b_q; (case F_q => k_asm); (case a_q => rfl); (case b_q => rfl); (case v_q => rfl); k_whole)))) | (k_unfold; (try dsimp only)) | (k_end; wrow_close) | (walk1; (all_goals (try dsimp only))) | (dsimp only; walk1) | (leave1; try dsimp only)))
      rename Fr h₀ L _ m => FF; rename News h₀ L _ _ => NN; first | (rename AllLt _ news => ll; have lz := allLt_mem ll) | (rename AllBel _ news => ll; have lz := allBel_lt ll)
      obtain ⟨sb1, sb2⟩ := jar_sum (List.take 60 ns)
      have lt60 : (List.take 60 ns).length ≤ 60 := by rw [List.length_take]; omega
      refine hret _ D1 _ (listOf ys1.toArray ys1.length) _ _ FF (jar_perm NN) (off1_mem o11.2) lz (by first | with_reducible assumption | (show Bel _ _; with_reducible assumption)) ⟨ys1, _, 0, _, _, _, _, _, rfl, rfl, J1, by rw [List.length_map]; exact lt60, ?_, Int.le_refl _, Int.le_refl _, sb1, by omega⟩
      · intro x hx
        refine cps ?_; intro Q9 hQ9; obtain ⟨y, -, eq91⟩ := List.mem_map.mp hx; refine hQ9 ?_; clear hQ9 Q9; subst eq91
        split <;> omega
end
end
theorem law_post (args : List WData) : PySem.Challenge.rw_sq0027_01.row.post.value PySem.Challenge.rw_sq0027_01.row.records { args := args, res := some (.bool true), after := args } = some (.bool true) := by
  wtm_val
theorem law_good {c : _} {s₁ s' : Shared} {cl mean} {args : List WData} {L m} (hc : c = PySem.Challenge.rw_sq0027_01.row.claim) (F : Fr s₁.heap L s'.heap m) (hg : s'.gens = #[]) (hos : s'.os = s₁.os) :
    GoodW c cl mean args s₁ (.ok (.ret (.bool true))) s' := by
  subst hc
  exact goodW_bool F hg (raisesW_false allW_false_nil) (postW_of (X := true) rfl (law_post _) rfl) hos
theorem apart_of {a b : Nat} (h : a ≠ b) : Apart a b := h
theorem bel_lt {a b : Nat} (h : Bel a b) : @LT.lt Nat _ a b := h
open PyProof.Rows.LCg in
def TurnL (h₀ : Heap) (L : Addr) (m : Str → Option Value) (s₁ : Shared) (I : Addr) (oI : Obj) (C : Addr) (oC : Obj) (D : Addr) (oD : Obj) (ok : List (Addr × Obj) → Prop) (s₂ : Shared) : Prop :=
  ∃ h' tk' nw', s₂ = { s₁ with heap := h', toks := tk' } ∧ Fr h₀ L h' m ∧ News h₀ L h' ((I, oI) :: (C, oC) :: (D, oD) :: nw') ∧ Off3 I C D nw' ∧ ok nw'
theorem fiv_perm {g h : Heap} {L : Addr} {r a b d e f x1 x2 x3 x4 x5 : Addr × Obj} {l : List (Addr × Obj)} (N : News g L h (r :: a :: b :: d :: e :: f :: x1 :: x2 :: x3 :: x4 :: x5 :: l)) : News g L h (a :: b :: d :: e :: f :: x1 :: x2 :: x3 :: x4 :: x5 :: r :: l) := fun q hq => N q (by
  (iterate 11 (rcases List.mem_cons.mp hq with hq | hq; (· rw [hq]; (repeat (first | exact List.mem_cons_self | refine List.mem_cons_of_mem _ ?_))))); (repeat (first | exact hq | refine List.mem_cons_of_mem _ ?_)))
open PyProof.Rows.LCg in
theorem compL_inv {prog : Program} {w : World} {A : Around} {h₀ : Heap} {L : Addr} {m : Str → Option Value} {env : Env} {elt : Expr} {x : Str} {scope : Scope} {cl : List (Str × Addr)} {s : Shared} {a : Int} {Fin : List Value → List (Addr × Obj) → Prop} (n : Nat) (J : Nat → List Value → List (Addr × Obj) → Prop)
    (hfin : ∀ ys nw, J n ys nw → Fin ys nw)
    (step : ∀ i ys nw v I oI C oC D m₂ h tk (E' : Value → Shared → Prop), i < n → J i ys nw → (∃ t, v = .int (a + (i : Int)) t) → NsObj oC m₂ → m₂ x = some v → Fr h₀ L h m → News h₀ L h ((I, oI) :: (C, oC) :: (D, lst ys) :: nw) → Off3 I C D nw → ((@Ne Nat I C) ∧ (@Ne Nat I D) ∧ (@Ne Nat C D)) →
      wpAny (model prog w) A (eval elt (compEnvC scope cl C env)) (fun y s'' => TurnL h₀ L m { s with heap := h, toks := tk } I oI C oC D (lst ys) (J (i + 1) (ys ++ [y])) s'') E' { s with heap := h, toks := tk }) :
    ∀ k i ys nw, i + k = n → J i ys nw → CompRest prog w A h₀ L m env elt x scope cl s (fun _ => True) (fun i v => ∃ t, v = .int (a + (i : Int)) t) Fin k i ys nw
  | 0, i, ys, nw, e, j => CompRest.zero (hfin ys nw (by rw [← e]; exact j))
  | k + 1, i, ys, nw, e, j => CompRest.succ fun v I oI C oC D m₂ h tk E' h1 h2 h3 h4 h5 h6 h7 => by
    refine wpAny_mono (step i ys nw v I oI C oC D m₂ h tk E' (by omega) j h1 h2 h3 h4 h5 h6 h7) (fun y s'' z => ?_) fun _ _ e => e
    refine cps ?_; intro Q9 hQ9; obtain ⟨h', tk', nw', eq91, F', N', o', j'⟩ := z; refine hQ9 ?_; clear hQ9 Q9; subst eq91
    exact ⟨h', tk', nw', rfl, F', N', o', trivial, compL_inv n J hfin step k (i + 1) _ nw' (by omega) j'⟩
inductive FiveV (R : List (Addr × Obj)) (v : Value) : Prop
  | mk (a : Addr) (o : Obj) (g : G5) : (v = .ref a) → ((a, o) ∈ R) → (LstG o g) → (g.Ok) → FiveV R v
theorem FiveV.mono {R R' : List (Addr × Obj)} {v : Value} (h : ∀ q ∈ R, q ∈ R') (c : FiveV R v) : FiveV R' v := let ⟨a, o, g, e, m, l, k⟩ := c; ⟨a, o, g, e, h _ m, l, k⟩
/-- what lies beside the jar: the rest is off all that changes -/
def OffL (j c cf cj : Addr) (R : List (Addr × Obj)) : Prop := (∀ p ∈ R, p.1 ≠ j) ∧ (∀ p ∈ R, p.1 ≠ c) ∧ (∀ p ∈ R, p.1 ≠ cf) ∧ (∀ p ∈ R, p.1 ≠ cj) ∧ (∀ p ∈ R, @Ne Nat p.1 362) ∧ (∀ p ∈ R, @Ne Nat p.1 355) ∧ (∀ p ∈ R, @Ne Nat p.1 372)
abbrev qLaw : Str := Str.ofString "law.<locals>.<lambda>"
abbrev shapeL (o1 o2 o3 : Option Value) (fv : Addr) (mm : Str → Option Value) : Str → Option Value := fun y => if y = Str.ofString "by" then o3 else if y = Str.ofString "count" then o2 else if y = Str.ofString "second" then o1 else if y = Str.ofString "fives" then some (.ref fv) else mm y
theorem shapeL_in {fv : Addr} {m : Str → Option Value} (e : m (Str.ofString "fives") = some (.ref fv)) : ∀ y, m y = shapeL (m (Str.ofString "second")) (m (Str.ofString "count")) (m (Str.ofString "by")) fv m y := by
  intro y
  unfold shapeL
  repeat' split
  all_goals first | rfl | (subst_vars; assumption) | (subst_vars; rfl)
theorem law_perm {g h : Heap} {L : Addr} {a b d e f x1 x2 x3 x4 x5 x6 x7 : Addr × Obj} {l : List (Addr × Obj)} (N : News g L h (a :: b :: d :: e :: f :: x1 :: x2 :: x3 :: x4 :: x5 :: x6 :: x7 :: l)) : News g L h (x1 :: x2 :: x3 :: x4 :: x5 :: x6 :: x7 :: a :: b :: d :: e :: f :: l) := fun q hq => N q (by
  (iterate 12 (rcases List.mem_cons.mp hq with hq | hq; (· rw [hq]; (repeat (first | exact List.mem_cons_self | refine List.mem_cons_of_mem _ ?_))))); (repeat (first | exact hq | refine List.mem_cons_of_mem _ ?_)))
inductive PairV (R : List (Addr × Obj)) (v : Value) : Prop
  | mk (t a1 a2 : Addr) (o1 o2 : Obj) (g1 g2 : G5) : (v = .ref t) → ((t, tupO #[.ref a1, .ref a2]) ∈ R) → ((a1, o1) ∈ R) → (LstG o1 g1) → (g1.Ok) → ((a2, o2) ∈ R) → (LstG o2 g2) → (g2.Ok) → PairV R v
inductive LawJ (base : Heap) (K : Frag) (p : Program) (loose : List Str) (mean : ExcName → Option Value) (mg mb : Str → Option Value) (j c cf cj fv : Addr) (ocj : Obj) (mm : Str → Option Value) (need : List (Addr × Obj)) (vs : List Value) (m : Str → Option Value) (g : Heap) (nw : List (Addr × Obj)) : Prop
  | mk (pre0 : RlD [] callerA base [] K p loose mean mg mb base g) (oj oc of : Obj) (p2 p3 : Array Value) (cods codl R : List (Addr × Obj)) (k : Nat) (s1 s2 s3 : Option Value) : (m = shapeL s1 s2 s3 fv mm) → (nw = (j, oj) :: (c, oc) :: (cf, of) :: (cj, ocj) :: (362, tabObj #[]) :: (355, tabObj p2) :: (372, tabObj p3) :: R) → (JarIs k c oj oc) → (k + 2 * vs.length ≤ 40) → (OffL j c cf cj R) → ((∃ v, of.data = .cell v)) → (TabGood qDeeds p2 cods) → ((∀ q ∈ cods, q ∈ R)) → (TabGood qLaw p3 codl) → ((∀ q ∈ codl, q ∈ R)) → ((∀ q ∈ need, q ∈ R)) → ((∀ v ∈ vs, PairV need v)) → LawJ base K p loose mean mg mb j c cf cj fv ocj mm need vs m g nw
theorem shapeL_up {a b d q1 q2 q3 : Option Value} {fv : Addr} {mm : Str → Option Value} : ∀ y, (fun y => if y = Str.ofString "count" then a else if y = Str.ofString "by" then b else if y = Str.ofString "second" then d else shapeL q1 q2 q3 fv mm y) y = shapeL d a b fv mm y := by
  intro y
  dsimp only [shapeL]
  by_cases e1 : y = Str.ofString "by"
  · have e2 : y ≠ Str.ofString "count" := by rw [e1]; decide
    simp only [if_pos e1, if_neg e2]
  by_cases e2 : y = Str.ofString "count"
  · simp only [if_neg e1, if_pos e2]
  by_cases e3 : y = Str.ofString "second"
  · simp only [if_neg e1, if_neg e2, if_pos e3]
  simp only [if_neg e1, if_neg e2, if_neg e3]
theorem deeds_sweep {g h : Heap} {L : Addr} {a b f k d I x1 x2 x3 x4 x5 x6 x7 : Addr × Obj} {l : List (Addr × Obj)} (N : News g L h (a :: b :: f :: k :: d :: I :: x1 :: x2 :: x3 :: x4 :: x5 :: x6 :: x7 :: l)) : News g L h (I :: x1 :: x2 :: x3 :: x4 :: x5 :: x6 :: x7 :: k :: l) := fun q hq => N q (by
  (iterate 9 (rcases List.mem_cons.mp hq with hq | hq; (· rw [hq]; (repeat (first | exact List.mem_cons_self | refine List.mem_cons_of_mem _ ?_))))); (repeat (first | exact hq | refine List.mem_cons_of_mem _ ?_)))
theorem law_end {base g' h' : Heap} {K : Frag} {p : Program} {loose : List Str} {mean : ExcName → Option Value} {mg mb : Str → Option Value} {env : Env} {s₁ : Shared} {tk' : Nat} {I j c cf cj fv T : Addr} {oI oj oc of ocj t2 : Obj} {p2 p3 : Array Value} {q : Addr × Obj} {R3 cods cods2 codl led need : List (Addr × Obj)} {its vs : List Value} {v : Value} {k' : Nat} {s1 s2 s3 : Option Value} {m' mm : Str → Option Value} {Q : Flow → Shared → Prop}
    (hR : RlD [] callerA base [] K p loose mean mg mb base g') (F : Fr g' env.locals h' m') (em : ∀ y, m' y = shapeL s1 s2 s3 fv mm y)
    (N : News g' env.locals h' ((I, oI) :: (j, oj) :: (c, oc) :: (cf, of) :: (cj, ocj) :: (362, tabObj #[]) :: (355, tabObj p2) :: (372, tabObj p3) :: q :: R3))
    (NC : News g' env.locals h' cods2) (GD : TabGood qDeeds p2 cods2)
    (cn : ∀ z ∈ cods2, z ∈ cods ∨ ∀ y ∈ ((I, oI) :: (j, oj) :: (c, oc) :: (cf, of) :: (cj, ocj) :: (362, tabObj #[]) :: (355, t2) :: (372, tabObj p3) :: q :: R3), y.1 < z.1)
    (hs2 : ∀ z ∈ cods, z ∈ R3) (GL : TabGood qLaw p3 (q :: codl)) (hs3 : ∀ z ∈ codl, z ∈ R3) (xx : q ∈ codl ∨ ∀ z ∈ led, z.1 < q.1)
    (l0 : ∃ o, (I, o) ∈ led) (l1 : ∃ o, (j, o) ∈ led) (l2 : ∃ o, (c, o) ∈ led) (l3 : ∃ o, (cf, o) ∈ led) (l4 : ∃ o, (cj, o) ∈ led) (l5 : ∃ o, ((362 : Addr), o) ∈ led) (l6 : ∃ o, ((355 : Addr), o) ∈ led) (l7 : ∃ o, ((372 : Addr), o) ∈ led)
    (Off : OffL j c cf cj R3) (i1 : Apart j I) (i2 : Apart c I) (i3 : Apart cf I) (i4 : Apart cj I) (i5 : Apart 362 I) (i6 : Apart 355 I) (i7 : Apart 372 I) (i8 : ∀ y ∈ R3, y.1 ≠ I)
    (J : JarIs k' c oj oc) (hk : k' + 2 * vs.length ≤ 40) (hcf : ∃ v, of.data = .cell v) (hneed : ∀ z ∈ need, z ∈ R3) (hpv : ∀ v' ∈ v :: vs, PairV need v') (hsrc : (T, tupO its.toArray) ∈ need) :
    ForEnd (RlD [] callerA base [] K p loose mean mg mb base) env.locals s₁ I oI (SeqAt "tuple" T its.toArray) (LawJ base K p loose mean mg mb j c cf cj fv ocj mm need vs) Q .next { s₁ with heap := h', toks := tk' } := by
  refine cps ?_; intro Q9 hQ9; obtain ⟨r1, r2, r3, r4, r5, r6, r7⟩ := Off; refine hQ9 ?_; clear hQ9 Q9
  have hq : ∀ (t : Nat), (∃ o, ((t : Addr), o) ∈ led) → (∀ y ∈ R3, @Ne Nat y.1 t) → @Ne Nat q.1 t := fun t ho hr => xx.elim (fun h => hr q (hs3 q h)) fun h => ho.elim fun o ho => Nat.ne_of_gt (h _ ho)
  have hc : ∀ (t : Nat), (∃ o, ((t : Addr), o) ∈ ((I, oI) :: (j, oj) :: (c, oc) :: (cf, of) :: (cj, ocj) :: (362, tabObj #[]) :: (355, t2) :: (372, tabObj p3) :: q :: R3)) → (∀ y ∈ R3, @Ne Nat y.1 t) → ∀ z ∈ cods2, @Ne Nat z.1 t := fun t ho hr z hz => (cn z hz).elim (fun h => hr z (hs2 z h)) fun h => ho.elim fun o ho => Nat.ne_of_gt (h _ ho)
  have ap : ∀ (t : Nat), (∃ o, ((t : Addr), o) ∈ led) → (∃ o, ((t : Addr), o) ∈ ((I, oI) :: (j, oj) :: (c, oc) :: (cf, of) :: (cj, ocj) :: (362, tabObj #[]) :: (355, t2) :: (372, tabObj p3) :: q :: R3)) → (∀ y ∈ R3, @Ne Nat y.1 t) → ∀ y ∈ cods2 ++ q :: R3, @Ne Nat y.1 t := fun t h1 h2 hr y hy => by
    rcases List.mem_append.mp hy with hy | hy
    · exact hc t h2 hr y hy
    · rcases List.mem_cons.mp hy with rfl | hy
      · exact hq t h1 hr
      · exact hr y hy
  have inR : ∀ z ∈ R3, z ∈ cods2 ++ q :: R3 := fun z hz => List.mem_append_right _ (.tail _ hz)
  refine ⟨g', h', tk', _, (j, oj) :: (c, oc) :: (cf, of) :: (cj, ocj) :: (362, tabObj #[]) :: (355, tabObj p2) :: (372, tabObj p3) :: (cods2 ++ q :: R3), hR, rfl, fr_congr F em, fun z hz => ?_, ?_, ⟨tupO its.toArray, ?_, rfl, _, rfl⟩, hR, oj, oc, of, p2, p3, cods2, q :: codl, cods2 ++ q :: R3, k', s1, s2, s3, rfl, rfl, J, hk,
    ⟨ap j l1 ⟨_, by ktr_rel⟩ r1, ap c l2 ⟨_, by ktr_rel⟩ r2, ap cf l3 ⟨_, by ktr_rel⟩ r3, ap cj l4 ⟨_, by ktr_rel⟩ r4, ap 362 l5 ⟨_, by ktr_rel⟩ r5, ap 355 l6 ⟨_, by ktr_rel⟩ r6, ap 372 l7 ⟨_, by ktr_rel⟩ r7⟩, hcf, GD, fun z hz => List.mem_append_left _ hz, GL, fun z hz => ?_, fun z hz => inR z (hneed z hz), fun v' h => hpv v' (.tail _ h)⟩
  · simp only [List.mem_cons, List.mem_append] at hz
    rcases hz with h | h | h | h | h | h | h | h | h | h | h
    · rw [h]; exact N _ (.head _)
    · rw [h]; exact N _ (.tail _ (.head _))
    · rw [h]; exact N _ (.tail _ (.tail _ (.head _)))
    · rw [h]; exact N _ (.tail _ (.tail _ (.tail _ (.head _))))
    · rw [h]; exact N _ (.tail _ (.tail _ (.tail _ (.tail _ (.head _)))))
    · rw [h]; exact N _ (.tail _ (.tail _ (.tail _ (.tail _ (.tail _ (.head _))))))
    · rw [h]; exact N _ (.tail _ (.tail _ (.tail _ (.tail _ (.tail _ (.tail _ (.head _)))))))
    · rw [h]; exact N _ (.tail _ (.tail _ (.tail _ (.tail _ (.tail _ (.tail _ (.tail _ (.head _))))))))
    · exact NC _ h
    · rw [h]; exact N _ (.tail _ (.tail _ (.tail _ (.tail _ (.tail _ (.tail _ (.tail _ (.tail _ (.head _)))))))))
    · exact N _ (.tail _ (.tail _ (.tail _ (.tail _ (.tail _ (.tail _ (.tail _ (.tail _ (.tail _ h)))))))))
  · simp only [List.forall_mem_cons]
    exact ⟨i1, i2, i3, i4, i5, i6, i7, ap I l0 ⟨_, .head _⟩ i8⟩
  · exact .tail _ (.tail _ (.tail _ (.tail _ (.tail _ (.tail _ (.tail _ (inR _ (hneed _ hsrc))))))))
  · rcases List.mem_cons.mp hz with rfl | hz
    · exact List.mem_append_right _ (.head _)
    · exact inR z (hs3 z hz)
inductive PlanV (R : List (Addr × Obj)) (v : Value) : Prop
  | mk (t : Addr) (k z : Int) (t1 t2 : Tok) : (v = .ref t) → ((t, tup2 k t1 z t2) ∈ R) → (0 ≤ k) → (k ≤ 3) → (-100000 ≤ z) → (z ≤ 100000) → PlanV R v
theorem PlanV.ex {R : List (Addr × Obj)} {v : Value} (c : PlanV R v) : ∃ t k z t1 t2, v = .ref t ∧ (t, tup2 k t1 z t2) ∈ R ∧ 0 ≤ k ∧ k ≤ 3 ∧ -100000 ≤ z ∧ z ≤ 100000 := let ⟨t, k, z, t1, t2, e, m, x, x2, x3, x4⟩ := c; ⟨t, k, z, t1, t2, e, m, x, x2, x3, x4⟩
theorem PlanV.mono {R R' : List (Addr × Obj)} {v : Value} (h : ∀ q ∈ R, q ∈ R') (c : PlanV R v) : PlanV R' v := let ⟨t, k, z, t1, t2, e, m, x, x2, x3, x4⟩ := c; ⟨t, k, z, t1, t2, e, h _ m, x, x2, x3, x4⟩
inductive PlanJ (j c cf cj : Addr) (of oj' t1 t2 t3 : Obj) (k : Nat) (need : List (Addr × Obj)) (i : Nat) (ys : List Value) (nw : List (Addr × Obj)) : Prop
  | mk (oj oc : Obj) (R : List (Addr × Obj)) : (nw = (j, oj) :: (c, oc) :: (cf, of) :: (cj, oj') :: (362, t1) :: (355, t2) :: (372, t3) :: R) → (JarIs (k + 2 * i) c oj oc) → (OffL j c cf cj R) → (ys.length = i) → ((∀ q ∈ need, q ∈ R)) → ((∀ v ∈ ys, PlanV R v)) → PlanJ j c cf cj of oj' t1 t2 t3 k need i ys nw
inductive FivJ (j c cf cj : Addr) (of oj' t1 t2 t3 : Obj) (i : Nat) (ys : List Value) (nw : List (Addr × Obj)) : Prop
  | mk (oj oc : Obj) (R : List (Addr × Obj)) : (nw = (j, oj) :: (c, oc) :: (cf, of) :: (cj, oj') :: (362, t1) :: (355, t2) :: (372, t3) :: R) → (JarIs (8 * i) c oj oc) → (OffL j c cf cj R) → (ys.length = i) → ((∀ v ∈ ys, FiveV R v)) → FivJ j c cf cj of oj' t1 t2 t3 i ys nw
section
local macro_rules | `(tactic| walk_at "CompSrc") => `(tactic| ((with_reducible rename StopHere => sh'); clear sh'; refine metStop ?_))
set_option maxRecDepth 100000 in
set_option maxHeartbeats 8000000 in
theorem l0 : PySem.Challenge.rw_sq0027_01.Holds := by
  refine Mine.hd ?_
  have stp : StopHere := trivial
  w_strict (
    k_go0
    (all_goals try k_fold)
    (rename Bel 362 _ => b1; have b1' := bel_lt b1); (rename Bel 355 _ => b2; have b2' := bel_lt b2); (rename Bel 372 _ => b3; have b3' := bel_lt b3)
    rename Shared => s1
    rename World => w
    (repeat' (first | ((with_reducible show wpAny _ _ (execs _ _) _ _ _); (fail_if_success (fail_if_success k_fold)); refine foldQ ?_; intro qk ek) | ((with_reducible show wpAny _ _ (exec _ _) _ _ _); (fail_if_success (fail_if_success k_fold)); refine foldQ ?_; intro qk ek; (try (refine foldN (by with_reducible assumption) ?_; intro n9 N9))) | ((with_reducible show wpAny _ _ (call (Value.ref _) _) _ _ _); first | (with_reducible (k_here; (with_reducible show wpAny _ _ (call (Value.ref 280) _) _ _ _); refine metStop ?_))) | ((with_reducible show wpAny _ _ (callWith _ (Value.ref _) _ _ _) _ _ _); first | (with_reducible (k_here; k_dflt (refine' callWith_K ?k1_q ?k2_q ?_; (case k1_q => k_asm); (case k2_q => k_is); k_whole)))) | ((with_reducible show wpAny _ _ (eval (Expr.Name _ _) _) _ _ _); first | (with_reducible (k_here; name_kind "globalImplicit"; k_dflt (first | (name_is_builtin; refine' nameX_B ?F_q ?X_q ?T_q ?e_q ?v_q ?n_q ?_ ?a_q ?b_q; (case F_q => k_asm); (case X_q => k_asm); (case T_q => k_asm); (case a_q => rfl); (case b_q => rfl); (case e_q => k_is); (case v_q => boot_fast); (case n_q => decide); k_whole) | (refine' nameX_K ?F_q ?X_q ?T_q ?e_q ?_ ?a_q ?b_q; (case F_q => k_asm); (case X_q => k_asm); (case T_q => k_asm); (case a_q => rfl); (case b_q => rfl); (case e_q => k_is); k_whole)))) | (with_reducible (k_here; name_kind "local"; k_dflt (refine' nameX_L ?F_q ?v_q ?_ ?a_q ?b_q; (case F_q => k_asm); (case a_q => rfl); (case b_q => rfl); (case v_q => rfl); k_whole)))) | (k_unfold; (try dsimp only)) | (k_end; wrow_close) | (walk1; (all_goals (try dsimp only))) | (dsimp only; walk1) | (leave1; try dsimp only)))
    unfold MetStop
    k_dflt (refine' wp_at_top ?tA ?tH ?_; (case tA => exact rfl); (case tH => exact rfl); refine' jar_c ?k1 ?k2 ?k3 ?k4 ?k5 ?kK ?hl ?hi ?hn ?kd ?ku ?_; (case k1 => k_asm); (case k2 => k_asm); (case k3 => k_asm); (case k4 => k_asm); (case k5 => k_asm); (case kK => first | exact rfl | assumption); (case hl => assumption); (case hi => assumption); (case hn => omega); (case kd => ktr_room); (case ku => ktr_units); k_whole)
    intro j c oj oc hj tkj Fj Nj nj lj lcj Jj
    simp (config := { zetaDelta := true }) only [List.forall_mem_cons] at nj
    refine cps ?_; intro Q9 hQ9; obtain ⟨nc1, nc2, nc3, nc4, nc5, -⟩ := nj; refine hQ9 ?_; clear hQ9 Q9
    replace nc1 := apart_of nc1
    replace nc2 := apart_of nc2
    replace nc3 := apart_of nc3
    replace nc4 := apart_of nc4
    replace nc5 := apart_of nc5
    k_lt lj
    (repeat' (first | ((with_reducible show wpAny _ _ (execs _ _) _ _ _); (fail_if_success (fail_if_success k_fold)); refine foldQ ?_; intro qk ek) | ((with_reducible show wpAny _ _ (exec _ _) _ _ _); (fail_if_success (fail_if_success k_fold)); refine foldQ ?_; intro qk ek; (try (refine foldN (by with_reducible assumption) ?_; intro n9 N9))) | ((with_reducible show wpAny _ _ (exec (Stmt.Assign _ (Expr.ListComp _ _ _ _) _) _) _ _ _); first | (with_reducible (k_here; (with_reducible rename StopHere => sh'); clear sh'; refine metStop ?_))) | ((with_reducible show wpAny _ _ (exec (Stmt.For (Expr.Tuple _ _ _) (Expr.Tuple _ _ _) _ _ _) _) _ _ _); first | (with_reducible (k_here; (with_reducible rename StopHere => sh'); clear sh'; refine metStop ?_))) | (k_unfold; (try dsimp only)) | (k_end; wrow_close) | (walk1; (all_goals (try dsimp only))) | (dsimp only; walk1) | (leave1; try dsimp only)))
    unfold MetStop
    rename Fr _ _ _ _ => FF
    have stp2 : StopHere := trivial
    k_dflt (refine LCg.Assign_ListComp_U (F₀ := FF) (by rfl) (by with_unfolding_all rfl) (by with_unfolding_all rfl) (by decide) (by rfl) (by decide) (by rfl) (by rfl) (by rfl) ?_)
    (repeat' (first | ((with_reducible show wpAny _ _ (execs _ _) _ _ _); (fail_if_success (fail_if_success k_fold)); refine foldQ ?_; intro qk ek) | ((with_reducible show wpAny _ _ (exec _ _) _ _ _); (fail_if_success (fail_if_success k_fold)); refine foldQ ?_; intro qk ek; (try (refine foldN (by with_reducible assumption) ?_; intro n9 N9))) | ((with_reducible show wpAny _ _ (eval (Expr.Name _ _) _) _ _ _); first | (with_reducible (k_here; name_kind "globalImplicit"; k_dflt (first | (name_is_builtin; refine' nameX_B ?F_q ?X_q ?T_q ?e_q ?v_q ?n_q ?_ ?a_q ?b_q; (case F_q => k_asm); (case X_q => k_asm); (case T_q => k_asm); (case a_q => rfl); (case b_q => rfl); (case e_q => k_is); (case v_q => boot_fast); (case n_q => decide); k_whole) | (refine' nameX_K ?F_q ?X_q ?T_q ?e_q ?_ ?a_q ?b_q; (case F_q => k_asm); (case X_q => k_asm); (case T_q => k_asm); (case a_q => rfl); (case b_q => rfl); (case e_q => k_is); k_whole))))) | (k_unfold; (try dsimp only)) | (k_end; wrow_close) | (walk1; (all_goals (try dsimp only))) | (dsimp only; walk1) | (leave1; try dsimp only)))
    unfold MetStop
    refine LCg.CompSrc.range (n := 3) (by rfl) (by k_asm) (by k_asm) (by assumption) (by first | decide | rfl) (by first | rfl | decide) (by first | size_fits | exact Nat.le_of_ble_eq_true rfl) ?_
    intro gg
    refine compL_inv 3 (FivJ j c _ _ _ _ _ _ _) ?hfin1 ?hstep1 3 0 [] _ rfl ⟨oj, oc, [], rfl, Jj, ⟨(fun _ h => nomatch h), (fun _ h => nomatch h), (fun _ h => nomatch h), (fun _ h => nomatch h), (fun _ h => nomatch h), (fun _ h => nomatch h), (fun _ h => nomatch h)⟩, rfl, (fun _ h => nomatch h)⟩
    case hstep1 =>
      intro i ys nw v I oI C oC D m2 h1 tk1 E1 hi J hv nC hx F1 N1 off ne
      refine cps ?_; intro Q9 hQ9; obtain ⟨oj2, oc2, R, eq91, Jj2, ⟨r1, r2, r3, r4, r5, r6, r7⟩, hlen, hys⟩ := J; refine hQ9 ?_; clear hQ9 Q9; subst eq91
      have off' := off
      simp only [LCg.Off3] at off
      refine cps ?_; intro Q9 hQ9; obtain ⟨⟨u1, u2, u3⟩, ⟨u4, u5, u6⟩, ⟨u7, u8, u9⟩, ⟨u10, u11, u12⟩, ⟨u13, u14, u15⟩, ⟨u16, u17, u18⟩, ⟨u19, u20, u21⟩, offR⟩ := off; refine hQ9 ?_; clear hQ9 Q9
      replace u1 := apart_of u1; replace u2 := apart_of u2; replace u3 := apart_of u3; replace u4 := apart_of u4; replace u5 := apart_of u5; replace u6 := apart_of u6; replace u7 := apart_of u7; replace u8 := apart_of u8; replace u9 := apart_of u9
      clear u10 u11 u12 u13 u14 u15 u16 u17 u18 u19 u20 u21
      refine cps ?_; intro Q9 hQ9; obtain ⟨ne1, ne2, ne3⟩ := ne; refine hQ9 ?_; clear hQ9 Q9
      replace ne1 := apart_of ne1; replace ne2 := apart_of ne2; replace ne3 := apart_of ne3
      (repeat' (first | ((with_reducible show wpAny _ _ (execs _ _) _ _ _); (fail_if_success (fail_if_success k_fold)); refine foldQ ?_; intro qk ek) | ((with_reducible show wpAny _ _ (exec _ _) _ _ _); (fail_if_success (fail_if_success k_fold)); refine foldQ ?_; intro qk ek; (try (refine foldN (by with_reducible assumption) ?_; intro n9 N9))) | ((with_reducible show wpAny _ _ (callWith _ (Value.ref _) _ _ _) _ _ _); first | (with_reducible (k_here; k_dflt (refine' callWith_K ?k1_q ?k2_q ?_; (case k1_q => k_asm); (case k2_q => k_is); k_whole)))) | ((with_reducible show wpAny _ _ (call (Value.ref _) _) _ _ _); first | (with_reducible (k_here; (with_reducible apply five_c); k_dflt (walk_at "c8"; (with_reducible assumption); (with_reducible assumption); k_updF; (intro o'; k_updF); omega; ktr_room; ktr_units; k_whole); intro r' o' g' oj' oc' h' tk' F' N' l1' G' K' J'; (try dsimp only at N'); (try dsimp only at l1'); (try k_lt l1'); (try k_sweep); (try k_fold)))) | (k_unfold; (try dsimp only)) | (k_end; wrow_close) | (walk1; (all_goals (try dsimp only))) | (dsimp only; walk1) | (leave1; try dsimp only)))
      rename Fr _ _ _ _ => FF5; rename News _ _ _ _ => NN5; rename LstG _ _ => GG; rename G5.Ok _ => KK; rename JarIs _ _ _ _ => JJ
      refine ⟨_, _, _, rfl, FF5, fiv_perm NN5, ⟨off'.1, off'.2.1, off'.2.2.1, off'.2.2.2.1, off'.2.2.2.2.1, off'.2.2.2.2.2.1, off'.2.2.2.2.2.2.1, ⟨bel_ne' (by with_reducible assumption), bel_ne' (by with_reducible assumption), bel_ne' (by with_reducible assumption)⟩, off'.2.2.2.2.2.2.2⟩, _, _, _, rfl, JJ, ⟨List.forall_mem_cons.mpr ⟨bel_ne' (by with_reducible assumption), r1⟩, List.forall_mem_cons.mpr ⟨bel_ne' (by with_reducible assumption), r2⟩, List.forall_mem_cons.mpr ⟨bel_ne' (by with_reducible assumption), r3⟩, List.forall_mem_cons.mpr ⟨bel_ne' (by with_reducible assumption), r4⟩, List.forall_mem_cons.mpr ⟨bel_ne' (by with_reducible assumption), r5⟩, List.forall_mem_cons.mpr ⟨bel_ne' (by with_reducible assumption), r6⟩, List.forall_mem_cons.mpr ⟨bel_ne' (by with_reducible assumption), r7⟩⟩, by rw [List.length_append, hlen]; rfl, fun v hv => ?_⟩
      rcases List.mem_append.mp hv with hv | hv
      · exact (hys v hv).mono fun q hq => .tail _ hq
      · rw [List.mem_singleton.mp hv]
        exact ⟨_, _, _, rfl, .head _, GG, KK⟩
    case hfin1 =>
      intro ys nw J
      refine cps ?_; intro Q9 hQ9; obtain ⟨oj2, oc2, R, eq91, Jj2, ⟨r1, r2, r3, r4, r5, r6, r7⟩, hlen, hys⟩ := J; refine hQ9 ?_; clear hQ9 Q9; subst eq91
      refine cps ?_; intro Q9 hQ9; obtain ⟨w1, w2, w3, eq91⟩ := len3 hlen; refine hQ9 ?_; clear hQ9 Q9; subst eq91
      refine cps ?_; intro Q9 hQ9; obtain ⟨a1, o1, g1, eq91, m1, G1, K1⟩ := hys w1 (.head _); refine hQ9 ?_; clear hQ9 Q9; subst eq91
      refine cps ?_; intro Q9 hQ9; obtain ⟨a2, o2, g2, eq91, m2, G2, K2⟩ := hys w2 (.tail _ (.head _)); refine hQ9 ?_; clear hQ9 Q9; subst eq91
      refine cps ?_; intro Q9 hQ9; obtain ⟨a3, o3, g3, eq91, m3, G3, K3⟩ := hys w3 (.tail _ (.tail _ (.head _))); refine hQ9 ?_; clear hQ9 Q9; subst eq91
      clear hys hlen Jj
      have stp3 : StopHere := trivial
      (repeat' (first | ((with_reducible show wpAny _ _ (execs _ _) _ _ _); (fail_if_success (fail_if_success k_fold)); refine foldQ ?_; intro qk ek) | ((with_reducible show wpAny _ _ (exec _ _) _ _ _); (fail_if_success (fail_if_success k_fold)); refine foldQ ?_; intro qk ek; (try (refine foldN (by with_reducible assumption) ?_; intro n9 N9))) | ((with_reducible show wpAny _ _ (exec (Stmt.Assign _ (Expr.ListComp _ _ _ _) _) _) _ _ _); first | (with_reducible (k_here; (with_reducible rename StopHere => sh'); clear sh'; refine metStop ?_))) | ((with_reducible show wpAny _ _ (exec (Stmt.For (Expr.Tuple _ _ _) (Expr.Tuple _ _ _) _ _ _) _) _ _ _); first | (with_reducible (k_here; (with_reducible rename StopHere => sh'); clear sh'; refine metStop ?_))) | (k_unfold; (try dsimp only)) | (k_end; wrow_close) | (walk1; (all_goals (try dsimp only))) | (dsimp only; walk1) | (leave1; try dsimp only)))
      unfold MetStop
      rename Fr _ _ _ _ => FF; rename _ ∧ _ ∧ _ ∧ _ ∧ _ ∧ _ ∧ _ ∧ LCg.Off1 _ R => o11
      refine cps ?_; intro Q9 hQ9; obtain ⟨v1, v2, v3, v4, v5, v6, v7, v8⟩ := o11; refine hQ9 ?_; clear hQ9 Q9
      replace v1 := apart_of v1; replace v2 := apart_of v2; replace v3 := apart_of v3; replace v4 := apart_of v4; replace v5 := apart_of v5; replace v6 := apart_of v6; replace v7 := apart_of v7
      replace v8 := off1_mem v8
      have FF2 := fr_congr FF (shapeL_in rfl)
      clear FF
      rename Below callerA _ [] _ => BB; rename (Mine.hd.heap_1 w.params).In _ => XX; rename Top _ _ _ _ _ _ => TP
      refine For_tupX FF2 rfl (Rl := RlD [] callerA _ [] (Mine.hd.heap_1 w.params) _ _ _ _ _ _) (fun _ h b e => h.1.none_ b e) ⟨KtsTurn.refl, BB, XX, TP, ktsDicts_nil⟩ ?_
      (repeat' (first | ((with_reducible show wpAny _ _ (execs _ _) _ _ _); (fail_if_success (fail_if_success k_fold)); refine foldQ ?_; intro qk ek) | ((with_reducible show wpAny _ _ (exec _ _) _ _ _); (fail_if_success (fail_if_success k_fold)); refine foldQ ?_; intro qk ek; (try (refine foldN (by with_reducible assumption) ?_; intro n9 N9))) | ((with_reducible show wpAny _ _ (subscriptTail (Expr.Subscript (Expr.Name _ _) (Expr.Constant _ _ _) _) (Expr.Constant _ _ _) (Value.ref _) (Value.int _ _)) _ _ _); first | (with_reducible (k_here; (with_reducible show wpAny _ _ (subscriptTail _ _ (Value.ref _) (Value.int _ _)) _ _ _); k_dflt (refine' item_lit ?h0_q ?h1_q ?k1_q ?k2_q ?k3_q ?_ ?k4_q; (case h0_q => decide); (case h1_q => decide); (case k1_q => k_asm); (case k2_q => k_mem); (case k3_q => exact rfl); (case k4_q => with_unfolding_all rfl); k_whole)))) | ((with_reducible show wpAny _ _ (subscriptTail (Expr.Name _ _) (Expr.Constant _ _ _) (Value.ref _) (Value.int _ _)) _ _ _); first | (with_reducible (k_here; (with_reducible show wpAny _ _ (subscriptTail _ _ (Value.ref _) (Value.int _ _)) _ _ _); k_dflt (refine' item_lit ?h0_q ?h1_q ?k1_q ?k2_q ?k3_q ?_ ?k4_q; (case h0_q => decide); (case h1_q => decide); (case k1_q => k_asm); (case k2_q => k_mem); (case k3_q => exact rfl); (case k4_q => with_unfolding_all rfl); k_whole)))) | ((with_reducible show wpAny _ _ (newTuple _) _ _ _); first | (with_reducible (k_here; k_dflt (refine' newTuple_V ?F_q ?N_q ?_ ?z_q; (case F_q => k_asm); (case N_q => k_asm); (case z_q => kmk_size)); intro D' h' o' n' F' N' l1; (try k_lt l1); (try k_sweep)))) | ((with_reducible show wpAny _ _ (eval (Expr.Name _ _) _) _ _ _); first | (with_reducible (k_here; name_kind "local"; k_dflt (refine' nameX_L ?F_q ?v_q ?_ ?a_q ?b_q; (case F_q => k_asm); (case a_q => rfl); (case b_q => rfl); (case v_q => rfl); k_whole)))) | (k_unfold; (try dsimp only)) | (k_end; wrow_close) | (walk1; (all_goals (try dsimp only))) | (dsimp only; walk1) | (leave1; try dsimp only)))
      rename Fr _ _ _ _ => FF4; rename News _ _ _ _ => NN4
      replace NN4 := law_perm NN4
      refine SrcF.mk (its := [_, _, _]) FF4 NN4 (by k_mem) ?_
      intro gg2
      refine forX_inv (LawJ (ghostOf s1.heap [(364, 362), (359, 355), (374, 372)]) (Mine.hd.heap_1 w.params) _ _ _ _ _ j c _ _ _ _ _ _) ?hdone2 ?hstep2 _ _ _ _ ⟨⟨KtsTurn.refl, BB, XX, TP, ktsDicts_nil⟩, oj2, oc2, _, #[], #[], [], [], _, 24, _, _, _, rfl, rfl, Jj2, Nat.le_of_ble_eq_true rfl, ⟨List.forall_mem_cons.mpr ⟨by k_ne, List.forall_mem_cons.mpr ⟨by k_ne, List.forall_mem_cons.mpr ⟨by k_ne, List.forall_mem_cons.mpr ⟨by k_ne, List.forall_mem_cons.mpr ⟨by k_ne, r1⟩⟩⟩⟩⟩, List.forall_mem_cons.mpr ⟨by k_ne, List.forall_mem_cons.mpr ⟨by k_ne, List.forall_mem_cons.mpr ⟨by k_ne, List.forall_mem_cons.mpr ⟨by k_ne, List.forall_mem_cons.mpr ⟨by k_ne, r2⟩⟩⟩⟩⟩, List.forall_mem_cons.mpr ⟨by k_ne, List.forall_mem_cons.mpr ⟨by k_ne, List.forall_mem_cons.mpr ⟨by k_ne, List.forall_mem_cons.mpr ⟨by k_ne, List.forall_mem_cons.mpr ⟨by k_ne, r3⟩⟩⟩⟩⟩, List.forall_mem_cons.mpr ⟨by k_ne, List.forall_mem_cons.mpr ⟨by k_ne, List.forall_mem_cons.mpr ⟨by k_ne, List.forall_mem_cons.mpr ⟨by k_ne, List.forall_mem_cons.mpr ⟨by k_ne, r4⟩⟩⟩⟩⟩, List.forall_mem_cons.mpr ⟨by k_ne, List.forall_mem_cons.mpr ⟨by k_ne, List.forall_mem_cons.mpr ⟨by k_ne, List.forall_mem_cons.mpr ⟨by k_ne, List.forall_mem_cons.mpr ⟨by k_ne, r5⟩⟩⟩⟩⟩, List.forall_mem_cons.mpr ⟨by k_ne, List.forall_mem_cons.mpr ⟨by k_ne, List.forall_mem_cons.mpr ⟨by k_ne, List.forall_mem_cons.mpr ⟨by k_ne, List.forall_mem_cons.mpr ⟨by k_ne, r6⟩⟩⟩⟩⟩, List.forall_mem_cons.mpr ⟨by k_ne, List.forall_mem_cons.mpr ⟨by k_ne, List.forall_mem_cons.mpr ⟨by k_ne, List.forall_mem_cons.mpr ⟨by k_ne, List.forall_mem_cons.mpr ⟨by k_ne, r7⟩⟩⟩⟩⟩⟩, ⟨_, by assumption⟩, TabGood.nil, (fun _ h => nomatch h), TabGood.nil, (fun _ h => nomatch h), (fun _ h => h), ?hpairs2⟩
      case hpairs2 =>
        simp only [List.forall_mem_cons]
        exact ⟨⟨_, a1, a2, _, _, _, _, rfl, by k_mem, by k_mem, G1, K1, by k_mem, G2, K2⟩, ⟨_, a2, a3, _, _, _, _, rfl, by k_mem, by k_mem, G2, K2, by k_mem, G3, K3⟩, ⟨_, a3, a3, _, _, _, _, rfl, by k_mem, by k_mem, G3, K3, by k_mem, G3, K3⟩, fun _ h => nomatch h⟩
      case hdone2 =>
        clear FF4 NN4 Jj2 v8 v1 v2 v3 v4 v5 v6 v7 r1 r2 r3 r4 r5 r6 r7
        intro m1x g1x nw h1 tk1 J F1 N1
        refine cps ?_; intro Q9 hQ9; obtain ⟨⟨TTr, Br, Xr, Tr, Dr⟩, oj3, oc3, of3, p2, p3, cods, codl, R3, k, q1, q2, q3, eq91, eq92, Jj3, hk3, ⟨r1, r2, r3, r4, r5, r6, r7⟩, ⟨vcf, hcf⟩, GT2, hs2, GT3, hs3, hneed, hpv⟩ := J; refine hQ9 ?_; clear hQ9 Q9; subst eq91; subst eq92
        rw [List.length_nil] at hk3
        clear hpv
        have stp4 : StopHere := trivial
        dsimp only
        (repeat' (first | ((with_reducible show wpAny _ _ (execs _ _) _ _ _); (fail_if_success (fail_if_success k_fold)); refine foldQ ?_; intro qk ek) | ((with_reducible show wpAny _ _ (exec _ _) _ _ _); (fail_if_success (fail_if_success k_fold)); refine foldQ ?_; intro qk ek; (try (refine foldN (by with_reducible assumption) ?_; intro n9 N9))) | ((with_reducible show wpAny _ _ (exec (Stmt.Assign _ (Expr.ListComp _ _ _ _) _) _) _ _ _); first | (with_reducible (k_here; (with_reducible rename StopHere => sh'); clear sh'; refine metStop ?_))) | ((with_reducible show wpAny _ _ (exec (Stmt.For (Expr.Tuple _ _ _) (Expr.Tuple _ _ _) _ _ _) _) _ _ _); first | (with_reducible (k_here; (with_reducible rename StopHere => sh'); clear sh'; refine metStop ?_))) | (k_unfold; (try dsimp only)) | (k_end; wrow_close) | (walk1; (all_goals (try dsimp only))) | (dsimp only; walk1) | (leave1; try dsimp only)))
        unfold MetStop
        rename Fr _ _ _ _ => FF
        have stp5 : StopHere := trivial
        k_dflt (refine LCg.Assign_ListComp_U (F₀ := FF) (by rfl) (by with_unfolding_all rfl) (by with_unfolding_all rfl) (by decide) (by rfl) (by decide) (by rfl) (by rfl) (by rfl) ?_)
        (repeat' (first | ((with_reducible show wpAny _ _ (execs _ _) _ _ _); (fail_if_success (fail_if_success k_fold)); refine foldQ ?_; intro qk ek) | ((with_reducible show wpAny _ _ (exec _ _) _ _ _); (fail_if_success (fail_if_success k_fold)); refine foldQ ?_; intro qk ek; (try (refine foldN (by with_reducible assumption) ?_; intro n9 N9))) | ((with_reducible show wpAny _ _ (callWith _ (Value.ref _) _ _ _) _ _ _); first | (with_reducible (k_here; k_dflt (refine' callWith_K ?k1_q ?k2_q ?_; (case k1_q => k_asm); (case k2_q => k_is); k_whole)))) | ((with_reducible show wpAny _ _ (call (Value.ref _) _) _ _ _); first | (with_reducible (k_here; (with_reducible apply take_c); k_dflt (walk_at "c8"; (with_reducible assumption); (with_reducible assumption); k_updF; (intro o'; k_updF); omega; decide; decide; ktr_room; ktr_units; k_whole); intro v' t' oj' oc' h' tk' F' N' v0' v1' J'; (try dsimp only at N'); (try k_sweep); (try k_fold)))) | ((with_reducible show wpAny _ _ (eval (Expr.Name _ _) _) _ _ _); first | (with_reducible (k_here; name_kind "globalImplicit"; k_dflt (first | (name_is_builtin; refine' nameX_B ?F_q ?X_q ?T_q ?e_q ?v_q ?n_q ?_ ?a_q ?b_q; (case F_q => k_asm); (case X_q => k_asm); (case T_q => k_asm); (case a_q => rfl); (case b_q => rfl); (case e_q => k_is); (case v_q => boot_fast); (case n_q => decide); k_whole) | (refine' nameX_K ?F_q ?X_q ?T_q ?e_q ?_ ?a_q ?b_q; (case F_q => k_asm); (case X_q => k_asm); (case T_q => k_asm); (case a_q => rfl); (case b_q => rfl); (case e_q => k_is); k_whole))))) | (k_unfold; (try dsimp only)) | (k_end; wrow_close) | (walk1; (all_goals (try dsimp only))) | (dsimp only; walk1) | (leave1; try dsimp only)))
        unfold MetStop
        rename Int => vn
        rename JarIs (k + 1) c _ _ => JP
        refine LCg.CompSrc.range (n := (vn - 0).toNat) (by rfl) (by k_asm) (by k_asm) (by assumption) (small_one (a := 0) (b := vn) (by decide) (by decide) (by omega) (by omega)) (rangeSize_nat 0 vn) (Nat.le_trans (by omega : _ ≤ 9) (Nat.le_of_ble_eq_true rfl)) ?_
        intro gg5
        refine compL_inv (vn - 0).toNat (PlanJ j c _ _ _ _ _ _ _ (k + 1) R3) ?hfin5 ?hstep5 (vn - 0).toNat 0 [] _ (Nat.zero_add _) ⟨_, _, R3, rfl, JP, ⟨r1, r2, r3, r4, r5, r6, r7⟩, rfl, fun _ h => h, (fun _ h => nomatch h)⟩
        case hstep5 =>
          intro i ys nw v I oI C oC D m2 h2 tk2 E1 hi J hv nC hx F2 N2 off ne
          refine cps ?_; intro Q9 hQ9; obtain ⟨oj6, oc6, R6, eq91, Jj6, ⟨r1, r2, r3, r4, r5, r6, r7⟩, hlen, hneed6, hys⟩ := J; refine hQ9 ?_; clear hQ9 Q9; subst eq91
          have off' := off
          simp only [LCg.Off3] at off
          refine cps ?_; intro Q9 hQ9; obtain ⟨⟨u1, u2, u3⟩, ⟨u4, u5, u6⟩, ⟨u7, u8, u9⟩, ⟨u10, u11, u12⟩, ⟨u13, u14, u15⟩, ⟨u16, u17, u18⟩, ⟨u19, u20, u21⟩, offR⟩ := off; refine hQ9 ?_; clear hQ9 Q9
          replace u1 := apart_of u1; replace u2 := apart_of u2; replace u3 := apart_of u3; replace u4 := apart_of u4; replace u5 := apart_of u5; replace u6 := apart_of u6; replace u7 := apart_of u7; replace u8 := apart_of u8; replace u9 := apart_of u9
          clear u10 u11 u12 u13 u14 u15 u16 u17 u18 u19 u20 u21
          refine cps ?_; intro Q9 hQ9; obtain ⟨ne1, ne2, ne3⟩ := ne; refine hQ9 ?_; clear hQ9 Q9
          replace ne1 := apart_of ne1; replace ne2 := apart_of ne2; replace ne3 := apart_of ne3
          (repeat' (first | ((with_reducible show wpAny _ _ (execs _ _) _ _ _); (fail_if_success (fail_if_success k_fold)); refine foldQ ?_; intro qk ek) | ((with_reducible show wpAny _ _ (exec _ _) _ _ _); (fail_if_success (fail_if_success k_fold)); refine foldQ ?_; intro qk ek; (try (refine foldN (by with_reducible assumption) ?_; intro n9 N9))) | ((with_reducible show wpAny _ _ (callWith _ (Value.ref _) _ _ _) _ _ _); first | (with_reducible (k_here; k_dflt (refine' callWith_K ?k1_q ?k2_q ?_; (case k1_q => k_asm); (case k2_q => k_is); k_whole)))) | ((with_reducible show wpAny _ _ (call (Value.ref _) _) _ _ _); first | (with_reducible (k_here; (with_reducible apply take_c); k_dflt (walk_at "c8"; (with_reducible assumption); (with_reducible assumption); k_updF; (intro o'; k_updF); omega; decide; decide; ktr_room; ktr_units; k_whole); intro v' t' oj' oc' h' tk' F' N' v0' v1' J'; (try dsimp only at N'); (try k_sweep); (try k_fold)))) | ((with_reducible show wpAny _ _ (newTuple _) _ _ _); first | (with_reducible (k_here; k_dflt (refine' newTuple_V ?F_q ?N_q ?_ ?z_q; (case F_q => k_asm); (case N_q => k_asm); (case z_q => kmk_size)); intro D' h' o' n' F' N' l1; (try k_lt l1); (try k_sweep)))) | (k_unfold; (try dsimp only)) | (k_end; wrow_close) | (walk1; (all_goals (try dsimp only))) | (dsimp only; walk1) | (leave1; try dsimp only)))
          rename Fr _ _ _ _ => FF6; rename News _ _ _ _ => NN6; rename JarIs _ c _ _ => JJ6
          refine ⟨_, _, _, rfl, FF6, fiv_perm NN6, ⟨off'.1, off'.2.1, off'.2.2.1, off'.2.2.2.1, off'.2.2.2.2.1, off'.2.2.2.2.2.1, off'.2.2.2.2.2.2.1, ⟨bel_ne' (by with_reducible assumption), bel_ne' (by with_reducible assumption), bel_ne' (by with_reducible assumption)⟩, off'.2.2.2.2.2.2.2⟩, _, _, _, rfl, JJ6, ⟨List.forall_mem_cons.mpr ⟨bel_ne' (by with_reducible assumption), r1⟩, List.forall_mem_cons.mpr ⟨bel_ne' (by with_reducible assumption), r2⟩, List.forall_mem_cons.mpr ⟨bel_ne' (by with_reducible assumption), r3⟩, List.forall_mem_cons.mpr ⟨bel_ne' (by with_reducible assumption), r4⟩, List.forall_mem_cons.mpr ⟨bel_ne' (by with_reducible assumption), r5⟩, List.forall_mem_cons.mpr ⟨bel_ne' (by with_reducible assumption), r6⟩, List.forall_mem_cons.mpr ⟨bel_ne' (by with_reducible assumption), r7⟩⟩, by rw [List.length_append, hlen]; rfl, fun q hq => .tail _ (hneed6 q hq), fun v hv => ?_⟩
          rcases List.mem_append.mp hv with hv | hv
          · exact (hys v hv).mono fun q hq => .tail _ hq
          · rw [List.mem_singleton.mp hv]
            exact ⟨_, _, _, _, _, rfl, .head _, by omega, by omega, by omega, by omega⟩
        case hfin5 =>
          intro ys nw J
          refine cps ?_; intro Q9 hQ9; obtain ⟨oj6, oc6, R6, eq91, Jj6, ⟨r1, r2, r3, r4, r5, r6, r7⟩, hlen, hneed6, hys⟩ := J; refine hQ9 ?_; clear hQ9 Q9; subst eq91
          have hfv := hneed6 _ (hneed _ (.tail _ (.tail _ (.tail _ (.tail _ (.head _))))))
          have ha1 := hneed6 _ (hneed _ (.tail _ (.tail _ (.tail _ (.tail _ (.tail _ m1))))))
          have ha2 := hneed6 _ (hneed _ (.tail _ (.tail _ (.tail _ (.tail _ (.tail _ m2))))))
          have ha3 := hneed6 _ (hneed _ (.tail _ (.tail _ (.tail _ (.tail _ (.tail _ m3))))))
          have n362 := r5 _ ha1
          dsimp only at n362
          have len8 : ys.length ≤ 8 := by omega
          have G1' := G1
          unfold LCg.FinA
          intro D7 h7 tk7 F7 N7 o17
          simp only [LCg.Off1] at o17
          refine cps ?_; intro Q9 hQ9; obtain ⟨w1, w2, w3, w4, w5, w6, w7, w8⟩ := o17; refine hQ9 ?_; clear hQ9 Q9
          replace w5 := apart_of w5
          clear w1 w2 w3 w4 w6 w7 w8
          dsimp only
          (repeat' (first | ((with_reducible show wpAny _ _ (execs _ _) _ _ _); (fail_if_success (fail_if_success k_fold)); refine foldQ ?_; intro qk ek) | ((with_reducible show wpAny _ _ (exec _ _) _ _ _); (fail_if_success (fail_if_success k_fold)); refine foldQ ?_; intro qk ek; (try (refine foldN (by with_reducible assumption) ?_; intro n9 N9))) | ((with_reducible show wpAny _ _ (call (Value.ref _) _) _ _ _); first | (with_reducible (k_here; (with_reducible apply totals0); k_dflt (walk_at "c8"; k_mem; k_mem; k_mem; k_mem; (with_reducible assumption); (with_reducible assumption); (with_reducible assumption); (with_reducible assumption); (with_reducible assumption); (with_reducible assumption); k_mem; (intro v' hv'; refine PlanV.ex (PlanV.mono ?_ (by (with_reducible rename ∀ v ∈ _, PlanV _ v => hy'); exact hy' v' hv')); intro q' hq'; repeat (first | exact hq' | refine List.mem_cons_of_mem _ ?_)); (with_reducible assumption); ktr_room; ktr_units; k_whole); intro h' tk' F' N'; (try k_sweep); (try k_fold))) | (with_reducible (k_here; (with_reducible show wpAny _ _ (call (Value.ref 365) _) _ _ _); k_dflt (refine' wp_at_top ?tA_q ?tH_q ?_; (case tA_q => exact rfl); (case tH_q => exact rfl); refine' doors_c (cods := []) ?k1_q ?k2_q ?k3_q ?k4_q ?k5_q ?kK_q ?XB_q ?TB_q ?D_q ?U_q ?m1_q ?ho_q ?ok_q ?n1_q TabGood.nil (fun _ h => nomatch h) (fun _ h => nomatch h) ?CH_q ?kd_q ?ku_q ?_; (case k1_q => k_asm); (case k2_q => k_asm); (case k3_q => k_asm); (case k4_q => k_asm); (case k5_q => k_asm); (case kK_q => first | exact rfl | assumption); (case XB_q => assumption); (case TB_q => assumption); (case D_q => assumption); (case U_q => k_updF); (case m1_q => k_mem); (case ho_q => with_reducible assumption); (case ok_q => with_reducible assumption); (case n1_q => with_reducible assumption); (case CH_q => assumption); (case kd_q => ktr_room); (case ku_q => ktr_units); k_whole); intro ps' hh' h' tk' TT' F' N' B' X' T' D'; (try dsimp only at N'); (try k_fold)))) | ((with_reducible show wpAny _ _ (callWith _ (Value.ref _) _ _ _) _ _ _); first | (with_reducible (k_here; k_dflt (refine' callWith_K ?k1_q ?k2_q ?_; (case k1_q => k_asm); (case k2_q => k_is); k_whole)))) | ((with_reducible show wpAny _ _ (subscriptTail (Expr.Subscript (Expr.Name _ _) (Expr.Constant _ _ _) _) (Expr.Constant _ _ _) (Value.ref _) (Value.int _ _)) _ _ _); first | (with_reducible (k_here; (with_reducible show wpAny _ _ (subscriptTail _ _ (Value.ref _) (Value.int _ _)) _ _ _); k_dflt (refine' item_lit ?h0_q ?h1_q ?k1_q ?k2_q ?k3_q ?_ ?k4_q; (case h0_q => decide); (case h1_q => decide); (case k1_q => k_asm); (case k2_q => k_mem); (case k3_q => exact rfl); (case k4_q => with_unfolding_all rfl); k_whole)))) | ((with_reducible show wpAny _ _ (subscriptTail (Expr.Name _ _) (Expr.Constant _ _ _) (Value.ref _) (Value.int _ _)) _ _ _); first | (with_reducible (k_here; (with_reducible show wpAny _ _ (subscriptTail _ _ (Value.ref _) (Value.int _ _)) _ _ _); k_dflt (refine' item_lit ?h0_q ?h1_q ?k1_q ?k2_q ?k3_q ?_ ?k4_q; (case h0_q => decide); (case h1_q => decide); (case k1_q => k_asm); (case k2_q => k_mem); (case k3_q => exact rfl); (case k4_q => with_unfolding_all rfl); k_whole)))) | ((with_reducible show wpAny _ _ (eval (Expr.Name _ _) _) _ _ _); first | (with_reducible (k_here; name_kind "globalImplicit"; k_dflt (first | (name_is_builtin; refine' nameX_B ?F_q ?X_q ?T_q ?e_q ?v_q ?n_q ?_ ?a_q ?b_q; (case F_q => k_asm); (case X_q => k_asm); (case T_q => k_asm); (case a_q => rfl); (case b_q => rfl); (case e_q => k_is); (case v_q => boot_fast); (case n_q => decide); k_whole) | (refine' nameX_K ?F_q ?X_q ?T_q ?e_q ?_ ?a_q ?b_q; (case F_q => k_asm); (case X_q => k_asm); (case T_q => k_asm); (case a_q => rfl); (case b_q => rfl); (case e_q => k_is); k_whole)))) | (with_reducible (k_here; name_kind "local"; k_dflt (refine' nameX_L ?F_q ?v_q ?_ ?a_q ?b_q; (case F_q => k_asm); (case a_q => rfl); (case b_q => rfl); (case v_q => rfl); k_whole)))) | (k_unfold; (try dsimp only)) | (k_end; wrow_close) | (walk1; (all_goals (try dsimp only))) | (dsimp only; walk1) | (leave1; try dsimp only)))
          rename KtsTurn _ g1x _ => TTy; rename Fr _ _ _ _ => FFz
          have TTz := KtsTurn.trans TTr TTy
          have FFb : Fr (ghostOf s1.heap [(364, 362), (359, 355), (374, 372)]) _ _ _ := ⟨FFz.ns, fun b o e => FFz.keep b o (TTz.other b o e (fun h => nomatch h)), TTz.size ▸ FFz.above⟩
          clear FFz
          exact law_good rfl FFb (by with_reducible assumption) rfl
      case hstep2 =>
        clear FF4 NN4 Jj2 v8 v1 v2 v3 v4 v5 v6 v7 r1 r2 r3 r4 r5 r6 r7
        intro v vs' m1x g1x nw I oI h1 tk1 J F1 N1 off
        refine cps ?_; intro Q9 hQ9; obtain ⟨⟨TTr, Br, Xr, Tr, Dr⟩, oj3, oc3, of3, p2, p3, cods, codl, R3, k, q1, q2, q3, eq91, eq92, Jj3, hk3, ⟨r1, r2, r3, r4, r5, r6, r7⟩, ⟨vcf, hcf⟩, GT2, hs2, GT3, hs3, hneed, hpv⟩ := J; refine hQ9 ?_; clear hQ9 Q9; subst eq91; subst eq92
        refine cps ?_; intro Q9 hQ9; obtain ⟨t4, x1, x2, ox1, ox2, gx1, gx2, eq91, hm1, hm2, LG1, OK1, hm3, LG2, OK2⟩ := hpv v (.head _); refine hQ9 ?_; clear hQ9 Q9; subst eq91
        have hm1' := hneed _ hm1
        have hm2' := hneed _ hm2
        have hm3' := hneed _ hm3
        simp only [List.forall_mem_cons] at off
        refine cps ?_; intro Q9 hQ9; obtain ⟨i1, i2, i3, i4, i5, i6, i7, i8⟩ := off; refine hQ9 ?_; clear hQ9 Q9
        replace i1 := apart_of i1; replace i2 := apart_of i2; replace i3 := apart_of i3; replace i4 := apart_of i4; replace i5 := apart_of i5; replace i6 := apart_of i6; replace i7 := apart_of i7
        have hc2 : ∀ q ∈ cods, @Ne Nat q.1 355 := fun q hq => r6 q (hs2 q hq)
        have hc3 : ∀ q ∈ codl, @Ne Nat q.1 372 := fun q hq => r7 q (hs3 q hq)
        rw [List.length_cons] at hk3
        have LG1' := LG1
        refine LstG.elim LG1 ?_; intro e1 e2 e3 e4 e5 n5 eq91; subst eq91
        have OKn := OK1
        unfold G5.Ok MX at OKn
        refine cps ?_; intro Q9 hQ9; obtain ⟨b11, b12, b13, b14, b15, b16, b17, b18, b19, b20⟩ := OKn; refine hQ9 ?_; clear hQ9 Q9
        have a380 : ∀ (q : Addr × Obj) (led : List (Addr × Obj)) (t : Nat), (q ∈ codl ∨ ∀ z ∈ led, z.1 < q.1) → (∀ p ∈ R3, @Ne Nat p.1 t) → (∃ o, ((t : Addr), o) ∈ led) → Apart q.1 t := fun q led t hx hr ho => hx.elim (fun h => hr q (hs3 q h)) fun h => ho.elim fun o ho => Nat.ne_of_gt (h _ ho)
        (repeat' (first | ((with_reducible show wpAny _ _ (execs _ _) _ _ _); (fail_if_success (fail_if_success k_fold)); refine foldQ ?_; intro qk ek) | ((with_reducible show wpAny _ _ (exec _ _) _ _ _); (fail_if_success (fail_if_success k_fold)); refine foldQ ?_; intro qk ek; (try (refine foldN (by with_reducible assumption) ?_; intro n9 N9))) | ((with_reducible show wpAny _ _ (call (Value.ref _) _) _ _ _); first | (with_reducible (k_here; (with_reducible show wpAny _ _ (call (Value.ref 339) _) _ _ _); refine metStop ?_)) | (with_reducible (k_here; (with_reducible apply take_c); k_dflt (walk_at "c8"; (with_reducible assumption); (with_reducible assumption); k_updF; (intro o'; k_updF); omega; decide; decide; ktr_room; ktr_units; k_whole); intro v' t' oj' oc' h' tk' F' N' v0' v1' J'; (try dsimp only at N'); (try k_sweep); (try k_fold)))) | ((with_reducible show wpAny _ _ (eval (Expr.Lambda _ _ _ _) _) _ _ _); first | (with_reducible (k_here; k_dflt (refine' kla_eval ?d0_q ?_; (case d0_q => exact rfl)); k_dflt (refine' kla_any ?F_q ?N_q ?T_q ?C_q ?cd_q ?U_q ?G_q ?hq_q ?sub_q ?ne_q ?cl_q ?_; (case F_q => k_asm); (case N_q => k_asm); (case T_q => k_asm); (case cd_q => exact rfl); (case C_q => kn_code); (case U_q => k_updF); (case G_q => with_reducible assumption); (case hq_q => first | exact rfl | decide +kernel); (case sub_q => (repeat (refine' List.forall_mem_cons.mpr ⟨?ma_q, ?_⟩; (case ma_q => k_mem))); intro q' hq'; (repeat (refine List.mem_cons_of_mem _ ?_)); revert q' hq'; with_reducible assumption); (case ne_q => (repeat (refine' List.forall_mem_cons.mpr ⟨apart_ne ?ma_q, ?_⟩; (case ma_q => first | with_reducible assumption | (dsimp only; with_reducible assumption)))); assumption); (case cl_q => exact rfl); k_whole); intro f' c' oc' vs' t' ct' ps' h' tk' F' N' d1' d2' G' l1' a1' a2' x'; (try dsimp only at N'); (refine foldO N' ?_; clear N'; intro o9 n9 N'); (try k_lt l1'); (try k_sweep); (try k_fold)))) | ((with_reducible show wpAny _ _ (callWith _ (Value.ref _) _ _ _) _ _ _); first | (with_reducible (k_here; k_dflt (refine' callWith_K ?k1_q ?k2_q ?_; (case k1_q => k_asm); (case k2_q => k_is); k_whole)))) | ((with_reducible show wpAny _ _ (newTuple _) _ _ _); first | (with_reducible (k_here; k_dflt (refine' newTuple_V ?F_q ?N_q ?_ ?z_q; (case F_q => k_asm); (case N_q => k_asm); (case z_q => kmk_size)); intro D' h' o' n' F' N' l1; (try k_lt l1); (try k_sweep)))) | ((with_reducible show wpAny _ _ (storeName _ _ _) _ _ _); first | (with_reducible (k_here; k_dflt (refine' storeX_V ?F_q ?N_q ?_ ?a_q ?b_q; (case F_q => k_asm); (case N_q => k_asm); (case a_q => rfl); (case b_q => rfl); k_whole; intro h' tk' m' F' N'; (try k_sweep))))) | ((with_reducible show wpAny _ _ (eval (Expr.Name _ _) _) _ _ _); first | (with_reducible (k_here; name_kind "globalImplicit"; k_dflt (first | (name_is_builtin; refine' nameX_B ?F_q ?X_q ?T_q ?e_q ?v_q ?n_q ?_ ?a_q ?b_q; (case F_q => k_asm); (case X_q => k_asm); (case T_q => k_asm); (case a_q => rfl); (case b_q => rfl); (case e_q => k_is); (case v_q => boot_fast); (case n_q => decide); k_whole) | (refine' nameX_K ?F_q ?X_q ?T_q ?e_q ?_ ?a_q ?b_q; (case F_q => k_asm); (case X_q => k_asm); (case T_q => k_asm); (case a_q => rfl); (case b_q => rfl); (case e_q => k_is); k_whole))))) | (k_unfold; (try dsimp only)) | (k_end; wrow_close) | (walk1; (all_goals (try dsimp only))) | (dsimp only; walk1) | (leave1; try dsimp only)))
        unfold MetStop
        k_dflt (refine' wp_at_top ?tA ?tH ?_; (case tA => exact rfl); (case tH => exact rfl); refine' met_c (bd := 60) (bu := 700) (res := resOf gx1) ?k1 ?k2 ?k3 ?k4 ?k5 ?kK ?XB ?TB ?D ?hn ?hm ?S ?kd ?ku ?kd2 ?ku2 ?_; (case k1 => k_asm); (case k2 => k_asm); (case k3 => k_asm); (case k4 => k_asm); (case k5 => k_asm); (case kK => exact rfl); (case XB => assumption); (case TB => assumption); (case D => assumption); (case hn => exact fun _ h => h); (case hm => k_mem); (case kd => ktr_room); (case ku => ktr_units); (case kd2 => ktr_room); (case ku2 => ktr_units))
        case S =>
          intro dp' un' gd' cn' cs' a' ccd' cl' outer' A0' h0' L2' m' news' s' Q' E' B2' F2' X2' N2' T2' hk' hn' hd' hu' hret' hr57 hr45
          refine wpAny_call ?_
          k_dflt (refine' kla_code ?k1 ?k2 ?k3 ?k4 ?k5 ?kA ?kF ?kK ?k6 ?k7 ?k8 ?k9 ?kB ?_ ?c2 ?c3 ?c4 ?c5; (case kA => exact rfl); (case kF => exact rfl); (case kK => exact hk'); (case k1 => k_asm); (case k2 => k_asm); (case k3 => k_asm); (case k4 => k_asm); (case k5 => k_asm); (case k6 => k_mem); (case k7 => exact codeRec_news (by k_asm) (by k_mem) (by assumption) (by assumption)); (case k8 => ktr_room); (case k9 => exact rfl); (case c5 => decide); (case kB => exact locs rfl); (case c2 => exact rfl); (case c3 => exact rfl); (case c4 => exact rfl); k_whole; intro g3' L3' h3' FG3' F3' N3' B3' X3' T3'; (try k_lift B3'); (refine foldM F3' ?_; clear F3'; intro m9 F3'); (try first | (with_reducible refine foldA ?_; intro A9 d9 u9) | (with_reducible refine foldAu ?_; intro A9 d9 u9)); (try (refine foldE ?_; intro e9)); (try k_unmd); (try (refine foldQ ?_; intro qk ek)); (try dsimp only))
          have kd := ktsDicts_nil (g := g3')
          (repeat' (first | ((with_reducible show wpAny _ _ (execs _ _) _ _ _); (fail_if_success (fail_if_success k_fold)); refine foldQ ?_; intro qk ek) | ((with_reducible show wpAny _ _ (exec _ _) _ _ _); (fail_if_success (fail_if_success k_fold)); refine foldQ ?_; intro qk ek; (try (refine foldN (by with_reducible assumption) ?_; intro n9 N9))) | ((with_reducible show wpAny _ _ (callWith _ (Value.ref _) _ _ _) _ _ _); first | (with_reducible (k_here; k_dflt (refine' callWith_K ?k1_q ?k2_q ?_; (case k1_q => k_asm); (case k2_q => k_is); k_whole)))) | ((with_reducible show wpAny _ _ (leaving _ (Value.ref _)) _ _ _); first | (with_reducible (k_here; (with_reducible rename RaisedSN _ _ _ _ _ _ _ => rs9); k_dflt (refine' leave_onX ?k0_q ?k1_q ?k2_q ?k3_q ?k4_q ?_; (case k0_q => exact rfl); (case k3_q => assumption); (case k2_q => assumption); (case k1_q => assumption); (case k4_q => assumption); k_whole; intro h' S' R' U'; (try dsimp only at S' R' U' ⊢); (try dsimp only [InitBack]))))) | ((with_reducible show wpAny _ _ (subscriptTail (Expr.Subscript (Expr.Name _ _) (Expr.Constant _ _ _) _) (Expr.Constant _ _ _) (Value.ref _) (Value.int _ _)) _ _ _); first | (with_reducible (k_here; (with_reducible show wpAny _ _ (subscriptTail _ _ (Value.ref _) (Value.int _ _)) _ _ _); k_dflt (refine' item_lit ?h0_q ?h1_q ?k1_q ?k2_q ?k3_q ?_ ?k4_q; (case h0_q => decide); (case h1_q => decide); (case k1_q => k_asm); (case k2_q => k_mem); (case k3_q => exact rfl); (case k4_q => with_unfolding_all rfl); k_whole)))) | ((with_reducible show wpAny _ _ (subscriptTail (Expr.Name _ _) (Expr.Constant _ _ _) (Value.ref _) (Value.int _ _)) _ _ _); first | (with_reducible (k_here; (with_reducible show wpAny _ _ (subscriptTail _ _ (Value.ref _) (Value.int _ _)) _ _ _); k_dflt (refine' item_lit ?h0_q ?h1_q ?k1_q ?k2_q ?k3_q ?_ ?k4_q; (case h0_q => decide); (case h1_q => decide); (case k1_q => k_asm); (case k2_q => k_mem); (case k3_q => exact rfl); (case k4_q => with_unfolding_all rfl); k_whole)))) | ((with_reducible show wpAny _ _ (call (Value.ref _) _) _ _ _); first | (with_reducible (k_here; (with_reducible apply glue_c); k_dflt (walk_at "c8"; (first | with_reducible assumption | omega); (first | with_reducible assumption | omega); (first | with_reducible assumption | omega); (first | with_reducible assumption | omega); ktr_room; ktr_units; all_goals (first | (refine fun (x' : Addr) (dx' : Addr) o' (h' : Heap) tk' F' N' l1' l2' G' K' => ?_; (try k_lt l1'); (try k_lt2 l2'); (try k_sweep); (try k_fold)) | (refine fun (e' : Addr) (g' : Heap) (h' : Heap) tk' FG' S' U' K' => ?_; try dsimp only)))))) | ((with_reducible show wpAny _ _ (eval (Expr.Name _ _) _) _ _ _); first | (with_reducible (k_here; name_kind "globalImplicit"; k_dflt (first | (name_is_builtin; refine' nameX_B ?F_q ?X_q ?T_q ?e_q ?v_q ?n_q ?_ ?a_q ?b_q; (case F_q => k_asm); (case X_q => k_asm); (case T_q => k_asm); (case a_q => rfl); (case b_q => rfl); (case e_q => k_is); (case v_q => boot_fast); (case n_q => decide); k_whole) | (refine' nameX_K ?F_q ?X_q ?T_q ?e_q ?_ ?a_q ?b_q; (case F_q => k_asm); (case X_q => k_asm); (case T_q => k_asm); (case a_q => rfl); (case b_q => rfl); (case e_q => k_is); k_whole))))) | (k_unfold; (try dsimp only)) | (k_end; wrow_close) | (walk1; (all_goals (try dsimp only))) | (dsimp only; walk1) | (leave1; try dsimp only)))
          · rename Fr h0' L2' _ m' => FF; rename News h0' L2' _ _ => NN; rename GlueD _ _ _ => GG; rename ¬ G5.Over _ => KK; exact hret' _ _ _ _ _ _ FF NN GG (resOf_tup KK)
          · rename RaisedSN _ _ _ _ _ _ _ => SS; rename G5.Over _ => OV; exact hr57 _ _ _ _ (by assumption) SS (by assumption) (resOf_over OV)
        intro v9 r9 o9 hh9 h9 tk9 TT9 F9 N9 V9 R9 B9 X9 T9 D9
        (try k_fold)
        (repeat' (first | ((with_reducible show wpAny _ _ (execs _ _) _ _ _); (fail_if_success (fail_if_success k_fold)); refine foldQ ?_; intro qk ek) | ((with_reducible show wpAny _ _ (exec _ _) _ _ _); (fail_if_success (fail_if_success k_fold)); refine foldQ ?_; intro qk ek; (try (refine foldN (by with_reducible assumption) ?_; intro n9 N9))) | ((with_reducible show wpAny _ _ (call (Value.ref _) _) _ _ _); first | (with_reducible (k_here; (with_reducible show wpAny _ _ (call (Value.ref 360) _) _ _ _); refine metStop ?_)) | (with_reducible (k_here; (with_reducible apply due_c); k_dflt (walk_at "c8"; k_mem; (first | with_reducible assumption | exact lst_mk); ktr_room; ktr_units; k_whole); intro v' r' o' h' tk' F' N' V' R'; (try k_sweep); (try k_fold)))) | ((with_reducible show wpAny _ _ (compareOp CmpOp.NotEq _ _) _ _ _); first | (with_reducible (k_here; k_dflt (refine' wp_at_top ?tA_q ?tH_q ?_; (case tA_q => exact rfl); (case tH_q => exact rfl); refine' cmpval_c ?k1_q ?k2_q ?k3_q ?k4_q ?k5_q ?kK_q ?m1_q ?v1_q ?m2_q ?v2_q ?e1_q ?kd_q ?ku_q ?_; (case v1_q => with_reducible assumption); (case v2_q => first | with_reducible assumption | exact (show ValIs _ _ _ .over from ⟨_, rfl⟩) | exact (show ValIs _ _ _ (.tup _) from ⟨rfl, tup_mk⟩)); (case k1_q => k_asm); (case k2_q => k_asm); (case k3_q => k_asm); (case k4_q => k_asm); (case k5_q => k_asm); (case kK_q => first | exact rfl | assumption); (case m1_q => k_mem); (case m2_q => k_mem); (case e1_q => first | exact rfl | with_reducible assumption | exact (resOf_norm _).symm | exact res_mul | exact resCut_zero (by assumption) | exact resCut_ne (by assumption) | assumption); (case kd_q => ktr_room); (case ku_q => ktr_units); k_whole)))) | ((with_reducible show wpAny _ _ (callWith _ (Value.ref _) _ _ _) _ _ _); first | (with_reducible (k_here; k_dflt (refine' callWith_K ?k1_q ?k2_q ?_; (case k1_q => k_asm); (case k2_q => k_is); k_whole)))) | ((with_reducible show wpAny _ _ (eval (Expr.Name _ _) _) _ _ _); first | (with_reducible (k_here; name_kind "globalImplicit"; k_dflt (first | (name_is_builtin; refine' nameX_B ?F_q ?X_q ?T_q ?e_q ?v_q ?n_q ?_ ?a_q ?b_q; (case F_q => k_asm); (case X_q => k_asm); (case T_q => k_asm); (case a_q => rfl); (case b_q => rfl); (case e_q => k_is); (case v_q => boot_fast); (case n_q => decide); k_whole) | (refine' nameX_K ?F_q ?X_q ?T_q ?e_q ?_ ?a_q ?b_q; (case F_q => k_asm); (case X_q => k_asm); (case T_q => k_asm); (case a_q => rfl); (case b_q => rfl); (case e_q => k_is); k_whole)))) | (with_reducible (k_here; name_kind "local"; k_dflt (refine' nameX_L ?F_q ?v_q ?_ ?a_q ?b_q; (case F_q => k_asm); (case a_q => rfl); (case b_q => rfl); (case v_q => rfl); k_whole)))) | (k_unfold; (try dsimp only)) | (k_end; wrow_close) | (walk1; (all_goals (try dsimp only))) | (dsimp only; walk1) | (leave1; try dsimp only)))
        unfold MetStop
        rename News _ _ _ _ => NN8
        replace NN8 := deeds_sweep NN8
        rename _ ∈ codl ∨ _ => xx
        have y1 := a380 _ _ 355 xx r6 ⟨_, by k_mem⟩
        dsimp only at y1
        k_dflt (refine' wp_at_top ?tA ?tH ?_; (case tA => exact rfl); (case tH => exact rfl); refine' deeds_c ?k1 ?k2 ?k3 ?k4 ?k5 ?kK ?XB ?TB ?D ?U ?m1 ?m2 LG1' LG2 OK1 OK2 ?n1 ?n2 ?c0 ?c1 ?b0 ?b1 GT2 ?hs hc2 ?CH ?kd ?ku ?_; (case k1 => k_asm); (case k2 => k_asm); (case k3 => k_asm); (case k4 => k_asm); (case k5 => k_asm); (case kK => exact rfl); (case XB => assumption); (case TB => assumption); (case D => assumption); (case U => k_updF); (case m1 => k_mem); (case m2 => k_mem); (case n1 => exact r6 _ hm2'); (case n2 => exact r6 _ hm3'); (case c0 => omega); (case c1 => omega); (case b0 => omega); (case b1 => omega); (case hs => exact fun q hq => .tail _ (.tail _ (.tail _ (.tail _ (.tail _ (.tail _ (.tail _ (.tail _ (.tail _ (hs2 q hq)))))))))); (case CH => assumption); (case kd => ktr_room); (case ku => ktr_units))
        intro ps2 cods2 hh8 h8 tk8 TT8 F8 N8 NC8 G8 cn8 B8 X8 T8 D8
        (try dsimp only at N8)
        (repeat' (first | ((with_reducible show wpAny _ _ (execs _ _) _ _ _); (fail_if_success (fail_if_success k_fold)); refine foldQ ?_; intro qk ek) | ((with_reducible show wpAny _ _ (exec _ _) _ _ _); (fail_if_success (fail_if_success k_fold)); refine foldQ ?_; intro qk ek; (try (refine foldN (by with_reducible assumption) ?_; intro n9 N9))) | (k_unfold; (try dsimp only)) | (k_end; wrow_close) | (walk1; (all_goals (try dsimp only))) | (dsimp only; walk1) | (leave1; try dsimp only)))
        rename Fr hh8 _ _ _ => FF9; rename News hh8 _ _ (_ :: _) => NN9; rename JarIs _ c _ _ => JJ9; rename TabGood qLaw _ _ => GL9
        refine law_end ⟨KtsTurn.trans (KtsTurn.trans TTr TT9) TT8, B8, X8, T8, D8⟩ FF9 shapeL_up NN9 NC8 G8 cn8 hs2 GL9 hs3 xx ⟨_, by k_mem⟩ ⟨_, by k_mem⟩ ⟨_, by k_mem⟩ ⟨_, by k_mem⟩ ⟨_, by k_mem⟩ ⟨_, by k_mem⟩ ⟨_, by k_mem⟩ ⟨_, by k_mem⟩ ⟨r1, r2, r3, r4, r5, r6, r7⟩ i1 i2 i3 i4 i5 i6 i7 i8 JJ9 (by omega) ⟨_, by assumption⟩ hneed hpv (.head _))
end
end Mine
theorem PySem.Challenge.cw_sq0027_01_holds : PySem.Challenge.rw_sq0027_01.Holds :=
  Mine.l0
