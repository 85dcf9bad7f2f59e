import PyProof.Rows.All
import Wide.All
import OpenK.AllK
import Wide.FinOn
import PySem.Challenge.RW_nn0223_01
set_option maxHeartbeats 8000000
set_option Elab.async false
set_option rowWalk.seconds 0
set_option linter.unusedVariables false
set_option linter.unusedSimpArgs false
set_option maxRecDepth 100000
section
open PySem PySem.W PyProof.Rows
namespace Mine
noncomputable abbrev P : Program := Challenge.rw_nn0223_01.prog
section
local macro_rules | `(tactic| o_head $_) => `(tactic| assumption)
/-- writes the heap behind the text's top as `hd.heap_1` -/
theorem hd (h : (OpenLaw.row Challenge.rw_nn0223_01).Holds) : (OpenLaw.row Challenge.rw_nn0223_01).Holds := by
  k_head
end
noncomputable def pick (l : List Stmt) : List Nat → List Stmt
  | [] => []
  | i :: r => match l[i]? with
    | some s => s :: pick l r
    | none => pick l r
/-- the parts of the text that the view keeps -/
noncomputable def view : Program := { P with main := { P.main with body := pick P.main.body [0, 2, 3, 5, 6, 7, 8, 9, 10, 11, 12, 13, 14, 16, 17, 18, 19, 20, 21, 22, 23, 25, 26, 27, 28, 29, 30, 31, 32, 33, 34, 36, 37, 38, 39, 40, 41, 42, 44, 45, 46, 47, 48, 49, 50, 51, 52, 53, 54, 55, 56] } }
abbrev loose0 : List Str := [Str.ofString "PaperError", Str.ofString "name_text"]
noncomputable abbrev XtM : Shared → Bool := fun s => xlAt view [] s && recOk (RowW.records (OpenLaw.row Challenge.rw_nn0223_01).toRowW) s
/-- the top's run, on a tree of objects, by the library's quick forms -/
noncomputable def runT (p : Program) (w : World) (n₀ : Nat) (ann : Option Value) (n : Nat) : SharedT → Thread → Option SharedT :=
  Nat.rec (fun _ _ => none) (fun _ ih s t => match through t with
    | true => some s
    | false => match PySem.W.Fast.tw6613529449190102663 n₀ ann t with
      | false => none
      | true => match PySem.W.Fast.tw10156331382660048174 (PySem.W.Fast.tw11892475500146522536 PySem.W.Fast.tw14364793385576792824) p w s t with
        | some (s', t') => ih s' t'
        | none => none) n
theorem runT_succ {p : Program} {w : World} {n₀ : Nat} {ann : Option Value} {n : Nat} (s : SharedT) (t : Thread) : runT p w n₀ ann (n + 1) s t = (match through t with
    | true => some s
    | false => match stepOk n₀ ann t with
      | false => none
      | true => match stepT (denote treeTable) p w s t with
        | some (s', t') => runT p w n₀ ann n s' t'
        | none => none) := by
  rw [PySem.W.Fast.te6613529449190102663, PySem.W.Fast.te10156331382660048174, PySem.W.Fast.te11892475500146522536, PySem.W.Fast.te14364793385576792824]
  rfl
theorem runT_top {p : Program} {w : World} {n₀ : Nat} {ann : Option Value} {s' : SharedT} (n : Nat) : ∀ (s : SharedT) (t : Thread), runT p w n₀ ann n s t = some s' → topRun treeTable p w n₀ ann n s.abs t = some s'.abs := by
  induction n with
  | zero => exact fun _ _ h => nomatch h
  | succ n ih =>
    intro s t h
    rw [runT_succ] at h
    rw [topRun]
    split at h
    · rename_i e
      rw [e]
      exact congrArg (·.map SharedT.abs) h
    · rename_i e
      rw [e]
      split at h
      · cases h
      · rename_i e2
        rw [e2]
        split at h
        · rename_i e3
          rw [stepT_spec e3]
          exact ih _ _ h
        · cases h
noncomputable def treeOf : List Obj → Nat → BT → BT
  | [], _, t => t
  | o :: l, n, t => treeOf l (n + 1) (t.ins n o)
noncomputable def s0T (w : World) (os : OsState) : SharedT := ⟨treeOf (boot_heap w.params).objs.toList 0 .nil, 11, (boot_heap w.params).life, Array.mk [], boot_drawn, boot_toks, os⟩
theorem s0_abs (w : World) (os : OsState) : (s0T w os).abs = ⟨boot_heap w.params, Array.mk [], boot_drawn, boot_toks, os⟩ := by kernel_rfl
noncomputable def run (w : World) (os : OsState) : Option SharedT := runT P w 11 (some (.ref 6)) 2900 (s0T w os) (topStub P)
noncomputable def addrs : List Addr := [2,3,15,17,18,20,21,22,29,30,32,33,35,36,37,39,40,42,43,44,45,46,47,50,57,58,59,62,63,64,66,67,69,70,71,73,74,76,77,78,80,81,83,84,92,93,95,96,98,99,100,102,103,105,106,107,108,110,111,113,114,115,117,118,120,121,122,124,125,127,128,129,131,132,134,135,136,138,139,141,142,143,145,146,148,149,150,152,153,155,156,157,159,160,162,163,164,166,167,169,170,171,173,174,176,177,178,180,181,183,184,185,186,187,188,189,199,201,202,204,205,206,208,209,211,212,213,215,216,218,219,220,222,223,225,226,227,229,230,232,233,234,236,237,239,240,241,243,244,246,247,248,250,251,253,254,255,257,258,260,261,262,264,265,267,268,269,271,272,274,275,276,278,279,281,282,283,284,285,286,287,290,292,293,295,296,297,299,300,302,303,304,305,307,308,310,311,312,314,315,317,318,319,320,322,323,325,326,327,329,330,332,333,334,336,337,339,340,341,343,344,346,347,348,351,352,353,355,356,358,359,360,362,363,365,366,367,369,370,372,373,374,376,377,379,380,381,383,384,386,387,388,390,391,393,394,395,397,398,400,401,402,405,406,407,409,410,412,413,414,416,417,419,420,421,423,424,426,427,428,430,431,433,434,435,437,438,440,441,442,444,445,447,448,449,452,453,454,457,458]
theorem addrs_eq (p : Params) : addrs = (Mine.hd.heap_1 p).map (·.1) := by kernel_rfl
noncomputable abbrev hook : Hook := kHook Mine.hd.heap_1 addrs addrs_eq
theorem run_ends (w : World) (os : OsState) : (run w os).map (fun s => staticsOk (importedModules P.main.body) (boot_heap w.params) s.abs.heap && namesBound P s.abs.heap && gensDone s.abs && laidKept (boot_heap w.params) s.abs.heap) = some true := by kernel_rfl
theorem run_obs (w : World) (os : OsState) : (run w os).map (fun s => hook.obs s.abs) = some (hook.val w) := by kernel_rfl
theorem run_seen (w : World) (os : OsState) : (run w os).map (fun s => @PySem.W.Fast.tw4187177175401517315 view loose0 (importedModules P.main.body) XtM true s.abs) = some (openGood view loose0) := by kernel_rfl
end Mine
end
section
open PySem PySem.W PyProof.Rows
namespace Mine
theorem topGlob (w : World) : ((boot_heap w.params).isNs mainGlobals && (Array.mk [] : Array GenState).size == 0, (boot_heap w.params).objs.size, (boot_heap w.params).nsMap mainGlobals (Str.ofString "__annotations__")) = (true, 11, some (.ref 6)) := by kernel_rfl
theorem topOpening : opening P = plainProg P.main.scope.names := by kernel_rfl
theorem topFence (s : Shared) : fenceModules? P s = some s := by kernel_rfl
theorem topOpen : ∀ w : World, (fencedOpening treeTable P w 5732).map (fun s => (s.heap, s.gens, s.drawn, s.toks)) = some (boot_heap w.params, Array.mk [], boot_drawn, boot_toks) :=
  boot_open (p := P) (N := 5732) topOpening (by decide) topFence
theorem left_of {p q : Program} {loose : List Str} {Xt : Shared → Bool} {α : Type} {Yf : Shared → α} {Ya : World → α} {N M m₀ k₀ : Nat} {H₀ : Params → Heap} {d₀ : Drawn} {ann : Option Value}
    (open_ : ∀ w : World, (fencedOpening treeTable p w N).map (fun s => (s.heap, s.gens, s.drawn, s.toks)) = some (H₀ w.params, Array.mk [], d₀, k₀))
    (size : ∀ w : World, ((H₀ w.params).isNs mainGlobals && (Array.mk [] : Array GenState).size == 0, (H₀ w.params).objs.size, (H₀ w.params).nsMap mainGlobals (Str.ofString "__annotations__")) = (true, m₀, ann))
    (R : World → OsState → Option SharedT)
    (go : ∀ w os sT, R w os = some sT → topRun treeTable p w m₀ ann M ⟨H₀ w.params, Array.mk [], d₀, k₀, os⟩ (topStub p) = some sT.abs) (le : Nat.ble M N = true)
    (ends : ∀ w os, (R w os).map (fun s => staticsOk (importedModules p.main.body) (H₀ w.params) s.abs.heap && namesBound p s.abs.heap && gensDone s.abs && laidKept (H₀ w.params) s.abs.heap) = some true)
    (sees : ∀ w os, (R w os).map (fun s => openSeen q loose (importedModules p.main.body) Xt true s.abs) = some (openGood q loose))
    (obs : ∀ w os, (R w os).map (fun s => Yf s.abs) = some (Ya w)) : LeftO p q loose Xt Yf Ya N := by
  intro w
  have ho := open_ w
  have hsz := size w
  simp only [Prod.mk.injEq] at hsz
  unfold openEnds
  cases hs : fencedOpening treeTable p w N with
  | none => rw [hs] at ho; cases ho
  | some s =>
    obtain ⟨h, gs, d, k, os⟩ := s
    rw [hs] at ho
    simp only [Option.map_some, Option.some.injEq, Prod.mk.injEq] at ho
    obtain ⟨rfl, rfl, rfl, rfl⟩ := ho
    have he := ends w os
    have hv := sees w os
    have hy := obs w os
    cases hr : R w os with
    | none => rw [hr] at he; cases he
    | some sT =>
      rw [hr] at he hv hy
      simp only [Option.map_some, Option.some.injEq] at he hv hy
      have ht := topRun_mono (N - M) _ _ _ _ (go w os sT hr)
      rw [Nat.add_sub_of_le (Nat.le_of_ble_eq_true le)] at ht
      have hf : topFrom treeTable p w N ⟨H₀ w.params, Array.mk [], d, k, os⟩ = some sT.abs := by
        simp only [topFrom, hsz.1, hsz.2.1, hsz.2.2, ht, Option.bind_some, he]
      simp only [Option.bind_some, hf, Option.map_some, hv, hy]
theorem left : LeftO P view loose0 XtM hook.obs hook.val 5732 :=
  left_of (q := view) (loose := loose0) (Xt := XtM) (Yf := hook.obs) (Ya := hook.val) topOpen topGlob run
    (fun w os sT h => by have z := runT_top _ _ _ h; rwa [s0_abs] at z) (by decide) run_ends (by rw [PySem.W.Fast.te4187177175401517315]; exact run_seen) run_obs
theorem wellL : (Challenge.rw_nn0223_01).wellSaid = true := by
  rw [show OpenLaw.wellSaid = PySem.W.Fast.tw9446332074065402090 from PySem.W.Fast.te9446332074065402090]
  kernel_rfl
end Mine
end
section
open PySem PySem.W PyProof.Rows PySem.Calls
namespace Mine
theorem room2 {x a c b lim : Nat} (h : x + b < lim) (e : Nat.ble (a + c) b = true) : x + a + c < lim := by
  have := Nat.le_of_ble_eq_true e
  omega
theorem room1 {x c b lim : Nat} (h : x + b < lim) (e : Nat.ble c b = true) : x + c < lim := by
  have := Nat.le_of_ble_eq_true e
  omega
theorem room0 {x b lim : Nat} (h : x + b < lim) : x < lim := by omega
/-- an entry of a ledger, and what is left of it -/
inductive Pick (p : Addr × Obj) : List (Addr × Obj) → List (Addr × Obj) → Prop
  | head {r} : Pick p (p :: r) r
  | tail {q r r'} : Pick p r r' → Pick p (q :: r) (q :: r')
theorem Pick.mem {p : Addr × Obj} {l r : List (Addr × Obj)} (x : Pick p l r) : ∀ q ∈ p :: r, q ∈ l := by
  induction x with
  | head => exact fun q hq => hq
  | tail _ ih =>
    intro q hq
    rcases List.mem_cons.mp hq with rfl | hq
    · exact .tail _ (ih _ (.head _))
    · rcases List.mem_cons.mp hq with rfl | hq
      · exact .head _
      · exact .tail _ (ih _ (.tail _ hq))
theorem news_pick {h₀ h : Heap} {L : Addr} {p : Addr × Obj} {l r : List (Addr × Obj)} (N : News h₀ L h l) (x : Pick p l r) : News h₀ L h (p :: r) := fun q hq => N q (x.mem q hq)
theorem news_sub {h₀ h : Heap} {L : Addr} {l l' : List (Addr × Obj)} (N : News h₀ L h l) (hs : ∀ p ∈ l', p ∈ l) : News h₀ L h l' := fun q hq => N q (hs q hq)
theorem ne_of_allLt {d : Addr} : ∀ {l : List (Addr × Obj)}, AllLt d l → ∀ p ∈ l, p.1 ≠ d
  | [], _, _, hp => nomatch hp
  | q :: l, ⟨h, r⟩, p, hp => by
    rcases List.mem_cons.mp hp with rfl | hp
    · exact Nat.ne_of_lt h
    · exact ne_of_allLt r p hp
theorem allLt_trans {d e : Addr} (h : d ≤ e) : ∀ {l : List (Addr × Obj)}, AllLt d l → AllLt e l
  | [], _ => trivial
  | _ :: _, ⟨a, r⟩ => ⟨Nat.lt_of_lt_of_le a h, allLt_trans h r⟩
theorem news_pick2 {h₀ h : Heap} {L : Addr} {p q : Addr × Obj} {l r r' : List (Addr × Obj)} (N : News h₀ L h l) (x : Pick p l r) (y : Pick q r r') : News h₀ L h (q :: p :: r') := fun z hz => by
  rcases List.mem_cons.mp hz with rfl | hz
  · exact N _ (x.mem _ (.tail _ (y.mem _ (.head _))))
  · rcases List.mem_cons.mp hz with rfl | hz
    · exact N _ (x.mem _ (.head _))
    · exact N _ (x.mem _ (.tail _ (y.mem _ (.tail _ hz))))
/-- a turn's end of a while: the next state, the frame by its names, the ledger, the word, and less of the measure -/
def MyEnd {σ : Type} (h₀ : Heap) (L : Addr) (s : Shared) (fm : σ → Option Value → Str → Option Value) (Led : σ → List (Addr × Obj)) (P : σ → Prop) (μ : σ → Nat) (c : σ) (s₂ : Shared) : Prop :=
  ∃ (c' : σ) (u' : Option Value) (h' : Heap) (tk : Nat) (m' : Str → Option Value) (news' : List (Addr × Obj)), s₂ = { s with heap := h', toks := tk } ∧ Fr h₀ L h' m' ∧ (∀ y, m' y = fm c' u' y) ∧ News h₀ L h' news' ∧ (∀ p ∈ Led c', p ∈ news') ∧ P c' ∧ μ c' < μ c
def MyPost {σ : Type} (h₀ : Heap) (L : Addr) (s : Shared) (fm : σ → Option Value → Str → Option Value) (Led : σ → List (Addr × Obj)) (P : σ → Prop) (μ : σ → Nat) (Q : Flow → Shared → Prop) (c : σ) (f : Flow) (s₂ : Shared) : Prop :=
  match f with
  | .ret v => Q (.ret v) s₂
  | .brk => Q .next s₂
  | _ => MyEnd h₀ L s fm Led P μ c s₂
theorem my_end {σ : Type} {h₀ : Heap} {L : Addr} {s : Shared} {fm : σ → Option Value → Str → Option Value} {Led : σ → List (Addr × Obj)} {P : σ → Prop} {μ : σ → Nat} {c : σ} {h' : Heap} {tk : Nat} {m' : Str → Option Value} {news' : List (Addr × Obj)} (c' : σ) (u' : Option Value)
    (F : Fr h₀ L h' m') (N : News h₀ L h' news') (hm : ∀ y, m' y = fm c' u' y) (hn : ∀ p ∈ Led c', p ∈ news') (hp : P c') (hμ : μ c' < μ c) : MyEnd h₀ L s fm Led P μ c { s with heap := h', toks := tk } :=
  ⟨c', u', h', tk, m', news', rfl, F, hm, N, hn, hp, hμ⟩
section
variable {prog : Program} {w : World} {A : Around} {E : Value → Shared → Prop} {Q : Flow → Shared → Prop} {s : Shared} {env : Env} {h₀ : Heap} {L : Addr}
theorem my_while {σ : Type} {test : PySem.Expr} {body : List Stmt} {pos : Pos} {m₀ : Str → Option Value} {news₀ : List (Addr × Obj)} (fm : σ → Option Value → Str → Option Value) (Led : σ → List (Addr × Obj)) (P : σ → Prop) (μ : σ → Nat) (c₀ : σ) (u₀ : Option Value)
    (F : Fr h₀ L s.heap m₀) (N : News h₀ L s.heap news₀) (hm : ∀ y, m₀ y = fm c₀ u₀ y) (hn : ∀ p ∈ Led c₀, p ∈ news₀) (hp : P c₀)
    (turn : ∀ (c : σ) (u : Option Value) h tk, P c → Fr h₀ L h (fm c u) → News h₀ L h (Led c) →
      wpAny (model prog w) A (isTrue test env (eval test env)) (fun b s₂ =>
        if b = true then wpAny (model prog w) A (execs body env) (MyPost h₀ L s fm Led P μ Q c) E s₂ else Q .next s₂) E { s with heap := h, toks := tk })
    (hE : PassesOwn (model prog w) A env E) :
    wpAny (model prog w) A (exec (.While test body [] pos) env) Q E s := by
  refine While_inv2 (fun n m nx => ∃ (c : σ) (u : Option Value), μ c = n ∧ (∀ y, m y = fm c u y) ∧ (∀ p ∈ Led c, p ∈ nx) ∧ P c) F N ⟨c₀, u₀, rfl, hm, hn, hp⟩ ?_ hE
  rintro n m₁ nx h tk F₁ N₁ ⟨c, u, hsz, hm₁, hn₁, hp₁⟩
  rw [show m₁ = fm c u from funext hm₁] at F₁
  subst hsz
  refine wpAny_mono (turn c u h tk hp₁ F₁ (fun p hp => N₁ p (hn₁ p hp))) (fun b s₂ q => ?_) fun _ _ x => x
  cases b with
  | false => simpa using q
  | true =>
    simp only [if_true] at q ⊢
    refine wpAny_mono q (fun f s₃ z => ?_) fun _ _ x => x
    have go : MyEnd h₀ L s fm Led P μ c s₃ → ∃ h' tk' m' news' n', s₃ = { s with heap := h', toks := tk' } ∧ Fr h₀ L h' m' ∧ News h₀ L h' news' ∧ n' < μ c ∧ ∃ (c' : σ) (u' : Option Value), μ c' = n' ∧ (∀ y, m' y = fm c' u' y) ∧ (∀ p ∈ Led c', p ∈ news') ∧ P c' := by
      rintro ⟨c', u', h', tk', m', news', rfl, F', hm', N', hn', hp', hμ⟩
      exact ⟨h', tk', m', news', μ c', rfl, F', N', hμ, c', u', rfl, hm', hn', hp'⟩
    cases f with
    | ret v => exact z
    | brk => exact z
    | next => exact go z
    | cont => exact go z
end
section
variable {prog : Program} {w : World} {A : Around} {E : Value → Shared → Prop} {Q : Value → Shared → Prop} {s : Shared} {h₀ : Heap} {L D b : Addr} {m : Str → Option Value} {news news' : List (Addr × Obj)} {vs : List Value} {x : Value} {n n2 : Nat}
theorem room_of {k : Nat} {p : Bool} (h : k ≤ 1000000) : ¬ (p && Builtin.List.listTooLong k) = true := by
  have : Builtin.List.listTooLong k = false := by
    unfold Builtin.List.listTooLong
    simp only [sizeLine_eq, decide_eq_false_iff_not]
    omega
  rw [this, Bool.and_false]; decide
theorem my_ext0 (F : Fr h₀ L s.heap m) (N : News h₀ L s.heap news) (hb : (b, listOf [].toArray n2) ∈ news) (U : Upd D (listOf vs.toArray n) (listOf vs.toArray n) news news') (hz : vs.length ≤ 500000)
    (h : ∀ h', Fr h₀ L h' m → News h₀ L h' news' → Q .none { s with heap := h' }) : wpAny (model prog w) A (call (.builtin "list.extend") [.ref D, .ref b]) Q E s :=
  kxn_extend F N hb rfl U (room_of (by simp; omega)) (by rw [sizeLine_eq]; simp; omega) (by rw [sizeLine_eq]; simp; omega) h
theorem my_ext1 (F : Fr h₀ L s.heap m) (N : News h₀ L s.heap news) (hb : (b, listOf [x].toArray n2) ∈ news) (U : Upd D (listOf vs.toArray n) (listOf (vs ++ [x]).toArray (n + 1)) news news') (hz : vs.length ≤ 500000)
    (h : ∀ h', Fr h₀ L h' m → News h₀ L h' news' → Q .none { s with heap := h' }) : wpAny (model prog w) A (call (.builtin "list.extend") [.ref D, .ref b]) Q E s :=
  kl_extend F N hb (l := vs ++ [x]) (by simp) (by simp) U (room_of (by simp; omega)) (by rw [sizeLine_eq]; simp; omega) (by rw [sizeLine_eq]; simp; omega) h
end
end Mine
end
open PySem PySem.W PyProof.Rows PySem.Calls Mine
local macro_rules | `(tactic| walk_at $s:str) => `(tactic| (k_here; k_extra $s))
local macro_rules | `(tactic| omega) => `(tactic| (first | lia | omega +splitDisjunctions))
local macro_rules | `(tactic| ktr_room) => `(tactic| first | exact room2 (by with_reducible assumption) (by rfl) | exact room1 (by with_reducible assumption) (by rfl) | exact room0 (by with_reducible assumption))
local macro_rules | `(tactic| ktr_units) => `(tactic| first | exact room2 (by with_reducible assumption) (by rfl) | exact room1 (by with_reducible assumption) (by rfl) | exact room0 (by with_reducible assumption))
local macro_rules | `(tactic| tb_rel) => `(tactic| first | (intro y; rfl) | (intro y; (try dsimp only); (repeat' split) <;> first | rfl | contradiction | (subst_vars; rfl) | (simp_all; done) | (subst_vars; contradiction)))
local macro_rules | `(tactic| k_all) => `(tactic| first | assumption | exact ne_of_allLt (by assumption))
local macro_rules | `(tactic| tb_start) => `(tactic| first | exact Pick.head | (refine' Pick.tail ?x; (case x => tb_start)))
section
open PySem PySem.W PyProof.Rows PySem.Calls
namespace Mine
/-! what the text's defs reckon, over lists of ints -/
def isWhite (c : Int) : Bool := [0, 9, 10, 12, 13, 32].any (· == c)
def isDelim (c : Int) : Bool := [40, 41, 60, 62, 91, 93, 123, 125, 47, 37].any (· == c)
def isRegular (c : Int) : Bool := decide (0 ≤ c) && !isWhite c && !isDelim c
def hexW (c : Int) : Int := if 48 ≤ c ∧ c ≤ 57 then c - 48 else if 65 ≤ c ∧ c ≤ 70 then c - 55 else if 97 ≤ c ∧ c ≤ 102 then c - 87 else -1
def plainEsc (c : Int) : Int := if c = 110 then 10 else if c = 114 then 13 else if c = 116 then 9 else if c = 98 then 8 else if c = 102 then 12 else c
def pk (ks : List Int) (ps en : Int) : Int := if ps < en then ks.getD ps.toNat 0 else -1
theorem pk_in {ks : List Int} {ps en : Int} (h : ps < en) : pk ks ps en = ks.getD ps.toNat 0 := if_pos h
theorem pk_out {ks : List Int} {ps en : Int} (h : ¬ ps < en) : pk ks ps en = -1 := if_neg h
/-- what skip_line_end steps over -/
def sle (ks : List Int) (ps en : Int) : Int := if pk ks ps en = 13 then (if pk ks (ps + 1) en = 10 then 2 else 1) else if pk ks ps en = 10 then 1 else 0
/-- what lies between the place and the end -/
def rem (ks : List Int) (ps en : Int) : List Int := (ks.take en.toNat).drop ps.toNat
theorem rem_nil {ks : List Int} {ps en : Int} (h : en ≤ ps) : rem ks ps en = [] := by
  unfold rem
  apply List.drop_eq_nil_of_le
  rw [List.length_take]
  omega
theorem rem_cons {ks : List Int} {ps en : Int} (h0 : 0 ≤ ps) (h : ps < en) (h2 : en ≤ (ks.length : Int)) : rem ks ps en = ks.getD ps.toNat 0 :: rem ks (ps + 1) en := by
  unfold rem
  have hl : ps.toNat < (ks.take en.toNat).length := by rw [List.length_take]; omega
  rw [List.drop_eq_getElem_cons hl, List.getElem_take, List.getD_eq_getElem?_getD, List.getElem?_eq_getElem (by omega)]
  have e : (ps + 1).toNat = ps.toNat + 1 := by omega
  rw [e]
  rfl
theorem rem_length {ks : List Int} {ps en : Int} (h0 : 0 ≤ ps) (h2 : en ≤ (ks.length : Int)) : (rem ks ps en).length = (en - ps).toNat := by
  unfold rem
  rw [List.length_drop, List.length_take]
  obtain ⟨p, rfl⟩ := Int.eq_ofNat_of_zero_le h0
  cases en with
  | ofNat n =>
    show min n ks.length - p = ((n : Int) - (p : Int)).toNat
    rw [Int.toNat_sub, Nat.min_eq_left (Int.ofNat_le.mp h2)]
  | negSucc n =>
    show min 0 ks.length - p = _
    rw [Nat.zero_min, Nat.zero_sub]
    exact (Int.toNat_eq_zero.mpr (Int.le_trans (Int.sub_le_self _ h0) (Int.le_of_lt (Int.negSucc_lt_zero n)))).symm
theorem pk_rem {ks : List Int} {ps en : Int} (h0 : 0 ≤ ps) (h2 : en ≤ (ks.length : Int)) : pk ks ps en = (rem ks ps en).headD (-1) := by
  by_cases h : ps < en
  · rw [pk_in h, rem_cons h0 h h2]; rfl
  · rw [pk_out h, rem_nil (by omega)]; rfl
theorem rem_mem {ks : List Int} {ps en x : Int} (h : x ∈ rem ks ps en) : x ∈ ks := List.mem_of_mem_take (List.mem_of_mem_drop h)
/-- an octal escape behind its first figure: the number and what is left -/
def isOct (c : Int) : Bool := decide (48 ≤ c) && decide (c ≤ 55)
def octGo : Nat → Int → List Int → Int × List Int
  | 0, code, r => (code, r)
  | _ + 1, code, [] => (code, [])
  | n + 1, code, x :: t => if isOct x = true then octGo n (8 * code + x - 48) t else (code, x :: t)
def octL (first : Int) (r : List Int) : Int × List Int := ((octGo 2 (first - 48) r).1.fmod 256, (octGo 2 (first - 48) r).2)
theorem octGo_in {ks : List Int} {ps en code : Int} {n : Nat} (a : 48 ≤ pk ks ps en) (b : pk ks ps en ≤ 55) (h0 : 0 ≤ ps) (h2 : en ≤ (ks.length : Int)) :
    octGo (n + 1) code (rem ks ps en) = octGo n (8 * code + ks.getD ps.toNat 0 - 48) (rem ks (ps + 1) en) := by
  by_cases h : ps < en
  · rw [pk_in h] at a b
    rw [rem_cons h0 h h2]
    have e : isOct (ks.getD ps.toNat 0) = true := by unfold isOct; rw [decide_eq_true a, decide_eq_true b]; rfl
    show (if isOct _ = true then _ else _) = _
    rw [if_pos e]
  · rw [pk_out h] at a; omega
theorem octGo_out {ks : List Int} {ps en code : Int} {n : Nat} (a : ¬ 48 ≤ pk ks ps en ∨ ¬ pk ks ps en ≤ 55) (h0 : 0 ≤ ps) (h2 : en ≤ (ks.length : Int)) :
    octGo n code (rem ks ps en) = (code, rem ks ps en) := by
  cases n with
  | zero => rfl
  | succ n =>
    by_cases h : ps < en
    · rw [pk_in h] at a
      rw [rem_cons h0 h h2]
      have e : ¬ isOct (ks.getD ps.toNat 0) = true := by
        unfold isOct
        rw [Bool.and_eq_true, decide_eq_true_eq, decide_eq_true_eq]
        omega
      show (if isOct _ = true then _ else _) = _
      rw [if_neg e]
    · rw [rem_nil (by omega)]; rfl
theorem octL2 {ks : List Int} {ps en first : Int} (a : 48 ≤ pk ks ps en) (b : pk ks ps en ≤ 55) (a1 : 48 ≤ pk ks (ps + 1) en) (b1 : pk ks (ps + 1) en ≤ 55) (h0 : 0 ≤ ps) (h2 : en ≤ (ks.length : Int)) :
    octL first (rem ks ps en) = ((8 * (8 * (first - 48) + ks.getD ps.toNat 0 - 48) + ks.getD (ps + 1).toNat 0 - 48).fmod 256, rem ks (ps + 1 + 1) en) := by
  unfold octL
  rw [show (2 : Nat) = 1 + 1 from rfl, octGo_in a b h0 h2, show (1 : Nat) = 0 + 1 from rfl, octGo_in a1 b1 (by omega) h2]; rfl
theorem octL1 {ks : List Int} {ps en first : Int} (a : 48 ≤ pk ks ps en) (b : pk ks ps en ≤ 55) (a1 : ¬ 48 ≤ pk ks (ps + 1) en ∨ ¬ pk ks (ps + 1) en ≤ 55) (h0 : 0 ≤ ps) (h2 : en ≤ (ks.length : Int)) :
    octL first (rem ks ps en) = ((8 * (first - 48) + ks.getD ps.toNat 0 - 48).fmod 256, rem ks (ps + 1) en) := by
  unfold octL
  rw [show (2 : Nat) = 1 + 1 from rfl, octGo_in a b h0 h2, octGo_out a1 (by omega) h2]
theorem octL0 {ks : List Int} {ps en first : Int} (a : ¬ 48 ≤ pk ks ps en ∨ ¬ pk ks ps en ≤ 55) (h0 : 0 ≤ ps) (h2 : en ≤ (ks.length : Int)) :
    octL first (rem ks ps en) = ((first - 48).fmod 256, rem ks ps en) := by
  unfold octL
  rw [octGo_out a h0 h2]
/-- behind a backslash: the codes and what is left -/
def escL : List Int → List Int × List Int
  | [] => ([], [])
  | x :: t => if x = 13 then ([], if t.headD (-1) = 10 then t.drop 1 else t) else if x = 10 then ([], t)
    else if isOct x = true then ([(octL x t).1], (octL x t).2) else ([plainEsc x], t)
theorem escL_done {ks : List Int} {ps en : Int} (h : en ≤ ps) : escL (rem ks ps en) = ([], rem ks ps en) := by rw [rem_nil h]; rfl
theorem rem_drop1 {ks : List Int} {ps en : Int} (h0 : 0 ≤ ps) (h : ps < en) (h2 : en ≤ (ks.length : Int)) : (rem ks ps en).drop 1 = rem ks (ps + 1) en := by rw [rem_cons h0 h h2]; rfl
/-- a line's end at the place: what is left behind it -/
theorem behind13 {ks : List Int} {ps en : Int} (h0 : 0 ≤ ps) (h : pk ks ps en = 13) (h2 : en ≤ (ks.length : Int)) :
    (if (rem ks (ps + 1) en).headD (-1) = 10 then (rem ks (ps + 1) en).drop 1 else rem ks (ps + 1) en) = rem ks (ps + sle ks ps en) en := by
  have hlt : ps < en := by
    by_cases q : ps < en
    · exact q
    · rw [pk_out q] at h; omega
  rw [← pk_rem (by omega) h2]
  unfold sle
  rw [if_pos h]
  by_cases q : pk ks (ps + 1) en = 10
  · rw [if_pos q, if_pos q]
    have hlt1 : ps + 1 < en := by
      by_cases r : ps + 1 < en
      · exact r
      · rw [pk_out r] at q; omega
    rw [rem_drop1 (by omega) hlt1 h2, Int.add_assoc]; rfl
  · rw [if_neg q, if_neg q]
theorem sle_pos {ks : List Int} {ps en : Int} (h : sle ks ps en ≠ 0) : ps < en ∧ (pk ks ps en = 13 ∨ pk ks ps en = 10 ∧ sle ks ps en = 1) := by
  unfold sle at h
  by_cases a : pk ks ps en = 13
  · refine ⟨?_, .inl a⟩
    by_cases q : ps < en
    · exact q
    · rw [pk_out q] at a; omega
  · rw [if_neg a] at h
    by_cases b : pk ks ps en = 10
    · refine ⟨?_, .inr ⟨b, by unfold sle; rw [if_neg a, if_pos b]⟩⟩
      by_cases q : ps < en
      · exact q
      · rw [pk_out q] at b; omega
    · rw [if_neg b] at h; exact absurd rfl h
theorem sle_zero {ks : List Int} {ps en : Int} (h : sle ks ps en = 0) : pk ks ps en ≠ 13 ∧ pk ks ps en ≠ 10 := by
  unfold sle at h
  by_cases a : pk ks ps en = 13
  · rw [if_pos a] at h
    by_cases b : pk ks (ps + 1) en = 10
    · rw [if_pos b] at h; omega
    · rw [if_neg b] at h; omega
  · rw [if_neg a] at h
    by_cases b : pk ks ps en = 10
    · rw [if_pos b] at h; omega
    · exact ⟨a, b⟩
theorem sle_le {ks : List Int} {ps en : Int} (h : sle ks ps en ≠ 0) : 1 ≤ sle ks ps en ∧ ps + sle ks ps en ≤ en := by
  have q := (sle_pos h).1
  unfold sle at *
  by_cases a : pk ks ps en = 13
  · rw [if_pos a] at *
    by_cases b : pk ks (ps + 1) en = 10
    · rw [if_pos b] at *
      have : ps + 1 < en := by
        by_cases r : ps + 1 < en
        · exact r
        · rw [pk_out r] at b; omega
      omega
    · rw [if_neg b] at *; omega
  · rw [if_neg a] at *
    by_cases b : pk ks ps en = 10
    · rw [if_pos b] at *; omega
    · rw [if_neg b] at *; exact absurd rfl h
theorem escL_line {ks : List Int} {ps en : Int} (h0 : 0 ≤ ps) (h2 : en ≤ (ks.length : Int)) (h : sle ks ps en ≠ 0) : escL (rem ks ps en) = ([], rem ks (ps + sle ks ps en) en) := by
  obtain ⟨hlt, a⟩ := sle_pos h
  have e := pk_in (ks := ks) hlt
  rw [rem_cons h0 hlt h2]
  rcases a with a | ⟨a, b⟩
  · show (if _ then _ else _) = _
    rw [if_pos (e.symm.trans a), behind13 h0 a h2]
  · show (if _ then _ else _) = _
    rw [if_neg (by rw [← e, a]; omega), if_pos (e.symm.trans a), b]
theorem escL_oct {ks : List Int} {ps en : Int} (h0 : 0 ≤ ps) (hlt : ps < en) (h2 : en ≤ (ks.length : Int)) (a : 48 ≤ ks.getD ps.toNat 0) (b : ks.getD ps.toNat 0 ≤ 55) :
    escL (rem ks ps en) = ([(octL (ks.getD ps.toNat 0) (rem ks (ps + 1) en)).1], (octL (ks.getD ps.toNat 0) (rem ks (ps + 1) en)).2) := by
  rw [rem_cons h0 hlt h2]
  show (if _ then _ else _) = _
  rw [if_neg (by omega), if_neg (by omega), if_pos (by unfold isOct; rw [decide_eq_true a, decide_eq_true b]; rfl)]
theorem escL_plain {ks : List Int} {ps en : Int} (h0 : 0 ≤ ps) (hlt : ps < en) (h2 : en ≤ (ks.length : Int)) (h : sle ks ps en = 0) (a : ¬ 48 ≤ ks.getD ps.toNat 0 ∨ ¬ ks.getD ps.toNat 0 ≤ 55) :
    escL (rem ks ps en) = ([plainEsc (ks.getD ps.toNat 0)], rem ks (ps + 1) en) := by
  have q := sle_zero h
  rw [pk_in hlt] at q
  rw [rem_cons h0 hlt h2]
  show (if _ then _ else _) = _
  rw [if_neg q.1, if_neg q.2, if_neg (by unfold isOct; rw [Bool.and_eq_true, decide_eq_true_eq, decide_eq_true_eq]; omega)]
def litL : Nat → List Int → Int → List Int → Option (List Int × List Int)
  | 0, _, _, _ => none
  | _ + 1, [], _, _ => none
  | n + 1, x :: t, d, acc =>
    if x = 13 then litL n (if t.headD (-1) = 10 then t.drop 1 else t) d (acc ++ [10])
    else if x = 10 then litL n t d (acc ++ [10])
    else if x = 92 then litL n (escL t).2 d (acc ++ (escL t).1)
    else if x = 40 then litL n t (d + 1) (acc ++ [40])
    else if x = 41 then (if d - 1 = 0 then some (acc, t) else litL n t (d - 1) (acc ++ [41]))
    else litL n t d (acc ++ [x])
theorem litL_done {ks : List Int} {ps en d : Int} {n : Nat} {acc : List Int} (h : en ≤ ps) : litL n (rem ks ps en) d acc = none := by
  rw [rem_nil h]; cases n <;> rfl
theorem litL_line {ks : List Int} {ps en d : Int} {n : Nat} {acc : List Int} (h0 : 0 ≤ ps) (h2 : en ≤ (ks.length : Int)) (h : sle ks ps en ≠ 0) :
    litL (n + 1) (rem ks ps en) d acc = litL n (rem ks (ps + sle ks ps en) en) d (acc ++ [10]) := by
  obtain ⟨hlt, a⟩ := sle_pos h
  have e := pk_in (ks := ks) hlt
  rw [rem_cons h0 hlt h2]
  rcases a with a | ⟨a, b⟩
  · show (if _ then _ else _) = _
    rw [if_pos (e.symm.trans a), behind13 h0 a h2]
  · show (if _ then _ else _) = _
    rw [if_neg (by rw [← e, a]; omega), if_pos (e.symm.trans a), b]
section
variable {ks : List Int} {ps en d v : Int} {n : Nat} {acc : List Int} (h0 : 0 ≤ ps) (hlt : ps < en) (h2 : en ≤ (ks.length : Int)) (h : sle ks ps en = 0) (hv : v = ks.getD ps.toNat 0)
include h0 hlt h2 h hv
theorem litL_back (a : v = 92) : litL (n + 1) (rem ks ps en) d acc = litL n (escL (rem ks (ps + 1) en)).2 d (acc ++ (escL (rem ks (ps + 1) en)).1) := by
  have q := sle_zero h
  rw [pk_in hlt, ← hv] at q
  rw [rem_cons h0 hlt h2, ← hv]
  show (if _ then _ else _) = _
  rw [if_neg q.1, if_neg q.2, if_pos a]
theorem litL_open (a : v = 40) : litL (n + 1) (rem ks ps en) d acc = litL n (rem ks (ps + 1) en) (d + 1) (acc ++ [v]) := by
  have q := sle_zero h
  rw [pk_in hlt, ← hv] at q
  rw [rem_cons h0 hlt h2, ← hv]
  show (if _ then _ else _) = _
  rw [if_neg q.1, if_neg q.2, if_neg (by omega), if_pos a, a]
theorem litL_end (a : v = 41) (b : d - 1 = 0) : litL (n + 1) (rem ks ps en) d acc = some (acc, rem ks (ps + 1) en) := by
  have q := sle_zero h
  rw [pk_in hlt, ← hv] at q
  rw [rem_cons h0 hlt h2, ← hv]
  show (if _ then _ else _) = _
  rw [if_neg q.1, if_neg q.2, if_neg (by omega), if_neg (by omega), if_pos a, if_pos b]
theorem litL_close (a : v = 41) (b : d - 1 ≠ 0) : litL (n + 1) (rem ks ps en) d acc = litL n (rem ks (ps + 1) en) (d - 1) (acc ++ [v]) := by
  have q := sle_zero h
  rw [pk_in hlt, ← hv] at q
  rw [rem_cons h0 hlt h2, ← hv]
  show (if _ then _ else _) = _
  rw [if_neg q.1, if_neg q.2, if_neg (by omega), if_neg (by omega), if_pos a, if_neg b, a]
theorem litL_other (a : v ≠ 92) (b : v ≠ 40) (c : v ≠ 41) : litL (n + 1) (rem ks ps en) d acc = litL n (rem ks (ps + 1) en) d (acc ++ [v]) := by
  have q := sle_zero h
  rw [pk_in hlt, ← hv] at q
  rw [rem_cons h0 hlt h2, ← hv]
  show (if _ then _ else _) = _
  rw [if_neg q.1, if_neg q.2, if_neg a, if_neg b, if_neg c]
end
theorem intsAre_app {vs ws : List Value} {a b : List Int} (h : IntsAre vs a) (k : IntsAre ws b) : IntsAre (vs ++ ws) (a ++ b) := by
  induction h with
  | nil => exact k
  | cons n t _ ih => exact .cons n t ih
theorem in_app {a b : List Int} (h : KBa.In a) (k : KBa.In b) : KBa.In (a ++ b) := fun n hn => (List.mem_append.mp hn).elim (h n) (k n)
theorem in_one {n : Int} (h : 0 ≤ n) (k : n < 256) : KBa.In [n] := fun m hm => by rw [List.mem_singleton.mp hm]; exact ⟨h, k⟩
def swL : Bool → List Int → List Int
  | _, [] => []
  | true, x :: t => if x = 10 ∨ x = 13 then swL false t else swL true t
  | false, x :: t => if x = 37 then swL true t else if isWhite x = true then swL false t else x :: t
section
variable {ks : List Int} {p en : Int} (h0 : 0 ≤ p) (h : p < en) (h2 : en ≤ (ks.length : Int))
include h0 h h2
theorem swT_line (a : ([10, 13].any fun x => x == ks.getD p.toNat 0) = true) : swL true (rem ks p en) = swL false (rem ks p en) := by
  rw [rem_cons h0 h h2]
  generalize ks.getD p.toNat 0 = v at a
  simp only [List.any_cons, List.any_nil, Bool.or_false, Bool.or_eq_true, beq_iff_eq] at a
  show (if v = 10 ∨ v = 13 then _ else _) = (if v = 37 then _ else if isWhite v = true then _ else _)
  rw [if_pos (by omega), if_neg (by omega), if_pos (by unfold isWhite; rcases a with rfl | rfl <;> rfl)]
theorem swT_go (a : ([10, 13].any fun x => x == ks.getD p.toNat 0) = false) : swL true (rem ks p en) = swL true (rem ks (p + 1) en) := by
  rw [rem_cons h0 h h2]
  generalize ks.getD p.toNat 0 = v at a
  simp only [List.any_cons, List.any_nil, Bool.or_false, Bool.or_eq_false_iff, beq_eq_false_iff_ne, ne_eq] at a
  show (if v = 10 ∨ v = 13 then _ else _) = _
  rw [if_neg (by omega)]
theorem sw_white (k : ks.getD p.toNat 0 ≠ 37) (a : ([0, 9, 10, 12, 13, 32].any fun x => x == ks.getD p.toNat 0) = true) : swL false (rem ks p en) = swL false (rem ks (p + 1) en) := by
  rw [rem_cons h0 h h2]
  generalize ks.getD p.toNat 0 = v at a k
  show (if v = 37 then _ else if isWhite v = true then _ else _) = _
  rw [if_neg k, if_pos (by exact a)]
theorem sw_stop (k : ks.getD p.toNat 0 ≠ 37) (a : ([0, 9, 10, 12, 13, 32].any fun x => x == ks.getD p.toNat 0) = false) : swL false (rem ks p en) = rem ks p en := by
  rw [rem_cons h0 h h2]
  generalize ks.getD p.toNat 0 = v at a k
  show (if v = 37 then _ else if isWhite v = true then _ else _) = _
  rw [if_neg k, if_neg (by rw [show isWhite v = false from a]; decide)]
end
theorem sw_done {b : Bool} {ks : List Int} {p en : Int} (h : en ≤ p) : swL b (rem ks p en) = rem ks p en := by rw [rem_nil h]; cases b <;> rfl
def hxL : List Int → List Int → Option (List Int × List Int)
  | [], _ => none
  | x :: t, acc => if x = 62 then some (acc, t) else if 0 ≤ hexW x then hxL t (acc ++ [hexW x]) else hxL t acc
def pairsL : List Int → List Int
  | a :: b :: r => (16 * a + b) :: pairsL r
  | [a] => [16 * a]
  | [] => []
theorem pairs_odd : ∀ {acc : List Int}, acc.length % 2 = 1 → pairsL (acc ++ [0]) = pairsL acc
  | [], h => by simp at h
  | [a], _ => by simp [pairsL]
  | a :: b :: r, h => by
    have : pairsL (r ++ [0]) = pairsL r := pairs_odd (by simp only [List.length_cons] at h; omega)
    show (16 * a + b) :: pairsL (r ++ [0]) = _
    rw [this]; rfl
theorem pairs_are : ∀ {ys : List Value} {acc : List Int}, acc.length = 2 * ys.length → (∀ (i : Nat) (v : Value), ys[i]? = some v → ∃ t, v = .int (16 * acc.getD (2 * i) 0 + acc.getD (2 * i + 1) 0) t) → IntsAre ys (pairsL acc)
  | [], acc, h, _ => by
    have : acc = [] := List.eq_nil_of_length_eq_zero (by simpa using h)
    subst this
    exact .nil
  | y :: ys, [], h, _ => by simp at h
  | y :: ys, [a], h, _ => by simp only [List.length_cons, List.length_nil] at h; omega
  | y :: ys, a :: b :: r, h, hv => by
    obtain ⟨t, rfl⟩ := hv 0 y rfl
    refine .cons _ t (pairs_are (by simp only [List.length_cons] at h; omega) fun i v hi => ?_)
    obtain ⟨t', e⟩ := hv (i + 1) v hi
    exact ⟨t', e⟩
theorem pairs_in : ∀ {acc : List Int}, (∀ h ∈ acc, 0 ≤ h ∧ h < 16) → ∀ n ∈ pairsL acc, 0 ≤ n ∧ n < 256
  | [], _, n, hn => nomatch hn
  | [a], h, n, hn => by
    rw [show pairsL [a] = [16 * a] from rfl, List.mem_singleton] at hn
    have := h a (.head _)
    omega
  | a :: b :: r, h, n, hn => by
    have h1 := h a (.head _)
    have h2 := h b (.tail _ (.head _))
    rcases List.mem_cons.mp (show n ∈ (16 * a + b) :: pairsL r from hn) with rfl | hn
    · omega
    · exact pairs_in (fun x hx => h x (.tail _ (.tail _ hx))) n hn
section
variable {ks : List Int} {p en : Int} {acc : List Int} (h0 : 0 ≤ p) (h : ¬ en ≤ p) (h2 : en ≤ (ks.length : Int))
include h0 h h2
theorem hx_end (e : ks.getD p.toNat 0 = 62) : hxL (rem ks p en) acc = some (acc, rem ks (p + 1) en) := by
  rw [rem_cons h0 (by omega) h2, e]; rfl
theorem hx_fig (e : ks.getD p.toNat 0 ≠ 62) (k : 0 ≤ hexW (ks.getD p.toNat 0)) : hxL (rem ks p en) acc = hxL (rem ks (p + 1) en) (acc ++ [hexW (ks.getD p.toNat 0)]) := by
  rw [rem_cons h0 (by omega) h2]
  show (if _ then _ else if _ then _ else _) = _
  rw [if_neg e, if_pos k]
theorem hx_white (e : ks.getD p.toNat 0 ≠ 62) (k : ¬ 0 ≤ hexW (ks.getD p.toNat 0)) : hxL (rem ks p en) acc = hxL (rem ks (p + 1) en) acc := by
  rw [rem_cons h0 (by omega) h2]
  show (if _ then _ else if _ then _ else _) = _
  rw [if_neg e, if_neg k]
end
theorem hx_done {ks : List Int} {p en : Int} {acc : List Int} (h : en ≤ p) : hxL (rem ks p en) acc = none := by rw [rem_nil h]; rfl
theorem hexW_lt (c : Int) : hexW c < 16 := by
  unfold hexW
  (repeat' split) <;> omega
def hashed (t : List Int) : Bool := match t with
  | a :: b :: _ => decide (0 ≤ hexW a) && decide (0 ≤ hexW b)
  | _ => false
def ntL : Nat → List Int → List Int → Option (List Int)
  | 0, _, _ => none
  | _ + 1, [], acc => some acc
  | n + 1, x :: t, acc =>
    if x = 35 ∧ hashed t = true then (if 16 * hexW (t.getD 0 0) + hexW (t.getD 1 0) = 0 then none else ntL n (t.drop 2) (acc ++ [16 * hexW (t.getD 0 0) + hexW (t.getD 1 0)]))
    else if x = 0 then none else ntL n t (acc ++ [x])
theorem clip_in {n : Nat} {i : Int} (h : 0 ≤ i) (k : i ≤ (n : Int)) : clipAt n i = i.toNat := by
  have := clipAt_cast n i
  rw [if_neg (by omega)] at this
  omega
theorem cut_ints {b : Array UInt8} {ks : List Int} {lo hi : Int} (hk : KBw.bInts b = ks) (h0 : 0 ≤ lo) (h1 : lo ≤ hi) (h2 : hi ≤ (ks.length : Int)) :
    KBw.bInts (KBy.picked b (some lo) (some hi)) = (ks.drop lo.toNat).take (hi.toNat - lo.toNat) := by
  rw [KBc.ints_picked hk]
  show (ks.drop (clipAt ks.length lo)).take (clipAt ks.length hi - clipAt ks.length lo) = _
  rw [clip_in (by omega) (by omega), clip_in (by omega) (by omega)]
theorem starts_no {data : Array UInt8} {ks : List Int} {ps en : Int} {w : UInt8} (hk : KBw.bInts data = ks) (h0 : 0 ≤ ps) (hle : ps + ((#[w, w] : Array UInt8).size : Int) ≤ en) (h2 : en ≤ (ks.length : Int))
    (hno : ¬ (pk ks ps en = (w.toNat : Int) ∧ pk ks (ps + 1) en = (w.toNat : Int))) :
    ((KBy.picked data (some ps) (some (ps + ((#[w, w] : Array UInt8).size : Int)))).toList == [w, w]) = false := by
  have hle' : ps + 2 ≤ en := hle
  cases q : ((KBy.picked data (some ps) (some (ps + ((#[w, w] : Array UInt8).size : Int)))).toList == [w, w]) with
  | false => rfl
  | true =>
    exfalso
    have e := congrArg (List.map fun c : UInt8 => (c.toNat : Int)) (eq_of_beq q)
    have e2 : KBw.bInts (KBy.picked data (some ps) (some (ps + 2))) = [(w.toNat : Int), (w.toNat : Int)] := e
    rw [cut_ints hk h0 (by omega) (by omega), show (ps + 2).toNat - ps.toNat = 2 from by omega] at e2
    apply hno
    rw [pk_in (by omega), pk_in (by omega)]
    have g : ∀ i : Nat, i < 2 → ks.getD (ps.toNat + i) 0 = (w.toNat : Int) := fun i hi => by
      have := congrArg (fun l => l.getD i 0) e2
      simp only [List.getD_eq_getElem?_getD, List.getElem?_take, hi, if_true, List.getElem?_drop] at this
      rw [List.getD_eq_getElem?_getD, this]
      match i, hi with
      | 0, _ => rfl
      | 1, _ => rfl
    exact ⟨g 0 (by omega), by rw [show (ps + 1).toNat = ps.toNat + 1 from by omega]; exact g 1 (by omega)⟩
theorem takeWhile_run {ks : List Int} {ps p en : Int} (h0 : 0 ≤ ps) (h1 : ps ≤ p) (hp : p ≤ en) (h2 : en ≤ (ks.length : Int)) (hall : ∀ i : Int, ps ≤ i → i < p → isRegular (ks.getD i.toNat 0) = true)
    (hend : p < en → isRegular (ks.getD p.toNat 0) = false) : (rem ks ps en).takeWhile isRegular = (ks.drop ps.toNat).take (p.toNat - ps.toNat) := by
  obtain ⟨n, hn⟩ : ∃ n : Nat, (n : Int) = p - ps := ⟨(p - ps).toNat, by omega⟩
  induction n generalizing ps with
  | zero =>
    have e : ps = p := by omega
    subst e
    rw [Nat.sub_self, List.take_zero]
    by_cases q : ps < en
    · rw [rem_cons h0 q h2, List.takeWhile_cons, hend q]; rfl
    · rw [rem_nil (by omega)]; rfl
  | succ n ih =>
    rw [rem_cons h0 (by omega) h2, List.takeWhile_cons, if_pos (hall ps (Int.le_refl _) (by omega)), ih (by omega) (by omega) (fun i a b => hall i (by omega) b) (by omega)]
    have hl : ps.toNat < ks.length := by omega
    rw [show p.toNat - ps.toNat = (p.toNat - (ps + 1).toNat) + 1 from by omega, List.drop_eq_getElem_cons hl, List.take_succ_cons, List.getD_eq_getElem?_getD, List.getElem?_eq_getElem hl, show (ps + 1).toNat = ps.toNat + 1 from by omega]
    rfl
theorem size_two {k : Nat} {b : Int} (h : b = 2 * (k : Int)) : Builtin.Range.rangeSize 0 b 2 = (k : Int) := by
  unfold Builtin.Range.rangeSize
  rw [if_pos (by decide)]
  by_cases q : (0 : Int) < b
  · rw [if_pos q]; omega
  · rw [if_neg q]; omega
theorem small_two {k : Nat} {b : Int} (h : b = 2 * (k : Int)) (hk : k ≤ 1000000) : Builtin.Range.small 0 b 2 = true := by
  unfold Builtin.Range.small
  rw [size_two h]
  simp only [Builtin.Range.rangeFitsLong, Bool.and_eq_true, Bool.or_eq_true, decide_eq_true_eq, beq_iff_eq, show (2 : Int) > 0 by decide, if_true]
  omega
theorem rem_all (ks : List Int) : rem ks 0 (ks.length : Int) = ks := by
  unfold rem
  rw [Int.toNat_natCast, List.take_length]; rfl
section
variable {ks : List Int} {p : Int} {n : Nat} {acc : List Int} (h0 : 0 ≤ p) (h : p < (ks.length : Int))
include h0 h
theorem nt_hash (e : ks.getD p.toNat 0 = 35) (l : p + 1 + 1 < (ks.length : Int)) (a : 0 ≤ hexW (ks.getD (p + 1).toNat 0)) (b : 0 ≤ hexW (ks.getD (p + 1 + 1).toNat 0)) :
    ntL (n + 1) (rem ks p (ks.length : Int)) acc = if 16 * hexW (ks.getD (p + 1).toNat 0) + hexW (ks.getD (p + 1 + 1).toNat 0) = 0 then none else ntL n (rem ks (p + 1 + 2) (ks.length : Int)) (acc ++ [16 * hexW (ks.getD (p + 1).toNat 0) + hexW (ks.getD (p + 1 + 1).toNat 0)]) := by
  rw [rem_cons h0 h (Int.le_refl _), rem_cons (ps := p + 1) (by omega) (by omega) (Int.le_refl _), rem_cons (ps := p + 1 + 1) (by omega) (by omega) (Int.le_refl _), e]
  generalize ks.getD (p + 1).toNat 0 = x at a
  generalize ks.getD (p + 1 + 1).toNat 0 = y at b
  show (if _ then _ else if _ then _ else _) = _
  rw [if_pos ⟨rfl, by show (decide _ && decide _) = true; rw [decide_eq_true a, decide_eq_true b]; rfl⟩, show p + 1 + 2 = p + 1 + 1 + 1 from by omega]
  rfl
theorem nt_zero (e : ks.getD p.toNat 0 = 0) : ntL (n + 1) (rem ks p (ks.length : Int)) acc = none := by
  rw [rem_cons h0 h (Int.le_refl _), e]
  show (if _ then _ else if _ then _ else _) = _
  rw [if_neg (fun q => by have := q.1; omega), if_pos rfl]
theorem nt_plain (e : ks.getD p.toNat 0 ≠ 0) (k : ks.getD p.toNat 0 ≠ 35 ∨ ¬ p + 1 + 1 < (ks.length : Int) ∨ ¬ 0 ≤ hexW (ks.getD (p + 1).toNat 0) ∨ ¬ 0 ≤ hexW (ks.getD (p + 1 + 1).toNat 0)) :
    ntL (n + 1) (rem ks p (ks.length : Int)) acc = ntL n (rem ks (p + 1) (ks.length : Int)) (acc ++ [ks.getD p.toNat 0]) := by
  rw [rem_cons h0 h (Int.le_refl _)]
  show (if _ then _ else if _ then _ else _) = _
  rw [if_neg (fun q => ?_), if_neg e]
  obtain ⟨q1, q2⟩ := q
  rcases k with k | k | k
  · exact k q1
  · by_cases l : p + 1 < (ks.length : Int)
    · rw [rem_cons (ps := p + 1) (by omega) l (Int.le_refl _), rem_nil (by omega)] at q2; cases q2
    · rw [rem_nil (by omega)] at q2; cases q2
  · by_cases l : p + 1 + 1 < (ks.length : Int)
    · rw [rem_cons (ps := p + 1) (by omega) (by omega) (Int.le_refl _), rem_cons (ps := p + 1 + 1) (by omega) (by omega) (Int.le_refl _)] at q2
      have q3 : (decide (0 ≤ hexW (ks.getD (p + 1).toNat 0)) && decide (0 ≤ hexW (ks.getD (p + 1 + 1).toNat 0))) = true := q2
      rw [Bool.and_eq_true, decide_eq_true_eq, decide_eq_true_eq] at q3
      rcases k with k | k
      · exact k q3.1
      · exact k q3.2
    · by_cases l' : p + 1 < (ks.length : Int)
      · rw [rem_cons (ps := p + 1) (by omega) l' (Int.le_refl _), rem_nil (by omega)] at q2; cases q2
      · rw [rem_nil (by omega)] at q2; cases q2
end
theorem nt_done {ks : List Int} {p : Int} {n : Nat} {acc : List Int} (h : (ks.length : Int) ≤ p) : ntL (n + 1) (rem ks p (ks.length : Int)) acc = some acc := by rw [rem_nil h]; rfl
theorem tw_len {ks : List Int} {ps en : Int} {f : Int → Bool} (h : ks.length ≤ 100000) : ((rem ks ps en).takeWhile f).length ≤ 100000 := by
  have h1 : ((rem ks ps en).takeWhile f).length ≤ (rem ks ps en).length := (List.takeWhile_prefix f).length_le
  have h2 : (rem ks ps en).length ≤ ks.length := by
    unfold rem
    rw [List.length_drop, List.length_take]
    omega
  omega
theorem pk_head {ks : List Int} {p en x : Int} {r : List Int} (h0 : 0 ≤ p) (h2 : en ≤ (ks.length : Int)) (h : rem ks p en = x :: r) : pk ks p en = x := by rw [pk_rem h0 h2, h]; rfl
theorem at_head {ks : List Int} {p en x : Int} {r : List Int} (h0 : 0 ≤ p) (h2 : en ≤ (ks.length : Int)) (h : rem ks p en = x :: r) : p = en - ((r.length : Int) + 1) ∧ p < en ∧ rem ks (p + 1) en = r := by
  have l := rem_length (ps := p) h0 h2
  rw [h, List.length_cons] at l
  have hlt : p < en := by omega
  refine ⟨by omega, hlt, ?_⟩
  rw [rem_cons h0 hlt h2] at h
  exact (List.cons.inj h).2
/-- a number in octal figures -/
def octD (n : Int) (j : Nat) : Int := 48 + (n.fdiv (8 ^ j)).fmod 8
def octS : Nat → Int → List Int
  | 0, _ => []
  | w + 1, n => octD n w :: octS w n
theorem octD_in (n : Int) (j : Nat) : 48 ≤ octD n j ∧ octD n j ≤ 55 := by
  unfold octD
  have := Int.fmod_nonneg_of_pos (n.fdiv (8 ^ j)) (show (0 : Int) < 8 by decide)
  have := Int.fmod_lt_of_pos (n.fdiv (8 ^ j)) (show (0 : Int) < 8 by decide)
  omega
theorem octS_in : ∀ (w : Nat) (n : Int), KBa.In (octS w n)
  | 0, _ => fun _ h => nomatch h
  | w + 1, n => fun x hx => by
    rcases List.mem_cons.mp hx with rfl | hx
    · have := octD_in n w; omega
    · exact octS_in w n x hx
theorem octS_are {n : Int} : ∀ {w : Nat} {ys : List Value}, ys.length = w → (∀ (i : Nat) (v : Value), ys[i]? = some v → ∃ t, v = .int (octD n (w - 1 - i)) t) → IntsAre ys (octS w n)
  | 0, ys, h, _ => by
    have : ys = [] := List.eq_nil_of_length_eq_zero h
    subst this; exact .nil
  | w + 1, y :: ys, h, hv => by
    obtain ⟨t, rfl⟩ := hv 0 y rfl
    refine .cons _ t (octS_are (by simpa using h) fun i v hi => ?_)
    obtain ⟨t', e⟩ := hv (i + 1) v hi
    exact ⟨t', by rw [e, show w + 1 - 1 - (i + 1) = w - 1 - i from by omega]⟩
/-- a way to spell a code; bf: a figure or a line feed follows -/
def CodeOk (code : Int) (bf : Bool) (w : List Int) : Prop :=
  w = 92 :: octS 3 code ∨ w = 92 :: octS 3 (code + 256) ∨ (w = [code] ∧ ([40, 41, 92, 13, 10] : List Int).any (· == code) = false)
  ∨ (code = 10 ∧ (w = [10] ∨ w = [13, 10] ∨ w = [13] ∧ bf = false)) ∨ (code = 10 ∧ w = [92, 110] ∨ code = 13 ∧ w = [92, 114] ∨ code = 9 ∧ w = [92, 116] ∨ code = 8 ∧ w = [92, 98] ∨ code = 12 ∧ w = [92, 102])
  ∨ (code < 64 ∧ bf = false ∧ (7 < code ∧ w = 92 :: octS 2 code ∨ code ≤ 7 ∧ w = 92 :: octS 1 code))
  ∨ (w = [92, code] ∧ ([10, 13, 110, 114, 116, 98, 102] : List Int).any (· == code) = false ∧ ¬ (48 ≤ code ∧ code ≤ 55))
def WaysOk (code : Int) (bf : Bool) (vs : List Value) : Prop := ∀ v ∈ vs, ∃ (b : Array UInt8) (t : Tok), v = .bytes b t ∧ CodeOk code bf (KBw.bInts b)
theorem WaysOk.app {code : Int} {bf : Bool} {vs ws : List Value} (h : WaysOk code bf vs) (k : WaysOk code bf ws) : WaysOk code bf (vs ++ ws) := fun v hv => (List.mem_append.mp hv).elim (h v) (k v)
theorem WaysOk.one {code : Int} {bf : Bool} {b : Array UInt8} {t : Tok} (h : CodeOk code bf (KBw.bInts b)) : WaysOk code bf [.bytes b t] := fun v hv => by rw [List.mem_singleton.mp hv]; exact ⟨b, t, rfl, h⟩
theorem size_down {k : Nat} {a : Int} (h : a = (k : Int) - 1) : Builtin.Range.rangeSize a (-1) (-1) = (k : Int) := by
  unfold Builtin.Range.rangeSize
  rw [if_neg (by decide)]
  by_cases q : a > -1
  · rw [if_pos q, show (- -1 : Int) = 1 from rfl, Int.ediv_one]; omega
  · rw [if_neg q]; omega
theorem small_down {k : Nat} {a : Int} (h : a = (k : Int) - 1) (hk : k ≤ 1000000) : Builtin.Range.small a (-1) (-1) = true := by
  unfold Builtin.Range.small
  rw [size_down h]
  simp only [Builtin.Range.rangeFitsLong, Bool.and_eq_true, Bool.or_eq_true, decide_eq_true_eq, beq_iff_eq, show ¬ ((-1 : Int) > 0) by decide, if_false]
  omega
theorem plainEsc_in {c : Int} (h : 0 ≤ c ∧ c < 256) : 0 ≤ plainEsc c ∧ plainEsc c < 256 := by
  unfold plainEsc
  (repeat' split) <;> omega
theorem octL_in (first : Int) (r : List Int) : 0 ≤ (octL first r).1 ∧ (octL first r).1 < 256 := by
  unfold octL
  have := Int.fmod_nonneg_of_pos (octGo 2 (first - 48) r).1 (show (0 : Int) < 256 by decide)
  have := Int.fmod_lt_of_pos (octGo 2 (first - 48) r).1 (show (0 : Int) < 256 by decide)
  exact ⟨by assumption, by assumption⟩
theorem escL_in {r : List Int} (h : KBa.In r) : KBa.In (escL r).1 := by
  cases r with
  | nil => exact fun n hn => nomatch hn
  | cons x t =>
    have hx := h x (.head _)
    show KBa.In (if x = 13 then ([], if t.headD (-1) = 10 then t.drop 1 else t) else if x = 10 then ([], t) else if isOct x = true then ([(octL x t).1], (octL x t).2) else ([plainEsc x], t)).1
    by_cases a : x = 13
    · rw [if_pos a]; exact fun n hn => nomatch hn
    rw [if_neg a]
    by_cases b : x = 10
    · rw [if_pos b]; exact fun n hn => nomatch hn
    rw [if_neg b]
    by_cases c : isOct x = true
    · rw [if_pos c]; exact in_one (octL_in x t).1 (octL_in x t).2
    · rw [if_neg c]; exact in_one (plainEsc_in hx).1 (plainEsc_in hx).2
theorem rem_in {b : Array UInt8} {ks : List Int} {ps en : Int} (h : KBw.bInts b = ks) : KBa.In (rem ks ps en) := fun n hn => KBw.ints_in (b := b) (by rw [h]; exact rem_mem hn)
end Mine
end
section
open PySem PySem.W PyProof.Rows PySem.Calls PySem.Spec
namespace Mine
abbrev bmS : List Value := [.ref 46, .type "Exception", .type "BaseException", .type "object"]
abbrev synObj : Obj := excClassObj (Str.ofString "SyntaxFault") (Str.ofString "SyntaxFault") 59 58 [.ref 46] bmS true [] [] false none none (some (.ref 50)) none (some (.str (Str.ofString "SyntaxFault") 236)) (some (.str (Str.ofString "SyntaxFault") 244)) (some (.bool true)) "Exception.__new__"
theorem syn_at {P : Params} {h : Heap} (X : (Mine.hd.heap_1 P).In h) : h.get? 59 = some synObj := X 59 synObj (by with_unfolding_all rfl)
section
variable {prog : Program} {w : World} {A : Around} {R : Result → Shared → Prop} {h : Heap} {g : Array GenState} {d : Drawn} {t : Nat} {os : OsState} {P : Params}
abbrev excObj (od : Option Addr) (t : Addr) : Obj := { cls := .ref 59, dict := od, data := .fields #[.ref t, .none, .none, .none, .bool false, .none] }
set_option maxHeartbeats 4000000 in
theorem exc_check {M : Model} {E : Value → Shared → Prop} {rest : List Value} {Q : Unit → Shared → Prop} (hC : h.get? 59 = some synObj) (hq : Q () ⟨h, g, d, t, os⟩) :
    wpAny M A (checkBuiltinCall "Exception.__new__" ⟨.ref 59 :: rest, []⟩) Q E ⟨h, g, d, t, os⟩ := by
  have F := PySem.F.excBase_Exception
  have hcont : (Value.ref 59 :: bmS).contains (.type "Exception") = true := by decide +kernel
  have hstar := F.noStar
  simp only [checkBuiltinCall, F.newKind, F.newSplit, F.newRow]
  repeat (first | refine wpAny_loadPart_at hC ?_ | (refine wpAny_isSubtype_exc hC ?_; rw [hcont]) | refine wpAny_staticBase_exc hC ?_ | refine wpAny_madeBy_exc hC ?_ | simp only [bne_self_eq_false, Bool.false_eq_true, if_false] | wp_step)
  exact hq
set_option maxHeartbeats 4000000 in
theorem exc_new {rest : List Value} (hC : h.get? 59 = some synObj) (hrest : rest.length ≤ sizeLine)
    (hq : R (.ok (.ret (.ref (h.objs.size + 1)))) ⟨(h.push { cls := .type "tuple", data := .seq rest.toArray }).push (excObj none h.objs.size), g, d, t, os⟩) :
    codeAny (model prog w) A (.builtin "Exception.__new__" ⟨.ref 59 :: rest, []⟩) R ⟨h, g, d, t, os⟩ := by
  have F := PySem.F.excBase_Exception
  have hends := F.ends
  have hcB : (Value.ref 59 :: bmS).contains (.type "Exception") = true := by decide +kernel
  have hcA : (Value.ref 59 :: bmS).contains (.type "AttributeError") = false := by decide +kernel
  have hcN : (Value.ref 59 :: bmS).contains (.type "NameError") = false := by decide +kernel
  refine codeAny_builtinAt F.entry ?_
  unfold Builtin.«BaseException.__new__»
  refine PySem.wpAt_bind ?_
  show PySem.wpAt _ _ _ (stack >>= _) _ _ _
  refine PySem.wpAt_bind (PySem.wpAt_stack fun p below => PySem.wpAt_of_wpAny ?_)
  wp_walk
  refine PySem.wpAt_of_wpAny ?_
  rw [F.owner]
  repeat (first | with_reducible refine wpAny_madeHere_exc F.canon hC ?_ | with_reducible refine wpAny_loadPart_at hC ?_ | (with_reducible refine wpAny_isSubtype_exc hC ?_; first | rw [hcB] | rw [hcA] | rw [hcN]) | wp_step)
  show R _ _
  rw [Heap.size_push]
  exact hq
set_option maxHeartbeats 4000000 in
theorem exc_call {rest : List Value} (X : (Mine.hd.heap_1 w.params).In h) (hrest : rest.length ≤ sizeLine)
    (hq : codeAny (model prog w) (A.under (.builtin "type.__call__" ⟨.ref 59 :: rest, []⟩)) (.call (.ref 36) ⟨.ref (h.objs.size + 1) :: rest, []⟩) (InitBack (h.objs.size + 1) R) ⟨(h.push { cls := .type "tuple", data := .seq rest.toArray }).push (excObj none h.objs.size), g, d, t, os⟩) :
    codeAny (model prog w) A (.call (.ref 59) ⟨rest, []⟩) R ⟨h, g, d, t, os⟩ := by
  have hC := syn_at X
  have call : Looks (model prog w) h (specialOf (.ref 59) "__call__") (some (.builtin "type.__call__")) := looks_specialIn X (by with_unfolding_all rfl)
  have typ : Looks (model prog w) h (isInstance (.ref 59) (.type "type")) true := looks_instIn X (by with_unfolding_all rfl)
  have hi : Looks (model prog w) h (typeLookup (.ref 59) "__init__") (some (.ref 36)) := looks_findIn X (by with_unfolding_all rfl)
  have hb : ∀ self, Looks (model prog w) h (bindSpecial (.ref 36) self) (.ref 36, [self]) := fun self => bind_fn X self (by with_unfolding_all rfl)
  have self : Looks (model prog w) h (isSubtype (.ref 59) (.ref 59)) true := looks_subIn X (by with_unfolding_all rfl)
  refine codeAny_of_tree ?_
  show wpAny _ _ (callAny (.ref 59) _) _ _ _
  refine nd_load hC ?_
  show wpAny _ _ (callAny.viaDunder (.ref 59) _) _ _ _
  unfold callAny.viaDunder
  refine wpAny_bind (call.at ?_)
  dsimp only
  rw [tc_bind]
  refine wpAny_bind (wpAny_pure (wpAny_bind (wpAny_pure ?_)))
  refine wpAny_pure (a := Fin.again (.call (.builtin "type.__call__") ⟨.ref 59 :: rest, []⟩)) (And.intro rfl ?_)
  refine codeAny_call_builtin_at (Code.quiet_builtin _ (by decide +kernel)) entry_typeCall (check_slot tc_kind tc_split typ (tc_args _ _ _) ?_)
  unfold Builtin.«type.__call__»
  have made : Looks (model prog w) h (Bind.madeBy (.ref 59)) (some "Exception.__new__") := fun A Q E s k q => by
    obtain ⟨hh, g, d, t, os⟩ := s
    exact wpAny_madeBy_exc (k _ _ hC) q
  have hm : Looks (model prog w) h (mroOf (.ref 59)) (.ref 59 :: bmS) := fun A Q E s k q => by
    obtain ⟨hh, g, d, t, os⟩ := s
    exact wpAny_mroOf_exc (k _ _ hC) q
  repeat (first | simp only [Bool.false_eq_true, if_false] | with_reducible refine wpAny_call ?_ | lk)
  have F := PySem.F.excBase_Exception
  refine codeAny_call_builtin_code (Code.quiet_builtin _ F.quiet) (exc_check hC ?_)
  refine exc_new hC hrest ?_
  dsimp only
  have k : ∀ b o, h.get? b = some o → ((h.push { cls := .type "tuple", data := .seq rest.toArray }).push (excObj none h.objs.size)).get? b = some o := fun b o e => Heap.get?_push_of_some _ (Heap.get?_push_of_some _ e)
  have hx : ((h.push { cls := .type "tuple", data := .seq rest.toArray }).push (excObj none h.objs.size)).get? (h.objs.size + 1) = some (excObj none h.objs.size) := by heap_get
  have t1 : Looks (model prog w) ((h.push { cls := .type "tuple", data := .seq rest.toArray }).push (excObj none h.objs.size)) (typeOf (.ref (h.objs.size + 1))) (.ref 59) := (Looks.ld hx).andThen .now
  have s1 := self.keeps k
  have i1 := hi.keeps k
  have b1 := (hb (.ref (h.objs.size + 1))).keeps k
  unfold isInstance callSpecial? specialOf
  repeat (first | with_reducible refine wpAny_call ?_ | lk)
  refine codeAny_mono hq fun r s' z => ?_
  rcases r with e | (v | _ | _ | _) <;> first | exact z | exact z.elim | skip
  obtain ⟨rfl, z⟩ := z
  exact wpAny_pure (wpAny_pure z)
end
end Mine
end
section
open PySem PySem.W PyProof.Rows PySem.Calls PySem.Spec Builtin Builtin.ObjectAttr
namespace Mine
section
variable {prog : Program} {w : World} {A : Around} {E : Value → Shared → Prop} {h₀ : Heap} {L e t : Addr} {m : Str → Option Value} {news : List (Addr × Obj)} {s : Shared}
theorem exc_refuse (self : Value) : refuseLoop self "__setattr__" (.ref 59 :: bmS) = pure () := by
  rw [refuseLoop_ref, refuseLoop_ref]
  first
    | kernel_rfl
    | (cases self <;> kernel_rfl)
/-- a store into an exception: the walk to its own dict -/
theorem exc_osa {od : Option Addr} {name : Str} {tk : Tok} {v : Value} {R : Result → Shared → Prop} (X : (Mine.hd.heap_1 w.params).In s.heap) (he : s.heap.get? e = some (excObj od t))
    (hf : findIn (Mine.hd.heap_1 w.params) (.ref 59) name = some none)
    (h : wpAny (model prog w) A.in1 (storeInOwnDict (.ref e) (.ref 59) (.str name tk) name v false)
      (fun fin s' => match fin with | .done f => R (.ok f) s' | .again c' => c'.quiet = true ∧ codeAny (model prog w) A c' R s') (fun e s' => R (.error e) s') s) :
    codeAny (model prog w) A (.call (.builtin "object.__setattr__") ⟨[.ref e, .str name tk, v], []⟩) R s := by
  have SF := PySem.F.store_object
  have ty : Looks (model prog w) s.heap (typeOf (.ref e)) (.ref 59) := (Looks.ld he).andThen .now
  have sub : Looks (model prog w) s.heap (isInstance (.ref e) (.type "object")) true := ty.andThen (looks_subIn X (by with_unfolding_all rfl))
  have hC := syn_at X
  have hm : Looks (model prog w) s.heap (mroOf (.ref 59)) (.ref 59 :: bmS) := fun A Q E s k q => by
    obtain ⟨hh, g, d, t, os⟩ := s
    exact wpAny_mroOf_exc (k _ _ hC) q
  refine codeAny_call_builtin SF.slot.plain SF.entry (@check_slot (model prog w) _ _ s "object.__setattr__" "object" "__setattr__" (.ref e) [.str name tk, v] [] _ SF.kind SF.split sub (SF.args (.ref e) (.str name tk) v) ?_)
  rw [osa_eq, refuse_eq]
  refine wpAny_bind (wpAny_bind (ty.here (wpAny_bind (hm.here ?_))))
  rw [exc_refuse]
  refine wpAny_pure (wpAny_bind (ty.here (wpAny_bind ((looks_findIn X hf).here (wpAny_bind ?_)))))
  exact Looks.now.here h
theorem exc_setattr {od : Option Addr} {name : Str} {v : Value} {Q : Unit → Shared → Prop} (X : (Mine.hd.heap_1 w.params).In s.heap) (he : s.heap.get? e = some (excObj od t))
    (h : codeAny (model prog w) A (.call (.builtin "object.__setattr__") ⟨[.ref e, .str name s.toks, v], []⟩) (fun r s' => match r with | .ok (.ret _) => Q () s' | .ok _ => False | .error e => E e s') { s with toks := s.toks + 1 }) :
    wpAny (model prog w) A (setAttr (.ref e) name v) Q E s := by
  have ty : Looks (model prog w) s.heap (typeOf (.ref e)) (.ref 59) := (Looks.ld he).andThen .now
  have hs : findIn (Mine.hd.heap_1 w.params) (.ref 59) "__setattr__" = some (some (.builtin "object.__setattr__")) := by with_unfolding_all rfl
  refine wpAny_bind (wpAny_mkText (wpAny_bind (wpAny_bind (wpAny_bind (ty _ _ _ _ (fun _ _ e => e) (looks_findIn X hs _ _ _ _ (fun _ _ e => e) (wpAny_holding ?_)))))))
  rw [PySem.F.store_object.slot.bind]
  refine wpAny_bind (wpAny_pure (wpAny_bind (wpAny_call (codeAny_mono h fun r s' z => ?_))))
  rcases r with e | (v | _ | _ | _) <;> first | exact z | exact wpAny_pure (wpAny_pure z)
/-- what the store leaves in the dict -/
theorem exc_store {es es' : List DictEntry} {n n' : Nat} {name : Str} {v : Value} {tk : Tok} {dx : Addr} {Q : PySem.Fin → Shared → Prop}
    (F : Fr h₀ L s.heap m) (N : News h₀ L s.heap ((dx, dictOf es n) :: news)) (hne : ∀ p ∈ news, p.1 ≠ dx)
    (hl : (getL name es).isSome = true) (hput : (putL name (PyData.keyHash w.params name) (.str name s.toks) v es, putN name es n) = (es', n')) (hz : es'.length ≤ 1000)
    (h : ∀ h', Fr h₀ L h' m → News h₀ L h' ((dx, dictOf es' n') :: news) → Q (.done (.ret .none)) { s with heap := h', toks := s.toks + 1 }) :
    wpAny (model prog w) A (storeInDict dx (.str name tk) name v) Q E s := by
  have hD := (N (dx, dictOf es n) (.head _)).1
  obtain ⟨e1, e2⟩ := Prod.mk.inj hput
  have hput' : Obj.putName name (PyData.keyHash w.params name) (.str name s.toks) v (dictOf es n) = dictOf es' n' := by rw [putName_dict, e1, e2]
  obtain ⟨U1, U2⟩ := news_upd (f := Obj.putName name (PyData.keyHash w.params name) (.str name s.toks) v) (pre := []) F N (fun _ hp => nomatch hp) hne hput' rfl
  have D' := (U2 (dx, dictOf es' n') (.head _)).1
  unfold storeInDict
  refine wpAny_bind (wpAny_pure (wpAny_bind ?_))
  unfold nsSet
  refine wpAny_bind (wpAny_bind (wpAny_askSetting (wpAny_pure (wpAny_bind (wpAny_mkText (wpAny_bind (wpAny_loadPart hD ?_)))))))
  dsimp only
  have c : (!es.toArray.any (·.key.isStr name) && es.toArray.any (·.refKey)) = false := by
    unfold getL at hl
    rw [← Array.any_toList, ← Array.any_toList]
    simp only [List.toList_toArray]
    split at hl
    · rename_i en he
      rw [List.any_eq_true.mpr ⟨en, List.mem_of_find?_eq_some he, List.find?_some he⟩]; rfl
    · split at hl
      · cases hl
      · rename_i z; rw [Bool.not_eq_true] at z; rw [z, Bool.and_false]
  rw [aRefKeyMayBeTheName_at, c]
  refine wpAny_updatePart hD ?_
  refine wpAny_bind (wpAny_lookBehind D' (by exact pastItsLine_dict (by rw [List.size_toArray, sizeLine_eq]; omega)) ?_)
  exact wpAny_pure (h _ U1 U2)
theorem clsData_syn {h : Heap} (X : (Mine.hd.heap_1 w.params).In h) {M : Model} {A : Around} {E : Value → Shared → Prop} {s : Shared} {Q : ClassData → Shared → Prop} (k : ∀ b o, h.get? b = some o → s.heap.get? b = some o)
    (hq : ∀ cd : ClassData, cd.hasDict = true → Q cd s) : wpAny M A (classData 59) Q E s := by
  have hC := k _ _ (syn_at X)
  unfold classData
  exact wpAny_bind (wpAny_load hC (wpAny_pure (hq _ rfl)))
/-- the first store: the dict is made -/
theorem exc_first {name : Str} {v : Value} {Q : Unit → Shared → Prop} (X : (Mine.hd.heap_1 w.params).In h₀) (F : Fr h₀ L s.heap m) (N : News h₀ L s.heap ((e, excObj none t) :: news)) (hne : ∀ p ∈ news, p.1 ≠ e)
    (hf : findIn (Mine.hd.heap_1 w.params) (.ref 59) name = some none)
    (h : ∀ h' dx tk, Fr h₀ L h' m → News h₀ L h' ((dx, dictOf [⟨PyData.keyHash w.params name, .str name tk, v⟩] 1) :: (e, excObj (some dx) t) :: news) → AllLt dx ((e, excObj none t) :: news) → Q () { s with heap := h', toks := s.toks + 2 }) :
    wpAny (model prog w) A (setAttr (.ref e) name v) Q E s := by
  obtain ⟨hh, g, d, tks, os⟩ := s
  dsimp only at F N h
  have X₁ := X.keeps F.keep
  have he := (N _ (.head _)).1
  dsimp only at he
  refine exc_setattr (s := ⟨hh, g, d, tks, os⟩) X₁ he ?_
  refine exc_osa (s := ⟨hh, g, d, tks + 1, os⟩) X₁ he hf ?_
  have F₁ := F.push emptyDict
  have N₁ := N.push F emptyDict
  obtain ⟨U1, U2⟩ := news_upd (f := fun o => { o with dict := some hh.objs.size }) (pre := [(hh.objs.size, emptyDict)]) (o' := excObj (some hh.objs.size) t) F₁ N₁ (fun p hp => by rw [List.mem_singleton.mp hp]; exact Nat.ne_of_gt (Heap.lt_size he)) hne rfl rfl
  have lt : AllLt hh.objs.size ((e, excObj none t) :: news) := allLt_of fun p hp => Heap.lt_size (N p hp).1
  refine wpAny_bind (wpAny_pure (wpAny_bind (wpAny_bind (wpAny_loadPart he (wpAny_bind (clsData_syn X₁ (fun _ _ e => e) fun cd hcd => ?_))))))
  rw [hcd]
  dsimp only
  refine wpAny_bind (wpAny_alloc (wpAny_bind (wpAny_update (Heap.get?_push_of_some _ he) ?_)))
  refine wpAny_pure (a := some hh.objs.size) ?_
  dsimp only
  refine exc_store (es := []) (n := 0) (s := ⟨_, g, d, tks + 1, os⟩) U1 U2 (fun p hp => ?_) rfl rfl (by show 1 ≤ 1000; omega) fun h' F' N' => h h' hh.objs.size _ F' N' lt
  rcases List.mem_cons.mp hp with rfl | hp
  · exact Nat.ne_of_lt (Heap.lt_size he)
  · exact Nat.ne_of_lt (Heap.lt_size (N p (.tail _ hp)).1)
/-- a store behind it -/
theorem exc_next {es es' : List DictEntry} {n n' : Nat} {dx : Addr} {name : Str} {v : Value} {Q : Unit → Shared → Prop} (X : (Mine.hd.heap_1 w.params).In h₀) (F : Fr h₀ L s.heap m) (N : News h₀ L s.heap ((dx, dictOf es n) :: (e, excObj (some dx) t) :: news))
    (hne : ∀ p ∈ (e, excObj (some dx) t) :: news, p.1 ≠ dx) (hf : findIn (Mine.hd.heap_1 w.params) (.ref 59) name = some none) (hl : (getL name es).isSome = true)
    (hput : (putL name (PyData.keyHash w.params name) (.str name (s.toks + 1)) v es, putN name es n) = (es', n')) (hz : es'.length ≤ 1000)
    (h : ∀ h', Fr h₀ L h' m → News h₀ L h' ((dx, dictOf es' n') :: (e, excObj (some dx) t) :: news) → Q () { s with heap := h', toks := s.toks + 2 }) :
    wpAny (model prog w) A (setAttr (.ref e) name v) Q E s := by
  obtain ⟨hh, g, d, tks, os⟩ := s
  dsimp only at F N h hput
  have X₁ := X.keeps F.keep
  have he := (N _ (.tail _ (.head _))).1
  dsimp only at he
  refine exc_setattr (s := ⟨hh, g, d, tks, os⟩) X₁ he ?_
  refine exc_osa (s := ⟨hh, g, d, tks + 1, os⟩) X₁ he hf ?_
  refine wpAny_bind (wpAny_pure (wpAny_bind (wpAny_bind (wpAny_loadPart he (wpAny_bind (clsData_syn X₁ (fun _ _ e => e) fun cd hcd => ?_))))))
  rw [hcd]
  refine wpAny_pure (a := some dx) ?_
  dsimp only
  exact exc_store (s := ⟨_, g, d, tks + 1, os⟩) F N hne hl hput hz fun h' F' N' => h h' F' N'
/-- Exception.__init__(e, v): other args -/
theorem exc_init {v : Value} {od : Option Addr} {Q : Value → Shared → Prop} (X : (Mine.hd.heap_1 w.params).In h₀) (F : Fr h₀ L s.heap m) (N : News h₀ L s.heap ((e, excObj od t) :: news)) (hne : ∀ p ∈ news, p.1 ≠ e)
    (h : ∀ h' t', Fr h₀ L h' m → News h₀ L h' ((e, excObj od t') :: news) → Q .none { s with heap := h' }) :
    wpAny (model prog w) A (call (.builtin "Exception.__init__") [.ref e, v]) Q E s := by
  obtain ⟨hh, g, d, tks, os⟩ := s
  dsimp only at F N h
  have X₁ := X.keeps F.keep
  have he := (N _ (.head _)).1
  dsimp only at he
  have hC := syn_at X₁
  have FF := PySem.F.excBase_Exception
  have hcB : (Value.ref 59 :: bmS).contains (.type "Exception") = true := by decide +kernel
  have hshort := FF.noStar
  refine wpAny_call (codeAny_call_builtin FF.init.plain FF.initEntry ?_)
  have ck : ∀ {A : Around} {Q' : Unit → Shared → Prop} {E' : Value → Shared → Prop}, Q' () ⟨hh, g, d, tks, os⟩ → wpAny (model prog w) A (checkBuiltinCall "Exception.__init__" ⟨[.ref e, v], []⟩) Q' E' ⟨hh, g, d, tks, os⟩ := by
    intro A Q' E' hq
    simp only [checkBuiltinCall, FF.initKind, FF.initSplit, FF.initRow]
    repeat (first | (with_reducible refine wpAny_loadPart_at he ?_) | with_reducible refine wpAny_loadPart_at hC ?_ | (with_reducible refine wpAny_isSubtype_exc hC ?_; rw [hcB]) | wp_step)
    exact hq
  refine ck ?_
  wp_walk
  have F₁ := F.push { cls := .type "tuple", data := .seq #[v] }
  have N₁ := N.push F { cls := .type "tuple", data := .seq #[v] }
  obtain ⟨U1, U2⟩ := news_upd (f := Obj.mapFields fun x => x.setIfInBounds 0 (Value.ref hh.objs.size)) (pre := [(hh.objs.size, { cls := .type "tuple", data := .seq #[v] })]) (o' := excObj od hh.objs.size) F₁ N₁ (fun p hp => by rw [List.mem_singleton.mp hp]; exact Nat.ne_of_gt (Heap.lt_size he)) hne rfl rfl
  exact h _ _ U1 fun q hq => U2 q (.tail _ hq)
end
end Mine
end
section
open PySem PySem.W PyProof.Rows PySem.Calls
namespace Mine
theorem syn_call {w : World} {dp un : Nat} {gd : Option (List Code)} {cn : Str} {cs : Scope} {a : Addr} {ccd : Value} {cl : List (Str × Addr)} {outer : List Env} {A₀ : Around} {base h₀ : Heap} {L : Addr} {m : Str → Option Value} {s : Shared} {Q E : Value → Shared → Prop} {mg mb : Str → Option Value} {mean : ExcName → Option Value} {loose : List Str} {news : List (Addr × Obj)} {what : Str} {t1 t2 : Tok} {pl : Int}
  (B : Below A₀ base outer h₀) (F : Fr h₀ L s.heap m) (X : (Mine.hd.heap_1 w.params).In h₀) (N : News h₀ L s.heap (news)) (T : Top Mine.view loose mean mg mb h₀) (hk : cs.kind = .function) (hd : dp + 8 < recursionLimit) (hu : un + 100 < cLine)
  (hQ : ∀ e dx tup H1 H2 k1 k2 t1' t2' h' tk', AllLt e news → AllLt dx ((e, excObj none tup) :: news) → Fr h₀ L h' m → News h₀ L h' ((dx, dictOf [⟨H1, .str (Str.ofString "what") k1, .str what t1'⟩, ⟨H2, .str (Str.ofString "at") k2, .int pl t2'⟩] 2) :: (e, excObj (some dx) tup) :: news) → Q (.ref e) { s with heap := h', toks := tk' }) :
  wpAny (model Challenge.rw_nn0223_01.row.prog w) (ktrTop dp un gd cn cs L a ccd cl outer) (call (.ref 59) [.str what t1, .int pl t2]) Q E s := by
  k_with_none
  w_top off
  k_with "MyPost" =>
    (dsimp only [MyPost])
  k_with "eval Call" =>
    ((with_reducible show wpAny _ _ (eval (Expr.Call (Expr.Name _ _) _ [] _) _) _ _ _); k_dflt (refine Call_ ?_))
  k_with "eval Call Attribute" =>
    ((with_reducible show wpAny _ _ (eval (Expr.Call (Expr.Attribute _ _ _) _ [] _) _) _ _ _); k_dflt (refine MethodCall_ ?_))
  k_with "compareOp In int ref" =>
    ((with_reducible show wpAny _ _ (compareOp CmpOp.In (Value.int _ _) (Value.ref 62)) _ _ _); refine in_tuple_ints (ns := [0, 9, 10, 12, 13, 32]) (tupK (Frag.In.keeps (by k_asm) (Fr.keep (by k_asm))) (by k_is)) (by repeat constructor) ?_)
  k_with "compareOp NotIn int ref" =>
    ((with_reducible show wpAny _ _ (compareOp CmpOp.NotIn (Value.int _ _) (Value.ref 62)) _ _ _); refine notin_tuple_ints (ns := [0, 9, 10, 12, 13, 32]) (tupK (Frag.In.keeps (by k_asm) (Fr.keep (by k_asm))) (by k_is)) (by repeat constructor) ?_)
  k_with "compareOp NotIn int ref" =>
    ((with_reducible show wpAny _ _ (compareOp CmpOp.NotIn (Value.int _ _) (Value.ref 63)) _ _ _); refine notin_tuple_ints (ns := [40, 41, 60, 62, 91, 93, 123, 125, 47, 37]) (tupK (Frag.In.keeps (by k_asm) (Fr.keep (by k_asm))) (by k_is)) (by repeat constructor) ?_)
  k_with "compareOp In int ref" =>
    ((with_reducible show wpAny _ _ (compareOp CmpOp.In (Value.int _ _) (Value.ref 304)) _ _ _); refine in_tuple_ints (ns := [91, 93, 123, 125]) (tupK (Frag.In.keeps (by k_asm) (Fr.keep (by k_asm))) (by k_is)) (by repeat constructor) ?_)
  k_with "getMethod type:Exception" =>
    (refine' method_type (by k_asm) (by k_asm) (by kernel_rfl) (by decide +kernel) (by k_dflt k_is) (by k_handed) ?_)
  k_with "call builtin:Exception.__init__" =>
    (k_dflt (refine' exc_init (by k_asm) (by k_asm) (by k_asm) (by k_all) ?_); intro _ _ _ _; (try k_sweep))
  k_with "setAttr ref" =>
    (k_dflt (first
  | (refine' exc_first (by k_asm) (by k_asm) (by k_asm) (by k_all) (by k_is) ?_; intro _ _ _ _ _ _; (rename_i lA); (try simp only [AllLt] at lA); (revert lA; intro _); (try k_sweep))
  | (refine' exc_next (by k_asm) (by k_asm) (by k_asm) (by k_all) (by k_is) (by k_get) (by k_put) (by exact Nat.le_of_ble_eq_true rfl) ?_; intro _ _ _; (try k_sweep))))
  revert X; k_fill; intro X
  refine wpAny_call ?_
  obtain ⟨h, g, d, t, os⟩ := s
  refine exc_call (X.keeps F.keep) (by rw [sizeLine_eq]; simp) ?_
  have N₁ := (N.push F { cls := .type "tuple", data := .seq [Value.str what t1, .int pl t2].toArray }).push (F.push _) (excObj none h.objs.size)
  have F₁ := (F.push { cls := .type "tuple", data := .seq [Value.str what t1, .int pl t2].toArray }).push (excObj none h.objs.size)
  rw [Heap.size_push] at N₁
  dsimp only at N₁ F₁
  have hA : AllLt (h.objs.size + 1) news := allLt_trans (Nat.le_succ _) (allLt_of fun p hp => Heap.lt_size (N p hp).1)
  k_dflt (refine' code_def (binds := [((Str.ofString "self"), .ref (h.objs.size + 1)), ((Str.ofString "what"), .str what t1), ((Str.ofString "at"), .int pl t2)]) ?k1 F₁ ?k3 N₁ ?k5 ?kA ?kF ?kK ?k6 ?k7 ?k8 ?k9 ?kB ?_ ?c2 ?c3 ?c4 ?c5; (case kA => exact rfl); (case kF => exact rfl); (case kK => assumption); (case k1 => k_asm); (case k3 => k_asm); (case k5 => k_asm); (case k6 => k_is); (case k7 => k_is); (case k8 => ktr_room); (case k9 => first | exact BindsTo.of_eq rfl | exact binds_K (by k_in) rfl (by k_is) rfl rfl rfl); (case c5 => decide); (case kB => exact locs rfl); (case c2 => exact rfl); (case c3 => exact rfl); (case c4 => exact rfl))
  intro g' L' h' FG' F' N' B' X' T'
  (try dsimp only [List.reverse_cons, List.reverse_nil, List.nil_append, List.cons_append]); (try k_fold)
  k_steps
  refine hQ _ _ _ _ _ _ _ _ _ _ _ (allLt_trans (Nat.le_refl _) hA) ?_ (by assumption) (news_sub (by assumption) (by kcj_in))
  rename _ < _ ∧ _ < _ ∧ AllLt _ _ => q; exact ⟨q.1, q.2.2⟩
end Mine
end
section
open PySem PySem.W PyProof.Rows PySem.Calls PySem.Spec
namespace Mine
/-! a SyntaxFault on its way through the frames: its class and its own dict are kept -/
theorem dict_mapFields (f : Array Value → Array Value) (o : Obj) : (Obj.mapFields f o).dict = o.dict := by
  obtain ⟨c, d, dt, sl⟩ := o
  cases dt <;> rfl
def Held59 (dx : Addr) (o : Obj) : Prop := o.cls = .ref 59 ∧ o.dict = some dx
theorem Held59.map {dx : Addr} {o : Obj} (h : Held59 dx o) (f : Array Value → Array Value) : Held59 dx (Obj.mapFields f o) := ⟨(Obj.cls_mapFields _ _).trans h.1, (dict_mapFields f o).trans h.2⟩
/-- e stands with a traceback whose mark is fl -/
def TrD (h base : Heap) (e dx : Addr) (fl : Value) : Prop :=
  ∃ oe vs T oT ts, h.get? e = some oe ∧ Held59 dx oe ∧ oe.data = .fields vs ∧ vs[1]? = some (.ref T) ∧ base.get? T = none ∧ T ≠ e ∧ h.get? T = some oT ∧ oT.data = .fields ts ∧ ts[3]? = some fl
def FlyD (base : Heap) (l : List Env) (e dx : Addr) (fl : Value) (h : Heap) : Prop := base.StaysIn h ∧ base.get? e = none ∧ h.FunFrames base l ∧ TrD h base e dx fl
section
variable {M : Model} {A : Around} {E : Value → Shared → Prop} {s : Shared} {base : Heap} {env : Env} {outer : List Env} {L e dx : Addr}
theorem entryD {oe : Obj} {vs : Array Value} {head : Value} {hadNext : Bool} {Q : Unit → Shared → Prop}
    (hfr : A.frames = some (env :: outer)) (hl : s.heap.FunFrames base (env :: outer)) (hf : env.frame = some L)
    (he : s.heap.get? e = some oe) (hkb : base.StaysIn s.heap) (hen : base.get? e = none) (hd : oe.data = .fields vs) (hsz : 1 < vs.size) (h9 : Held59 dx oe)
    (h : ∀ h', FlyD base (env :: outer) e dx (rawInt L) h' → s.heap.UpToSlots h' → Q () { s with heap := h' }) :
    wpAny M A (do let a ← frameOf env; let pl ← entryPlaceOf L hadNext; let b ← EntryCells.newEntry head a .none (rawInt L) .none pl; setField (.ref e) 1 b) Q E s := by
  have off : e ∉ (env :: outer).filterMap (·.frame) := fun hm => by
    obtain ⟨_, o, ho, hnf⟩ := hl.mem hm
    rw [he] at ho; cases ho; exact hnf vs hd
  refine wpAny_bind (wpAny_frameOf_fun hfr hl hf fun h₁ hs₁ => ?_)
  refine wpAny_bind (wpAny_entryPlaceOf fun pl hpl => ?_)
  unfold EntryCells.newEntry newFields
  refine wpAny_bind (wpAny_newObj_type ?_ (hpl.sizeOk5 _ _ _ _ _))
  have he₁ : h₁.get? e = some oe := (hs₁.2.1 e off).trans he
  have kb₁ : base.StaysIn h₁ := fun b o hbo => (hs₁.2.1 b fun hm => by rw [(hl.mem hm).1] at hbo; cases hbo).trans (hkb b o hbo)
  have he₂ := Heap.get?_push_of_some (h := h₁) { cls := .type "traceback", dict := none, data := .fields ([head, .ref L, .none, rawInt L, .none] ++ (if pl.isEmpty then List.replicate 6 Value.none else pl)).toArray } he₁
  have hTe : h₁.objs.size ≠ e := Nat.ne_of_gt (Heap.lt_size he₁)
  have hd₃ := Obj.data_mapFields hd (·.setIfInBounds 1 (Value.ref h₁.objs.size))
  have he₃ := Heap.get?_update_self (Obj.mapFields (·.setIfInBounds 1 (Value.ref h₁.objs.size))) he₂ (Obj.isFreed_of_fields hd₃)
  have hT₃ := (Heap.get?_update_other (h₁.push { cls := .type "traceback", dict := none, data := .fields ([head, .ref L, .none, rawInt L, .none] ++ (if pl.isEmpty then List.replicate 6 Value.none else pl)).toArray })
    (Obj.mapFields (·.setIfInBounds 1 (Value.ref h₁.objs.size))) (Ne.symm hTe)).trans (Heap.get?_push_size h₁ rfl)
  have keep : ∀ b o, b ≠ e → h₁.get? b = some o →
      ((h₁.push { cls := .type "traceback", dict := none, data := .fields ([head, .ref L, .none, rawInt L, .none] ++ (if pl.isEmpty then List.replicate 6 Value.none else pl)).toArray }).update e (Obj.mapFields (·.setIfInBounds 1 (Value.ref h₁.objs.size)))).get? b = some o :=
    fun b o hbe hb => by
      rw [Heap.get?_update_other _ _ (Ne.symm hbe)]
      exact Heap.get?_push_of_some _ hb
  have noRec : ∀ b o, s.heap.get? b = some o → (∀ vs, o.data ≠ .fields vs) → b ≠ e := fun b o hb hnf q => by
    rw [q, he] at hb; cases hb; exact hnf vs hd
  refine wpAny_setField he₂ hd hsz (h _ ⟨fun b o hbo => keep b o (fun q => by rw [q, hen] at hbo; cases hbo) (kb₁ b o hbo), hen, hl.of_keeps fun b o hb hnf => ?_, ?_⟩ fun b o hb hnf => ?_)
  · obtain ⟨sl, hs⟩ := hs₁.2.2 b o hb
    exact ⟨_, keep b _ (noRec b o hb hnf) hs, rfl⟩
  · exact ⟨_, _, h₁.objs.size, _, _, he₃, h9.map _, hd₃, by simp [hsz], kb₁.fresh, hTe, hT₃, rfl, by first | (simp; done) | (rcases hpl with rfl | ⟨_, _, _, _, _, _, _, rfl⟩ <;> simp)⟩
  · obtain ⟨sl, hs⟩ := hs₁.2.2 b o hb
    exact ⟨sl, keep b _ (noRec b o hb hnf) hs⟩
theorem note_firstD {t : Value} {vs : Array Value} {oe : Obj} {Q : Unit → Shared → Prop} (hfr : A.frames = some (env :: outer)) (hl : s.heap.FunFrames base (env :: outer)) (hf : env.frame = some L)
    (he : s.heap.get? e = some oe) (hkb : base.StaysIn s.heap) (hen : base.get? e = none) (hd : oe.data = .fields vs) (h1 : vs[1]? = some .none) (h9 : Held59 dx oe)
    (h : ∀ h', FlyD base (env :: outer) e dx (rawInt L) h' → s.heap.UpToSlots h' → Q () { s with heap := h' }) : wpAny M A (noteFrame (.ref e) env) Q E s := by
  unfold noteFrame
  simp only [hf]
  refine wpAny_bind (wpAny_field he hd h1 ?_)
  rw [if_neg (by decide)]
  exact entryD hfr hl hf he hkb hen hd (Array.getElem?_eq_some_iff.mp h1).1 h9 h
theorem note_onD {Q : Unit → Shared → Prop} (hfr : A.frames = some (env :: outer)) (hf : env.frame = some L) (hfl : FlyD base (env :: outer) e dx .none s.heap)
    (h : ∀ h', FlyD base (env :: outer) e dx (rawInt L) h' → s.heap.UpToSlots h' → Q () { s with heap := h' }) : wpAny M A (noteFrame (.ref e) env) Q E s := by
  obtain ⟨hkb, hen, hl, oe, vs, T, oT, ts, he, h9, hd, h1, hnT, hTe, hT, hdT, h3⟩ := hfl
  unfold noteFrame
  simp only [hf]
  refine wpAny_bind (wpAny_field he hd h1 ?_)
  rw [if_pos (show (Value.ref T != Value.none) = true from by simp)]
  refine wpAny_bind (wpAny_field hT hdT h3 ?_)
  rw [if_neg (show ¬ ((Value.none == rawInt L) = true) from by simp [rawInt])]
  refine wpAny_bind (wpAny_setField hT hdT (Array.getElem?_eq_some_iff.mp h3).1 ?_)
  have other : ∀ b, b ≠ T → (s.heap.update T (Obj.mapFields (·.setIfInBounds 3 Value.none))).get? b = s.heap.get? b := fun b hb => Heap.get?_update_other _ _ (Ne.symm hb)
  have noRec : ∀ b o, s.heap.get? b = some o → (∀ vs, o.data ≠ .fields vs) → b ≠ T := fun b o hb hnf q => by
    rw [q, hT] at hb; cases hb; exact hnf ts hdT
  refine entryD hfr (hl.of_keeps fun b o hb hnf => ⟨o, (other b (noRec b o hb hnf)).trans hb, rfl⟩) hf ((other e (Ne.symm hTe)).trans he)
    (fun b o hbo => (other b fun q => by rw [q, hnT] at hbo; cases hbo).trans (hkb b o hbo)) hen hd (Array.getElem?_eq_some_iff.mp h1).1 h9 fun h' x1 x2 => h h' x1 fun b o hb hnf => x2 b o ((other b (noRec b o hb hnf)).trans hb) hnf
theorem note_againD {Q : Unit → Shared → Prop} (hf : env.frame = some L) (ht : TrD s.heap base e dx (rawInt L)) (h : Q () s) : wpAny M A (noteFrame (.ref e) env) Q E s := by
  obtain ⟨oe, vs, T, oT, ts, he, h9, hd, h1, hnT, hTe, hT, hdT, h3⟩ := ht
  unfold noteFrame
  simp only [hf]
  refine wpAny_bind (wpAny_field he hd h1 ?_)
  rw [if_pos (show (Value.ref T != Value.none) = true from by simp)]
  refine wpAny_bind (wpAny_field hT hdT h3 ?_)
  rw [if_pos (show (rawInt L == rawInt L) = true from by simp)]
  exact wpAny_pure h
theorem flight_noneD {l : List Env} {fl : Value} {Q : Unit → Shared → Prop} (hfl : FlyD base l e dx fl s.heap)
    (h : ∀ h', FlyD base l e dx .none h' → s.heap.UpToSlots h' → Q () { s with heap := h' }) : wpAny M A (setFlight (.ref e) none) Q E s := by
  obtain ⟨hkb, hen, hl, oe, vs, T, oT, ts, he, h9, hd, h1, hnT, hTe, hT, hdT, h3⟩ := hfl
  have hsz3 : 3 < ts.size := (Array.getElem?_eq_some_iff.mp h3).1
  have other : ∀ b, b ≠ T → (s.heap.update T (Obj.mapFields (·.setIfInBounds 3 ((none : Option Addr).elim Value.none fun f => rawInt f)))).get? b = s.heap.get? b :=
    fun b hb => Heap.get?_update_other _ _ (Ne.symm hb)
  have noRec : ∀ b o, s.heap.get? b = some o → (∀ vs, o.data ≠ .fields vs) → b ≠ T := fun b o hb hnf q => by
    rw [q, hT] at hb; cases hb; exact hnf ts hdT
  unfold setFlight
  refine wpAny_bind (wpAny_field he hd h1 ?_)
  rw [if_pos (show (Value.ref T != Value.none) = true from by simp)]
  refine wpAny_setField hT hdT hsz3 (h _ ⟨fun b o hbo => (other b fun q => by rw [q, hnT] at hbo; cases hbo).trans (hkb b o hbo), hen,
    hl.of_keeps fun b o hb hnf => ⟨o, (other b (noRec b o hb hnf)).trans hb, rfl⟩, ?_⟩ fun b o hb hnf => ⟨o.slots, (other b (noRec b o hb hnf)).trans hb⟩)
  exact ⟨oe, vs, T, _, _, (other e (Ne.symm hTe)).trans he, h9, hd, h1, hnT, hTe, Heap.get?_update_self _ hT (Obj.isFreed_of_fields (Obj.data_mapFields hdT _)), Obj.data_mapFields hdT _, by simp [hsz3]⟩
theorem FlyD.inner {l : List Env} {fl : Value} {h : Heap} (x : FlyD base (env :: l) e dx fl h) : FlyD base l e dx fl h := ⟨x.1, x.2.1, x.2.2.1.2.2, x.2.2.2⟩
theorem leaves_firstD {vs : Array Value} {oe : Obj} {Q : Unit → Shared → Prop} (hfr : A.frames = some (env :: outer)) (hl : s.heap.FunFrames base (env :: outer)) (hf : env.frame = some L)
    (he : s.heap.get? e = some oe) (hkb : base.StaysIn s.heap) (hen : base.get? e = none) (hd : oe.data = .fields vs) (h1 : vs[1]? = some .none) (h9 : Held59 dx oe)
    (h : ∀ h', FlyD base outer e dx .none h' → s.heap.UpToSlots h' → Q () { s with heap := h' }) : wpAny M A (leaving env (.ref e)) Q E s := by
  unfold leaving
  refine wpAny_bind (note_firstD (t := .none) hfr hl hf he hkb hen hd h1 h9 fun h₁ x1 y1 => ?_)
  exact flight_noneD (s := { s with heap := h₁ }) x1 fun h₂ x2 y2 => h h₂ x2.inner (y1.trans y2)
theorem leaves_onD {Q : Unit → Shared → Prop} (hfr : A.frames = some (env :: outer)) (hf : env.frame = some L) (hfl : FlyD base (env :: outer) e dx .none s.heap)
    (h : ∀ h', FlyD base outer e dx .none h' → s.heap.UpToSlots h' → Q () { s with heap := h' }) : wpAny M A (leaving env (.ref e)) Q E s := by
  unfold leaving
  refine wpAny_bind (note_onD hfr hf hfl fun h₁ x1 y1 => ?_)
  exact flight_noneD (s := { s with heap := h₁ }) x1 fun h₂ x2 y2 => h h₂ x2.inner (y1.trans y2)
end
end Mine
end
section
open PySem PySem.W PyProof.Rows PySem.Calls PySem.Spec
namespace Mine
/-- e and dx are newer than the ledger -/
structure SynNew (e dx : Addr) (news : List (Addr × Obj)) : Prop where
  mk' ::
  one : AllLt e news
  two : e < dx
theorem SynNew.mk {e dx : Addr} {o : Obj} {news : List (Addr × Obj)} (h : AllLt e news) (k : AllLt dx ((e, o) :: news)) : SynNew e dx news := ⟨h, k.1⟩
/-- a made SyntaxFault, ready to be thrown -/
def SynReady (E : Value → Shared → Prop) (v : Value) (s : Shared) : Prop := ∃ e dx t, v = .ref e ∧ s.heap.get? 59 = some synObj ∧ s.heap.get? e = some (excObj (some dx) t) ∧ E (.ref e) s
theorem raise_syn {M : Model} {A : Around} {E : Value → Shared → Prop} {s : Shared} {env : Env} {x : Expr} {pos : Pos} {Q : Flow → Shared → Prop} (hh : A.handled = none)
    (h : wpAny M A (eval x env) (SynReady E) E s) : wpAny M A (exec (.Raise (some x) none pos) env) Q E s := by
  have hcB : (Value.ref 59 :: bmS).contains (.type "BaseException") = true := by decide +kernel
  show wpAny M A (do standAt pos; raiseStmt env (some (do let v ← eval x env; standAt pos; pure v)) none) Q E s
  refine wpAny_bind (wpAny_standAt ?_)
  unfold raiseStmt
  refine wpAny_bind (wpAny_bind (wpAny_mono h (fun v s₁ h₁ => wpAny_bind (wpAny_standAt (wpAny_pure ?_))) fun _ _ x => x))
  obtain ⟨e, dx, t, rfl, hC, he, hE⟩ := h₁
  obtain ⟨hp, g, d, tk, os⟩ := s₁
  repeat (first | with_reducible refine wpAny_loadPart_at he ?_ | with_reducible refine wpAny_loadPart_at hC ?_ | (with_reducible refine wpAny_isSubtype_exc hC ?_; rw [hcB]) | wp_step)
  exact wpAny_raiseNew_none hh hE
/-- the dict of a SyntaxFault that tells the place pl -/
def SynDict (pl : Int) (o : Obj) : Prop := ∃ H1 H2 k1 k2 what t1 t2, o = dictOf [⟨H1, .str (Str.ofString "what") k1, .str what t1⟩, ⟨H2, .str (Str.ofString "at") k2, .int pl t2⟩] 2
/-- a SyntaxFault of the place pl on its way through the frames l -/
def RaisedD (base G : Heap) (l : List Env) (e : Addr) (pl : Int) (news : List (Addr × Obj)) (h : Heap) : Prop :=
  ∃ dx o B, SynDict pl o ∧ base.StaysIn B ∧ (∀ b o, G.get? b = some o → b ∉ l.filterMap (·.frame) → B.get? b = some o) ∧ (∀ q ∈ (dx, o) :: news, B.get? q.1 = some q.2 ∧ G.get? q.1 = none ∧ base.get? q.1 = none) ∧ FlyD B l e dx .none h
theorem mem_fr {env : Env} {outer : List Env} {L b : Addr} (hf : env.frame = some L) (hm : b ∈ (env :: outer).filterMap (·.frame)) : b = L ∨ b ∈ outer.filterMap (·.frame) := by
  obtain ⟨e', he, h'⟩ := List.mem_filterMap.mp hm
  rcases List.mem_cons.mp he with rfl | he
  · exact .inl (Option.some.inj (hf.symm.trans h')).symm
  · exact .inr (List.mem_filterMap.mpr ⟨e', he, h'⟩)
section
variable {w : World} {M : Model} {A : Around} {E : Value → Shared → Prop} {s' : Shared} {base g g₂ : Heap} {outer : List Env} {L a e dx t : Addr} {m : Str → Option Value} {env : Env} {Q : Unit → Shared → Prop} {news : List (Addr × Obj)} {pl : Int} {o : Obj}
theorem leave_raiseD (K : Below A base outer g) (F : Fr g L s'.heap m) (N : News g L s'.heap ((dx, o) :: (e, excObj (some dx) t) :: news)) (hs : SynDict pl o) (h1 : dx ≠ e) (h2 : ∀ p ∈ news, p.1 ≠ e)
    (hQ : ∀ h', RaisedD base g outer e pl news h' → g.UpToSlots h' → Q () { s' with heap := h' }) (hf : env.frame = some L := by rfl) (hk : env.scope.kind = .function := by rfl) :
    wpAny M (A.deeper env) (leaving env (.ref e)) Q E s' := by
  have K' := pushX K F hf hk
  have hin : ∀ env' ∈ (env :: outer), ∀ b, env'.frame = some b → b ∈ e :: (env :: outer).filterMap (·.frame) := fun env' he b hb => .tail _ (List.mem_filterMap.mpr ⟨env', he, hb⟩)
  obtain ⟨ge, gL, g0⟩ := N (e, excObj (some dx) t) (.tail _ (.head _))
  dsimp only at ge gL g0
  have be : base.get? e = none := fresh_of_stays K.stays g0
  have st : base.StaysIn (hideAll s'.heap (e :: (env :: outer).filterMap (·.frame))) := fun b o q => hideAll_get _ (K'.stays b o q) fun hm => by
    rcases List.mem_cons.mp hm with rfl | hm
    · rw [be] at q; cases q
    · rw [(K'.frames.mem hm).1] at q; cases q
  have sg : ∀ b o, g.get? b = some o → b ∉ outer.filterMap (·.frame) → (hideAll s'.heap (e :: (env :: outer).filterMap (·.frame))).get? b = some o := fun b o q nm => hideAll_get _ (F.keep b o q) fun hm => by
    rcases List.mem_cons.mp hm with rfl | hm
    · rw [g0] at q; cases q
    rcases mem_fr hf hm with z | z
    · rw [z, kts_self F] at q
      cases q
    · exact nm z
  have hl : ∀ q ∈ (dx, o) :: news, (hideAll s'.heap (e :: (env :: outer).filterMap (·.frame))).get? q.1 = some q.2 ∧ g.get? q.1 = none ∧ base.get? q.1 = none := fun q hq => by
    have hq' : q ∈ (dx, o) :: (e, excObj (some dx) t) :: news := by
      rcases List.mem_cons.mp hq with rfl | hq
      · exact .head _
      · exact .tail _ (.tail _ hq)
    have hqe : q.1 ≠ e := by
      rcases List.mem_cons.mp hq with rfl | hq
      · exact h1
      · exact h2 q hq
    obtain ⟨n1, n2, n3⟩ := N q hq'
    refine ⟨hideAll_get _ n1 fun hm => ?_, n3, fresh_of_stays K.stays n3⟩
    rcases List.mem_cons.mp hm with hm | hm
    · exact hqe hm
    rcases mem_fr hf hm with rfl | he
    · exact n2 rfl
    · obtain ⟨o, ho, _⟩ := (K.frames.mem he).2
      rw [n3] at ho; cases ho
  refine leaves_firstD K'.stack (funFrames_hide K'.frames hin) hf ge (fun b o q => of_hideAll _ q) (hideAll_none _ (.head _)) rfl rfl ⟨rfl, rfl⟩ fun h' x1 x2 => ?_
  exact hQ h' ⟨dx, o, _, hs, st, sg, hl, x1⟩ ((Heap.UpToSlots.of_keeps F.keep).trans x2)
/-- a made SyntaxFault is thrown, and leaves the frame -/
theorem syn_end {tup : Addr} {s : Shared} {R : Value → Shared → Prop} {E' : Value → Shared → Prop} {news' : List (Addr × Obj)} (K : Below A base outer g) (F : Fr g L s.heap m) (X : (Mine.hd.heap_1 w.params).In g) (N : News g L s.heap ((dx, o) :: (e, excObj (some dx) tup) :: news')) (hs : SynDict pl o) (h1 : SynNew e dx news') (h2 : ∀ p ∈ news, p ∈ news')
    (hQ : ∀ h', RaisedD base g outer e pl news h' → g.UpToSlots h' → R (.ref e) { s with heap := h' }) (hf : env.frame = some L := by rfl) (hk : env.scope.kind = .function := by rfl) :
    SynReady (fun v s' => wpAny M (A.deeper env) (leaving env v) (fun _ s'' => R v s'') E' s') (.ref e) s :=
  ⟨e, dx, tup, rfl, syn_at (X.keeps F.keep), (N _ (.tail _ (.head _))).1, leave_raiseD K F (fun q hq => by
    rcases List.mem_cons.mp hq with rfl | hq
    · exact N _ (.head _)
    rcases List.mem_cons.mp hq with rfl | hq
    · exact N _ (.tail _ (.head _))
    · exact N _ (.tail _ (.tail _ (h2 q hq)))) hs (Nat.ne_of_gt h1.two) (fun q hq => ne_of_allLt h1.one q (h2 q hq)) hQ hf hk⟩
theorem RaisedD.sub {news' : List (Addr × Obj)} {l : List Env} {h G : Heap} (R : RaisedD base G l e pl news h) (hs : ∀ p ∈ news', p ∈ news) : RaisedD base G l e pl news' h := by
  obtain ⟨dx, o, B, h1, h2, h3, h4, h5⟩ := R
  refine ⟨dx, o, B, h1, h2, h3, fun q hq => h4 q ?_, h5⟩
  rcases List.mem_cons.mp hq with rfl | hq
  · exact .head _
  · exact .tail _ (hs q hq)
theorem leave_onD' (K : Below A base outer g) (F : Fr g L g₂ m) (R : RaisedD base g₂ (env :: outer) e pl news s'.heap) (hsm : g₂.UpToSlots s'.heap)
    (hQ : ∀ h', RaisedD base g outer e pl news h' → g.UpToSlots h' → Q () { s' with heap := h' }) (hf : env.frame = some L := by rfl) :
    wpAny M (A.deeper env) (leaving env (.ref e)) Q E s' := by
  obtain ⟨dx, o, B, hs, hB, hBG, hl, hfl⟩ := R
  exact leaves_onD (Around.frames_deeper K.stack) hf hfl fun h' x1 x2 =>
    hQ h' ⟨dx, o, B, hs, hB, fun b o q nm => hBG b o (F.keep b o q) (fun hm => by
      rcases mem_fr hf hm with z | z
      · rw [z, kts_self F] at q
        cases q
      · exact nm z), fun q hq => ⟨(hl q hq).1, kts_none F.keep (hl q hq).2.1, (hl q hq).2.2⟩, x1⟩ ((Heap.UpToSlots.of_keeps F.keep).trans (hsm.trans x2))
end
section
variable {prog : Program} {w : World} {A₀ : Around} {E : Value → Shared → Prop} {s' : Shared} {base g g₀ G : Heap} {outer : List Env} {L a e : Addr} {m : Str → Option Value} {name : Str} {scope : Scope} {cd : Value}
  {n : Str} {b₀ : Stmt} {suite : List Stmt} {pos np : Pos} {rest : List ExceptHandler} {Q : Flow → Shared → Prop} {news : List (Addr × Obj)} {KF : Frag}
  {p : Program} {loose : List Str} {mean : ExcName → Option Value} {mg mb : Str → Option Value} {x : Str} {pl : Int}
theorem caughtD (R : RaisedD base G (envOf name scope L a cd :: outer) e pl news s'.heap) (F : Fr g L G m) (K : Below A₀ base outer g) (hsm : G.UpToSlots s'.heap) (XB : (Mine.hd.heap_1 w.params).In base) (TB : Top p loose mean mg mb base)
    (D : KtsDicts (outer.filterMap (·.frame)) g) (T0 : KtsTurn (outer.filterMap (·.frame)) g₀ g)
    (ex : nsIn (Mine.hd.heap_1 w.params) mainGlobals x = some (some (.ref 59)))
    (k : ∀ h' g' dx o oe tk, KtsTurn (outer.filterMap (·.frame)) g₀ g' → SynDict pl o → Held59 dx oe → (∃ vs, oe.data = .fields vs) → Fr g' L h' (fun y => if y = n then some (.ref e) else m y) → News g' L h' ((dx, o) :: (e, oe) :: news) → Below A₀ base outer g' → (Mine.hd.heap_1 w.params).In g' → Top p loose mean mg mb g' → KtsDicts (outer.filterMap (·.frame)) g' →
      wpAny (model prog w) ((A₀.deeper (envOf name scope L a cd)).mark (some (.ref e))) (execs (b₀ :: suite) (envOf name scope L a cd))
        (fun f s₄ => wpAny (model prog w) (A₀.deeper (envOf name scope L a cd)) (do bindName (envOf name scope L a cd) n .none; unbindBehindTheSuite (envOf name scope L a cd) n pos) (fun _ s₅ => Q f s₅) E s₄)
        (AsSuiteRaised (model prog w) ((A₀.deeper (envOf name scope L a cd)).mark (some (.ref e))) (envOf name scope L a cd) n pos (notedBy (model prog w) ((A₀.deeper (envOf name scope L a cd)).mark (some (.ref e))) (envOf name scope L a cd) (cameBackBy (model prog w) (A₀.deeper (envOf name scope L a cd)) (envOf name scope L a cd) E)))
        { s' with heap := h', toks := tk })
    (hk : scope.kind = .function := by rfl) (hlo : (envOf name scope L a cd).kindOf n = some .local := by rfl) (hx : (envOf name scope L a cd).kindOf x = some .globalImplicit := by rfl) (hd : (x == ("__debug__" : Str)) = false := by decide) :
    wpAny (model prog w) (A₀.deeper (envOf name scope L a cd)) (noteFrame (.ref e) (envOf name scope L a cd))
      (fun _ s₂ => wpAny (model prog w) (A₀.deeper (envOf name scope L a cd)) (setFlight (.ref e) none) (fun _ s₃ =>
        wpAny (model prog w) (A₀.deeper (envOf name scope L a cd)) (handleBy (.ref e) (envOf name scope L a cd) (.ExceptHandler (some (.Name x np)) (some n) (b₀ :: suite) pos :: rest)) Q E s₃) E s₂) E s' := by
  obtain ⟨dx, o, B, hs, hB, hBG, hl, hfl⟩ := R
  have hL : B.get? L = none := by
    obtain ⟨_, ⟨L', _, hf, hn', _⟩, _⟩ := hfl.2.2.1
    obtain rfl : L = L' := Option.some.inj hf
    exact hn'
  refine note_onD (Around.frames_deeper K.stack) rfl hfl fun h₄ hfl₄ hsm₄ => ?_
  refine flight_noneD hfl₄ fun h₅ hfl₅ hsm₅' => ?_
  have hsm₅ := hsm₄.trans hsm₅'
  obtain ⟨g₅, T₅, F₅, K₅⟩ := kts_ground K F hBG hfl₅.1 (hsm.trans hsm₅)
  have X₅ : (Mine.hd.heap_1 w.params).In g₅ := XB.keeps K₅.stays
  have P₅ : TopRead p loose mg mb g₅ := topRead_of (TB.keeps K₅.stays)
  obtain ⟨ob, vs5, _, _, _, hob, hobc, hobd, _⟩ := hfl₅.2.2.2
  have hC₅ := F₅.keep _ _ (syn_at X₅)
  refine wpAny_handleBy_cons (codeAny_handlers_test (name_K F₅ X₅ P₅ ex ?_ hk hx hd)) (by intro q; cases q)
  refine wpAny_excMatches_sub_self hC₅ hob hobc.1 (by decide +kernel) (codeAny_handlers_suite_as ?_)
  refine flight_noneD hfl₅ fun h₆ hfl₆ hsm₆ => ?_
  obtain ⟨g₆, T₆, F₆, K₆⟩ := kts_ground K F hBG hfl₆.1 ((hsm.trans hsm₅).trans hsm₆)
  obtain ⟨oe, vs6, _, _, _, hoe, hoec, hoed, _⟩ := hfl₆.2.2.2
  have ne₆ : g₆.get? e = none := T₆.none_ _ (kts_fresh F hBG hfl₆.2.1 fun o ho m => by
    obtain ⟨_, o', ho', hd⟩ := K.frames.mem m
    rw [ho] at ho'
    cases ho'
    obtain ⟨sl, hs⟩ := ((hsm.trans hsm₅).trans hsm₆) _ _ (F.keep _ _ ho) hd
    rw [hoe] at hs
    cases hs
    exact hd _ hoed)
  have N₆ := News.more F₆ News.nil hoe (fun es n q => by rw [hoed] at q; cases q) ne₆
  have Nl : News g₆ L h₆ ((dx, o) :: news) := fun q hq => ⟨hfl₆.1 _ _ (hl q hq).1, (fun z => by have := (hl q hq).1; rw [z, hL] at this; cases this), T₆.none_ _ (kts_none F.keep (hl q hq).2.1)⟩
  have Nn : News g₆ L h₆ ((dx, o) :: (e, oe) :: news) := fun q hq => by
    rcases List.mem_cons.mp hq with rfl | hq
    · exact Nl _ (.head _)
    rcases List.mem_cons.mp hq with rfl | hq
    · exact N₆ _ (.head _)
    · exact Nl _ (.tail _ hq)
  have X₆ : (Mine.hd.heap_1 w.params).In g₆ := XB.keeps K₆.stays
  have P₆ : Top p loose mean mg mb g₆ := TB.keeps K₆.stays
  have D₆ : KtsDicts (outer.filterMap (·.frame)) g₆ := D.turn T₆
  refine stN F₆ Nn (fun h₇ F₇ N₇ => ?_) hk hlo
  exact k h₇ g₆ _ _ _ _ (T0.trans T₆) hs hoec ⟨_, hoed⟩ F₇ N₇ K₆ X₆ P₆ D₆
end
end Mine
end
section
open PySem PySem.W PyProof.Rows PySem.Calls PySem.Spec
namespace Mine
/-- as MyEnd, with any names forgotten -/
def MyEndF {σ : Type} (h₀ : Heap) (L : Addr) (s : Shared) (fm : σ → (Str → Option Value) → Str → Option Value) (Led : σ → List (Addr × Obj)) (P : σ → Prop) (μ : σ → Nat) (c : σ) (s₂ : Shared) : Prop :=
  ∃ (c' : σ) (h' : Heap) (tk : Nat) (m' : Str → Option Value) (news' : List (Addr × Obj)), s₂ = { s with heap := h', toks := tk } ∧ Fr h₀ L h' m' ∧ (∀ y, m' y = fm c' m' y) ∧ News h₀ L h' news' ∧ (∀ p ∈ Led c', p ∈ news') ∧ P c' ∧ μ c' < μ c
def MyPostF {σ : Type} (h₀ : Heap) (L : Addr) (s : Shared) (fm : σ → (Str → Option Value) → Str → Option Value) (Led : σ → List (Addr × Obj)) (P : σ → Prop) (μ : σ → Nat) (Q : Flow → Shared → Prop) (c : σ) (f : Flow) (s₂ : Shared) : Prop :=
  match f with
  | .ret v => Q (.ret v) s₂
  | .brk => Q .next s₂
  | _ => MyEndF h₀ L s fm Led P μ c s₂
theorem my_endF {σ : Type} {h₀ : Heap} {L : Addr} {s : Shared} {fm : σ → (Str → Option Value) → Str → Option Value} {Led : σ → List (Addr × Obj)} {P : σ → Prop} {μ : σ → Nat} {c : σ} {h' : Heap} {tk : Nat} {m' : Str → Option Value} {news' : List (Addr × Obj)} (c' : σ)
    (F : Fr h₀ L h' m') (N : News h₀ L h' news') (hm : ∀ y, m' y = fm c' m' y) (hn : ∀ p ∈ Led c', p ∈ news') (hp : P c') (hμ : μ c' < μ c) : MyEndF h₀ L s fm Led P μ c { s with heap := h', toks := tk } :=
  ⟨c', h', tk, m', news', rfl, F, hm, N, hn, hp, hμ⟩
section
variable {prog : Program} {w : World} {A : Around} {E : Value → Shared → Prop} {Q : Flow → Shared → Prop} {s : Shared} {env : Env} {h₀ : Heap} {L : Addr}
theorem my_whileF {σ : Type} {test : PySem.Expr} {body : List Stmt} {pos : Pos} {m₀ : Str → Option Value} {news₀ : List (Addr × Obj)} (fm : σ → (Str → Option Value) → Str → Option Value) (Led : σ → List (Addr × Obj)) (P : σ → Prop) (μ : σ → Nat) (c₀ : σ)
    (F : Fr h₀ L s.heap m₀) (N : News h₀ L s.heap news₀) (hm : ∀ y, m₀ y = fm c₀ m₀ y) (hn : ∀ p ∈ Led c₀, p ∈ news₀) (hp : P c₀)
    (turn : ∀ (c : σ) (u : Str → Option Value) h tk, P c → Fr h₀ L h (fm c u) → News h₀ L h (Led c) →
      wpAny (model prog w) A (isTrue test env (eval test env)) (fun b s₂ =>
        if b = true then wpAny (model prog w) A (execs body env) (MyPostF h₀ L s fm Led P μ Q c) E s₂ else Q .next s₂) E { s with heap := h, toks := tk })
    (hE : PassesOwn (model prog w) A env E) :
    wpAny (model prog w) A (exec (.While test body [] pos) env) Q E s := by
  refine While_inv2 (fun n m nx => ∃ c : σ, μ c = n ∧ (∀ y, m y = fm c m y) ∧ (∀ p ∈ Led c, p ∈ nx) ∧ P c) F N ⟨c₀, rfl, hm, hn, hp⟩ ?_ hE
  rintro n m₁ nx h tk F₁ N₁ ⟨c, hsz, hm₁, hn₁, hp₁⟩
  have F₂ : Fr h₀ L h (fm c m₁) := by rw [← show m₁ = fm c m₁ from funext hm₁]; exact F₁
  subst hsz
  refine wpAny_mono (turn c m₁ h tk hp₁ F₂ (fun p hp => N₁ p (hn₁ p hp))) (fun b s₂ q => ?_) fun _ _ x => x
  cases b with
  | false => simpa using q
  | true =>
    simp only [if_true] at q ⊢
    refine wpAny_mono q (fun f s₃ z => ?_) fun _ _ x => x
    have go : MyEndF h₀ L s fm Led P μ c s₃ → ∃ h' tk' m' news' n', s₃ = { s with heap := h', toks := tk' } ∧ Fr h₀ L h' m' ∧ News h₀ L h' news' ∧ n' < μ c ∧ ∃ c' : σ, μ c' = n' ∧ (∀ y, m' y = fm c' m' y) ∧ (∀ p ∈ Led c', p ∈ news') ∧ P c' := by
      rintro ⟨c', h', tk', m', news', rfl, F', hm', N', hn', hp', hμ⟩
      exact ⟨h', tk', m', news', μ c', rfl, F', N', hμ, c', rfl, hm', hn', hp'⟩
    cases f with
    | ret v => exact z
    | brk => exact z
    | next => exact go z
    | cont => exact go z
/-- a turn's end of a for over a range -/
def ForEnd {σ : Type} (h₀ : Heap) (L : Addr) (s : Shared) (fm : σ → (Str → Option Value) → Str → Option Value) (Led : σ → List (Addr × Obj)) (I : Addr) (o : Obj) (J : σ → Prop) (s₂ : Shared) : Prop :=
  ∃ (c' : σ) (h' : Heap) (tk : Nat) (m' : Str → Option Value) (news' : List (Addr × Obj)), s₂ = { s with heap := h', toks := tk } ∧ Fr h₀ L h' m' ∧ (∀ y, m' y = fm c' m' y) ∧ News h₀ L h' news' ∧ (∀ p ∈ (I, o) :: Led c', p ∈ news') ∧ J c'
def ForPost {σ : Type} (h₀ : Heap) (L : Addr) (s : Shared) (fm : σ → (Str → Option Value) → Str → Option Value) (Led : σ → List (Addr × Obj)) (I : Addr) (o : Obj) (J : σ → Prop) (Q : Flow → Shared → Prop) (f : Flow) (s₂ : Shared) : Prop :=
  match f with
  | .ret v => Q (.ret v) s₂
  | .brk => Q .next s₂
  | _ => ForEnd h₀ L s fm Led I o J s₂
theorem for_end {σ : Type} {h₀ : Heap} {L : Addr} {s : Shared} {fm : σ → (Str → Option Value) → Str → Option Value} {Led : σ → List (Addr × Obj)} {I : Addr} {o : Obj} {J : σ → Prop} {h' : Heap} {tk : Nat} {m' : Str → Option Value} {news' : List (Addr × Obj)} (c' : σ)
    (F : Fr h₀ L h' m') (N : News h₀ L h' news') (hm : ∀ y, m' y = fm c' m' y) (hn : ∀ p ∈ (I, o) :: Led c', p ∈ news') (hj : J c') : ForEnd h₀ L s fm Led I o J { s with heap := h', toks := tk } :=
  ⟨c', h', tk, m', news', rfl, F, hm, N, hn, hj⟩
theorem krs_inv {σ : Type} {x : Str} {body : List Stmt} {I : Addr} {a c : Int} {n : Nat} (fm : σ → (Str → Option Value) → Str → Option Value) (Led : σ → List (Addr × Obj)) (J : Nat → σ → Prop)
    (hI : ∀ c, ∀ p ∈ Led c, p.1 ≠ I)
    (turn : ∀ (i : Nat) (c₁ : σ) (u : Str → Option Value) t h tk, i < n → J i c₁ → Fr h₀ env.locals h (fun y => if y = x then some (.int (a + (i : Int) * c) t) else fm c₁ u y) →
      News h₀ env.locals h ((I, krsIt (a + ((i + 1 : Nat) : Int) * c) ((n : Int) - ((i + 1 : Nat) : Int)) c) :: Led c₁) →
      wpAny (model prog w) A (execs body env) (ForPost h₀ env.locals s fm Led I (krsIt (a + ((i + 1 : Nat) : Int) * c) ((n : Int) - ((i + 1 : Nat) : Int)) c) (J (i + 1)) Q) E { s with heap := h, toks := tk })
    (fin : ∀ (c₁ : σ) (u : Str → Option Value) h tk, J n c₁ → Fr h₀ env.locals h (fm c₁ u) → News h₀ env.locals h (Led c₁) → Q .next { s with heap := h, toks := tk }) :
    ∀ (k i : Nat) (c₁ : σ) (m : Str → Option Value) (news : List (Addr × Obj)), k + i = n → J i c₁ → (∀ y, m y = fm c₁ m y) → (∀ p ∈ Led c₁, p ∈ news) → KrsRest prog w A E h₀ env x body Q s I a c n k i m news
  | 0, i, c₁, m, news, hk, hJ, hm, hl => by
    intro h tk F N
    have e : i = n := by omega
    subst e
    rw [show m = fm c₁ m from funext hm] at F
    exact fin c₁ m h tk hJ F fun p hp => N p (hl p hp)
  | k + 1, i, c₁, m, news, hk, hJ, hm, hl => by
    intro t h tk F N
    have F₂ : Fr h₀ env.locals h (fun y => if y = x then some (.int (a + (i : Int) * c) t) else fm c₁ m y) := by
      rw [← show m = fm c₁ m from funext hm]; exact F
    refine wpAny_mono (turn i c₁ m t h tk (by omega) hJ F₂ (fun p hp => ?_)) (fun f s₂ z => ?_) fun _ _ e => e
    · rcases List.mem_cons.mp hp with rfl | hp
      · exact N _ (.head _)
      · exact N _ (.tail _ (hl p hp))
    · have go : ForEnd h₀ env.locals s fm Led I (krsIt (a + ((i + 1 : Nat) : Int) * c) ((n : Int) - ((i + 1 : Nat) : Int)) c) (J (i + 1)) s₂ →
          UnrEnd h₀ env.locals { s with heap := h, toks := tk } I (krsIt (a + ((i + 1 : Nat) : Int) * c) ((n : Int) - ((i + 1 : Nat) : Int)) c) (KrsRest prog w A E h₀ env x body Q s I a c n k (i + 1)) s₂ := by
        rintro ⟨c', h', tk', m', news', rfl, F', hm', N', hn', hj⟩
        refine ⟨h', tk', m', Led c', rfl, F', fun p hp => N' p (hn' p hp), hI c', ?_⟩
        exact krs_inv fm Led J hI turn fin k (i + 1) c' m' (Led c') (by omega) hj hm' fun p hp => hp
      cases f with
      | ret v => exact z
      | brk => exact z
      | next => exact go z
      | cont => exact go z
/-- a for over a range, by what holds at each turn -/
theorem my_for {σ : Type} {x : Str} {body : List Stmt} {r : Addr} {a b c : Int} {t₀ u₀ v₀ : Tok} {n : Nat} {m₀ : Str → Option Value} {news : List (Addr × Obj)} (fm : σ → (Str → Option Value) → Str → Option Value) (Led : σ → List (Addr × Obj)) (J : Nat → σ → Prop) (c₀ : σ)
    (hh : A.handled = none) (hr : IsRange s.heap r a b c t₀ u₀ v₀) (hsmall : Builtin.Range.small a b c = true) (hn : Builtin.Range.rangeSize a b c = (n : Int)) (F : Fr h₀ env.locals s.heap m₀) (N : News h₀ env.locals s.heap news)
    (hm : ∀ y, m₀ y = fm c₀ m₀ y) (hl : ∀ p ∈ Led c₀, p ∈ news) (hadr : ∀ c, (Led c).map Prod.fst = (Led c₀).map Prod.fst) (hJ : J 0 c₀)
    (turn : ∀ (i : Nat) (c₁ : σ) (u : Str → Option Value) I t h tk, i < n → J i c₁ → (∀ p ∈ Led c₁, p.1 ≠ I) → Fr h₀ env.locals h (fun y => if y = x then some (.int (a + (i : Int) * c) t) else fm c₁ u y) →
      News h₀ env.locals h ((I, krsIt (a + ((i + 1 : Nat) : Int) * c) ((n : Int) - ((i + 1 : Nat) : Int)) c) :: Led c₁) →
      wpAny (model prog w) A (execs body env) (ForPost h₀ env.locals s fm Led I (krsIt (a + ((i + 1 : Nat) : Int) * c) ((n : Int) - ((i + 1 : Nat) : Int)) c) (J (i + 1)) Q) E { s with heap := h, toks := tk })
    (fin : ∀ (c₁ : σ) (u : Str → Option Value) h tk, J n c₁ → Fr h₀ env.locals h (fm c₁ u) → News h₀ env.locals h (Led c₁) → Q .next { s with heap := h, toks := tk }) :
    wpAny (model prog w) A (pyIter (.ref r)) (fun it s₂ => LoopAtV prog w A h₀ env x body Q E it s₂) E s := by
  refine krs_iter hh hr hsmall hn F N fun I hlt => ?_
  have hI : ∀ c₁, ∀ p ∈ Led c₁, p.1 ≠ I := fun c₁ p hp => by
    have h1 : p.1 ∈ (Led c₀).map Prod.fst := by rw [← hadr c₁]; exact List.mem_map_of_mem hp
    obtain ⟨q, hq, e⟩ := List.mem_map.mp h1
    have := hlt q (hl q hq)
    rw [← e]
    exact Nat.ne_of_lt this
  exact krs_inv fm Led J hI (fun i c₁ u t h tk hi hj F N => turn i c₁ u I t h tk hi hj (hI c₁) F N) fin n 0 c₀ m₀ news (by omega) hJ hm hl
end
section
variable {prog : Program} {w : World} {A : Around} {E : Value → Shared → Prop} {Q : Flow → Shared → Prop} {s : Shared} {env : Env} {h₀ : Heap} {target : Expr} {body : List Stmt}
theorem items_inv {σ : Type} {I ax : Addr} {lo : Obj} (vs : List Value) (fm : σ → (Str → Option Value) → Str → Option Value) (Led : σ → List (Addr × Obj)) (J : Nat → σ → Prop) (hI : ∀ c, ∀ p ∈ Led c, p.1 ≠ I) (hk : ∀ c, (ax, lo) ∈ Led c)
    (turn : ∀ (i : Nat) (c₁ : σ) (u : Str → Option Value) v o h tk, vs[i]? = some v → J i c₁ → o.cls = .type "list_iterator" → Fr h₀ env.locals h (fm c₁ u) → News h₀ env.locals h ((I, o) :: Led c₁) →
      wpAny (model prog w) A (assign target env v) (fun _ s₂ => wpAny (model prog w) A (execs body env) (ForPost h₀ env.locals s fm Led I o (J (i + 1)) Q) E s₂) E { s with heap := h, toks := tk })
    (fin : ∀ (c₁ : σ) (u : Str → Option Value) h tk, J vs.length c₁ → Fr h₀ env.locals h (fm c₁ u) → News h₀ env.locals h (Led c₁) → Q .next { s with heap := h, toks := tk }) :
    ∀ (r : List Value) (i : Nat) (c₁ : σ) (m : Str → Option Value) (news : List (Addr × Obj)), vs.drop i = r → J i c₁ → i + r.length = vs.length → (∀ y, m y = fm c₁ m y) → (∀ p ∈ Led c₁, p ∈ news) →
      ItemsRest prog w A E h₀ env target body Q s [(I, "list_iterator")] [(ax, lo)] (r.map .val) m news
  | [], i, c₁, m, news, hr, hJ, hi, hm, hl => by
    intro h tk F N
    have e : i = vs.length := by simpa using hi
    subst e
    rw [show m = fm c₁ m from funext hm] at F
    exact fin c₁ m h tk hJ F fun p hp => N p (hl p hp)
  | v :: r, i, c₁, m, news, hr, hJ, hi, hm, hl => by
    refine ItemsRest.val fun h tk F => AllObj.cons fun o ho => AllObj.nil fun N => ?_
    have hv : vs[i]? = some v := by
      have := congrArg List.head? hr
      rwa [List.head?_drop] at this
    have F₂ : Fr h₀ env.locals h (fm c₁ m) := by rw [← show m = fm c₁ m from funext hm]; exact F
    refine wpAny_mono (turn i c₁ m v o h tk hv hJ ho F₂ (fun p hp => ?_)) (fun _ s₂ z => ?_) fun _ _ e => e
    · rcases List.mem_cons.mp hp with rfl | hp
      · exact N _ (.head _)
      · exact N _ (.tail _ (hl p hp))
    refine wpAny_mono z (fun f s₃ z => ?_) fun _ _ e => e
    have go : ForEnd h₀ env.locals s fm Led I o (J (i + 1)) s₃ → UnrEndW h₀ env.locals { s with heap := h, toks := tk } [(I, o)] (fun m' n' => SubL [(ax, lo)] n' ∧ ItemsRest prog w A E h₀ env target body Q s [(I, "list_iterator")] [(ax, lo)] (r.map .val) m' n') s₃ := by
      rintro ⟨c', h', tk', m', news', rfl, F', hm', N', hn', hj⟩
      refine ⟨h', tk', m', Led c', rfl, F', fun p hp => N' p (hn' p hp), fun p hp q hq => by rw [List.mem_singleton.mp hq]; exact hI c' p hp, And.intro (hk c') trivial, ?_⟩
      exact items_inv vs fm Led J hI hk turn fin r (i + 1) c' m' (Led c') (by rw [← List.drop_drop, hr]; rfl) hj (by simp only [List.length_cons] at hi; omega) hm' fun p hp => hp
    cases f with
    | ret v => exact z
    | brk => exact z
    | next => exact go z
    | cont => exact go z
/-- a for over a list, by what holds at each turn -/
theorem my_forlist {σ : Type} {ax : Addr} {lo : Obj} {vs : List Value} {n : Nat} {m₀ : Str → Option Value} {news : List (Addr × Obj)} (fm : σ → (Str → Option Value) → Str → Option Value) (Led : σ → List (Addr × Obj)) (J : Nat → σ → Prop) (c₀ : σ)
    (hh : A.handled = none) (F : Fr h₀ env.locals s.heap m₀) (N : News h₀ env.locals s.heap news) (hc : lo.cls = .type "list") (hd : lo.data = .seq vs.toArray n) (hk : ∀ c, (ax, lo) ∈ Led c)
    (hm : ∀ y, m₀ y = fm c₀ m₀ y) (hl : ∀ p ∈ Led c₀, p ∈ news) (hadr : ∀ c, (Led c).map Prod.fst = (Led c₀).map Prod.fst) (hJ : J 0 c₀)
    (turn : ∀ (i : Nat) (c₁ : σ) (u : Str → Option Value) I v o h tk, vs[i]? = some v → J i c₁ → (∀ p ∈ Led c₁, p.1 ≠ I) → o.cls = .type "list_iterator" → Fr h₀ env.locals h (fm c₁ u) → News h₀ env.locals h ((I, o) :: Led c₁) →
      wpAny (model prog w) A (assign target env v) (fun _ s₂ => wpAny (model prog w) A (execs body env) (ForPost h₀ env.locals s fm Led I o (J (i + 1)) Q) E s₂) E { s with heap := h, toks := tk })
    (fin : ∀ (c₁ : σ) (u : Str → Option Value) h tk, J vs.length c₁ → Fr h₀ env.locals h (fm c₁ u) → News h₀ env.locals h (Led c₁) → Q .next { s with heap := h, toks := tk }) :
    wpAny (model prog w) A (pyIter (.ref ax)) (fun it s₂ => TurnsAt prog w A h₀ env target body Q E it s₂) E s := by
  refine iter_listTurns hh F N (hl _ (hk c₀)) hc hd fun I hlt => ?_
  have hI : ∀ c₁, ∀ p ∈ Led c₁, p.1 ≠ I := fun c₁ p hp => by
    have h1 : p.1 ∈ (Led c₀).map Prod.fst := by rw [← hadr c₁]; exact List.mem_map_of_mem hp
    obtain ⟨q, hq, e⟩ := List.mem_map.mp h1
    have := hlt q (hl q hq)
    rw [← e]
    exact Nat.ne_of_lt this
  exact items_inv vs fm Led J hI hk (fun i c₁ u v o h tk hv hj ho F N => turn i c₁ u I v o h tk hv hj (hI c₁) ho F N) fin vs 0 c₀ m₀ news rfl hJ (by simp) hm hl
end
section
open LCg
variable {prog : Program} {w : World} {A : Around} {E : Value → Shared → Prop} {s : Shared} {h₀ : Heap} {L : Addr} {m : Str → Option Value} {env : Env}
/-- a list comprehension over a range with a step -/
def SrcC (prog : Program) (w : World) (A : Around) (h₀ : Heap) (L : Addr) (m : Str → Option Value) (env : Env) (elt : Expr) (x : Str) (scope : Scope) (cl : List (Str × Addr)) (Fin : Shared → List Value → List (Addr × Obj) → Prop) (xv : Value) (s₁ : Shared) : Prop :=
  ∃ r a b c t u v n news, xv = .ref r ∧ A.handled = none ∧ Fr h₀ L s₁.heap m ∧ News h₀ L s₁.heap news ∧ IsRange s₁.heap r a b c t u v ∧ Builtin.Range.small a b c = true ∧ Builtin.Range.rangeSize a b c = ((n : Nat) : Int) ∧ n ≤ sizeLine ∧
    ∀ s₂ : Shared, (∃ h, s₂ = { s₁ with heap := h }) → CompRest prog w A h₀ L m env elt x scope cl s₂ (fun _ => True) (fun i v => i < n ∧ ∃ t, v = .int (a + (i : Int) * c) t) (Fin s₂) n 0 [] news
theorem SrcC.range {elt : Expr} {x : Str} {scope : Scope} {cl : List (Str × Addr)} {Fin : Shared → List Value → List (Addr × Obj) → Prop} {r : Addr} {a b c : Int} {t u v : Tok} {n : Nat} {news : List (Addr × Obj)} {s₁ : Shared}
    (hh : A.handled = none) (F : Fr h₀ L s₁.heap m) (N : News h₀ L s₁.heap news) (hr : IsRange s₁.heap r a b c t u v) (hsm : Builtin.Range.small a b c = true) (hn : Builtin.Range.rangeSize a b c = ((n : Nat) : Int)) (hsz : n ≤ sizeLine)
    (h : ∀ g, CompRest prog w A h₀ L m env elt x scope cl { s₁ with heap := g } (fun _ => True) (fun i v => i < n ∧ ∃ t, v = .int (a + (i : Int) * c) t) (Fin { s₁ with heap := g }) n 0 [] news) :
    SrcC prog w A h₀ L m env elt x scope cl Fin (.ref r) s₁ := ⟨r, a, b, c, t, u, v, n, news, rfl, hh, F, N, hr, hsm, hn, hsz, fun _ ⟨g, e⟩ => e ▸ h g⟩
theorem ListComp_C {elt iter : Expr} {x : Str} {px : Pos} {scope : Scope} {cl : List (Str × Addr)} {pos : Pos} {Q : Value → Shared → Prop} (F₀ : Fr h₀ L s.heap m)
    (hclos : closureFor scope env = pure cl) (hcell : ∀ y ∈ scope.names, y.2 ≠ .cell) (hkind : scope.kind = .function)
    (hnames : ∀ y ∈ scope.names, y.2 = .local → scope.names.lookup y.1 = some .local) (hx : scope.names.lookup x = some .local)
    (h : wpAny (model prog w) A (eval iter env) (SrcC prog w A h₀ L m env elt x scope cl (fun s₂ => FinE h₀ L m s₂ Q)) E s)
    (hs : ∀ x, foldedSetIterable iter env x = pure x := by intro _; rfl) :
    wpAny (model prog w) A (eval (.ListComp elt [⟨.Name x px, iter, [], 0⟩] scope pos) env) Q E s := by
  rw [eval_ListComp]
  refine wpAny_comprehension_free (use := none) rfl hs hclos hkind hnames (wpAny_mono h (fun xv s₁ h₁ => ?_) fun _ _ e => e)
  obtain ⟨r, a, b, c, t, u, v, n, news, rfl, hh, F, N, hr, hsm, hn, hsz, R⟩ := h₁
  refine wpAny_pyIter_range hr hsm ?_
  have W : Walks prog w A s₁.heap.objs.size [s₁.heap.objs.size] [s₁.heap.objs.size] n (fun i v => i < n ∧ ∃ t, v = .int (a + i * c) t)
      (fun i h => IsRangeIter h s₁.heap.objs.size (a + (i : Nat) * c) ((n : Int) - (i : Nat)) c) := (Walks.range hh _ a c n).bound
  refine block_U W hsz (fun i h st => ⟨_, st⟩) (fun i h h' o nw st e e' _ _ _ => by
    have st' : h.get? s₁.heap.objs.size = some _ := st
    show h'.get? s₁.heap.objs.size = some _
    rw [e', ← e]; exact st') hcell hkind hx (by show IsRangeIter _ _ _ _ _; rw [hn]; simpa using Heap.get?_push_size _ rfl) (fun b hb => ?_)
    (F.keeps fun _ _ e => Heap.get?_push_of_some _ e) (N.grown fun _ _ e => Heap.get?_push_of_some _ e) (Nat.ne_of_lt F.ns.lt) (next_is_new F) (fun p hp => Nat.ne_of_lt (Heap.lt_size (N p hp).1)) trivial (R _ ⟨_, rfl⟩) ?_
  · rw [List.mem_singleton.mp hb]
    show s₁.heap.objs.size < (s₁.heap.push _).objs.size
    rw [Heap.size_push]; exact Nat.lt_succ_self _
  · intro D C h tk m' ys news' F' N' o1 hn hC₀ hD₀ hCL hDL hCD offC fin
    refine ⟨m', hn, fun h'' hs'' => fin D h'' tk (F'.change hs'' hCL hC₀) (fun p hp => ?_) o1⟩
    refine ⟨hs''.extBut _ _ ?_ (N' p hp).1, (N' p hp).2⟩
    rcases List.mem_cons.mp hp with rfl | hp
    · exact Ne.symm hCD
    · exact offC p hp
/-- an item of a comprehension, made -/
def CompOK (h₀ : Heap) (L : Addr) (m : Str → Option Value) (s : Shared) (news : List (Addr × Obj)) (f : Value → Prop) (y : Value) (s₂ : Shared) : Prop := f y ∧ ∃ h' tk', s₂ = { s with heap := h', toks := tk' } ∧ Fr h₀ L h' m ∧ News h₀ L h' news
theorem comp_inv {elt : Expr} {x : Str} {scope : Scope} {cl : List (Str × Addr)} {news : List (Addr × Obj)} {n : Nat} {P : Nat → Value → Prop} {Fin : List Value → List (Addr × Obj) → Prop} (f : Nat → Value → Prop)
    (turn : ∀ i ys v I oI C oC D m₂ h tk (E' : Value → Shared → Prop), P i v → NsObj oC m₂ → m₂ x = some v → Fr h₀ L h m → News h₀ L h ((I, oI) :: (C, oC) :: (D, lst ys) :: news) →
      wpAny (model prog w) A (eval elt (compEnvC scope cl C env)) (CompOK h₀ L m { s with heap := h, toks := tk } ((I, oI) :: (C, oC) :: (D, lst ys) :: news) (f i)) E' { s with heap := h, toks := tk })
    (fin : ∀ ys, ys.length = n → (∀ i v, ys[i]? = some v → f i v) → Fin ys news) :
    ∀ k i ys, k + i = n → ys.length = i → (∀ j v, ys[j]? = some v → f j v) → CompRest prog w A h₀ L m env elt x scope cl s (fun _ => True) P Fin k i ys news
  | 0, i, ys, hk, hl, hf => fin ys (by omega) hf
  | k + 1, i, ys, hk, hl, hf => by
    intro v I oI C oC D m₂ h tk E' hP hC hx F N off ne
    refine wpAny_mono (turn i ys v I oI C oC D m₂ h tk E' hP hC hx F N) (fun y s₂ z => ?_) fun _ _ e => e
    obtain ⟨hy, h', tk', rfl, F', N'⟩ := z
    refine ⟨h', tk', news, rfl, F', N', off, trivial, comp_inv f turn fin k (i + 1) (ys ++ [y]) (by omega) (by rw [List.length_append, hl]; rfl) fun j v hj => ?_⟩
    by_cases q : j < ys.length
    · rw [List.getElem?_append_left q] at hj; exact hf j v hj
    · rw [List.getElem?_append_right (by omega)] at hj
      have e : j - ys.length = 0 := by
        cases hh : j - ys.length with
        | zero => rfl
        | succ _ => rw [hh] at hj; cases hj
      rw [e] at hj
      cases hj
      have : j = i := by omega
      rw [this]; exact hy
end
section
variable {prog : Program} {w : World} {A : Around} {E : Value → Shared → Prop} {s : Shared} {h₀ : Heap} {L : Addr} {news : List (Addr × Obj)}
theorem my_item {value slice : Expr} {l : Addr} {vs : List Value} {ns : List Int} {n : Nat} {k : Int} {u : Tok} {Q : Value → Shared → Prop} (N : News h₀ L s.heap news) (hm : (l, listOf vs.toArray n) ∈ news) (hi : IntsAre vs ns) (h0 : 0 ≤ k) (h1 : k < (ns.length : Int)) (hz : ns.length ≤ 1000000)
    (h : ∀ t, Q (.int (ns.getD k.toNat 0) t) s) (hs : subscripted slice false (.ref l) (.int k u) = operate [.ref l, .int k u] (getItem (.ref l) (.int k u)) := by with_unfolding_all rfl) (hg : ∀ r, letTemporaryGo value (.ref l) r = pure () := by intro _; with_unfolding_all rfl) :
    wpAny (model prog w) A (subscriptTail value slice (.ref l) (.int k u)) Q E s :=
  item_list_ints ⟨_, (N _ hm).1, rfl, n, rfl⟩ hi h0 h1 (by omega) (fun t => h t) hs hg
theorem my_set {D : Addr} {m : Str → Option Value} {news' : List (Addr × Obj)} {vs ws : List Value} {n : Nat} {k : Int} {t : Tok} {x : Value} {Q : Unit → Shared → Prop} (F : Fr h₀ L s.heap m) (N : News h₀ L s.heap news) (hw : vs.set k.toNat x = ws) (U : Upd D (listOf vs.toArray n) (listOf ws.toArray n) news news') (h0 : 0 ≤ k) (h1 : k < (vs.length : Int)) (hfit : k < 2 ^ 63)
    (h : ∀ h', Fr h₀ L h' m → News h₀ L h' news' → Q () { s with heap := h' }) :
    wpAny (model prog w) A (setItem (.ref D) (.int k t) x) Q E s := by
  subst hw
  obtain ⟨pre, post, rfl, rfl, a, b⟩ := U.split
  have z := N (D, listOf vs.toArray n) (List.mem_append.mpr (.inr (.head _)))
  refine ki_setAt z.1 h0 hfit (by rw [List.size_toArray]; omega) (h _ (F.change (Heap.SameBut.update ..) z.2.1 z.2.2) (ki_turn _ N a b ?_ ?_))
  · show vs.toArray.setIfInBounds k.toNat x = (vs.set k.toNat x).toArray
    apply Array.toList_inj.mp
    simp
  · simp
end
theorem fmod2 {n : Nat} (h : ((n : Int).fmod 2) = 1) : n % 2 = 1 := by
  rw [Int.fmod_eq_emod_of_nonneg _ (by decide)] at h; omega
theorem fmod2' {n : Nat} (h : ((n : Int).fmod 2) ≠ 1) : n % 2 = 0 := by
  rw [Int.fmod_eq_emod_of_nonneg _ (by decide)] at h; omega
end Mine
end
section
open PySem PySem.W PyProof.Rows PySem.Calls PySem.Spec
namespace Mine
section
variable {prog : Program} {w : World} {A : Around} {E : Value → Shared → Prop} {s : Shared} {a b : Int} {t u : Tok} {Q : Value → Shared → Prop}
theorem my_mod (hb : 0 < b) (h : ∀ (r : Nat) t', (r : Int) < b → Q (.int r t') { s with toks := s.toks + 1 }) : wpAny (model prog w) A (binaryOp .Mod (.int a t) (.int b u)) Q E s := by
  have h0 := Int.fmod_nonneg_of_pos a hb
  have h1 := Int.fmod_lt_of_pos a hb
  refine mod_int' (by omega) ?_
  obtain ⟨r, hr⟩ := Int.eq_ofNat_of_zero_le h0
  rw [hr] at h1 ⊢
  exact h r _ h1
theorem my_fdiv (ha : 0 ≤ a) (hb : 0 < b) (hb2 : b < 1000000) (h : ∀ (r : Nat) t', Q (.int r t') { s with toks := s.toks + 1 }) : wpAny (model prog w) A (binaryOp .FloorDiv (.int a t) (.int b u)) Q E s := by
  refine floordiv_int (by omega) ?_ (Or.inl (PyProof.noPylong_small (by omega)))
  obtain ⟨r, hr⟩ := Int.eq_ofNat_of_zero_le (Int.fdiv_nonneg (a := a) (b := b) ha (by omega))
  rw [hr]
  exact h r _
theorem my_pow (hb : 0 ≤ b) (hb2 : b ≤ 100) (ha : a.natAbs < 2 ^ 64) (h : ∀ r t', Q (.int r t') { s with toks := s.toks + 1 }) : wpAny (model prog w) A (binaryOp .Pow (.int a t) (.int b u)) Q E s :=
  pow_int_small hb (by omega) ha (h _ _)
end
theorem draw_bound1 {r p : Int} (h0 : 0 ≤ r) (h1 : r < 2147483629) (h2 : 0 ≤ p) (h3 : p ≤ 100000) : (r + 40503 * p + 977).natAbs < 2 ^ 64 := by omega
theorem draw_bound2 {r p : Int} (h0 : 0 ≤ r) (h1 : r < 2147483587) (h2 : 0 ≤ p) (h3 : p ≤ 100000) : (r * (2 * p + 5003) + p * p + 11).natAbs < 2 ^ 64 := by
  have e1 : r * (2 * p + 5003) ≤ 2147483587 * 205003 := Int.mul_le_mul (by omega) (by omega) (by omega) (by omega)
  have e2 : 0 ≤ r * (2 * p + 5003) := Int.mul_nonneg h0 (by omega)
  have e3 : p * p ≤ 100000 * 100000 := Int.mul_le_mul h3 h3 h2 (by omega)
  have e4 : 0 ≤ p * p := Int.mul_nonneg h2 h2
  omega
/-- the text of one code, and of a row of codes -/
def chS (c : Int) : Str := ⟨#[c.toNat]⟩
def nmS (cs : List Int) : Str := Txt.join (Str.ofString "") (cs.map chS)
theorem strsAre_app {vs ws : List Value} {a b : List Str} (h : StrsAre vs a) (k : StrsAre ws b) : StrsAre (vs ++ ws) (a ++ b) := by
  induction h with
  | nil => exact k
  | cons y t _ ih => exact .cons y t ih
theorem chS_sum (cs : List Int) : ((cs.map chS).map (·.length)).sum = cs.length := by
  induction cs with
  | nil => rfl
  | cons c r ih =>
    rw [List.map_cons, List.map_cons, List.sum_cons, ih, List.length_cons]
    show 1 + r.length = _
    omega
section
variable {prog : Program} {w : World} {A : Around} {E : Value → Shared → Prop} {s : Shared} {h₀ : Heap} {L : Addr} {news : List (Addr × Obj)} {t : Tok} {Q : Value → Shared → Prop}
theorem my_join {l : Addr} {vs : List Value} {cs : List Int} {n : Nat} (N : News h₀ L s.heap news) (hm : (l, listOf vs.toArray n) ∈ news) (hi : StrsAre vs (cs.map chS)) (hz : cs.length ≤ 100000)
    (h : ∀ t' k, Q (.str (nmS cs) t') { s with toks := k }) : wpAny (model prog w) A (call (.builtin "str.join") [.str (Str.ofString "") t, .ref l]) Q E s :=
  join_list ⟨_, (N _ hm).1, rfl, n, rfl⟩ (by simpa using hi) (by rw [chS_sum]; show _ + _ * 0 ≤ _; omega) h
theorem my_chr {k : Int} (h0 : 0 ≤ k) (h1 : k < 256) (h : Q (.str (chS k) s.toks) { s with toks := s.toks + 1 }) : wpAny (model prog w) A (call (.builtin "chr") [.int k t]) Q E s :=
  P.chr_of_int (by rw [Bool.or_eq_false_iff, decide_eq_false_iff_not, decide_eq_false_iff_not]; omega) h
end
/-- the ways of an if meet -/
def IfJ (J : Shared → Prop) (f : Flow) (s' : Shared) : Prop := f = .next ∧ J s'
theorem if_join {M : Model} {A : Around} {E : Value → Shared → Prop} {Q : Flow → Shared → Prop} {s : Shared} {x : Sem Flow} (J : Shared → Prop) (h1 : wpAny M A x (IfJ J) E s) (h2 : ∀ s', J s' → Q .next s') : wpAny M A x Q E s :=
  wpAny_mono h1 (fun f s' h => by obtain ⟨rfl, h⟩ := h; exact h2 s' h) fun _ _ e => e
/-- what holds of a row that grows -/
def GrowJ (h₀ : Heap) (L : Addr) (m : Str → Option Value) (s : Shared) (l' : Addr) (rest : List (Addr × Obj)) (P : List Value → Prop) (s' : Shared) : Prop :=
  ∃ h' tk' vs n, s' = { s with heap := h', toks := tk' } ∧ Fr h₀ L h' m ∧ News h₀ L h' ((l', listOf vs.toArray n) :: rest) ∧ P vs
theorem grow_join {M : Model} {A : Around} {E : Value → Shared → Prop} {Q : Flow → Shared → Prop} {s s₁ : Shared} {x : Sem Flow} {h₀ : Heap} {L l' : Addr} {m : Str → Option Value} {rest : List (Addr × Obj)} (F : Fr h₀ L s₁.heap m) (P : List Value → Prop)
    (h1 : wpAny M A x (IfJ (GrowJ h₀ L m s l' rest P)) E s₁) (h2 : ∀ h' tk' vs n, Fr h₀ L h' m → News h₀ L h' ((l', listOf vs.toArray n) :: rest) → P vs → Q .next { s with heap := h', toks := tk' }) : wpAny M A x Q E s₁ :=
  if_join _ h1 fun s' ⟨h', tk', vs, n, e, F', N', p⟩ => by rw [e]; exact h2 h' tk' vs n F' N' p
theorem my_extw {prog : Program} {w : World} {A : Around} {E : Value → Shared → Prop} {Q : Value → Shared → Prop} {s : Shared} {h₀ : Heap} {L D b : Addr} {m : Str → Option Value} {news news' : List (Addr × Obj)} {vs ws : List Value} {n n2 : Nat}
    (F : Fr h₀ L s.heap m) (N : News h₀ L s.heap news) (hb : (b, listOf ws.toArray n2) ∈ news) (hw : ws ≠ []) (U : Upd D (listOf vs.toArray n) (listOf (vs ++ ws).toArray (n + 1)) news news') (hz : vs.length ≤ 500000) (hz2 : ws.length ≤ 400000)
    (h : ∀ h', Fr h₀ L h' m → News h₀ L h' news' → Q .none { s with heap := h' }) : wpAny (model prog w) A (call (.builtin "list.extend") [.ref D, .ref b]) Q E s :=
  kl_extend F N hb (l := vs ++ ws) (by simp) (by simp [hw]) U (room_of (by simp; omega)) (by rw [sizeLine_eq]; simp; omega) (by rw [sizeLine_eq]; simp; omega) h
section
variable {prog : Program} {w : World} {A : Around} {E : Value → Shared → Prop} {Q : Value → Shared → Prop} {s : Shared} {h₀ : Heap} {L l : Addr} {news : List (Addr × Obj)} {vs : List Value} {n : Nat}
theorem my_len (N : News h₀ L s.heap news) (hm : (l, listOf vs.toArray n) ∈ news) (hz : vs.length ≤ 1000000) (h : Q (.int (vs.length : Int) (s.toks + 1)) { s with toks := s.toks + 1 + 1 }) : wpAny (model prog w) A (call (.builtin "len") [.ref l]) Q E s := by
  refine len_list ⟨_, (N _ hm).1, rfl, n, rfl⟩ (by rw [List.size_toArray]; omega) ?_
  rw [List.size_toArray]; exact h
theorem my_ways {value slice : Expr} {k : Int} {u : Tok} {code : Int} {bf : Bool} (N : News h₀ L s.heap news) (hm : (l, listOf vs.toArray n) ∈ news) (hW : WaysOk code bf vs) (h0 : 0 ≤ k) (h1 : k < (vs.length : Int)) (hz : vs.length ≤ 1000)
    (h : ∀ (b : Array UInt8) t, CodeOk code bf (KBw.bInts b) → Q (.bytes b t) s)
    (hs : subscripted slice false (.ref l) (.int k u) = operate [.ref l, .int k u] (getItem (.ref l) (.int k u)) := by with_unfolding_all rfl) (hg : ∀ r, letTemporaryGo value (.ref l) r = pure () := by intro _; with_unfolding_all rfl) :
    wpAny (model prog w) A (subscriptTail value slice (.ref l) (.int k u)) Q E s := by
  have hj : k.toNat < vs.length := by omega
  obtain ⟨b, t, e, ok⟩ := hW _ (List.getElem_mem hj)
  refine item_listL ⟨_, (N _ hm).1, rfl, n, rfl⟩ h0 (by omega) (x := .bytes b t) ?_ (h b t ok) hs hg
  rw [List.getElem?_eq_getElem hj, e]
end
theorem news_pick2r {h₀ h : Heap} {L : Addr} {p q : Addr × Obj} {l r r' : List (Addr × Obj)} (N : News h₀ L h l) (x : Pick p l r) (y : Pick q r r') : News h₀ L h (p :: q :: r') := fun z hz => by
  rcases List.mem_cons.mp hz with rfl | hz
  · exact N _ (x.mem _ (.head _))
  · rcases List.mem_cons.mp hz with rfl | hz
    · exact N _ (x.mem _ (.tail _ (y.mem _ (.head _))))
    · exact N _ (x.mem _ (.tail _ (y.mem _ (.tail _ hz))))
theorem ok92 {b : Array UInt8} {l : List Int} (h : KBw.bInts b = l) : KBw.bInts (#[92] ++ b) = 92 :: l := KBw.ints_app (ks := [92]) rfl h
theorem okc {code : Int} (h : ((code.toNat.toUInt8.toNat : Nat) : Int) = code) : KBw.bInts #[code.toNat.toUInt8] = [code] := by show [((code.toNat.toUInt8.toNat : Nat) : Int)] = _; rw [h]
theorem ok92c {code : Int} (h : ((code.toNat.toUInt8.toNat : Nat) : Int) = code) : KBw.bInts (#[92] ++ #[code.toNat.toUInt8]) = [92, code] := ok92 (okc h)
theorem WaysOk.nil {code : Int} {bf : Bool} : WaysOk code bf [] := fun v hv => nomatch hv
theorem WaysOk.cons {code : Int} {bf : Bool} {b : Array UInt8} {t : Tok} {vs : List Value} (h : CodeOk code bf (KBw.bInts b)) (k : WaysOk code bf vs) : WaysOk code bf (.bytes b t :: vs) := WaysOk.app (.one h) k
theorem ifj_mk {s : Shared} {h₀ h' : Heap} {L l' : Addr} {m : Str → Option Value} {rest : List (Addr × Obj)} {P : List Value → Prop} {tk' : Nat} (vs : List Value) {n : Nat} (F : Fr h₀ L h' m) (N : News h₀ L h' ((l', listOf vs.toArray n) :: rest)) (p : P vs) :
    IfJ (GrowJ h₀ L m s l' rest P) .next { s with heap := h', toks := tk' } := ⟨rfl, h', tk', vs, n, rfl, F, N, p⟩
end Mine
end
section
open PySem PySem.W PyProof.Rows PySem.Calls
namespace Mine
theorem is_white_c {w : World} {dp un : Nat} {gd : Option (List Code)} {cn : Str} {cs : Scope} {a : Addr} {ccd : Value} {cl : List (Str × Addr)} {outer : List Env} {A₀ : Around} {base h₀ : Heap} {L : Addr} {m : Str → Option Value} {s : Shared} {Q E : Value → Shared → Prop} {mg mb : Str → Option Value} {mean : ExcName → Option Value} {loose : List Str} {news : List (Addr × Obj)} {code : Int} {tk : Tok}
  (B : Below A₀ base outer h₀) (F : Fr h₀ L s.heap m) (X : (Mine.hd.heap_1 w.params).In h₀) (N : News h₀ L s.heap (news)) (T : Top Mine.view loose mean mg mb h₀) (hk : cs.kind = .function) (hd : dp + 8 < recursionLimit) (hu : un + 100 < cLine) 
  (hQ : ∀ h' tk', Fr h₀ L h' m → News h₀ L h' news → Q (.bool (isWhite code)) { s with heap := h', toks := tk' }) :
  wpAny (model Challenge.rw_nn0223_01.row.prog w) (ktrTop dp un gd cn cs L a ccd cl outer) (call (.ref 70) [.int code tk]) Q E s := by
  k_with_none
  w_top off
  k_with "MyPost" =>
    (dsimp only [MyPost])
  k_with "eval Call" =>
    ((with_reducible show wpAny _ _ (eval (Expr.Call (Expr.Name _ _) _ [] _) _) _ _ _); k_dflt (refine Call_ ?_))
  k_with "eval Call Attribute" =>
    ((with_reducible show wpAny _ _ (eval (Expr.Call (Expr.Attribute _ _ _) _ [] _) _) _ _ _); k_dflt (refine MethodCall_ ?_))
  k_with "compareOp In int ref" =>
    ((with_reducible show wpAny _ _ (compareOp CmpOp.In (Value.int _ _) (Value.ref 62)) _ _ _); refine in_tuple_ints (ns := [0, 9, 10, 12, 13, 32]) (tupK (Frag.In.keeps (by k_asm) (Fr.keep (by k_asm))) (by k_is)) (by repeat constructor) ?_)
  k_with "compareOp NotIn int ref" =>
    ((with_reducible show wpAny _ _ (compareOp CmpOp.NotIn (Value.int _ _) (Value.ref 62)) _ _ _); refine notin_tuple_ints (ns := [0, 9, 10, 12, 13, 32]) (tupK (Frag.In.keeps (by k_asm) (Fr.keep (by k_asm))) (by k_is)) (by repeat constructor) ?_)
  k_with "compareOp NotIn int ref" =>
    ((with_reducible show wpAny _ _ (compareOp CmpOp.NotIn (Value.int _ _) (Value.ref 63)) _ _ _); refine notin_tuple_ints (ns := [40, 41, 60, 62, 91, 93, 123, 125, 47, 37]) (tupK (Frag.In.keeps (by k_asm) (Fr.keep (by k_asm))) (by k_is)) (by repeat constructor) ?_)
  k_with "compareOp In int ref" =>
    ((with_reducible show wpAny _ _ (compareOp CmpOp.In (Value.int _ _) (Value.ref 304)) _ _ _); refine in_tuple_ints (ns := [91, 93, 123, 125]) (tupK (Frag.In.keeps (by k_asm) (Fr.keep (by k_asm))) (by k_is)) (by repeat constructor) ?_)
  revert X; k_fill; intro X
  refine wpAny_call ?_
  k_dflt (refine' code_def (binds := [((Str.ofString "code"), .int code tk)]) ?k1 ?k2 ?k3 ?k4 ?k5 ?kA ?kF ?kK ?k6 ?k7 ?k8 ?k9 ?kB ?_ ?c2 ?c3 ?c4 ?c5; (case kA => exact rfl); (case kF => exact rfl); (case kK => assumption); (case k1 => k_asm); (case k2 => k_asm); (case k3 => k_asm); (case k4 => k_asm); (case k5 => k_asm); (case k6 => k_is); (case k7 => k_is); (case k8 => ktr_room); (case k9 => first | exact BindsTo.of_eq rfl | exact binds_K (by k_in) rfl (by k_is) rfl rfl rfl); (case c5 => decide); (case kB => exact locs rfl); (case c2 => exact rfl); (case c3 => exact rfl); (case c4 => exact rfl))
  k_whole
  intro g' L' h' FG' F' N' B' X' T'
  (try dsimp only [List.reverse_cons, List.reverse_nil, List.nil_append, List.cons_append]); (try k_fold)
  k_steps
  exact hQ _ _ (by assumption) (by assumption)
theorem is_regular_c {w : World} {dp un : Nat} {gd : Option (List Code)} {cn : Str} {cs : Scope} {a : Addr} {ccd : Value} {cl : List (Str × Addr)} {outer : List Env} {A₀ : Around} {base h₀ : Heap} {L : Addr} {m : Str → Option Value} {s : Shared} {Q E : Value → Shared → Prop} {mg mb : Str → Option Value} {mean : ExcName → Option Value} {loose : List Str} {news : List (Addr × Obj)} {code : Int} {tk : Tok}
  (B : Below A₀ base outer h₀) (F : Fr h₀ L s.heap m) (X : (Mine.hd.heap_1 w.params).In h₀) (N : News h₀ L s.heap (news)) (T : Top Mine.view loose mean mg mb h₀) (hk : cs.kind = .function) (hd : dp + 8 < recursionLimit) (hu : un + 100 < cLine) 
  (hQ : ∀ h' tk', Fr h₀ L h' m → News h₀ L h' news → Q (.bool (isRegular code)) { s with heap := h', toks := tk' }) :
  wpAny (model Challenge.rw_nn0223_01.row.prog w) (ktrTop dp un gd cn cs L a ccd cl outer) (call (.ref 77) [.int code tk]) Q E s := by
  k_with_none
  w_top off
  k_with "MyPost" =>
    (dsimp only [MyPost])
  k_with "eval Call" =>
    ((with_reducible show wpAny _ _ (eval (Expr.Call (Expr.Name _ _) _ [] _) _) _ _ _); k_dflt (refine Call_ ?_))
  k_with "eval Call Attribute" =>
    ((with_reducible show wpAny _ _ (eval (Expr.Call (Expr.Attribute _ _ _) _ [] _) _) _ _ _); k_dflt (refine MethodCall_ ?_))
  k_with "compareOp In int ref" =>
    ((with_reducible show wpAny _ _ (compareOp CmpOp.In (Value.int _ _) (Value.ref 62)) _ _ _); refine in_tuple_ints (ns := [0, 9, 10, 12, 13, 32]) (tupK (Frag.In.keeps (by k_asm) (Fr.keep (by k_asm))) (by k_is)) (by repeat constructor) ?_)
  k_with "compareOp NotIn int ref" =>
    ((with_reducible show wpAny _ _ (compareOp CmpOp.NotIn (Value.int _ _) (Value.ref 62)) _ _ _); refine notin_tuple_ints (ns := [0, 9, 10, 12, 13, 32]) (tupK (Frag.In.keeps (by k_asm) (Fr.keep (by k_asm))) (by k_is)) (by repeat constructor) ?_)
  k_with "compareOp NotIn int ref" =>
    ((with_reducible show wpAny _ _ (compareOp CmpOp.NotIn (Value.int _ _) (Value.ref 63)) _ _ _); refine notin_tuple_ints (ns := [40, 41, 60, 62, 91, 93, 123, 125, 47, 37]) (tupK (Frag.In.keeps (by k_asm) (Fr.keep (by k_asm))) (by k_is)) (by repeat constructor) ?_)
  k_with "compareOp In int ref" =>
    ((with_reducible show wpAny _ _ (compareOp CmpOp.In (Value.int _ _) (Value.ref 304)) _ _ _); refine in_tuple_ints (ns := [91, 93, 123, 125]) (tupK (Frag.In.keeps (by k_asm) (Fr.keep (by k_asm))) (by k_is)) (by repeat constructor) ?_)
  k_with "call ref" =>
    ((with_reducible show wpAny _ _ (call (Value.ref 70) _) _ _ _); (rename News _ _ _ _ => kN); k_dflt (refine' is_white_c (by k_asm) (by k_asm) (by k_asm) kN (by k_asm) (by first | exact rfl | assumption) (by ktr_room) (by ktr_units)  ?_; k_whole); intro _ _ _ _; (try clear kN); (try k_sweep))
  refine wpAny_call ?_
  k_dflt (refine' code_def (binds := [((Str.ofString "code"), .int code tk)]) ?k1 ?k2 ?k3 ?k4 ?k5 ?kA ?kF ?kK ?k6 ?k7 ?k8 ?k9 ?kB ?_ ?c2 ?c3 ?c4 ?c5; (case kA => exact rfl); (case kF => exact rfl); (case kK => assumption); (case k1 => k_asm); (case k2 => k_asm); (case k3 => k_asm); (case k4 => k_asm); (case k5 => k_asm); (case k6 => k_is); (case k7 => k_is); (case k8 => ktr_room); (case k9 => first | exact BindsTo.of_eq rfl | exact binds_K (by k_in) rfl (by k_is) rfl rfl rfl); (case c5 => decide); (case kB => exact locs rfl); (case c2 => exact rfl); (case c3 => exact rfl); (case c4 => exact rfl))
  k_whole
  intro g' L' h' FG' F' N' B' X' T'
  (try dsimp only [List.reverse_cons, List.reverse_nil, List.nil_append, List.cons_append]); (try k_fold)
  k_steps
  · have e : isRegular code = (!([0, 9, 10, 12, 13, 32].any (· == code))) := by
      unfold isRegular isWhite; rw [decide_eq_true (by assumption), show ([0, 9, 10, 12, 13, 32].any (· == code)) = true from by assumption]; rfl
    rw [e] at hQ; exact hQ _ _ (by assumption) (by assumption)
  · have e : isRegular code = (!([40, 41, 60, 62, 91, 93, 123, 125, 47, 37].any (· == code))) := by
      unfold isRegular isWhite isDelim; rw [decide_eq_true (by assumption), show ([0, 9, 10, 12, 13, 32].any (· == code)) = false from by assumption]; rfl
    rw [e] at hQ; exact hQ _ _ (by assumption) (by assumption)
  · have e : isRegular code = decide (0 ≤ code) := by
      unfold isRegular; rw [decide_eq_false (by assumption)]; rfl
    rw [e] at hQ; exact hQ _ _ (by assumption) (by assumption)
theorem hex_worth_c {w : World} {dp un : Nat} {gd : Option (List Code)} {cn : Str} {cs : Scope} {a : Addr} {ccd : Value} {cl : List (Str × Addr)} {outer : List Env} {A₀ : Around} {base h₀ : Heap} {L : Addr} {m : Str → Option Value} {s : Shared} {Q E : Value → Shared → Prop} {mg mb : Str → Option Value} {mean : ExcName → Option Value} {loose : List Str} {news : List (Addr × Obj)} {code : Int} {tk : Tok}
  (B : Below A₀ base outer h₀) (F : Fr h₀ L s.heap m) (X : (Mine.hd.heap_1 w.params).In h₀) (N : News h₀ L s.heap (news)) (T : Top Mine.view loose mean mg mb h₀) (hk : cs.kind = .function) (hd : dp + 8 < recursionLimit) (hu : un + 100 < cLine) (hc0 : -1000 ≤ code) (hc1 : code ≤ 1000)
  (hQ : ∀ v t h' tk', v = hexW code → v < 16 → Fr h₀ L h' m → News h₀ L h' news → Q (.int v t) { s with heap := h', toks := tk' }) :
  wpAny (model Challenge.rw_nn0223_01.row.prog w) (ktrTop dp un gd cn cs L a ccd cl outer) (call (.ref 311) [.int code tk]) Q E s := by
  k_with_none
  w_top off
  k_with "MyPost" =>
    (dsimp only [MyPost])
  k_with "eval Call" =>
    ((with_reducible show wpAny _ _ (eval (Expr.Call (Expr.Name _ _) _ [] _) _) _ _ _); k_dflt (refine Call_ ?_))
  k_with "eval Call Attribute" =>
    ((with_reducible show wpAny _ _ (eval (Expr.Call (Expr.Attribute _ _ _) _ [] _) _) _ _ _); k_dflt (refine MethodCall_ ?_))
  k_with "compareOp In int ref" =>
    ((with_reducible show wpAny _ _ (compareOp CmpOp.In (Value.int _ _) (Value.ref 62)) _ _ _); refine in_tuple_ints (ns := [0, 9, 10, 12, 13, 32]) (tupK (Frag.In.keeps (by k_asm) (Fr.keep (by k_asm))) (by k_is)) (by repeat constructor) ?_)
  k_with "compareOp NotIn int ref" =>
    ((with_reducible show wpAny _ _ (compareOp CmpOp.NotIn (Value.int _ _) (Value.ref 62)) _ _ _); refine notin_tuple_ints (ns := [0, 9, 10, 12, 13, 32]) (tupK (Frag.In.keeps (by k_asm) (Fr.keep (by k_asm))) (by k_is)) (by repeat constructor) ?_)
  k_with "compareOp NotIn int ref" =>
    ((with_reducible show wpAny _ _ (compareOp CmpOp.NotIn (Value.int _ _) (Value.ref 63)) _ _ _); refine notin_tuple_ints (ns := [40, 41, 60, 62, 91, 93, 123, 125, 47, 37]) (tupK (Frag.In.keeps (by k_asm) (Fr.keep (by k_asm))) (by k_is)) (by repeat constructor) ?_)
  k_with "compareOp In int ref" =>
    ((with_reducible show wpAny _ _ (compareOp CmpOp.In (Value.int _ _) (Value.ref 304)) _ _ _); refine in_tuple_ints (ns := [91, 93, 123, 125]) (tupK (Frag.In.keeps (by k_asm) (Fr.keep (by k_asm))) (by k_is)) (by repeat constructor) ?_)
  k_with "call ref" =>
    ((with_reducible show wpAny _ _ (call (Value.ref 70) _) _ _ _); (rename News _ _ _ _ => kN); k_dflt (refine' is_white_c (by k_asm) (by k_asm) (by k_asm) kN (by k_asm) (by first | exact rfl | assumption) (by ktr_room) (by ktr_units)  ?_; k_whole); intro _ _ _ _; (try clear kN); (try k_sweep))
  k_with "call ref" =>
    ((with_reducible show wpAny _ _ (call (Value.ref 77) _) _ _ _); (rename News _ _ _ _ => kN); k_dflt (refine' is_regular_c (by k_asm) (by k_asm) (by k_asm) kN (by k_asm) (by first | exact rfl | assumption) (by ktr_room) (by ktr_units)  ?_; k_whole); intro _ _ _ _; (try clear kN); (try k_sweep))
  refine wpAny_call ?_
  k_dflt (refine' code_def (binds := [((Str.ofString "code"), .int code tk)]) ?k1 ?k2 ?k3 ?k4 ?k5 ?kA ?kF ?kK ?k6 ?k7 ?k8 ?k9 ?kB ?_ ?c2 ?c3 ?c4 ?c5; (case kA => exact rfl); (case kF => exact rfl); (case kK => assumption); (case k1 => k_asm); (case k2 => k_asm); (case k3 => k_asm); (case k4 => k_asm); (case k5 => k_asm); (case k6 => k_is); (case k7 => k_is); (case k8 => ktr_room); (case k9 => first | exact BindsTo.of_eq rfl | exact binds_K (by k_in) rfl (by k_is) rfl rfl rfl); (case c5 => decide); (case kB => exact locs rfl); (case c2 => exact rfl); (case c3 => exact rfl); (case c4 => exact rfl))
  k_whole
  intro g' L' h' FG' F' N' B' X' T'
  (try dsimp only [List.reverse_cons, List.reverse_nil, List.nil_append, List.cons_append]); (try k_fold)
  k_steps
  all_goals exact hQ _ _ _ _ (by unfold hexW; (repeat' split) <;> omega) (by omega) (by assumption) (by assumption)
theorem plain_escape_c {w : World} {dp un : Nat} {gd : Option (List Code)} {cn : Str} {cs : Scope} {a : Addr} {ccd : Value} {cl : List (Str × Addr)} {outer : List Env} {A₀ : Around} {base h₀ : Heap} {L : Addr} {m : Str → Option Value} {s : Shared} {Q E : Value → Shared → Prop} {mg mb : Str → Option Value} {mean : ExcName → Option Value} {loose : List Str} {news : List (Addr × Obj)} {code : Int} {tk : Tok}
  (B : Below A₀ base outer h₀) (F : Fr h₀ L s.heap m) (X : (Mine.hd.heap_1 w.params).In h₀) (N : News h₀ L s.heap (news)) (T : Top Mine.view loose mean mg mb h₀) (hk : cs.kind = .function) (hd : dp + 8 < recursionLimit) (hu : un + 100 < cLine) 
  (hQ : ∀ v t h' tk', v = plainEsc code → Fr h₀ L h' m → News h₀ L h' news → Q (.int v t) { s with heap := h', toks := tk' }) :
  wpAny (model Challenge.rw_nn0223_01.row.prog w) (ktrTop dp un gd cn cs L a ccd cl outer) (call (.ref 318) [.int code tk]) Q E s := by
  k_with_none
  w_top off
  k_with "MyPost" =>
    (dsimp only [MyPost])
  k_with "eval Call" =>
    ((with_reducible show wpAny _ _ (eval (Expr.Call (Expr.Name _ _) _ [] _) _) _ _ _); k_dflt (refine Call_ ?_))
  k_with "eval Call Attribute" =>
    ((with_reducible show wpAny _ _ (eval (Expr.Call (Expr.Attribute _ _ _) _ [] _) _) _ _ _); k_dflt (refine MethodCall_ ?_))
  k_with "compareOp In int ref" =>
    ((with_reducible show wpAny _ _ (compareOp CmpOp.In (Value.int _ _) (Value.ref 62)) _ _ _); refine in_tuple_ints (ns := [0, 9, 10, 12, 13, 32]) (tupK (Frag.In.keeps (by k_asm) (Fr.keep (by k_asm))) (by k_is)) (by repeat constructor) ?_)
  k_with "compareOp NotIn int ref" =>
    ((with_reducible show wpAny _ _ (compareOp CmpOp.NotIn (Value.int _ _) (Value.ref 62)) _ _ _); refine notin_tuple_ints (ns := [0, 9, 10, 12, 13, 32]) (tupK (Frag.In.keeps (by k_asm) (Fr.keep (by k_asm))) (by k_is)) (by repeat constructor) ?_)
  k_with "compareOp NotIn int ref" =>
    ((with_reducible show wpAny _ _ (compareOp CmpOp.NotIn (Value.int _ _) (Value.ref 63)) _ _ _); refine notin_tuple_ints (ns := [40, 41, 60, 62, 91, 93, 123, 125, 47, 37]) (tupK (Frag.In.keeps (by k_asm) (Fr.keep (by k_asm))) (by k_is)) (by repeat constructor) ?_)
  k_with "compareOp In int ref" =>
    ((with_reducible show wpAny _ _ (compareOp CmpOp.In (Value.int _ _) (Value.ref 304)) _ _ _); refine in_tuple_ints (ns := [91, 93, 123, 125]) (tupK (Frag.In.keeps (by k_asm) (Fr.keep (by k_asm))) (by k_is)) (by repeat constructor) ?_)
  k_with "call ref" =>
    ((with_reducible show wpAny _ _ (call (Value.ref 70) _) _ _ _); (rename News _ _ _ _ => kN); k_dflt (refine' is_white_c (by k_asm) (by k_asm) (by k_asm) kN (by k_asm) (by first | exact rfl | assumption) (by ktr_room) (by ktr_units)  ?_; k_whole); intro _ _ _ _; (try clear kN); (try k_sweep))
  k_with "call ref" =>
    ((with_reducible show wpAny _ _ (call (Value.ref 77) _) _ _ _); (rename News _ _ _ _ => kN); k_dflt (refine' is_regular_c (by k_asm) (by k_asm) (by k_asm) kN (by k_asm) (by first | exact rfl | assumption) (by ktr_room) (by ktr_units)  ?_; k_whole); intro _ _ _ _; (try clear kN); (try k_sweep))
  k_with "call ref" =>
    ((with_reducible show wpAny _ _ (call (Value.ref 311) _) _ _ _); (rename News _ _ _ _ => kN); k_dflt (refine' hex_worth_c (by k_asm) (by k_asm) (by k_asm) kN (by k_asm) (by first | exact rfl | assumption) (by ktr_room) (by ktr_units) (by omega) (by omega) ?_; k_whole); intro _ _ _ _ _ _ _ _; (try clear kN); (try k_sweep))
  refine wpAny_call ?_
  k_dflt (refine' code_def (binds := [((Str.ofString "code"), .int code tk)]) ?k1 ?k2 ?k3 ?k4 ?k5 ?kA ?kF ?kK ?k6 ?k7 ?k8 ?k9 ?kB ?_ ?c2 ?c3 ?c4 ?c5; (case kA => exact rfl); (case kF => exact rfl); (case kK => assumption); (case k1 => k_asm); (case k2 => k_asm); (case k3 => k_asm); (case k4 => k_asm); (case k5 => k_asm); (case k6 => k_is); (case k7 => k_is); (case k8 => ktr_room); (case k9 => first | exact BindsTo.of_eq rfl | exact binds_K (by k_in) rfl (by k_is) rfl rfl rfl); (case c5 => decide); (case kB => exact locs rfl); (case c2 => exact rfl); (case c3 => exact rfl); (case c4 => exact rfl))
  k_whole
  intro g' L' h' FG' F' N' B' X' T'
  (try dsimp only [List.reverse_cons, List.reverse_nil, List.nil_append, List.cons_append]); (try k_fold)
  k_steps
  all_goals exact hQ _ _ _ _ (by unfold plainEsc; (repeat' split) <;> omega) (by assumption) (by assumption)
theorem is_done_c {w : World} {dp un : Nat} {gd : Option (List Code)} {cn : Str} {cs : Scope} {a : Addr} {ccd : Value} {cl : List (Str × Addr)} {outer : List Env} {A₀ : Around} {base h₀ : Heap} {L : Addr} {m : Str → Option Value} {s : Shared} {Q E : Value → Shared → Prop} {mg mb : Str → Option Value} {mean : ExcName → Option Value} {loose : List Str} {c d : Addr} {H1 H2 H3 : Int} {t1 t2 t3 t4 t5 t6 : Tok} {data : Array UInt8} {ps en : Int} {ks : List Int} {rest : List (Addr × Obj)}
  (B : Below A₀ base outer h₀) (F : Fr h₀ L s.heap m) (X : (Mine.hd.heap_1 w.params).In h₀) (N : News h₀ L s.heap ((d, dictOf [⟨H1, .str (Str.ofString "data") t1, .bytes data t4⟩, ⟨H2, .str (Str.ofString "at") t2, .int ps t5⟩, ⟨H3, .str (Str.ofString "end") t3, .int en t6⟩] 3) :: (c, instObj 187 d) :: rest)) (T : Top Mine.view loose mean mg mb h₀) (hk : cs.kind = .function) (hd : dp + 8 < recursionLimit) (hu : un + 100 < cLine) (hcd : c ≠ d) (hne : ∀ p ∈ rest, p.1 ≠ d) (hks : KBw.bInts data = ks) (h0 : 0 ≤ ps) (h1 : ps ≤ en) (h2 : en ≤ (ks.length : Int)) (h3 : ks.length ≤ 100000)
  (hQ : ∀ h' tk', Fr h₀ L h' m → News h₀ L h' ((d, dictOf [⟨H1, .str (Str.ofString "data") t1, .bytes data t4⟩, ⟨H2, .str (Str.ofString "at") t2, .int ps t5⟩, ⟨H3, .str (Str.ofString "end") t3, .int en t6⟩] 3) :: (c, instObj 187 d) :: rest) → Q (.bool (decide (en ≤ ps))) { s with heap := h', toks := tk' }) :
  wpAny (model Challenge.rw_nn0223_01.row.prog w) (ktrTop dp un gd cn cs L a ccd cl outer) (call (.ref 106) [.ref c]) Q E s := by
  k_with_none
  w_top off
  k_with "MyPost" =>
    (dsimp only [MyPost])
  k_with "eval Call" =>
    ((with_reducible show wpAny _ _ (eval (Expr.Call (Expr.Name _ _) _ [] _) _) _ _ _); k_dflt (refine Call_ ?_))
  k_with "eval Call Attribute" =>
    ((with_reducible show wpAny _ _ (eval (Expr.Call (Expr.Attribute _ _ _) _ [] _) _) _ _ _); k_dflt (refine MethodCall_ ?_))
  k_with "compareOp In int ref" =>
    ((with_reducible show wpAny _ _ (compareOp CmpOp.In (Value.int _ _) (Value.ref 62)) _ _ _); refine in_tuple_ints (ns := [0, 9, 10, 12, 13, 32]) (tupK (Frag.In.keeps (by k_asm) (Fr.keep (by k_asm))) (by k_is)) (by repeat constructor) ?_)
  k_with "compareOp NotIn int ref" =>
    ((with_reducible show wpAny _ _ (compareOp CmpOp.NotIn (Value.int _ _) (Value.ref 62)) _ _ _); refine notin_tuple_ints (ns := [0, 9, 10, 12, 13, 32]) (tupK (Frag.In.keeps (by k_asm) (Fr.keep (by k_asm))) (by k_is)) (by repeat constructor) ?_)
  k_with "compareOp NotIn int ref" =>
    ((with_reducible show wpAny _ _ (compareOp CmpOp.NotIn (Value.int _ _) (Value.ref 63)) _ _ _); refine notin_tuple_ints (ns := [40, 41, 60, 62, 91, 93, 123, 125, 47, 37]) (tupK (Frag.In.keeps (by k_asm) (Fr.keep (by k_asm))) (by k_is)) (by repeat constructor) ?_)
  k_with "compareOp In int ref" =>
    ((with_reducible show wpAny _ _ (compareOp CmpOp.In (Value.int _ _) (Value.ref 304)) _ _ _); refine in_tuple_ints (ns := [91, 93, 123, 125]) (tupK (Frag.In.keeps (by k_asm) (Fr.keep (by k_asm))) (by k_is)) (by repeat constructor) ?_)
  k_with "call ref" =>
    ((with_reducible show wpAny _ _ (call (Value.ref 70) _) _ _ _); (rename News _ _ _ _ => kN); k_dflt (refine' is_white_c (by k_asm) (by k_asm) (by k_asm) kN (by k_asm) (by first | exact rfl | assumption) (by ktr_room) (by ktr_units)  ?_; k_whole); intro _ _ _ _; (try clear kN); (try k_sweep))
  k_with "call ref" =>
    ((with_reducible show wpAny _ _ (call (Value.ref 77) _) _ _ _); (rename News _ _ _ _ => kN); k_dflt (refine' is_regular_c (by k_asm) (by k_asm) (by k_asm) kN (by k_asm) (by first | exact rfl | assumption) (by ktr_room) (by ktr_units)  ?_; k_whole); intro _ _ _ _; (try clear kN); (try k_sweep))
  k_with "call ref" =>
    ((with_reducible show wpAny _ _ (call (Value.ref 311) _) _ _ _); (rename News _ _ _ _ => kN); k_dflt (refine' hex_worth_c (by k_asm) (by k_asm) (by k_asm) kN (by k_asm) (by first | exact rfl | assumption) (by ktr_room) (by ktr_units) (by omega) (by omega) ?_; k_whole); intro _ _ _ _ _ _ _ _; (try clear kN); (try k_sweep))
  k_with "call ref" =>
    ((with_reducible show wpAny _ _ (call (Value.ref 318) _) _ _ _); (rename News _ _ _ _ => kN); k_dflt (refine' plain_escape_c (by k_asm) (by k_asm) (by k_asm) kN (by k_asm) (by first | exact rfl | assumption) (by ktr_room) (by ktr_units)  ?_; k_whole); intro _ _ _ _ _ _ _; (try clear kN); (try k_sweep))
  refine wpAny_call ?_
  k_dflt (refine' code_def (binds := [((Str.ofString "self"), .ref c)]) ?k1 ?k2 ?k3 ?k4 ?k5 ?kA ?kF ?kK ?k6 ?k7 ?k8 ?k9 ?kB ?_ ?c2 ?c3 ?c4 ?c5; (case kA => exact rfl); (case kF => exact rfl); (case kK => assumption); (case k1 => k_asm); (case k2 => k_asm); (case k3 => k_asm); (case k4 => k_asm); (case k5 => k_asm); (case k6 => k_is); (case k7 => k_is); (case k8 => ktr_room); (case k9 => first | exact BindsTo.of_eq rfl | exact binds_K (by k_in) rfl (by k_is) rfl rfl rfl); (case c5 => decide); (case kB => exact locs rfl); (case c2 => exact rfl); (case c3 => exact rfl); (case c4 => exact rfl))
  k_whole
  intro g' L' h' FG' F' N' B' X' T'
  (try dsimp only [List.reverse_cons, List.reverse_nil, List.nil_append, List.cons_append]); (try k_fold)
  k_steps
  exact hQ _ _ (by assumption) (by assumption)
theorem peek_c {w : World} {dp un : Nat} {gd : Option (List Code)} {cn : Str} {cs : Scope} {a : Addr} {ccd : Value} {cl : List (Str × Addr)} {outer : List Env} {A₀ : Around} {base h₀ : Heap} {L : Addr} {m : Str → Option Value} {s : Shared} {Q E : Value → Shared → Prop} {mg mb : Str → Option Value} {mean : ExcName → Option Value} {loose : List Str} {c d : Addr} {H1 H2 H3 : Int} {t1 t2 t3 t4 t5 t6 : Tok} {data : Array UInt8} {ps en : Int} {ks : List Int} {rest : List (Addr × Obj)}
  (B : Below A₀ base outer h₀) (F : Fr h₀ L s.heap m) (X : (Mine.hd.heap_1 w.params).In h₀) (N : News h₀ L s.heap ((d, dictOf [⟨H1, .str (Str.ofString "data") t1, .bytes data t4⟩, ⟨H2, .str (Str.ofString "at") t2, .int ps t5⟩, ⟨H3, .str (Str.ofString "end") t3, .int en t6⟩] 3) :: (c, instObj 187 d) :: rest)) (T : Top Mine.view loose mean mg mb h₀) (hk : cs.kind = .function) (hd : dp + 8 < recursionLimit) (hu : un + 100 < cLine) (hcd : c ≠ d) (hne : ∀ p ∈ rest, p.1 ≠ d) (hks : KBw.bInts data = ks) (h0 : 0 ≤ ps) (h1 : ps ≤ en) (h2 : en ≤ (ks.length : Int)) (h3 : ks.length ≤ 100000)
  (hQ : ∀ v t h' tk', v = pk ks ps en → -1 ≤ v → v < 256 → (v = -1 ∨ ps < en) → Fr h₀ L h' m → News h₀ L h' ((d, dictOf [⟨H1, .str (Str.ofString "data") t1, .bytes data t4⟩, ⟨H2, .str (Str.ofString "at") t2, .int ps t5⟩, ⟨H3, .str (Str.ofString "end") t3, .int en t6⟩] 3) :: (c, instObj 187 d) :: rest) → Q (.int v t) { s with heap := h', toks := tk' }) :
  wpAny (model Challenge.rw_nn0223_01.row.prog w) (ktrTop dp un gd cn cs L a ccd cl outer) (call (.ref 114) [.ref c]) Q E s := by
  k_with_none
  w_top off
  k_with "MyPost" =>
    (dsimp only [MyPost])
  k_with "eval Call" =>
    ((with_reducible show wpAny _ _ (eval (Expr.Call (Expr.Name _ _) _ [] _) _) _ _ _); k_dflt (refine Call_ ?_))
  k_with "eval Call Attribute" =>
    ((with_reducible show wpAny _ _ (eval (Expr.Call (Expr.Attribute _ _ _) _ [] _) _) _ _ _); k_dflt (refine MethodCall_ ?_))
  k_with "compareOp In int ref" =>
    ((with_reducible show wpAny _ _ (compareOp CmpOp.In (Value.int _ _) (Value.ref 62)) _ _ _); refine in_tuple_ints (ns := [0, 9, 10, 12, 13, 32]) (tupK (Frag.In.keeps (by k_asm) (Fr.keep (by k_asm))) (by k_is)) (by repeat constructor) ?_)
  k_with "compareOp NotIn int ref" =>
    ((with_reducible show wpAny _ _ (compareOp CmpOp.NotIn (Value.int _ _) (Value.ref 62)) _ _ _); refine notin_tuple_ints (ns := [0, 9, 10, 12, 13, 32]) (tupK (Frag.In.keeps (by k_asm) (Fr.keep (by k_asm))) (by k_is)) (by repeat constructor) ?_)
  k_with "compareOp NotIn int ref" =>
    ((with_reducible show wpAny _ _ (compareOp CmpOp.NotIn (Value.int _ _) (Value.ref 63)) _ _ _); refine notin_tuple_ints (ns := [40, 41, 60, 62, 91, 93, 123, 125, 47, 37]) (tupK (Frag.In.keeps (by k_asm) (Fr.keep (by k_asm))) (by k_is)) (by repeat constructor) ?_)
  k_with "compareOp In int ref" =>
    ((with_reducible show wpAny _ _ (compareOp CmpOp.In (Value.int _ _) (Value.ref 304)) _ _ _); refine in_tuple_ints (ns := [91, 93, 123, 125]) (tupK (Frag.In.keeps (by k_asm) (Fr.keep (by k_asm))) (by k_is)) (by repeat constructor) ?_)
  k_with "call ref" =>
    ((with_reducible show wpAny _ _ (call (Value.ref 70) _) _ _ _); (rename News _ _ _ _ => kN); k_dflt (refine' is_white_c (by k_asm) (by k_asm) (by k_asm) kN (by k_asm) (by first | exact rfl | assumption) (by ktr_room) (by ktr_units)  ?_; k_whole); intro _ _ _ _; (try clear kN); (try k_sweep))
  k_with "call ref" =>
    ((with_reducible show wpAny _ _ (call (Value.ref 77) _) _ _ _); (rename News _ _ _ _ => kN); k_dflt (refine' is_regular_c (by k_asm) (by k_asm) (by k_asm) kN (by k_asm) (by first | exact rfl | assumption) (by ktr_room) (by ktr_units)  ?_; k_whole); intro _ _ _ _; (try clear kN); (try k_sweep))
  k_with "call ref" =>
    ((with_reducible show wpAny _ _ (call (Value.ref 311) _) _ _ _); (rename News _ _ _ _ => kN); k_dflt (refine' hex_worth_c (by k_asm) (by k_asm) (by k_asm) kN (by k_asm) (by first | exact rfl | assumption) (by ktr_room) (by ktr_units) (by omega) (by omega) ?_; k_whole); intro _ _ _ _ _ _ _ _; (try clear kN); (try k_sweep))
  k_with "call ref" =>
    ((with_reducible show wpAny _ _ (call (Value.ref 318) _) _ _ _); (rename News _ _ _ _ => kN); k_dflt (refine' plain_escape_c (by k_asm) (by k_asm) (by k_asm) kN (by k_asm) (by first | exact rfl | assumption) (by ktr_room) (by ktr_units)  ?_; k_whole); intro _ _ _ _ _ _ _; (try clear kN); (try k_sweep))
  k_with "call ref" =>
    ((with_reducible show wpAny _ _ (call (Value.ref 106) _) _ _ _); (rename News _ _ _ _ => kN); k_dflt (refine' is_done_c (by k_asm) (by k_asm) (by k_asm) (news_pick2 kN (by tb_start) (by tb_start)) (by k_asm) (by first | exact rfl | assumption) (by ktr_room) (by ktr_units) (by k_ne) (by k_all) (by kba_ints) (by omega) (by omega) (by omega) (by omega) ?_; k_whole); intro _ _ _ _; (try clear kN); (try k_sweep))
  refine wpAny_call ?_
  k_dflt (refine' code_def (binds := [((Str.ofString "self"), .ref c), ((Str.ofString "ahead"), .int 0 333)]) ?k1 ?k2 ?k3 ?k4 ?k5 ?kA ?kF ?kK ?k6 ?k7 ?k8 ?k9 ?kB ?_ ?c2 ?c3 ?c4 ?c5; (case kA => exact rfl); (case kF => exact rfl); (case kK => assumption); (case k1 => k_asm); (case k2 => k_asm); (case k3 => k_asm); (case k4 => k_asm); (case k5 => k_asm); (case k6 => k_is); (case k7 => k_is); (case k8 => ktr_room); (case k9 => first | exact BindsTo.of_eq rfl | exact binds_K (by k_in) rfl (by k_is) rfl rfl rfl); (case c5 => decide); (case kB => exact locs rfl); (case c2 => exact rfl); (case c3 => exact rfl); (case c4 => exact rfl))
  k_whole
  intro g' L' h' FG' F' N' B' X' T'
  (try dsimp only [List.reverse_cons, List.reverse_nil, List.nil_append, List.cons_append]); (try k_fold)
  k_steps
  · exact hQ _ _ _ _ (by rw [pk_in (by omega), Int.add_zero]) (by omega) (by omega) (by omega) (by assumption) (by assumption)
  · exact hQ _ _ _ _ (by rw [pk_out (by omega)]) (by omega) (by omega) (by omega) (by assumption) (by assumption)
theorem take_c {w : World} {dp un : Nat} {gd : Option (List Code)} {cn : Str} {cs : Scope} {a : Addr} {ccd : Value} {cl : List (Str × Addr)} {outer : List Env} {A₀ : Around} {base h₀ : Heap} {L : Addr} {m : Str → Option Value} {s : Shared} {Q E : Value → Shared → Prop} {mg mb : Str → Option Value} {mean : ExcName → Option Value} {loose : List Str} {c d : Addr} {H1 H2 H3 : Int} {t1 t2 t3 t4 t5 t6 : Tok} {data : Array UInt8} {ps en : Int} {ks : List Int} {rest : List (Addr × Obj)}
  (B : Below A₀ base outer h₀) (F : Fr h₀ L s.heap m) (X : (Mine.hd.heap_1 w.params).In h₀) (N : News h₀ L s.heap ((d, dictOf [⟨H1, .str (Str.ofString "data") t1, .bytes data t4⟩, ⟨H2, .str (Str.ofString "at") t2, .int ps t5⟩, ⟨H3, .str (Str.ofString "end") t3, .int en t6⟩] 3) :: (c, instObj 187 d) :: rest)) (T : Top Mine.view loose mean mg mb h₀) (hk : cs.kind = .function) (hd : dp + 8 < recursionLimit) (hu : un + 100 < cLine) (hcd : c ≠ d) (hne : ∀ p ∈ rest, p.1 ≠ d) (hks : KBw.bInts data = ks) (h0 : 0 ≤ ps) (h1 : ps ≤ en) (h2 : en ≤ (ks.length : Int)) (h3 : ks.length ≤ 100000) (hin : ps < en)
  (hQ : ∀ v t t' h' tk', v = ks.getD ps.toNat 0 → 0 ≤ v → v < 256 → Fr h₀ L h' m → News h₀ L h' ((d, dictOf [⟨H1, .str (Str.ofString "data") t1, .bytes data t4⟩, ⟨H2, .str (Str.ofString "at") t2, .int (ps + 1) t'⟩, ⟨H3, .str (Str.ofString "end") t3, .int en t6⟩] 3) :: (c, instObj 187 d) :: rest) → Q (.int v t) { s with heap := h', toks := tk' }) :
  wpAny (model Challenge.rw_nn0223_01.row.prog w) (ktrTop dp un gd cn cs L a ccd cl outer) (call (.ref 121) [.ref c]) Q E s := by
  k_with_none
  w_top off
  k_with "MyPost" =>
    (dsimp only [MyPost])
  k_with "eval Call" =>
    ((with_reducible show wpAny _ _ (eval (Expr.Call (Expr.Name _ _) _ [] _) _) _ _ _); k_dflt (refine Call_ ?_))
  k_with "eval Call Attribute" =>
    ((with_reducible show wpAny _ _ (eval (Expr.Call (Expr.Attribute _ _ _) _ [] _) _) _ _ _); k_dflt (refine MethodCall_ ?_))
  k_with "compareOp In int ref" =>
    ((with_reducible show wpAny _ _ (compareOp CmpOp.In (Value.int _ _) (Value.ref 62)) _ _ _); refine in_tuple_ints (ns := [0, 9, 10, 12, 13, 32]) (tupK (Frag.In.keeps (by k_asm) (Fr.keep (by k_asm))) (by k_is)) (by repeat constructor) ?_)
  k_with "compareOp NotIn int ref" =>
    ((with_reducible show wpAny _ _ (compareOp CmpOp.NotIn (Value.int _ _) (Value.ref 62)) _ _ _); refine notin_tuple_ints (ns := [0, 9, 10, 12, 13, 32]) (tupK (Frag.In.keeps (by k_asm) (Fr.keep (by k_asm))) (by k_is)) (by repeat constructor) ?_)
  k_with "compareOp NotIn int ref" =>
    ((with_reducible show wpAny _ _ (compareOp CmpOp.NotIn (Value.int _ _) (Value.ref 63)) _ _ _); refine notin_tuple_ints (ns := [40, 41, 60, 62, 91, 93, 123, 125, 47, 37]) (tupK (Frag.In.keeps (by k_asm) (Fr.keep (by k_asm))) (by k_is)) (by repeat constructor) ?_)
  k_with "compareOp In int ref" =>
    ((with_reducible show wpAny _ _ (compareOp CmpOp.In (Value.int _ _) (Value.ref 304)) _ _ _); refine in_tuple_ints (ns := [91, 93, 123, 125]) (tupK (Frag.In.keeps (by k_asm) (Fr.keep (by k_asm))) (by k_is)) (by repeat constructor) ?_)
  k_with "call ref" =>
    ((with_reducible show wpAny _ _ (call (Value.ref 70) _) _ _ _); (rename News _ _ _ _ => kN); k_dflt (refine' is_white_c (by k_asm) (by k_asm) (by k_asm) kN (by k_asm) (by first | exact rfl | assumption) (by ktr_room) (by ktr_units)  ?_; k_whole); intro _ _ _ _; (try clear kN); (try k_sweep))
  k_with "call ref" =>
    ((with_reducible show wpAny _ _ (call (Value.ref 77) _) _ _ _); (rename News _ _ _ _ => kN); k_dflt (refine' is_regular_c (by k_asm) (by k_asm) (by k_asm) kN (by k_asm) (by first | exact rfl | assumption) (by ktr_room) (by ktr_units)  ?_; k_whole); intro _ _ _ _; (try clear kN); (try k_sweep))
  k_with "call ref" =>
    ((with_reducible show wpAny _ _ (call (Value.ref 311) _) _ _ _); (rename News _ _ _ _ => kN); k_dflt (refine' hex_worth_c (by k_asm) (by k_asm) (by k_asm) kN (by k_asm) (by first | exact rfl | assumption) (by ktr_room) (by ktr_units) (by omega) (by omega) ?_; k_whole); intro _ _ _ _ _ _ _ _; (try clear kN); (try k_sweep))
  k_with "call ref" =>
    ((with_reducible show wpAny _ _ (call (Value.ref 318) _) _ _ _); (rename News _ _ _ _ => kN); k_dflt (refine' plain_escape_c (by k_asm) (by k_asm) (by k_asm) kN (by k_asm) (by first | exact rfl | assumption) (by ktr_room) (by ktr_units)  ?_; k_whole); intro _ _ _ _ _ _ _; (try clear kN); (try k_sweep))
  k_with "call ref" =>
    ((with_reducible show wpAny _ _ (call (Value.ref 106) _) _ _ _); (rename News _ _ _ _ => kN); k_dflt (refine' is_done_c (by k_asm) (by k_asm) (by k_asm) (news_pick2 kN (by tb_start) (by tb_start)) (by k_asm) (by first | exact rfl | assumption) (by ktr_room) (by ktr_units) (by k_ne) (by k_all) (by kba_ints) (by omega) (by omega) (by omega) (by omega) ?_; k_whole); intro _ _ _ _; (try clear kN); (try k_sweep))
  k_with "call ref" =>
    ((with_reducible show wpAny _ _ (call (Value.ref 114) _) _ _ _); (rename News _ _ _ _ => kN); k_dflt (refine' peek_c (by k_asm) (by k_asm) (by k_asm) (news_pick2 kN (by tb_start) (by tb_start)) (by k_asm) (by first | exact rfl | assumption) (by ktr_room) (by ktr_units) (by k_ne) (by k_all) (by kba_ints) (by omega) (by omega) (by omega) (by omega) ?_; k_whole); intro _ _ _ _ _ _ _ _ _ _; (try clear kN); (try k_sweep))
  refine wpAny_call ?_
  k_dflt (refine' code_def (binds := [((Str.ofString "self"), .ref c)]) ?k1 ?k2 ?k3 ?k4 ?k5 ?kA ?kF ?kK ?k6 ?k7 ?k8 ?k9 ?kB ?_ ?c2 ?c3 ?c4 ?c5; (case kA => exact rfl); (case kF => exact rfl); (case kK => assumption); (case k1 => k_asm); (case k2 => k_asm); (case k3 => k_asm); (case k4 => k_asm); (case k5 => k_asm); (case k6 => k_is); (case k7 => k_is); (case k8 => ktr_room); (case k9 => first | exact BindsTo.of_eq rfl | exact binds_K (by k_in) rfl (by k_is) rfl rfl rfl); (case c5 => decide); (case kB => exact locs rfl); (case c2 => exact rfl); (case c3 => exact rfl); (case c4 => exact rfl))
  k_whole
  intro g' L' h' FG' F' N' B' X' T'
  (try dsimp only [List.reverse_cons, List.reverse_nil, List.nil_append, List.cons_append]); (try k_fold)
  k_steps
  · exact hQ _ _ _ _ _ rfl (by assumption) (by assumption) (by assumption) (by assumption)
theorem skip_line_end_c {w : World} {dp un : Nat} {gd : Option (List Code)} {cn : Str} {cs : Scope} {a : Addr} {ccd : Value} {cl : List (Str × Addr)} {outer : List Env} {A₀ : Around} {base h₀ : Heap} {L : Addr} {m : Str → Option Value} {s : Shared} {Q E : Value → Shared → Prop} {mg mb : Str → Option Value} {mean : ExcName → Option Value} {loose : List Str} {c d : Addr} {H1 H2 H3 : Int} {t1 t2 t3 t4 t5 t6 : Tok} {data : Array UInt8} {ps en : Int} {ks : List Int} {rest : List (Addr × Obj)}
  (B : Below A₀ base outer h₀) (F : Fr h₀ L s.heap m) (X : (Mine.hd.heap_1 w.params).In h₀) (N : News h₀ L s.heap ((d, dictOf [⟨H1, .str (Str.ofString "data") t1, .bytes data t4⟩, ⟨H2, .str (Str.ofString "at") t2, .int ps t5⟩, ⟨H3, .str (Str.ofString "end") t3, .int en t6⟩] 3) :: (c, instObj 187 d) :: rest)) (T : Top Mine.view loose mean mg mb h₀) (hk : cs.kind = .function) (hd : dp + 16 < recursionLimit) (hu : un + 200 < cLine) (hcd : c ≠ d) (hne : ∀ p ∈ rest, p.1 ≠ d) (hks : KBw.bInts data = ks) (h0 : 0 ≤ ps) (h1 : ps ≤ en) (h2 : en ≤ (ks.length : Int)) (h3 : ks.length ≤ 100000)
  (hQ : ∀ p' b t' h' tk', p' = ps + sle ks ps en → b = decide (sle ks ps en ≠ 0) → Fr h₀ L h' m → News h₀ L h' ((d, dictOf [⟨H1, .str (Str.ofString "data") t1, .bytes data t4⟩, ⟨H2, .str (Str.ofString "at") t2, .int p' t'⟩, ⟨H3, .str (Str.ofString "end") t3, .int en t6⟩] 3) :: (c, instObj 187 d) :: rest) → Q (.bool b) { s with heap := h', toks := tk' }) :
  wpAny (model Challenge.rw_nn0223_01.row.prog w) (ktrTop dp un gd cn cs L a ccd cl outer) (call (.ref 156) [.ref c]) Q E s := by
  k_with_none
  w_top off
  k_with "MyPost" =>
    (dsimp only [MyPost])
  k_with "eval Call" =>
    ((with_reducible show wpAny _ _ (eval (Expr.Call (Expr.Name _ _) _ [] _) _) _ _ _); k_dflt (refine Call_ ?_))
  k_with "eval Call Attribute" =>
    ((with_reducible show wpAny _ _ (eval (Expr.Call (Expr.Attribute _ _ _) _ [] _) _) _ _ _); k_dflt (refine MethodCall_ ?_))
  k_with "compareOp In int ref" =>
    ((with_reducible show wpAny _ _ (compareOp CmpOp.In (Value.int _ _) (Value.ref 62)) _ _ _); refine in_tuple_ints (ns := [0, 9, 10, 12, 13, 32]) (tupK (Frag.In.keeps (by k_asm) (Fr.keep (by k_asm))) (by k_is)) (by repeat constructor) ?_)
  k_with "compareOp NotIn int ref" =>
    ((with_reducible show wpAny _ _ (compareOp CmpOp.NotIn (Value.int _ _) (Value.ref 62)) _ _ _); refine notin_tuple_ints (ns := [0, 9, 10, 12, 13, 32]) (tupK (Frag.In.keeps (by k_asm) (Fr.keep (by k_asm))) (by k_is)) (by repeat constructor) ?_)
  k_with "compareOp NotIn int ref" =>
    ((with_reducible show wpAny _ _ (compareOp CmpOp.NotIn (Value.int _ _) (Value.ref 63)) _ _ _); refine notin_tuple_ints (ns := [40, 41, 60, 62, 91, 93, 123, 125, 47, 37]) (tupK (Frag.In.keeps (by k_asm) (Fr.keep (by k_asm))) (by k_is)) (by repeat constructor) ?_)
  k_with "compareOp In int ref" =>
    ((with_reducible show wpAny _ _ (compareOp CmpOp.In (Value.int _ _) (Value.ref 304)) _ _ _); refine in_tuple_ints (ns := [91, 93, 123, 125]) (tupK (Frag.In.keeps (by k_asm) (Fr.keep (by k_asm))) (by k_is)) (by repeat constructor) ?_)
  k_with "call ref" =>
    ((with_reducible show wpAny _ _ (call (Value.ref 70) _) _ _ _); (rename News _ _ _ _ => kN); k_dflt (refine' is_white_c (by k_asm) (by k_asm) (by k_asm) kN (by k_asm) (by first | exact rfl | assumption) (by ktr_room) (by ktr_units)  ?_; k_whole); intro _ _ _ _; (try clear kN); (try k_sweep))
  k_with "call ref" =>
    ((with_reducible show wpAny _ _ (call (Value.ref 77) _) _ _ _); (rename News _ _ _ _ => kN); k_dflt (refine' is_regular_c (by k_asm) (by k_asm) (by k_asm) kN (by k_asm) (by first | exact rfl | assumption) (by ktr_room) (by ktr_units)  ?_; k_whole); intro _ _ _ _; (try clear kN); (try k_sweep))
  k_with "call ref" =>
    ((with_reducible show wpAny _ _ (call (Value.ref 311) _) _ _ _); (rename News _ _ _ _ => kN); k_dflt (refine' hex_worth_c (by k_asm) (by k_asm) (by k_asm) kN (by k_asm) (by first | exact rfl | assumption) (by ktr_room) (by ktr_units) (by omega) (by omega) ?_; k_whole); intro _ _ _ _ _ _ _ _; (try clear kN); (try k_sweep))
  k_with "call ref" =>
    ((with_reducible show wpAny _ _ (call (Value.ref 318) _) _ _ _); (rename News _ _ _ _ => kN); k_dflt (refine' plain_escape_c (by k_asm) (by k_asm) (by k_asm) kN (by k_asm) (by first | exact rfl | assumption) (by ktr_room) (by ktr_units)  ?_; k_whole); intro _ _ _ _ _ _ _; (try clear kN); (try k_sweep))
  k_with "call ref" =>
    ((with_reducible show wpAny _ _ (call (Value.ref 106) _) _ _ _); (rename News _ _ _ _ => kN); k_dflt (refine' is_done_c (by k_asm) (by k_asm) (by k_asm) (news_pick2 kN (by tb_start) (by tb_start)) (by k_asm) (by first | exact rfl | assumption) (by ktr_room) (by ktr_units) (by k_ne) (by k_all) (by kba_ints) (by omega) (by omega) (by omega) (by omega) ?_; k_whole); intro _ _ _ _; (try clear kN); (try k_sweep))
  k_with "call ref" =>
    ((with_reducible show wpAny _ _ (call (Value.ref 114) _) _ _ _); (rename News _ _ _ _ => kN); k_dflt (refine' peek_c (by k_asm) (by k_asm) (by k_asm) (news_pick2 kN (by tb_start) (by tb_start)) (by k_asm) (by first | exact rfl | assumption) (by ktr_room) (by ktr_units) (by k_ne) (by k_all) (by kba_ints) (by omega) (by omega) (by omega) (by omega) ?_; k_whole); intro _ _ _ _ _ _ _ _ _ _; (try clear kN); (try k_sweep))
  k_with "call ref" =>
    ((with_reducible show wpAny _ _ (call (Value.ref 121) _) _ _ _); (rename News _ _ _ _ => kN); k_dflt (refine' take_c (by k_asm) (by k_asm) (by k_asm) (news_pick2 kN (by tb_start) (by tb_start)) (by k_asm) (by first | exact rfl | assumption) (by ktr_room) (by ktr_units) (by k_ne) (by k_all) (by kba_ints) (by omega) (by omega) (by omega) (by omega) (by omega) ?_; k_whole); intro _ _ _ _ _ _ _ _ _ _; (try clear kN); (try k_sweep))
  refine wpAny_call ?_
  k_dflt (refine' code_def (binds := [((Str.ofString "self"), .ref c)]) ?k1 ?k2 ?k3 ?k4 ?k5 ?kA ?kF ?kK ?k6 ?k7 ?k8 ?k9 ?kB ?_ ?c2 ?c3 ?c4 ?c5; (case kA => exact rfl); (case kF => exact rfl); (case kK => assumption); (case k1 => k_asm); (case k2 => k_asm); (case k3 => k_asm); (case k4 => k_asm); (case k5 => k_asm); (case k6 => k_is); (case k7 => k_is); (case k8 => ktr_room); (case k9 => first | exact BindsTo.of_eq rfl | exact binds_K (by k_in) rfl (by k_is) rfl rfl rfl); (case c5 => decide); (case kB => exact locs rfl); (case c2 => exact rfl); (case c3 => exact rfl); (case c4 => exact rfl))
  k_whole
  intro g' L' h' FG' F' N' B' X' T'
  (try dsimp only [List.reverse_cons, List.reverse_nil, List.nil_append, List.cons_append]); (try k_fold)
  k_steps
  all_goals (refine hQ _ _ _ _ _ ?_ ?_ (by assumption) (by assumption) <;> (unfold sle; (repeat' split) <;> first | omega | (exfalso; omega) | decide))
end Mine
end
section
open PySem PySem.W PyProof.Rows PySem.Calls
namespace Mine
theorem octal_c {w : World} {dp un : Nat} {gd : Option (List Code)} {cn : Str} {cs : Scope} {a : Addr} {ccd : Value} {cl : List (Str × Addr)} {outer : List Env} {A₀ : Around} {base h₀ : Heap} {L : Addr} {m : Str → Option Value} {s : Shared} {Q E : Value → Shared → Prop} {mg mb : Str → Option Value} {mean : ExcName → Option Value} {loose : List Str} {c d : Addr} {H1 H2 H3 : Int} {t1 t2 t3 t4 t5 t6 : Tok} {data : Array UInt8} {ps en : Int} {ks : List Int} {rest : List (Addr × Obj)} {first : Int} {tf : Tok}
  (B : Below A₀ base outer h₀) (F : Fr h₀ L s.heap m) (X : (Mine.hd.heap_1 w.params).In h₀) (N : News h₀ L s.heap ((d, dictOf [⟨H1, .str (Str.ofString "data") t1, .bytes data t4⟩, ⟨H2, .str (Str.ofString "at") t2, .int ps t5⟩, ⟨H3, .str (Str.ofString "end") t3, .int en t6⟩] 3) :: (c, instObj 187 d) :: rest)) (T : Top Mine.view loose mean mg mb h₀) (hk : cs.kind = .function) (hd : dp + 16 < recursionLimit) (hu : un + 200 < cLine) (hcd : c ≠ d) (hne : ∀ p ∈ rest, p.1 ≠ d) (hks : KBw.bInts data = ks) (h0 : 0 ≤ ps) (h1 : ps ≤ en) (h2 : en ≤ (ks.length : Int)) (h3 : ks.length ≤ 100000) (hf0 : 48 ≤ first) (hf1 : first ≤ 55)
  (hQ : ∀ v t p' t' h' tk', v = (octL first (rem ks ps en)).1 → rem ks p' en = (octL first (rem ks ps en)).2 → ps ≤ p' → p' ≤ en → Fr h₀ L h' m → News h₀ L h' ((d, dictOf [⟨H1, .str (Str.ofString "data") t1, .bytes data t4⟩, ⟨H2, .str (Str.ofString "at") t2, .int p' t'⟩, ⟨H3, .str (Str.ofString "end") t3, .int en t6⟩] 3) :: (c, instObj 187 d) :: rest) → Q (.int v t) { s with heap := h', toks := tk' }) :
  wpAny (model Challenge.rw_nn0223_01.row.prog w) (ktrTop dp un gd cn cs L a ccd cl outer) (call (.ref 333) [.ref c, .int first tf]) Q E s := by
  k_with_none
  w_top off
  k_with "MyPost" =>
    (dsimp only [MyPost])
  k_with "eval Call" =>
    ((with_reducible show wpAny _ _ (eval (Expr.Call (Expr.Name _ _) _ [] _) _) _ _ _); k_dflt (refine Call_ ?_))
  k_with "eval Call Attribute" =>
    ((with_reducible show wpAny _ _ (eval (Expr.Call (Expr.Attribute _ _ _) _ [] _) _) _ _ _); k_dflt (refine MethodCall_ ?_))
  k_with "compareOp In int ref" =>
    ((with_reducible show wpAny _ _ (compareOp CmpOp.In (Value.int _ _) (Value.ref 62)) _ _ _); refine in_tuple_ints (ns := [0, 9, 10, 12, 13, 32]) (tupK (Frag.In.keeps (by k_asm) (Fr.keep (by k_asm))) (by k_is)) (by repeat constructor) ?_)
  k_with "compareOp NotIn int ref" =>
    ((with_reducible show wpAny _ _ (compareOp CmpOp.NotIn (Value.int _ _) (Value.ref 62)) _ _ _); refine notin_tuple_ints (ns := [0, 9, 10, 12, 13, 32]) (tupK (Frag.In.keeps (by k_asm) (Fr.keep (by k_asm))) (by k_is)) (by repeat constructor) ?_)
  k_with "compareOp NotIn int ref" =>
    ((with_reducible show wpAny _ _ (compareOp CmpOp.NotIn (Value.int _ _) (Value.ref 63)) _ _ _); refine notin_tuple_ints (ns := [40, 41, 60, 62, 91, 93, 123, 125, 47, 37]) (tupK (Frag.In.keeps (by k_asm) (Fr.keep (by k_asm))) (by k_is)) (by repeat constructor) ?_)
  k_with "compareOp In int ref" =>
    ((with_reducible show wpAny _ _ (compareOp CmpOp.In (Value.int _ _) (Value.ref 304)) _ _ _); refine in_tuple_ints (ns := [91, 93, 123, 125]) (tupK (Frag.In.keeps (by k_asm) (Fr.keep (by k_asm))) (by k_is)) (by repeat constructor) ?_)
  k_with "call ref" =>
    ((with_reducible show wpAny _ _ (call (Value.ref 70) _) _ _ _); (rename News _ _ _ _ => kN); k_dflt (refine' is_white_c (by k_asm) (by k_asm) (by k_asm) kN (by k_asm) (by first | exact rfl | assumption) (by ktr_room) (by ktr_units)  ?_; k_whole); intro _ _ _ _; (try clear kN); (try k_sweep))
  k_with "call ref" =>
    ((with_reducible show wpAny _ _ (call (Value.ref 77) _) _ _ _); (rename News _ _ _ _ => kN); k_dflt (refine' is_regular_c (by k_asm) (by k_asm) (by k_asm) kN (by k_asm) (by first | exact rfl | assumption) (by ktr_room) (by ktr_units)  ?_; k_whole); intro _ _ _ _; (try clear kN); (try k_sweep))
  k_with "call ref" =>
    ((with_reducible show wpAny _ _ (call (Value.ref 311) _) _ _ _); (rename News _ _ _ _ => kN); k_dflt (refine' hex_worth_c (by k_asm) (by k_asm) (by k_asm) kN (by k_asm) (by first | exact rfl | assumption) (by ktr_room) (by ktr_units) (by omega) (by omega) ?_; k_whole); intro _ _ _ _ _ _ _ _; (try clear kN); (try k_sweep))
  k_with "call ref" =>
    ((with_reducible show wpAny _ _ (call (Value.ref 318) _) _ _ _); (rename News _ _ _ _ => kN); k_dflt (refine' plain_escape_c (by k_asm) (by k_asm) (by k_asm) kN (by k_asm) (by first | exact rfl | assumption) (by ktr_room) (by ktr_units)  ?_; k_whole); intro _ _ _ _ _ _ _; (try clear kN); (try k_sweep))
  k_with "call ref" =>
    ((with_reducible show wpAny _ _ (call (Value.ref 106) _) _ _ _); (rename News _ _ _ _ => kN); k_dflt (refine' is_done_c (by k_asm) (by k_asm) (by k_asm) (news_pick2 kN (by tb_start) (by tb_start)) (by k_asm) (by first | exact rfl | assumption) (by ktr_room) (by ktr_units) (by k_ne) (by k_all) (by kba_ints) (by omega) (by omega) (by omega) (by omega) ?_; k_whole); intro _ _ _ _; (try clear kN); (try k_sweep))
  k_with "call ref" =>
    ((with_reducible show wpAny _ _ (call (Value.ref 114) _) _ _ _); (rename News _ _ _ _ => kN); k_dflt (refine' peek_c (by k_asm) (by k_asm) (by k_asm) (news_pick2 kN (by tb_start) (by tb_start)) (by k_asm) (by first | exact rfl | assumption) (by ktr_room) (by ktr_units) (by k_ne) (by k_all) (by kba_ints) (by omega) (by omega) (by omega) (by omega) ?_; k_whole); intro _ _ _ _ _ _ _ _ _ _; (try clear kN); (try k_sweep))
  k_with "call ref" =>
    ((with_reducible show wpAny _ _ (call (Value.ref 121) _) _ _ _); (rename News _ _ _ _ => kN); k_dflt (refine' take_c (by k_asm) (by k_asm) (by k_asm) (news_pick2 kN (by tb_start) (by tb_start)) (by k_asm) (by first | exact rfl | assumption) (by ktr_room) (by ktr_units) (by k_ne) (by k_all) (by kba_ints) (by omega) (by omega) (by omega) (by omega) (by omega) ?_; k_whole); intro _ _ _ _ _ _ _ _ _ _; (try clear kN); (try k_sweep))
  k_with "call ref" =>
    ((with_reducible show wpAny _ _ (call (Value.ref 156) _) _ _ _); (rename News _ _ _ _ => kN); k_dflt (refine' skip_line_end_c (by k_asm) (by k_asm) (by k_asm) (news_pick2 kN (by tb_start) (by tb_start)) (by k_asm) (by first | exact rfl | assumption) (by ktr_room) (by ktr_units) (by k_ne) (by k_all) (by kba_ints) (by omega) (by omega) (by omega) (by omega) ?_; k_whole); intro _ _ _ _ _ _ _ _ _; (try clear kN); (rename_i hb' _ _); subst hb'; (try k_sweep))
  k_with "exec While BoolOp" =>
    (k_dflt (refine whl_start 100 ?_))
  revert X; k_fill; intro X
  refine wpAny_call ?_
  k_dflt (refine' code_def (binds := [((Str.ofString "cursor"), .ref c), ((Str.ofString "first"), .int first tf)]) ?k1 ?k2 ?k3 ?k4 ?k5 ?kA ?kF ?kK ?k6 ?k7 ?k8 ?k9 ?kB ?_ ?c2 ?c3 ?c4 ?c5; (case kA => exact rfl); (case kF => exact rfl); (case kK => assumption); (case k1 => k_asm); (case k2 => k_asm); (case k3 => k_asm); (case k4 => k_asm); (case k5 => k_asm); (case k6 => k_is); (case k7 => k_is); (case k8 => ktr_room); (case k9 => first | exact BindsTo.of_eq rfl | exact binds_K (by k_in) rfl (by k_is) rfl rfl rfl); (case c5 => decide); (case kB => exact locs rfl); (case c2 => exact rfl); (case c3 => exact rfl); (case c4 => exact rfl))
  k_whole
  intro g' L' h' FG' F' N' B' X' T'
  (try dsimp only [List.reverse_cons, List.reverse_nil, List.nil_append, List.cons_append]); (try k_fold)
  k_steps
  all_goals subst_vars
  · refine hQ _ _ _ _ _ _ ?_ ?_ ?_ ?_ (by assumption) (by assumption) <;> first | (rw [octL2 (by assumption) (by assumption) (by assumption) (by assumption) h0 h2]; done) | omega
  · refine hQ _ _ _ _ _ _ ?_ ?_ ?_ ?_ (by assumption) (by assumption) <;> first | (rw [octL1 (by assumption) (by assumption) (.inr (by assumption)) h0 h2]; done) | omega
  · refine hQ _ _ _ _ _ _ ?_ ?_ ?_ ?_ (by assumption) (by assumption) <;> first | (rw [octL1 (by assumption) (by assumption) (.inl (by assumption)) h0 h2]; done) | omega
  · refine hQ _ _ _ _ _ _ ?_ ?_ ?_ ?_ (by assumption) (by assumption) <;> first | (rw [octL0 (.inr (by assumption)) h0 h2]; done) | omega
  · refine hQ _ _ _ _ _ _ ?_ ?_ ?_ ?_ (by assumption) (by assumption) <;> first | (rw [octL0 (.inl (by assumption)) h0 h2]; done) | omega
theorem escaped_codes_c {w : World} {dp un : Nat} {gd : Option (List Code)} {cn : Str} {cs : Scope} {a : Addr} {ccd : Value} {cl : List (Str × Addr)} {outer : List Env} {A₀ : Around} {base h₀ : Heap} {L : Addr} {m : Str → Option Value} {s : Shared} {Q E : Value → Shared → Prop} {mg mb : Str → Option Value} {mean : ExcName → Option Value} {loose : List Str} {c d : Addr} {H1 H2 H3 : Int} {t1 t2 t3 t4 t5 t6 : Tok} {data : Array UInt8} {ps en : Int} {ks : List Int} {rest : List (Addr × Obj)}
  (B : Below A₀ base outer h₀) (F : Fr h₀ L s.heap m) (X : (Mine.hd.heap_1 w.params).In h₀) (N : News h₀ L s.heap ((d, dictOf [⟨H1, .str (Str.ofString "data") t1, .bytes data t4⟩, ⟨H2, .str (Str.ofString "at") t2, .int ps t5⟩, ⟨H3, .str (Str.ofString "end") t3, .int en t6⟩] 3) :: (c, instObj 187 d) :: rest)) (T : Top Mine.view loose mean mg mb h₀) (hk : cs.kind = .function) (hd : dp + 30 < recursionLimit) (hu : un + 400 < cLine) (hcd : c ≠ d) (hne : ∀ p ∈ rest, p.1 ≠ d) (hks : KBw.bInts data = ks) (h0 : 0 ≤ ps) (h1 : ps ≤ en) (h2 : en ≤ (ks.length : Int)) (h3 : ks.length ≤ 100000)
  (hQ : ∀ r vs cs' p' t' h' tk', (vs = [] ∨ ∃ v t, vs = [.int v t]) → IntsAre vs cs' → cs' = (escL (rem ks ps en)).1 → rem ks p' en = (escL (rem ks ps en)).2 → ps ≤ p' → p' ≤ en → AllLt r rest → c < r → d < r → Fr h₀ L h' m → News h₀ L h' ((r, listOf vs.toArray 0) :: (d, dictOf [⟨H1, .str (Str.ofString "data") t1, .bytes data t4⟩, ⟨H2, .str (Str.ofString "at") t2, .int p' t'⟩, ⟨H3, .str (Str.ofString "end") t3, .int en t6⟩] 3) :: (c, instObj 187 d) :: rest) → Q (.ref r) { s with heap := h', toks := tk' }) :
  wpAny (model Challenge.rw_nn0223_01.row.prog w) (ktrTop dp un gd cn cs L a ccd cl outer) (call (.ref 340) [.ref c]) Q E s := by
  k_with_none
  w_top off
  k_with "MyPost" =>
    (dsimp only [MyPost])
  k_with "eval Call" =>
    ((with_reducible show wpAny _ _ (eval (Expr.Call (Expr.Name _ _) _ [] _) _) _ _ _); k_dflt (refine Call_ ?_))
  k_with "eval Call Attribute" =>
    ((with_reducible show wpAny _ _ (eval (Expr.Call (Expr.Attribute _ _ _) _ [] _) _) _ _ _); k_dflt (refine MethodCall_ ?_))
  k_with "compareOp In int ref" =>
    ((with_reducible show wpAny _ _ (compareOp CmpOp.In (Value.int _ _) (Value.ref 62)) _ _ _); refine in_tuple_ints (ns := [0, 9, 10, 12, 13, 32]) (tupK (Frag.In.keeps (by k_asm) (Fr.keep (by k_asm))) (by k_is)) (by repeat constructor) ?_)
  k_with "compareOp NotIn int ref" =>
    ((with_reducible show wpAny _ _ (compareOp CmpOp.NotIn (Value.int _ _) (Value.ref 62)) _ _ _); refine notin_tuple_ints (ns := [0, 9, 10, 12, 13, 32]) (tupK (Frag.In.keeps (by k_asm) (Fr.keep (by k_asm))) (by k_is)) (by repeat constructor) ?_)
  k_with "compareOp NotIn int ref" =>
    ((with_reducible show wpAny _ _ (compareOp CmpOp.NotIn (Value.int _ _) (Value.ref 63)) _ _ _); refine notin_tuple_ints (ns := [40, 41, 60, 62, 91, 93, 123, 125, 47, 37]) (tupK (Frag.In.keeps (by k_asm) (Fr.keep (by k_asm))) (by k_is)) (by repeat constructor) ?_)
  k_with "compareOp In int ref" =>
    ((with_reducible show wpAny _ _ (compareOp CmpOp.In (Value.int _ _) (Value.ref 304)) _ _ _); refine in_tuple_ints (ns := [91, 93, 123, 125]) (tupK (Frag.In.keeps (by k_asm) (Fr.keep (by k_asm))) (by k_is)) (by repeat constructor) ?_)
  k_with "call ref" =>
    ((with_reducible show wpAny _ _ (call (Value.ref 70) _) _ _ _); (rename News _ _ _ _ => kN); k_dflt (refine' is_white_c (by k_asm) (by k_asm) (by k_asm) kN (by k_asm) (by first | exact rfl | assumption) (by ktr_room) (by ktr_units)  ?_; k_whole); intro _ _ _ _; (try clear kN); (try k_sweep))
  k_with "call ref" =>
    ((with_reducible show wpAny _ _ (call (Value.ref 77) _) _ _ _); (rename News _ _ _ _ => kN); k_dflt (refine' is_regular_c (by k_asm) (by k_asm) (by k_asm) kN (by k_asm) (by first | exact rfl | assumption) (by ktr_room) (by ktr_units)  ?_; k_whole); intro _ _ _ _; (try clear kN); (try k_sweep))
  k_with "call ref" =>
    ((with_reducible show wpAny _ _ (call (Value.ref 311) _) _ _ _); (rename News _ _ _ _ => kN); k_dflt (refine' hex_worth_c (by k_asm) (by k_asm) (by k_asm) kN (by k_asm) (by first | exact rfl | assumption) (by ktr_room) (by ktr_units) (by omega) (by omega) ?_; k_whole); intro _ _ _ _ _ _ _ _; (try clear kN); (try k_sweep))
  k_with "call ref" =>
    ((with_reducible show wpAny _ _ (call (Value.ref 318) _) _ _ _); (rename News _ _ _ _ => kN); k_dflt (refine' plain_escape_c (by k_asm) (by k_asm) (by k_asm) kN (by k_asm) (by first | exact rfl | assumption) (by ktr_room) (by ktr_units)  ?_; k_whole); intro _ _ _ _ _ _ _; (try clear kN); (try k_sweep))
  k_with "call ref" =>
    ((with_reducible show wpAny _ _ (call (Value.ref 106) _) _ _ _); (rename News _ _ _ _ => kN); k_dflt (refine' is_done_c (by k_asm) (by k_asm) (by k_asm) (news_pick2 kN (by tb_start) (by tb_start)) (by k_asm) (by first | exact rfl | assumption) (by ktr_room) (by ktr_units) (by k_ne) (by k_all) (by kba_ints) (by omega) (by omega) (by omega) (by omega) ?_; k_whole); intro _ _ _ _; (try clear kN); (try k_sweep))
  k_with "call ref" =>
    ((with_reducible show wpAny _ _ (call (Value.ref 114) _) _ _ _); (rename News _ _ _ _ => kN); k_dflt (refine' peek_c (by k_asm) (by k_asm) (by k_asm) (news_pick2 kN (by tb_start) (by tb_start)) (by k_asm) (by first | exact rfl | assumption) (by ktr_room) (by ktr_units) (by k_ne) (by k_all) (by kba_ints) (by omega) (by omega) (by omega) (by omega) ?_; k_whole); intro _ _ _ _ _ _ _ _ _ _; (try clear kN); (try k_sweep))
  k_with "call ref" =>
    ((with_reducible show wpAny _ _ (call (Value.ref 121) _) _ _ _); (rename News _ _ _ _ => kN); k_dflt (refine' take_c (by k_asm) (by k_asm) (by k_asm) (news_pick2 kN (by tb_start) (by tb_start)) (by k_asm) (by first | exact rfl | assumption) (by ktr_room) (by ktr_units) (by k_ne) (by k_all) (by kba_ints) (by omega) (by omega) (by omega) (by omega) (by omega) ?_; k_whole); intro _ _ _ _ _ _ _ _ _ _; (try clear kN); (try k_sweep))
  k_with "call ref" =>
    ((with_reducible show wpAny _ _ (call (Value.ref 156) _) _ _ _); (rename News _ _ _ _ => kN); k_dflt (refine' skip_line_end_c (by k_asm) (by k_asm) (by k_asm) (news_pick2 kN (by tb_start) (by tb_start)) (by k_asm) (by first | exact rfl | assumption) (by ktr_room) (by ktr_units) (by k_ne) (by k_all) (by kba_ints) (by omega) (by omega) (by omega) (by omega) ?_; k_whole); intro _ _ _ _ _ _ _ _ _; (try clear kN); (rename_i hb' _ _); subst hb'; (try k_sweep))
  k_with "exec While BoolOp" =>
    (k_dflt (refine whl_start 100 ?_))
  k_with "call ref" =>
    ((with_reducible show wpAny _ _ (call (Value.ref 333) _) _ _ _); (rename News _ _ _ _ => kN); k_dflt (refine' octal_c (by k_asm) (by k_asm) (by k_asm) (news_pick2 kN (by tb_start) (by tb_start)) (by k_asm) (by first | exact rfl | assumption) (by ktr_room) (by ktr_units) (by k_ne) (by k_all) (by kba_ints) (by omega) (by omega) (by omega) (by omega) (by omega) (by omega) ?_; k_whole); intro _ _ _ _ _ _ _ _ _ _ _ _; (try clear kN); (try k_sweep))
  refine wpAny_call ?_
  k_dflt (refine' code_def (binds := [((Str.ofString "cursor"), .ref c)]) ?k1 ?k2 ?k3 ?k4 ?k5 ?kA ?kF ?kK ?k6 ?k7 ?k8 ?k9 ?kB ?_ ?c2 ?c3 ?c4 ?c5; (case kA => exact rfl); (case kF => exact rfl); (case kK => assumption); (case k1 => k_asm); (case k2 => k_asm); (case k3 => k_asm); (case k4 => k_asm); (case k5 => k_asm); (case k6 => k_is); (case k7 => k_is); (case k8 => ktr_room); (case k9 => first | exact BindsTo.of_eq rfl | exact binds_K (by k_in) rfl (by k_is) rfl rfl rfl); (case c5 => decide); (case kB => exact locs rfl); (case c2 => exact rfl); (case c3 => exact rfl); (case c4 => exact rfl))
  k_whole
  intro g' L' h' FG' F' N' B' X' T'
  (try dsimp only [List.reverse_cons, List.reverse_nil, List.nil_append, List.cons_append]); (try k_fold)
  k_steps
  all_goals (rename (_ ∧ _ ∧ AllLt _ _) => hl1; obtain ⟨q1, q2, q3⟩ := hl1)
  · refine hQ _ [] [] _ _ _ _ (.inl rfl) (by constructor) ?_ ?_ ?_ ?_ ?_ ?_ ?_ (by assumption) (by assumption) <;> first | (rw [escL_done (by assumption)]; done) | omega | assumption
  · have hs := sle_le (ks := ks) (ps := ps) (en := en) (by assumption)
    subst_vars
    refine hQ _ [] [] _ _ _ _ (.inl rfl) (by constructor) ?_ ?_ ?_ ?_ ?_ ?_ ?_ (by assumption) (by assumption) <;> first | (rw [escL_line h0 h2 (by assumption)]; done) | omega | assumption
  all_goals (have hz : sle ks ps en = 0 := Classical.not_not.mp (by assumption); rename (_ = ps + sle ks ps en) => hpe; rw [hz, Int.add_zero] at hpe; subst hpe)
  · subst_vars
    refine hQ _ [_] [_] _ _ _ _ (.inr ⟨_, _, rfl⟩) (by repeat constructor) ?_ ?_ ?_ ?_ ?_ ?_ ?_ (by assumption) (by assumption) <;> first | (rw [escL_oct h0 (by omega) h2 (by assumption) (by assumption)]; done) | (rw [escL_oct h0 (by omega) h2 (by assumption) (by assumption)]; assumption) | omega | assumption
  all_goals (subst_vars; refine hQ _ [_] [_] _ _ _ _ (.inr ⟨_, _, rfl⟩) (by repeat constructor) ?_ ?_ ?_ ?_ ?_ ?_ ?_ (by assumption) (by assumption) <;> first | (rw [escL_plain h0 (by omega) h2 hz (by first | exact .inl (by assumption) | exact .inr (by assumption))]; done) | omega | assumption)
end Mine
end
section
open PySem PySem.W PyProof.Rows PySem.Calls
namespace Mine
theorem literal_c {w : World} {dp un : Nat} {gd : Option (List Code)} {cn : Str} {cs : Scope} {a : Addr} {ccd : Value} {cl : List (Str × Addr)} {outer : List Env} {A₀ : Around} {base h₀ : Heap} {L : Addr} {m : Str → Option Value} {s : Shared} {Q E : Value → Shared → Prop} {mg mb : Str → Option Value} {mean : ExcName → Option Value} {loose : List Str} {c d : Addr} {H1 H2 H3 : Int} {t1 t2 t3 t4 t5 t6 : Tok} {data : Array UInt8} {ps en : Int} {ks : List Int} {rest : List (Addr × Obj)} {OUT : Option (List Int × List Int)}
  (B : Below A₀ base outer h₀) (F : Fr h₀ L s.heap m) (X : (Mine.hd.heap_1 w.params).In h₀) (N : News h₀ L s.heap ((d, dictOf [⟨H1, .str (Str.ofString "data") t1, .bytes data t4⟩, ⟨H2, .str (Str.ofString "at") t2, .int ps t5⟩, ⟨H3, .str (Str.ofString "end") t3, .int en t6⟩] 3) :: (c, instObj 187 d) :: rest)) (T : Top Mine.view loose mean mg mb h₀) (hk : cs.kind = .function) (hd : dp + 40 < recursionLimit) (hu : un + 600 < cLine) (hcd : c ≠ d) (hne : ∀ p ∈ rest, p.1 ≠ d) (hks : KBw.bInts data = ks) (h0 : 0 ≤ ps) (h1 : ps ≤ en) (h2 : en ≤ (ks.length : Int)) (h3 : ks.length ≤ 100000) (hE : OUT = none → ∀ e g₂ h' tk', Fr h₀ L g₂ m → RaisedD base g₂ (envX cn cs L a ccd cl :: outer) e (ps - 1) (rest) h' → g₂.UpToSlots h' → E (.ref e) { s with heap := h', toks := tk' }) (hps : 1 ≤ ps) (hlit : litL ((en - ps).toNat + 1) (rem ks ps en) 1 [] = OUT)
  (hQ : ∀ b t cs' p' t' h' tk', OUT = some (cs', rem ks p' en) → KBw.bInts b = cs' → ps ≤ p' → p' ≤ en → Fr h₀ L h' m → News h₀ L h' ((d, dictOf [⟨H1, .str (Str.ofString "data") t1, .bytes data t4⟩, ⟨H2, .str (Str.ofString "at") t2, .int p' t'⟩, ⟨H3, .str (Str.ofString "end") t3, .int en t6⟩] 3) :: (c, instObj 187 d) :: rest) → Q (.bytes b t) { s with heap := h', toks := tk' }) :
  wpAny (model Challenge.rw_nn0223_01.row.prog w) (ktrTop dp un gd cn cs L a ccd cl outer) (call (.ref 347) [.ref c]) Q E s := by
  k_with_none
  w_top off
  k_with "MyPost" =>
    (dsimp only [MyPost])
  k_with "eval Call" =>
    ((with_reducible show wpAny _ _ (eval (Expr.Call (Expr.Name _ _) _ [] _) _) _ _ _); k_dflt (refine Call_ ?_))
  k_with "eval Call Attribute" =>
    ((with_reducible show wpAny _ _ (eval (Expr.Call (Expr.Attribute _ _ _) _ [] _) _) _ _ _); k_dflt (refine MethodCall_ ?_))
  k_with "compareOp In int ref" =>
    ((with_reducible show wpAny _ _ (compareOp CmpOp.In (Value.int _ _) (Value.ref 62)) _ _ _); refine in_tuple_ints (ns := [0, 9, 10, 12, 13, 32]) (tupK (Frag.In.keeps (by k_asm) (Fr.keep (by k_asm))) (by k_is)) (by repeat constructor) ?_)
  k_with "compareOp NotIn int ref" =>
    ((with_reducible show wpAny _ _ (compareOp CmpOp.NotIn (Value.int _ _) (Value.ref 62)) _ _ _); refine notin_tuple_ints (ns := [0, 9, 10, 12, 13, 32]) (tupK (Frag.In.keeps (by k_asm) (Fr.keep (by k_asm))) (by k_is)) (by repeat constructor) ?_)
  k_with "compareOp NotIn int ref" =>
    ((with_reducible show wpAny _ _ (compareOp CmpOp.NotIn (Value.int _ _) (Value.ref 63)) _ _ _); refine notin_tuple_ints (ns := [40, 41, 60, 62, 91, 93, 123, 125, 47, 37]) (tupK (Frag.In.keeps (by k_asm) (Fr.keep (by k_asm))) (by k_is)) (by repeat constructor) ?_)
  k_with "compareOp In int ref" =>
    ((with_reducible show wpAny _ _ (compareOp CmpOp.In (Value.int _ _) (Value.ref 304)) _ _ _); refine in_tuple_ints (ns := [91, 93, 123, 125]) (tupK (Frag.In.keeps (by k_asm) (Fr.keep (by k_asm))) (by k_is)) (by repeat constructor) ?_)
  k_with "call ref" =>
    ((with_reducible show wpAny _ _ (call (Value.ref 70) _) _ _ _); (rename News _ _ _ _ => kN); k_dflt (refine' is_white_c (by k_asm) (by k_asm) (by k_asm) kN (by k_asm) (by first | exact rfl | assumption) (by ktr_room) (by ktr_units)  ?_; k_whole); intro _ _ _ _; (try clear kN); (try k_sweep))
  k_with "call ref" =>
    ((with_reducible show wpAny _ _ (call (Value.ref 77) _) _ _ _); (rename News _ _ _ _ => kN); k_dflt (refine' is_regular_c (by k_asm) (by k_asm) (by k_asm) kN (by k_asm) (by first | exact rfl | assumption) (by ktr_room) (by ktr_units)  ?_; k_whole); intro _ _ _ _; (try clear kN); (try k_sweep))
  k_with "call ref" =>
    ((with_reducible show wpAny _ _ (call (Value.ref 311) _) _ _ _); (rename News _ _ _ _ => kN); k_dflt (refine' hex_worth_c (by k_asm) (by k_asm) (by k_asm) kN (by k_asm) (by first | exact rfl | assumption) (by ktr_room) (by ktr_units) (by omega) (by omega) ?_; k_whole); intro _ _ _ _ _ _ _ _; (try clear kN); (try k_sweep))
  k_with "call ref" =>
    ((with_reducible show wpAny _ _ (call (Value.ref 318) _) _ _ _); (rename News _ _ _ _ => kN); k_dflt (refine' plain_escape_c (by k_asm) (by k_asm) (by k_asm) kN (by k_asm) (by first | exact rfl | assumption) (by ktr_room) (by ktr_units)  ?_; k_whole); intro _ _ _ _ _ _ _; (try clear kN); (try k_sweep))
  k_with "call ref" =>
    ((with_reducible show wpAny _ _ (call (Value.ref 106) _) _ _ _); (rename News _ _ _ _ => kN); k_dflt (refine' is_done_c (by k_asm) (by k_asm) (by k_asm) (news_pick2 kN (by tb_start) (by tb_start)) (by k_asm) (by first | exact rfl | assumption) (by ktr_room) (by ktr_units) (by k_ne) (by k_all) (by kba_ints) (by omega) (by omega) (by omega) (by omega) ?_; k_whole); intro _ _ _ _; (try clear kN); (try k_sweep))
  k_with "call ref" =>
    ((with_reducible show wpAny _ _ (call (Value.ref 114) _) _ _ _); (rename News _ _ _ _ => kN); k_dflt (refine' peek_c (by k_asm) (by k_asm) (by k_asm) (news_pick2 kN (by tb_start) (by tb_start)) (by k_asm) (by first | exact rfl | assumption) (by ktr_room) (by ktr_units) (by k_ne) (by k_all) (by kba_ints) (by omega) (by omega) (by omega) (by omega) ?_; k_whole); intro _ _ _ _ _ _ _ _ _ _; (try clear kN); (try k_sweep))
  k_with "call ref" =>
    ((with_reducible show wpAny _ _ (call (Value.ref 121) _) _ _ _); (rename News _ _ _ _ => kN); k_dflt (refine' take_c (by k_asm) (by k_asm) (by k_asm) (news_pick2 kN (by tb_start) (by tb_start)) (by k_asm) (by first | exact rfl | assumption) (by ktr_room) (by ktr_units) (by k_ne) (by k_all) (by kba_ints) (by omega) (by omega) (by omega) (by omega) (by omega) ?_; k_whole); intro _ _ _ _ _ _ _ _ _ _; (try clear kN); (try k_sweep))
  k_with "call ref" =>
    ((with_reducible show wpAny _ _ (call (Value.ref 156) _) _ _ _); (rename News _ _ _ _ => kN); k_dflt (refine' skip_line_end_c (by k_asm) (by k_asm) (by k_asm) (news_pick2 kN (by tb_start) (by tb_start)) (by k_asm) (by first | exact rfl | assumption) (by ktr_room) (by ktr_units) (by k_ne) (by k_all) (by kba_ints) (by omega) (by omega) (by omega) (by omega) ?_; k_whole); intro _ _ _ _ _ _ _ _ _; (try clear kN); (rename_i hb' _ _); subst hb'; (try k_sweep))
  k_with "call ref" =>
    ((with_reducible show wpAny _ _ (call (Value.ref 333) _) _ _ _); (rename News _ _ _ _ => kN); k_dflt (refine' octal_c (by k_asm) (by k_asm) (by k_asm) (news_pick2 kN (by tb_start) (by tb_start)) (by k_asm) (by first | exact rfl | assumption) (by ktr_room) (by ktr_units) (by k_ne) (by k_all) (by kba_ints) (by omega) (by omega) (by omega) (by omega) (by omega) (by omega) ?_; k_whole); intro _ _ _ _ _ _ _ _ _ _ _ _; (try clear kN); (try k_sweep))
  k_with "call ref" =>
    ((with_reducible show wpAny _ _ (call (Value.ref 340) _) _ _ _); (rename News _ _ _ _ => kN); k_dflt (refine' escaped_codes_c (by k_asm) (by k_asm) (by k_asm) (news_pick2 kN (by tb_start) (by tb_start)) (by k_asm) (by first | exact rfl | assumption) (by ktr_room) (by ktr_units) (by k_ne) (by k_all) (by kba_ints) (by omega) (by omega) (by omega) (by omega) ?_; k_whole); intro _ _ _ _ _ _ _ _ _ _ _ _ _ _ _ _ _ _; (try clear kN); (rename_i hvs' a1' a2' a3' a4' a5' hl1 a6' a7' F' N'); (try simp only [AllLt, and_true] at hl1); (rcases hvs' with hvs' | ⟨_, _, hvs'⟩ <;> subst hvs'); all_goals ((revert a1' a2' a3' a4' a5' hl1 a6' a7' F' N'; intro _ _ _ _ _ _ _ _ _ _); (try k_sweep)))
  k_with "exec Raise some none" =>
    (k_dflt (refine raise_syn rfl ?_))
  k_with "call ref" =>
    ((with_reducible show wpAny _ _ (call (Value.ref 59) [_, _]) _ _ _); (rename News _ _ _ _ => kN); k_dflt (refine' syn_call (by k_asm) (by k_asm) (by k_asm) kN (by k_asm) (by first | exact rfl | assumption) (by ktr_room) (by ktr_units) ?_; k_whole); intro _ _ _ _ _ _ _ _ _ _ _ _ _ _ _; (try clear kN); (rename_i l1' l2' _ _); (have lSyn := SynNew.mk l1' l2'); (clear l1' l2'); (revert lSyn; intro _); (try k_sweep))
  k_with "call builtin:list.extend" =>
    ((with_reducible show wpAny _ _ (call (Value.builtin _) [Value.ref _, Value.ref _]) _ _ _); k_dflt (first
  | (refine' my_ext1 (by k_asm) (by k_asm) (by k_mem) (by k_upd) (by omega) ?_)
  | (refine' my_ext0 (by k_asm) (by k_asm) (by k_mem) (by k_upd) (by omega) ?_)); intro _ _ _; (try k_sweep))
  revert X; k_fill; intro X
  refine wpAny_call ?_
  k_dflt (refine' code_def (binds := [((Str.ofString "cursor"), .ref c)]) ?k1 ?k2 ?k3 ?k4 ?k5 ?kA ?kF ?kK ?k6 ?k7 ?k8 ?k9 ?kB ?_ ?c2 ?c3 ?c4 ?c5; (case kA => exact rfl); (case kF => exact rfl); (case kK => assumption); (case k1 => k_asm); (case k2 => k_asm); (case k3 => k_asm); (case k4 => k_asm); (case k5 => k_asm); (case k6 => k_is); (case k7 => k_is); (case k8 => ktr_room); (case k9 => first | exact BindsTo.of_eq rfl | exact binds_K (by k_in) rfl (by k_is) rfl rfl rfl); (case c5 => decide); (case kB => exact locs rfl); (case c2 => exact rfl); (case c3 => exact rfl); (case c4 => exact rfl))
  k_whole
  intro g' L' h' FG' F' N' B' X' T'
  (try dsimp only [List.reverse_cons, List.reverse_nil, List.nil_append, List.cons_append]); (try k_fold)
  k_with "exec While" =>
    (rename Fr _ _ _ _ => lF'); (rename News _ _ _ _ => lN'); (rename _ ∧ _ ∧ AllLt _ _ => lL')
    obtain ⟨l', hl', lL2⟩ : ∃ z : Addr, z = _ ∧ (d < z ∧ c < z ∧ AllLt z rest) := ⟨_, rfl, lL'⟩
    subst hl'
    with_unfolding_all refine' my_while (σ := Int × Tok × Int × Tok × List Value × Nat × List Int × Tok) (fun x u y => if y = Str.ofString "depth" then some (.int x.2.2.1 x.2.2.2.1) else if y = Str.ofString "code" then u else if y = Str.ofString "codes" then some (.ref l') else if y = Str.ofString "opening" then some (.int (ps - 1) x.2.2.2.2.2.2.2) else List.lookup y [(Str.ofString "cursor", Value.ref c)]) (fun x => (l', listOf x.2.2.2.2.1.toArray x.2.2.2.2.2.1) :: (d, dictOf [⟨H1, .str (Str.ofString "data") t1, .bytes data t4⟩, ⟨H2, .str (Str.ofString "at") t2, .int x.1 x.2.1⟩, ⟨H3, .str (Str.ofString "end") t3, .int en t6⟩] 3) :: (c, instObj 187 d) :: rest) (fun x => ps ≤ x.1 ∧ x.1 ≤ en ∧ IntsAre x.2.2.2.2.1 x.2.2.2.2.2.2.1 ∧ KBa.In x.2.2.2.2.2.2.1 ∧ (x.2.2.2.2.2.2.1.length : Int) ≤ x.1 - ps ∧ ∃ n : Nat, (en - x.1).toNat < n ∧ litL n (rem ks x.1 en) x.2.2.1 x.2.2.2.2.2.2.1 = OUT) (fun x => (en - x.1).toNat) (ps, t5, 1, _, [], 0, [], _) none lF' lN' ?hm ?hn ?hp ?turn ?hE
    (case hE => passes_own)
    (case hm => tb_rel)
    (case hn => exact fun p hp => hp)
    (case hp => exact ⟨Int.le_refl _, h1, .nil, (fun _ h => nomatch h), by simp, _, Nat.lt_succ_self _, hlit⟩)
    rintro ⟨p, tp, dp, td, vs, n, acc, topn⟩ u h tk ⟨hp1, hp2, hp3, hp4, hp5, nn, hp6, hp7⟩ lF lN
    (try clear lF' lN')
    dsimp only at lF lN hp1 hp2 hp3 hp4 hp5 hp6 hp7 ⊢
    have hvl := hp3.length
    obtain ⟨mm, rfl⟩ : ∃ mm, nn = mm + 1 := ⟨nn - 1, by omega⟩
  k_steps
  all_goals (try (exfalso; omega; done))
  all_goals (try (rename News _ _ _ _ => nE; simp only [List.push_toArray, List.append_toArray] at nE))
  · have hno : OUT = none := by rw [← hp7]; exact litL_done (by assumption)
    refine' syn_end (news := rest) (pl := ps - 1) ?sK ?sF ?sX ?sN ?ss ?s1 ?s2 ?sQ
    (case sK => assumption)
    (case sF => assumption)
    (case sX => assumption)
    (case sN => assumption)
    (case ss => exact ⟨_, _, _, _, _, _, _, rfl⟩)
    (case s1 => assumption)
    (case s2 => kcj_in)
    (case sQ => intro h' R' U'; exact hE hno _ _ _ _ (by assumption) R' U')
  · rename (_ = p + sle ks p en) => hpe
    have hs := sle_le (ks := ks) (ps := p) (en := en) (by assumption)
    subst hpe
    refine' my_end (_, _, dp, td, vs ++ [_], _, acc ++ [10], topn) _ ?F ?N ?hm ?hn ?hp ?hμ
    (case F => assumption)
    (case N => assumption)
    (case hn => kcj_in)
    (case hm => tb_rel)
    (case hμ => (dsimp only; omega))
    (case hp => exact ⟨by dsimp only; omega, by dsimp only; omega, intsAre_app hp3 (.cons _ _ .nil), in_app hp4 (in_one (by decide) (by decide)), by (simp only [List.length_append, List.length_cons, List.length_nil]; omega), mm, by dsimp only; omega, by rw [← hp7, litL_line (by omega) h2 (by assumption)]⟩)
  all_goals (have hz : sle ks p en = 0 := Classical.not_not.mp (by assumption); rename (_ = p + sle ks p en) => hpe; rw [hz, Int.add_zero] at hpe; replace hpe := hpe.symm; subst hpe)
  · rename IntsAre [] _ => hb; cases hb
    rename [] = (escL _).1 => hc
    rename rem ks _ en = (escL _).2 => hr
    refine' my_end (_, _, dp, _, vs, _, acc, topn) _ ?F ?N ?hm ?hn ?hp ?hμ
    (case F => assumption)
    (case N => assumption)
    (case hn => kcj_in)
    (case hm => tb_rel)
    (case hμ => (dsimp only; omega))
    (case hp => exact ⟨by dsimp only; omega, by dsimp only; omega, hp3, hp4, by dsimp only; omega, mm, by dsimp only; omega, by rw [← hp7, litL_back (by omega) (by omega) h2 hz (by assumption) (by assumption), ← hc, hr, List.append_nil]⟩)
  · rename IntsAre [_] _ => hb; cases hb; rename IntsAre [] _ => hb; cases hb
    rename [_] = (escL _).1 => hc
    rename rem ks _ en = (escL _).2 => hr
    have hin := escL_in (rem_in (ps := p + 1) (en := en) hks)
    rw [← hc] at hin
    refine' my_end (_, _, dp, _, vs ++ [_], _, acc ++ [_], topn) _ ?F ?N ?hm ?hn ?hp ?hμ
    (case F => assumption)
    (case N => assumption)
    (case hn => kcj_in)
    (case hm => tb_rel)
    (case hμ => (dsimp only; omega))
    (case hp => exact ⟨by dsimp only; omega, by dsimp only; omega, intsAre_app hp3 (.cons _ _ .nil), in_app hp4 hin, by (simp only [List.length_append, List.length_cons, List.length_nil]; omega), mm, by dsimp only; omega, by rw [← hp7, litL_back (by omega) (by omega) h2 hz (by assumption) (by assumption), ← hc, hr]⟩)
  · refine' my_end (_, _, dp + 1, _, vs ++ [_], _, acc ++ [_], topn) _ ?F ?N ?hm ?hn ?hp ?hμ
    (case F => assumption)
    (case N => assumption)
    (case hn => kcj_in)
    (case hm => tb_rel)
    (case hμ => (dsimp only; omega))
    (case hp => exact ⟨by dsimp only; omega, by dsimp only; omega, intsAre_app hp3 (.cons _ _ .nil), in_app hp4 (in_one (by omega) (by omega)), by (simp only [List.length_append, List.length_cons, List.length_nil]; omega), mm, by dsimp only; omega, by rw [← hp7, litL_open (by omega) (by omega) h2 hz (by assumption) (by assumption)]⟩)
  · refine hQ _ _ acc (p + 1) _ _ _ ?_ (KBa.ints_make hp4) (by omega) (by omega) (by assumption) (news_sub (by assumption) (by kcj_in))
    rw [← hp7, litL_end (by omega) (by omega) h2 hz (by assumption) (by assumption) (by assumption)]
  · refine' my_end (_, _, dp - 1, _, vs ++ [_], _, acc ++ [_], topn) _ ?F ?N ?hm ?hn ?hp ?hμ
    (case F => assumption)
    (case N => assumption)
    (case hn => kcj_in)
    (case hm => tb_rel)
    (case hμ => (dsimp only; omega))
    (case hp => exact ⟨by dsimp only; omega, by dsimp only; omega, intsAre_app hp3 (.cons _ _ .nil), in_app hp4 (in_one (by omega) (by omega)), by (simp only [List.length_append, List.length_cons, List.length_nil]; omega), mm, by dsimp only; omega, by rw [← hp7, litL_close (by omega) (by omega) h2 hz (by assumption) (by assumption) (by assumption)]⟩)
  · refine' my_end (_, _, dp, _, vs ++ [_], _, acc ++ [_], topn) _ ?F ?N ?hm ?hn ?hp ?hμ
    (case F => assumption)
    (case N => assumption)
    (case hn => kcj_in)
    (case hm => tb_rel)
    (case hμ => (dsimp only; omega))
    (case hp => exact ⟨by dsimp only; omega, by dsimp only; omega, intsAre_app hp3 (.cons _ _ .nil), in_app hp4 (in_one (by omega) (by omega)), by (simp only [List.length_append, List.length_cons, List.length_nil]; omega), mm, by dsimp only; omega, by rw [← hp7, litL_other (by omega) (by omega) h2 hz (by assumption) (by assumption) (by assumption) (by assumption)]⟩)
end Mine
end
section
open PySem PySem.W PyProof.Rows PySem.Calls
namespace Mine
theorem starts_lt_c {w : World} {dp un : Nat} {gd : Option (List Code)} {cn : Str} {cs : Scope} {a : Addr} {ccd : Value} {cl : List (Str × Addr)} {outer : List Env} {A₀ : Around} {base h₀ : Heap} {L : Addr} {m : Str → Option Value} {s : Shared} {Q E : Value → Shared → Prop} {mg mb : Str → Option Value} {mean : ExcName → Option Value} {loose : List Str} {c d : Addr} {H1 H2 H3 : Int} {t1 t2 t3 t4 t5 t6 : Tok} {data : Array UInt8} {ps en : Int} {ks : List Int} {rest : List (Addr × Obj)} {tw : Tok}
  (B : Below A₀ base outer h₀) (F : Fr h₀ L s.heap m) (X : (Mine.hd.heap_1 w.params).In h₀) (N : News h₀ L s.heap ((d, dictOf [⟨H1, .str (Str.ofString "data") t1, .bytes data t4⟩, ⟨H2, .str (Str.ofString "at") t2, .int ps t5⟩, ⟨H3, .str (Str.ofString "end") t3, .int en t6⟩] 3) :: (c, instObj 187 d) :: rest)) (T : Top Mine.view loose mean mg mb h₀) (hk : cs.kind = .function) (hd : dp + 8 < recursionLimit) (hu : un + 100 < cLine) (hcd : c ≠ d) (hne : ∀ p ∈ rest, p.1 ≠ d) (hks : KBw.bInts data = ks) (h0 : 0 ≤ ps) (h1 : ps ≤ en) (h2 : en ≤ (ks.length : Int)) (h3 : ks.length ≤ 100000) (hno : ¬ (pk ks ps en = 60 ∧ pk ks (ps + 1) en = 60))
  (hQ : ∀ h' tk', Fr h₀ L h' m → News h₀ L h' ((d, dictOf [⟨H1, .str (Str.ofString "data") t1, .bytes data t4⟩, ⟨H2, .str (Str.ofString "at") t2, .int ps t5⟩, ⟨H3, .str (Str.ofString "end") t3, .int en t6⟩] 3) :: (c, instObj 187 d) :: rest) → Q (.bool false) { s with heap := h', toks := tk' }) :
  wpAny (model Challenge.rw_nn0223_01.row.prog w) (ktrTop dp un gd cn cs L a ccd cl outer) (call (.ref 128) [.ref c, .bytes #[60, 60] tw]) Q E s := by
  k_with_none
  w_top off
  k_with "MyPost" =>
    (dsimp only [MyPost])
  k_with "eval Call" =>
    ((with_reducible show wpAny _ _ (eval (Expr.Call (Expr.Name _ _) _ [] _) _) _ _ _); k_dflt (refine Call_ ?_))
  k_with "eval Call Attribute" =>
    ((with_reducible show wpAny _ _ (eval (Expr.Call (Expr.Attribute _ _ _) _ [] _) _) _ _ _); k_dflt (refine MethodCall_ ?_))
  k_with "compareOp In int ref" =>
    ((with_reducible show wpAny _ _ (compareOp CmpOp.In (Value.int _ _) (Value.ref 62)) _ _ _); refine in_tuple_ints (ns := [0, 9, 10, 12, 13, 32]) (tupK (Frag.In.keeps (by k_asm) (Fr.keep (by k_asm))) (by k_is)) (by repeat constructor) ?_)
  k_with "compareOp NotIn int ref" =>
    ((with_reducible show wpAny _ _ (compareOp CmpOp.NotIn (Value.int _ _) (Value.ref 62)) _ _ _); refine notin_tuple_ints (ns := [0, 9, 10, 12, 13, 32]) (tupK (Frag.In.keeps (by k_asm) (Fr.keep (by k_asm))) (by k_is)) (by repeat constructor) ?_)
  k_with "compareOp NotIn int ref" =>
    ((with_reducible show wpAny _ _ (compareOp CmpOp.NotIn (Value.int _ _) (Value.ref 63)) _ _ _); refine notin_tuple_ints (ns := [40, 41, 60, 62, 91, 93, 123, 125, 47, 37]) (tupK (Frag.In.keeps (by k_asm) (Fr.keep (by k_asm))) (by k_is)) (by repeat constructor) ?_)
  k_with "compareOp In int ref" =>
    ((with_reducible show wpAny _ _ (compareOp CmpOp.In (Value.int _ _) (Value.ref 304)) _ _ _); refine in_tuple_ints (ns := [91, 93, 123, 125]) (tupK (Frag.In.keeps (by k_asm) (Fr.keep (by k_asm))) (by k_is)) (by repeat constructor) ?_)
  k_with "call ref" =>
    ((with_reducible show wpAny _ _ (call (Value.ref 70) _) _ _ _); (rename News _ _ _ _ => kN); k_dflt (refine' is_white_c (by k_asm) (by k_asm) (by k_asm) kN (by k_asm) (by first | exact rfl | assumption) (by ktr_room) (by ktr_units)  ?_; k_whole); intro _ _ _ _; (try clear kN); (try k_sweep))
  k_with "call ref" =>
    ((with_reducible show wpAny _ _ (call (Value.ref 77) _) _ _ _); (rename News _ _ _ _ => kN); k_dflt (refine' is_regular_c (by k_asm) (by k_asm) (by k_asm) kN (by k_asm) (by first | exact rfl | assumption) (by ktr_room) (by ktr_units)  ?_; k_whole); intro _ _ _ _; (try clear kN); (try k_sweep))
  k_with "call ref" =>
    ((with_reducible show wpAny _ _ (call (Value.ref 311) _) _ _ _); (rename News _ _ _ _ => kN); k_dflt (refine' hex_worth_c (by k_asm) (by k_asm) (by k_asm) kN (by k_asm) (by first | exact rfl | assumption) (by ktr_room) (by ktr_units) (by omega) (by omega) ?_; k_whole); intro _ _ _ _ _ _ _ _; (try clear kN); (try k_sweep))
  k_with "call ref" =>
    ((with_reducible show wpAny _ _ (call (Value.ref 318) _) _ _ _); (rename News _ _ _ _ => kN); k_dflt (refine' plain_escape_c (by k_asm) (by k_asm) (by k_asm) kN (by k_asm) (by first | exact rfl | assumption) (by ktr_room) (by ktr_units)  ?_; k_whole); intro _ _ _ _ _ _ _; (try clear kN); (try k_sweep))
  k_with "call ref" =>
    ((with_reducible show wpAny _ _ (call (Value.ref 106) _) _ _ _); (rename News _ _ _ _ => kN); k_dflt (refine' is_done_c (by k_asm) (by k_asm) (by k_asm) (news_pick2 kN (by tb_start) (by tb_start)) (by k_asm) (by first | exact rfl | assumption) (by ktr_room) (by ktr_units) (by k_ne) (by k_all) (by kba_ints) (by omega) (by omega) (by omega) (by omega) ?_; k_whole); intro _ _ _ _; (try clear kN); (try k_sweep))
  k_with "call ref" =>
    ((with_reducible show wpAny _ _ (call (Value.ref 114) _) _ _ _); (rename News _ _ _ _ => kN); k_dflt (refine' peek_c (by k_asm) (by k_asm) (by k_asm) (news_pick2 kN (by tb_start) (by tb_start)) (by k_asm) (by first | exact rfl | assumption) (by ktr_room) (by ktr_units) (by k_ne) (by k_all) (by kba_ints) (by omega) (by omega) (by omega) (by omega) ?_; k_whole); intro _ _ _ _ _ _ _ _ _ _; (try clear kN); (try k_sweep))
  k_with "call ref" =>
    ((with_reducible show wpAny _ _ (call (Value.ref 121) _) _ _ _); (rename News _ _ _ _ => kN); k_dflt (refine' take_c (by k_asm) (by k_asm) (by k_asm) (news_pick2 kN (by tb_start) (by tb_start)) (by k_asm) (by first | exact rfl | assumption) (by ktr_room) (by ktr_units) (by k_ne) (by k_all) (by kba_ints) (by omega) (by omega) (by omega) (by omega) (by omega) ?_; k_whole); intro _ _ _ _ _ _ _ _ _ _; (try clear kN); (try k_sweep))
  k_with "call ref" =>
    ((with_reducible show wpAny _ _ (call (Value.ref 156) _) _ _ _); (rename News _ _ _ _ => kN); k_dflt (refine' skip_line_end_c (by k_asm) (by k_asm) (by k_asm) (news_pick2 kN (by tb_start) (by tb_start)) (by k_asm) (by first | exact rfl | assumption) (by ktr_room) (by ktr_units) (by k_ne) (by k_all) (by kba_ints) (by omega) (by omega) (by omega) (by omega) ?_; k_whole); intro _ _ _ _ _ _ _ _ _; (try clear kN); (rename_i hb' _ _); subst hb'; (try k_sweep))
  revert X; k_fill; intro X
  refine wpAny_call ?_
  k_dflt (refine' code_def (binds := [((Str.ofString "self"), .ref c), ((Str.ofString "word"), .bytes #[60, 60] tw)]) ?k1 ?k2 ?k3 ?k4 ?k5 ?kA ?kF ?kK ?k6 ?k7 ?k8 ?k9 ?kB ?_ ?c2 ?c3 ?c4 ?c5; (case kA => exact rfl); (case kF => exact rfl); (case kK => assumption); (case k1 => k_asm); (case k2 => k_asm); (case k3 => k_asm); (case k4 => k_asm); (case k5 => k_asm); (case k6 => k_is); (case k7 => k_is); (case k8 => ktr_room); (case k9 => first | exact BindsTo.of_eq rfl | exact binds_K (by k_in) rfl (by k_is) rfl rfl rfl); (case c5 => decide); (case kB => exact locs rfl); (case c2 => exact rfl); (case c3 => exact rfl); (case c4 => exact rfl))
  k_whole
  intro g' L' h' FG' F' N' B' X' T'
  (try dsimp only [List.reverse_cons, List.reverse_nil, List.nil_append, List.cons_append]); (try k_fold)
  k_steps
  · have e : ((KBy.picked data (some ps) (some (ps + ↑#[(60 : UInt8), 60].size))).toList == [60, 60]) = false := starts_no (w := 60) hks h0 (by assumption) h2 hno
    rw [e]; exact hQ _ _ (by assumption) (by assumption)
  · rw [decide_eq_false (by assumption)]; exact hQ _ _ (by assumption) (by assumption)
theorem skip_lt_c {w : World} {dp un : Nat} {gd : Option (List Code)} {cn : Str} {cs : Scope} {a : Addr} {ccd : Value} {cl : List (Str × Addr)} {outer : List Env} {A₀ : Around} {base h₀ : Heap} {L : Addr} {m : Str → Option Value} {s : Shared} {Q E : Value → Shared → Prop} {mg mb : Str → Option Value} {mean : ExcName → Option Value} {loose : List Str} {c d : Addr} {H1 H2 H3 : Int} {t1 t2 t3 t4 t5 t6 : Tok} {data : Array UInt8} {ps en : Int} {ks : List Int} {rest : List (Addr × Obj)} {tw : Tok}
  (B : Below A₀ base outer h₀) (F : Fr h₀ L s.heap m) (X : (Mine.hd.heap_1 w.params).In h₀) (N : News h₀ L s.heap ((d, dictOf [⟨H1, .str (Str.ofString "data") t1, .bytes data t4⟩, ⟨H2, .str (Str.ofString "at") t2, .int ps t5⟩, ⟨H3, .str (Str.ofString "end") t3, .int en t6⟩] 3) :: (c, instObj 187 d) :: rest)) (T : Top Mine.view loose mean mg mb h₀) (hk : cs.kind = .function) (hd : dp + 16 < recursionLimit) (hu : un + 200 < cLine) (hcd : c ≠ d) (hne : ∀ p ∈ rest, p.1 ≠ d) (hks : KBw.bInts data = ks) (h0 : 0 ≤ ps) (h1 : ps ≤ en) (h2 : en ≤ (ks.length : Int)) (h3 : ks.length ≤ 100000) (hno : ¬ (pk ks ps en = 60 ∧ pk ks (ps + 1) en = 60))
  (hQ : ∀ h' tk', Fr h₀ L h' m → News h₀ L h' ((d, dictOf [⟨H1, .str (Str.ofString "data") t1, .bytes data t4⟩, ⟨H2, .str (Str.ofString "at") t2, .int ps t5⟩, ⟨H3, .str (Str.ofString "end") t3, .int en t6⟩] 3) :: (c, instObj 187 d) :: rest) → Q (.bool false) { s with heap := h', toks := tk' }) :
  wpAny (model Challenge.rw_nn0223_01.row.prog w) (ktrTop dp un gd cn cs L a ccd cl outer) (call (.ref 135) [.ref c, .bytes #[60, 60] tw]) Q E s := by
  k_with_none
  w_top off
  k_with "MyPost" =>
    (dsimp only [MyPost])
  k_with "eval Call" =>
    ((with_reducible show wpAny _ _ (eval (Expr.Call (Expr.Name _ _) _ [] _) _) _ _ _); k_dflt (refine Call_ ?_))
  k_with "eval Call Attribute" =>
    ((with_reducible show wpAny _ _ (eval (Expr.Call (Expr.Attribute _ _ _) _ [] _) _) _ _ _); k_dflt (refine MethodCall_ ?_))
  k_with "compareOp In int ref" =>
    ((with_reducible show wpAny _ _ (compareOp CmpOp.In (Value.int _ _) (Value.ref 62)) _ _ _); refine in_tuple_ints (ns := [0, 9, 10, 12, 13, 32]) (tupK (Frag.In.keeps (by k_asm) (Fr.keep (by k_asm))) (by k_is)) (by repeat constructor) ?_)
  k_with "compareOp NotIn int ref" =>
    ((with_reducible show wpAny _ _ (compareOp CmpOp.NotIn (Value.int _ _) (Value.ref 62)) _ _ _); refine notin_tuple_ints (ns := [0, 9, 10, 12, 13, 32]) (tupK (Frag.In.keeps (by k_asm) (Fr.keep (by k_asm))) (by k_is)) (by repeat constructor) ?_)
  k_with "compareOp NotIn int ref" =>
    ((with_reducible show wpAny _ _ (compareOp CmpOp.NotIn (Value.int _ _) (Value.ref 63)) _ _ _); refine notin_tuple_ints (ns := [40, 41, 60, 62, 91, 93, 123, 125, 47, 37]) (tupK (Frag.In.keeps (by k_asm) (Fr.keep (by k_asm))) (by k_is)) (by repeat constructor) ?_)
  k_with "compareOp In int ref" =>
    ((with_reducible show wpAny _ _ (compareOp CmpOp.In (Value.int _ _) (Value.ref 304)) _ _ _); refine in_tuple_ints (ns := [91, 93, 123, 125]) (tupK (Frag.In.keeps (by k_asm) (Fr.keep (by k_asm))) (by k_is)) (by repeat constructor) ?_)
  k_with "call ref" =>
    ((with_reducible show wpAny _ _ (call (Value.ref 70) _) _ _ _); (rename News _ _ _ _ => kN); k_dflt (refine' is_white_c (by k_asm) (by k_asm) (by k_asm) kN (by k_asm) (by first | exact rfl | assumption) (by ktr_room) (by ktr_units)  ?_; k_whole); intro _ _ _ _; (try clear kN); (try k_sweep))
  k_with "call ref" =>
    ((with_reducible show wpAny _ _ (call (Value.ref 77) _) _ _ _); (rename News _ _ _ _ => kN); k_dflt (refine' is_regular_c (by k_asm) (by k_asm) (by k_asm) kN (by k_asm) (by first | exact rfl | assumption) (by ktr_room) (by ktr_units)  ?_; k_whole); intro _ _ _ _; (try clear kN); (try k_sweep))
  k_with "call ref" =>
    ((with_reducible show wpAny _ _ (call (Value.ref 311) _) _ _ _); (rename News _ _ _ _ => kN); k_dflt (refine' hex_worth_c (by k_asm) (by k_asm) (by k_asm) kN (by k_asm) (by first | exact rfl | assumption) (by ktr_room) (by ktr_units) (by omega) (by omega) ?_; k_whole); intro _ _ _ _ _ _ _ _; (try clear kN); (try k_sweep))
  k_with "call ref" =>
    ((with_reducible show wpAny _ _ (call (Value.ref 318) _) _ _ _); (rename News _ _ _ _ => kN); k_dflt (refine' plain_escape_c (by k_asm) (by k_asm) (by k_asm) kN (by k_asm) (by first | exact rfl | assumption) (by ktr_room) (by ktr_units)  ?_; k_whole); intro _ _ _ _ _ _ _; (try clear kN); (try k_sweep))
  k_with "call ref" =>
    ((with_reducible show wpAny _ _ (call (Value.ref 106) _) _ _ _); (rename News _ _ _ _ => kN); k_dflt (refine' is_done_c (by k_asm) (by k_asm) (by k_asm) (news_pick2 kN (by tb_start) (by tb_start)) (by k_asm) (by first | exact rfl | assumption) (by ktr_room) (by ktr_units) (by k_ne) (by k_all) (by kba_ints) (by omega) (by omega) (by omega) (by omega) ?_; k_whole); intro _ _ _ _; (try clear kN); (try k_sweep))
  k_with "call ref" =>
    ((with_reducible show wpAny _ _ (call (Value.ref 114) _) _ _ _); (rename News _ _ _ _ => kN); k_dflt (refine' peek_c (by k_asm) (by k_asm) (by k_asm) (news_pick2 kN (by tb_start) (by tb_start)) (by k_asm) (by first | exact rfl | assumption) (by ktr_room) (by ktr_units) (by k_ne) (by k_all) (by kba_ints) (by omega) (by omega) (by omega) (by omega) ?_; k_whole); intro _ _ _ _ _ _ _ _ _ _; (try clear kN); (try k_sweep))
  k_with "call ref" =>
    ((with_reducible show wpAny _ _ (call (Value.ref 121) _) _ _ _); (rename News _ _ _ _ => kN); k_dflt (refine' take_c (by k_asm) (by k_asm) (by k_asm) (news_pick2 kN (by tb_start) (by tb_start)) (by k_asm) (by first | exact rfl | assumption) (by ktr_room) (by ktr_units) (by k_ne) (by k_all) (by kba_ints) (by omega) (by omega) (by omega) (by omega) (by omega) ?_; k_whole); intro _ _ _ _ _ _ _ _ _ _; (try clear kN); (try k_sweep))
  k_with "call ref" =>
    ((with_reducible show wpAny _ _ (call (Value.ref 156) _) _ _ _); (rename News _ _ _ _ => kN); k_dflt (refine' skip_line_end_c (by k_asm) (by k_asm) (by k_asm) (news_pick2 kN (by tb_start) (by tb_start)) (by k_asm) (by first | exact rfl | assumption) (by ktr_room) (by ktr_units) (by k_ne) (by k_all) (by kba_ints) (by omega) (by omega) (by omega) (by omega) ?_; k_whole); intro _ _ _ _ _ _ _ _ _; (try clear kN); (rename_i hb' _ _); subst hb'; (try k_sweep))
  k_with "call ref" =>
    ((with_reducible show wpAny _ _ (call (Value.ref 128) [_, Value.bytes #[60, 60] _]) _ _ _); (rename News _ _ _ _ => kN); k_dflt (refine' starts_lt_c (by k_asm) (by k_asm) (by k_asm) (news_pick2 kN (by tb_start) (by tb_start)) (by k_asm) (by first | exact rfl | assumption) (by ktr_room) (by ktr_units) (by k_ne) (by k_all) (by kba_ints) (by omega) (by omega) (by omega) (by omega) (by assumption) ?_; k_whole); intro _ _ _ _; (try clear kN); (try k_sweep))
  refine wpAny_call ?_
  k_dflt (refine' code_def (binds := [((Str.ofString "self"), .ref c), ((Str.ofString "word"), .bytes #[60, 60] tw)]) ?k1 ?k2 ?k3 ?k4 ?k5 ?kA ?kF ?kK ?k6 ?k7 ?k8 ?k9 ?kB ?_ ?c2 ?c3 ?c4 ?c5; (case kA => exact rfl); (case kF => exact rfl); (case kK => assumption); (case k1 => k_asm); (case k2 => k_asm); (case k3 => k_asm); (case k4 => k_asm); (case k5 => k_asm); (case k6 => k_is); (case k7 => k_is); (case k8 => ktr_room); (case k9 => first | exact BindsTo.of_eq rfl | exact binds_K (by k_in) rfl (by k_is) rfl rfl rfl); (case c5 => decide); (case kB => exact locs rfl); (case c2 => exact rfl); (case c3 => exact rfl); (case c4 => exact rfl))
  k_whole
  intro g' L' h' FG' F' N' B' X' T'
  (try dsimp only [List.reverse_cons, List.reverse_nil, List.nil_append, List.cons_append]); (try k_fold)
  k_steps
  exact hQ _ _ (by assumption) (by assumption)
theorem starts_gt_c {w : World} {dp un : Nat} {gd : Option (List Code)} {cn : Str} {cs : Scope} {a : Addr} {ccd : Value} {cl : List (Str × Addr)} {outer : List Env} {A₀ : Around} {base h₀ : Heap} {L : Addr} {m : Str → Option Value} {s : Shared} {Q E : Value → Shared → Prop} {mg mb : Str → Option Value} {mean : ExcName → Option Value} {loose : List Str} {c d : Addr} {H1 H2 H3 : Int} {t1 t2 t3 t4 t5 t6 : Tok} {data : Array UInt8} {ps en : Int} {ks : List Int} {rest : List (Addr × Obj)} {tw : Tok}
  (B : Below A₀ base outer h₀) (F : Fr h₀ L s.heap m) (X : (Mine.hd.heap_1 w.params).In h₀) (N : News h₀ L s.heap ((d, dictOf [⟨H1, .str (Str.ofString "data") t1, .bytes data t4⟩, ⟨H2, .str (Str.ofString "at") t2, .int ps t5⟩, ⟨H3, .str (Str.ofString "end") t3, .int en t6⟩] 3) :: (c, instObj 187 d) :: rest)) (T : Top Mine.view loose mean mg mb h₀) (hk : cs.kind = .function) (hd : dp + 8 < recursionLimit) (hu : un + 100 < cLine) (hcd : c ≠ d) (hne : ∀ p ∈ rest, p.1 ≠ d) (hks : KBw.bInts data = ks) (h0 : 0 ≤ ps) (h1 : ps ≤ en) (h2 : en ≤ (ks.length : Int)) (h3 : ks.length ≤ 100000) (hno : ¬ (pk ks ps en = 62 ∧ pk ks (ps + 1) en = 62))
  (hQ : ∀ h' tk', Fr h₀ L h' m → News h₀ L h' ((d, dictOf [⟨H1, .str (Str.ofString "data") t1, .bytes data t4⟩, ⟨H2, .str (Str.ofString "at") t2, .int ps t5⟩, ⟨H3, .str (Str.ofString "end") t3, .int en t6⟩] 3) :: (c, instObj 187 d) :: rest) → Q (.bool false) { s with heap := h', toks := tk' }) :
  wpAny (model Challenge.rw_nn0223_01.row.prog w) (ktrTop dp un gd cn cs L a ccd cl outer) (call (.ref 128) [.ref c, .bytes #[62, 62] tw]) Q E s := by
  k_with_none
  w_top off
  k_with "MyPost" =>
    (dsimp only [MyPost])
  k_with "eval Call" =>
    ((with_reducible show wpAny _ _ (eval (Expr.Call (Expr.Name _ _) _ [] _) _) _ _ _); k_dflt (refine Call_ ?_))
  k_with "eval Call Attribute" =>
    ((with_reducible show wpAny _ _ (eval (Expr.Call (Expr.Attribute _ _ _) _ [] _) _) _ _ _); k_dflt (refine MethodCall_ ?_))
  k_with "compareOp In int ref" =>
    ((with_reducible show wpAny _ _ (compareOp CmpOp.In (Value.int _ _) (Value.ref 62)) _ _ _); refine in_tuple_ints (ns := [0, 9, 10, 12, 13, 32]) (tupK (Frag.In.keeps (by k_asm) (Fr.keep (by k_asm))) (by k_is)) (by repeat constructor) ?_)
  k_with "compareOp NotIn int ref" =>
    ((with_reducible show wpAny _ _ (compareOp CmpOp.NotIn (Value.int _ _) (Value.ref 62)) _ _ _); refine notin_tuple_ints (ns := [0, 9, 10, 12, 13, 32]) (tupK (Frag.In.keeps (by k_asm) (Fr.keep (by k_asm))) (by k_is)) (by repeat constructor) ?_)
  k_with "compareOp NotIn int ref" =>
    ((with_reducible show wpAny _ _ (compareOp CmpOp.NotIn (Value.int _ _) (Value.ref 63)) _ _ _); refine notin_tuple_ints (ns := [40, 41, 60, 62, 91, 93, 123, 125, 47, 37]) (tupK (Frag.In.keeps (by k_asm) (Fr.keep (by k_asm))) (by k_is)) (by repeat constructor) ?_)
  k_with "compareOp In int ref" =>
    ((with_reducible show wpAny _ _ (compareOp CmpOp.In (Value.int _ _) (Value.ref 304)) _ _ _); refine in_tuple_ints (ns := [91, 93, 123, 125]) (tupK (Frag.In.keeps (by k_asm) (Fr.keep (by k_asm))) (by k_is)) (by repeat constructor) ?_)
  k_with "call ref" =>
    ((with_reducible show wpAny _ _ (call (Value.ref 70) _) _ _ _); (rename News _ _ _ _ => kN); k_dflt (refine' is_white_c (by k_asm) (by k_asm) (by k_asm) kN (by k_asm) (by first | exact rfl | assumption) (by ktr_room) (by ktr_units)  ?_; k_whole); intro _ _ _ _; (try clear kN); (try k_sweep))
  k_with "call ref" =>
    ((with_reducible show wpAny _ _ (call (Value.ref 77) _) _ _ _); (rename News _ _ _ _ => kN); k_dflt (refine' is_regular_c (by k_asm) (by k_asm) (by k_asm) kN (by k_asm) (by first | exact rfl | assumption) (by ktr_room) (by ktr_units)  ?_; k_whole); intro _ _ _ _; (try clear kN); (try k_sweep))
  k_with "call ref" =>
    ((with_reducible show wpAny _ _ (call (Value.ref 311) _) _ _ _); (rename News _ _ _ _ => kN); k_dflt (refine' hex_worth_c (by k_asm) (by k_asm) (by k_asm) kN (by k_asm) (by first | exact rfl | assumption) (by ktr_room) (by ktr_units) (by omega) (by omega) ?_; k_whole); intro _ _ _ _ _ _ _ _; (try clear kN); (try k_sweep))
  k_with "call ref" =>
    ((with_reducible show wpAny _ _ (call (Value.ref 318) _) _ _ _); (rename News _ _ _ _ => kN); k_dflt (refine' plain_escape_c (by k_asm) (by k_asm) (by k_asm) kN (by k_asm) (by first | exact rfl | assumption) (by ktr_room) (by ktr_units)  ?_; k_whole); intro _ _ _ _ _ _ _; (try clear kN); (try k_sweep))
  k_with "call ref" =>
    ((with_reducible show wpAny _ _ (call (Value.ref 106) _) _ _ _); (rename News _ _ _ _ => kN); k_dflt (refine' is_done_c (by k_asm) (by k_asm) (by k_asm) (news_pick2 kN (by tb_start) (by tb_start)) (by k_asm) (by first | exact rfl | assumption) (by ktr_room) (by ktr_units) (by k_ne) (by k_all) (by kba_ints) (by omega) (by omega) (by omega) (by omega) ?_; k_whole); intro _ _ _ _; (try clear kN); (try k_sweep))
  k_with "call ref" =>
    ((with_reducible show wpAny _ _ (call (Value.ref 114) _) _ _ _); (rename News _ _ _ _ => kN); k_dflt (refine' peek_c (by k_asm) (by k_asm) (by k_asm) (news_pick2 kN (by tb_start) (by tb_start)) (by k_asm) (by first | exact rfl | assumption) (by ktr_room) (by ktr_units) (by k_ne) (by k_all) (by kba_ints) (by omega) (by omega) (by omega) (by omega) ?_; k_whole); intro _ _ _ _ _ _ _ _ _ _; (try clear kN); (try k_sweep))
  k_with "call ref" =>
    ((with_reducible show wpAny _ _ (call (Value.ref 121) _) _ _ _); (rename News _ _ _ _ => kN); k_dflt (refine' take_c (by k_asm) (by k_asm) (by k_asm) (news_pick2 kN (by tb_start) (by tb_start)) (by k_asm) (by first | exact rfl | assumption) (by ktr_room) (by ktr_units) (by k_ne) (by k_all) (by kba_ints) (by omega) (by omega) (by omega) (by omega) (by omega) ?_; k_whole); intro _ _ _ _ _ _ _ _ _ _; (try clear kN); (try k_sweep))
  k_with "call ref" =>
    ((with_reducible show wpAny _ _ (call (Value.ref 156) _) _ _ _); (rename News _ _ _ _ => kN); k_dflt (refine' skip_line_end_c (by k_asm) (by k_asm) (by k_asm) (news_pick2 kN (by tb_start) (by tb_start)) (by k_asm) (by first | exact rfl | assumption) (by ktr_room) (by ktr_units) (by k_ne) (by k_all) (by kba_ints) (by omega) (by omega) (by omega) (by omega) ?_; k_whole); intro _ _ _ _ _ _ _ _ _; (try clear kN); (rename_i hb' _ _); subst hb'; (try k_sweep))
  k_with "call ref" =>
    ((with_reducible show wpAny _ _ (call (Value.ref 128) [_, Value.bytes #[60, 60] _]) _ _ _); (rename News _ _ _ _ => kN); k_dflt (refine' starts_lt_c (by k_asm) (by k_asm) (by k_asm) (news_pick2 kN (by tb_start) (by tb_start)) (by k_asm) (by first | exact rfl | assumption) (by ktr_room) (by ktr_units) (by k_ne) (by k_all) (by kba_ints) (by omega) (by omega) (by omega) (by omega) (by assumption) ?_; k_whole); intro _ _ _ _; (try clear kN); (try k_sweep))
  k_with "call ref" =>
    ((with_reducible show wpAny _ _ (call (Value.ref 135) [_, Value.bytes #[60, 60] _]) _ _ _); (rename News _ _ _ _ => kN); k_dflt (refine' skip_lt_c (by k_asm) (by k_asm) (by k_asm) (news_pick2 kN (by tb_start) (by tb_start)) (by k_asm) (by first | exact rfl | assumption) (by ktr_room) (by ktr_units) (by k_ne) (by k_all) (by kba_ints) (by omega) (by omega) (by omega) (by omega) (by assumption) ?_; k_whole); intro _ _ _ _; (try clear kN); (try k_sweep))
  refine wpAny_call ?_
  k_dflt (refine' code_def (binds := [((Str.ofString "self"), .ref c), ((Str.ofString "word"), .bytes #[62, 62] tw)]) ?k1 ?k2 ?k3 ?k4 ?k5 ?kA ?kF ?kK ?k6 ?k7 ?k8 ?k9 ?kB ?_ ?c2 ?c3 ?c4 ?c5; (case kA => exact rfl); (case kF => exact rfl); (case kK => assumption); (case k1 => k_asm); (case k2 => k_asm); (case k3 => k_asm); (case k4 => k_asm); (case k5 => k_asm); (case k6 => k_is); (case k7 => k_is); (case k8 => ktr_room); (case k9 => first | exact BindsTo.of_eq rfl | exact binds_K (by k_in) rfl (by k_is) rfl rfl rfl); (case c5 => decide); (case kB => exact locs rfl); (case c2 => exact rfl); (case c3 => exact rfl); (case c4 => exact rfl))
  k_whole
  intro g' L' h' FG' F' N' B' X' T'
  (try dsimp only [List.reverse_cons, List.reverse_nil, List.nil_append, List.cons_append]); (try k_fold)
  k_steps
  · have e : ((KBy.picked data (some ps) (some (ps + ↑#[(62 : UInt8), 62].size))).toList == [62, 62]) = false := starts_no (w := 62) hks h0 (by assumption) h2 hno
    rw [e]; exact hQ _ _ (by assumption) (by assumption)
  · rw [decide_eq_false (by assumption)]; exact hQ _ _ (by assumption) (by assumption)
theorem skip_gt_c {w : World} {dp un : Nat} {gd : Option (List Code)} {cn : Str} {cs : Scope} {a : Addr} {ccd : Value} {cl : List (Str × Addr)} {outer : List Env} {A₀ : Around} {base h₀ : Heap} {L : Addr} {m : Str → Option Value} {s : Shared} {Q E : Value → Shared → Prop} {mg mb : Str → Option Value} {mean : ExcName → Option Value} {loose : List Str} {c d : Addr} {H1 H2 H3 : Int} {t1 t2 t3 t4 t5 t6 : Tok} {data : Array UInt8} {ps en : Int} {ks : List Int} {rest : List (Addr × Obj)} {tw : Tok}
  (B : Below A₀ base outer h₀) (F : Fr h₀ L s.heap m) (X : (Mine.hd.heap_1 w.params).In h₀) (N : News h₀ L s.heap ((d, dictOf [⟨H1, .str (Str.ofString "data") t1, .bytes data t4⟩, ⟨H2, .str (Str.ofString "at") t2, .int ps t5⟩, ⟨H3, .str (Str.ofString "end") t3, .int en t6⟩] 3) :: (c, instObj 187 d) :: rest)) (T : Top Mine.view loose mean mg mb h₀) (hk : cs.kind = .function) (hd : dp + 16 < recursionLimit) (hu : un + 200 < cLine) (hcd : c ≠ d) (hne : ∀ p ∈ rest, p.1 ≠ d) (hks : KBw.bInts data = ks) (h0 : 0 ≤ ps) (h1 : ps ≤ en) (h2 : en ≤ (ks.length : Int)) (h3 : ks.length ≤ 100000) (hno : ¬ (pk ks ps en = 62 ∧ pk ks (ps + 1) en = 62))
  (hQ : ∀ h' tk', Fr h₀ L h' m → News h₀ L h' ((d, dictOf [⟨H1, .str (Str.ofString "data") t1, .bytes data t4⟩, ⟨H2, .str (Str.ofString "at") t2, .int ps t5⟩, ⟨H3, .str (Str.ofString "end") t3, .int en t6⟩] 3) :: (c, instObj 187 d) :: rest) → Q (.bool false) { s with heap := h', toks := tk' }) :
  wpAny (model Challenge.rw_nn0223_01.row.prog w) (ktrTop dp un gd cn cs L a ccd cl outer) (call (.ref 135) [.ref c, .bytes #[62, 62] tw]) Q E s := by
  k_with_none
  w_top off
  k_with "MyPost" =>
    (dsimp only [MyPost])
  k_with "eval Call" =>
    ((with_reducible show wpAny _ _ (eval (Expr.Call (Expr.Name _ _) _ [] _) _) _ _ _); k_dflt (refine Call_ ?_))
  k_with "eval Call Attribute" =>
    ((with_reducible show wpAny _ _ (eval (Expr.Call (Expr.Attribute _ _ _) _ [] _) _) _ _ _); k_dflt (refine MethodCall_ ?_))
  k_with "compareOp In int ref" =>
    ((with_reducible show wpAny _ _ (compareOp CmpOp.In (Value.int _ _) (Value.ref 62)) _ _ _); refine in_tuple_ints (ns := [0, 9, 10, 12, 13, 32]) (tupK (Frag.In.keeps (by k_asm) (Fr.keep (by k_asm))) (by k_is)) (by repeat constructor) ?_)
  k_with "compareOp NotIn int ref" =>
    ((with_reducible show wpAny _ _ (compareOp CmpOp.NotIn (Value.int _ _) (Value.ref 62)) _ _ _); refine notin_tuple_ints (ns := [0, 9, 10, 12, 13, 32]) (tupK (Frag.In.keeps (by k_asm) (Fr.keep (by k_asm))) (by k_is)) (by repeat constructor) ?_)
  k_with "compareOp NotIn int ref" =>
    ((with_reducible show wpAny _ _ (compareOp CmpOp.NotIn (Value.int _ _) (Value.ref 63)) _ _ _); refine notin_tuple_ints (ns := [40, 41, 60, 62, 91, 93, 123, 125, 47, 37]) (tupK (Frag.In.keeps (by k_asm) (Fr.keep (by k_asm))) (by k_is)) (by repeat constructor) ?_)
  k_with "compareOp In int ref" =>
    ((with_reducible show wpAny _ _ (compareOp CmpOp.In (Value.int _ _) (Value.ref 304)) _ _ _); refine in_tuple_ints (ns := [91, 93, 123, 125]) (tupK (Frag.In.keeps (by k_asm) (Fr.keep (by k_asm))) (by k_is)) (by repeat constructor) ?_)
  k_with "call ref" =>
    ((with_reducible show wpAny _ _ (call (Value.ref 70) _) _ _ _); (rename News _ _ _ _ => kN); k_dflt (refine' is_white_c (by k_asm) (by k_asm) (by k_asm) kN (by k_asm) (by first | exact rfl | assumption) (by ktr_room) (by ktr_units)  ?_; k_whole); intro _ _ _ _; (try clear kN); (try k_sweep))
  k_with "call ref" =>
    ((with_reducible show wpAny _ _ (call (Value.ref 77) _) _ _ _); (rename News _ _ _ _ => kN); k_dflt (refine' is_regular_c (by k_asm) (by k_asm) (by k_asm) kN (by k_asm) (by first | exact rfl | assumption) (by ktr_room) (by ktr_units)  ?_; k_whole); intro _ _ _ _; (try clear kN); (try k_sweep))
  k_with "call ref" =>
    ((with_reducible show wpAny _ _ (call (Value.ref 311) _) _ _ _); (rename News _ _ _ _ => kN); k_dflt (refine' hex_worth_c (by k_asm) (by k_asm) (by k_asm) kN (by k_asm) (by first | exact rfl | assumption) (by ktr_room) (by ktr_units) (by omega) (by omega) ?_; k_whole); intro _ _ _ _ _ _ _ _; (try clear kN); (try k_sweep))
  k_with "call ref" =>
    ((with_reducible show wpAny _ _ (call (Value.ref 318) _) _ _ _); (rename News _ _ _ _ => kN); k_dflt (refine' plain_escape_c (by k_asm) (by k_asm) (by k_asm) kN (by k_asm) (by first | exact rfl | assumption) (by ktr_room) (by ktr_units)  ?_; k_whole); intro _ _ _ _ _ _ _; (try clear kN); (try k_sweep))
  k_with "call ref" =>
    ((with_reducible show wpAny _ _ (call (Value.ref 106) _) _ _ _); (rename News _ _ _ _ => kN); k_dflt (refine' is_done_c (by k_asm) (by k_asm) (by k_asm) (news_pick2 kN (by tb_start) (by tb_start)) (by k_asm) (by first | exact rfl | assumption) (by ktr_room) (by ktr_units) (by k_ne) (by k_all) (by kba_ints) (by omega) (by omega) (by omega) (by omega) ?_; k_whole); intro _ _ _ _; (try clear kN); (try k_sweep))
  k_with "call ref" =>
    ((with_reducible show wpAny _ _ (call (Value.ref 114) _) _ _ _); (rename News _ _ _ _ => kN); k_dflt (refine' peek_c (by k_asm) (by k_asm) (by k_asm) (news_pick2 kN (by tb_start) (by tb_start)) (by k_asm) (by first | exact rfl | assumption) (by ktr_room) (by ktr_units) (by k_ne) (by k_all) (by kba_ints) (by omega) (by omega) (by omega) (by omega) ?_; k_whole); intro _ _ _ _ _ _ _ _ _ _; (try clear kN); (try k_sweep))
  k_with "call ref" =>
    ((with_reducible show wpAny _ _ (call (Value.ref 121) _) _ _ _); (rename News _ _ _ _ => kN); k_dflt (refine' take_c (by k_asm) (by k_asm) (by k_asm) (news_pick2 kN (by tb_start) (by tb_start)) (by k_asm) (by first | exact rfl | assumption) (by ktr_room) (by ktr_units) (by k_ne) (by k_all) (by kba_ints) (by omega) (by omega) (by omega) (by omega) (by omega) ?_; k_whole); intro _ _ _ _ _ _ _ _ _ _; (try clear kN); (try k_sweep))
  k_with "call ref" =>
    ((with_reducible show wpAny _ _ (call (Value.ref 156) _) _ _ _); (rename News _ _ _ _ => kN); k_dflt (refine' skip_line_end_c (by k_asm) (by k_asm) (by k_asm) (news_pick2 kN (by tb_start) (by tb_start)) (by k_asm) (by first | exact rfl | assumption) (by ktr_room) (by ktr_units) (by k_ne) (by k_all) (by kba_ints) (by omega) (by omega) (by omega) (by omega) ?_; k_whole); intro _ _ _ _ _ _ _ _ _; (try clear kN); (rename_i hb' _ _); subst hb'; (try k_sweep))
  k_with "call ref" =>
    ((with_reducible show wpAny _ _ (call (Value.ref 128) [_, Value.bytes #[60, 60] _]) _ _ _); (rename News _ _ _ _ => kN); k_dflt (refine' starts_lt_c (by k_asm) (by k_asm) (by k_asm) (news_pick2 kN (by tb_start) (by tb_start)) (by k_asm) (by first | exact rfl | assumption) (by ktr_room) (by ktr_units) (by k_ne) (by k_all) (by kba_ints) (by omega) (by omega) (by omega) (by omega) (by assumption) ?_; k_whole); intro _ _ _ _; (try clear kN); (try k_sweep))
  k_with "call ref" =>
    ((with_reducible show wpAny _ _ (call (Value.ref 135) [_, Value.bytes #[60, 60] _]) _ _ _); (rename News _ _ _ _ => kN); k_dflt (refine' skip_lt_c (by k_asm) (by k_asm) (by k_asm) (news_pick2 kN (by tb_start) (by tb_start)) (by k_asm) (by first | exact rfl | assumption) (by ktr_room) (by ktr_units) (by k_ne) (by k_all) (by kba_ints) (by omega) (by omega) (by omega) (by omega) (by assumption) ?_; k_whole); intro _ _ _ _; (try clear kN); (try k_sweep))
  k_with "call ref" =>
    ((with_reducible show wpAny _ _ (call (Value.ref 128) [_, Value.bytes #[62, 62] _]) _ _ _); (rename News _ _ _ _ => kN); k_dflt (refine' starts_gt_c (by k_asm) (by k_asm) (by k_asm) (news_pick2 kN (by tb_start) (by tb_start)) (by k_asm) (by first | exact rfl | assumption) (by ktr_room) (by ktr_units) (by k_ne) (by k_all) (by kba_ints) (by omega) (by omega) (by omega) (by omega) (by assumption) ?_; k_whole); intro _ _ _ _; (try clear kN); (try k_sweep))
  refine wpAny_call ?_
  k_dflt (refine' code_def (binds := [((Str.ofString "self"), .ref c), ((Str.ofString "word"), .bytes #[62, 62] tw)]) ?k1 ?k2 ?k3 ?k4 ?k5 ?kA ?kF ?kK ?k6 ?k7 ?k8 ?k9 ?kB ?_ ?c2 ?c3 ?c4 ?c5; (case kA => exact rfl); (case kF => exact rfl); (case kK => assumption); (case k1 => k_asm); (case k2 => k_asm); (case k3 => k_asm); (case k4 => k_asm); (case k5 => k_asm); (case k6 => k_is); (case k7 => k_is); (case k8 => ktr_room); (case k9 => first | exact BindsTo.of_eq rfl | exact binds_K (by k_in) rfl (by k_is) rfl rfl rfl); (case c5 => decide); (case kB => exact locs rfl); (case c2 => exact rfl); (case c3 => exact rfl); (case c4 => exact rfl))
  k_whole
  intro g' L' h' FG' F' N' B' X' T'
  (try dsimp only [List.reverse_cons, List.reverse_nil, List.nil_append, List.cons_append]); (try k_fold)
  k_steps
  exact hQ _ _ (by assumption) (by assumption)
theorem skip_white_c {w : World} {dp un : Nat} {gd : Option (List Code)} {cn : Str} {cs : Scope} {a : Addr} {ccd : Value} {cl : List (Str × Addr)} {outer : List Env} {A₀ : Around} {base h₀ : Heap} {L : Addr} {m : Str → Option Value} {s : Shared} {Q E : Value → Shared → Prop} {mg mb : Str → Option Value} {mean : ExcName → Option Value} {loose : List Str} {c d : Addr} {H1 H2 H3 : Int} {t1 t2 t3 t4 t5 t6 : Tok} {data : Array UInt8} {ps en : Int} {ks : List Int} {rest : List (Addr × Obj)}
  (B : Below A₀ base outer h₀) (F : Fr h₀ L s.heap m) (X : (Mine.hd.heap_1 w.params).In h₀) (N : News h₀ L s.heap ((d, dictOf [⟨H1, .str (Str.ofString "data") t1, .bytes data t4⟩, ⟨H2, .str (Str.ofString "at") t2, .int ps t5⟩, ⟨H3, .str (Str.ofString "end") t3, .int en t6⟩] 3) :: (c, instObj 187 d) :: rest)) (T : Top Mine.view loose mean mg mb h₀) (hk : cs.kind = .function) (hd : dp + 16 < recursionLimit) (hu : un + 200 < cLine) (hcd : c ≠ d) (hne : ∀ p ∈ rest, p.1 ≠ d) (hks : KBw.bInts data = ks) (h0 : 0 ≤ ps) (h1 : ps ≤ en) (h2 : en ≤ (ks.length : Int)) (h3 : ks.length ≤ 100000)
  (hQ : ∀ p' t' h' tk', rem ks p' en = swL false (rem ks ps en) → ps ≤ p' → p' ≤ en → Fr h₀ L h' m → News h₀ L h' ((d, dictOf [⟨H1, .str (Str.ofString "data") t1, .bytes data t4⟩, ⟨H2, .str (Str.ofString "at") t2, .int p' t'⟩, ⟨H3, .str (Str.ofString "end") t3, .int en t6⟩] 3) :: (c, instObj 187 d) :: rest) → Q .none { s with heap := h', toks := tk' }) :
  wpAny (model Challenge.rw_nn0223_01.row.prog w) (ktrTop dp un gd cn cs L a ccd cl outer) (call (.ref 142) [.ref c]) Q E s := by
  k_with_none
  w_top off
  k_with "MyPost" =>
    (dsimp only [MyPost])
  k_with "eval Call" =>
    ((with_reducible show wpAny _ _ (eval (Expr.Call (Expr.Name _ _) _ [] _) _) _ _ _); k_dflt (refine Call_ ?_))
  k_with "eval Call Attribute" =>
    ((with_reducible show wpAny _ _ (eval (Expr.Call (Expr.Attribute _ _ _) _ [] _) _) _ _ _); k_dflt (refine MethodCall_ ?_))
  k_with "compareOp In int ref" =>
    ((with_reducible show wpAny _ _ (compareOp CmpOp.In (Value.int _ _) (Value.ref 62)) _ _ _); refine in_tuple_ints (ns := [0, 9, 10, 12, 13, 32]) (tupK (Frag.In.keeps (by k_asm) (Fr.keep (by k_asm))) (by k_is)) (by repeat constructor) ?_)
  k_with "compareOp NotIn int ref" =>
    ((with_reducible show wpAny _ _ (compareOp CmpOp.NotIn (Value.int _ _) (Value.ref 62)) _ _ _); refine notin_tuple_ints (ns := [0, 9, 10, 12, 13, 32]) (tupK (Frag.In.keeps (by k_asm) (Fr.keep (by k_asm))) (by k_is)) (by repeat constructor) ?_)
  k_with "compareOp NotIn int ref" =>
    ((with_reducible show wpAny _ _ (compareOp CmpOp.NotIn (Value.int _ _) (Value.ref 63)) _ _ _); refine notin_tuple_ints (ns := [40, 41, 60, 62, 91, 93, 123, 125, 47, 37]) (tupK (Frag.In.keeps (by k_asm) (Fr.keep (by k_asm))) (by k_is)) (by repeat constructor) ?_)
  k_with "compareOp In int ref" =>
    ((with_reducible show wpAny _ _ (compareOp CmpOp.In (Value.int _ _) (Value.ref 304)) _ _ _); refine in_tuple_ints (ns := [91, 93, 123, 125]) (tupK (Frag.In.keeps (by k_asm) (Fr.keep (by k_asm))) (by k_is)) (by repeat constructor) ?_)
  k_with "call ref" =>
    ((with_reducible show wpAny _ _ (call (Value.ref 70) _) _ _ _); (rename News _ _ _ _ => kN); k_dflt (refine' is_white_c (by k_asm) (by k_asm) (by k_asm) kN (by k_asm) (by first | exact rfl | assumption) (by ktr_room) (by ktr_units)  ?_; k_whole); intro _ _ _ _; (try clear kN); (try k_sweep))
  k_with "call ref" =>
    ((with_reducible show wpAny _ _ (call (Value.ref 77) _) _ _ _); (rename News _ _ _ _ => kN); k_dflt (refine' is_regular_c (by k_asm) (by k_asm) (by k_asm) kN (by k_asm) (by first | exact rfl | assumption) (by ktr_room) (by ktr_units)  ?_; k_whole); intro _ _ _ _; (try clear kN); (try k_sweep))
  k_with "call ref" =>
    ((with_reducible show wpAny _ _ (call (Value.ref 311) _) _ _ _); (rename News _ _ _ _ => kN); k_dflt (refine' hex_worth_c (by k_asm) (by k_asm) (by k_asm) kN (by k_asm) (by first | exact rfl | assumption) (by ktr_room) (by ktr_units) (by omega) (by omega) ?_; k_whole); intro _ _ _ _ _ _ _ _; (try clear kN); (try k_sweep))
  k_with "call ref" =>
    ((with_reducible show wpAny _ _ (call (Value.ref 318) _) _ _ _); (rename News _ _ _ _ => kN); k_dflt (refine' plain_escape_c (by k_asm) (by k_asm) (by k_asm) kN (by k_asm) (by first | exact rfl | assumption) (by ktr_room) (by ktr_units)  ?_; k_whole); intro _ _ _ _ _ _ _; (try clear kN); (try k_sweep))
  k_with "call ref" =>
    ((with_reducible show wpAny _ _ (call (Value.ref 106) _) _ _ _); (rename News _ _ _ _ => kN); k_dflt (refine' is_done_c (by k_asm) (by k_asm) (by k_asm) (news_pick2 kN (by tb_start) (by tb_start)) (by k_asm) (by first | exact rfl | assumption) (by ktr_room) (by ktr_units) (by k_ne) (by k_all) (by kba_ints) (by omega) (by omega) (by omega) (by omega) ?_; k_whole); intro _ _ _ _; (try clear kN); (try k_sweep))
  k_with "call ref" =>
    ((with_reducible show wpAny _ _ (call (Value.ref 114) _) _ _ _); (rename News _ _ _ _ => kN); k_dflt (refine' peek_c (by k_asm) (by k_asm) (by k_asm) (news_pick2 kN (by tb_start) (by tb_start)) (by k_asm) (by first | exact rfl | assumption) (by ktr_room) (by ktr_units) (by k_ne) (by k_all) (by kba_ints) (by omega) (by omega) (by omega) (by omega) ?_; k_whole); intro _ _ _ _ _ _ _ _ _ _; (try clear kN); (try k_sweep))
  k_with "call ref" =>
    ((with_reducible show wpAny _ _ (call (Value.ref 121) _) _ _ _); (rename News _ _ _ _ => kN); k_dflt (refine' take_c (by k_asm) (by k_asm) (by k_asm) (news_pick2 kN (by tb_start) (by tb_start)) (by k_asm) (by first | exact rfl | assumption) (by ktr_room) (by ktr_units) (by k_ne) (by k_all) (by kba_ints) (by omega) (by omega) (by omega) (by omega) (by omega) ?_; k_whole); intro _ _ _ _ _ _ _ _ _ _; (try clear kN); (try k_sweep))
  k_with "call ref" =>
    ((with_reducible show wpAny _ _ (call (Value.ref 156) _) _ _ _); (rename News _ _ _ _ => kN); k_dflt (refine' skip_line_end_c (by k_asm) (by k_asm) (by k_asm) (news_pick2 kN (by tb_start) (by tb_start)) (by k_asm) (by first | exact rfl | assumption) (by ktr_room) (by ktr_units) (by k_ne) (by k_all) (by kba_ints) (by omega) (by omega) (by omega) (by omega) ?_; k_whole); intro _ _ _ _ _ _ _ _ _; (try clear kN); (rename_i hb' _ _); subst hb'; (try k_sweep))
  k_with "call ref" =>
    ((with_reducible show wpAny _ _ (call (Value.ref 128) [_, Value.bytes #[60, 60] _]) _ _ _); (rename News _ _ _ _ => kN); k_dflt (refine' starts_lt_c (by k_asm) (by k_asm) (by k_asm) (news_pick2 kN (by tb_start) (by tb_start)) (by k_asm) (by first | exact rfl | assumption) (by ktr_room) (by ktr_units) (by k_ne) (by k_all) (by kba_ints) (by omega) (by omega) (by omega) (by omega) (by assumption) ?_; k_whole); intro _ _ _ _; (try clear kN); (try k_sweep))
  k_with "call ref" =>
    ((with_reducible show wpAny _ _ (call (Value.ref 135) [_, Value.bytes #[60, 60] _]) _ _ _); (rename News _ _ _ _ => kN); k_dflt (refine' skip_lt_c (by k_asm) (by k_asm) (by k_asm) (news_pick2 kN (by tb_start) (by tb_start)) (by k_asm) (by first | exact rfl | assumption) (by ktr_room) (by ktr_units) (by k_ne) (by k_all) (by kba_ints) (by omega) (by omega) (by omega) (by omega) (by assumption) ?_; k_whole); intro _ _ _ _; (try clear kN); (try k_sweep))
  k_with "call ref" =>
    ((with_reducible show wpAny _ _ (call (Value.ref 128) [_, Value.bytes #[62, 62] _]) _ _ _); (rename News _ _ _ _ => kN); k_dflt (refine' starts_gt_c (by k_asm) (by k_asm) (by k_asm) (news_pick2 kN (by tb_start) (by tb_start)) (by k_asm) (by first | exact rfl | assumption) (by ktr_room) (by ktr_units) (by k_ne) (by k_all) (by kba_ints) (by omega) (by omega) (by omega) (by omega) (by assumption) ?_; k_whole); intro _ _ _ _; (try clear kN); (try k_sweep))
  k_with "call ref" =>
    ((with_reducible show wpAny _ _ (call (Value.ref 135) [_, Value.bytes #[62, 62] _]) _ _ _); (rename News _ _ _ _ => kN); k_dflt (refine' skip_gt_c (by k_asm) (by k_asm) (by k_asm) (news_pick2 kN (by tb_start) (by tb_start)) (by k_asm) (by first | exact rfl | assumption) (by ktr_room) (by ktr_units) (by k_ne) (by k_all) (by kba_ints) (by omega) (by omega) (by omega) (by omega) (by assumption) ?_; k_whole); intro _ _ _ _; (try clear kN); (try k_sweep))
  refine wpAny_call ?_
  k_dflt (refine' code_def (binds := [((Str.ofString "self"), .ref c)]) ?k1 ?k2 ?k3 ?k4 ?k5 ?kA ?kF ?kK ?k6 ?k7 ?k8 ?k9 ?kB ?_ ?c2 ?c3 ?c4 ?c5; (case kA => exact rfl); (case kF => exact rfl); (case kK => assumption); (case k1 => k_asm); (case k2 => k_asm); (case k3 => k_asm); (case k4 => k_asm); (case k5 => k_asm); (case k6 => k_is); (case k7 => k_is); (case k8 => ktr_room); (case k9 => first | exact BindsTo.of_eq rfl | exact binds_K (by k_in) rfl (by k_is) rfl rfl rfl); (case c5 => decide); (case kB => exact locs rfl); (case c2 => exact rfl); (case c3 => exact rfl); (case c4 => exact rfl))
  k_whole
  intro g' L' h' FG' F' N' B' X' T'
  (try dsimp only [List.reverse_cons, List.reverse_nil, List.nil_append, List.cons_append]); (try k_fold)
  k_with "exec While Compare" =>
    (rename Fr _ _ _ _ => lF'); (rename News _ _ _ _ => lN')
    with_unfolding_all refine' my_while (σ := Int × Tok) (fun x u y => if y = Str.ofString "code" then u else List.lookup y [(Str.ofString "self", Value.ref c)]) (fun x => (d, dictOf [⟨H1, .str (Str.ofString "data") t1, .bytes data t4⟩, ⟨H2, .str (Str.ofString "at") t2, .int x.1 x.2⟩, ⟨H3, .str (Str.ofString "end") t3, .int en t6⟩] 3) :: (c, instObj 187 d) :: rest) (fun x => ps ≤ x.1 ∧ x.1 ≤ en ∧ swL false (rem ks x.1 en) = swL false (rem ks ps en)) (fun x => (en - x.1).toNat) (ps, t5) none lF' lN' ?hm ?hn ?hp ?turn ?hE
    (case hE => passes_own)
    (case hm => tb_rel)
    (case hn => exact fun p hp => hp)
    (case hp => exact ⟨Int.le_refl _, h1, rfl⟩)
    rintro ⟨p, tp⟩ u h tk ⟨hp1, hp2, hp3⟩ lF lN
    (try clear lF' lN')
    dsimp only at lF lN hp1 hp2 hp3 ⊢
  k_with "exec While BoolOp" =>
    (rename Fr _ _ _ _ => lF'); (rename News _ _ _ _ => lN')
    (rename ks.getD p.toNat 0 = 37 => l37)
    with_unfolding_all refine' my_while (σ := Int × Tok) (fun x u y => if y = Str.ofString "code" then u else List.lookup y [(Str.ofString "self", Value.ref c)]) (fun x => (d, dictOf [⟨H1, .str (Str.ofString "data") t1, .bytes data t4⟩, ⟨H2, .str (Str.ofString "at") t2, .int x.1 x.2⟩, ⟨H3, .str (Str.ofString "end") t3, .int en t6⟩] 3) :: (c, instObj 187 d) :: rest) (fun x => p ≤ x.1 ∧ x.1 ≤ en ∧ (x.1 = p → ks.getD p.toNat 0 = 37) ∧ swL true (rem ks x.1 en) = swL false (rem ks ps en)) (fun x => (en - x.1).toNat) (p, tp) (some (.int (ks.getD p.toNat 0) _)) lF' lN' ?ihm ?ihn ?ihp ?iturn ?ihE
    (case ihE => passes_own)
    (case ihm => tb_rel)
    (case ihn => exact fun p hp => hp)
    (case ihp => exact ⟨Int.le_refl _, by omega, fun _ => l37, by rw [← hp3, rem_cons (by omega) (by assumption) h2, l37]; rfl⟩)
    rintro ⟨q, tq⟩ u h tk ⟨hq1, hq2, hq3, hq4⟩ lF lN
    (try clear lF' lN')
    dsimp only at lF lN hq1 hq2 hq3 hq4 ⊢
  k_steps
  · rename List.any _ _ = _ => ha
    have hpq : p ≠ q := fun e => by subst e; rw [l37] at ha; exact absurd ha (by decide)
    refine' my_end (q, _) _ ?eF ?eN ?em ?en ?ep ?eμ
    (case eF => assumption)
    (case eN => assumption)
    (case en => kcj_in)
    (case em => tb_rel)
    (case eμ => (dsimp only; omega))
    (case ep => exact ⟨by dsimp only; omega, by dsimp only; omega, by rw [← hq4, swT_line (by omega) (by assumption) h2 ha]⟩)
  · rename List.any _ _ = _ => ha
    refine' my_end (q + 1, _) _ ?eF ?eN ?em ?en ?ep ?eμ
    (case eF => assumption)
    (case eN => assumption)
    (case en => kcj_in)
    (case em => tb_rel)
    (case eμ => (dsimp only; omega))
    (case ep => exact ⟨by dsimp only; omega, by dsimp only; omega, fun e => by dsimp only at e; omega, by rw [← hq4, swT_go (by omega) (by assumption) h2 ha]⟩)
  · have hpq : p ≠ q := fun e => by omega
    refine' my_end (q, _) _ ?eF ?eN ?em ?en ?ep ?eμ
    (case eF => assumption)
    (case eN => assumption)
    (case en => kcj_in)
    (case em => tb_rel)
    (case eμ => (dsimp only; omega))
    (case ep => exact ⟨by dsimp only; omega, by dsimp only; omega, by rw [← hq4, sw_done (by omega), sw_done (by omega)]⟩)
  · rename List.any _ _ = _ => ha
    refine' my_end (p + 1, _) _ ?eF ?eN ?em ?en ?ep ?eμ
    (case eF => assumption)
    (case eN => assumption)
    (case en => kcj_in)
    (case em => tb_rel)
    (case eμ => (dsimp only; omega))
    (case ep => exact ⟨by dsimp only; omega, by dsimp only; omega, by rw [← hp3, sw_white (by omega) (by assumption) h2 (by assumption) ha]⟩)
  · exact hQ p _ _ _ (by rw [← hp3, sw_stop (by omega) (by assumption) h2 (by assumption) (by assumption)]) hp1 hp2 (by assumption) (by assumption)
  · exact hQ p _ _ _ (by rw [← hp3, sw_done (by omega)]) hp1 hp2 (by assumption) (by assumption)
theorem take_regular_c {w : World} {dp un : Nat} {gd : Option (List Code)} {cn : Str} {cs : Scope} {a : Addr} {ccd : Value} {cl : List (Str × Addr)} {outer : List Env} {A₀ : Around} {base h₀ : Heap} {L : Addr} {m : Str → Option Value} {s : Shared} {Q E : Value → Shared → Prop} {mg mb : Str → Option Value} {mean : ExcName → Option Value} {loose : List Str} {c d : Addr} {H1 H2 H3 : Int} {t1 t2 t3 t4 t5 t6 : Tok} {data : Array UInt8} {ps en : Int} {ks : List Int} {rest : List (Addr × Obj)}
  (B : Below A₀ base outer h₀) (F : Fr h₀ L s.heap m) (X : (Mine.hd.heap_1 w.params).In h₀) (N : News h₀ L s.heap ((d, dictOf [⟨H1, .str (Str.ofString "data") t1, .bytes data t4⟩, ⟨H2, .str (Str.ofString "at") t2, .int ps t5⟩, ⟨H3, .str (Str.ofString "end") t3, .int en t6⟩] 3) :: (c, instObj 187 d) :: rest)) (T : Top Mine.view loose mean mg mb h₀) (hk : cs.kind = .function) (hd : dp + 16 < recursionLimit) (hu : un + 200 < cLine) (hcd : c ≠ d) (hne : ∀ p ∈ rest, p.1 ≠ d) (hks : KBw.bInts data = ks) (h0 : 0 ≤ ps) (h1 : ps ≤ en) (h2 : en ≤ (ks.length : Int)) (h3 : ks.length ≤ 100000)
  (hQ : ∀ b t p' t' h' tk', KBw.bInts b = (rem ks ps en).takeWhile isRegular → ps ≤ p' → p' ≤ en → Fr h₀ L h' m → News h₀ L h' ((d, dictOf [⟨H1, .str (Str.ofString "data") t1, .bytes data t4⟩, ⟨H2, .str (Str.ofString "at") t2, .int p' t'⟩, ⟨H3, .str (Str.ofString "end") t3, .int en t6⟩] 3) :: (c, instObj 187 d) :: rest) → Q (.bytes b t) { s with heap := h', toks := tk' }) :
  wpAny (model Challenge.rw_nn0223_01.row.prog w) (ktrTop dp un gd cn cs L a ccd cl outer) (call (.ref 149) [.ref c]) Q E s := by
  k_with_none
  w_top off
  k_with "MyPost" =>
    (dsimp only [MyPost])
  k_with "eval Call" =>
    ((with_reducible show wpAny _ _ (eval (Expr.Call (Expr.Name _ _) _ [] _) _) _ _ _); k_dflt (refine Call_ ?_))
  k_with "eval Call Attribute" =>
    ((with_reducible show wpAny _ _ (eval (Expr.Call (Expr.Attribute _ _ _) _ [] _) _) _ _ _); k_dflt (refine MethodCall_ ?_))
  k_with "compareOp In int ref" =>
    ((with_reducible show wpAny _ _ (compareOp CmpOp.In (Value.int _ _) (Value.ref 62)) _ _ _); refine in_tuple_ints (ns := [0, 9, 10, 12, 13, 32]) (tupK (Frag.In.keeps (by k_asm) (Fr.keep (by k_asm))) (by k_is)) (by repeat constructor) ?_)
  k_with "compareOp NotIn int ref" =>
    ((with_reducible show wpAny _ _ (compareOp CmpOp.NotIn (Value.int _ _) (Value.ref 62)) _ _ _); refine notin_tuple_ints (ns := [0, 9, 10, 12, 13, 32]) (tupK (Frag.In.keeps (by k_asm) (Fr.keep (by k_asm))) (by k_is)) (by repeat constructor) ?_)
  k_with "compareOp NotIn int ref" =>
    ((with_reducible show wpAny _ _ (compareOp CmpOp.NotIn (Value.int _ _) (Value.ref 63)) _ _ _); refine notin_tuple_ints (ns := [40, 41, 60, 62, 91, 93, 123, 125, 47, 37]) (tupK (Frag.In.keeps (by k_asm) (Fr.keep (by k_asm))) (by k_is)) (by repeat constructor) ?_)
  k_with "compareOp In int ref" =>
    ((with_reducible show wpAny _ _ (compareOp CmpOp.In (Value.int _ _) (Value.ref 304)) _ _ _); refine in_tuple_ints (ns := [91, 93, 123, 125]) (tupK (Frag.In.keeps (by k_asm) (Fr.keep (by k_asm))) (by k_is)) (by repeat constructor) ?_)
  k_with "call ref" =>
    ((with_reducible show wpAny _ _ (call (Value.ref 70) _) _ _ _); (rename News _ _ _ _ => kN); k_dflt (refine' is_white_c (by k_asm) (by k_asm) (by k_asm) kN (by k_asm) (by first | exact rfl | assumption) (by ktr_room) (by ktr_units)  ?_; k_whole); intro _ _ _ _; (try clear kN); (try k_sweep))
  k_with "call ref" =>
    ((with_reducible show wpAny _ _ (call (Value.ref 77) _) _ _ _); (rename News _ _ _ _ => kN); k_dflt (refine' is_regular_c (by k_asm) (by k_asm) (by k_asm) kN (by k_asm) (by first | exact rfl | assumption) (by ktr_room) (by ktr_units)  ?_; k_whole); intro _ _ _ _; (try clear kN); (try k_sweep))
  k_with "call ref" =>
    ((with_reducible show wpAny _ _ (call (Value.ref 311) _) _ _ _); (rename News _ _ _ _ => kN); k_dflt (refine' hex_worth_c (by k_asm) (by k_asm) (by k_asm) kN (by k_asm) (by first | exact rfl | assumption) (by ktr_room) (by ktr_units) (by omega) (by omega) ?_; k_whole); intro _ _ _ _ _ _ _ _; (try clear kN); (try k_sweep))
  k_with "call ref" =>
    ((with_reducible show wpAny _ _ (call (Value.ref 318) _) _ _ _); (rename News _ _ _ _ => kN); k_dflt (refine' plain_escape_c (by k_asm) (by k_asm) (by k_asm) kN (by k_asm) (by first | exact rfl | assumption) (by ktr_room) (by ktr_units)  ?_; k_whole); intro _ _ _ _ _ _ _; (try clear kN); (try k_sweep))
  k_with "call ref" =>
    ((with_reducible show wpAny _ _ (call (Value.ref 106) _) _ _ _); (rename News _ _ _ _ => kN); k_dflt (refine' is_done_c (by k_asm) (by k_asm) (by k_asm) (news_pick2 kN (by tb_start) (by tb_start)) (by k_asm) (by first | exact rfl | assumption) (by ktr_room) (by ktr_units) (by k_ne) (by k_all) (by kba_ints) (by omega) (by omega) (by omega) (by omega) ?_; k_whole); intro _ _ _ _; (try clear kN); (try k_sweep))
  k_with "call ref" =>
    ((with_reducible show wpAny _ _ (call (Value.ref 114) _) _ _ _); (rename News _ _ _ _ => kN); k_dflt (refine' peek_c (by k_asm) (by k_asm) (by k_asm) (news_pick2 kN (by tb_start) (by tb_start)) (by k_asm) (by first | exact rfl | assumption) (by ktr_room) (by ktr_units) (by k_ne) (by k_all) (by kba_ints) (by omega) (by omega) (by omega) (by omega) ?_; k_whole); intro _ _ _ _ _ _ _ _ _ _; (try clear kN); (try k_sweep))
  k_with "call ref" =>
    ((with_reducible show wpAny _ _ (call (Value.ref 121) _) _ _ _); (rename News _ _ _ _ => kN); k_dflt (refine' take_c (by k_asm) (by k_asm) (by k_asm) (news_pick2 kN (by tb_start) (by tb_start)) (by k_asm) (by first | exact rfl | assumption) (by ktr_room) (by ktr_units) (by k_ne) (by k_all) (by kba_ints) (by omega) (by omega) (by omega) (by omega) (by omega) ?_; k_whole); intro _ _ _ _ _ _ _ _ _ _; (try clear kN); (try k_sweep))
  k_with "call ref" =>
    ((with_reducible show wpAny _ _ (call (Value.ref 156) _) _ _ _); (rename News _ _ _ _ => kN); k_dflt (refine' skip_line_end_c (by k_asm) (by k_asm) (by k_asm) (news_pick2 kN (by tb_start) (by tb_start)) (by k_asm) (by first | exact rfl | assumption) (by ktr_room) (by ktr_units) (by k_ne) (by k_all) (by kba_ints) (by omega) (by omega) (by omega) (by omega) ?_; k_whole); intro _ _ _ _ _ _ _ _ _; (try clear kN); (rename_i hb' _ _); subst hb'; (try k_sweep))
  k_with "call ref" =>
    ((with_reducible show wpAny _ _ (call (Value.ref 128) [_, Value.bytes #[60, 60] _]) _ _ _); (rename News _ _ _ _ => kN); k_dflt (refine' starts_lt_c (by k_asm) (by k_asm) (by k_asm) (news_pick2 kN (by tb_start) (by tb_start)) (by k_asm) (by first | exact rfl | assumption) (by ktr_room) (by ktr_units) (by k_ne) (by k_all) (by kba_ints) (by omega) (by omega) (by omega) (by omega) (by assumption) ?_; k_whole); intro _ _ _ _; (try clear kN); (try k_sweep))
  k_with "call ref" =>
    ((with_reducible show wpAny _ _ (call (Value.ref 135) [_, Value.bytes #[60, 60] _]) _ _ _); (rename News _ _ _ _ => kN); k_dflt (refine' skip_lt_c (by k_asm) (by k_asm) (by k_asm) (news_pick2 kN (by tb_start) (by tb_start)) (by k_asm) (by first | exact rfl | assumption) (by ktr_room) (by ktr_units) (by k_ne) (by k_all) (by kba_ints) (by omega) (by omega) (by omega) (by omega) (by assumption) ?_; k_whole); intro _ _ _ _; (try clear kN); (try k_sweep))
  k_with "call ref" =>
    ((with_reducible show wpAny _ _ (call (Value.ref 128) [_, Value.bytes #[62, 62] _]) _ _ _); (rename News _ _ _ _ => kN); k_dflt (refine' starts_gt_c (by k_asm) (by k_asm) (by k_asm) (news_pick2 kN (by tb_start) (by tb_start)) (by k_asm) (by first | exact rfl | assumption) (by ktr_room) (by ktr_units) (by k_ne) (by k_all) (by kba_ints) (by omega) (by omega) (by omega) (by omega) (by assumption) ?_; k_whole); intro _ _ _ _; (try clear kN); (try k_sweep))
  k_with "call ref" =>
    ((with_reducible show wpAny _ _ (call (Value.ref 135) [_, Value.bytes #[62, 62] _]) _ _ _); (rename News _ _ _ _ => kN); k_dflt (refine' skip_gt_c (by k_asm) (by k_asm) (by k_asm) (news_pick2 kN (by tb_start) (by tb_start)) (by k_asm) (by first | exact rfl | assumption) (by ktr_room) (by ktr_units) (by k_ne) (by k_all) (by kba_ints) (by omega) (by omega) (by omega) (by omega) (by assumption) ?_; k_whole); intro _ _ _ _; (try clear kN); (try k_sweep))
  k_with "call ref" =>
    ((with_reducible show wpAny _ _ (call (Value.ref 142) _) _ _ _); (rename News _ _ _ _ => kN); k_dflt (refine' skip_white_c (by k_asm) (by k_asm) (by k_asm) (news_pick2 kN (by tb_start) (by tb_start)) (by k_asm) (by first | exact rfl | assumption) (by ktr_room) (by ktr_units) (by k_ne) (by k_all) (by kba_ints) (by omega) (by omega) (by omega) (by omega) ?_; k_whole); intro _ _ _ _ _ _ _ _ _; (try clear kN); (try k_sweep))
  refine wpAny_call ?_
  k_dflt (refine' code_def (binds := [((Str.ofString "self"), .ref c)]) ?k1 ?k2 ?k3 ?k4 ?k5 ?kA ?kF ?kK ?k6 ?k7 ?k8 ?k9 ?kB ?_ ?c2 ?c3 ?c4 ?c5; (case kA => exact rfl); (case kF => exact rfl); (case kK => assumption); (case k1 => k_asm); (case k2 => k_asm); (case k3 => k_asm); (case k4 => k_asm); (case k5 => k_asm); (case k6 => k_is); (case k7 => k_is); (case k8 => ktr_room); (case k9 => first | exact BindsTo.of_eq rfl | exact binds_K (by k_in) rfl (by k_is) rfl rfl rfl); (case c5 => decide); (case kB => exact locs rfl); (case c2 => exact rfl); (case c3 => exact rfl); (case c4 => exact rfl))
  k_whole
  intro g' L' h' FG' F' N' B' X' T'
  (try dsimp only [List.reverse_cons, List.reverse_nil, List.nil_append, List.cons_append]); (try k_fold)
  k_with "exec While BoolOp" =>
    (rename Fr _ _ _ _ => lF'); (rename News _ _ _ _ => lN')
    with_unfolding_all refine' my_while (σ := Int × Tok) (fun x u y => if y = Str.ofString "first" then some (.int ps ?tc) else List.lookup y [(Str.ofString "self", Value.ref c)]) (fun x => (d, dictOf [⟨H1, .str (Str.ofString "data") t1, .bytes data t4⟩, ⟨H2, .str (Str.ofString "at") t2, .int x.1 x.2⟩, ⟨H3, .str (Str.ofString "end") t3, .int en t6⟩] 3) :: (c, instObj 187 d) :: rest) (fun x => ps ≤ x.1 ∧ x.1 ≤ en ∧ ∀ i : Int, ps ≤ i → i < x.1 → isRegular (ks.getD i.toNat 0) = true) (fun x => (en - x.1).toNat) (ps, t5) none lF' lN' ?hm ?hn ?hp ?turn ?hE
    (case hE => passes_own)
    (case hm => tb_rel)
    (case hn => exact fun p hp => hp)
    (case hp => exact ⟨Int.le_refl _, h1, fun i _ _ => by omega⟩)
    rintro ⟨p, tp⟩ u h tk ⟨hp1, hp2, hp3⟩ lF lN
    (try clear lF' lN')
    dsimp only at lF lN hp1 hp2 hp3 ⊢
  k_steps
  · skip
    refine' my_end (p + 1, _) none ?eF ?eN ?em ?en ?ep ?eμ
    (case eF => assumption)
    (case eN => assumption)
    (case en => kcj_in)
    (case em => tb_rel)
    (case eμ => (dsimp only; omega))
    (case ep => exact ⟨by dsimp only; omega, by dsimp only; omega, fun i a b => (if e : i = p then (by rw [e]; assumption) else hp3 i a (by dsimp only at b; omega))⟩)
  · rename isRegular _ = false => hb
    exact hQ _ _ p _ _ _ (by rw [cut_ints hks (by omega) (by omega) (by omega), takeWhile_run (p := p) (by omega) (by omega) (by omega) h2 hp3 (fun _ => hb)]) hp1 hp2 (by assumption) (by assumption)
  · exact hQ _ _ p _ _ _ (by rw [cut_ints hks (by omega) (by omega) (by omega), takeWhile_run (p := p) (by omega) (by omega) (by omega) h2 hp3 (fun h => absurd h (by assumption))]) hp1 hp2 (by assumption) (by assumption)
theorem cursor1_c {w : World} {dp un : Nat} {gd : Option (List Code)} {cn : Str} {cs : Scope} {a : Addr} {ccd : Value} {cl : List (Str × Addr)} {outer : List Env} {A₀ : Around} {base h₀ : Heap} {L : Addr} {m : Str → Option Value} {s : Shared} {Q E : Value → Shared → Prop} {mg mb : Str → Option Value} {mean : ExcName → Option Value} {loose : List Str} {data : Array UInt8} {at_ e_ : Int} {u1 u2 u3 : Tok} {rest : List (Addr × Obj)}
  (B : Below A₀ base outer h₀) (F : Fr h₀ L s.heap m) (X : (Mine.hd.heap_1 w.params).In h₀) (N : News h₀ L s.heap (rest)) (T : Top Mine.view loose mean mg mb h₀) (hk : cs.kind = .function) (hd : dp + 8 < recursionLimit) (hu : un + 100 < cLine) (hz : data.size ≤ 100000) 
  (hQ : ∀ c d H1 H2 H3 k1 k2 k3 t4 t5 t6 h' tk', d < c → AllLt d rest → AllLt c rest → Fr h₀ L h' m → News h₀ L h' ((d, dictOf [⟨H1, .str (Str.ofString "data") k1, .bytes data t4⟩, ⟨H2, .str (Str.ofString "at") k2, .int 0 t5⟩, ⟨H3, .str (Str.ofString "end") k3, .int data.size t6⟩] 3) :: (c, instObj 187 d) :: rest) → Q (.ref c) { s with heap := h', toks := tk' }) :
  wpAny (model Challenge.rw_nn0223_01.row.prog w) (ktrTop dp un gd cn cs L a ccd cl outer) (call (.ref 187) [.bytes data u1]) Q E s := by
  k_with_none
  w_top off
  k_with "MyPost" =>
    (dsimp only [MyPost])
  k_with "eval Call" =>
    ((with_reducible show wpAny _ _ (eval (Expr.Call (Expr.Name _ _) _ [] _) _) _ _ _); k_dflt (refine Call_ ?_))
  k_with "eval Call Attribute" =>
    ((with_reducible show wpAny _ _ (eval (Expr.Call (Expr.Attribute _ _ _) _ [] _) _) _ _ _); k_dflt (refine MethodCall_ ?_))
  k_with "compareOp In int ref" =>
    ((with_reducible show wpAny _ _ (compareOp CmpOp.In (Value.int _ _) (Value.ref 62)) _ _ _); refine in_tuple_ints (ns := [0, 9, 10, 12, 13, 32]) (tupK (Frag.In.keeps (by k_asm) (Fr.keep (by k_asm))) (by k_is)) (by repeat constructor) ?_)
  k_with "compareOp NotIn int ref" =>
    ((with_reducible show wpAny _ _ (compareOp CmpOp.NotIn (Value.int _ _) (Value.ref 62)) _ _ _); refine notin_tuple_ints (ns := [0, 9, 10, 12, 13, 32]) (tupK (Frag.In.keeps (by k_asm) (Fr.keep (by k_asm))) (by k_is)) (by repeat constructor) ?_)
  k_with "compareOp NotIn int ref" =>
    ((with_reducible show wpAny _ _ (compareOp CmpOp.NotIn (Value.int _ _) (Value.ref 63)) _ _ _); refine notin_tuple_ints (ns := [40, 41, 60, 62, 91, 93, 123, 125, 47, 37]) (tupK (Frag.In.keeps (by k_asm) (Fr.keep (by k_asm))) (by k_is)) (by repeat constructor) ?_)
  k_with "compareOp In int ref" =>
    ((with_reducible show wpAny _ _ (compareOp CmpOp.In (Value.int _ _) (Value.ref 304)) _ _ _); refine in_tuple_ints (ns := [91, 93, 123, 125]) (tupK (Frag.In.keeps (by k_asm) (Fr.keep (by k_asm))) (by k_is)) (by repeat constructor) ?_)
  k_with "call ref" =>
    ((with_reducible show wpAny _ _ (call (Value.ref 70) _) _ _ _); (rename News _ _ _ _ => kN); k_dflt (refine' is_white_c (by k_asm) (by k_asm) (by k_asm) kN (by k_asm) (by first | exact rfl | assumption) (by ktr_room) (by ktr_units)  ?_; k_whole); intro _ _ _ _; (try clear kN); (try k_sweep))
  k_with "call ref" =>
    ((with_reducible show wpAny _ _ (call (Value.ref 77) _) _ _ _); (rename News _ _ _ _ => kN); k_dflt (refine' is_regular_c (by k_asm) (by k_asm) (by k_asm) kN (by k_asm) (by first | exact rfl | assumption) (by ktr_room) (by ktr_units)  ?_; k_whole); intro _ _ _ _; (try clear kN); (try k_sweep))
  k_with "call ref" =>
    ((with_reducible show wpAny _ _ (call (Value.ref 311) _) _ _ _); (rename News _ _ _ _ => kN); k_dflt (refine' hex_worth_c (by k_asm) (by k_asm) (by k_asm) kN (by k_asm) (by first | exact rfl | assumption) (by ktr_room) (by ktr_units) (by omega) (by omega) ?_; k_whole); intro _ _ _ _ _ _ _ _; (try clear kN); (try k_sweep))
  k_with "call ref" =>
    ((with_reducible show wpAny _ _ (call (Value.ref 318) _) _ _ _); (rename News _ _ _ _ => kN); k_dflt (refine' plain_escape_c (by k_asm) (by k_asm) (by k_asm) kN (by k_asm) (by first | exact rfl | assumption) (by ktr_room) (by ktr_units)  ?_; k_whole); intro _ _ _ _ _ _ _; (try clear kN); (try k_sweep))
  k_with "call ref" =>
    ((with_reducible show wpAny _ _ (call (Value.ref 106) _) _ _ _); (rename News _ _ _ _ => kN); k_dflt (refine' is_done_c (by k_asm) (by k_asm) (by k_asm) (news_pick2 kN (by tb_start) (by tb_start)) (by k_asm) (by first | exact rfl | assumption) (by ktr_room) (by ktr_units) (by k_ne) (by k_all) (by kba_ints) (by omega) (by omega) (by omega) (by omega) ?_; k_whole); intro _ _ _ _; (try clear kN); (try k_sweep))
  k_with "call ref" =>
    ((with_reducible show wpAny _ _ (call (Value.ref 114) _) _ _ _); (rename News _ _ _ _ => kN); k_dflt (refine' peek_c (by k_asm) (by k_asm) (by k_asm) (news_pick2 kN (by tb_start) (by tb_start)) (by k_asm) (by first | exact rfl | assumption) (by ktr_room) (by ktr_units) (by k_ne) (by k_all) (by kba_ints) (by omega) (by omega) (by omega) (by omega) ?_; k_whole); intro _ _ _ _ _ _ _ _ _ _; (try clear kN); (try k_sweep))
  k_with "call ref" =>
    ((with_reducible show wpAny _ _ (call (Value.ref 121) _) _ _ _); (rename News _ _ _ _ => kN); k_dflt (refine' take_c (by k_asm) (by k_asm) (by k_asm) (news_pick2 kN (by tb_start) (by tb_start)) (by k_asm) (by first | exact rfl | assumption) (by ktr_room) (by ktr_units) (by k_ne) (by k_all) (by kba_ints) (by omega) (by omega) (by omega) (by omega) (by omega) ?_; k_whole); intro _ _ _ _ _ _ _ _ _ _; (try clear kN); (try k_sweep))
  k_with "call ref" =>
    ((with_reducible show wpAny _ _ (call (Value.ref 156) _) _ _ _); (rename News _ _ _ _ => kN); k_dflt (refine' skip_line_end_c (by k_asm) (by k_asm) (by k_asm) (news_pick2 kN (by tb_start) (by tb_start)) (by k_asm) (by first | exact rfl | assumption) (by ktr_room) (by ktr_units) (by k_ne) (by k_all) (by kba_ints) (by omega) (by omega) (by omega) (by omega) ?_; k_whole); intro _ _ _ _ _ _ _ _ _; (try clear kN); (rename_i hb' _ _); subst hb'; (try k_sweep))
  k_with "call ref" =>
    ((with_reducible show wpAny _ _ (call (Value.ref 128) [_, Value.bytes #[60, 60] _]) _ _ _); (rename News _ _ _ _ => kN); k_dflt (refine' starts_lt_c (by k_asm) (by k_asm) (by k_asm) (news_pick2 kN (by tb_start) (by tb_start)) (by k_asm) (by first | exact rfl | assumption) (by ktr_room) (by ktr_units) (by k_ne) (by k_all) (by kba_ints) (by omega) (by omega) (by omega) (by omega) (by assumption) ?_; k_whole); intro _ _ _ _; (try clear kN); (try k_sweep))
  k_with "call ref" =>
    ((with_reducible show wpAny _ _ (call (Value.ref 135) [_, Value.bytes #[60, 60] _]) _ _ _); (rename News _ _ _ _ => kN); k_dflt (refine' skip_lt_c (by k_asm) (by k_asm) (by k_asm) (news_pick2 kN (by tb_start) (by tb_start)) (by k_asm) (by first | exact rfl | assumption) (by ktr_room) (by ktr_units) (by k_ne) (by k_all) (by kba_ints) (by omega) (by omega) (by omega) (by omega) (by assumption) ?_; k_whole); intro _ _ _ _; (try clear kN); (try k_sweep))
  k_with "call ref" =>
    ((with_reducible show wpAny _ _ (call (Value.ref 128) [_, Value.bytes #[62, 62] _]) _ _ _); (rename News _ _ _ _ => kN); k_dflt (refine' starts_gt_c (by k_asm) (by k_asm) (by k_asm) (news_pick2 kN (by tb_start) (by tb_start)) (by k_asm) (by first | exact rfl | assumption) (by ktr_room) (by ktr_units) (by k_ne) (by k_all) (by kba_ints) (by omega) (by omega) (by omega) (by omega) (by assumption) ?_; k_whole); intro _ _ _ _; (try clear kN); (try k_sweep))
  k_with "call ref" =>
    ((with_reducible show wpAny _ _ (call (Value.ref 135) [_, Value.bytes #[62, 62] _]) _ _ _); (rename News _ _ _ _ => kN); k_dflt (refine' skip_gt_c (by k_asm) (by k_asm) (by k_asm) (news_pick2 kN (by tb_start) (by tb_start)) (by k_asm) (by first | exact rfl | assumption) (by ktr_room) (by ktr_units) (by k_ne) (by k_all) (by kba_ints) (by omega) (by omega) (by omega) (by omega) (by assumption) ?_; k_whole); intro _ _ _ _; (try clear kN); (try k_sweep))
  k_with "call ref" =>
    ((with_reducible show wpAny _ _ (call (Value.ref 142) _) _ _ _); (rename News _ _ _ _ => kN); k_dflt (refine' skip_white_c (by k_asm) (by k_asm) (by k_asm) (news_pick2 kN (by tb_start) (by tb_start)) (by k_asm) (by first | exact rfl | assumption) (by ktr_room) (by ktr_units) (by k_ne) (by k_all) (by kba_ints) (by omega) (by omega) (by omega) (by omega) ?_; k_whole); intro _ _ _ _ _ _ _ _ _; (try clear kN); (try k_sweep))
  k_with "call ref" =>
    ((with_reducible show wpAny _ _ (call (Value.ref 149) _) _ _ _); (rename News _ _ _ _ => kN); k_dflt (refine' take_regular_c (by k_asm) (by k_asm) (by k_asm) (news_pick2 kN (by tb_start) (by tb_start)) (by k_asm) (by first | exact rfl | assumption) (by ktr_room) (by ktr_units) (by k_ne) (by k_all) (by kba_ints) (by omega) (by omega) (by omega) (by omega) ?_; k_whole); intro _ _ _ _ _ _ _ _ _ _ _; (try clear kN); (try k_sweep))
  k_dflt (refine' call_cls ?kF ?kX ?kN ?km ?ki ?kf ?_; (case kF => k_asm); (case kX => k_asm); (case kN => k_asm); (case km => k_is); (case ki => k_is); (case kf => k_is))
  intro x dx h₁ F₁ N₁ hlt hlt2
  replace N₁ : News h₀ L h₁ ((dx, dictOf [] 0) :: (x, instObj 187 dx) :: rest) := news_sub N₁ (by kcj_in)
  have hxd : x ≠ dx := Nat.ne_of_gt hlt2
  have hlA : AllLt dx rest := allLt_of hlt
  have hlB : AllLt x rest := allLt_trans (Nat.le_of_lt hlt2) hlA
  have hlC : ∀ p ∈ rest, p.1 ≠ dx := ne_of_allLt hlA
  k_dflt (refine' code_def (binds := [((Str.ofString "self"), .ref x), ((Str.ofString "data"), .bytes data u1), ((Str.ofString "at"), .int 0 313), ((Str.ofString "end"), .int (-1) 315)]) ?k1 F₁ ?k3 N₁ ?k5 ?kA ?kFF ?kK ?k6 ?k7 ?k8 ?k9 ?kB ?_ ?c2 ?c3 ?c4 ?c5; (case kA => exact rfl); (case kFF => exact rfl); (case kK => assumption); (case k1 => k_asm); (case k3 => k_asm); (case k5 => k_asm); (case k6 => k_is); (case k7 => k_is); (case k8 => ktr_room); (case k9 => first | exact BindsTo.of_eq rfl | exact binds_K (by k_in) rfl (by k_is) rfl rfl rfl); (case c5 => decide); (case kB => exact locs rfl); (case c2 => exact rfl); (case c3 => exact rfl); (case c4 => exact rfl))
  intro g' L' h' FG' F' N' B' X' T'
  (try dsimp only [List.reverse_cons, List.reverse_nil, List.nil_append, List.cons_append]); (try k_fold)
  k_steps
  exact hQ _ _ _ _ _ _ _ _ _ _ _ _ _ hlt2 hlA hlB (by assumption) (news_sub (by assumption) (by kcj_in))
theorem cursor2_c {w : World} {dp un : Nat} {gd : Option (List Code)} {cn : Str} {cs : Scope} {a : Addr} {ccd : Value} {cl : List (Str × Addr)} {outer : List Env} {A₀ : Around} {base h₀ : Heap} {L : Addr} {m : Str → Option Value} {s : Shared} {Q E : Value → Shared → Prop} {mg mb : Str → Option Value} {mean : ExcName → Option Value} {loose : List Str} {data : Array UInt8} {at_ e_ : Int} {u1 u2 u3 : Tok} {rest : List (Addr × Obj)}
  (B : Below A₀ base outer h₀) (F : Fr h₀ L s.heap m) (X : (Mine.hd.heap_1 w.params).In h₀) (N : News h₀ L s.heap (rest)) (T : Top Mine.view loose mean mg mb h₀) (hk : cs.kind = .function) (hd : dp + 8 < recursionLimit) (hu : un + 100 < cLine) (hz : data.size ≤ 100000) 
  (hQ : ∀ c d H1 H2 H3 k1 k2 k3 t4 t5 t6 h' tk', d < c → AllLt d rest → AllLt c rest → Fr h₀ L h' m → News h₀ L h' ((d, dictOf [⟨H1, .str (Str.ofString "data") k1, .bytes data t4⟩, ⟨H2, .str (Str.ofString "at") k2, .int at_ t5⟩, ⟨H3, .str (Str.ofString "end") k3, .int data.size t6⟩] 3) :: (c, instObj 187 d) :: rest) → Q (.ref c) { s with heap := h', toks := tk' }) :
  wpAny (model Challenge.rw_nn0223_01.row.prog w) (ktrTop dp un gd cn cs L a ccd cl outer) (call (.ref 187) [.bytes data u1, .int at_ u2]) Q E s := by
  k_with_none
  w_top off
  k_with "MyPost" =>
    (dsimp only [MyPost])
  k_with "eval Call" =>
    ((with_reducible show wpAny _ _ (eval (Expr.Call (Expr.Name _ _) _ [] _) _) _ _ _); k_dflt (refine Call_ ?_))
  k_with "eval Call Attribute" =>
    ((with_reducible show wpAny _ _ (eval (Expr.Call (Expr.Attribute _ _ _) _ [] _) _) _ _ _); k_dflt (refine MethodCall_ ?_))
  k_with "compareOp In int ref" =>
    ((with_reducible show wpAny _ _ (compareOp CmpOp.In (Value.int _ _) (Value.ref 62)) _ _ _); refine in_tuple_ints (ns := [0, 9, 10, 12, 13, 32]) (tupK (Frag.In.keeps (by k_asm) (Fr.keep (by k_asm))) (by k_is)) (by repeat constructor) ?_)
  k_with "compareOp NotIn int ref" =>
    ((with_reducible show wpAny _ _ (compareOp CmpOp.NotIn (Value.int _ _) (Value.ref 62)) _ _ _); refine notin_tuple_ints (ns := [0, 9, 10, 12, 13, 32]) (tupK (Frag.In.keeps (by k_asm) (Fr.keep (by k_asm))) (by k_is)) (by repeat constructor) ?_)
  k_with "compareOp NotIn int ref" =>
    ((with_reducible show wpAny _ _ (compareOp CmpOp.NotIn (Value.int _ _) (Value.ref 63)) _ _ _); refine notin_tuple_ints (ns := [40, 41, 60, 62, 91, 93, 123, 125, 47, 37]) (tupK (Frag.In.keeps (by k_asm) (Fr.keep (by k_asm))) (by k_is)) (by repeat constructor) ?_)
  k_with "compareOp In int ref" =>
    ((with_reducible show wpAny _ _ (compareOp CmpOp.In (Value.int _ _) (Value.ref 304)) _ _ _); refine in_tuple_ints (ns := [91, 93, 123, 125]) (tupK (Frag.In.keeps (by k_asm) (Fr.keep (by k_asm))) (by k_is)) (by repeat constructor) ?_)
  k_with "call ref" =>
    ((with_reducible show wpAny _ _ (call (Value.ref 70) _) _ _ _); (rename News _ _ _ _ => kN); k_dflt (refine' is_white_c (by k_asm) (by k_asm) (by k_asm) kN (by k_asm) (by first | exact rfl | assumption) (by ktr_room) (by ktr_units)  ?_; k_whole); intro _ _ _ _; (try clear kN); (try k_sweep))
  k_with "call ref" =>
    ((with_reducible show wpAny _ _ (call (Value.ref 77) _) _ _ _); (rename News _ _ _ _ => kN); k_dflt (refine' is_regular_c (by k_asm) (by k_asm) (by k_asm) kN (by k_asm) (by first | exact rfl | assumption) (by ktr_room) (by ktr_units)  ?_; k_whole); intro _ _ _ _; (try clear kN); (try k_sweep))
  k_with "call ref" =>
    ((with_reducible show wpAny _ _ (call (Value.ref 311) _) _ _ _); (rename News _ _ _ _ => kN); k_dflt (refine' hex_worth_c (by k_asm) (by k_asm) (by k_asm) kN (by k_asm) (by first | exact rfl | assumption) (by ktr_room) (by ktr_units) (by omega) (by omega) ?_; k_whole); intro _ _ _ _ _ _ _ _; (try clear kN); (try k_sweep))
  k_with "call ref" =>
    ((with_reducible show wpAny _ _ (call (Value.ref 318) _) _ _ _); (rename News _ _ _ _ => kN); k_dflt (refine' plain_escape_c (by k_asm) (by k_asm) (by k_asm) kN (by k_asm) (by first | exact rfl | assumption) (by ktr_room) (by ktr_units)  ?_; k_whole); intro _ _ _ _ _ _ _; (try clear kN); (try k_sweep))
  k_with "call ref" =>
    ((with_reducible show wpAny _ _ (call (Value.ref 106) _) _ _ _); (rename News _ _ _ _ => kN); k_dflt (refine' is_done_c (by k_asm) (by k_asm) (by k_asm) (news_pick2 kN (by tb_start) (by tb_start)) (by k_asm) (by first | exact rfl | assumption) (by ktr_room) (by ktr_units) (by k_ne) (by k_all) (by kba_ints) (by omega) (by omega) (by omega) (by omega) ?_; k_whole); intro _ _ _ _; (try clear kN); (try k_sweep))
  k_with "call ref" =>
    ((with_reducible show wpAny _ _ (call (Value.ref 114) _) _ _ _); (rename News _ _ _ _ => kN); k_dflt (refine' peek_c (by k_asm) (by k_asm) (by k_asm) (news_pick2 kN (by tb_start) (by tb_start)) (by k_asm) (by first | exact rfl | assumption) (by ktr_room) (by ktr_units) (by k_ne) (by k_all) (by kba_ints) (by omega) (by omega) (by omega) (by omega) ?_; k_whole); intro _ _ _ _ _ _ _ _ _ _; (try clear kN); (try k_sweep))
  k_with "call ref" =>
    ((with_reducible show wpAny _ _ (call (Value.ref 121) _) _ _ _); (rename News _ _ _ _ => kN); k_dflt (refine' take_c (by k_asm) (by k_asm) (by k_asm) (news_pick2 kN (by tb_start) (by tb_start)) (by k_asm) (by first | exact rfl | assumption) (by ktr_room) (by ktr_units) (by k_ne) (by k_all) (by kba_ints) (by omega) (by omega) (by omega) (by omega) (by omega) ?_; k_whole); intro _ _ _ _ _ _ _ _ _ _; (try clear kN); (try k_sweep))
  k_with "call ref" =>
    ((with_reducible show wpAny _ _ (call (Value.ref 156) _) _ _ _); (rename News _ _ _ _ => kN); k_dflt (refine' skip_line_end_c (by k_asm) (by k_asm) (by k_asm) (news_pick2 kN (by tb_start) (by tb_start)) (by k_asm) (by first | exact rfl | assumption) (by ktr_room) (by ktr_units) (by k_ne) (by k_all) (by kba_ints) (by omega) (by omega) (by omega) (by omega) ?_; k_whole); intro _ _ _ _ _ _ _ _ _; (try clear kN); (rename_i hb' _ _); subst hb'; (try k_sweep))
  k_with "call ref" =>
    ((with_reducible show wpAny _ _ (call (Value.ref 128) [_, Value.bytes #[60, 60] _]) _ _ _); (rename News _ _ _ _ => kN); k_dflt (refine' starts_lt_c (by k_asm) (by k_asm) (by k_asm) (news_pick2 kN (by tb_start) (by tb_start)) (by k_asm) (by first | exact rfl | assumption) (by ktr_room) (by ktr_units) (by k_ne) (by k_all) (by kba_ints) (by omega) (by omega) (by omega) (by omega) (by assumption) ?_; k_whole); intro _ _ _ _; (try clear kN); (try k_sweep))
  k_with "call ref" =>
    ((with_reducible show wpAny _ _ (call (Value.ref 135) [_, Value.bytes #[60, 60] _]) _ _ _); (rename News _ _ _ _ => kN); k_dflt (refine' skip_lt_c (by k_asm) (by k_asm) (by k_asm) (news_pick2 kN (by tb_start) (by tb_start)) (by k_asm) (by first | exact rfl | assumption) (by ktr_room) (by ktr_units) (by k_ne) (by k_all) (by kba_ints) (by omega) (by omega) (by omega) (by omega) (by assumption) ?_; k_whole); intro _ _ _ _; (try clear kN); (try k_sweep))
  k_with "call ref" =>
    ((with_reducible show wpAny _ _ (call (Value.ref 128) [_, Value.bytes #[62, 62] _]) _ _ _); (rename News _ _ _ _ => kN); k_dflt (refine' starts_gt_c (by k_asm) (by k_asm) (by k_asm) (news_pick2 kN (by tb_start) (by tb_start)) (by k_asm) (by first | exact rfl | assumption) (by ktr_room) (by ktr_units) (by k_ne) (by k_all) (by kba_ints) (by omega) (by omega) (by omega) (by omega) (by assumption) ?_; k_whole); intro _ _ _ _; (try clear kN); (try k_sweep))
  k_with "call ref" =>
    ((with_reducible show wpAny _ _ (call (Value.ref 135) [_, Value.bytes #[62, 62] _]) _ _ _); (rename News _ _ _ _ => kN); k_dflt (refine' skip_gt_c (by k_asm) (by k_asm) (by k_asm) (news_pick2 kN (by tb_start) (by tb_start)) (by k_asm) (by first | exact rfl | assumption) (by ktr_room) (by ktr_units) (by k_ne) (by k_all) (by kba_ints) (by omega) (by omega) (by omega) (by omega) (by assumption) ?_; k_whole); intro _ _ _ _; (try clear kN); (try k_sweep))
  k_with "call ref" =>
    ((with_reducible show wpAny _ _ (call (Value.ref 142) _) _ _ _); (rename News _ _ _ _ => kN); k_dflt (refine' skip_white_c (by k_asm) (by k_asm) (by k_asm) (news_pick2 kN (by tb_start) (by tb_start)) (by k_asm) (by first | exact rfl | assumption) (by ktr_room) (by ktr_units) (by k_ne) (by k_all) (by kba_ints) (by omega) (by omega) (by omega) (by omega) ?_; k_whole); intro _ _ _ _ _ _ _ _ _; (try clear kN); (try k_sweep))
  k_with "call ref" =>
    ((with_reducible show wpAny _ _ (call (Value.ref 149) _) _ _ _); (rename News _ _ _ _ => kN); k_dflt (refine' take_regular_c (by k_asm) (by k_asm) (by k_asm) (news_pick2 kN (by tb_start) (by tb_start)) (by k_asm) (by first | exact rfl | assumption) (by ktr_room) (by ktr_units) (by k_ne) (by k_all) (by kba_ints) (by omega) (by omega) (by omega) (by omega) ?_; k_whole); intro _ _ _ _ _ _ _ _ _ _ _; (try clear kN); (try k_sweep))
  k_dflt (refine' call_cls ?kF ?kX ?kN ?km ?ki ?kf ?_; (case kF => k_asm); (case kX => k_asm); (case kN => k_asm); (case km => k_is); (case ki => k_is); (case kf => k_is))
  intro x dx h₁ F₁ N₁ hlt hlt2
  replace N₁ : News h₀ L h₁ ((dx, dictOf [] 0) :: (x, instObj 187 dx) :: rest) := news_sub N₁ (by kcj_in)
  have hxd : x ≠ dx := Nat.ne_of_gt hlt2
  have hlA : AllLt dx rest := allLt_of hlt
  have hlB : AllLt x rest := allLt_trans (Nat.le_of_lt hlt2) hlA
  have hlC : ∀ p ∈ rest, p.1 ≠ dx := ne_of_allLt hlA
  k_dflt (refine' code_def (binds := [((Str.ofString "self"), .ref x), ((Str.ofString "data"), .bytes data u1), ((Str.ofString "at"), .int at_ u2), ((Str.ofString "end"), .int (-1) 315)]) ?k1 F₁ ?k3 N₁ ?k5 ?kA ?kFF ?kK ?k6 ?k7 ?k8 ?k9 ?kB ?_ ?c2 ?c3 ?c4 ?c5; (case kA => exact rfl); (case kFF => exact rfl); (case kK => assumption); (case k1 => k_asm); (case k3 => k_asm); (case k5 => k_asm); (case k6 => k_is); (case k7 => k_is); (case k8 => ktr_room); (case k9 => first | exact BindsTo.of_eq rfl | exact binds_K (by k_in) rfl (by k_is) rfl rfl rfl); (case c5 => decide); (case kB => exact locs rfl); (case c2 => exact rfl); (case c3 => exact rfl); (case c4 => exact rfl))
  intro g' L' h' FG' F' N' B' X' T'
  (try dsimp only [List.reverse_cons, List.reverse_nil, List.nil_append, List.cons_append]); (try k_fold)
  k_steps
  exact hQ _ _ _ _ _ _ _ _ _ _ _ _ _ hlt2 hlA hlB (by assumption) (news_sub (by assumption) (by kcj_in))
theorem cursor3_c {w : World} {dp un : Nat} {gd : Option (List Code)} {cn : Str} {cs : Scope} {a : Addr} {ccd : Value} {cl : List (Str × Addr)} {outer : List Env} {A₀ : Around} {base h₀ : Heap} {L : Addr} {m : Str → Option Value} {s : Shared} {Q E : Value → Shared → Prop} {mg mb : Str → Option Value} {mean : ExcName → Option Value} {loose : List Str} {data : Array UInt8} {at_ e_ : Int} {u1 u2 u3 : Tok} {rest : List (Addr × Obj)}
  (B : Below A₀ base outer h₀) (F : Fr h₀ L s.heap m) (X : (Mine.hd.heap_1 w.params).In h₀) (N : News h₀ L s.heap (rest)) (T : Top Mine.view loose mean mg mb h₀) (hk : cs.kind = .function) (hd : dp + 8 < recursionLimit) (hu : un + 100 < cLine) (hz : data.size ≤ 100000) (he0 : 0 ≤ e_) (he1 : e_ ≤ data.size)
  (hQ : ∀ c d H1 H2 H3 k1 k2 k3 t4 t5 t6 h' tk', d < c → AllLt d rest → AllLt c rest → Fr h₀ L h' m → News h₀ L h' ((d, dictOf [⟨H1, .str (Str.ofString "data") k1, .bytes data t4⟩, ⟨H2, .str (Str.ofString "at") k2, .int at_ t5⟩, ⟨H3, .str (Str.ofString "end") k3, .int e_ t6⟩] 3) :: (c, instObj 187 d) :: rest) → Q (.ref c) { s with heap := h', toks := tk' }) :
  wpAny (model Challenge.rw_nn0223_01.row.prog w) (ktrTop dp un gd cn cs L a ccd cl outer) (call (.ref 187) [.bytes data u1, .int at_ u2, .int e_ u3]) Q E s := by
  k_with_none
  w_top off
  k_with "MyPost" =>
    (dsimp only [MyPost])
  k_with "eval Call" =>
    ((with_reducible show wpAny _ _ (eval (Expr.Call (Expr.Name _ _) _ [] _) _) _ _ _); k_dflt (refine Call_ ?_))
  k_with "eval Call Attribute" =>
    ((with_reducible show wpAny _ _ (eval (Expr.Call (Expr.Attribute _ _ _) _ [] _) _) _ _ _); k_dflt (refine MethodCall_ ?_))
  k_with "compareOp In int ref" =>
    ((with_reducible show wpAny _ _ (compareOp CmpOp.In (Value.int _ _) (Value.ref 62)) _ _ _); refine in_tuple_ints (ns := [0, 9, 10, 12, 13, 32]) (tupK (Frag.In.keeps (by k_asm) (Fr.keep (by k_asm))) (by k_is)) (by repeat constructor) ?_)
  k_with "compareOp NotIn int ref" =>
    ((with_reducible show wpAny _ _ (compareOp CmpOp.NotIn (Value.int _ _) (Value.ref 62)) _ _ _); refine notin_tuple_ints (ns := [0, 9, 10, 12, 13, 32]) (tupK (Frag.In.keeps (by k_asm) (Fr.keep (by k_asm))) (by k_is)) (by repeat constructor) ?_)
  k_with "compareOp NotIn int ref" =>
    ((with_reducible show wpAny _ _ (compareOp CmpOp.NotIn (Value.int _ _) (Value.ref 63)) _ _ _); refine notin_tuple_ints (ns := [40, 41, 60, 62, 91, 93, 123, 125, 47, 37]) (tupK (Frag.In.keeps (by k_asm) (Fr.keep (by k_asm))) (by k_is)) (by repeat constructor) ?_)
  k_with "compareOp In int ref" =>
    ((with_reducible show wpAny _ _ (compareOp CmpOp.In (Value.int _ _) (Value.ref 304)) _ _ _); refine in_tuple_ints (ns := [91, 93, 123, 125]) (tupK (Frag.In.keeps (by k_asm) (Fr.keep (by k_asm))) (by k_is)) (by repeat constructor) ?_)
  k_with "call ref" =>
    ((with_reducible show wpAny _ _ (call (Value.ref 70) _) _ _ _); (rename News _ _ _ _ => kN); k_dflt (refine' is_white_c (by k_asm) (by k_asm) (by k_asm) kN (by k_asm) (by first | exact rfl | assumption) (by ktr_room) (by ktr_units)  ?_; k_whole); intro _ _ _ _; (try clear kN); (try k_sweep))
  k_with "call ref" =>
    ((with_reducible show wpAny _ _ (call (Value.ref 77) _) _ _ _); (rename News _ _ _ _ => kN); k_dflt (refine' is_regular_c (by k_asm) (by k_asm) (by k_asm) kN (by k_asm) (by first | exact rfl | assumption) (by ktr_room) (by ktr_units)  ?_; k_whole); intro _ _ _ _; (try clear kN); (try k_sweep))
  k_with "call ref" =>
    ((with_reducible show wpAny _ _ (call (Value.ref 311) _) _ _ _); (rename News _ _ _ _ => kN); k_dflt (refine' hex_worth_c (by k_asm) (by k_asm) (by k_asm) kN (by k_asm) (by first | exact rfl | assumption) (by ktr_room) (by ktr_units) (by omega) (by omega) ?_; k_whole); intro _ _ _ _ _ _ _ _; (try clear kN); (try k_sweep))
  k_with "call ref" =>
    ((with_reducible show wpAny _ _ (call (Value.ref 318) _) _ _ _); (rename News _ _ _ _ => kN); k_dflt (refine' plain_escape_c (by k_asm) (by k_asm) (by k_asm) kN (by k_asm) (by first | exact rfl | assumption) (by ktr_room) (by ktr_units)  ?_; k_whole); intro _ _ _ _ _ _ _; (try clear kN); (try k_sweep))
  k_with "call ref" =>
    ((with_reducible show wpAny _ _ (call (Value.ref 106) _) _ _ _); (rename News _ _ _ _ => kN); k_dflt (refine' is_done_c (by k_asm) (by k_asm) (by k_asm) (news_pick2 kN (by tb_start) (by tb_start)) (by k_asm) (by first | exact rfl | assumption) (by ktr_room) (by ktr_units) (by k_ne) (by k_all) (by kba_ints) (by omega) (by omega) (by omega) (by omega) ?_; k_whole); intro _ _ _ _; (try clear kN); (try k_sweep))
  k_with "call ref" =>
    ((with_reducible show wpAny _ _ (call (Value.ref 114) _) _ _ _); (rename News _ _ _ _ => kN); k_dflt (refine' peek_c (by k_asm) (by k_asm) (by k_asm) (news_pick2 kN (by tb_start) (by tb_start)) (by k_asm) (by first | exact rfl | assumption) (by ktr_room) (by ktr_units) (by k_ne) (by k_all) (by kba_ints) (by omega) (by omega) (by omega) (by omega) ?_; k_whole); intro _ _ _ _ _ _ _ _ _ _; (try clear kN); (try k_sweep))
  k_with "call ref" =>
    ((with_reducible show wpAny _ _ (call (Value.ref 121) _) _ _ _); (rename News _ _ _ _ => kN); k_dflt (refine' take_c (by k_asm) (by k_asm) (by k_asm) (news_pick2 kN (by tb_start) (by tb_start)) (by k_asm) (by first | exact rfl | assumption) (by ktr_room) (by ktr_units) (by k_ne) (by k_all) (by kba_ints) (by omega) (by omega) (by omega) (by omega) (by omega) ?_; k_whole); intro _ _ _ _ _ _ _ _ _ _; (try clear kN); (try k_sweep))
  k_with "call ref" =>
    ((with_reducible show wpAny _ _ (call (Value.ref 156) _) _ _ _); (rename News _ _ _ _ => kN); k_dflt (refine' skip_line_end_c (by k_asm) (by k_asm) (by k_asm) (news_pick2 kN (by tb_start) (by tb_start)) (by k_asm) (by first | exact rfl | assumption) (by ktr_room) (by ktr_units) (by k_ne) (by k_all) (by kba_ints) (by omega) (by omega) (by omega) (by omega) ?_; k_whole); intro _ _ _ _ _ _ _ _ _; (try clear kN); (rename_i hb' _ _); subst hb'; (try k_sweep))
  k_with "call ref" =>
    ((with_reducible show wpAny _ _ (call (Value.ref 128) [_, Value.bytes #[60, 60] _]) _ _ _); (rename News _ _ _ _ => kN); k_dflt (refine' starts_lt_c (by k_asm) (by k_asm) (by k_asm) (news_pick2 kN (by tb_start) (by tb_start)) (by k_asm) (by first | exact rfl | assumption) (by ktr_room) (by ktr_units) (by k_ne) (by k_all) (by kba_ints) (by omega) (by omega) (by omega) (by omega) (by assumption) ?_; k_whole); intro _ _ _ _; (try clear kN); (try k_sweep))
  k_with "call ref" =>
    ((with_reducible show wpAny _ _ (call (Value.ref 135) [_, Value.bytes #[60, 60] _]) _ _ _); (rename News _ _ _ _ => kN); k_dflt (refine' skip_lt_c (by k_asm) (by k_asm) (by k_asm) (news_pick2 kN (by tb_start) (by tb_start)) (by k_asm) (by first | exact rfl | assumption) (by ktr_room) (by ktr_units) (by k_ne) (by k_all) (by kba_ints) (by omega) (by omega) (by omega) (by omega) (by assumption) ?_; k_whole); intro _ _ _ _; (try clear kN); (try k_sweep))
  k_with "call ref" =>
    ((with_reducible show wpAny _ _ (call (Value.ref 128) [_, Value.bytes #[62, 62] _]) _ _ _); (rename News _ _ _ _ => kN); k_dflt (refine' starts_gt_c (by k_asm) (by k_asm) (by k_asm) (news_pick2 kN (by tb_start) (by tb_start)) (by k_asm) (by first | exact rfl | assumption) (by ktr_room) (by ktr_units) (by k_ne) (by k_all) (by kba_ints) (by omega) (by omega) (by omega) (by omega) (by assumption) ?_; k_whole); intro _ _ _ _; (try clear kN); (try k_sweep))
  k_with "call ref" =>
    ((with_reducible show wpAny _ _ (call (Value.ref 135) [_, Value.bytes #[62, 62] _]) _ _ _); (rename News _ _ _ _ => kN); k_dflt (refine' skip_gt_c (by k_asm) (by k_asm) (by k_asm) (news_pick2 kN (by tb_start) (by tb_start)) (by k_asm) (by first | exact rfl | assumption) (by ktr_room) (by ktr_units) (by k_ne) (by k_all) (by kba_ints) (by omega) (by omega) (by omega) (by omega) (by assumption) ?_; k_whole); intro _ _ _ _; (try clear kN); (try k_sweep))
  k_with "call ref" =>
    ((with_reducible show wpAny _ _ (call (Value.ref 142) _) _ _ _); (rename News _ _ _ _ => kN); k_dflt (refine' skip_white_c (by k_asm) (by k_asm) (by k_asm) (news_pick2 kN (by tb_start) (by tb_start)) (by k_asm) (by first | exact rfl | assumption) (by ktr_room) (by ktr_units) (by k_ne) (by k_all) (by kba_ints) (by omega) (by omega) (by omega) (by omega) ?_; k_whole); intro _ _ _ _ _ _ _ _ _; (try clear kN); (try k_sweep))
  k_with "call ref" =>
    ((with_reducible show wpAny _ _ (call (Value.ref 149) _) _ _ _); (rename News _ _ _ _ => kN); k_dflt (refine' take_regular_c (by k_asm) (by k_asm) (by k_asm) (news_pick2 kN (by tb_start) (by tb_start)) (by k_asm) (by first | exact rfl | assumption) (by ktr_room) (by ktr_units) (by k_ne) (by k_all) (by kba_ints) (by omega) (by omega) (by omega) (by omega) ?_; k_whole); intro _ _ _ _ _ _ _ _ _ _ _; (try clear kN); (try k_sweep))
  k_dflt (refine' call_cls ?kF ?kX ?kN ?km ?ki ?kf ?_; (case kF => k_asm); (case kX => k_asm); (case kN => k_asm); (case km => k_is); (case ki => k_is); (case kf => k_is))
  intro x dx h₁ F₁ N₁ hlt hlt2
  replace N₁ : News h₀ L h₁ ((dx, dictOf [] 0) :: (x, instObj 187 dx) :: rest) := news_sub N₁ (by kcj_in)
  have hxd : x ≠ dx := Nat.ne_of_gt hlt2
  have hlA : AllLt dx rest := allLt_of hlt
  have hlB : AllLt x rest := allLt_trans (Nat.le_of_lt hlt2) hlA
  have hlC : ∀ p ∈ rest, p.1 ≠ dx := ne_of_allLt hlA
  k_dflt (refine' code_def (binds := [((Str.ofString "self"), .ref x), ((Str.ofString "data"), .bytes data u1), ((Str.ofString "at"), .int at_ u2), ((Str.ofString "end"), .int e_ u3)]) ?k1 F₁ ?k3 N₁ ?k5 ?kA ?kFF ?kK ?k6 ?k7 ?k8 ?k9 ?kB ?_ ?c2 ?c3 ?c4 ?c5; (case kA => exact rfl); (case kFF => exact rfl); (case kK => assumption); (case k1 => k_asm); (case k3 => k_asm); (case k5 => k_asm); (case k6 => k_is); (case k7 => k_is); (case k8 => ktr_room); (case k9 => first | exact BindsTo.of_eq rfl | exact binds_K (by k_in) rfl (by k_is) rfl rfl rfl); (case c5 => decide); (case kB => exact locs rfl); (case c2 => exact rfl); (case c3 => exact rfl); (case c4 => exact rfl))
  intro g' L' h' FG' F' N' B' X' T'
  (try dsimp only [List.reverse_cons, List.reverse_nil, List.nil_append, List.cons_append]); (try k_fold)
  k_steps
  rename News _ _ _ _ => nE; rw [if_neg (show ¬ ((data.size : Int) < e_) from by omega)] at nE
  exact hQ _ _ _ _ _ _ _ _ _ _ _ _ _ hlt2 hlA hlB (by assumption) (news_sub (by assumption) (by kcj_in))
end Mine
end
section
open PySem PySem.W PyProof.Rows PySem.Calls
namespace Mine
theorem hex_string_c {w : World} {dp un : Nat} {gd : Option (List Code)} {cn : Str} {cs : Scope} {a : Addr} {ccd : Value} {cl : List (Str × Addr)} {outer : List Env} {A₀ : Around} {base h₀ : Heap} {L : Addr} {m : Str → Option Value} {s : Shared} {Q E : Value → Shared → Prop} {mg mb : Str → Option Value} {mean : ExcName → Option Value} {loose : List Str} {c d : Addr} {H1 H2 H3 : Int} {t1 t2 t3 t4 t5 t6 : Tok} {data : Array UInt8} {ps en : Int} {ks : List Int} {rest : List (Addr × Obj)} {OUT : Option (List Int × List Int)}
  (B : Below A₀ base outer h₀) (F : Fr h₀ L s.heap m) (X : (Mine.hd.heap_1 w.params).In h₀) (N : News h₀ L s.heap ((d, dictOf [⟨H1, .str (Str.ofString "data") t1, .bytes data t4⟩, ⟨H2, .str (Str.ofString "at") t2, .int ps t5⟩, ⟨H3, .str (Str.ofString "end") t3, .int en t6⟩] 3) :: (c, instObj 187 d) :: rest)) (T : Top Mine.view loose mean mg mb h₀) (hk : cs.kind = .function) (hd : dp + 40 < recursionLimit) (hu : un + 600 < cLine) (hcd : c ≠ d) (hne : ∀ p ∈ rest, p.1 ≠ d) (hks : KBw.bInts data = ks) (h0 : 0 ≤ ps) (h1 : ps ≤ en) (h2 : en ≤ (ks.length : Int)) (h3 : ks.length ≤ 100000) (hE : OUT = none → ∀ e g₂ h' tk', Fr h₀ L g₂ m → RaisedD base g₂ (envX cn cs L a ccd cl :: outer) e (ps - 1) (rest) h' → g₂.UpToSlots h' → E (.ref e) { s with heap := h', toks := tk' }) (hps : 1 ≤ ps) (hok : ∀ x ∈ rem ks ps en, x = 62 ∨ 0 ≤ hexW x ∨ isWhite x = true) (hhx : hxL (rem ks ps en) [] = OUT)
  (hQ : ∀ b t hv p' t' h' tk', OUT = some (hv, rem ks p' en) → KBw.bInts b = pairsL hv → ps ≤ p' → p' ≤ en → Fr h₀ L h' m → News h₀ L h' ((d, dictOf [⟨H1, .str (Str.ofString "data") t1, .bytes data t4⟩, ⟨H2, .str (Str.ofString "at") t2, .int p' t'⟩, ⟨H3, .str (Str.ofString "end") t3, .int en t6⟩] 3) :: (c, instObj 187 d) :: rest) → Q (.bytes b t) { s with heap := h', toks := tk' }) :
  wpAny (model Challenge.rw_nn0223_01.row.prog w) (ktrTop dp un gd cn cs L a ccd cl outer) (call (.ref 352) [.ref c]) Q E s := by
  k_with_none
  w_top off
  k_with "MyPost" =>
    (dsimp only [MyPost])
  k_with "eval Call" =>
    ((with_reducible show wpAny _ _ (eval (Expr.Call (Expr.Name _ _) _ [] _) _) _ _ _); k_dflt (refine Call_ ?_))
  k_with "eval Call Attribute" =>
    ((with_reducible show wpAny _ _ (eval (Expr.Call (Expr.Attribute _ _ _) _ [] _) _) _ _ _); k_dflt (refine MethodCall_ ?_))
  k_with "compareOp In int ref" =>
    ((with_reducible show wpAny _ _ (compareOp CmpOp.In (Value.int _ _) (Value.ref 62)) _ _ _); refine in_tuple_ints (ns := [0, 9, 10, 12, 13, 32]) (tupK (Frag.In.keeps (by k_asm) (Fr.keep (by k_asm))) (by k_is)) (by repeat constructor) ?_)
  k_with "compareOp NotIn int ref" =>
    ((with_reducible show wpAny _ _ (compareOp CmpOp.NotIn (Value.int _ _) (Value.ref 62)) _ _ _); refine notin_tuple_ints (ns := [0, 9, 10, 12, 13, 32]) (tupK (Frag.In.keeps (by k_asm) (Fr.keep (by k_asm))) (by k_is)) (by repeat constructor) ?_)
  k_with "compareOp NotIn int ref" =>
    ((with_reducible show wpAny _ _ (compareOp CmpOp.NotIn (Value.int _ _) (Value.ref 63)) _ _ _); refine notin_tuple_ints (ns := [40, 41, 60, 62, 91, 93, 123, 125, 47, 37]) (tupK (Frag.In.keeps (by k_asm) (Fr.keep (by k_asm))) (by k_is)) (by repeat constructor) ?_)
  k_with "compareOp In int ref" =>
    ((with_reducible show wpAny _ _ (compareOp CmpOp.In (Value.int _ _) (Value.ref 304)) _ _ _); refine in_tuple_ints (ns := [91, 93, 123, 125]) (tupK (Frag.In.keeps (by k_asm) (Fr.keep (by k_asm))) (by k_is)) (by repeat constructor) ?_)
  k_with "call ref" =>
    ((with_reducible show wpAny _ _ (call (Value.ref 70) _) _ _ _); (rename News _ _ _ _ => kN); k_dflt (refine' is_white_c (by k_asm) (by k_asm) (by k_asm) kN (by k_asm) (by first | exact rfl | assumption) (by ktr_room) (by ktr_units)  ?_; k_whole); intro _ _ _ _; (try clear kN); (try k_sweep))
  k_with "call ref" =>
    ((with_reducible show wpAny _ _ (call (Value.ref 77) _) _ _ _); (rename News _ _ _ _ => kN); k_dflt (refine' is_regular_c (by k_asm) (by k_asm) (by k_asm) kN (by k_asm) (by first | exact rfl | assumption) (by ktr_room) (by ktr_units)  ?_; k_whole); intro _ _ _ _; (try clear kN); (try k_sweep))
  k_with "call ref" =>
    ((with_reducible show wpAny _ _ (call (Value.ref 311) _) _ _ _); (rename News _ _ _ _ => kN); k_dflt (refine' hex_worth_c (by k_asm) (by k_asm) (by k_asm) kN (by k_asm) (by first | exact rfl | assumption) (by ktr_room) (by ktr_units) (by omega) (by omega) ?_; k_whole); intro _ _ _ _ _ _ _ _; (try clear kN); (try k_sweep))
  k_with "call ref" =>
    ((with_reducible show wpAny _ _ (call (Value.ref 318) _) _ _ _); (rename News _ _ _ _ => kN); k_dflt (refine' plain_escape_c (by k_asm) (by k_asm) (by k_asm) kN (by k_asm) (by first | exact rfl | assumption) (by ktr_room) (by ktr_units)  ?_; k_whole); intro _ _ _ _ _ _ _; (try clear kN); (try k_sweep))
  k_with "call ref" =>
    ((with_reducible show wpAny _ _ (call (Value.ref 106) _) _ _ _); (rename News _ _ _ _ => kN); k_dflt (refine' is_done_c (by k_asm) (by k_asm) (by k_asm) (news_pick2 kN (by tb_start) (by tb_start)) (by k_asm) (by first | exact rfl | assumption) (by ktr_room) (by ktr_units) (by k_ne) (by k_all) (by kba_ints) (by omega) (by omega) (by omega) (by omega) ?_; k_whole); intro _ _ _ _; (try clear kN); (try k_sweep))
  k_with "call ref" =>
    ((with_reducible show wpAny _ _ (call (Value.ref 114) _) _ _ _); (rename News _ _ _ _ => kN); k_dflt (refine' peek_c (by k_asm) (by k_asm) (by k_asm) (news_pick2 kN (by tb_start) (by tb_start)) (by k_asm) (by first | exact rfl | assumption) (by ktr_room) (by ktr_units) (by k_ne) (by k_all) (by kba_ints) (by omega) (by omega) (by omega) (by omega) ?_; k_whole); intro _ _ _ _ _ _ _ _ _ _; (try clear kN); (try k_sweep))
  k_with "call ref" =>
    ((with_reducible show wpAny _ _ (call (Value.ref 121) _) _ _ _); (rename News _ _ _ _ => kN); k_dflt (refine' take_c (by k_asm) (by k_asm) (by k_asm) (news_pick2 kN (by tb_start) (by tb_start)) (by k_asm) (by first | exact rfl | assumption) (by ktr_room) (by ktr_units) (by k_ne) (by k_all) (by kba_ints) (by omega) (by omega) (by omega) (by omega) (by omega) ?_; k_whole); intro _ _ _ _ _ _ _ _ _ _; (try clear kN); (try k_sweep))
  k_with "call ref" =>
    ((with_reducible show wpAny _ _ (call (Value.ref 156) _) _ _ _); (rename News _ _ _ _ => kN); k_dflt (refine' skip_line_end_c (by k_asm) (by k_asm) (by k_asm) (news_pick2 kN (by tb_start) (by tb_start)) (by k_asm) (by first | exact rfl | assumption) (by ktr_room) (by ktr_units) (by k_ne) (by k_all) (by kba_ints) (by omega) (by omega) (by omega) (by omega) ?_; k_whole); intro _ _ _ _ _ _ _ _ _; (try clear kN); (rename_i hb' _ _); subst hb'; (try k_sweep))
  k_with "exec Raise some none" =>
    (k_dflt (refine raise_syn rfl ?_))
  k_with "call ref" =>
    ((with_reducible show wpAny _ _ (call (Value.ref 59) [_, _]) _ _ _); (rename News _ _ _ _ => kN); k_dflt (refine' syn_call (by k_asm) (by k_asm) (by k_asm) kN (by k_asm) (by first | exact rfl | assumption) (by ktr_room) (by ktr_units) ?_; k_whole); intro _ _ _ _ _ _ _ _ _ _ _ _ _ _ _; (try clear kN); (rename_i l1' l2' _ _); (have lSyn := SynNew.mk l1' l2'); (clear l1' l2'); (revert lSyn; intro _); (try k_sweep))
  k_with "MyPostF" =>
    (dsimp only [MyPostF])
  k_with "subscriptTail" =>
    ((with_reducible show wpAny _ _ (subscriptTail _ _ (Value.ref _) (Value.int _ _)) _ _ _); k_dflt (refine' my_item (by k_asm) (by k_mem) (by first | assumption | exact intsAre_app (by assumption) (.cons _ _ .nil)) (by omega) (by ((try simp only [List.length_append, List.length_cons, List.length_nil]); omega)) (by ((try simp only [List.length_append, List.length_cons, List.length_nil]); omega)) ?_); intro _)
  k_with "eval ListComp" =>
    (k_dflt (refine ListComp_C (F₀ := by k_asm) (by with_unfolding_all rfl) (by decide) (by rfl) (by decide) (by rfl) ?_))
  revert X; k_fill; intro X
  refine wpAny_call ?_
  k_dflt (refine' code_defC (binds := [((Str.ofString "cursor"), .ref c)]) ?k1 ?k2 ?k3 ?k4 ?k5 ?kA ?kF ?kK ?k6 ?k7 ?k8 ?k9 ?kB ?kD ?_ ?c2 ?c3 ?c4; (case kA => exact rfl); (case kF => exact rfl); (case kK => assumption); (case k1 => k_asm); (case k2 => k_asm); (case k3 => k_asm); (case k4 => k_asm); (case k5 => k_asm); (case k6 => k_is); (case k7 => k_is); (case k8 => ktr_room); (case k9 => first | exact BindsTo.of_eq rfl | exact binds_K (by k_in) rfl (by k_is) rfl rfl rfl); (case kB => exact rfl); (case kD => decide +kernel); (case c2 => exact rfl); (case c3 => exact rfl); (case c4 => exact rfl))
  k_whole
  intro g' L' h' tk' cells' FG' F' N' Y' B' X' T' l1; k_cells Y'; (try simp only [List.cons_append, List.nil_append] at N'); (try dsimp only); (try k_fold)
  have q0 : AllLt L' rest := allLt_of fun p hp => l1 p (.tail _ (.tail _ hp))
  have q1 : @LT.lt Nat _ d L' := l1 _ (.head _)
  have q2 : @LT.lt Nat _ c L' := l1 _ (.tail _ (.head _))
  have q3 : ∀ p ∈ rest, p.1 ≠ L' + 1 := ne_of_allLt (allLt_trans (Nat.le_succ _) q0)
  clear l1
  replace F' : Fr g' L' h' (fun y => if y = Str.ofString "cursor" then some (Value.ref c) else none) := by with_unfolding_all exact F'
  k_with "exec While" =>
    (rename Fr _ _ _ _ => lF'); (rename News _ _ _ _ => lN'); (rename _ ∧ _ ∧ _ ∧ AllLt _ _ => lL'); (rename _ = Data.cell (some _) => hoc); (rename Obj => oc)
    obtain ⟨l', hl', lL2⟩ : ∃ z : Addr, z = _ ∧ (L' + 1 < z ∧ d < z ∧ c < z ∧ AllLt z rest) := ⟨_, rfl, lL'⟩
    subst hl'
    with_unfolding_all refine' my_whileF (σ := Int × Tok × List Value × Nat × List Int × Tok) (fun x u y => if y = Str.ofString "code" then u y else if y = Str.ofString "worth" then u y else if y = Str.ofString "opening" then some (.int (ps - 1) x.2.2.2.2.2) else if y = Str.ofString "cursor" then some (Value.ref c) else none) (fun x => (l', listOf x.2.2.1.toArray x.2.2.2.1) :: (L' + 1, oc) :: (d, dictOf [⟨H1, .str (Str.ofString "data") t1, .bytes data t4⟩, ⟨H2, .str (Str.ofString "at") t2, .int x.1 x.2.1⟩, ⟨H3, .str (Str.ofString "end") t3, .int en t6⟩] 3) :: (c, instObj 187 d) :: rest) (fun x => ps ≤ x.1 ∧ x.1 ≤ en ∧ IntsAre x.2.2.1 x.2.2.2.2.1 ∧ (∀ h ∈ x.2.2.2.2.1, 0 ≤ h ∧ h < 16) ∧ (x.2.2.2.2.1.length : Int) ≤ x.1 - ps ∧ (∀ y ∈ rem ks x.1 en, y = 62 ∨ 0 ≤ hexW y ∨ isWhite y = true) ∧ hxL (rem ks x.1 en) x.2.2.2.2.1 = OUT) (fun x => (en - x.1).toNat) (ps, t5, [], 0, [], _) lF' lN' ?hm ?hn ?hp ?turn ?hE
    (case hE => passes_own)
    (case hm => tb_rel)
    (case hn => kcj_in)
    (case hp => exact ⟨Int.le_refl _, h1, .nil, (fun _ h => nomatch h), by simp, hok, hhx⟩)
    rintro ⟨p, tp, vs, n, acc, topn⟩ u h tk ⟨hp1, hp2, hp3, hp4, hp5, hp6, hp7⟩ lF lN
    (try clear lF' lN')
    dsimp only at lF lN hp1 hp2 hp3 hp4 hp5 hp6 hp7 ⊢
    have hvl := hp3.length
  k_steps
  · skip
    have hno : OUT = none := by rw [← hp7]; exact hx_done (by assumption)
    refine' syn_end (news := rest) (pl := ps - 1) ?sK ?sF ?sX ?sN ?ss ?s1 ?s2 ?sQ
    (case sK => assumption)
    (case sF => assumption)
    (case sX => assumption)
    (case sN => assumption)
    (case ss => exact ⟨_, _, _, _, _, _, _, rfl⟩)
    (case s1 => assumption)
    (case s2 => kcj_in)
    (case sQ => intro h' R' U'; exact hE hno _ _ _ _ (by assumption) R' U')
  · rename News _ _ _ _ => nE
    rename _ = ks.getD _ _ => hve
    have he62 : ks.getD p.toNat 0 = 62 := by rw [← hve]; assumption
    (try simp only [List.push_toArray] at nE)
    have hpar := fmod2 (by assumption)
    have hlen : (acc ++ [0]).length = acc.length + 1 := by first | rfl | (rw [List.length_append]; rfl)
    obtain ⟨k, hk2⟩ : ∃ k : Nat, acc.length + 1 = 2 * k := ⟨(acc.length + 1) / 2, by omega⟩
    rename IsRange _ _ _ _ _ _ _ _ => hrg
    refine' SrcC.range (n := k) rfl ?sF1 nE hrg (small_two (k := k) (by omega) (by omega)) (size_two (k := k) (by omega)) (by rw [sizeLine_eq]; omega) ?sg1
    (case sF1 => assumption)
    intro g
    refine' comp_inv (n := k) (fun i v => ∃ t, v = .int (16 * (acc ++ [0]).getD (2 * i) 0 + (acc ++ [0]).getD (2 * i + 1) 0) t) ?st1 ?sf1 k 0 [] (by omega) rfl (fun j v h => by simp at h)
    · rintro i ys v I oI C oC D m₂ h tk E' ⟨hi, t, rfl⟩ hC hx F N
      k_steps
      exact ⟨⟨_, by rw [show (0 + (i : Int) * 2).toNat = 2 * i from by omega, show (0 + (i : Int) * 2 + 1).toNat = 2 * i + 1 from by omega]⟩, _, _, rfl, by assumption, by assumption⟩
    · intro ys hy1 hy2
      have hia : IntsAre ys (pairsL (acc ++ [0])) := pairs_are (by omega) hy2
      have hin : KBa.In (pairsL (acc ++ [0])) := pairs_in (fun x hx => (List.mem_append.mp hx).elim (hp4 x) fun q => by rw [List.mem_singleton.mp q]; omega)
      k_steps
      exact hQ _ _ acc (p + 1) _ _ _ (by rw [← hp7, hx_end (by omega) (by assumption) h2 he62]) (by rw [KBa.ints_make hin, pairs_odd hpar]) (by omega) (by omega) (by assumption) (news_sub (by assumption) (by kcj_in))
  · rename News _ _ _ _ => nE
    rename _ = ks.getD _ _ => hve
    have he62 : ks.getD p.toNat 0 = 62 := by rw [← hve]; assumption
    (try simp only [List.push_toArray] at nE)
    have hpar := fmod2' (by assumption)
    have hlen : (acc).length = acc.length + 0 := by first | rfl | (rw [List.length_append]; rfl)
    obtain ⟨k, hk2⟩ : ∃ k : Nat, acc.length + 0 = 2 * k := ⟨(acc.length + 0) / 2, by omega⟩
    rename IsRange _ _ _ _ _ _ _ _ => hrg
    refine' SrcC.range (n := k) rfl ?sF0 nE hrg (small_two (k := k) (by omega) (by omega)) (size_two (k := k) (by omega)) (by rw [sizeLine_eq]; omega) ?sg0
    (case sF0 => assumption)
    intro g
    refine' comp_inv (n := k) (fun i v => ∃ t, v = .int (16 * (acc).getD (2 * i) 0 + (acc).getD (2 * i + 1) 0) t) ?st0 ?sf0 k 0 [] (by omega) rfl (fun j v h => by simp at h)
    · rintro i ys v I oI C oC D m₂ h tk E' ⟨hi, t, rfl⟩ hC hx F N
      k_steps
      exact ⟨⟨_, by rw [show (0 + (i : Int) * 2).toNat = 2 * i from by omega, show (0 + (i : Int) * 2 + 1).toNat = 2 * i + 1 from by omega]⟩, _, _, rfl, by assumption, by assumption⟩
    · intro ys hy1 hy2
      have hia : IntsAre ys (pairsL (acc)) := pairs_are (by omega) hy2
      have hin : KBa.In (pairsL (acc)) := pairs_in hp4
      k_steps
      exact hQ _ _ acc (p + 1) _ _ _ (by rw [← hp7, hx_end (by omega) (by assumption) h2 he62]) (by exact KBa.ints_make hin) (by omega) (by omega) (by assumption) (news_sub (by assumption) (by kcj_in))
  · rename _ = ks.getD _ _ => hve
    rename _ = hexW _ => hwe
    (try (rename News _ _ _ _ => nE; simp only [List.push_toArray] at nE))
    have hlt := hexW_lt (ks.getD p.toNat 0)
    subst hve hwe
    refine' my_endF (p + 1, _, vs ++ [_], _, acc ++ [hexW (ks.getD p.toNat 0)], topn) ?eF ?eN ?em ?en ?ep ?eμ
    (case eF => assumption)
    (case eN => assumption)
    (case en => kcj_in)
    (case em => tb_rel)
    (case eμ => (dsimp only; omega))
    (case ep => exact ⟨by dsimp only; omega, by dsimp only; omega, intsAre_app hp3 (.cons _ _ .nil), (fun x hx => (List.mem_append.mp hx).elim (hp4 x) fun q => by rw [List.mem_singleton.mp q]; omega), (by simp only [List.length_append, List.length_cons, List.length_nil]; omega), (fun y hy => hp6 y (by rw [rem_cons (ps := p) (by omega) (by omega) h2]; exact .tail _ hy)), (hx_fig (p := p) (acc := acc) (by omega) (by assumption) h2 (by assumption) (by assumption)).symm.trans hp7⟩)
  · rename _ = ks.getD _ _ => hve
    rename _ = hexW _ => hwe
    subst hve hwe
    refine' my_endF (p + 1, _, vs, _, acc, topn) ?eF ?eN ?em ?en ?ep ?eμ
    (case eF => assumption)
    (case eN => assumption)
    (case en => kcj_in)
    (case em => tb_rel)
    (case eμ => (dsimp only; omega))
    (case ep => exact ⟨by dsimp only; omega, by dsimp only; omega, hp3, hp4, by dsimp only; omega, (fun y hy => hp6 y (by rw [rem_cons (ps := p) (by omega) (by omega) h2]; exact .tail _ hy)), (hx_white (p := p) (acc := acc) (by omega) (by assumption) h2 (by assumption) (by assumption)).symm.trans hp7⟩)
  · exfalso
    rename _ = ks.getD _ _ => hve
    rename _ = hexW _ => hwe
    rename isWhite _ = false => hwh
    subst hve hwe
    rcases hp6 (ks.getD p.toNat 0) (by rw [rem_cons (by omega) (by omega) h2]; exact .head _) with e | e | e
    · omega
    · omega
    · rw [hwh] at e; cases e
end Mine
end
section
open PySem PySem.W PyProof.Rows PySem.Calls
namespace Mine
theorem name_text_c {w : World} {dp un : Nat} {gd : Option (List Code)} {cn : Str} {cs : Scope} {a : Addr} {ccd : Value} {cl : List (Str × Addr)} {outer : List Env} {A₀ : Around} {base h₀ : Heap} {L : Addr} {m : Str → Option Value} {s : Shared} {Q E : Value → Shared → Prop} {mg mb : Str → Option Value} {mean : ExcName → Option Value} {loose : List Str} {args : List Value} {data : Array UInt8} {t4 t2 : Tok} {pl : Int} {ks : List Int} {rest : List (Addr × Obj)} {OUT : Option (List Int)}
  (B : Below A₀ base outer h₀) (F : Fr h₀ L s.heap m) (X : (Mine.hd.heap_1 w.params).In h₀) (N : News h₀ L s.heap (rest)) (T : Top Mine.view loose mean mg mb h₀) (hk : cs.kind = .function) (hd : dp + 40 < recursionLimit) (hu : un + 600 < cLine) (hargs : args = [.bytes data t4, .int pl t2] ∨ args = [.bytes data t4] ∧ pl = -1 ∧ t2 = 615) (hks : KBw.bInts data = ks) (h3 : ks.length ≤ 100000)  (hE : OUT = none → ∀ e g₂ h' tk', Fr h₀ L g₂ m → RaisedD base g₂ (envX cn cs L a ccd cl :: outer) e (pl) (rest) h' → g₂.UpToSlots h' → E (.ref e) { s with heap := h', toks := tk' }) (hnt : ntL (ks.length + 1) ks [] = OUT)
  (hQ : ∀ cs' h' tk' t', OUT = some cs' → Fr h₀ L h' m → News h₀ L h' rest → Q (.str (nmS cs') t') { s with heap := h', toks := tk' }) :
  wpAny (model Challenge.rw_nn0223_01.row.prog w) (ktrTop dp un gd cn cs L a ccd cl outer) (call (.ref 326) args) Q E s := by
  k_with_none
  w_top off
  k_with "MyPost" =>
    (dsimp only [MyPost])
  k_with "eval Call" =>
    ((with_reducible show wpAny _ _ (eval (Expr.Call (Expr.Name _ _) _ [] _) _) _ _ _); k_dflt (refine Call_ ?_))
  k_with "eval Call Attribute" =>
    ((with_reducible show wpAny _ _ (eval (Expr.Call (Expr.Attribute _ _ _) _ [] _) _) _ _ _); k_dflt (refine MethodCall_ ?_))
  k_with "compareOp In int ref" =>
    ((with_reducible show wpAny _ _ (compareOp CmpOp.In (Value.int _ _) (Value.ref 62)) _ _ _); refine in_tuple_ints (ns := [0, 9, 10, 12, 13, 32]) (tupK (Frag.In.keeps (by k_asm) (Fr.keep (by k_asm))) (by k_is)) (by repeat constructor) ?_)
  k_with "compareOp NotIn int ref" =>
    ((with_reducible show wpAny _ _ (compareOp CmpOp.NotIn (Value.int _ _) (Value.ref 62)) _ _ _); refine notin_tuple_ints (ns := [0, 9, 10, 12, 13, 32]) (tupK (Frag.In.keeps (by k_asm) (Fr.keep (by k_asm))) (by k_is)) (by repeat constructor) ?_)
  k_with "compareOp NotIn int ref" =>
    ((with_reducible show wpAny _ _ (compareOp CmpOp.NotIn (Value.int _ _) (Value.ref 63)) _ _ _); refine notin_tuple_ints (ns := [40, 41, 60, 62, 91, 93, 123, 125, 47, 37]) (tupK (Frag.In.keeps (by k_asm) (Fr.keep (by k_asm))) (by k_is)) (by repeat constructor) ?_)
  k_with "compareOp In int ref" =>
    ((with_reducible show wpAny _ _ (compareOp CmpOp.In (Value.int _ _) (Value.ref 304)) _ _ _); refine in_tuple_ints (ns := [91, 93, 123, 125]) (tupK (Frag.In.keeps (by k_asm) (Fr.keep (by k_asm))) (by k_is)) (by repeat constructor) ?_)
  k_with "call ref" =>
    ((with_reducible show wpAny _ _ (call (Value.ref 70) _) _ _ _); (rename News _ _ _ _ => kN); k_dflt (refine' is_white_c (by k_asm) (by k_asm) (by k_asm) kN (by k_asm) (by first | exact rfl | assumption) (by ktr_room) (by ktr_units)  ?_; k_whole); intro _ _ _ _; (try clear kN); (try k_sweep))
  k_with "call ref" =>
    ((with_reducible show wpAny _ _ (call (Value.ref 77) _) _ _ _); (rename News _ _ _ _ => kN); k_dflt (refine' is_regular_c (by k_asm) (by k_asm) (by k_asm) kN (by k_asm) (by first | exact rfl | assumption) (by ktr_room) (by ktr_units)  ?_; k_whole); intro _ _ _ _; (try clear kN); (try k_sweep))
  k_with "call ref" =>
    ((with_reducible show wpAny _ _ (call (Value.ref 311) _) _ _ _); (rename News _ _ _ _ => kN); k_dflt (refine' hex_worth_c (by k_asm) (by k_asm) (by k_asm) kN (by k_asm) (by first | exact rfl | assumption) (by ktr_room) (by ktr_units) (by omega) (by omega) ?_; k_whole); intro _ _ _ _ _ _ _ _; (try clear kN); (try k_sweep))
  k_with "call ref" =>
    ((with_reducible show wpAny _ _ (call (Value.ref 318) _) _ _ _); (rename News _ _ _ _ => kN); k_dflt (refine' plain_escape_c (by k_asm) (by k_asm) (by k_asm) kN (by k_asm) (by first | exact rfl | assumption) (by ktr_room) (by ktr_units)  ?_; k_whole); intro _ _ _ _ _ _ _; (try clear kN); (try k_sweep))
  k_with "call ref" =>
    ((with_reducible show wpAny _ _ (call (Value.ref 106) _) _ _ _); (rename News _ _ _ _ => kN); k_dflt (refine' is_done_c (by k_asm) (by k_asm) (by k_asm) (news_pick2 kN (by tb_start) (by tb_start)) (by k_asm) (by first | exact rfl | assumption) (by ktr_room) (by ktr_units) (by k_ne) (by k_all) (by kba_ints) (by omega) (by omega) (by omega) (by omega) ?_; k_whole); intro _ _ _ _; (try clear kN); (try k_sweep))
  k_with "call ref" =>
    ((with_reducible show wpAny _ _ (call (Value.ref 114) _) _ _ _); (rename News _ _ _ _ => kN); k_dflt (refine' peek_c (by k_asm) (by k_asm) (by k_asm) (news_pick2 kN (by tb_start) (by tb_start)) (by k_asm) (by first | exact rfl | assumption) (by ktr_room) (by ktr_units) (by k_ne) (by k_all) (by kba_ints) (by omega) (by omega) (by omega) (by omega) ?_; k_whole); intro _ _ _ _ _ _ _ _ _ _; (try clear kN); (try k_sweep))
  k_with "call ref" =>
    ((with_reducible show wpAny _ _ (call (Value.ref 121) _) _ _ _); (rename News _ _ _ _ => kN); k_dflt (refine' take_c (by k_asm) (by k_asm) (by k_asm) (news_pick2 kN (by tb_start) (by tb_start)) (by k_asm) (by first | exact rfl | assumption) (by ktr_room) (by ktr_units) (by k_ne) (by k_all) (by kba_ints) (by omega) (by omega) (by omega) (by omega) (by omega) ?_; k_whole); intro _ _ _ _ _ _ _ _ _ _; (try clear kN); (try k_sweep))
  k_with "call ref" =>
    ((with_reducible show wpAny _ _ (call (Value.ref 156) _) _ _ _); (rename News _ _ _ _ => kN); k_dflt (refine' skip_line_end_c (by k_asm) (by k_asm) (by k_asm) (news_pick2 kN (by tb_start) (by tb_start)) (by k_asm) (by first | exact rfl | assumption) (by ktr_room) (by ktr_units) (by k_ne) (by k_all) (by kba_ints) (by omega) (by omega) (by omega) (by omega) ?_; k_whole); intro _ _ _ _ _ _ _ _ _; (try clear kN); (rename_i hb' _ _); subst hb'; (try k_sweep))
  k_with "exec Raise some none" =>
    (k_dflt (refine raise_syn rfl ?_))
  k_with "call ref" =>
    ((with_reducible show wpAny _ _ (call (Value.ref 59) [_, _]) _ _ _); (rename News _ _ _ _ => kN); k_dflt (refine' syn_call (by k_asm) (by k_asm) (by k_asm) kN (by k_asm) (by first | exact rfl | assumption) (by ktr_room) (by ktr_units) ?_; k_whole); intro _ _ _ _ _ _ _ _ _ _ _ _ _ _ _; (try clear kN); (rename_i l1' l2' _ _); (have lSyn := SynNew.mk l1' l2'); (clear l1' l2'); (revert lSyn; intro _); (try k_sweep))
  k_with "call builtin:chr" =>
    ((refine' my_chr (by omega) (by omega) ?_))
  k_with "call builtin:str.join" =>
    ((refine' my_join (by k_asm) (by k_mem) (by assumption) (by omega) ?_); intro _ _)
  k_with "MyPostF" =>
    (dsimp only [MyPostF])
  revert X; k_fill; intro X
  refine wpAny_call ?_
  k_dflt (refine' code_def (binds := [((Str.ofString "octets"), .bytes data t4), ((Str.ofString "at"), .int pl t2)]) ?k1 ?k2 ?k3 ?k4 ?k5 ?kA ?kF ?kK ?k6 ?k7 ?k8 ?k9 ?kB ?_ ?c2 ?c3 ?c4 ?c5; (case kA => exact rfl); (case kF => exact rfl); (case kK => assumption); (case k1 => k_asm); (case k2 => k_asm); (case k3 => k_asm); (case k4 => k_asm); (case k5 => k_asm); (case k6 => k_is); (case k7 => k_is); (case k8 => ktr_room); (case k9 => rcases hargs with rfl | ⟨rfl, rfl, rfl⟩ <;> first | exact BindsTo.of_eq rfl | exact binds_K (by k_in) rfl (by k_is) rfl rfl rfl); (case c5 => decide); (case kB => exact locs rfl); (case c2 => exact rfl); (case c3 => exact rfl); (case c4 => exact rfl))
  k_whole
  intro g' L' h' FG' F' N' B' X' T'
  (try dsimp only [List.reverse_cons, List.reverse_nil, List.nil_append, List.cons_append]); (try k_fold)
  k_with "exec While Compare" =>
    (rename Fr _ _ _ _ => lF'); (rename News _ _ _ _ => lN'); (rename ∀ p, p ∈ rest → _ => lL')
    obtain ⟨l', hl', lL2⟩ : ∃ z : Addr, z = _ ∧ AllLt z rest := ⟨_, rfl, allLt_of lL'⟩
    subst hl'
    with_unfolding_all refine' my_whileF (σ := Int × Tok × List Value × Nat × List Int) (fun x u y => if y = Str.ofString "code" then u y else if y = Str.ofString "high" then u y else if y = Str.ofString "low" then u y else if y = Str.ofString "place" then some (.int x.1 x.2.1) else if y = Str.ofString "signs" then some (.ref l') else List.lookup y [(Str.ofString "octets", Value.bytes data t4), (Str.ofString "at", Value.int pl t2)].reverse) (fun x => (l', listOf x.2.2.1.toArray x.2.2.2.1) :: rest) (fun x => 0 ≤ x.1 ∧ x.1 ≤ (ks.length : Int) ∧ StrsAre x.2.2.1 (x.2.2.2.2.map chS) ∧ (x.2.2.2.2.length : Int) ≤ x.1 ∧ x.2.2.1.length = x.2.2.2.2.length ∧ ∃ nn : Nat, ((ks.length : Int) - x.1).toNat < nn ∧ ntL nn (rem ks x.1 (ks.length : Int)) x.2.2.2.2 = OUT) (fun x => ((ks.length : Int) - x.1).toNat) (0, _, [], 0, []) lF' lN' ?hm ?hn ?hp ?turn ?hE
    (case hE => passes_own)
    (case hm => tb_rel)
    (case hn => kcj_in)
    (case hp => exact ⟨Int.le_refl _, by dsimp only; omega, (by k_dflt (exact StrsAre.nil)), by simp, rfl, ks.length + 1, by dsimp only; omega, by rw [rem_all]; exact hnt⟩)
    rintro ⟨p, tp, vs, n, acc⟩ u h tk ⟨hp1, hp2, hp3, hp4, hp5, nn, hp6, hp7⟩ lF lN
    (try clear lF' lN')
    dsimp only at lF lN hp1 hp2 hp3 hp4 hp5 hp6 hp7 ⊢
    obtain ⟨mm, rfl⟩ : ∃ mm, nn = mm + 1 := ⟨nn - 1, by omega⟩
  k_steps
  · skip
    (try (rename _ = hexW (ks.getD (p + 1 + 1).toNat 0) => hb; subst hb))
    (try (rename _ = hexW (ks.getD (p + 1).toNat 0) => ha; subst ha))
    (try (rename News _ _ _ _ => nE; simp only [List.push_toArray] at nE))
    have hno : OUT = none := by rw [← hp7, nt_hash hp1 (by assumption) (by assumption) (by assumption) (by assumption) (by assumption), if_pos (by assumption)]
    refine' syn_end (news := rest) (pl := pl) ?sK ?sF ?sX ?sN ?ss ?s1 ?s2 ?sQ
    (case sK => assumption)
    (case sF => assumption)
    (case sX => assumption)
    (case sN => assumption)
    (case ss => exact ⟨_, _, _, _, _, _, _, rfl⟩)
    (case s1 => assumption)
    (case s2 => kcj_in)
    (case sQ => intro h' R' U'; exact hE hno _ _ _ _ (by assumption) R' U')
  · skip
    (try (rename _ = hexW (ks.getD (p + 1 + 1).toNat 0) => hb; subst hb))
    (try (rename _ = hexW (ks.getD (p + 1).toNat 0) => ha; subst ha))
    (try (rename News _ _ _ _ => nE; simp only [List.push_toArray] at nE))
    refine' my_endF (p + 1 + 2, _, vs ++ [.str (chS (16 * hexW (ks.getD (p + 1).toNat 0) + hexW (ks.getD (p + 1 + 1).toNat 0))) _], _, acc ++ [16 * hexW (ks.getD (p + 1).toNat 0) + hexW (ks.getD (p + 1 + 1).toNat 0)]) ?eF ?eN ?em ?en ?ep ?eμ
    (case eF => assumption)
    case em =>
      intro y
      by_cases q0 : y = (Str.ofString "code")
      · subst q0; rfl
      by_cases q1 : y = (Str.ofString "high")
      · subst q1; rfl
      by_cases q2 : y = (Str.ofString "low")
      · subst q2; rfl
      by_cases q3 : y = (Str.ofString "place")
      · subst q3; rfl
      by_cases q4 : y = (Str.ofString "signs")
      · subst q4; rfl
      simp only [q0, q1, q2, q3, q4, if_false, ite_false, reduceIte]
    (case eN => assumption)
    (case en => kcj_in)
    (case eμ => (dsimp only; omega))
    (case ep => exact ⟨by dsimp only; omega, by dsimp only; omega, (by rw [List.map_append]; exact strsAre_app hp3 (.cons _ _ .nil)), (by simp only [List.length_append, List.length_cons, List.length_nil]; omega), (by simp only [List.length_append, List.length_cons, List.length_nil]; omega), mm, by dsimp only; omega, (by rw [← hp7, nt_hash hp1 (by assumption) (by assumption) (by assumption) (by assumption) (by assumption), if_neg (by assumption)])⟩)
  · skip
    (try (rename _ = hexW (ks.getD (p + 1 + 1).toNat 0) => hb; subst hb))
    (try (rename _ = hexW (ks.getD (p + 1).toNat 0) => ha; subst ha))
    (try (rename News _ _ _ _ => nE; simp only [List.push_toArray] at nE))
    refine' my_endF (p + 1, _, vs ++ [.str (chS (ks.getD p.toNat 0)) _], _, acc ++ [ks.getD p.toNat 0]) ?eF ?eN ?em ?en ?ep ?eμ
    (case eF => assumption)
    case em =>
      intro y
      by_cases q0 : y = (Str.ofString "code")
      · subst q0; rfl
      by_cases q1 : y = (Str.ofString "high")
      · subst q1; rfl
      by_cases q2 : y = (Str.ofString "low")
      · subst q2; rfl
      by_cases q3 : y = (Str.ofString "place")
      · subst q3; rfl
      by_cases q4 : y = (Str.ofString "signs")
      · subst q4; rfl
      simp only [q0, q1, q2, q3, q4, if_false, ite_false, reduceIte]
    (case eN => assumption)
    (case en => kcj_in)
    (case eμ => (dsimp only; omega))
    (case ep => exact ⟨by dsimp only; omega, by dsimp only; omega, (by rw [List.map_append]; exact strsAre_app hp3 (.cons _ _ .nil)), (by simp only [List.length_append, List.length_cons, List.length_nil]; omega), (by simp only [List.length_append, List.length_cons, List.length_nil]; omega), mm, by dsimp only; omega, ((nt_plain (p := p) (acc := acc) hp1 (by assumption) (by first | assumption | omega) (by first | exact .inl (by assumption) | exact .inr (.inl (by assumption)) | exact .inr (.inr (.inl (by assumption))) | exact .inr (.inr (.inr (by assumption))))).symm.trans hp7)⟩)
  · skip
    (try (rename _ = hexW (ks.getD (p + 1 + 1).toNat 0) => hb; subst hb))
    (try (rename _ = hexW (ks.getD (p + 1).toNat 0) => ha; subst ha))
    (try (rename News _ _ _ _ => nE; simp only [List.push_toArray] at nE))
    refine' my_endF (p + 1, _, vs ++ [.str (chS (ks.getD p.toNat 0)) _], _, acc ++ [ks.getD p.toNat 0]) ?eF ?eN ?em ?en ?ep ?eμ
    (case eF => assumption)
    case em =>
      intro y
      by_cases q0 : y = (Str.ofString "code")
      · subst q0; rfl
      by_cases q1 : y = (Str.ofString "high")
      · subst q1; rfl
      by_cases q2 : y = (Str.ofString "low")
      · subst q2; rfl
      by_cases q3 : y = (Str.ofString "place")
      · subst q3; rfl
      by_cases q4 : y = (Str.ofString "signs")
      · subst q4; rfl
      simp only [q0, q1, q2, q3, q4, if_false, ite_false, reduceIte]
    (case eN => assumption)
    (case en => kcj_in)
    (case eμ => (dsimp only; omega))
    (case ep => exact ⟨by dsimp only; omega, by dsimp only; omega, (by rw [List.map_append]; exact strsAre_app hp3 (.cons _ _ .nil)), (by simp only [List.length_append, List.length_cons, List.length_nil]; omega), (by simp only [List.length_append, List.length_cons, List.length_nil]; omega), mm, by dsimp only; omega, ((nt_plain (p := p) (acc := acc) hp1 (by assumption) (by first | assumption | omega) (by first | exact .inl (by assumption) | exact .inr (.inl (by assumption)) | exact .inr (.inr (.inl (by assumption))) | exact .inr (.inr (.inr (by assumption))))).symm.trans hp7)⟩)
  · skip
    (try (rename _ = hexW (ks.getD (p + 1 + 1).toNat 0) => hb; subst hb))
    (try (rename _ = hexW (ks.getD (p + 1).toNat 0) => ha; subst ha))
    (try (rename News _ _ _ _ => nE; simp only [List.push_toArray] at nE))
    refine' my_endF (p + 1, _, vs ++ [.str (chS (ks.getD p.toNat 0)) _], _, acc ++ [ks.getD p.toNat 0]) ?eF ?eN ?em ?en ?ep ?eμ
    (case eF => assumption)
    case em =>
      intro y
      by_cases q0 : y = (Str.ofString "code")
      · subst q0; rfl
      by_cases q1 : y = (Str.ofString "high")
      · subst q1; rfl
      by_cases q2 : y = (Str.ofString "low")
      · subst q2; rfl
      by_cases q3 : y = (Str.ofString "place")
      · subst q3; rfl
      by_cases q4 : y = (Str.ofString "signs")
      · subst q4; rfl
      simp only [q0, q1, q2, q3, q4, if_false, ite_false, reduceIte]
    (case eN => assumption)
    (case en => kcj_in)
    (case eμ => (dsimp only; omega))
    (case ep => exact ⟨by dsimp only; omega, by dsimp only; omega, (by rw [List.map_append]; exact strsAre_app hp3 (.cons _ _ .nil)), (by simp only [List.length_append, List.length_cons, List.length_nil]; omega), (by simp only [List.length_append, List.length_cons, List.length_nil]; omega), mm, by dsimp only; omega, ((nt_plain (p := p) (acc := acc) hp1 (by assumption) (by first | assumption | omega) (by first | exact .inl (by assumption) | exact .inr (.inl (by assumption)) | exact .inr (.inr (.inl (by assumption))) | exact .inr (.inr (.inr (by assumption))))).symm.trans hp7)⟩)
  · skip
    (try (rename _ = hexW (ks.getD (p + 1 + 1).toNat 0) => hb; subst hb))
    (try (rename _ = hexW (ks.getD (p + 1).toNat 0) => ha; subst ha))
    (try (rename News _ _ _ _ => nE; simp only [List.push_toArray] at nE))
    have hno : OUT = none := by rw [← hp7, nt_zero hp1 (by assumption) (by assumption)]
    refine' syn_end (news := rest) (pl := pl) ?sK ?sF ?sX ?sN ?ss ?s1 ?s2 ?sQ
    (case sK => assumption)
    (case sF => assumption)
    (case sX => assumption)
    (case sN => assumption)
    (case ss => exact ⟨_, _, _, _, _, _, _, rfl⟩)
    (case s1 => assumption)
    (case s2 => kcj_in)
    (case sQ => intro h' R' U'; exact hE hno _ _ _ _ (by assumption) R' U')
  · skip
    (try (rename _ = hexW (ks.getD (p + 1 + 1).toNat 0) => hb; subst hb))
    (try (rename _ = hexW (ks.getD (p + 1).toNat 0) => ha; subst ha))
    (try (rename News _ _ _ _ => nE; simp only [List.push_toArray] at nE))
    refine' my_endF (p + 1, _, vs ++ [.str (chS (ks.getD p.toNat 0)) _], _, acc ++ [ks.getD p.toNat 0]) ?eF ?eN ?em ?en ?ep ?eμ
    (case eF => assumption)
    case em =>
      intro y
      by_cases q0 : y = (Str.ofString "code")
      · subst q0; rfl
      by_cases q1 : y = (Str.ofString "high")
      · subst q1; rfl
      by_cases q2 : y = (Str.ofString "low")
      · subst q2; rfl
      by_cases q3 : y = (Str.ofString "place")
      · subst q3; rfl
      by_cases q4 : y = (Str.ofString "signs")
      · subst q4; rfl
      simp only [q0, q1, q2, q3, q4, if_false, ite_false, reduceIte]
    (case eN => assumption)
    (case en => kcj_in)
    (case eμ => (dsimp only; omega))
    (case ep => exact ⟨by dsimp only; omega, by dsimp only; omega, (by rw [List.map_append]; exact strsAre_app hp3 (.cons _ _ .nil)), (by simp only [List.length_append, List.length_cons, List.length_nil]; omega), (by simp only [List.length_append, List.length_cons, List.length_nil]; omega), mm, by dsimp only; omega, ((nt_plain (p := p) (acc := acc) hp1 (by assumption) (by first | assumption | omega) (by first | exact .inl (by assumption) | exact .inr (.inl (by assumption)) | exact .inr (.inr (.inl (by assumption))) | exact .inr (.inr (.inr (by assumption))))).symm.trans hp7)⟩)
  · exact hQ acc _ _ _ (by rw [← hp7, nt_done (by omega)]) (by assumption) (news_sub (by assumption) (by kcj_in))
end Mine
end
section
open PySem PySem.W PyProof.Rows PySem.Calls
namespace Mine
theorem delim_string_c {w : World} {dp un : Nat} {gd : Option (List Code)} {cn : Str} {cs : Scope} {a : Addr} {ccd : Value} {cl : List (Str × Addr)} {outer : List Env} {A₀ : Around} {base h₀ : Heap} {L : Addr} {m : Str → Option Value} {s : Shared} {Q E : Value → Shared → Prop} {mg mb : Str → Option Value} {mean : ExcName → Option Value} {loose : List Str} {c d : Addr} {H1 H2 H3 : Int} {t1 t2 t3 t4 t5 t6 : Tok} {data : Array UInt8} {ps en : Int} {ks : List Int} {rest : List (Addr × Obj)} {at_ : Int} {tcode tat : Tok} {OUT : Option (List Int × List Int)}
  (B : Below A₀ base outer h₀) (F : Fr h₀ L s.heap m) (X : (Mine.hd.heap_1 w.params).In h₀) (N : News h₀ L s.heap ((d, dictOf [⟨H1, .str (Str.ofString "data") t1, .bytes data t4⟩, ⟨H2, .str (Str.ofString "at") t2, .int ps t5⟩, ⟨H3, .str (Str.ofString "end") t3, .int en t6⟩] 3) :: (c, instObj 187 d) :: rest)) (T : Top Mine.view loose mean mg mb h₀) (hk : cs.kind = .function) (hd : dp + 60 < recursionLimit) (hu : un + 1000 < cLine) (hcd : c ≠ d) (hne : ∀ p ∈ rest, p.1 ≠ d) (hks : KBw.bInts data = ks) (h0 : 0 ≤ ps) (h1 : ps ≤ en) (h2 : en ≤ (ks.length : Int)) (h3 : ks.length ≤ 100000) (hin : ps < en) (hlit : litL ((en - (ps + 1)).toNat + 1) (rem ks (ps + 1) en) 1 [] = OUT)  (hE : OUT = none → ∀ e g₂ h' tk', Fr h₀ L g₂ m → RaisedD base g₂ (envX cn cs L a ccd cl :: outer) e (ps + 1 - 1) (rest) h' → g₂.UpToSlots h' → E (.ref e) { s with heap := h', toks := tk' })
  (hQ : ∀ tu q1 b t' cs' r h' tk', AllLt tu rest → OUT = some (cs', r) → KBw.bInts b = cs' → Fr h₀ L h' m → News h₀ L h' ((tu, { cls := .type "tuple", data := .seq #[.str (Str.ofString "string") q1, .bytes b t', .int at_ tat] }) :: rest) → Q (.ref tu) { s with heap := h', toks := tk' }) :
  wpAny (model Challenge.rw_nn0223_01.row.prog w) (ktrTop dp un gd cn cs L a ccd cl outer) (call (.ref 366) [.ref c, .int 40 tcode, .int at_ tat]) Q E s := by
  k_with_none
  w_top off
  k_with "MyPost" =>
    (dsimp only [MyPost])
  k_with "eval Call" =>
    ((with_reducible show wpAny _ _ (eval (Expr.Call (Expr.Name _ _) _ [] _) _) _ _ _); k_dflt (refine Call_ ?_))
  k_with "eval Call Attribute" =>
    ((with_reducible show wpAny _ _ (eval (Expr.Call (Expr.Attribute _ _ _) _ [] _) _) _ _ _); k_dflt (refine MethodCall_ ?_))
  k_with "compareOp In int ref" =>
    ((with_reducible show wpAny _ _ (compareOp CmpOp.In (Value.int _ _) (Value.ref 62)) _ _ _); refine in_tuple_ints (ns := [0, 9, 10, 12, 13, 32]) (tupK (Frag.In.keeps (by k_asm) (Fr.keep (by k_asm))) (by k_is)) (by repeat constructor) ?_)
  k_with "compareOp NotIn int ref" =>
    ((with_reducible show wpAny _ _ (compareOp CmpOp.NotIn (Value.int _ _) (Value.ref 62)) _ _ _); refine notin_tuple_ints (ns := [0, 9, 10, 12, 13, 32]) (tupK (Frag.In.keeps (by k_asm) (Fr.keep (by k_asm))) (by k_is)) (by repeat constructor) ?_)
  k_with "compareOp NotIn int ref" =>
    ((with_reducible show wpAny _ _ (compareOp CmpOp.NotIn (Value.int _ _) (Value.ref 63)) _ _ _); refine notin_tuple_ints (ns := [40, 41, 60, 62, 91, 93, 123, 125, 47, 37]) (tupK (Frag.In.keeps (by k_asm) (Fr.keep (by k_asm))) (by k_is)) (by repeat constructor) ?_)
  k_with "compareOp In int ref" =>
    ((with_reducible show wpAny _ _ (compareOp CmpOp.In (Value.int _ _) (Value.ref 304)) _ _ _); refine in_tuple_ints (ns := [91, 93, 123, 125]) (tupK (Frag.In.keeps (by k_asm) (Fr.keep (by k_asm))) (by k_is)) (by repeat constructor) ?_)
  k_with "call ref" =>
    ((with_reducible show wpAny _ _ (call (Value.ref 70) _) _ _ _); (rename News _ _ _ _ => kN); k_dflt (refine' is_white_c (by k_asm) (by k_asm) (by k_asm) kN (by k_asm) (by first | exact rfl | assumption) (by ktr_room) (by ktr_units)  ?_; k_whole); intro _ _ _ _; (try clear kN); (try k_sweep))
  k_with "call ref" =>
    ((with_reducible show wpAny _ _ (call (Value.ref 77) _) _ _ _); (rename News _ _ _ _ => kN); k_dflt (refine' is_regular_c (by k_asm) (by k_asm) (by k_asm) kN (by k_asm) (by first | exact rfl | assumption) (by ktr_room) (by ktr_units)  ?_; k_whole); intro _ _ _ _; (try clear kN); (try k_sweep))
  k_with "call ref" =>
    ((with_reducible show wpAny _ _ (call (Value.ref 311) _) _ _ _); (rename News _ _ _ _ => kN); k_dflt (refine' hex_worth_c (by k_asm) (by k_asm) (by k_asm) kN (by k_asm) (by first | exact rfl | assumption) (by ktr_room) (by ktr_units) (by omega) (by omega) ?_; k_whole); intro _ _ _ _ _ _ _ _; (try clear kN); (try k_sweep))
  k_with "call ref" =>
    ((with_reducible show wpAny _ _ (call (Value.ref 318) _) _ _ _); (rename News _ _ _ _ => kN); k_dflt (refine' plain_escape_c (by k_asm) (by k_asm) (by k_asm) kN (by k_asm) (by first | exact rfl | assumption) (by ktr_room) (by ktr_units)  ?_; k_whole); intro _ _ _ _ _ _ _; (try clear kN); (try k_sweep))
  k_with "call ref" =>
    ((with_reducible show wpAny _ _ (call (Value.ref 106) _) _ _ _); (rename News _ _ _ _ => kN); k_dflt (refine' is_done_c (by k_asm) (by k_asm) (by k_asm) (news_pick2 kN (by tb_start) (by tb_start)) (by k_asm) (by first | exact rfl | assumption) (by ktr_room) (by ktr_units) (by k_ne) (by k_all) (by kba_ints) (by omega) (by omega) (by omega) (by omega) ?_; k_whole); intro _ _ _ _; (try clear kN); (try k_sweep))
  k_with "call ref" =>
    ((with_reducible show wpAny _ _ (call (Value.ref 114) _) _ _ _); (rename News _ _ _ _ => kN); k_dflt (refine' peek_c (by k_asm) (by k_asm) (by k_asm) (news_pick2 kN (by tb_start) (by tb_start)) (by k_asm) (by first | exact rfl | assumption) (by ktr_room) (by ktr_units) (by k_ne) (by k_all) (by kba_ints) (by omega) (by omega) (by omega) (by omega) ?_; k_whole); intro _ _ _ _ _ _ _ _ _ _; (try clear kN); (try k_sweep))
  k_with "call ref" =>
    ((with_reducible show wpAny _ _ (call (Value.ref 121) _) _ _ _); (rename News _ _ _ _ => kN); k_dflt (refine' take_c (by k_asm) (by k_asm) (by k_asm) (news_pick2 kN (by tb_start) (by tb_start)) (by k_asm) (by first | exact rfl | assumption) (by ktr_room) (by ktr_units) (by k_ne) (by k_all) (by kba_ints) (by omega) (by omega) (by omega) (by omega) (by omega) ?_; k_whole); intro _ _ _ _ _ _ _ _ _ _; (try clear kN); (try k_sweep))
  k_with "call ref" =>
    ((with_reducible show wpAny _ _ (call (Value.ref 156) _) _ _ _); (rename News _ _ _ _ => kN); k_dflt (refine' skip_line_end_c (by k_asm) (by k_asm) (by k_asm) (news_pick2 kN (by tb_start) (by tb_start)) (by k_asm) (by first | exact rfl | assumption) (by ktr_room) (by ktr_units) (by k_ne) (by k_all) (by kba_ints) (by omega) (by omega) (by omega) (by omega) ?_; k_whole); intro _ _ _ _ _ _ _ _ _; (try clear kN); (rename_i hb' _ _); subst hb'; (try k_sweep))
  k_with "call ref" =>
    ((with_reducible show wpAny _ _ (call (Value.ref 128) [_, Value.bytes #[60, 60] _]) _ _ _); (rename News _ _ _ _ => kN); k_dflt (refine' starts_lt_c (by k_asm) (by k_asm) (by k_asm) (news_pick2 kN (by tb_start) (by tb_start)) (by k_asm) (by first | exact rfl | assumption) (by ktr_room) (by ktr_units) (by k_ne) (by k_all) (by kba_ints) (by omega) (by omega) (by omega) (by omega) (by assumption) ?_; k_whole); intro _ _ _ _; (try clear kN); (try k_sweep))
  k_with "call ref" =>
    ((with_reducible show wpAny _ _ (call (Value.ref 135) [_, Value.bytes #[60, 60] _]) _ _ _); (rename News _ _ _ _ => kN); k_dflt (refine' skip_lt_c (by k_asm) (by k_asm) (by k_asm) (news_pick2 kN (by tb_start) (by tb_start)) (by k_asm) (by first | exact rfl | assumption) (by ktr_room) (by ktr_units) (by k_ne) (by k_all) (by kba_ints) (by omega) (by omega) (by omega) (by omega) (by assumption) ?_; k_whole); intro _ _ _ _; (try clear kN); (try k_sweep))
  k_with "call ref" =>
    ((with_reducible show wpAny _ _ (call (Value.ref 128) [_, Value.bytes #[62, 62] _]) _ _ _); (rename News _ _ _ _ => kN); k_dflt (refine' starts_gt_c (by k_asm) (by k_asm) (by k_asm) (news_pick2 kN (by tb_start) (by tb_start)) (by k_asm) (by first | exact rfl | assumption) (by ktr_room) (by ktr_units) (by k_ne) (by k_all) (by kba_ints) (by omega) (by omega) (by omega) (by omega) (by assumption) ?_; k_whole); intro _ _ _ _; (try clear kN); (try k_sweep))
  k_with "call ref" =>
    ((with_reducible show wpAny _ _ (call (Value.ref 135) [_, Value.bytes #[62, 62] _]) _ _ _); (rename News _ _ _ _ => kN); k_dflt (refine' skip_gt_c (by k_asm) (by k_asm) (by k_asm) (news_pick2 kN (by tb_start) (by tb_start)) (by k_asm) (by first | exact rfl | assumption) (by ktr_room) (by ktr_units) (by k_ne) (by k_all) (by kba_ints) (by omega) (by omega) (by omega) (by omega) (by assumption) ?_; k_whole); intro _ _ _ _; (try clear kN); (try k_sweep))
  k_with "call ref" =>
    ((with_reducible show wpAny _ _ (call (Value.ref 142) _) _ _ _); (rename News _ _ _ _ => kN); k_dflt (refine' skip_white_c (by k_asm) (by k_asm) (by k_asm) (news_pick2 kN (by tb_start) (by tb_start)) (by k_asm) (by first | exact rfl | assumption) (by ktr_room) (by ktr_units) (by k_ne) (by k_all) (by kba_ints) (by omega) (by omega) (by omega) (by omega) ?_; k_whole); intro _ _ _ _ _ _ _ _ _; (try clear kN); (try k_sweep))
  k_with "call ref" =>
    ((with_reducible show wpAny _ _ (call (Value.ref 149) _) _ _ _); (rename News _ _ _ _ => kN); k_dflt (refine' take_regular_c (by k_asm) (by k_asm) (by k_asm) (news_pick2 kN (by tb_start) (by tb_start)) (by k_asm) (by first | exact rfl | assumption) (by ktr_room) (by ktr_units) (by k_ne) (by k_all) (by kba_ints) (by omega) (by omega) (by omega) (by omega) ?_; k_whole); intro _ _ _ _ _ _ _ _ _ _ _; (try clear kN); (try k_sweep))
  k_with "exec Raise some none" =>
    (k_dflt (refine raise_syn rfl ?_))
  k_with "call ref" =>
    ((with_reducible show wpAny _ _ (call (Value.ref 59) [_, _]) _ _ _); (rename News _ _ _ _ => kN); k_dflt (refine' syn_call (by k_asm) (by k_asm) (by k_asm) kN (by k_asm) (by first | exact rfl | assumption) (by ktr_room) (by ktr_units) ?_; k_whole); intro _ _ _ _ _ _ _ _ _ _ _ _ _ _ _; (try clear kN); (rename_i l1' l2' _ _); (have lSyn := SynNew.mk l1' l2'); (clear l1' l2'); (revert lSyn; intro _); (try k_sweep))
  revert X; k_fill; intro X
  refine wpAny_call ?_
  k_dflt (refine' code_def (binds := [((Str.ofString "cursor"), .ref c), ((Str.ofString "code"), .int 40 tcode), ((Str.ofString "at"), .int at_ tat)]) ?k1 ?k2 ?k3 ?k4 ?k5 ?kA ?kF ?kK ?k6 ?k7 ?k8 ?k9 ?kB ?_ ?c2 ?c3 ?c4 ?c5; (case kA => exact rfl); (case kF => exact rfl); (case kK => assumption); (case k1 => k_asm); (case k2 => k_asm); (case k3 => k_asm); (case k4 => k_asm); (case k5 => k_asm); (case k6 => k_is); (case k7 => k_is); (case k8 => ktr_room); (case k9 => first | exact BindsTo.of_eq rfl | exact binds_K (by k_in) rfl (by k_is) rfl rfl rfl); (case c5 => decide); (case kB => exact locs rfl); (case c2 => exact rfl); (case c3 => exact rfl); (case c4 => exact rfl))
  k_whole
  intro g' L' h' FG' F' N' B' X' T'
  (try dsimp only [List.reverse_cons, List.reverse_nil, List.nil_append, List.cons_append]); (try k_fold)
  k_with "call ref" =>
    ((with_reducible show wpAny _ _ (call (Value.ref 347) _) _ _ _); (rename News _ _ _ _ => kN); k_dflt (refine' literal_c (OUT := OUT) ?k1 ?k2 ?k3 (news_pick2 kN ?ka ?kb) ?k5 ?k6 ?kd ?ku ?kc1 ?kc2 ?kc3 ?kc4 ?kc5 ?kc6 ?kc7 ?kE ?kp ?kl ?_; (case k1 => k_asm); (case k2 => k_asm); (case k3 => k_asm); (case k5 => k_asm); (case k6 => first | exact rfl | assumption); (case ka => tb_start); (case kb => tb_start); (case kc1 => k_ne); (case kc2 => k_all); (case kc3 => kba_ints); (case kc4 => omega); (case kc5 => omega); (case kc6 => omega); (case kc7 => omega); (case kE => exact fun hno e g₂ h'' tk'' Fg R U => leave_onD' (by assumption) Fg R U fun h3 R' U' => hE (hno) _ _ _ _ (by assumption) R' U'); (case kp => omega); (case kl => assumption); (case kd => ktr_room); (case ku => ktr_units); k_whole); intro b' t' cs' p' u' h' tk' ho' hb' hp' he' F' N'; (try clear kN); (try k_sweep))
  k_steps
  exact hQ _ _ _ _ _ _ _ _ (by rename _ ∧ _ ∧ AllLt _ _ => lT; exact lT.2.2) ho' hb' (by assumption) (news_sub (by assumption) (by kcj_in))
theorem delim_hex_c {w : World} {dp un : Nat} {gd : Option (List Code)} {cn : Str} {cs : Scope} {a : Addr} {ccd : Value} {cl : List (Str × Addr)} {outer : List Env} {A₀ : Around} {base h₀ : Heap} {L : Addr} {m : Str → Option Value} {s : Shared} {Q E : Value → Shared → Prop} {mg mb : Str → Option Value} {mean : ExcName → Option Value} {loose : List Str} {c d : Addr} {H1 H2 H3 : Int} {t1 t2 t3 t4 t5 t6 : Tok} {data : Array UInt8} {ps en : Int} {ks : List Int} {rest : List (Addr × Obj)} {at_ : Int} {tcode tat : Tok} {OUT : Option (List Int × List Int)}
  (B : Below A₀ base outer h₀) (F : Fr h₀ L s.heap m) (X : (Mine.hd.heap_1 w.params).In h₀) (N : News h₀ L s.heap ((d, dictOf [⟨H1, .str (Str.ofString "data") t1, .bytes data t4⟩, ⟨H2, .str (Str.ofString "at") t2, .int ps t5⟩, ⟨H3, .str (Str.ofString "end") t3, .int en t6⟩] 3) :: (c, instObj 187 d) :: rest)) (T : Top Mine.view loose mean mg mb h₀) (hk : cs.kind = .function) (hd : dp + 60 < recursionLimit) (hu : un + 1000 < cLine) (hcd : c ≠ d) (hne : ∀ p ∈ rest, p.1 ≠ d) (hks : KBw.bInts data = ks) (h0 : 0 ≤ ps) (h1 : ps ≤ en) (h2 : en ≤ (ks.length : Int)) (h3 : ks.length ≤ 100000) (hin : ps < en) (hno1 : ¬ (pk ks ps en = 60 ∧ pk ks (ps + 1) en = 60)) (hno2 : ¬ (pk ks ps en = 62 ∧ pk ks (ps + 1) en = 62)) (hok : ∀ x ∈ rem ks (ps + 1) en, x = 62 ∨ 0 ≤ hexW x ∨ isWhite x = true) (hhx : hxL (rem ks (ps + 1) en) [] = OUT)  (hE : OUT = none → ∀ e g₂ h' tk', Fr h₀ L g₂ m → RaisedD base g₂ (envX cn cs L a ccd cl :: outer) e (ps + 1 - 1) (rest) h' → g₂.UpToSlots h' → E (.ref e) { s with heap := h', toks := tk' })
  (hQ : ∀ tu q1 b t' hv r h' tk', AllLt tu rest → OUT = some (hv, r) → KBw.bInts b = pairsL hv → Fr h₀ L h' m → News h₀ L h' ((tu, { cls := .type "tuple", data := .seq #[.str (Str.ofString "hex") q1, .bytes b t', .int at_ tat] }) :: rest) → Q (.ref tu) { s with heap := h', toks := tk' }) :
  wpAny (model Challenge.rw_nn0223_01.row.prog w) (ktrTop dp un gd cn cs L a ccd cl outer) (call (.ref 366) [.ref c, .int 60 tcode, .int at_ tat]) Q E s := by
  k_with_none
  w_top off
  k_with "MyPost" =>
    (dsimp only [MyPost])
  k_with "eval Call" =>
    ((with_reducible show wpAny _ _ (eval (Expr.Call (Expr.Name _ _) _ [] _) _) _ _ _); k_dflt (refine Call_ ?_))
  k_with "eval Call Attribute" =>
    ((with_reducible show wpAny _ _ (eval (Expr.Call (Expr.Attribute _ _ _) _ [] _) _) _ _ _); k_dflt (refine MethodCall_ ?_))
  k_with "compareOp In int ref" =>
    ((with_reducible show wpAny _ _ (compareOp CmpOp.In (Value.int _ _) (Value.ref 62)) _ _ _); refine in_tuple_ints (ns := [0, 9, 10, 12, 13, 32]) (tupK (Frag.In.keeps (by k_asm) (Fr.keep (by k_asm))) (by k_is)) (by repeat constructor) ?_)
  k_with "compareOp NotIn int ref" =>
    ((with_reducible show wpAny _ _ (compareOp CmpOp.NotIn (Value.int _ _) (Value.ref 62)) _ _ _); refine notin_tuple_ints (ns := [0, 9, 10, 12, 13, 32]) (tupK (Frag.In.keeps (by k_asm) (Fr.keep (by k_asm))) (by k_is)) (by repeat constructor) ?_)
  k_with "compareOp NotIn int ref" =>
    ((with_reducible show wpAny _ _ (compareOp CmpOp.NotIn (Value.int _ _) (Value.ref 63)) _ _ _); refine notin_tuple_ints (ns := [40, 41, 60, 62, 91, 93, 123, 125, 47, 37]) (tupK (Frag.In.keeps (by k_asm) (Fr.keep (by k_asm))) (by k_is)) (by repeat constructor) ?_)
  k_with "compareOp In int ref" =>
    ((with_reducible show wpAny _ _ (compareOp CmpOp.In (Value.int _ _) (Value.ref 304)) _ _ _); refine in_tuple_ints (ns := [91, 93, 123, 125]) (tupK (Frag.In.keeps (by k_asm) (Fr.keep (by k_asm))) (by k_is)) (by repeat constructor) ?_)
  k_with "call ref" =>
    ((with_reducible show wpAny _ _ (call (Value.ref 70) _) _ _ _); (rename News _ _ _ _ => kN); k_dflt (refine' is_white_c (by k_asm) (by k_asm) (by k_asm) kN (by k_asm) (by first | exact rfl | assumption) (by ktr_room) (by ktr_units)  ?_; k_whole); intro _ _ _ _; (try clear kN); (try k_sweep))
  k_with "call ref" =>
    ((with_reducible show wpAny _ _ (call (Value.ref 77) _) _ _ _); (rename News _ _ _ _ => kN); k_dflt (refine' is_regular_c (by k_asm) (by k_asm) (by k_asm) kN (by k_asm) (by first | exact rfl | assumption) (by ktr_room) (by ktr_units)  ?_; k_whole); intro _ _ _ _; (try clear kN); (try k_sweep))
  k_with "call ref" =>
    ((with_reducible show wpAny _ _ (call (Value.ref 311) _) _ _ _); (rename News _ _ _ _ => kN); k_dflt (refine' hex_worth_c (by k_asm) (by k_asm) (by k_asm) kN (by k_asm) (by first | exact rfl | assumption) (by ktr_room) (by ktr_units) (by omega) (by omega) ?_; k_whole); intro _ _ _ _ _ _ _ _; (try clear kN); (try k_sweep))
  k_with "call ref" =>
    ((with_reducible show wpAny _ _ (call (Value.ref 318) _) _ _ _); (rename News _ _ _ _ => kN); k_dflt (refine' plain_escape_c (by k_asm) (by k_asm) (by k_asm) kN (by k_asm) (by first | exact rfl | assumption) (by ktr_room) (by ktr_units)  ?_; k_whole); intro _ _ _ _ _ _ _; (try clear kN); (try k_sweep))
  k_with "call ref" =>
    ((with_reducible show wpAny _ _ (call (Value.ref 106) _) _ _ _); (rename News _ _ _ _ => kN); k_dflt (refine' is_done_c (by k_asm) (by k_asm) (by k_asm) (news_pick2 kN (by tb_start) (by tb_start)) (by k_asm) (by first | exact rfl | assumption) (by ktr_room) (by ktr_units) (by k_ne) (by k_all) (by kba_ints) (by omega) (by omega) (by omega) (by omega) ?_; k_whole); intro _ _ _ _; (try clear kN); (try k_sweep))
  k_with "call ref" =>
    ((with_reducible show wpAny _ _ (call (Value.ref 114) _) _ _ _); (rename News _ _ _ _ => kN); k_dflt (refine' peek_c (by k_asm) (by k_asm) (by k_asm) (news_pick2 kN (by tb_start) (by tb_start)) (by k_asm) (by first | exact rfl | assumption) (by ktr_room) (by ktr_units) (by k_ne) (by k_all) (by kba_ints) (by omega) (by omega) (by omega) (by omega) ?_; k_whole); intro _ _ _ _ _ _ _ _ _ _; (try clear kN); (try k_sweep))
  k_with "call ref" =>
    ((with_reducible show wpAny _ _ (call (Value.ref 121) _) _ _ _); (rename News _ _ _ _ => kN); k_dflt (refine' take_c (by k_asm) (by k_asm) (by k_asm) (news_pick2 kN (by tb_start) (by tb_start)) (by k_asm) (by first | exact rfl | assumption) (by ktr_room) (by ktr_units) (by k_ne) (by k_all) (by kba_ints) (by omega) (by omega) (by omega) (by omega) (by omega) ?_; k_whole); intro _ _ _ _ _ _ _ _ _ _; (try clear kN); (try k_sweep))
  k_with "call ref" =>
    ((with_reducible show wpAny _ _ (call (Value.ref 156) _) _ _ _); (rename News _ _ _ _ => kN); k_dflt (refine' skip_line_end_c (by k_asm) (by k_asm) (by k_asm) (news_pick2 kN (by tb_start) (by tb_start)) (by k_asm) (by first | exact rfl | assumption) (by ktr_room) (by ktr_units) (by k_ne) (by k_all) (by kba_ints) (by omega) (by omega) (by omega) (by omega) ?_; k_whole); intro _ _ _ _ _ _ _ _ _; (try clear kN); (rename_i hb' _ _); subst hb'; (try k_sweep))
  k_with "call ref" =>
    ((with_reducible show wpAny _ _ (call (Value.ref 128) [_, Value.bytes #[60, 60] _]) _ _ _); (rename News _ _ _ _ => kN); k_dflt (refine' starts_lt_c (by k_asm) (by k_asm) (by k_asm) (news_pick2 kN (by tb_start) (by tb_start)) (by k_asm) (by first | exact rfl | assumption) (by ktr_room) (by ktr_units) (by k_ne) (by k_all) (by kba_ints) (by omega) (by omega) (by omega) (by omega) (by assumption) ?_; k_whole); intro _ _ _ _; (try clear kN); (try k_sweep))
  k_with "call ref" =>
    ((with_reducible show wpAny _ _ (call (Value.ref 135) [_, Value.bytes #[60, 60] _]) _ _ _); (rename News _ _ _ _ => kN); k_dflt (refine' skip_lt_c (by k_asm) (by k_asm) (by k_asm) (news_pick2 kN (by tb_start) (by tb_start)) (by k_asm) (by first | exact rfl | assumption) (by ktr_room) (by ktr_units) (by k_ne) (by k_all) (by kba_ints) (by omega) (by omega) (by omega) (by omega) (by assumption) ?_; k_whole); intro _ _ _ _; (try clear kN); (try k_sweep))
  k_with "call ref" =>
    ((with_reducible show wpAny _ _ (call (Value.ref 128) [_, Value.bytes #[62, 62] _]) _ _ _); (rename News _ _ _ _ => kN); k_dflt (refine' starts_gt_c (by k_asm) (by k_asm) (by k_asm) (news_pick2 kN (by tb_start) (by tb_start)) (by k_asm) (by first | exact rfl | assumption) (by ktr_room) (by ktr_units) (by k_ne) (by k_all) (by kba_ints) (by omega) (by omega) (by omega) (by omega) (by assumption) ?_; k_whole); intro _ _ _ _; (try clear kN); (try k_sweep))
  k_with "call ref" =>
    ((with_reducible show wpAny _ _ (call (Value.ref 135) [_, Value.bytes #[62, 62] _]) _ _ _); (rename News _ _ _ _ => kN); k_dflt (refine' skip_gt_c (by k_asm) (by k_asm) (by k_asm) (news_pick2 kN (by tb_start) (by tb_start)) (by k_asm) (by first | exact rfl | assumption) (by ktr_room) (by ktr_units) (by k_ne) (by k_all) (by kba_ints) (by omega) (by omega) (by omega) (by omega) (by assumption) ?_; k_whole); intro _ _ _ _; (try clear kN); (try k_sweep))
  k_with "call ref" =>
    ((with_reducible show wpAny _ _ (call (Value.ref 142) _) _ _ _); (rename News _ _ _ _ => kN); k_dflt (refine' skip_white_c (by k_asm) (by k_asm) (by k_asm) (news_pick2 kN (by tb_start) (by tb_start)) (by k_asm) (by first | exact rfl | assumption) (by ktr_room) (by ktr_units) (by k_ne) (by k_all) (by kba_ints) (by omega) (by omega) (by omega) (by omega) ?_; k_whole); intro _ _ _ _ _ _ _ _ _; (try clear kN); (try k_sweep))
  k_with "call ref" =>
    ((with_reducible show wpAny _ _ (call (Value.ref 149) _) _ _ _); (rename News _ _ _ _ => kN); k_dflt (refine' take_regular_c (by k_asm) (by k_asm) (by k_asm) (news_pick2 kN (by tb_start) (by tb_start)) (by k_asm) (by first | exact rfl | assumption) (by ktr_room) (by ktr_units) (by k_ne) (by k_all) (by kba_ints) (by omega) (by omega) (by omega) (by omega) ?_; k_whole); intro _ _ _ _ _ _ _ _ _ _ _; (try clear kN); (try k_sweep))
  k_with "exec Raise some none" =>
    (k_dflt (refine raise_syn rfl ?_))
  k_with "call ref" =>
    ((with_reducible show wpAny _ _ (call (Value.ref 59) [_, _]) _ _ _); (rename News _ _ _ _ => kN); k_dflt (refine' syn_call (by k_asm) (by k_asm) (by k_asm) kN (by k_asm) (by first | exact rfl | assumption) (by ktr_room) (by ktr_units) ?_; k_whole); intro _ _ _ _ _ _ _ _ _ _ _ _ _ _ _; (try clear kN); (rename_i l1' l2' _ _); (have lSyn := SynNew.mk l1' l2'); (clear l1' l2'); (revert lSyn; intro _); (try k_sweep))
  refine wpAny_call ?_
  k_dflt (refine' code_def (binds := [((Str.ofString "cursor"), .ref c), ((Str.ofString "code"), .int 60 tcode), ((Str.ofString "at"), .int at_ tat)]) ?k1 ?k2 ?k3 ?k4 ?k5 ?kA ?kF ?kK ?k6 ?k7 ?k8 ?k9 ?kB ?_ ?c2 ?c3 ?c4 ?c5; (case kA => exact rfl); (case kF => exact rfl); (case kK => assumption); (case k1 => k_asm); (case k2 => k_asm); (case k3 => k_asm); (case k4 => k_asm); (case k5 => k_asm); (case k6 => k_is); (case k7 => k_is); (case k8 => ktr_room); (case k9 => first | exact BindsTo.of_eq rfl | exact binds_K (by k_in) rfl (by k_is) rfl rfl rfl); (case c5 => decide); (case kB => exact locs rfl); (case c2 => exact rfl); (case c3 => exact rfl); (case c4 => exact rfl))
  k_whole
  intro g' L' h' FG' F' N' B' X' T'
  (try dsimp only [List.reverse_cons, List.reverse_nil, List.nil_append, List.cons_append]); (try k_fold)
  k_with "call ref" =>
    ((with_reducible show wpAny _ _ (call (Value.ref 352) _) _ _ _); (rename News _ _ _ _ => kN); k_dflt (refine' hex_string_c (OUT := OUT) ?k1 ?k2 ?k3 (news_pick2 kN ?ka ?kb) ?k5 ?k6 ?kd ?ku ?kc1 ?kc2 ?kc3 ?kc4 ?kc5 ?kc6 ?kc7 ?kE ?kp ?kl ?km ?_; (case k1 => k_asm); (case k2 => k_asm); (case k3 => k_asm); (case k5 => k_asm); (case k6 => first | exact rfl | assumption); (case ka => tb_start); (case kb => tb_start); (case kc1 => k_ne); (case kc2 => k_all); (case kc3 => kba_ints); (case kc4 => omega); (case kc5 => omega); (case kc6 => omega); (case kc7 => omega); (case kE => exact fun hno e g₂ h'' tk'' Fg R U => leave_onD' (by assumption) Fg R U fun h3 R' U' => hE (hno) _ _ _ _ (by assumption) R' U'); (case kp => omega); (case kl => assumption); (case km => assumption); (case kd => ktr_room); (case ku => ktr_units); k_whole); intro b' t' hv' p' u' h' tk' ho' hb' hp' he' F' N'; (try clear kN); (try k_sweep))
  k_steps
  exact hQ _ _ _ _ _ _ _ _ (by rename _ ∧ _ ∧ AllLt _ _ => lT; exact lT.2.2) ho' hb' (by assumption) (news_sub (by assumption) (by kcj_in))
theorem delim_name_c {w : World} {dp un : Nat} {gd : Option (List Code)} {cn : Str} {cs : Scope} {a : Addr} {ccd : Value} {cl : List (Str × Addr)} {outer : List Env} {A₀ : Around} {base h₀ : Heap} {L : Addr} {m : Str → Option Value} {s : Shared} {Q E : Value → Shared → Prop} {mg mb : Str → Option Value} {mean : ExcName → Option Value} {loose : List Str} {c d : Addr} {H1 H2 H3 : Int} {t1 t2 t3 t4 t5 t6 : Tok} {data : Array UInt8} {ps en : Int} {ks : List Int} {rest : List (Addr × Obj)} {at_ : Int} {tcode tat : Tok} {OUT : Option (List Int)}
  (B : Below A₀ base outer h₀) (F : Fr h₀ L s.heap m) (X : (Mine.hd.heap_1 w.params).In h₀) (N : News h₀ L s.heap ((d, dictOf [⟨H1, .str (Str.ofString "data") t1, .bytes data t4⟩, ⟨H2, .str (Str.ofString "at") t2, .int ps t5⟩, ⟨H3, .str (Str.ofString "end") t3, .int en t6⟩] 3) :: (c, instObj 187 d) :: rest)) (T : Top Mine.view loose mean mg mb h₀) (hk : cs.kind = .function) (hd : dp + 60 < recursionLimit) (hu : un + 1000 < cLine) (hcd : c ≠ d) (hne : ∀ p ∈ rest, p.1 ≠ d) (hks : KBw.bInts data = ks) (h0 : 0 ≤ ps) (h1 : ps ≤ en) (h2 : en ≤ (ks.length : Int)) (h3 : ks.length ≤ 100000) (hin : ps < en) (hnt : ntL (((rem ks (ps + 1) en).takeWhile isRegular).length + 1) ((rem ks (ps + 1) en).takeWhile isRegular) [] = OUT)  (hE : OUT = none → ∀ e g₂ h' tk', Fr h₀ L g₂ m → RaisedD base g₂ (envX cn cs L a ccd cl :: outer) e (at_) (rest) h' → g₂.UpToSlots h' → E (.ref e) { s with heap := h', toks := tk' })
  (hQ : ∀ tu q1 cs' t' h' tk', AllLt tu rest → OUT = some cs' → Fr h₀ L h' m → News h₀ L h' ((tu, { cls := .type "tuple", data := .seq #[.str (Str.ofString "name") q1, .str (nmS cs') t', .int at_ tat] }) :: rest) → Q (.ref tu) { s with heap := h', toks := tk' }) :
  wpAny (model Challenge.rw_nn0223_01.row.prog w) (ktrTop dp un gd cn cs L a ccd cl outer) (call (.ref 366) [.ref c, .int 47 tcode, .int at_ tat]) Q E s := by
  k_with_none
  w_top off
  k_with "MyPost" =>
    (dsimp only [MyPost])
  k_with "eval Call" =>
    ((with_reducible show wpAny _ _ (eval (Expr.Call (Expr.Name _ _) _ [] _) _) _ _ _); k_dflt (refine Call_ ?_))
  k_with "eval Call Attribute" =>
    ((with_reducible show wpAny _ _ (eval (Expr.Call (Expr.Attribute _ _ _) _ [] _) _) _ _ _); k_dflt (refine MethodCall_ ?_))
  k_with "compareOp In int ref" =>
    ((with_reducible show wpAny _ _ (compareOp CmpOp.In (Value.int _ _) (Value.ref 62)) _ _ _); refine in_tuple_ints (ns := [0, 9, 10, 12, 13, 32]) (tupK (Frag.In.keeps (by k_asm) (Fr.keep (by k_asm))) (by k_is)) (by repeat constructor) ?_)
  k_with "compareOp NotIn int ref" =>
    ((with_reducible show wpAny _ _ (compareOp CmpOp.NotIn (Value.int _ _) (Value.ref 62)) _ _ _); refine notin_tuple_ints (ns := [0, 9, 10, 12, 13, 32]) (tupK (Frag.In.keeps (by k_asm) (Fr.keep (by k_asm))) (by k_is)) (by repeat constructor) ?_)
  k_with "compareOp NotIn int ref" =>
    ((with_reducible show wpAny _ _ (compareOp CmpOp.NotIn (Value.int _ _) (Value.ref 63)) _ _ _); refine notin_tuple_ints (ns := [40, 41, 60, 62, 91, 93, 123, 125, 47, 37]) (tupK (Frag.In.keeps (by k_asm) (Fr.keep (by k_asm))) (by k_is)) (by repeat constructor) ?_)
  k_with "compareOp In int ref" =>
    ((with_reducible show wpAny _ _ (compareOp CmpOp.In (Value.int _ _) (Value.ref 304)) _ _ _); refine in_tuple_ints (ns := [91, 93, 123, 125]) (tupK (Frag.In.keeps (by k_asm) (Fr.keep (by k_asm))) (by k_is)) (by repeat constructor) ?_)
  k_with "call ref" =>
    ((with_reducible show wpAny _ _ (call (Value.ref 70) _) _ _ _); (rename News _ _ _ _ => kN); k_dflt (refine' is_white_c (by k_asm) (by k_asm) (by k_asm) kN (by k_asm) (by first | exact rfl | assumption) (by ktr_room) (by ktr_units)  ?_; k_whole); intro _ _ _ _; (try clear kN); (try k_sweep))
  k_with "call ref" =>
    ((with_reducible show wpAny _ _ (call (Value.ref 77) _) _ _ _); (rename News _ _ _ _ => kN); k_dflt (refine' is_regular_c (by k_asm) (by k_asm) (by k_asm) kN (by k_asm) (by first | exact rfl | assumption) (by ktr_room) (by ktr_units)  ?_; k_whole); intro _ _ _ _; (try clear kN); (try k_sweep))
  k_with "call ref" =>
    ((with_reducible show wpAny _ _ (call (Value.ref 311) _) _ _ _); (rename News _ _ _ _ => kN); k_dflt (refine' hex_worth_c (by k_asm) (by k_asm) (by k_asm) kN (by k_asm) (by first | exact rfl | assumption) (by ktr_room) (by ktr_units) (by omega) (by omega) ?_; k_whole); intro _ _ _ _ _ _ _ _; (try clear kN); (try k_sweep))
  k_with "call ref" =>
    ((with_reducible show wpAny _ _ (call (Value.ref 318) _) _ _ _); (rename News _ _ _ _ => kN); k_dflt (refine' plain_escape_c (by k_asm) (by k_asm) (by k_asm) kN (by k_asm) (by first | exact rfl | assumption) (by ktr_room) (by ktr_units)  ?_; k_whole); intro _ _ _ _ _ _ _; (try clear kN); (try k_sweep))
  k_with "call ref" =>
    ((with_reducible show wpAny _ _ (call (Value.ref 106) _) _ _ _); (rename News _ _ _ _ => kN); k_dflt (refine' is_done_c (by k_asm) (by k_asm) (by k_asm) (news_pick2 kN (by tb_start) (by tb_start)) (by k_asm) (by first | exact rfl | assumption) (by ktr_room) (by ktr_units) (by k_ne) (by k_all) (by kba_ints) (by omega) (by omega) (by omega) (by omega) ?_; k_whole); intro _ _ _ _; (try clear kN); (try k_sweep))
  k_with "call ref" =>
    ((with_reducible show wpAny _ _ (call (Value.ref 114) _) _ _ _); (rename News _ _ _ _ => kN); k_dflt (refine' peek_c (by k_asm) (by k_asm) (by k_asm) (news_pick2 kN (by tb_start) (by tb_start)) (by k_asm) (by first | exact rfl | assumption) (by ktr_room) (by ktr_units) (by k_ne) (by k_all) (by kba_ints) (by omega) (by omega) (by omega) (by omega) ?_; k_whole); intro _ _ _ _ _ _ _ _ _ _; (try clear kN); (try k_sweep))
  k_with "call ref" =>
    ((with_reducible show wpAny _ _ (call (Value.ref 121) _) _ _ _); (rename News _ _ _ _ => kN); k_dflt (refine' take_c (by k_asm) (by k_asm) (by k_asm) (news_pick2 kN (by tb_start) (by tb_start)) (by k_asm) (by first | exact rfl | assumption) (by ktr_room) (by ktr_units) (by k_ne) (by k_all) (by kba_ints) (by omega) (by omega) (by omega) (by omega) (by omega) ?_; k_whole); intro _ _ _ _ _ _ _ _ _ _; (try clear kN); (try k_sweep))
  k_with "call ref" =>
    ((with_reducible show wpAny _ _ (call (Value.ref 156) _) _ _ _); (rename News _ _ _ _ => kN); k_dflt (refine' skip_line_end_c (by k_asm) (by k_asm) (by k_asm) (news_pick2 kN (by tb_start) (by tb_start)) (by k_asm) (by first | exact rfl | assumption) (by ktr_room) (by ktr_units) (by k_ne) (by k_all) (by kba_ints) (by omega) (by omega) (by omega) (by omega) ?_; k_whole); intro _ _ _ _ _ _ _ _ _; (try clear kN); (rename_i hb' _ _); subst hb'; (try k_sweep))
  k_with "call ref" =>
    ((with_reducible show wpAny _ _ (call (Value.ref 128) [_, Value.bytes #[60, 60] _]) _ _ _); (rename News _ _ _ _ => kN); k_dflt (refine' starts_lt_c (by k_asm) (by k_asm) (by k_asm) (news_pick2 kN (by tb_start) (by tb_start)) (by k_asm) (by first | exact rfl | assumption) (by ktr_room) (by ktr_units) (by k_ne) (by k_all) (by kba_ints) (by omega) (by omega) (by omega) (by omega) (by assumption) ?_; k_whole); intro _ _ _ _; (try clear kN); (try k_sweep))
  k_with "call ref" =>
    ((with_reducible show wpAny _ _ (call (Value.ref 135) [_, Value.bytes #[60, 60] _]) _ _ _); (rename News _ _ _ _ => kN); k_dflt (refine' skip_lt_c (by k_asm) (by k_asm) (by k_asm) (news_pick2 kN (by tb_start) (by tb_start)) (by k_asm) (by first | exact rfl | assumption) (by ktr_room) (by ktr_units) (by k_ne) (by k_all) (by kba_ints) (by omega) (by omega) (by omega) (by omega) (by assumption) ?_; k_whole); intro _ _ _ _; (try clear kN); (try k_sweep))
  k_with "call ref" =>
    ((with_reducible show wpAny _ _ (call (Value.ref 128) [_, Value.bytes #[62, 62] _]) _ _ _); (rename News _ _ _ _ => kN); k_dflt (refine' starts_gt_c (by k_asm) (by k_asm) (by k_asm) (news_pick2 kN (by tb_start) (by tb_start)) (by k_asm) (by first | exact rfl | assumption) (by ktr_room) (by ktr_units) (by k_ne) (by k_all) (by kba_ints) (by omega) (by omega) (by omega) (by omega) (by assumption) ?_; k_whole); intro _ _ _ _; (try clear kN); (try k_sweep))
  k_with "call ref" =>
    ((with_reducible show wpAny _ _ (call (Value.ref 135) [_, Value.bytes #[62, 62] _]) _ _ _); (rename News _ _ _ _ => kN); k_dflt (refine' skip_gt_c (by k_asm) (by k_asm) (by k_asm) (news_pick2 kN (by tb_start) (by tb_start)) (by k_asm) (by first | exact rfl | assumption) (by ktr_room) (by ktr_units) (by k_ne) (by k_all) (by kba_ints) (by omega) (by omega) (by omega) (by omega) (by assumption) ?_; k_whole); intro _ _ _ _; (try clear kN); (try k_sweep))
  k_with "call ref" =>
    ((with_reducible show wpAny _ _ (call (Value.ref 142) _) _ _ _); (rename News _ _ _ _ => kN); k_dflt (refine' skip_white_c (by k_asm) (by k_asm) (by k_asm) (news_pick2 kN (by tb_start) (by tb_start)) (by k_asm) (by first | exact rfl | assumption) (by ktr_room) (by ktr_units) (by k_ne) (by k_all) (by kba_ints) (by omega) (by omega) (by omega) (by omega) ?_; k_whole); intro _ _ _ _ _ _ _ _ _; (try clear kN); (try k_sweep))
  k_with "call ref" =>
    ((with_reducible show wpAny _ _ (call (Value.ref 149) _) _ _ _); (rename News _ _ _ _ => kN); k_dflt (refine' take_regular_c (by k_asm) (by k_asm) (by k_asm) (news_pick2 kN (by tb_start) (by tb_start)) (by k_asm) (by first | exact rfl | assumption) (by ktr_room) (by ktr_units) (by k_ne) (by k_all) (by kba_ints) (by omega) (by omega) (by omega) (by omega) ?_; k_whole); intro _ _ _ _ _ _ _ _ _ _ _; (try clear kN); (try k_sweep))
  k_with "exec Raise some none" =>
    (k_dflt (refine raise_syn rfl ?_))
  k_with "call ref" =>
    ((with_reducible show wpAny _ _ (call (Value.ref 59) [_, _]) _ _ _); (rename News _ _ _ _ => kN); k_dflt (refine' syn_call (by k_asm) (by k_asm) (by k_asm) kN (by k_asm) (by first | exact rfl | assumption) (by ktr_room) (by ktr_units) ?_; k_whole); intro _ _ _ _ _ _ _ _ _ _ _ _ _ _ _; (try clear kN); (rename_i l1' l2' _ _); (have lSyn := SynNew.mk l1' l2'); (clear l1' l2'); (revert lSyn; intro _); (try k_sweep))
  refine wpAny_call ?_
  k_dflt (refine' code_def (binds := [((Str.ofString "cursor"), .ref c), ((Str.ofString "code"), .int 47 tcode), ((Str.ofString "at"), .int at_ tat)]) ?k1 ?k2 ?k3 ?k4 ?k5 ?kA ?kF ?kK ?k6 ?k7 ?k8 ?k9 ?kB ?_ ?c2 ?c3 ?c4 ?c5; (case kA => exact rfl); (case kF => exact rfl); (case kK => assumption); (case k1 => k_asm); (case k2 => k_asm); (case k3 => k_asm); (case k4 => k_asm); (case k5 => k_asm); (case k6 => k_is); (case k7 => k_is); (case k8 => ktr_room); (case k9 => first | exact BindsTo.of_eq rfl | exact binds_K (by k_in) rfl (by k_is) rfl rfl rfl); (case c5 => decide); (case kB => exact locs rfl); (case c2 => exact rfl); (case c3 => exact rfl); (case c4 => exact rfl))
  k_whole
  intro g' L' h' FG' F' N' B' X' T'
  (try dsimp only [List.reverse_cons, List.reverse_nil, List.nil_append, List.cons_append]); (try k_fold)
  k_with "call ref" =>
    ((with_reducible show wpAny _ _ (call (Value.ref 326) _) _ _ _); (rename News _ _ _ _ => kN); k_dflt (refine' name_text_c (OUT := OUT) ?k1 ?k2 ?k3 kN ?k5 ?k6 ?kd ?ku ?kar ?kks ?kl3 ?kE ?knt ?_; (case k1 => k_asm); (case k2 => k_asm); (case k3 => k_asm); (case k5 => k_asm); (case k6 => first | exact rfl | assumption); (case kar => exact .inl rfl); (case kks => assumption); (case kl3 => exact tw_len h3); (case kE => exact fun hno e g₂ h'' tk'' Fg R U => leave_onD' (by assumption) Fg R U fun h3 R' U' => hE (hno) _ _ _ _ (by assumption) (R'.sub (by kcj_in)) U'); (case knt => assumption); (case kd => ktr_room); (case ku => ktr_units); k_whole); intro cs' h' tk' t' ho' F' N'; (try clear kN); (try k_sweep))
  k_steps
  exact hQ _ _ _ _ _ _ (by rename _ ∧ _ ∧ AllLt _ _ => lT; exact lT.2.2) ho' (by assumption) (news_sub (by assumption) (by kcj_in))
theorem next_string_c {w : World} {dp un : Nat} {gd : Option (List Code)} {cn : Str} {cs : Scope} {a : Addr} {ccd : Value} {cl : List (Str × Addr)} {outer : List Env} {A₀ : Around} {base h₀ : Heap} {L : Addr} {m : Str → Option Value} {s : Shared} {Q E : Value → Shared → Prop} {mg mb : Str → Option Value} {mean : ExcName → Option Value} {loose : List Str} {c d : Addr} {H1 H2 H3 : Int} {t1 t2 t3 t4 t5 t6 : Tok} {data : Array UInt8} {ps en : Int} {ks : List Int} {rest : List (Addr × Obj)} {r : List Int} {OUT : Option (List Int × List Int)}
  (B : Below A₀ base outer h₀) (F : Fr h₀ L s.heap m) (X : (Mine.hd.heap_1 w.params).In h₀) (N : News h₀ L s.heap ((d, dictOf [⟨H1, .str (Str.ofString "data") t1, .bytes data t4⟩, ⟨H2, .str (Str.ofString "at") t2, .int ps t5⟩, ⟨H3, .str (Str.ofString "end") t3, .int en t6⟩] 3) :: (c, instObj 187 d) :: rest)) (T : Top Mine.view loose mean mg mb h₀) (hk : cs.kind = .function) (hd : dp + 80 < recursionLimit) (hu : un + 2000 < cLine) (hcd : c ≠ d) (hne : ∀ p ∈ rest, p.1 ≠ d) (hks : KBw.bInts data = ks) (h0 : 0 ≤ ps) (h1 : ps ≤ en) (h2 : en ≤ (ks.length : Int)) (h3 : ks.length ≤ 100000) (hsw : swL false (rem ks ps en) = 40 :: r) (hlit : litL (r.length + 1) r 1 [] = OUT)  (hE : OUT = none → ∀ e g₂ h' tk', Fr h₀ L g₂ m → RaisedD base g₂ (envX cn cs L a ccd cl :: outer) e (en - ((r.length : Int) + 1)) (rest) h' → g₂.UpToSlots h' → E (.ref e) { s with heap := h', toks := tk' })
  (hQ : ∀ tu q1 at_ tat b t' cs' r2 h' tk', AllLt tu rest → at_ = en - ((r.length : Int) + 1) → OUT = some (cs', r2) → KBw.bInts b = cs' → Fr h₀ L h' m → News h₀ L h' ((tu, { cls := .type "tuple", data := .seq #[.str (Str.ofString "string") q1, .bytes b t', .int at_ tat] }) :: rest) → Q (.ref tu) { s with heap := h', toks := tk' }) :
  wpAny (model Challenge.rw_nn0223_01.row.prog w) (ktrTop dp un gd cn cs L a ccd cl outer) (call (.ref 373) [.ref c]) Q E s := by
  k_with_none
  w_top off
  k_with "MyPost" =>
    (dsimp only [MyPost])
  k_with "eval Call" =>
    ((with_reducible show wpAny _ _ (eval (Expr.Call (Expr.Name _ _) _ [] _) _) _ _ _); k_dflt (refine Call_ ?_))
  k_with "eval Call Attribute" =>
    ((with_reducible show wpAny _ _ (eval (Expr.Call (Expr.Attribute _ _ _) _ [] _) _) _ _ _); k_dflt (refine MethodCall_ ?_))
  k_with "compareOp In int ref" =>
    ((with_reducible show wpAny _ _ (compareOp CmpOp.In (Value.int _ _) (Value.ref 62)) _ _ _); refine in_tuple_ints (ns := [0, 9, 10, 12, 13, 32]) (tupK (Frag.In.keeps (by k_asm) (Fr.keep (by k_asm))) (by k_is)) (by repeat constructor) ?_)
  k_with "compareOp NotIn int ref" =>
    ((with_reducible show wpAny _ _ (compareOp CmpOp.NotIn (Value.int _ _) (Value.ref 62)) _ _ _); refine notin_tuple_ints (ns := [0, 9, 10, 12, 13, 32]) (tupK (Frag.In.keeps (by k_asm) (Fr.keep (by k_asm))) (by k_is)) (by repeat constructor) ?_)
  k_with "compareOp NotIn int ref" =>
    ((with_reducible show wpAny _ _ (compareOp CmpOp.NotIn (Value.int _ _) (Value.ref 63)) _ _ _); refine notin_tuple_ints (ns := [40, 41, 60, 62, 91, 93, 123, 125, 47, 37]) (tupK (Frag.In.keeps (by k_asm) (Fr.keep (by k_asm))) (by k_is)) (by repeat constructor) ?_)
  k_with "compareOp In int ref" =>
    ((with_reducible show wpAny _ _ (compareOp CmpOp.In (Value.int _ _) (Value.ref 304)) _ _ _); refine in_tuple_ints (ns := [91, 93, 123, 125]) (tupK (Frag.In.keeps (by k_asm) (Fr.keep (by k_asm))) (by k_is)) (by repeat constructor) ?_)
  k_with "call ref" =>
    ((with_reducible show wpAny _ _ (call (Value.ref 70) _) _ _ _); (rename News _ _ _ _ => kN); k_dflt (refine' is_white_c (by k_asm) (by k_asm) (by k_asm) kN (by k_asm) (by first | exact rfl | assumption) (by ktr_room) (by ktr_units)  ?_; k_whole); intro _ _ _ _; (try clear kN); (try k_sweep))
  k_with "call ref" =>
    ((with_reducible show wpAny _ _ (call (Value.ref 77) _) _ _ _); (rename News _ _ _ _ => kN); k_dflt (refine' is_regular_c (by k_asm) (by k_asm) (by k_asm) kN (by k_asm) (by first | exact rfl | assumption) (by ktr_room) (by ktr_units)  ?_; k_whole); intro _ _ _ _; (try clear kN); (try k_sweep))
  k_with "call ref" =>
    ((with_reducible show wpAny _ _ (call (Value.ref 311) _) _ _ _); (rename News _ _ _ _ => kN); k_dflt (refine' hex_worth_c (by k_asm) (by k_asm) (by k_asm) kN (by k_asm) (by first | exact rfl | assumption) (by ktr_room) (by ktr_units) (by omega) (by omega) ?_; k_whole); intro _ _ _ _ _ _ _ _; (try clear kN); (try k_sweep))
  k_with "call ref" =>
    ((with_reducible show wpAny _ _ (call (Value.ref 318) _) _ _ _); (rename News _ _ _ _ => kN); k_dflt (refine' plain_escape_c (by k_asm) (by k_asm) (by k_asm) kN (by k_asm) (by first | exact rfl | assumption) (by ktr_room) (by ktr_units)  ?_; k_whole); intro _ _ _ _ _ _ _; (try clear kN); (try k_sweep))
  k_with "call ref" =>
    ((with_reducible show wpAny _ _ (call (Value.ref 106) _) _ _ _); (rename News _ _ _ _ => kN); k_dflt (refine' is_done_c (by k_asm) (by k_asm) (by k_asm) (news_pick2 kN (by tb_start) (by tb_start)) (by k_asm) (by first | exact rfl | assumption) (by ktr_room) (by ktr_units) (by k_ne) (by k_all) (by kba_ints) (by omega) (by omega) (by omega) (by omega) ?_; k_whole); intro _ _ _ _; (try clear kN); (try k_sweep))
  k_with "call ref" =>
    ((with_reducible show wpAny _ _ (call (Value.ref 114) _) _ _ _); (rename News _ _ _ _ => kN); k_dflt (refine' peek_c (by k_asm) (by k_asm) (by k_asm) (news_pick2 kN (by tb_start) (by tb_start)) (by k_asm) (by first | exact rfl | assumption) (by ktr_room) (by ktr_units) (by k_ne) (by k_all) (by kba_ints) (by omega) (by omega) (by omega) (by omega) ?_; k_whole); intro _ _ _ _ _ _ _ _ _ _; (try clear kN); (try k_sweep))
  k_with "call ref" =>
    ((with_reducible show wpAny _ _ (call (Value.ref 121) _) _ _ _); (rename News _ _ _ _ => kN); k_dflt (refine' take_c (by k_asm) (by k_asm) (by k_asm) (news_pick2 kN (by tb_start) (by tb_start)) (by k_asm) (by first | exact rfl | assumption) (by ktr_room) (by ktr_units) (by k_ne) (by k_all) (by kba_ints) (by omega) (by omega) (by omega) (by omega) (by omega) ?_; k_whole); intro _ _ _ _ _ _ _ _ _ _; (try clear kN); (try k_sweep))
  k_with "call ref" =>
    ((with_reducible show wpAny _ _ (call (Value.ref 156) _) _ _ _); (rename News _ _ _ _ => kN); k_dflt (refine' skip_line_end_c (by k_asm) (by k_asm) (by k_asm) (news_pick2 kN (by tb_start) (by tb_start)) (by k_asm) (by first | exact rfl | assumption) (by ktr_room) (by ktr_units) (by k_ne) (by k_all) (by kba_ints) (by omega) (by omega) (by omega) (by omega) ?_; k_whole); intro _ _ _ _ _ _ _ _ _; (try clear kN); (rename_i hb' _ _); subst hb'; (try k_sweep))
  k_with "call ref" =>
    ((with_reducible show wpAny _ _ (call (Value.ref 128) [_, Value.bytes #[60, 60] _]) _ _ _); (rename News _ _ _ _ => kN); k_dflt (refine' starts_lt_c (by k_asm) (by k_asm) (by k_asm) (news_pick2 kN (by tb_start) (by tb_start)) (by k_asm) (by first | exact rfl | assumption) (by ktr_room) (by ktr_units) (by k_ne) (by k_all) (by kba_ints) (by omega) (by omega) (by omega) (by omega) (by assumption) ?_; k_whole); intro _ _ _ _; (try clear kN); (try k_sweep))
  k_with "call ref" =>
    ((with_reducible show wpAny _ _ (call (Value.ref 135) [_, Value.bytes #[60, 60] _]) _ _ _); (rename News _ _ _ _ => kN); k_dflt (refine' skip_lt_c (by k_asm) (by k_asm) (by k_asm) (news_pick2 kN (by tb_start) (by tb_start)) (by k_asm) (by first | exact rfl | assumption) (by ktr_room) (by ktr_units) (by k_ne) (by k_all) (by kba_ints) (by omega) (by omega) (by omega) (by omega) (by assumption) ?_; k_whole); intro _ _ _ _; (try clear kN); (try k_sweep))
  k_with "call ref" =>
    ((with_reducible show wpAny _ _ (call (Value.ref 128) [_, Value.bytes #[62, 62] _]) _ _ _); (rename News _ _ _ _ => kN); k_dflt (refine' starts_gt_c (by k_asm) (by k_asm) (by k_asm) (news_pick2 kN (by tb_start) (by tb_start)) (by k_asm) (by first | exact rfl | assumption) (by ktr_room) (by ktr_units) (by k_ne) (by k_all) (by kba_ints) (by omega) (by omega) (by omega) (by omega) (by assumption) ?_; k_whole); intro _ _ _ _; (try clear kN); (try k_sweep))
  k_with "call ref" =>
    ((with_reducible show wpAny _ _ (call (Value.ref 135) [_, Value.bytes #[62, 62] _]) _ _ _); (rename News _ _ _ _ => kN); k_dflt (refine' skip_gt_c (by k_asm) (by k_asm) (by k_asm) (news_pick2 kN (by tb_start) (by tb_start)) (by k_asm) (by first | exact rfl | assumption) (by ktr_room) (by ktr_units) (by k_ne) (by k_all) (by kba_ints) (by omega) (by omega) (by omega) (by omega) (by assumption) ?_; k_whole); intro _ _ _ _; (try clear kN); (try k_sweep))
  k_with "call ref" =>
    ((with_reducible show wpAny _ _ (call (Value.ref 142) _) _ _ _); (rename News _ _ _ _ => kN); k_dflt (refine' skip_white_c (by k_asm) (by k_asm) (by k_asm) (news_pick2 kN (by tb_start) (by tb_start)) (by k_asm) (by first | exact rfl | assumption) (by ktr_room) (by ktr_units) (by k_ne) (by k_all) (by kba_ints) (by omega) (by omega) (by omega) (by omega) ?_; k_whole); intro _ _ _ _ _ _ _ _ _; (try clear kN); (try k_sweep))
  k_with "call ref" =>
    ((with_reducible show wpAny _ _ (call (Value.ref 149) _) _ _ _); (rename News _ _ _ _ => kN); k_dflt (refine' take_regular_c (by k_asm) (by k_asm) (by k_asm) (news_pick2 kN (by tb_start) (by tb_start)) (by k_asm) (by first | exact rfl | assumption) (by ktr_room) (by ktr_units) (by k_ne) (by k_all) (by kba_ints) (by omega) (by omega) (by omega) (by omega) ?_; k_whole); intro _ _ _ _ _ _ _ _ _ _ _; (try clear kN); (try k_sweep))
  k_with "exec Raise some none" =>
    (k_dflt (refine raise_syn rfl ?_))
  k_with "call ref" =>
    ((with_reducible show wpAny _ _ (call (Value.ref 59) [_, _]) _ _ _); (rename News _ _ _ _ => kN); k_dflt (refine' syn_call (by k_asm) (by k_asm) (by k_asm) kN (by k_asm) (by first | exact rfl | assumption) (by ktr_room) (by ktr_units) ?_; k_whole); intro _ _ _ _ _ _ _ _ _ _ _ _ _ _ _; (try clear kN); (rename_i l1' l2' _ _); (have lSyn := SynNew.mk l1' l2'); (clear l1' l2'); (revert lSyn; intro _); (try k_sweep))
  refine wpAny_call ?_
  k_dflt (refine' code_def (binds := [((Str.ofString "cursor"), .ref c)]) ?k1 ?k2 ?k3 ?k4 ?k5 ?kA ?kF ?kK ?k6 ?k7 ?k8 ?k9 ?kB ?_ ?c2 ?c3 ?c4 ?c5; (case kA => exact rfl); (case kF => exact rfl); (case kK => assumption); (case k1 => k_asm); (case k2 => k_asm); (case k3 => k_asm); (case k4 => k_asm); (case k5 => k_asm); (case k6 => k_is); (case k7 => k_is); (case k8 => ktr_room); (case k9 => first | exact BindsTo.of_eq rfl | exact binds_K (by k_in) rfl (by k_is) rfl rfl rfl); (case c5 => decide); (case kB => exact locs rfl); (case c2 => exact rfl); (case c3 => exact rfl); (case c4 => exact rfl))
  k_whole
  intro g' L' h' FG' F' N' B' X' T'
  (try dsimp only [List.reverse_cons, List.reverse_nil, List.nil_append, List.cons_append]); (try k_fold)
  k_with "call ref" => first
    | ((with_reducible show wpAny _ _ (call (Value.ref 142) _) _ _ _); (rename News _ _ _ _ => kN); k_dflt (refine' skip_white_c ?k1 ?k2 ?k3 (news_pick2 kN ?ka ?kb) ?k5 ?k6 ?kd ?ku ?kc1 ?kc2 ?kc3 ?kc4 ?kc5 ?kc6 ?kc7 ?_; (case k1 => k_asm); (case k2 => k_asm); (case k3 => k_asm); (case k5 => k_asm); (case k6 => first | exact rfl | assumption); (case ka => tb_start); (case kb => tb_start); (case kc1 => k_ne); (case kc2 => k_all); (case kc3 => kba_ints); (case kc4 => omega); (case kc5 => omega); (case kc6 => omega); (case kc7 => omega); (case kd => ktr_room); (case ku => ktr_units); k_whole); intro p' t' h' tk' hr' hp' he' F' N'; (try clear kN); (have hpk := pk_head (by omega) h2 (hr'.trans hsw)); (obtain ⟨hat, hlt, hr1⟩ := at_head (by omega) h2 (hr'.trans hsw)); (try k_sweep))
    | ((with_reducible show wpAny _ _ (call (Value.ref 114) _) _ _ _); (rename News _ _ _ _ => kN); k_dflt (refine' peek_c ?k1 ?k2 ?k3 (news_pick2 kN ?ka ?kb) ?k5 ?k6 ?kd ?ku ?kc1 ?kc2 ?kc3 ?kc4 ?kc5 ?kc6 ?kc7 ?_; (case k1 => k_asm); (case k2 => k_asm); (case k3 => k_asm); (case k5 => k_asm); (case k6 => first | exact rfl | assumption); (case ka => tb_start); (case kb => tb_start); (case kc1 => k_ne); (case kc2 => k_all); (case kc3 => kba_ints); (case kc4 => omega); (case kc5 => omega); (case kc6 => omega); (case kc7 => omega); (case kd => ktr_room); (case ku => ktr_units); k_whole); intro v' t' h' tk' hv' hl' hu' hp' F' N'; (try clear kN); (rw [hpk] at hv'; subst hv'; clear hl' hu' hp'); (try k_sweep))
    | ((with_reducible show wpAny _ _ (call (Value.ref 366) _) _ _ _); (rename News _ _ _ _ => kN); k_dflt (refine' delim_string_c (OUT := OUT) ?k1 ?k2 ?k3 (news_pick2 kN ?ka ?kb) ?k5 ?k6 ?kd ?ku ?kc1 ?kc2 ?kc3 ?kc4 ?kc5 ?kc6 ?kc7 ?kin ?kx1 ?kE ?_; (case k1 => k_asm); (case k2 => k_asm); (case k3 => k_asm); (case k5 => k_asm); (case k6 => first | exact rfl | assumption); (case ka => tb_start); (case kb => tb_start); (case kc1 => k_ne); (case kc2 => k_all); (case kc3 => kba_ints); (case kc4 => omega); (case kc5 => omega); (case kc6 => omega); (case kc7 => omega); (case kin => omega); (case kx1 => (rw [hr1]; exact (by rw [show (en - (p' + 1)).toNat = r.length from by omega]; exact hlit))); (case kE => exact fun hno e g₂ h'' tk'' Fg R U => leave_onD' (by assumption) Fg R U fun h3 R' U' => hE hno _ _ _ _ (by assumption) (by have e5 := hat; (first | (rw [show p' + 1 - 1 = en - ((r.length : Int) + 1) from by omega] at R'; exact R') | (rw [hat] at R'; exact R') | exact R')) U'); (case kd => ktr_room); (case ku => ktr_units); k_whole); intro tu' q1' b' t' cs' r2' h' tk' lt' ho' hb' F' N'; (try clear kN); (try k_sweep))
  k_steps
  exact hQ _ _ _ _ _ _ _ _ _ _ lt' hat ho' hb' (by assumption) (by assumption)
theorem next_hex_c {w : World} {dp un : Nat} {gd : Option (List Code)} {cn : Str} {cs : Scope} {a : Addr} {ccd : Value} {cl : List (Str × Addr)} {outer : List Env} {A₀ : Around} {base h₀ : Heap} {L : Addr} {m : Str → Option Value} {s : Shared} {Q E : Value → Shared → Prop} {mg mb : Str → Option Value} {mean : ExcName → Option Value} {loose : List Str} {c d : Addr} {H1 H2 H3 : Int} {t1 t2 t3 t4 t5 t6 : Tok} {data : Array UInt8} {ps en : Int} {ks : List Int} {rest : List (Addr × Obj)} {r : List Int} {OUT : Option (List Int × List Int)}
  (B : Below A₀ base outer h₀) (F : Fr h₀ L s.heap m) (X : (Mine.hd.heap_1 w.params).In h₀) (N : News h₀ L s.heap ((d, dictOf [⟨H1, .str (Str.ofString "data") t1, .bytes data t4⟩, ⟨H2, .str (Str.ofString "at") t2, .int ps t5⟩, ⟨H3, .str (Str.ofString "end") t3, .int en t6⟩] 3) :: (c, instObj 187 d) :: rest)) (T : Top Mine.view loose mean mg mb h₀) (hk : cs.kind = .function) (hd : dp + 80 < recursionLimit) (hu : un + 2000 < cLine) (hcd : c ≠ d) (hne : ∀ p ∈ rest, p.1 ≠ d) (hks : KBw.bInts data = ks) (h0 : 0 ≤ ps) (h1 : ps ≤ en) (h2 : en ≤ (ks.length : Int)) (h3 : ks.length ≤ 100000) (hsw : swL false (rem ks ps en) = 60 :: r) (hno1 : r.headD (-1) ≠ 60) (hok : ∀ x ∈ r, x = 62 ∨ 0 ≤ hexW x ∨ isWhite x = true) (hhx : hxL r [] = OUT)  (hE : OUT = none → ∀ e g₂ h' tk', Fr h₀ L g₂ m → RaisedD base g₂ (envX cn cs L a ccd cl :: outer) e (en - ((r.length : Int) + 1)) (rest) h' → g₂.UpToSlots h' → E (.ref e) { s with heap := h', toks := tk' })
  (hQ : ∀ tu q1 at_ tat b t' hv r2 h' tk', AllLt tu rest → at_ = en - ((r.length : Int) + 1) → OUT = some (hv, r2) → KBw.bInts b = pairsL hv → Fr h₀ L h' m → News h₀ L h' ((tu, { cls := .type "tuple", data := .seq #[.str (Str.ofString "hex") q1, .bytes b t', .int at_ tat] }) :: rest) → Q (.ref tu) { s with heap := h', toks := tk' }) :
  wpAny (model Challenge.rw_nn0223_01.row.prog w) (ktrTop dp un gd cn cs L a ccd cl outer) (call (.ref 373) [.ref c]) Q E s := by
  k_with_none
  w_top off
  k_with "MyPost" =>
    (dsimp only [MyPost])
  k_with "eval Call" =>
    ((with_reducible show wpAny _ _ (eval (Expr.Call (Expr.Name _ _) _ [] _) _) _ _ _); k_dflt (refine Call_ ?_))
  k_with "eval Call Attribute" =>
    ((with_reducible show wpAny _ _ (eval (Expr.Call (Expr.Attribute _ _ _) _ [] _) _) _ _ _); k_dflt (refine MethodCall_ ?_))
  k_with "compareOp In int ref" =>
    ((with_reducible show wpAny _ _ (compareOp CmpOp.In (Value.int _ _) (Value.ref 62)) _ _ _); refine in_tuple_ints (ns := [0, 9, 10, 12, 13, 32]) (tupK (Frag.In.keeps (by k_asm) (Fr.keep (by k_asm))) (by k_is)) (by repeat constructor) ?_)
  k_with "compareOp NotIn int ref" =>
    ((with_reducible show wpAny _ _ (compareOp CmpOp.NotIn (Value.int _ _) (Value.ref 62)) _ _ _); refine notin_tuple_ints (ns := [0, 9, 10, 12, 13, 32]) (tupK (Frag.In.keeps (by k_asm) (Fr.keep (by k_asm))) (by k_is)) (by repeat constructor) ?_)
  k_with "compareOp NotIn int ref" =>
    ((with_reducible show wpAny _ _ (compareOp CmpOp.NotIn (Value.int _ _) (Value.ref 63)) _ _ _); refine notin_tuple_ints (ns := [40, 41, 60, 62, 91, 93, 123, 125, 47, 37]) (tupK (Frag.In.keeps (by k_asm) (Fr.keep (by k_asm))) (by k_is)) (by repeat constructor) ?_)
  k_with "compareOp In int ref" =>
    ((with_reducible show wpAny _ _ (compareOp CmpOp.In (Value.int _ _) (Value.ref 304)) _ _ _); refine in_tuple_ints (ns := [91, 93, 123, 125]) (tupK (Frag.In.keeps (by k_asm) (Fr.keep (by k_asm))) (by k_is)) (by repeat constructor) ?_)
  k_with "call ref" =>
    ((with_reducible show wpAny _ _ (call (Value.ref 70) _) _ _ _); (rename News _ _ _ _ => kN); k_dflt (refine' is_white_c (by k_asm) (by k_asm) (by k_asm) kN (by k_asm) (by first | exact rfl | assumption) (by ktr_room) (by ktr_units)  ?_; k_whole); intro _ _ _ _; (try clear kN); (try k_sweep))
  k_with "call ref" =>
    ((with_reducible show wpAny _ _ (call (Value.ref 77) _) _ _ _); (rename News _ _ _ _ => kN); k_dflt (refine' is_regular_c (by k_asm) (by k_asm) (by k_asm) kN (by k_asm) (by first | exact rfl | assumption) (by ktr_room) (by ktr_units)  ?_; k_whole); intro _ _ _ _; (try clear kN); (try k_sweep))
  k_with "call ref" =>
    ((with_reducible show wpAny _ _ (call (Value.ref 311) _) _ _ _); (rename News _ _ _ _ => kN); k_dflt (refine' hex_worth_c (by k_asm) (by k_asm) (by k_asm) kN (by k_asm) (by first | exact rfl | assumption) (by ktr_room) (by ktr_units) (by omega) (by omega) ?_; k_whole); intro _ _ _ _ _ _ _ _; (try clear kN); (try k_sweep))
  k_with "call ref" =>
    ((with_reducible show wpAny _ _ (call (Value.ref 318) _) _ _ _); (rename News _ _ _ _ => kN); k_dflt (refine' plain_escape_c (by k_asm) (by k_asm) (by k_asm) kN (by k_asm) (by first | exact rfl | assumption) (by ktr_room) (by ktr_units)  ?_; k_whole); intro _ _ _ _ _ _ _; (try clear kN); (try k_sweep))
  k_with "call ref" =>
    ((with_reducible show wpAny _ _ (call (Value.ref 106) _) _ _ _); (rename News _ _ _ _ => kN); k_dflt (refine' is_done_c (by k_asm) (by k_asm) (by k_asm) (news_pick2 kN (by tb_start) (by tb_start)) (by k_asm) (by first | exact rfl | assumption) (by ktr_room) (by ktr_units) (by k_ne) (by k_all) (by kba_ints) (by omega) (by omega) (by omega) (by omega) ?_; k_whole); intro _ _ _ _; (try clear kN); (try k_sweep))
  k_with "call ref" =>
    ((with_reducible show wpAny _ _ (call (Value.ref 114) _) _ _ _); (rename News _ _ _ _ => kN); k_dflt (refine' peek_c (by k_asm) (by k_asm) (by k_asm) (news_pick2 kN (by tb_start) (by tb_start)) (by k_asm) (by first | exact rfl | assumption) (by ktr_room) (by ktr_units) (by k_ne) (by k_all) (by kba_ints) (by omega) (by omega) (by omega) (by omega) ?_; k_whole); intro _ _ _ _ _ _ _ _ _ _; (try clear kN); (try k_sweep))
  k_with "call ref" =>
    ((with_reducible show wpAny _ _ (call (Value.ref 121) _) _ _ _); (rename News _ _ _ _ => kN); k_dflt (refine' take_c (by k_asm) (by k_asm) (by k_asm) (news_pick2 kN (by tb_start) (by tb_start)) (by k_asm) (by first | exact rfl | assumption) (by ktr_room) (by ktr_units) (by k_ne) (by k_all) (by kba_ints) (by omega) (by omega) (by omega) (by omega) (by omega) ?_; k_whole); intro _ _ _ _ _ _ _ _ _ _; (try clear kN); (try k_sweep))
  k_with "call ref" =>
    ((with_reducible show wpAny _ _ (call (Value.ref 156) _) _ _ _); (rename News _ _ _ _ => kN); k_dflt (refine' skip_line_end_c (by k_asm) (by k_asm) (by k_asm) (news_pick2 kN (by tb_start) (by tb_start)) (by k_asm) (by first | exact rfl | assumption) (by ktr_room) (by ktr_units) (by k_ne) (by k_all) (by kba_ints) (by omega) (by omega) (by omega) (by omega) ?_; k_whole); intro _ _ _ _ _ _ _ _ _; (try clear kN); (rename_i hb' _ _); subst hb'; (try k_sweep))
  k_with "call ref" =>
    ((with_reducible show wpAny _ _ (call (Value.ref 128) [_, Value.bytes #[60, 60] _]) _ _ _); (rename News _ _ _ _ => kN); k_dflt (refine' starts_lt_c (by k_asm) (by k_asm) (by k_asm) (news_pick2 kN (by tb_start) (by tb_start)) (by k_asm) (by first | exact rfl | assumption) (by ktr_room) (by ktr_units) (by k_ne) (by k_all) (by kba_ints) (by omega) (by omega) (by omega) (by omega) (by assumption) ?_; k_whole); intro _ _ _ _; (try clear kN); (try k_sweep))
  k_with "call ref" =>
    ((with_reducible show wpAny _ _ (call (Value.ref 135) [_, Value.bytes #[60, 60] _]) _ _ _); (rename News _ _ _ _ => kN); k_dflt (refine' skip_lt_c (by k_asm) (by k_asm) (by k_asm) (news_pick2 kN (by tb_start) (by tb_start)) (by k_asm) (by first | exact rfl | assumption) (by ktr_room) (by ktr_units) (by k_ne) (by k_all) (by kba_ints) (by omega) (by omega) (by omega) (by omega) (by assumption) ?_; k_whole); intro _ _ _ _; (try clear kN); (try k_sweep))
  k_with "call ref" =>
    ((with_reducible show wpAny _ _ (call (Value.ref 128) [_, Value.bytes #[62, 62] _]) _ _ _); (rename News _ _ _ _ => kN); k_dflt (refine' starts_gt_c (by k_asm) (by k_asm) (by k_asm) (news_pick2 kN (by tb_start) (by tb_start)) (by k_asm) (by first | exact rfl | assumption) (by ktr_room) (by ktr_units) (by k_ne) (by k_all) (by kba_ints) (by omega) (by omega) (by omega) (by omega) (by assumption) ?_; k_whole); intro _ _ _ _; (try clear kN); (try k_sweep))
  k_with "call ref" =>
    ((with_reducible show wpAny _ _ (call (Value.ref 135) [_, Value.bytes #[62, 62] _]) _ _ _); (rename News _ _ _ _ => kN); k_dflt (refine' skip_gt_c (by k_asm) (by k_asm) (by k_asm) (news_pick2 kN (by tb_start) (by tb_start)) (by k_asm) (by first | exact rfl | assumption) (by ktr_room) (by ktr_units) (by k_ne) (by k_all) (by kba_ints) (by omega) (by omega) (by omega) (by omega) (by assumption) ?_; k_whole); intro _ _ _ _; (try clear kN); (try k_sweep))
  k_with "call ref" =>
    ((with_reducible show wpAny _ _ (call (Value.ref 142) _) _ _ _); (rename News _ _ _ _ => kN); k_dflt (refine' skip_white_c (by k_asm) (by k_asm) (by k_asm) (news_pick2 kN (by tb_start) (by tb_start)) (by k_asm) (by first | exact rfl | assumption) (by ktr_room) (by ktr_units) (by k_ne) (by k_all) (by kba_ints) (by omega) (by omega) (by omega) (by omega) ?_; k_whole); intro _ _ _ _ _ _ _ _ _; (try clear kN); (try k_sweep))
  k_with "call ref" =>
    ((with_reducible show wpAny _ _ (call (Value.ref 149) _) _ _ _); (rename News _ _ _ _ => kN); k_dflt (refine' take_regular_c (by k_asm) (by k_asm) (by k_asm) (news_pick2 kN (by tb_start) (by tb_start)) (by k_asm) (by first | exact rfl | assumption) (by ktr_room) (by ktr_units) (by k_ne) (by k_all) (by kba_ints) (by omega) (by omega) (by omega) (by omega) ?_; k_whole); intro _ _ _ _ _ _ _ _ _ _ _; (try clear kN); (try k_sweep))
  k_with "exec Raise some none" =>
    (k_dflt (refine raise_syn rfl ?_))
  k_with "call ref" =>
    ((with_reducible show wpAny _ _ (call (Value.ref 59) [_, _]) _ _ _); (rename News _ _ _ _ => kN); k_dflt (refine' syn_call (by k_asm) (by k_asm) (by k_asm) kN (by k_asm) (by first | exact rfl | assumption) (by ktr_room) (by ktr_units) ?_; k_whole); intro _ _ _ _ _ _ _ _ _ _ _ _ _ _ _; (try clear kN); (rename_i l1' l2' _ _); (have lSyn := SynNew.mk l1' l2'); (clear l1' l2'); (revert lSyn; intro _); (try k_sweep))
  refine wpAny_call ?_
  k_dflt (refine' code_def (binds := [((Str.ofString "cursor"), .ref c)]) ?k1 ?k2 ?k3 ?k4 ?k5 ?kA ?kF ?kK ?k6 ?k7 ?k8 ?k9 ?kB ?_ ?c2 ?c3 ?c4 ?c5; (case kA => exact rfl); (case kF => exact rfl); (case kK => assumption); (case k1 => k_asm); (case k2 => k_asm); (case k3 => k_asm); (case k4 => k_asm); (case k5 => k_asm); (case k6 => k_is); (case k7 => k_is); (case k8 => ktr_room); (case k9 => first | exact BindsTo.of_eq rfl | exact binds_K (by k_in) rfl (by k_is) rfl rfl rfl); (case c5 => decide); (case kB => exact locs rfl); (case c2 => exact rfl); (case c3 => exact rfl); (case c4 => exact rfl))
  k_whole
  intro g' L' h' FG' F' N' B' X' T'
  (try dsimp only [List.reverse_cons, List.reverse_nil, List.nil_append, List.cons_append]); (try k_fold)
  k_with "call ref" => first
    | ((with_reducible show wpAny _ _ (call (Value.ref 142) _) _ _ _); (rename News _ _ _ _ => kN); k_dflt (refine' skip_white_c ?k1 ?k2 ?k3 (news_pick2 kN ?ka ?kb) ?k5 ?k6 ?kd ?ku ?kc1 ?kc2 ?kc3 ?kc4 ?kc5 ?kc6 ?kc7 ?_; (case k1 => k_asm); (case k2 => k_asm); (case k3 => k_asm); (case k5 => k_asm); (case k6 => first | exact rfl | assumption); (case ka => tb_start); (case kb => tb_start); (case kc1 => k_ne); (case kc2 => k_all); (case kc3 => kba_ints); (case kc4 => omega); (case kc5 => omega); (case kc6 => omega); (case kc7 => omega); (case kd => ktr_room); (case ku => ktr_units); k_whole); intro p' t' h' tk' hr' hp' he' F' N'; (try clear kN); (have hpk := pk_head (by omega) h2 (hr'.trans hsw)); (obtain ⟨hat, hlt, hr1⟩ := at_head (by omega) h2 (hr'.trans hsw)); (try k_sweep))
    | ((with_reducible show wpAny _ _ (call (Value.ref 114) _) _ _ _); (rename News _ _ _ _ => kN); k_dflt (refine' peek_c ?k1 ?k2 ?k3 (news_pick2 kN ?ka ?kb) ?k5 ?k6 ?kd ?ku ?kc1 ?kc2 ?kc3 ?kc4 ?kc5 ?kc6 ?kc7 ?_; (case k1 => k_asm); (case k2 => k_asm); (case k3 => k_asm); (case k5 => k_asm); (case k6 => first | exact rfl | assumption); (case ka => tb_start); (case kb => tb_start); (case kc1 => k_ne); (case kc2 => k_all); (case kc3 => kba_ints); (case kc4 => omega); (case kc5 => omega); (case kc6 => omega); (case kc7 => omega); (case kd => ktr_room); (case ku => ktr_units); k_whole); intro v' t' h' tk' hv' hl' hu' hp' F' N'; (try clear kN); (rw [hpk] at hv'; subst hv'; clear hl' hu' hp'); (try k_sweep))
    | ((with_reducible show wpAny _ _ (call (Value.ref 366) _) _ _ _); (rename News _ _ _ _ => kN); k_dflt (refine' delim_hex_c (OUT := OUT) ?k1 ?k2 ?k3 (news_pick2 kN ?ka ?kb) ?k5 ?k6 ?kd ?ku ?kc1 ?kc2 ?kc3 ?kc4 ?kc5 ?kc6 ?kc7 ?kin ?kx0 ?kx1 ?kx2 ?kx3 ?kE ?_; (case k1 => k_asm); (case k2 => k_asm); (case k3 => k_asm); (case k5 => k_asm); (case k6 => first | exact rfl | assumption); (case ka => tb_start); (case kb => tb_start); (case kc1 => k_ne); (case kc2 => k_all); (case kc3 => kba_ints); (case kc4 => omega); (case kc5 => omega); (case kc6 => omega); (case kc7 => omega); (case kin => omega); (case kx0 => (intro z; apply hno1; rw [← hr1, ← pk_rem (by omega) h2]; exact z.2)); (case kx1 => (intro z; rw [hpk] at z; omega)); (case kx2 => (rw [hr1]; exact hok)); (case kx3 => (rw [hr1]; exact hhx)); (case kE => exact fun hno e g₂ h'' tk'' Fg R U => leave_onD' (by assumption) Fg R U fun h3 R' U' => hE hno _ _ _ _ (by assumption) (by have e5 := hat; (first | (rw [show p' + 1 - 1 = en - ((r.length : Int) + 1) from by omega] at R'; exact R') | (rw [hat] at R'; exact R') | exact R')) U'); (case kd => ktr_room); (case ku => ktr_units); k_whole); intro tu' q1' b' t' hv' r2' h' tk' lt' ho' hb' F' N'; (try clear kN); (try k_sweep))
  k_steps
  exact hQ _ _ _ _ _ _ _ _ _ _ lt' hat ho' hb' (by assumption) (by assumption)
theorem next_name_c {w : World} {dp un : Nat} {gd : Option (List Code)} {cn : Str} {cs : Scope} {a : Addr} {ccd : Value} {cl : List (Str × Addr)} {outer : List Env} {A₀ : Around} {base h₀ : Heap} {L : Addr} {m : Str → Option Value} {s : Shared} {Q E : Value → Shared → Prop} {mg mb : Str → Option Value} {mean : ExcName → Option Value} {loose : List Str} {c d : Addr} {H1 H2 H3 : Int} {t1 t2 t3 t4 t5 t6 : Tok} {data : Array UInt8} {ps en : Int} {ks : List Int} {rest : List (Addr × Obj)} {r : List Int} {OUT : Option (List Int)}
  (B : Below A₀ base outer h₀) (F : Fr h₀ L s.heap m) (X : (Mine.hd.heap_1 w.params).In h₀) (N : News h₀ L s.heap ((d, dictOf [⟨H1, .str (Str.ofString "data") t1, .bytes data t4⟩, ⟨H2, .str (Str.ofString "at") t2, .int ps t5⟩, ⟨H3, .str (Str.ofString "end") t3, .int en t6⟩] 3) :: (c, instObj 187 d) :: rest)) (T : Top Mine.view loose mean mg mb h₀) (hk : cs.kind = .function) (hd : dp + 80 < recursionLimit) (hu : un + 2000 < cLine) (hcd : c ≠ d) (hne : ∀ p ∈ rest, p.1 ≠ d) (hks : KBw.bInts data = ks) (h0 : 0 ≤ ps) (h1 : ps ≤ en) (h2 : en ≤ (ks.length : Int)) (h3 : ks.length ≤ 100000) (hsw : swL false (rem ks ps en) = 47 :: r) (hnt : ntL ((r.takeWhile isRegular).length + 1) (r.takeWhile isRegular) [] = OUT)  (hE : OUT = none → ∀ e g₂ h' tk', Fr h₀ L g₂ m → RaisedD base g₂ (envX cn cs L a ccd cl :: outer) e (en - ((r.length : Int) + 1)) (rest) h' → g₂.UpToSlots h' → E (.ref e) { s with heap := h', toks := tk' })
  (hQ : ∀ tu q1 at_ tat cs' t' h' tk', AllLt tu rest → at_ = en - ((r.length : Int) + 1) → OUT = some cs' → Fr h₀ L h' m → News h₀ L h' ((tu, { cls := .type "tuple", data := .seq #[.str (Str.ofString "name") q1, .str (nmS cs') t', .int at_ tat] }) :: rest) → Q (.ref tu) { s with heap := h', toks := tk' }) :
  wpAny (model Challenge.rw_nn0223_01.row.prog w) (ktrTop dp un gd cn cs L a ccd cl outer) (call (.ref 373) [.ref c]) Q E s := by
  k_with_none
  w_top off
  k_with "MyPost" =>
    (dsimp only [MyPost])
  k_with "eval Call" =>
    ((with_reducible show wpAny _ _ (eval (Expr.Call (Expr.Name _ _) _ [] _) _) _ _ _); k_dflt (refine Call_ ?_))
  k_with "eval Call Attribute" =>
    ((with_reducible show wpAny _ _ (eval (Expr.Call (Expr.Attribute _ _ _) _ [] _) _) _ _ _); k_dflt (refine MethodCall_ ?_))
  k_with "compareOp In int ref" =>
    ((with_reducible show wpAny _ _ (compareOp CmpOp.In (Value.int _ _) (Value.ref 62)) _ _ _); refine in_tuple_ints (ns := [0, 9, 10, 12, 13, 32]) (tupK (Frag.In.keeps (by k_asm) (Fr.keep (by k_asm))) (by k_is)) (by repeat constructor) ?_)
  k_with "compareOp NotIn int ref" =>
    ((with_reducible show wpAny _ _ (compareOp CmpOp.NotIn (Value.int _ _) (Value.ref 62)) _ _ _); refine notin_tuple_ints (ns := [0, 9, 10, 12, 13, 32]) (tupK (Frag.In.keeps (by k_asm) (Fr.keep (by k_asm))) (by k_is)) (by repeat constructor) ?_)
  k_with "compareOp NotIn int ref" =>
    ((with_reducible show wpAny _ _ (compareOp CmpOp.NotIn (Value.int _ _) (Value.ref 63)) _ _ _); refine notin_tuple_ints (ns := [40, 41, 60, 62, 91, 93, 123, 125, 47, 37]) (tupK (Frag.In.keeps (by k_asm) (Fr.keep (by k_asm))) (by k_is)) (by repeat constructor) ?_)
  k_with "compareOp In int ref" =>
    ((with_reducible show wpAny _ _ (compareOp CmpOp.In (Value.int _ _) (Value.ref 304)) _ _ _); refine in_tuple_ints (ns := [91, 93, 123, 125]) (tupK (Frag.In.keeps (by k_asm) (Fr.keep (by k_asm))) (by k_is)) (by repeat constructor) ?_)
  k_with "call ref" =>
    ((with_reducible show wpAny _ _ (call (Value.ref 70) _) _ _ _); (rename News _ _ _ _ => kN); k_dflt (refine' is_white_c (by k_asm) (by k_asm) (by k_asm) kN (by k_asm) (by first | exact rfl | assumption) (by ktr_room) (by ktr_units)  ?_; k_whole); intro _ _ _ _; (try clear kN); (try k_sweep))
  k_with "call ref" =>
    ((with_reducible show wpAny _ _ (call (Value.ref 77) _) _ _ _); (rename News _ _ _ _ => kN); k_dflt (refine' is_regular_c (by k_asm) (by k_asm) (by k_asm) kN (by k_asm) (by first | exact rfl | assumption) (by ktr_room) (by ktr_units)  ?_; k_whole); intro _ _ _ _; (try clear kN); (try k_sweep))
  k_with "call ref" =>
    ((with_reducible show wpAny _ _ (call (Value.ref 311) _) _ _ _); (rename News _ _ _ _ => kN); k_dflt (refine' hex_worth_c (by k_asm) (by k_asm) (by k_asm) kN (by k_asm) (by first | exact rfl | assumption) (by ktr_room) (by ktr_units) (by omega) (by omega) ?_; k_whole); intro _ _ _ _ _ _ _ _; (try clear kN); (try k_sweep))
  k_with "call ref" =>
    ((with_reducible show wpAny _ _ (call (Value.ref 318) _) _ _ _); (rename News _ _ _ _ => kN); k_dflt (refine' plain_escape_c (by k_asm) (by k_asm) (by k_asm) kN (by k_asm) (by first | exact rfl | assumption) (by ktr_room) (by ktr_units)  ?_; k_whole); intro _ _ _ _ _ _ _; (try clear kN); (try k_sweep))
  k_with "call ref" =>
    ((with_reducible show wpAny _ _ (call (Value.ref 106) _) _ _ _); (rename News _ _ _ _ => kN); k_dflt (refine' is_done_c (by k_asm) (by k_asm) (by k_asm) (news_pick2 kN (by tb_start) (by tb_start)) (by k_asm) (by first | exact rfl | assumption) (by ktr_room) (by ktr_units) (by k_ne) (by k_all) (by kba_ints) (by omega) (by omega) (by omega) (by omega) ?_; k_whole); intro _ _ _ _; (try clear kN); (try k_sweep))
  k_with "call ref" =>
    ((with_reducible show wpAny _ _ (call (Value.ref 114) _) _ _ _); (rename News _ _ _ _ => kN); k_dflt (refine' peek_c (by k_asm) (by k_asm) (by k_asm) (news_pick2 kN (by tb_start) (by tb_start)) (by k_asm) (by first | exact rfl | assumption) (by ktr_room) (by ktr_units) (by k_ne) (by k_all) (by kba_ints) (by omega) (by omega) (by omega) (by omega) ?_; k_whole); intro _ _ _ _ _ _ _ _ _ _; (try clear kN); (try k_sweep))
  k_with "call ref" =>
    ((with_reducible show wpAny _ _ (call (Value.ref 121) _) _ _ _); (rename News _ _ _ _ => kN); k_dflt (refine' take_c (by k_asm) (by k_asm) (by k_asm) (news_pick2 kN (by tb_start) (by tb_start)) (by k_asm) (by first | exact rfl | assumption) (by ktr_room) (by ktr_units) (by k_ne) (by k_all) (by kba_ints) (by omega) (by omega) (by omega) (by omega) (by omega) ?_; k_whole); intro _ _ _ _ _ _ _ _ _ _; (try clear kN); (try k_sweep))
  k_with "call ref" =>
    ((with_reducible show wpAny _ _ (call (Value.ref 156) _) _ _ _); (rename News _ _ _ _ => kN); k_dflt (refine' skip_line_end_c (by k_asm) (by k_asm) (by k_asm) (news_pick2 kN (by tb_start) (by tb_start)) (by k_asm) (by first | exact rfl | assumption) (by ktr_room) (by ktr_units) (by k_ne) (by k_all) (by kba_ints) (by omega) (by omega) (by omega) (by omega) ?_; k_whole); intro _ _ _ _ _ _ _ _ _; (try clear kN); (rename_i hb' _ _); subst hb'; (try k_sweep))
  k_with "call ref" =>
    ((with_reducible show wpAny _ _ (call (Value.ref 128) [_, Value.bytes #[60, 60] _]) _ _ _); (rename News _ _ _ _ => kN); k_dflt (refine' starts_lt_c (by k_asm) (by k_asm) (by k_asm) (news_pick2 kN (by tb_start) (by tb_start)) (by k_asm) (by first | exact rfl | assumption) (by ktr_room) (by ktr_units) (by k_ne) (by k_all) (by kba_ints) (by omega) (by omega) (by omega) (by omega) (by assumption) ?_; k_whole); intro _ _ _ _; (try clear kN); (try k_sweep))
  k_with "call ref" =>
    ((with_reducible show wpAny _ _ (call (Value.ref 135) [_, Value.bytes #[60, 60] _]) _ _ _); (rename News _ _ _ _ => kN); k_dflt (refine' skip_lt_c (by k_asm) (by k_asm) (by k_asm) (news_pick2 kN (by tb_start) (by tb_start)) (by k_asm) (by first | exact rfl | assumption) (by ktr_room) (by ktr_units) (by k_ne) (by k_all) (by kba_ints) (by omega) (by omega) (by omega) (by omega) (by assumption) ?_; k_whole); intro _ _ _ _; (try clear kN); (try k_sweep))
  k_with "call ref" =>
    ((with_reducible show wpAny _ _ (call (Value.ref 128) [_, Value.bytes #[62, 62] _]) _ _ _); (rename News _ _ _ _ => kN); k_dflt (refine' starts_gt_c (by k_asm) (by k_asm) (by k_asm) (news_pick2 kN (by tb_start) (by tb_start)) (by k_asm) (by first | exact rfl | assumption) (by ktr_room) (by ktr_units) (by k_ne) (by k_all) (by kba_ints) (by omega) (by omega) (by omega) (by omega) (by assumption) ?_; k_whole); intro _ _ _ _; (try clear kN); (try k_sweep))
  k_with "call ref" =>
    ((with_reducible show wpAny _ _ (call (Value.ref 135) [_, Value.bytes #[62, 62] _]) _ _ _); (rename News _ _ _ _ => kN); k_dflt (refine' skip_gt_c (by k_asm) (by k_asm) (by k_asm) (news_pick2 kN (by tb_start) (by tb_start)) (by k_asm) (by first | exact rfl | assumption) (by ktr_room) (by ktr_units) (by k_ne) (by k_all) (by kba_ints) (by omega) (by omega) (by omega) (by omega) (by assumption) ?_; k_whole); intro _ _ _ _; (try clear kN); (try k_sweep))
  k_with "call ref" =>
    ((with_reducible show wpAny _ _ (call (Value.ref 142) _) _ _ _); (rename News _ _ _ _ => kN); k_dflt (refine' skip_white_c (by k_asm) (by k_asm) (by k_asm) (news_pick2 kN (by tb_start) (by tb_start)) (by k_asm) (by first | exact rfl | assumption) (by ktr_room) (by ktr_units) (by k_ne) (by k_all) (by kba_ints) (by omega) (by omega) (by omega) (by omega) ?_; k_whole); intro _ _ _ _ _ _ _ _ _; (try clear kN); (try k_sweep))
  k_with "call ref" =>
    ((with_reducible show wpAny _ _ (call (Value.ref 149) _) _ _ _); (rename News _ _ _ _ => kN); k_dflt (refine' take_regular_c (by k_asm) (by k_asm) (by k_asm) (news_pick2 kN (by tb_start) (by tb_start)) (by k_asm) (by first | exact rfl | assumption) (by ktr_room) (by ktr_units) (by k_ne) (by k_all) (by kba_ints) (by omega) (by omega) (by omega) (by omega) ?_; k_whole); intro _ _ _ _ _ _ _ _ _ _ _; (try clear kN); (try k_sweep))
  k_with "exec Raise some none" =>
    (k_dflt (refine raise_syn rfl ?_))
  k_with "call ref" =>
    ((with_reducible show wpAny _ _ (call (Value.ref 59) [_, _]) _ _ _); (rename News _ _ _ _ => kN); k_dflt (refine' syn_call (by k_asm) (by k_asm) (by k_asm) kN (by k_asm) (by first | exact rfl | assumption) (by ktr_room) (by ktr_units) ?_; k_whole); intro _ _ _ _ _ _ _ _ _ _ _ _ _ _ _; (try clear kN); (rename_i l1' l2' _ _); (have lSyn := SynNew.mk l1' l2'); (clear l1' l2'); (revert lSyn; intro _); (try k_sweep))
  refine wpAny_call ?_
  k_dflt (refine' code_def (binds := [((Str.ofString "cursor"), .ref c)]) ?k1 ?k2 ?k3 ?k4 ?k5 ?kA ?kF ?kK ?k6 ?k7 ?k8 ?k9 ?kB ?_ ?c2 ?c3 ?c4 ?c5; (case kA => exact rfl); (case kF => exact rfl); (case kK => assumption); (case k1 => k_asm); (case k2 => k_asm); (case k3 => k_asm); (case k4 => k_asm); (case k5 => k_asm); (case k6 => k_is); (case k7 => k_is); (case k8 => ktr_room); (case k9 => first | exact BindsTo.of_eq rfl | exact binds_K (by k_in) rfl (by k_is) rfl rfl rfl); (case c5 => decide); (case kB => exact locs rfl); (case c2 => exact rfl); (case c3 => exact rfl); (case c4 => exact rfl))
  k_whole
  intro g' L' h' FG' F' N' B' X' T'
  (try dsimp only [List.reverse_cons, List.reverse_nil, List.nil_append, List.cons_append]); (try k_fold)
  k_with "call ref" => first
    | ((with_reducible show wpAny _ _ (call (Value.ref 142) _) _ _ _); (rename News _ _ _ _ => kN); k_dflt (refine' skip_white_c ?k1 ?k2 ?k3 (news_pick2 kN ?ka ?kb) ?k5 ?k6 ?kd ?ku ?kc1 ?kc2 ?kc3 ?kc4 ?kc5 ?kc6 ?kc7 ?_; (case k1 => k_asm); (case k2 => k_asm); (case k3 => k_asm); (case k5 => k_asm); (case k6 => first | exact rfl | assumption); (case ka => tb_start); (case kb => tb_start); (case kc1 => k_ne); (case kc2 => k_all); (case kc3 => kba_ints); (case kc4 => omega); (case kc5 => omega); (case kc6 => omega); (case kc7 => omega); (case kd => ktr_room); (case ku => ktr_units); k_whole); intro p' t' h' tk' hr' hp' he' F' N'; (try clear kN); (have hpk := pk_head (by omega) h2 (hr'.trans hsw)); (obtain ⟨hat, hlt, hr1⟩ := at_head (by omega) h2 (hr'.trans hsw)); (try k_sweep))
    | ((with_reducible show wpAny _ _ (call (Value.ref 114) _) _ _ _); (rename News _ _ _ _ => kN); k_dflt (refine' peek_c ?k1 ?k2 ?k3 (news_pick2 kN ?ka ?kb) ?k5 ?k6 ?kd ?ku ?kc1 ?kc2 ?kc3 ?kc4 ?kc5 ?kc6 ?kc7 ?_; (case k1 => k_asm); (case k2 => k_asm); (case k3 => k_asm); (case k5 => k_asm); (case k6 => first | exact rfl | assumption); (case ka => tb_start); (case kb => tb_start); (case kc1 => k_ne); (case kc2 => k_all); (case kc3 => kba_ints); (case kc4 => omega); (case kc5 => omega); (case kc6 => omega); (case kc7 => omega); (case kd => ktr_room); (case ku => ktr_units); k_whole); intro v' t' h' tk' hv' hl' hu' hp' F' N'; (try clear kN); (rw [hpk] at hv'; subst hv'; clear hl' hu' hp'); (try k_sweep))
    | ((with_reducible show wpAny _ _ (call (Value.ref 366) _) _ _ _); (rename News _ _ _ _ => kN); k_dflt (refine' delim_name_c (OUT := OUT) ?k1 ?k2 ?k3 (news_pick2 kN ?ka ?kb) ?k5 ?k6 ?kd ?ku ?kc1 ?kc2 ?kc3 ?kc4 ?kc5 ?kc6 ?kc7 ?kin ?kx1 ?kE ?_; (case k1 => k_asm); (case k2 => k_asm); (case k3 => k_asm); (case k5 => k_asm); (case k6 => first | exact rfl | assumption); (case ka => tb_start); (case kb => tb_start); (case kc1 => k_ne); (case kc2 => k_all); (case kc3 => kba_ints); (case kc4 => omega); (case kc5 => omega); (case kc6 => omega); (case kc7 => omega); (case kin => omega); (case kx1 => (rw [hr1]; exact hnt)); (case kE => exact fun hno e g₂ h'' tk'' Fg R U => leave_onD' (by assumption) Fg R U fun h3 R' U' => hE hno _ _ _ _ (by assumption) (by have e5 := hat; (first | (rw [show p' + 1 - 1 = en - ((r.length : Int) + 1) from by omega] at R'; exact R') | (rw [hat] at R'; exact R') | exact R')) U'); (case kd => ktr_room); (case ku => ktr_units); k_whole); intro tu' q1' cs' t' h' tk' lt' ho' F' N'; (try clear kN); (try k_sweep))
  k_steps
  exact hQ _ _ _ _ _ _ _ _ lt' hat ho' (by assumption) (by assumption)
end Mine
end
section
open PySem PySem.W PyProof.Rows PySem.Calls
namespace Mine
theorem draw_c {w : World} {dp un : Nat} {gd : Option (List Code)} {cn : Str} {cs : Scope} {a : Addr} {ccd : Value} {cl : List (Str × Addr)} {outer : List Env} {A₀ : Around} {base h₀ : Heap} {L : Addr} {m : Str → Option Value} {s : Shared} {Q E : Value → Shared → Prop} {mg mb : Str → Option Value} {mean : ExcName → Option Value} {loose : List Str} {pn inn : Addr} {place great : Int} {tp tg : Tok} {n1 n2 : Nat} {cells : List Value} {cs_ : List Int} {rest : List (Addr × Obj)} {many : Int} {tm : Tok}
  (B : Below A₀ base outer h₀) (F : Fr h₀ L s.heap m) (X : (Mine.hd.heap_1 w.params).In h₀) (N : News h₀ L s.heap ((pn, listOf [.ref inn, .int place tp, .int great tg].toArray n1) :: (inn, listOf cells.toArray n2) :: rest)) (T : Top Mine.view loose mean mg mb h₀) (hk : cs.kind = .function) (hd : dp + 10 < recursionLimit) (hu : un + 200 < cLine) (hpi : @Ne Nat pn inn) (hpr : ∀ p ∈ rest, p.1 ≠ pn) (hcs : IntsAre cells cs_) (hcl : cs_.length ≤ 1000) (hpl : 0 ≤ place) (hpm : place ≤ 100000) (hgr : 0 ≤ great) (hm0 : 0 < many) (hm1 : many ≤ 1000)
  (hQ : ∀ v t place' great' tp' tg' n' h' tk', 0 ≤ v → v < many → 0 ≤ place' → place' ≤ place + 1 → 0 ≤ great' → Fr h₀ L h' m → News h₀ L h' ((pn, listOf [.ref inn, .int place' tp', .int great' tg'].toArray n') :: (inn, listOf cells.toArray n2) :: rest) → Q (.int v t) { s with heap := h', toks := tk' }) :
  wpAny (model Challenge.rw_nn0223_01.row.prog w) (ktrTop dp un gd cn cs L a ccd cl outer) (call (.ref 401) [.ref pn, .int many tm]) Q E s := by
  k_with_none
  w_top off
  k_with "MyPost" =>
    (dsimp only [MyPost])
  k_with "eval Call" =>
    ((with_reducible show wpAny _ _ (eval (Expr.Call (Expr.Name _ _) _ [] _) _) _ _ _); k_dflt (refine Call_ ?_))
  k_with "eval Call Attribute" =>
    ((with_reducible show wpAny _ _ (eval (Expr.Call (Expr.Attribute _ _ _) _ [] _) _) _ _ _); k_dflt (refine MethodCall_ ?_))
  k_with "compareOp In int ref" =>
    ((with_reducible show wpAny _ _ (compareOp CmpOp.In (Value.int _ _) (Value.ref 62)) _ _ _); refine in_tuple_ints (ns := [0, 9, 10, 12, 13, 32]) (tupK (Frag.In.keeps (by k_asm) (Fr.keep (by k_asm))) (by k_is)) (by repeat constructor) ?_)
  k_with "compareOp NotIn int ref" =>
    ((with_reducible show wpAny _ _ (compareOp CmpOp.NotIn (Value.int _ _) (Value.ref 62)) _ _ _); refine notin_tuple_ints (ns := [0, 9, 10, 12, 13, 32]) (tupK (Frag.In.keeps (by k_asm) (Fr.keep (by k_asm))) (by k_is)) (by repeat constructor) ?_)
  k_with "compareOp NotIn int ref" =>
    ((with_reducible show wpAny _ _ (compareOp CmpOp.NotIn (Value.int _ _) (Value.ref 63)) _ _ _); refine notin_tuple_ints (ns := [40, 41, 60, 62, 91, 93, 123, 125, 47, 37]) (tupK (Frag.In.keeps (by k_asm) (Fr.keep (by k_asm))) (by k_is)) (by repeat constructor) ?_)
  k_with "compareOp In int ref" =>
    ((with_reducible show wpAny _ _ (compareOp CmpOp.In (Value.int _ _) (Value.ref 304)) _ _ _); refine in_tuple_ints (ns := [91, 93, 123, 125]) (tupK (Frag.In.keeps (by k_asm) (Fr.keep (by k_asm))) (by k_is)) (by repeat constructor) ?_)
  k_with "setItem ref int" =>
    (k_dflt (refine' my_set (by k_asm) (by k_asm) (by exact rfl) (by k_upd) (by decide) (by decide) (by decide) ?_; k_whole); intro _ _ _; (try k_sweep))
  k_with "binaryOp Pow int int" =>
    (first | (refine' pow_int_small (by decide) (by decide) (by decide) ?_) | ((refine' my_pow (by decide) (by decide) (by first | decide | exact draw_bound1 (by omega) (by omega) (by omega) (by omega) | exact draw_bound2 (by omega) (by omega) (by omega) (by omega)) ?_); intro _ _))
  k_with "binaryOp Mod int int" =>
    ((refine' my_mod (by omega) ?_); intro _ _ _)
  k_with "binaryOp FloorDiv int int" =>
    ((refine' my_fdiv (by first | omega | exact Int.sub_nonneg_of_le (by assumption)) (by omega) (by omega) ?_); intro _ _)
  revert X; k_fill; intro X
  refine wpAny_call ?_
  k_dflt (refine' code_def (binds := [((Str.ofString "pen"), .ref pn), ((Str.ofString "many"), .int many tm)]) ?k1 ?k2 ?k3 ?k4 ?k5 ?kA ?kF ?kK ?k6 ?k7 ?k8 ?k9 ?kB ?_ ?c2 ?c3 ?c4 ?c5; (case kA => exact rfl); (case kF => exact rfl); (case kK => assumption); (case k1 => k_asm); (case k2 => k_asm); (case k3 => k_asm); (case k4 => k_asm); (case k5 => k_asm); (case k6 => k_is); (case k7 => k_is); (case k8 => ktr_room); (case k9 => first | exact BindsTo.of_eq rfl | exact binds_K (by k_in) rfl (by k_is) rfl rfl rfl); (case c5 => decide); (case kB => exact locs rfl); (case c2 => exact rfl); (case c3 => exact rfl); (case c4 => exact rfl))
  k_whole
  intro g' L' h' FG' F' N' B' X' T'
  (try dsimp only [List.reverse_cons, List.reverse_nil, List.nil_append, List.cons_append]); (try k_fold)
  k_steps
  all_goals (refine hQ _ _ _ _ _ _ _ _ _ ?_ ?_ ?_ ?_ ?_ (by assumption) (news_sub (by assumption) (by kcj_in)) <;> omega)
end Mine
end
section
open PySem PySem.W PyProof.Rows PySem.Calls
namespace Mine
theorem octal1_c {w : World} {dp un : Nat} {gd : Option (List Code)} {cn : Str} {cs : Scope} {a : Addr} {ccd : Value} {cl : List (Str × Addr)} {outer : List Env} {A₀ : Around} {base h₀ : Heap} {L : Addr} {m : Str → Option Value} {s : Shared} {Q E : Value → Shared → Prop} {mg mb : Str → Option Value} {mean : ExcName → Option Value} {loose : List Str} {rest : List (Addr × Obj)} {number : Int} {tn tw : Tok}
  (B : Below A₀ base outer h₀) (F : Fr h₀ L s.heap m) (X : (Mine.hd.heap_1 w.params).In h₀) (N : News h₀ L s.heap (rest)) (T : Top Mine.view loose mean mg mb h₀) (hk : cs.kind = .function) (hd : dp + 10 < recursionLimit) (hu : un + 200 < cLine) (hn0 : 0 ≤ number) (hn1 : number < 512)
  (hQ : ∀ (b : Array UInt8) t h' tk', KBw.bInts b = octS 1 number → b.size ≤ 3 → Fr h₀ L h' m → News h₀ L h' rest → Q (.bytes b t) { s with heap := h', toks := tk' }) :
  wpAny (model Challenge.rw_nn0223_01.row.prog w) (ktrTop dp un gd cn cs L a ccd cl outer) (call (.ref 406) [.int number tn, .int 1 tw]) Q E s := by
  k_with_none
  w_top off
  k_with "MyPost" =>
    (dsimp only [MyPost])
  k_with "eval Call" =>
    ((with_reducible show wpAny _ _ (eval (Expr.Call (Expr.Name _ _) _ [] _) _) _ _ _); k_dflt (refine Call_ ?_))
  k_with "eval Call Attribute" =>
    ((with_reducible show wpAny _ _ (eval (Expr.Call (Expr.Attribute _ _ _) _ [] _) _) _ _ _); k_dflt (refine MethodCall_ ?_))
  k_with "compareOp In int ref" =>
    ((with_reducible show wpAny _ _ (compareOp CmpOp.In (Value.int _ _) (Value.ref 62)) _ _ _); refine in_tuple_ints (ns := [0, 9, 10, 12, 13, 32]) (tupK (Frag.In.keeps (by k_asm) (Fr.keep (by k_asm))) (by k_is)) (by repeat constructor) ?_)
  k_with "compareOp NotIn int ref" =>
    ((with_reducible show wpAny _ _ (compareOp CmpOp.NotIn (Value.int _ _) (Value.ref 62)) _ _ _); refine notin_tuple_ints (ns := [0, 9, 10, 12, 13, 32]) (tupK (Frag.In.keeps (by k_asm) (Fr.keep (by k_asm))) (by k_is)) (by repeat constructor) ?_)
  k_with "compareOp NotIn int ref" =>
    ((with_reducible show wpAny _ _ (compareOp CmpOp.NotIn (Value.int _ _) (Value.ref 63)) _ _ _); refine notin_tuple_ints (ns := [40, 41, 60, 62, 91, 93, 123, 125, 47, 37]) (tupK (Frag.In.keeps (by k_asm) (Fr.keep (by k_asm))) (by k_is)) (by repeat constructor) ?_)
  k_with "compareOp In int ref" =>
    ((with_reducible show wpAny _ _ (compareOp CmpOp.In (Value.int _ _) (Value.ref 304)) _ _ _); refine in_tuple_ints (ns := [91, 93, 123, 125]) (tupK (Frag.In.keeps (by k_asm) (Fr.keep (by k_asm))) (by k_is)) (by repeat constructor) ?_)
  k_with "binaryOp Pow int int" =>
    ((refine' pow_int_small (by decide) (by decide) (by decide) ?_))
  k_with "binaryOp Mod int int" =>
    ((refine' mod_int' (by decide) ?_))
  k_with "binaryOp FloorDiv int int" =>
    ((refine' floordiv_int (by decide) ?_ (by exact Or.inl (PyProof.noPylong_of_log2 (by decide +kernel)))))
  k_with "eval ListComp" =>
    (k_dflt (refine ListComp_C (F₀ := by k_asm) (by with_unfolding_all rfl) (by decide) (by rfl) (by decide) (by rfl) ?_))
  revert X; k_fill; intro X
  refine wpAny_call ?_
  k_dflt (refine' code_defC (binds := [((Str.ofString "number"), .int number tn), ((Str.ofString "width"), .int 1 tw)]) ?k1 ?k2 ?k3 ?k4 ?k5 ?kA ?kF ?kK ?k6 ?k7 ?k8 ?k9 ?kB ?kD ?_ ?c2 ?c3 ?c4; (case kA => exact rfl); (case kF => exact rfl); (case kK => assumption); (case k1 => k_asm); (case k2 => k_asm); (case k3 => k_asm); (case k4 => k_asm); (case k5 => k_asm); (case k6 => k_is); (case k7 => k_is); (case k8 => ktr_room); (case k9 => first | exact BindsTo.of_eq rfl | exact binds_K (by k_in) rfl (by k_is) rfl rfl rfl); (case kB => exact rfl); (case kD => decide +kernel); (case c2 => exact rfl); (case c3 => exact rfl); (case c4 => exact rfl))
  k_whole
  intro g' L' h' tk' cells' FG' F' N' Y' B' X' T' l1; k_cells Y'; (try simp only [List.cons_append, List.nil_append] at N'); (try dsimp only); (try k_fold)
  have q0 : AllLt L' rest := allLt_of fun p hp => l1 p hp
  have q3 : ∀ p ∈ rest, p.1 ≠ L' + 1 := ne_of_allLt (allLt_trans (Nat.le_succ _) q0)
  clear l1
  have q4 : ∀ p ∈ rest, p.1 ≠ L' + 1 + 1 := ne_of_allLt (allLt_trans (Nat.le_succ_of_le (Nat.le_succ _)) q0)
  k_steps
  rename IsRange _ _ _ _ _ _ _ _ => hrg
  rename News _ _ _ _ => nE
  refine' SrcC.range (n := 1) rfl ?sF nE hrg (by decide) (by decide) (by rw [sizeLine_eq]; decide) ?sg
  (case sF => assumption)
  intro g
  refine' comp_inv (n := 1) (fun i v => ∃ t, v = .int (octD number (1 - 1 - i)) t) ?st ?sf 1 0 [] (by omega) rfl (fun j v h => by simp at h)
  · rintro i ys v I oI C oC D m₂ h tk E' ⟨hi, t, rfl⟩ hC hx F N
    rcases (show i = 0 ∨ i = 1 ∨ i = 2 from by omega) with rfl | rfl | rfl
    all_goals (try (exfalso; omega; done))
    all_goals k_steps
    all_goals exact ⟨⟨_, rfl⟩, _, _, rfl, by assumption, by assumption⟩
  · intro ys hy1 hy2
    have hia : IntsAre ys (octS 1 number) := octS_are hy1 hy2
    have hin : KBa.In (octS 1 number) := octS_in _ _
    k_steps
    exact hQ _ _ _ _ (KBa.ints_make hin) (by rw [← KBw.ints_length, KBa.ints_make hin]; exact Nat.le_of_ble_eq_true rfl) (by assumption) (news_sub (by assumption) (by kcj_in))
theorem octal2_c {w : World} {dp un : Nat} {gd : Option (List Code)} {cn : Str} {cs : Scope} {a : Addr} {ccd : Value} {cl : List (Str × Addr)} {outer : List Env} {A₀ : Around} {base h₀ : Heap} {L : Addr} {m : Str → Option Value} {s : Shared} {Q E : Value → Shared → Prop} {mg mb : Str → Option Value} {mean : ExcName → Option Value} {loose : List Str} {rest : List (Addr × Obj)} {number : Int} {tn tw : Tok}
  (B : Below A₀ base outer h₀) (F : Fr h₀ L s.heap m) (X : (Mine.hd.heap_1 w.params).In h₀) (N : News h₀ L s.heap (rest)) (T : Top Mine.view loose mean mg mb h₀) (hk : cs.kind = .function) (hd : dp + 10 < recursionLimit) (hu : un + 200 < cLine) (hn0 : 0 ≤ number) (hn1 : number < 512)
  (hQ : ∀ (b : Array UInt8) t h' tk', KBw.bInts b = octS 2 number → b.size ≤ 3 → Fr h₀ L h' m → News h₀ L h' rest → Q (.bytes b t) { s with heap := h', toks := tk' }) :
  wpAny (model Challenge.rw_nn0223_01.row.prog w) (ktrTop dp un gd cn cs L a ccd cl outer) (call (.ref 406) [.int number tn, .int 2 tw]) Q E s := by
  k_with_none
  w_top off
  k_with "MyPost" =>
    (dsimp only [MyPost])
  k_with "eval Call" =>
    ((with_reducible show wpAny _ _ (eval (Expr.Call (Expr.Name _ _) _ [] _) _) _ _ _); k_dflt (refine Call_ ?_))
  k_with "eval Call Attribute" =>
    ((with_reducible show wpAny _ _ (eval (Expr.Call (Expr.Attribute _ _ _) _ [] _) _) _ _ _); k_dflt (refine MethodCall_ ?_))
  k_with "compareOp In int ref" =>
    ((with_reducible show wpAny _ _ (compareOp CmpOp.In (Value.int _ _) (Value.ref 62)) _ _ _); refine in_tuple_ints (ns := [0, 9, 10, 12, 13, 32]) (tupK (Frag.In.keeps (by k_asm) (Fr.keep (by k_asm))) (by k_is)) (by repeat constructor) ?_)
  k_with "compareOp NotIn int ref" =>
    ((with_reducible show wpAny _ _ (compareOp CmpOp.NotIn (Value.int _ _) (Value.ref 62)) _ _ _); refine notin_tuple_ints (ns := [0, 9, 10, 12, 13, 32]) (tupK (Frag.In.keeps (by k_asm) (Fr.keep (by k_asm))) (by k_is)) (by repeat constructor) ?_)
  k_with "compareOp NotIn int ref" =>
    ((with_reducible show wpAny _ _ (compareOp CmpOp.NotIn (Value.int _ _) (Value.ref 63)) _ _ _); refine notin_tuple_ints (ns := [40, 41, 60, 62, 91, 93, 123, 125, 47, 37]) (tupK (Frag.In.keeps (by k_asm) (Fr.keep (by k_asm))) (by k_is)) (by repeat constructor) ?_)
  k_with "compareOp In int ref" =>
    ((with_reducible show wpAny _ _ (compareOp CmpOp.In (Value.int _ _) (Value.ref 304)) _ _ _); refine in_tuple_ints (ns := [91, 93, 123, 125]) (tupK (Frag.In.keeps (by k_asm) (Fr.keep (by k_asm))) (by k_is)) (by repeat constructor) ?_)
  k_with "binaryOp Pow int int" =>
    ((refine' pow_int_small (by decide) (by decide) (by decide) ?_))
  k_with "binaryOp Mod int int" =>
    ((refine' mod_int' (by decide) ?_))
  k_with "binaryOp FloorDiv int int" =>
    ((refine' floordiv_int (by decide) ?_ (by exact Or.inl (PyProof.noPylong_of_log2 (by decide +kernel)))))
  k_with "eval ListComp" =>
    (k_dflt (refine ListComp_C (F₀ := by k_asm) (by with_unfolding_all rfl) (by decide) (by rfl) (by decide) (by rfl) ?_))
  refine wpAny_call ?_
  k_dflt (refine' code_defC (binds := [((Str.ofString "number"), .int number tn), ((Str.ofString "width"), .int 2 tw)]) ?k1 ?k2 ?k3 ?k4 ?k5 ?kA ?kF ?kK ?k6 ?k7 ?k8 ?k9 ?kB ?kD ?_ ?c2 ?c3 ?c4; (case kA => exact rfl); (case kF => exact rfl); (case kK => assumption); (case k1 => k_asm); (case k2 => k_asm); (case k3 => k_asm); (case k4 => k_asm); (case k5 => k_asm); (case k6 => k_is); (case k7 => k_is); (case k8 => ktr_room); (case k9 => first | exact BindsTo.of_eq rfl | exact binds_K (by k_in) rfl (by k_is) rfl rfl rfl); (case kB => exact rfl); (case kD => decide +kernel); (case c2 => exact rfl); (case c3 => exact rfl); (case c4 => exact rfl))
  k_whole
  intro g' L' h' tk' cells' FG' F' N' Y' B' X' T' l1; k_cells Y'; (try simp only [List.cons_append, List.nil_append] at N'); (try dsimp only); (try k_fold)
  have q0 : AllLt L' rest := allLt_of fun p hp => l1 p hp
  have q3 : ∀ p ∈ rest, p.1 ≠ L' + 1 := ne_of_allLt (allLt_trans (Nat.le_succ _) q0)
  clear l1
  have q4 : ∀ p ∈ rest, p.1 ≠ L' + 1 + 1 := ne_of_allLt (allLt_trans (Nat.le_succ_of_le (Nat.le_succ _)) q0)
  k_steps
  rename IsRange _ _ _ _ _ _ _ _ => hrg
  rename News _ _ _ _ => nE
  refine' SrcC.range (n := 2) rfl ?sF nE hrg (by decide) (by decide) (by rw [sizeLine_eq]; decide) ?sg
  (case sF => assumption)
  intro g
  refine' comp_inv (n := 2) (fun i v => ∃ t, v = .int (octD number (2 - 1 - i)) t) ?st ?sf 2 0 [] (by omega) rfl (fun j v h => by simp at h)
  · rintro i ys v I oI C oC D m₂ h tk E' ⟨hi, t, rfl⟩ hC hx F N
    rcases (show i = 0 ∨ i = 1 ∨ i = 2 from by omega) with rfl | rfl | rfl
    all_goals (try (exfalso; omega; done))
    all_goals k_steps
    all_goals exact ⟨⟨_, rfl⟩, _, _, rfl, by assumption, by assumption⟩
  · intro ys hy1 hy2
    have hia : IntsAre ys (octS 2 number) := octS_are hy1 hy2
    have hin : KBa.In (octS 2 number) := octS_in _ _
    k_steps
    exact hQ _ _ _ _ (KBa.ints_make hin) (by rw [← KBw.ints_length, KBa.ints_make hin]; exact Nat.le_of_ble_eq_true rfl) (by assumption) (news_sub (by assumption) (by kcj_in))
theorem octal3_c {w : World} {dp un : Nat} {gd : Option (List Code)} {cn : Str} {cs : Scope} {a : Addr} {ccd : Value} {cl : List (Str × Addr)} {outer : List Env} {A₀ : Around} {base h₀ : Heap} {L : Addr} {m : Str → Option Value} {s : Shared} {Q E : Value → Shared → Prop} {mg mb : Str → Option Value} {mean : ExcName → Option Value} {loose : List Str} {rest : List (Addr × Obj)} {number : Int} {tn tw : Tok}
  (B : Below A₀ base outer h₀) (F : Fr h₀ L s.heap m) (X : (Mine.hd.heap_1 w.params).In h₀) (N : News h₀ L s.heap (rest)) (T : Top Mine.view loose mean mg mb h₀) (hk : cs.kind = .function) (hd : dp + 10 < recursionLimit) (hu : un + 200 < cLine) (hn0 : 0 ≤ number) (hn1 : number < 512)
  (hQ : ∀ (b : Array UInt8) t h' tk', KBw.bInts b = octS 3 number → b.size ≤ 3 → Fr h₀ L h' m → News h₀ L h' rest → Q (.bytes b t) { s with heap := h', toks := tk' }) :
  wpAny (model Challenge.rw_nn0223_01.row.prog w) (ktrTop dp un gd cn cs L a ccd cl outer) (call (.ref 406) [.int number tn, .int 3 tw]) Q E s := by
  k_with_none
  w_top off
  k_with "MyPost" =>
    (dsimp only [MyPost])
  k_with "eval Call" =>
    ((with_reducible show wpAny _ _ (eval (Expr.Call (Expr.Name _ _) _ [] _) _) _ _ _); k_dflt (refine Call_ ?_))
  k_with "eval Call Attribute" =>
    ((with_reducible show wpAny _ _ (eval (Expr.Call (Expr.Attribute _ _ _) _ [] _) _) _ _ _); k_dflt (refine MethodCall_ ?_))
  k_with "compareOp In int ref" =>
    ((with_reducible show wpAny _ _ (compareOp CmpOp.In (Value.int _ _) (Value.ref 62)) _ _ _); refine in_tuple_ints (ns := [0, 9, 10, 12, 13, 32]) (tupK (Frag.In.keeps (by k_asm) (Fr.keep (by k_asm))) (by k_is)) (by repeat constructor) ?_)
  k_with "compareOp NotIn int ref" =>
    ((with_reducible show wpAny _ _ (compareOp CmpOp.NotIn (Value.int _ _) (Value.ref 62)) _ _ _); refine notin_tuple_ints (ns := [0, 9, 10, 12, 13, 32]) (tupK (Frag.In.keeps (by k_asm) (Fr.keep (by k_asm))) (by k_is)) (by repeat constructor) ?_)
  k_with "compareOp NotIn int ref" =>
    ((with_reducible show wpAny _ _ (compareOp CmpOp.NotIn (Value.int _ _) (Value.ref 63)) _ _ _); refine notin_tuple_ints (ns := [40, 41, 60, 62, 91, 93, 123, 125, 47, 37]) (tupK (Frag.In.keeps (by k_asm) (Fr.keep (by k_asm))) (by k_is)) (by repeat constructor) ?_)
  k_with "compareOp In int ref" =>
    ((with_reducible show wpAny _ _ (compareOp CmpOp.In (Value.int _ _) (Value.ref 304)) _ _ _); refine in_tuple_ints (ns := [91, 93, 123, 125]) (tupK (Frag.In.keeps (by k_asm) (Fr.keep (by k_asm))) (by k_is)) (by repeat constructor) ?_)
  k_with "binaryOp Pow int int" =>
    ((refine' pow_int_small (by decide) (by decide) (by decide) ?_))
  k_with "binaryOp Mod int int" =>
    ((refine' mod_int' (by decide) ?_))
  k_with "binaryOp FloorDiv int int" =>
    ((refine' floordiv_int (by decide) ?_ (by exact Or.inl (PyProof.noPylong_of_log2 (by decide +kernel)))))
  k_with "eval ListComp" =>
    (k_dflt (refine ListComp_C (F₀ := by k_asm) (by with_unfolding_all rfl) (by decide) (by rfl) (by decide) (by rfl) ?_))
  refine wpAny_call ?_
  k_dflt (refine' code_defC (binds := [((Str.ofString "number"), .int number tn), ((Str.ofString "width"), .int 3 tw)]) ?k1 ?k2 ?k3 ?k4 ?k5 ?kA ?kF ?kK ?k6 ?k7 ?k8 ?k9 ?kB ?kD ?_ ?c2 ?c3 ?c4; (case kA => exact rfl); (case kF => exact rfl); (case kK => assumption); (case k1 => k_asm); (case k2 => k_asm); (case k3 => k_asm); (case k4 => k_asm); (case k5 => k_asm); (case k6 => k_is); (case k7 => k_is); (case k8 => ktr_room); (case k9 => first | exact BindsTo.of_eq rfl | exact binds_K (by k_in) rfl (by k_is) rfl rfl rfl); (case kB => exact rfl); (case kD => decide +kernel); (case c2 => exact rfl); (case c3 => exact rfl); (case c4 => exact rfl))
  k_whole
  intro g' L' h' tk' cells' FG' F' N' Y' B' X' T' l1; k_cells Y'; (try simp only [List.cons_append, List.nil_append] at N'); (try dsimp only); (try k_fold)
  have q0 : AllLt L' rest := allLt_of fun p hp => l1 p hp
  have q3 : ∀ p ∈ rest, p.1 ≠ L' + 1 := ne_of_allLt (allLt_trans (Nat.le_succ _) q0)
  clear l1
  have q4 : ∀ p ∈ rest, p.1 ≠ L' + 1 + 1 := ne_of_allLt (allLt_trans (Nat.le_succ_of_le (Nat.le_succ _)) q0)
  k_steps
  rename IsRange _ _ _ _ _ _ _ _ => hrg
  rename News _ _ _ _ => nE
  refine' SrcC.range (n := 3) rfl ?sF nE hrg (by decide) (by decide) (by rw [sizeLine_eq]; decide) ?sg
  (case sF => assumption)
  intro g
  refine' comp_inv (n := 3) (fun i v => ∃ t, v = .int (octD number (3 - 1 - i)) t) ?st ?sf 3 0 [] (by omega) rfl (fun j v h => by simp at h)
  · rintro i ys v I oI C oC D m₂ h tk E' ⟨hi, t, rfl⟩ hC hx F N
    rcases (show i = 0 ∨ i = 1 ∨ i = 2 from by omega) with rfl | rfl | rfl
    all_goals (try (exfalso; omega; done))
    all_goals k_steps
    all_goals exact ⟨⟨_, rfl⟩, _, _, rfl, by assumption, by assumption⟩
  · intro ys hy1 hy2
    have hia : IntsAre ys (octS 3 number) := octS_are hy1 hy2
    have hin : KBa.In (octS 3 number) := octS_in _ _
    k_steps
    exact hQ _ _ _ _ (KBa.ints_make hin) (by rw [← KBw.ints_length, KBa.ints_make hin]; exact Nat.le_of_ble_eq_true rfl) (by assumption) (news_sub (by assumption) (by kcj_in))
end Mine
end
section
open PySem PySem.W PyProof.Rows PySem.Calls
namespace Mine
theorem letters_c {w : World} {dp un : Nat} {gd : Option (List Code)} {cn : Str} {cs : Scope} {a : Addr} {ccd : Value} {cl : List (Str × Addr)} {outer : List Env} {A₀ : Around} {base h₀ : Heap} {L : Addr} {m : Str → Option Value} {s : Shared} {Q E : Value → Shared → Prop} {mg mb : Str → Option Value} {mean : ExcName → Option Value} {loose : List Str} {news : List (Addr × Obj)}
  (B : Below A₀ base outer h₀) (F : Fr h₀ L s.heap m) (X : (Mine.hd.heap_1 w.params).In h₀) (N : News h₀ L s.heap (news)) (T : Top Mine.view loose mean mg mb h₀) (hk : cs.kind = .function) (hd : dp + 10 < recursionLimit) (hu : un + 200 < cLine) 
  (hQ : ∀ ll T1 T2 T3 T4 T5 u1 u2 u3 u4 u5 w1 w2 w3 w4 w5 n6 h' tk', AllLt T1 news ∧ @LT.lt Nat _ T1 T2 ∧ @LT.lt Nat _ T2 T3 ∧ @LT.lt Nat _ T3 T4 ∧ @LT.lt Nat _ T4 T5 ∧ @LT.lt Nat _ T5 ll → Fr h₀ L h' m → News h₀ L h' ((ll, listOf [.ref T1, .ref T2, .ref T3, .ref T4, .ref T5].toArray n6) :: (T1, { cls := .type "tuple", data := .seq #[.int 10 u1, .bytes #[110] w1] }) :: (T2, { cls := .type "tuple", data := .seq #[.int 13 u2, .bytes #[114] w2] }) :: (T3, { cls := .type "tuple", data := .seq #[.int 9 u3, .bytes #[116] w3] }) :: (T4, { cls := .type "tuple", data := .seq #[.int 8 u4, .bytes #[98] w4] }) :: (T5, { cls := .type "tuple", data := .seq #[.int 12 u5, .bytes #[102] w5] }) :: news) → Q (.ref ll) { s with heap := h', toks := tk' }) :
  wpAny (model Challenge.rw_nn0223_01.row.prog w) (ktrTop dp un gd cn cs L a ccd cl outer) (call (.ref 380) []) Q E s := by
  k_with_none
  w_top off
  k_with "MyPost" =>
    (dsimp only [MyPost])
  k_with "eval Call" =>
    ((with_reducible show wpAny _ _ (eval (Expr.Call (Expr.Name _ _) _ [] _) _) _ _ _); k_dflt (refine Call_ ?_))
  k_with "eval Call Attribute" =>
    ((with_reducible show wpAny _ _ (eval (Expr.Call (Expr.Attribute _ _ _) _ [] _) _) _ _ _); k_dflt (refine MethodCall_ ?_))
  k_with "compareOp In int ref" =>
    ((with_reducible show wpAny _ _ (compareOp CmpOp.In (Value.int _ _) (Value.ref 62)) _ _ _); refine in_tuple_ints (ns := [0, 9, 10, 12, 13, 32]) (tupK (Frag.In.keeps (by k_asm) (Fr.keep (by k_asm))) (by k_is)) (by repeat constructor) ?_)
  k_with "compareOp NotIn int ref" =>
    ((with_reducible show wpAny _ _ (compareOp CmpOp.NotIn (Value.int _ _) (Value.ref 62)) _ _ _); refine notin_tuple_ints (ns := [0, 9, 10, 12, 13, 32]) (tupK (Frag.In.keeps (by k_asm) (Fr.keep (by k_asm))) (by k_is)) (by repeat constructor) ?_)
  k_with "compareOp NotIn int ref" =>
    ((with_reducible show wpAny _ _ (compareOp CmpOp.NotIn (Value.int _ _) (Value.ref 63)) _ _ _); refine notin_tuple_ints (ns := [40, 41, 60, 62, 91, 93, 123, 125, 47, 37]) (tupK (Frag.In.keeps (by k_asm) (Fr.keep (by k_asm))) (by k_is)) (by repeat constructor) ?_)
  k_with "compareOp In int ref" =>
    ((with_reducible show wpAny _ _ (compareOp CmpOp.In (Value.int _ _) (Value.ref 304)) _ _ _); refine in_tuple_ints (ns := [91, 93, 123, 125]) (tupK (Frag.In.keeps (by k_asm) (Fr.keep (by k_asm))) (by k_is)) (by repeat constructor) ?_)
  k_with "call ref" =>
    ((with_reducible show wpAny _ _ (call (Value.ref 406) [_, Value.int 1 _]) _ _ _); (rename News _ _ _ _ => kN); k_dflt (refine' octal1_c (by k_asm) (by k_asm) (by k_asm) kN (by k_asm) (by first | exact rfl | assumption) (by ktr_room) (by ktr_units) (by omega) (by omega) ?_; k_whole); intro _ _ _ _ _ _ _ _; (try clear kN); (try k_sweep))
  k_with "call ref" =>
    ((with_reducible show wpAny _ _ (call (Value.ref 406) [_, Value.int 2 _]) _ _ _); (rename News _ _ _ _ => kN); k_dflt (refine' octal2_c (by k_asm) (by k_asm) (by k_asm) kN (by k_asm) (by first | exact rfl | assumption) (by ktr_room) (by ktr_units) (by omega) (by omega) ?_; k_whole); intro _ _ _ _ _ _ _ _; (try clear kN); (try k_sweep))
  k_with "call ref" =>
    ((with_reducible show wpAny _ _ (call (Value.ref 406) [_, Value.int 3 _]) _ _ _); (rename News _ _ _ _ => kN); k_dflt (refine' octal3_c (by k_asm) (by k_asm) (by k_asm) kN (by k_asm) (by first | exact rfl | assumption) (by ktr_room) (by ktr_units) (by omega) (by omega) ?_; k_whole); intro _ _ _ _ _ _ _ _; (try clear kN); (try k_sweep))
  k_with "call ref" =>
    ((with_reducible show wpAny _ _ (call (Value.ref 401) _) _ _ _); (rename News _ _ _ _ => kN); k_dflt (refine' draw_c (by k_asm) (by k_asm) (by k_asm) (news_pick2r kN (by tb_start) (by tb_start)) (by k_asm) (by first | exact rfl | assumption) (by ktr_room) (by ktr_units) (by k_ne) (by k_all) (by assumption) (by omega) (by omega) (by omega) (by omega) (by omega) (by omega) ?_; k_whole); intro _ _ _ _ _ _ _ _ _ _ _ _ _ _ _ _; (try clear kN); (try k_sweep))
  k_with "binaryOp Add bytes bytes" =>
    ((refine' KBy.add_bytes (by ((try simp only [Array.size_append, List.size_toArray, List.length_cons, List.length_nil]); omega)) ?_); intro _ _)
  k_with "exec If Compare" =>
    (k_extra "exec If")
  k_with "exec If BoolOp" =>
    (k_extra "exec If")
  k_with "exec For" =>
    ((rename Fr _ _ _ _ => zF); (with_unfolding_all refine' For_turns zF ?_; k_whole))
  k_with "ForPost" =>
    (dsimp only [ForPost])
  k_with "call builtin:list.extend" =>
    ((with_reducible show wpAny _ _ (call (Value.builtin _) [Value.ref _, Value.ref _]) _ _ _); k_dflt (refine' my_extw (by k_asm) (by k_asm) (by k_mem) (by exact List.cons_ne_nil _ _) (by k_upd) (by omega) (by exact Nat.le_of_ble_eq_true rfl) ?_); intro _ _ _; (try k_sweep))
  k_with "call builtin:len" =>
    ((with_reducible show wpAny _ _ (call (Value.builtin _) [Value.ref _]) _ _ _); k_dflt (refine' my_len (by k_asm) (by k_mem) (by omega) ?_))
  k_with "subscriptTail" =>
    ((with_reducible show wpAny _ _ (subscriptTail _ _ (Value.ref _) (Value.int _ _)) _ _ _); (rename WaysOk _ _ _ ∧ _ => hW); k_dflt (refine' my_ways (by k_asm) (by k_mem) hW.1 (by omega) (by omega) (by omega) ?_); intro _ _ _)
  revert X; k_fill; intro X
  refine wpAny_call ?_
  k_dflt (refine' code_def (binds := ([] : List (Str × Value))) ?k1 ?k2 ?k3 ?k4 ?k5 ?kA ?kF ?kK ?k6 ?k7 ?k8 ?k9 ?kB ?_ ?c2 ?c3 ?c4 ?c5; (case kA => exact rfl); (case kF => exact rfl); (case kK => assumption); (case k1 => k_asm); (case k2 => k_asm); (case k3 => k_asm); (case k4 => k_asm); (case k5 => k_asm); (case k6 => k_is); (case k7 => k_is); (case k8 => ktr_room); (case k9 => first | exact BindsTo.of_eq rfl | exact binds_K (by k_in) rfl (by k_is) rfl rfl rfl); (case c5 => decide); (case kB => exact locs rfl); (case c2 => exact rfl); (case c3 => exact rfl); (case c4 => exact rfl))
  k_whole
  intro g' L' h' FG' F' N' B' X' T'
  (try dsimp only [List.reverse_cons, List.reverse_nil, List.nil_append, List.cons_append]); (try k_fold)
  k_steps
  refine hQ _ _ _ _ _ _ _ _ _ _ _ _ _ _ _ _ _ _ _ ?_ (by assumption) (news_sub (by assumption) (by kcj_in))
  (repeat' apply And.intro) <;> first | exact allLt_of (by assumption) | omega
theorem law_code_c {w : World} {dp un : Nat} {gd : Option (List Code)} {cn : Str} {cs : Scope} {a : Addr} {ccd : Value} {cl : List (Str × Addr)} {outer : List Env} {A₀ : Around} {base h₀ : Heap} {L : Addr} {m : Str → Option Value} {s : Shared} {Q E : Value → Shared → Prop} {mg mb : Str → Option Value} {mean : ExcName → Option Value} {loose : List Str} {pn inn : Addr} {place great : Int} {tp tg : Tok} {n1 n2 : Nat} {cells : List Value} {cs_ : List Int} {rest : List (Addr × Obj)} {code : Int} {tc : Tok} {bf : Bool}
  (B : Below A₀ base outer h₀) (F : Fr h₀ L s.heap m) (X : (Mine.hd.heap_1 w.params).In h₀) (N : News h₀ L s.heap ((pn, listOf [.ref inn, .int place tp, .int great tg].toArray n1) :: (inn, listOf cells.toArray n2) :: rest)) (T : Top Mine.view loose mean mg mb h₀) (hk : cs.kind = .function) (hd : dp + 30 < recursionLimit) (hu : un + 1000 < cLine) (hpi : @Ne Nat pn inn) (hpr : ∀ p ∈ rest, p.1 ≠ pn) (hcs : IntsAre cells cs_) (hcl : cs_.length ≤ 1000) (hpl : 0 ≤ place) (hpm : place < 100000) (hgr : 0 ≤ great) (hc0 : 0 ≤ code) (hc1 : code < 256)
  (hQ : ∀ (b : Array UInt8) t place' great' tp' tg' n' h' tk', CodeOk code bf (KBw.bInts b) → 0 ≤ place' → place' ≤ place + 1 → 0 ≤ great' → Fr h₀ L h' m → News h₀ L h' ((pn, listOf [.ref inn, .int place' tp', .int great' tg'].toArray n') :: (inn, listOf cells.toArray n2) :: rest) → Q (.bytes b t) { s with heap := h', toks := tk' }) :
  wpAny (model Challenge.rw_nn0223_01.row.prog w) (ktrTop dp un gd cn cs L a ccd cl outer) (call (.ref 413) [.ref pn, .int code tc, .bool bf]) Q E s := by
  k_with_none
  w_top off
  k_with "MyPost" =>
    (dsimp only [MyPost])
  k_with "eval Call" =>
    ((with_reducible show wpAny _ _ (eval (Expr.Call (Expr.Name _ _) _ [] _) _) _ _ _); k_dflt (refine Call_ ?_))
  k_with "eval Call Attribute" =>
    ((with_reducible show wpAny _ _ (eval (Expr.Call (Expr.Attribute _ _ _) _ [] _) _) _ _ _); k_dflt (refine MethodCall_ ?_))
  k_with "compareOp In int ref" =>
    ((with_reducible show wpAny _ _ (compareOp CmpOp.In (Value.int _ _) (Value.ref 62)) _ _ _); refine in_tuple_ints (ns := [0, 9, 10, 12, 13, 32]) (tupK (Frag.In.keeps (by k_asm) (Fr.keep (by k_asm))) (by k_is)) (by repeat constructor) ?_)
  k_with "compareOp NotIn int ref" =>
    ((with_reducible show wpAny _ _ (compareOp CmpOp.NotIn (Value.int _ _) (Value.ref 62)) _ _ _); refine notin_tuple_ints (ns := [0, 9, 10, 12, 13, 32]) (tupK (Frag.In.keeps (by k_asm) (Fr.keep (by k_asm))) (by k_is)) (by repeat constructor) ?_)
  k_with "compareOp NotIn int ref" =>
    ((with_reducible show wpAny _ _ (compareOp CmpOp.NotIn (Value.int _ _) (Value.ref 63)) _ _ _); refine notin_tuple_ints (ns := [40, 41, 60, 62, 91, 93, 123, 125, 47, 37]) (tupK (Frag.In.keeps (by k_asm) (Fr.keep (by k_asm))) (by k_is)) (by repeat constructor) ?_)
  k_with "compareOp In int ref" =>
    ((with_reducible show wpAny _ _ (compareOp CmpOp.In (Value.int _ _) (Value.ref 304)) _ _ _); refine in_tuple_ints (ns := [91, 93, 123, 125]) (tupK (Frag.In.keeps (by k_asm) (Fr.keep (by k_asm))) (by k_is)) (by repeat constructor) ?_)
  k_with "call ref" =>
    ((with_reducible show wpAny _ _ (call (Value.ref 406) [_, Value.int 1 _]) _ _ _); (rename News _ _ _ _ => kN); k_dflt (refine' octal1_c (by k_asm) (by k_asm) (by k_asm) kN (by k_asm) (by first | exact rfl | assumption) (by ktr_room) (by ktr_units) (by omega) (by omega) ?_; k_whole); intro _ _ _ _ _ _ _ _; (try clear kN); (try k_sweep))
  k_with "call ref" =>
    ((with_reducible show wpAny _ _ (call (Value.ref 406) [_, Value.int 2 _]) _ _ _); (rename News _ _ _ _ => kN); k_dflt (refine' octal2_c (by k_asm) (by k_asm) (by k_asm) kN (by k_asm) (by first | exact rfl | assumption) (by ktr_room) (by ktr_units) (by omega) (by omega) ?_; k_whole); intro _ _ _ _ _ _ _ _; (try clear kN); (try k_sweep))
  k_with "call ref" =>
    ((with_reducible show wpAny _ _ (call (Value.ref 406) [_, Value.int 3 _]) _ _ _); (rename News _ _ _ _ => kN); k_dflt (refine' octal3_c (by k_asm) (by k_asm) (by k_asm) kN (by k_asm) (by first | exact rfl | assumption) (by ktr_room) (by ktr_units) (by omega) (by omega) ?_; k_whole); intro _ _ _ _ _ _ _ _; (try clear kN); (try k_sweep))
  k_with "call ref" =>
    ((with_reducible show wpAny _ _ (call (Value.ref 401) _) _ _ _); (rename News _ _ _ _ => kN); k_dflt (refine' draw_c (by k_asm) (by k_asm) (by k_asm) (news_pick2r kN (by tb_start) (by tb_start)) (by k_asm) (by first | exact rfl | assumption) (by ktr_room) (by ktr_units) (by k_ne) (by k_all) (by assumption) (by omega) (by omega) (by omega) (by omega) (by omega) (by omega) ?_; k_whole); intro _ _ _ _ _ _ _ _ _ _ _ _ _ _ _ _; (try clear kN); (try k_sweep))
  k_with "binaryOp Add bytes bytes" =>
    ((refine' KBy.add_bytes (by ((try simp only [Array.size_append, List.size_toArray, List.length_cons, List.length_nil]); omega)) ?_); intro _ _)
  k_with "exec If Compare" =>
    (k_extra "exec If")
  k_with "exec If BoolOp" =>
    (k_extra "exec If")
  k_with "exec For" =>
    ((rename Fr _ _ _ _ => zF); (with_unfolding_all refine' For_turns zF ?_; k_whole))
  k_with "ForPost" =>
    (dsimp only [ForPost])
  k_with "call builtin:list.extend" =>
    ((with_reducible show wpAny _ _ (call (Value.builtin _) [Value.ref _, Value.ref _]) _ _ _); k_dflt (refine' my_extw (by k_asm) (by k_asm) (by k_mem) (by exact List.cons_ne_nil _ _) (by k_upd) (by omega) (by exact Nat.le_of_ble_eq_true rfl) ?_); intro _ _ _; (try k_sweep))
  k_with "call builtin:len" =>
    ((with_reducible show wpAny _ _ (call (Value.builtin _) [Value.ref _]) _ _ _); k_dflt (refine' my_len (by k_asm) (by k_mem) (by omega) ?_))
  k_with "subscriptTail" =>
    ((with_reducible show wpAny _ _ (subscriptTail _ _ (Value.ref _) (Value.int _ _)) _ _ _); (rename WaysOk _ _ _ ∧ _ => hW); k_dflt (refine' my_ways (by k_asm) (by k_mem) hW.1 (by omega) (by omega) (by omega) ?_); intro _ _ _)
  revert X; k_fill; intro X
  refine wpAny_call ?_
  k_dflt (refine' code_def (binds := [((Str.ofString "pen"), .ref pn), ((Str.ofString "code"), .int code tc), ((Str.ofString "is_before_figure"), .bool bf)]) ?k1 ?k2 ?k3 ?k4 ?k5 ?kA ?kF ?kK ?k6 ?k7 ?k8 ?k9 ?kB ?_ ?c2 ?c3 ?c4 ?c5; (case kA => exact rfl); (case kF => exact rfl); (case kK => assumption); (case k1 => k_asm); (case k2 => k_asm); (case k3 => k_asm); (case k4 => k_asm); (case k5 => k_asm); (case k6 => k_is); (case k7 => k_is); (case k8 => ktr_room); (case k9 => first | exact BindsTo.of_eq rfl | exact binds_K (by k_in) rfl (by k_is) rfl rfl rfl); (case c5 => decide); (case kB => exact locs rfl); (case c2 => exact rfl); (case c3 => exact rfl); (case c4 => exact rfl))
  k_whole
  intro g' L' h' FG' F' N' B' X' T'
  (try dsimp only [List.reverse_cons, List.reverse_nil, List.nil_append, List.cons_append]); (try k_fold)
  k_with "exec If" =>
    (fail_if_success (with_reducible show wpAny _ _ _ (IfJ _) _ _))
    (rename Fr _ _ _ _ => lF'); (rename News _ _ _ _ => lN')
    (first
      | (have hj9 := hj3; refine' grow_join (s := s) (l' := l') (rest := (I, o) :: (ll, listOf [.ref T1, .ref T2, .ref T3, .ref T4, .ref T5].toArray n6) :: (T1, { cls := .type "tuple", data := .seq #[.int 10 u1, .bytes #[110] w1] }) :: (T2, { cls := .type "tuple", data := .seq #[.int 13 u2, .bytes #[114] w2] }) :: (T3, { cls := .type "tuple", data := .seq #[.int 9 u3, .bytes #[116] w3] }) :: (T4, { cls := .type "tuple", data := .seq #[.int 8 u4, .bytes #[98] w4] }) :: (T5, { cls := .type "tuple", data := .seq #[.int 12 u5, .bytes #[102] w5] }) :: (pn, listOf [.ref inn, .int place tp, .int great tg].toArray n1) :: (inn, listOf cells.toArray n2) :: rest) lF' (fun ws => WaysOk code bf ws ∧ 2 ≤ ws.length ∧ ws.length ≤ vs.length + 1) ?_ ?_; rotate_left; intro h' tk' ws nw F' N' hW)
      | (rename WaysOk _ _ _ ∧ 2 ≤ List.length _ ∧ List.length _ ≤ 13 => hW; refine' grow_join (s := s) (l' := l') (rest := (pn, listOf [.ref inn, .int place tp, .int great tg].toArray n1) :: (inn, listOf cells.toArray n2) :: rest) lF' (fun vs => WaysOk code bf vs ∧ 2 ≤ vs.length ∧ vs.length ≤ 14) ?_ ?_; rotate_left; intro h' tk' vs n F' N' hW)
      | (rename WaysOk _ _ _ ∧ 2 ≤ List.length _ ∧ List.length _ ≤ 12 => hW; refine' grow_join (s := s) (l' := l') (rest := (pn, listOf [.ref inn, .int place tp, .int great tg].toArray n1) :: (inn, listOf cells.toArray n2) :: rest) lF' (fun vs => WaysOk code bf vs ∧ 2 ≤ vs.length ∧ vs.length ≤ 13) ?_ ?_; rotate_left; intro h' tk' vs n F' N' hW)
      | (rename WaysOk _ _ _ ∧ 2 ≤ List.length _ ∧ List.length _ ≤ 4 => hW; refine' grow_join (s := s) (l' := l') (rest := (pn, listOf [.ref inn, .int place tp, .int great tg].toArray n1) :: (inn, listOf cells.toArray n2) :: rest) lF' (fun vs => WaysOk code bf vs ∧ 2 ≤ vs.length ∧ vs.length ≤ 7) ?_ ?_; rotate_left; intro h' tk' vs n F' N' hW)
      | (rename _ ∧ _ ∧ AllLt _ _ => lL'; obtain ⟨l', hl', lL2⟩ : ∃ z : Addr, z = _ ∧ (@LT.lt Nat _ pn z ∧ @LT.lt Nat _ inn z ∧ AllLt z rest) := ⟨_, rfl, lL'⟩; subst hl'; clear lL'; refine' grow_join (s := s) (l' := l') (rest := (pn, listOf [.ref inn, .int place tp, .int great tg].toArray n1) :: (inn, listOf cells.toArray n2) :: rest) lF' (fun vs => WaysOk code bf vs ∧ 2 ≤ vs.length ∧ vs.length ≤ 4) ?_ ?_; rotate_left; intro h' tk' vs n F' N' hW))
    (try clear lF' lN')
  k_with "call ref" =>
    (rename News _ _ _ _ => kN)
    k_dflt (refine' letters_c ?k1 ?k2 ?k3 kN ?k5 ?k6 ?kd ?ku ?_; (case k1 => k_asm); (case k2 => k_asm); (case k3 => k_asm); (case k5 => k_asm); (case k6 => first | exact rfl | assumption); (case kd => ktr_room); (case ku => ktr_units); k_whole)
    intro ll T1 T2 T3 T4 T5 u1 u2 u3 u4 u5 w1 w2 w3 w4 w5 n6 h' tk' lT F' N'
    simp only [AllLt] at lT
    (try clear kN)
  k_with "pyIter ref" =>
    (rename Fr _ _ _ _ => lF'); (rename News _ _ _ _ => lN'); (rename WaysOk _ _ _ ∧ 2 ≤ List.length _ ∧ List.length _ ≤ 7 => hW)
    with_unfolding_all refine' my_forlist (σ := List Value × Nat) (vs := [.ref T1, .ref T2, .ref T3, .ref T4, .ref T5]) (n := n6) (lo := listOf [.ref T1, .ref T2, .ref T3, .ref T4, .ref T5].toArray n6) (fun x u y => if y = Str.ofString "number" then u y else if y = Str.ofString "letter" then u y else if y = Str.ofString "ways" then some (.ref l') else List.lookup y [(Str.ofString "pen", Value.ref pn), (Str.ofString "code", Value.int code tc), (Str.ofString "is_before_figure", Value.bool bf)].reverse) (fun x => (l', listOf x.1.toArray x.2) :: (ll, listOf [.ref T1, .ref T2, .ref T3, .ref T4, .ref T5].toArray n6) :: (T1, { cls := .type "tuple", data := .seq #[.int 10 u1, .bytes #[110] w1] }) :: (T2, { cls := .type "tuple", data := .seq #[.int 13 u2, .bytes #[114] w2] }) :: (T3, { cls := .type "tuple", data := .seq #[.int 9 u3, .bytes #[116] w3] }) :: (T4, { cls := .type "tuple", data := .seq #[.int 8 u4, .bytes #[98] w4] }) :: (T5, { cls := .type "tuple", data := .seq #[.int 12 u5, .bytes #[102] w5] }) :: (pn, listOf [.ref inn, .int place tp, .int great tg].toArray n1) :: (inn, listOf cells.toArray n2) :: rest) (fun i x => WaysOk code bf x.1 ∧ 2 ≤ x.1.length ∧ x.1.length ≤ 7 + i) (vs, n) rfl lF' lN' rfl rfl (fun _ => .tail _ (.head _)) ?jm ?jl (fun _ => rfl) hW ?jt ?jf
    (case jm => tb_rel)
    (case jl => kcj_in)
    rintro i ⟨vs, n⟩ u I v o h tk hv ⟨hj1, hj2, hj3⟩ hI ho lF lN
    (try clear lF' lN')
    dsimp only at lF lN hj1 hj2 hj3 hI ⊢
    k_dflt (replace lF := show Fr g' L' h _ from lF)
    k_dflt (replace lN := show News g' L' h _ from lN)
    have hI1 : @Ne Nat l' I := by k_dflt (exact hI _ (List.Mem.head _))
    rcases i with _ | _ | _ | _ | _ | i
    (case' succ.succ.succ.succ.succ => exact absurd hv (by simp))
    iterate 5 ((have hv9 := by k_dflt (exact Option.some.inj hv)); (clear hv); (subst hv9); rotate_left)
    rotate_left
    (case' jf => (rintro ⟨vs, n⟩ u h tk ⟨hz1, hz2, hz3⟩ lF lN; (have hW : WaysOk code bf vs ∧ 2 ≤ vs.length ∧ vs.length ≤ 12 := by k_dflt (exact ⟨hz1, hz2, hz3⟩)); clear hz1 hz2 hz3 lF' lN'; dsimp only at lF lN; k_dflt (replace lF := show Fr g' L' h _ from lF); replace lN : News g' L' h ((l', listOf vs.toArray n) :: (pn, listOf [.ref inn, .int place tp, .int great tg].toArray n1) :: (inn, listOf cells.toArray n2) :: rest) := news_sub lN (by kcj_in)))
  k_steps
  all_goals (rename News _ _ _ _ => nE)
  all_goals (try simp only [List.push_toArray] at nE)
  all_goals first
      | (refine hQ _ _ _ _ _ _ _ _ _ (by assumption) ?_ ?_ ?_ (by assumption) (news_sub (by assumption) (by kcj_in)) <;> omega)
      | (refine' for_end (ws, nw) ?eF ?eN ?em ?en ⟨hW.1, hW.2.1, by have := hW.2.2; dsimp only; omega⟩; (case eF => assumption); (case eN => assumption); (case en => kcj_in); (case em => (intro y; (by_cases q0 : y = Str.ofString "number"; (subst q0; rfl)); (by_cases q1 : y = Str.ofString "letter"; (subst q1; rfl)); (by_cases q2 : y = Str.ofString "ways"; (subst q2; rfl)); simp only [q0, q1, q2, if_false, reduceIte])))
      | (refine' ifj_mk (vs) (by assumption) (news_sub nE (by kcj_in)) ⟨(by first | exact hj1 | exact hW.1), (by (try simp only [List.length_append, List.length_cons, List.length_nil]); omega), (by (try simp only [List.length_append, List.length_cons, List.length_nil]); omega)⟩)
      | (refine' ifj_mk (vs ++ [_]) (by assumption) (news_sub nE (by kcj_in)) ⟨(by first | exact hj1.app (.one (by (first
      | exact .inl (ok92 (by assumption))
      | exact .inr (.inl (ok92 (by assumption)))
      | exact .inr (.inr (.inl ⟨okc (by assumption), by assumption⟩))
      | exact .inr (.inr (.inr (.inl ⟨by assumption, .inl rfl⟩)))
      | exact .inr (.inr (.inr (.inl ⟨by assumption, .inr (.inl rfl)⟩)))
      | exact .inr (.inr (.inr (.inl ⟨by assumption, .inr (.inr ⟨rfl, by assumption⟩)⟩)))
      | exact .inr (.inr (.inr (.inr (.inr (.inl ⟨by assumption, by assumption, .inl ⟨by assumption, ok92 (by assumption)⟩⟩)))))
      | exact .inr (.inr (.inr (.inr (.inr (.inl ⟨by assumption, by assumption, .inr ⟨by omega, ok92 (by assumption)⟩⟩)))))
      | exact .inr (.inr (.inr (.inr (.inr (.inr ⟨ok92c (by assumption), by assumption, by omega⟩)))))
      | exact .inr (.inr (.inr (.inr (.inl (.inl ⟨by omega, rfl⟩)))))
      | exact .inr (.inr (.inr (.inr (.inl (.inr (.inl ⟨by omega, rfl⟩))))))
      | exact .inr (.inr (.inr (.inr (.inl (.inr (.inr (.inl ⟨by omega, rfl⟩)))))))
      | exact .inr (.inr (.inr (.inr (.inl (.inr (.inr (.inr (.inl ⟨by omega, rfl⟩))))))))
      | exact .inr (.inr (.inr (.inr (.inl (.inr (.inr (.inr (.inr ⟨by omega, rfl⟩))))))))))) | exact hW.1.app (.one (by (first
      | exact .inl (ok92 (by assumption))
      | exact .inr (.inl (ok92 (by assumption)))
      | exact .inr (.inr (.inl ⟨okc (by assumption), by assumption⟩))
      | exact .inr (.inr (.inr (.inl ⟨by assumption, .inl rfl⟩)))
      | exact .inr (.inr (.inr (.inl ⟨by assumption, .inr (.inl rfl)⟩)))
      | exact .inr (.inr (.inr (.inl ⟨by assumption, .inr (.inr ⟨rfl, by assumption⟩)⟩)))
      | exact .inr (.inr (.inr (.inr (.inr (.inl ⟨by assumption, by assumption, .inl ⟨by assumption, ok92 (by assumption)⟩⟩)))))
      | exact .inr (.inr (.inr (.inr (.inr (.inl ⟨by assumption, by assumption, .inr ⟨by omega, ok92 (by assumption)⟩⟩)))))
      | exact .inr (.inr (.inr (.inr (.inr (.inr ⟨ok92c (by assumption), by assumption, by omega⟩)))))
      | exact .inr (.inr (.inr (.inr (.inl (.inl ⟨by omega, rfl⟩)))))
      | exact .inr (.inr (.inr (.inr (.inl (.inr (.inl ⟨by omega, rfl⟩))))))
      | exact .inr (.inr (.inr (.inr (.inl (.inr (.inr (.inl ⟨by omega, rfl⟩)))))))
      | exact .inr (.inr (.inr (.inr (.inl (.inr (.inr (.inr (.inl ⟨by omega, rfl⟩))))))))
      | exact .inr (.inr (.inr (.inr (.inl (.inr (.inr (.inr (.inr ⟨by omega, rfl⟩)))))))))))), (by (try simp only [List.length_append, List.length_cons, List.length_nil]); omega), (by (try simp only [List.length_append, List.length_cons, List.length_nil]); omega)⟩)
      | (refine' ifj_mk (vs ++ [_, _, _]) (by assumption) (news_sub nE (by kcj_in)) ⟨hW.1.app (WaysOk.cons (by (first
      | exact .inl (ok92 (by assumption))
      | exact .inr (.inl (ok92 (by assumption)))
      | exact .inr (.inr (.inl ⟨okc (by assumption), by assumption⟩))
      | exact .inr (.inr (.inr (.inl ⟨by assumption, .inl rfl⟩)))
      | exact .inr (.inr (.inr (.inl ⟨by assumption, .inr (.inl rfl)⟩)))
      | exact .inr (.inr (.inr (.inl ⟨by assumption, .inr (.inr ⟨rfl, by assumption⟩)⟩)))
      | exact .inr (.inr (.inr (.inr (.inr (.inl ⟨by assumption, by assumption, .inl ⟨by assumption, ok92 (by assumption)⟩⟩)))))
      | exact .inr (.inr (.inr (.inr (.inr (.inl ⟨by assumption, by assumption, .inr ⟨by omega, ok92 (by assumption)⟩⟩)))))
      | exact .inr (.inr (.inr (.inr (.inr (.inr ⟨ok92c (by assumption), by assumption, by omega⟩)))))
      | exact .inr (.inr (.inr (.inr (.inl (.inl ⟨by omega, rfl⟩)))))
      | exact .inr (.inr (.inr (.inr (.inl (.inr (.inl ⟨by omega, rfl⟩))))))
      | exact .inr (.inr (.inr (.inr (.inl (.inr (.inr (.inl ⟨by omega, rfl⟩)))))))
      | exact .inr (.inr (.inr (.inr (.inl (.inr (.inr (.inr (.inl ⟨by omega, rfl⟩))))))))
      | exact .inr (.inr (.inr (.inr (.inl (.inr (.inr (.inr (.inr ⟨by omega, rfl⟩)))))))))) (.cons (by (first
      | exact .inl (ok92 (by assumption))
      | exact .inr (.inl (ok92 (by assumption)))
      | exact .inr (.inr (.inl ⟨okc (by assumption), by assumption⟩))
      | exact .inr (.inr (.inr (.inl ⟨by assumption, .inl rfl⟩)))
      | exact .inr (.inr (.inr (.inl ⟨by assumption, .inr (.inl rfl)⟩)))
      | exact .inr (.inr (.inr (.inl ⟨by assumption, .inr (.inr ⟨rfl, by assumption⟩)⟩)))
      | exact .inr (.inr (.inr (.inr (.inr (.inl ⟨by assumption, by assumption, .inl ⟨by assumption, ok92 (by assumption)⟩⟩)))))
      | exact .inr (.inr (.inr (.inr (.inr (.inl ⟨by assumption, by assumption, .inr ⟨by omega, ok92 (by assumption)⟩⟩)))))
      | exact .inr (.inr (.inr (.inr (.inr (.inr ⟨ok92c (by assumption), by assumption, by omega⟩)))))
      | exact .inr (.inr (.inr (.inr (.inl (.inl ⟨by omega, rfl⟩)))))
      | exact .inr (.inr (.inr (.inr (.inl (.inr (.inl ⟨by omega, rfl⟩))))))
      | exact .inr (.inr (.inr (.inr (.inl (.inr (.inr (.inl ⟨by omega, rfl⟩)))))))
      | exact .inr (.inr (.inr (.inr (.inl (.inr (.inr (.inr (.inl ⟨by omega, rfl⟩))))))))
      | exact .inr (.inr (.inr (.inr (.inl (.inr (.inr (.inr (.inr ⟨by omega, rfl⟩)))))))))) (.one (by (first
      | exact .inl (ok92 (by assumption))
      | exact .inr (.inl (ok92 (by assumption)))
      | exact .inr (.inr (.inl ⟨okc (by assumption), by assumption⟩))
      | exact .inr (.inr (.inr (.inl ⟨by assumption, .inl rfl⟩)))
      | exact .inr (.inr (.inr (.inl ⟨by assumption, .inr (.inl rfl)⟩)))
      | exact .inr (.inr (.inr (.inl ⟨by assumption, .inr (.inr ⟨rfl, by assumption⟩)⟩)))
      | exact .inr (.inr (.inr (.inr (.inr (.inl ⟨by assumption, by assumption, .inl ⟨by assumption, ok92 (by assumption)⟩⟩)))))
      | exact .inr (.inr (.inr (.inr (.inr (.inl ⟨by assumption, by assumption, .inr ⟨by omega, ok92 (by assumption)⟩⟩)))))
      | exact .inr (.inr (.inr (.inr (.inr (.inr ⟨ok92c (by assumption), by assumption, by omega⟩)))))
      | exact .inr (.inr (.inr (.inr (.inl (.inl ⟨by omega, rfl⟩)))))
      | exact .inr (.inr (.inr (.inr (.inl (.inr (.inl ⟨by omega, rfl⟩))))))
      | exact .inr (.inr (.inr (.inr (.inl (.inr (.inr (.inl ⟨by omega, rfl⟩)))))))
      | exact .inr (.inr (.inr (.inr (.inl (.inr (.inr (.inr (.inl ⟨by omega, rfl⟩))))))))
      | exact .inr (.inr (.inr (.inr (.inl (.inr (.inr (.inr (.inr ⟨by omega, rfl⟩))))))))))))), (by (try simp only [List.length_append, List.length_cons, List.length_nil]); omega), (by (try simp only [List.length_append, List.length_cons, List.length_nil]); omega)⟩)
      | (refine' ifj_mk ([_, _]) (by assumption) (news_sub nE (by kcj_in)) ⟨WaysOk.cons (by (first
      | exact .inl (ok92 (by assumption))
      | exact .inr (.inl (ok92 (by assumption)))
      | exact .inr (.inr (.inl ⟨okc (by assumption), by assumption⟩))
      | exact .inr (.inr (.inr (.inl ⟨by assumption, .inl rfl⟩)))
      | exact .inr (.inr (.inr (.inl ⟨by assumption, .inr (.inl rfl)⟩)))
      | exact .inr (.inr (.inr (.inl ⟨by assumption, .inr (.inr ⟨rfl, by assumption⟩)⟩)))
      | exact .inr (.inr (.inr (.inr (.inr (.inl ⟨by assumption, by assumption, .inl ⟨by assumption, ok92 (by assumption)⟩⟩)))))
      | exact .inr (.inr (.inr (.inr (.inr (.inl ⟨by assumption, by assumption, .inr ⟨by omega, ok92 (by assumption)⟩⟩)))))
      | exact .inr (.inr (.inr (.inr (.inr (.inr ⟨ok92c (by assumption), by assumption, by omega⟩)))))
      | exact .inr (.inr (.inr (.inr (.inl (.inl ⟨by omega, rfl⟩)))))
      | exact .inr (.inr (.inr (.inr (.inl (.inr (.inl ⟨by omega, rfl⟩))))))
      | exact .inr (.inr (.inr (.inr (.inl (.inr (.inr (.inl ⟨by omega, rfl⟩)))))))
      | exact .inr (.inr (.inr (.inr (.inl (.inr (.inr (.inr (.inl ⟨by omega, rfl⟩))))))))
      | exact .inr (.inr (.inr (.inr (.inl (.inr (.inr (.inr (.inr ⟨by omega, rfl⟩)))))))))) (.one (by (first
      | exact .inl (ok92 (by assumption))
      | exact .inr (.inl (ok92 (by assumption)))
      | exact .inr (.inr (.inl ⟨okc (by assumption), by assumption⟩))
      | exact .inr (.inr (.inr (.inl ⟨by assumption, .inl rfl⟩)))
      | exact .inr (.inr (.inr (.inl ⟨by assumption, .inr (.inl rfl)⟩)))
      | exact .inr (.inr (.inr (.inl ⟨by assumption, .inr (.inr ⟨rfl, by assumption⟩)⟩)))
      | exact .inr (.inr (.inr (.inr (.inr (.inl ⟨by assumption, by assumption, .inl ⟨by assumption, ok92 (by assumption)⟩⟩)))))
      | exact .inr (.inr (.inr (.inr (.inr (.inl ⟨by assumption, by assumption, .inr ⟨by omega, ok92 (by assumption)⟩⟩)))))
      | exact .inr (.inr (.inr (.inr (.inr (.inr ⟨ok92c (by assumption), by assumption, by omega⟩)))))
      | exact .inr (.inr (.inr (.inr (.inl (.inl ⟨by omega, rfl⟩)))))
      | exact .inr (.inr (.inr (.inr (.inl (.inr (.inl ⟨by omega, rfl⟩))))))
      | exact .inr (.inr (.inr (.inr (.inl (.inr (.inr (.inl ⟨by omega, rfl⟩)))))))
      | exact .inr (.inr (.inr (.inr (.inl (.inr (.inr (.inr (.inl ⟨by omega, rfl⟩))))))))
      | exact .inr (.inr (.inr (.inr (.inl (.inr (.inr (.inr (.inr ⟨by omega, rfl⟩))))))))))), (by (try simp only [List.length_append, List.length_cons, List.length_nil]); omega), (by (try simp only [List.length_append, List.length_cons, List.length_nil]); omega)⟩)
      | (refine' ifj_mk ([_, _] ++ [_] ++ [_]) (by assumption) (news_sub nE (by kcj_in)) ⟨(((WaysOk.cons (by (first
      | exact .inl (ok92 (by assumption))
      | exact .inr (.inl (ok92 (by assumption)))
      | exact .inr (.inr (.inl ⟨okc (by assumption), by assumption⟩))
      | exact .inr (.inr (.inr (.inl ⟨by assumption, .inl rfl⟩)))
      | exact .inr (.inr (.inr (.inl ⟨by assumption, .inr (.inl rfl)⟩)))
      | exact .inr (.inr (.inr (.inl ⟨by assumption, .inr (.inr ⟨rfl, by assumption⟩)⟩)))
      | exact .inr (.inr (.inr (.inr (.inr (.inl ⟨by assumption, by assumption, .inl ⟨by assumption, ok92 (by assumption)⟩⟩)))))
      | exact .inr (.inr (.inr (.inr (.inr (.inl ⟨by assumption, by assumption, .inr ⟨by omega, ok92 (by assumption)⟩⟩)))))
      | exact .inr (.inr (.inr (.inr (.inr (.inr ⟨ok92c (by assumption), by assumption, by omega⟩)))))
      | exact .inr (.inr (.inr (.inr (.inl (.inl ⟨by omega, rfl⟩)))))
      | exact .inr (.inr (.inr (.inr (.inl (.inr (.inl ⟨by omega, rfl⟩))))))
      | exact .inr (.inr (.inr (.inr (.inl (.inr (.inr (.inl ⟨by omega, rfl⟩)))))))
      | exact .inr (.inr (.inr (.inr (.inl (.inr (.inr (.inr (.inl ⟨by omega, rfl⟩))))))))
      | exact .inr (.inr (.inr (.inr (.inl (.inr (.inr (.inr (.inr ⟨by omega, rfl⟩)))))))))) (.one (by (first
      | exact .inl (ok92 (by assumption))
      | exact .inr (.inl (ok92 (by assumption)))
      | exact .inr (.inr (.inl ⟨okc (by assumption), by assumption⟩))
      | exact .inr (.inr (.inr (.inl ⟨by assumption, .inl rfl⟩)))
      | exact .inr (.inr (.inr (.inl ⟨by assumption, .inr (.inl rfl)⟩)))
      | exact .inr (.inr (.inr (.inl ⟨by assumption, .inr (.inr ⟨rfl, by assumption⟩)⟩)))
      | exact .inr (.inr (.inr (.inr (.inr (.inl ⟨by assumption, by assumption, .inl ⟨by assumption, ok92 (by assumption)⟩⟩)))))
      | exact .inr (.inr (.inr (.inr (.inr (.inl ⟨by assumption, by assumption, .inr ⟨by omega, ok92 (by assumption)⟩⟩)))))
      | exact .inr (.inr (.inr (.inr (.inr (.inr ⟨ok92c (by assumption), by assumption, by omega⟩)))))
      | exact .inr (.inr (.inr (.inr (.inl (.inl ⟨by omega, rfl⟩)))))
      | exact .inr (.inr (.inr (.inr (.inl (.inr (.inl ⟨by omega, rfl⟩))))))
      | exact .inr (.inr (.inr (.inr (.inl (.inr (.inr (.inl ⟨by omega, rfl⟩)))))))
      | exact .inr (.inr (.inr (.inr (.inl (.inr (.inr (.inr (.inl ⟨by omega, rfl⟩))))))))
      | exact .inr (.inr (.inr (.inr (.inl (.inr (.inr (.inr (.inr ⟨by omega, rfl⟩)))))))))))).app (.one (by (first
      | exact .inl (ok92 (by assumption))
      | exact .inr (.inl (ok92 (by assumption)))
      | exact .inr (.inr (.inl ⟨okc (by assumption), by assumption⟩))
      | exact .inr (.inr (.inr (.inl ⟨by assumption, .inl rfl⟩)))
      | exact .inr (.inr (.inr (.inl ⟨by assumption, .inr (.inl rfl)⟩)))
      | exact .inr (.inr (.inr (.inl ⟨by assumption, .inr (.inr ⟨rfl, by assumption⟩)⟩)))
      | exact .inr (.inr (.inr (.inr (.inr (.inl ⟨by assumption, by assumption, .inl ⟨by assumption, ok92 (by assumption)⟩⟩)))))
      | exact .inr (.inr (.inr (.inr (.inr (.inl ⟨by assumption, by assumption, .inr ⟨by omega, ok92 (by assumption)⟩⟩)))))
      | exact .inr (.inr (.inr (.inr (.inr (.inr ⟨ok92c (by assumption), by assumption, by omega⟩)))))
      | exact .inr (.inr (.inr (.inr (.inl (.inl ⟨by omega, rfl⟩)))))
      | exact .inr (.inr (.inr (.inr (.inl (.inr (.inl ⟨by omega, rfl⟩))))))
      | exact .inr (.inr (.inr (.inr (.inl (.inr (.inr (.inl ⟨by omega, rfl⟩)))))))
      | exact .inr (.inr (.inr (.inr (.inl (.inr (.inr (.inr (.inl ⟨by omega, rfl⟩))))))))
      | exact .inr (.inr (.inr (.inr (.inl (.inr (.inr (.inr (.inr ⟨by omega, rfl⟩)))))))))))).app (.one (by (first
      | exact .inl (ok92 (by assumption))
      | exact .inr (.inl (ok92 (by assumption)))
      | exact .inr (.inr (.inl ⟨okc (by assumption), by assumption⟩))
      | exact .inr (.inr (.inr (.inl ⟨by assumption, .inl rfl⟩)))
      | exact .inr (.inr (.inr (.inl ⟨by assumption, .inr (.inl rfl)⟩)))
      | exact .inr (.inr (.inr (.inl ⟨by assumption, .inr (.inr ⟨rfl, by assumption⟩)⟩)))
      | exact .inr (.inr (.inr (.inr (.inr (.inl ⟨by assumption, by assumption, .inl ⟨by assumption, ok92 (by assumption)⟩⟩)))))
      | exact .inr (.inr (.inr (.inr (.inr (.inl ⟨by assumption, by assumption, .inr ⟨by omega, ok92 (by assumption)⟩⟩)))))
      | exact .inr (.inr (.inr (.inr (.inr (.inr ⟨ok92c (by assumption), by assumption, by omega⟩)))))
      | exact .inr (.inr (.inr (.inr (.inl (.inl ⟨by omega, rfl⟩)))))
      | exact .inr (.inr (.inr (.inr (.inl (.inr (.inl ⟨by omega, rfl⟩))))))
      | exact .inr (.inr (.inr (.inr (.inl (.inr (.inr (.inl ⟨by omega, rfl⟩)))))))
      | exact .inr (.inr (.inr (.inr (.inl (.inr (.inr (.inr (.inl ⟨by omega, rfl⟩))))))))
      | exact .inr (.inr (.inr (.inr (.inl (.inr (.inr (.inr (.inr ⟨by omega, rfl⟩)))))))))))), (by (try simp only [List.length_append, List.length_cons, List.length_nil]); omega), (by (try simp only [List.length_append, List.length_cons, List.length_nil]); omega)⟩)
end Mine
end
section
open PySem PySem.W PyProof.Rows PySem.Calls
namespace Mine
/-- a figure or a line feed follows (behind all: the closing sign) -/
def bfOf (r : List Int) : Bool := (decide (48 ≤ r.headD 41) && decide (r.headD 41 ≤ 57)) || decide (r.headD 41 = 10)
theorem bfOf_false {r : List Int} (h : bfOf r = false) : ¬ (48 ≤ r.headD 41 ∧ r.headD 41 ≤ 57) ∧ r.headD 41 ≠ 10 := by
  unfold bfOf at h
  rw [Bool.or_eq_false_iff, Bool.and_eq_false_iff, decide_eq_false_iff_not, decide_eq_false_iff_not, decide_eq_false_iff_not] at h
  exact ⟨fun z => h.1.elim (fun a => a z.1) (fun a => a z.2), h.2⟩
theorem bfOf_app {sp T : List Int} (h : bfOf T = false) : bfOf (sp ++ T) = bfOf sp := by
  cases sp with
  | nil => rw [List.nil_append, h]; rfl
  | cons x r => rfl
theorem head10 {r : List Int} (h : bfOf r = false) : r.headD (-1) ≠ 10 := by
  cases r with
  | nil => decide
  | cons x t => exact (bfOf_false h).2
theorem octOut {r : List Int} {n : Nat} {c : Int} (h : bfOf r = false) : octGo n c r = (c, r) := by
  cases n with
  | zero => rfl
  | succ n =>
    cases r with
    | nil => rfl
    | cons x t =>
      have := (bfOf_false h).1
      show (if isOct x = true then _ else _) = _
      rw [if_neg]
      unfold isOct
      rw [Bool.and_eq_true, decide_eq_true_eq, decide_eq_true_eq]
      intro z
      exact this ⟨z.1, by show x ≤ 57; omega⟩
theorem oct_is (n : Int) (j : Nat) : isOct (octD n j) = true := by
  have := octD_in n j
  unfold isOct
  rw [decide_eq_true this.1, decide_eq_true this.2]; rfl
theorem octD_val {n : Int} (h : 0 ≤ n) (j : Nat) : octD n j = 48 + n / 8 ^ j % 8 := by
  unfold octD
  have h8 : (0 : Int) ≤ 8 ^ j := Int.pow_nonneg (by decide)
  rw [Int.fdiv_eq_ediv_of_nonneg _ h8, Int.fmod_eq_emod_of_nonneg _ (by decide)]
theorem esc_oct {a : Int} {r : List Int} (h : isOct a = true) : escL (a :: r) = ([(octL a r).1], (octL a r).2) := by
  have h' := h
  unfold isOct at h'
  rw [Bool.and_eq_true, decide_eq_true_eq, decide_eq_true_eq] at h'
  show (if _ then _ else if _ then _ else if _ then _ else _) = _
  rw [if_neg (by omega), if_neg (by omega), if_pos h]
theorem esc_oct3 {n : Int} {r : List Int} (h0 : 0 ≤ n) (h1 : n < 512) : escL (octS 3 n ++ r) = ([n % 256], r) := by
  show escL (octD n 2 :: octD n 1 :: octD n 0 :: r) = _
  rw [esc_oct (oct_is _ _)]
  have e : octL (octD n 2) (octD n 1 :: octD n 0 :: r) = (n % 256, r) := by
    show ((octGo 2 (octD n 2 - 48) (octD n 1 :: octD n 0 :: r)).1.fmod 256, (octGo 2 (octD n 2 - 48) (octD n 1 :: octD n 0 :: r)).2) = _
    have e1 : octGo 2 (octD n 2 - 48) (octD n 1 :: octD n 0 :: r) = (8 * (8 * (octD n 2 - 48) + octD n 1 - 48) + octD n 0 - 48, r) := by
      show (if isOct (octD n 1) = true then (if isOct (octD n 0) = true then _ else _) else _) = _
      rw [if_pos (oct_is _ _), if_pos (oct_is _ _)]; rfl
    rw [e1, octD_val h0, octD_val h0, octD_val h0, Int.fmod_eq_emod_of_nonneg _ (by decide)]
    refine Prod.ext ?_ rfl
    show (8 * (8 * (48 + n / 8 ^ 2 % 8 - 48) + (48 + n / 8 ^ 1 % 8) - 48) + (48 + n / 8 ^ 0 % 8) - 48) % 256 = n % 256
    have : (8 : Int) ^ 2 = 64 := rfl
    have : (8 : Int) ^ 1 = 8 := rfl
    have : (8 : Int) ^ 0 = 1 := rfl
    rw [‹(8 : Int) ^ 2 = 64›, ‹(8 : Int) ^ 1 = 8›, ‹(8 : Int) ^ 0 = 1›]
    omega
  rw [e]
theorem esc_oct2 {n : Int} {r : List Int} (h0 : 0 ≤ n) (h1 : n < 64) (h : bfOf r = false) : escL (octS 2 n ++ r) = ([n], r) := by
  show escL (octD n 1 :: octD n 0 :: r) = _
  rw [esc_oct (oct_is _ _)]
  have e : octL (octD n 1) (octD n 0 :: r) = (n, r) := by
    show ((octGo 2 (octD n 1 - 48) (octD n 0 :: r)).1.fmod 256, (octGo 2 (octD n 1 - 48) (octD n 0 :: r)).2) = _
    have e1 : octGo 2 (octD n 1 - 48) (octD n 0 :: r) = (8 * (octD n 1 - 48) + octD n 0 - 48, r) := by
      show (if isOct (octD n 0) = true then _ else _) = _
      rw [if_pos (oct_is _ _)]; exact octOut h
    rw [e1, octD_val h0, octD_val h0, Int.fmod_eq_emod_of_nonneg _ (by decide)]
    refine Prod.ext ?_ rfl
    show (8 * (48 + n / 8 ^ 1 % 8 - 48) + (48 + n / 8 ^ 0 % 8) - 48) % 256 = n
    have : (8 : Int) ^ 1 = 8 := rfl
    have : (8 : Int) ^ 0 = 1 := rfl
    rw [‹(8 : Int) ^ 1 = 8›, ‹(8 : Int) ^ 0 = 1›]
    omega
  rw [e]
theorem esc_oct1 {n : Int} {r : List Int} (h0 : 0 ≤ n) (h1 : n < 8) (h : bfOf r = false) : escL (octS 1 n ++ r) = ([n], r) := by
  show escL (octD n 0 :: r) = _
  rw [esc_oct (oct_is _ _)]
  have e : octL (octD n 0) r = (n, r) := by
    show ((octGo 2 (octD n 0 - 48) r).1.fmod 256, (octGo 2 (octD n 0 - 48) r).2) = _
    rw [octOut h, octD_val h0, Int.fmod_eq_emod_of_nonneg _ (by decide)]
    refine Prod.ext ?_ rfl
    show (48 + n / 8 ^ 0 % 8 - 48) % 256 = n
    have : (8 : Int) ^ 0 = 1 := rfl
    rw [‹(8 : Int) ^ 0 = 1›]
    omega
  rw [e]
theorem esc_plain {c : Int} {r : List Int} (h1 : c ≠ 13) (h2 : c ≠ 10) (h3 : ¬ (48 ≤ c ∧ c ≤ 55)) : escL (c :: r) = ([plainEsc c], r) := by
  show (if _ then _ else if _ then _ else if _ then _ else _) = _
  rw [if_neg h1, if_neg h2, if_neg (by unfold isOct; rw [Bool.and_eq_true, decide_eq_true_eq, decide_eq_true_eq]; exact h3)]
theorem lit_back {n : Nat} {r : List Int} {d : Int} {acc : List Int} : litL (n + 1) (92 :: r) d acc = litL n (escL r).2 d (acc ++ (escL r).1) := rfl
theorem code_lit {c : Int} {bf : Bool} {w R : List Int} {d : Int} {acc : List Int} {n : Nat} (h0 : 0 ≤ c) (h1 : c < 256) (ok : CodeOk c bf w) (hb : bfOf R = bf) :
    litL (n + 1) (w ++ R) d acc = litL n R d (acc ++ [c]) := by
  rcases ok with rfl | rfl | ⟨rfl, hc⟩ | ⟨rfl, hc⟩ | hc | ⟨h64, rfl, hc⟩ | ⟨rfl, hc, ho⟩
  · show litL (n + 1) (92 :: (octS 3 c ++ R)) d acc = _
    rw [lit_back, esc_oct3 h0 (by omega), show c % 256 = c from by omega]
  · show litL (n + 1) (92 :: (octS 3 (c + 256) ++ R)) d acc = _
    rw [lit_back, esc_oct3 (by omega) (by omega), show (c + 256) % 256 = c from by omega]
  · simp only [List.any_cons, List.any_nil, Bool.or_false, Bool.or_eq_false_iff, beq_eq_false_iff_ne, ne_eq] at hc
    show (if _ then _ else if _ then _ else if _ then _ else if _ then _ else if _ then _ else _) = _
    rw [if_neg (by omega), if_neg (by omega), if_neg (by omega), if_neg (by omega), if_neg (by omega)]; rfl
  · rcases hc with rfl | rfl | ⟨rfl, rfl⟩
    · rfl
    · rfl
    · show litL n (if R.headD (-1) = 10 then _ else _) d _ = _
      rw [if_neg (head10 hb)]; rfl
  · rcases hc with ⟨rfl, rfl⟩ | ⟨rfl, rfl⟩ | ⟨rfl, rfl⟩ | ⟨rfl, rfl⟩ | ⟨rfl, rfl⟩ <;> rfl
  · rcases hc with ⟨h7, rfl⟩ | ⟨h7, rfl⟩
    · show litL (n + 1) (92 :: (octS 2 c ++ R)) d acc = _
      rw [lit_back, esc_oct2 h0 h64 hb]
    · show litL (n + 1) (92 :: (octS 1 c ++ R)) d acc = _
      rw [lit_back, esc_oct1 h0 (by omega) hb]
  · simp only [List.any_cons, List.any_nil, Bool.or_false, Bool.or_eq_false_iff, beq_eq_false_iff_ne, ne_eq] at hc
    show litL (n + 1) (92 :: c :: R) d acc = _
    rw [lit_back, esc_plain (by omega) (by omega) ho]
    have : plainEsc c = c := by
      unfold plainEsc
      rw [if_neg (by omega), if_neg (by omega), if_neg (by omega), if_neg (by omega), if_neg (by omega)]
    rw [this]
/-- a literal string's inside spelt, from its end -/
inductive Spelt : List Int → List Int → Prop
  | nil : Spelt [] []
  | code {c : Int} {cs sp w : List Int} : 0 ≤ c → c < 256 → Spelt cs sp → CodeOk c (bfOf sp) w → Spelt (c :: cs) (w ++ sp)
  | brk {cs sp w : List Int} : Spelt cs sp → (w = [92, 10] ∨ w = [92, 13, 10] ∨ w = [92, 13] ∧ sp.headD 0 ≠ 10) → Spelt cs (w ++ sp)
theorem code_len {c : Int} {bf : Bool} {w : List Int} (ok : CodeOk c bf w) : 1 ≤ w.length ∧ w.length ≤ 4 := by
  rcases ok with rfl | rfl | ⟨rfl, hc⟩ | ⟨_, hc⟩ | hc | ⟨_, _, hc⟩ | ⟨rfl, _, _⟩
  · exact ⟨Nat.le_of_ble_eq_true rfl, Nat.le_of_ble_eq_true rfl⟩
  · exact ⟨Nat.le_of_ble_eq_true rfl, Nat.le_of_ble_eq_true rfl⟩
  · exact ⟨Nat.le_of_ble_eq_true rfl, Nat.le_of_ble_eq_true rfl⟩
  · rcases hc with rfl | rfl | ⟨rfl, _⟩ <;> decide
  · rcases hc with ⟨_, rfl⟩ | ⟨_, rfl⟩ | ⟨_, rfl⟩ | ⟨_, rfl⟩ | ⟨_, rfl⟩ <;> decide
  · rcases hc with ⟨_, rfl⟩ | ⟨_, rfl⟩
    · exact ⟨Nat.le_of_ble_eq_true rfl, Nat.le_of_ble_eq_true rfl⟩
    · exact ⟨Nat.le_of_ble_eq_true rfl, Nat.le_of_ble_eq_true rfl⟩
  · exact ⟨Nat.le_of_ble_eq_true rfl, Nat.le_of_ble_eq_true rfl⟩
theorem spelt_lit {cs sp : List Int} (h : Spelt cs sp) : ∀ (T : List Int) (d : Int) (acc : List Int) (n : Nat), bfOf T = false → sp.length + T.length < n → ∃ m, T.length < m ∧ litL n (sp ++ T) d acc = litL m T d (acc ++ cs) := by
  induction h with
  | nil => exact fun T d acc n _ hn => ⟨n, by simpa using hn, by rw [List.append_nil]; rfl⟩
  | @code c cs sp w h0 h1 _ ok ih =>
    intro T d acc n hT hn
    have hl := code_len ok
    obtain ⟨k, rfl⟩ : ∃ k, n = k + 1 := ⟨n - 1, by omega⟩
    rw [List.length_append] at hn
    obtain ⟨m, hm, e⟩ := ih T d (acc ++ [c]) k hT (by omega)
    refine ⟨m, hm, ?_⟩
    rw [List.append_assoc, code_lit h0 h1 ok (bfOf_app hT), e, List.append_assoc]; rfl
  | @brk cs sp w _ hw ih =>
    intro T d acc n hT hn
    obtain ⟨k, rfl⟩ : ∃ k, n = k + 1 := ⟨n - 1, by omega⟩
    have hl : 2 ≤ w.length := by rcases hw with rfl | rfl | ⟨rfl, _⟩ <;> decide
    rw [List.length_append] at hn
    obtain ⟨m, hm, e⟩ := ih T d acc k hT (by omega)
    refine ⟨m, hm, ?_⟩
    rw [List.append_assoc, ← e]
    rcases hw with rfl | rfl | ⟨rfl, hh⟩
    · show litL k (sp ++ T) d (acc ++ []) = _
      rw [List.append_nil]
    · show litL k (sp ++ T) d (acc ++ []) = _
      rw [List.append_nil]
    · show litL k (if (sp ++ T).headD (-1) = 10 then _ else sp ++ T) d (acc ++ []) = _
      rw [List.append_nil, if_neg]
      cases sp with
      | nil => exact head10 hT
      | cons x r => exact hh
/-- the whole string, and what lies behind it -/
theorem lit_whole {cs sp T : List Int} {n : Nat} (h : Spelt cs sp) (hn : sp.length + T.length + 1 < n) : litL n (sp ++ 41 :: T) 1 [] = some (cs, T) := by
  obtain ⟨m, hm, e⟩ := spelt_lit h (41 :: T) 1 [] n rfl (by simp only [List.length_cons]; omega)
  rw [e]
  obtain ⟨k, rfl⟩ : ∃ k, m = k + 1 := ⟨m - 1, by simp only [List.length_cons] at hm; omega⟩
  rfl
theorem lit_cut {cs sp : List Int} {n : Nat} (h : Spelt cs sp) (hn : sp.length < n) : litL n sp 1 [] = none := by
  obtain ⟨m, hm, e⟩ := spelt_lit h [] 1 [] n rfl (by simpa using hn)
  rw [List.append_nil] at e
  rw [e]
  cases m <;> rfl
theorem lit_whole2 {cs sp T : List Int} {n : Nat} (h : Spelt cs sp) (hn : sp.length + T.length + 3 < n) : litL n (40 :: (sp ++ 41 :: 41 :: T)) 1 [] = some (40 :: (cs ++ [41]), T) := by
  obtain ⟨k, rfl⟩ : ∃ k, n = k + 1 := ⟨n - 1, by omega⟩
  show litL k (sp ++ 41 :: 41 :: T) 2 [40] = _
  obtain ⟨m, hm, e⟩ := spelt_lit h (41 :: 41 :: T) 2 [40] k rfl (by simp only [List.length_cons]; omega)
  rw [e]
  obtain ⟨j, rfl⟩ : ∃ j, m = j + 2 := ⟨m - 2, by simp only [List.length_cons] at hm; omega⟩
  rfl
theorem lit_cut2 {cs sp : List Int} {n : Nat} (h : Spelt cs sp) (hn : sp.length + 2 < n) : litL n (40 :: (sp ++ [41])) 1 [] = none := by
  obtain ⟨k, rfl⟩ : ∃ k, n = k + 1 := ⟨n - 1, by omega⟩
  show litL k (sp ++ [41]) 2 [40] = _
  obtain ⟨m, hm, e⟩ := spelt_lit h [41] 2 [40] k rfl (by simp only [List.length_cons, List.length_nil]; omega)
  rw [e]
  obtain ⟨j, rfl⟩ : ∃ j, m = j + 1 := ⟨m - 1, by simp only [List.length_cons] at hm; omega⟩
  cases j <;> rfl
/-! hex strings -/
def figs (l : List Int) : List Int := (l.filter fun x => decide (0 ≤ hexW x)).map hexW
def HexOk (cs sp : List Int) : Prop := (∀ x ∈ sp, x ≠ 62 ∧ x ≠ 60 ∧ (0 ≤ hexW x ∨ isWhite x = true)) ∧ pairsL (figs sp) = cs
theorem figs_app (a b : List Int) : figs (a ++ b) = figs a ++ figs b := by unfold figs; rw [List.filter_append, List.map_append]
theorem hx_app : ∀ {sp T acc : List Int}, (∀ x ∈ sp, x ≠ 62) → hxL (sp ++ T) acc = hxL T (acc ++ figs sp)
  | [], T, acc, _ => by simp [figs]
  | x :: r, T, acc, h => by
    have hx := h x (.head _)
    show (if x = 62 then _ else if 0 ≤ hexW x then hxL (r ++ T) _ else hxL (r ++ T) _) = _
    rw [if_neg hx]
    by_cases q : 0 ≤ hexW x
    · rw [if_pos q, hx_app fun y hy => h y (.tail _ hy)]
      unfold figs
      rw [List.filter_cons_of_pos (by rw [decide_eq_true q]), List.map_cons, List.append_assoc]; rfl
    · rw [if_neg q, hx_app fun y hy => h y (.tail _ hy)]
      unfold figs
      rw [List.filter_cons_of_neg (by rw [decide_eq_false q]; decide)]
theorem hx_whole {cs sp T : List Int} (h : HexOk cs sp) : ∃ hv, hxL (sp ++ 62 :: T) [] = some (hv, T) ∧ pairsL hv = cs :=
  ⟨figs sp, by rw [hx_app fun x hx => (h.1 x hx).1]; rfl, h.2⟩
theorem hx_cut {cs sp : List Int} (h : HexOk cs sp) : hxL sp [] = none := by
  have := hx_app (T := []) (acc := []) fun x hx => (h.1 x hx).1
  rw [List.append_nil] at this
  rw [this]; rfl
/-! names -/
inductive Named : List Int → List Int → Prop
  | nil : Named [] []
  | raw {c : Int} {cs sp : List Int} : isRegular c = true → c ≠ 35 → c ≠ 0 → Named cs sp → Named (c :: cs) (c :: sp)
  | hash {cs sp : List Int} : Named cs sp → (sp = [] ∨ sp.headD 0 = 35 ∨ sp.headD 0 = 103) → Named (35 :: cs) (35 :: sp)
  | esc {c a b : Int} {cs sp : List Int} : c ≠ 0 → isRegular a = true → isRegular b = true → 0 ≤ hexW a → 0 ≤ hexW b → 16 * hexW a + hexW b = c → Named cs sp → Named (c :: cs) (35 :: a :: b :: sp)
theorem named_reg {cs sp : List Int} (h : Named cs sp) : ∀ x ∈ sp, isRegular x = true := by
  induction h with
  | nil => exact fun x hx => nomatch hx
  | raw hr _ _ _ ih => exact fun x hx => (List.mem_cons.mp hx).elim (fun e => e ▸ hr) (ih x)
  | hash _ _ ih => exact fun x hx => (List.mem_cons.mp hx).elim (fun e => e ▸ rfl) (ih x)
  | esc _ ha hb _ _ _ _ ih =>
    intro x hx
    rcases List.mem_cons.mp hx with rfl | hx
    · rfl
    rcases List.mem_cons.mp hx with rfl | hx
    · exact ha
    rcases List.mem_cons.mp hx with rfl | hx
    · exact hb
    · exact ih x hx
theorem named_nt {cs sp : List Int} (h : Named cs sp) : ∀ (T acc : List Int) (n : Nat), (T = [] ∨ T.headD 0 = 35) → sp.length + T.length < n → ∃ m, T.length < m ∧ ntL n (sp ++ T) acc = ntL m T (acc ++ cs) := by
  induction h with
  | nil => exact fun T acc n _ hn => ⟨n, by simpa using hn, by rw [List.append_nil]; rfl⟩
  | @raw c cs sp hr h35 h0 _ ih =>
    intro T acc n hT hn
    obtain ⟨k, rfl⟩ : ∃ k, n = k + 1 := ⟨n - 1, by omega⟩
    simp only [List.length_cons] at hn
    obtain ⟨m, hm, e⟩ := ih T (acc ++ [c]) k hT (by omega)
    refine ⟨m, hm, ?_⟩
    show (if _ then _ else if _ then _ else _) = _
    rw [if_neg (fun z => h35 z.1), if_neg h0]
    show ntL k (sp ++ T) (acc ++ [c]) = _
    rw [e, List.append_assoc]; rfl
  | @hash cs sp _ hh ih =>
    intro T acc n hT hn
    obtain ⟨k, rfl⟩ : ∃ k, n = k + 1 := ⟨n - 1, by omega⟩
    simp only [List.length_cons] at hn
    obtain ⟨m, hm, e⟩ := ih T (acc ++ [35]) k hT (by omega)
    refine ⟨m, hm, ?_⟩
    show (if _ then _ else if _ then _ else _) = _
    rw [if_neg, if_neg (by decide)]
    · show ntL k (sp ++ T) (acc ++ [35]) = _
      rw [e, List.append_assoc]; rfl
    · rintro ⟨_, z⟩
      have key : ∀ r : List Int, (r = [] ∨ r.headD 0 = 35 ∨ r.headD 0 = 103) → hashed r = true → False := by
        intro r hr z
        match r, hr, z with
        | [], _, z => cases z
        | [a], _, z => cases z
        | a :: b :: t, hr, z =>
          have z' : (decide (0 ≤ hexW a) && decide (0 ≤ hexW b)) = true := z
          rw [Bool.and_eq_true, decide_eq_true_eq] at z'
          rcases hr with hr | hr | hr
          · cases hr
          · have : a = 35 := hr
            subst this; exact absurd z'.1 (by decide)
          · have : a = 103 := hr
            subst this; exact absurd z'.1 (by decide)
      refine key (sp ++ T) ?_ z
      cases sp with
      | nil => exact hT.elim .inl (fun q => .inr (.inl q))
      | cons x r => exact hh.elim (fun q => nomatch q) .inr
  | @esc c a b cs sp h0 _ _ ha hb hc _ ih =>
    intro T acc n hT hn
    obtain ⟨k, rfl⟩ : ∃ k, n = k + 1 := ⟨n - 1, by omega⟩
    simp only [List.length_cons] at hn
    obtain ⟨m, hm, e⟩ := ih T (acc ++ [c]) k hT (by omega)
    refine ⟨m, hm, ?_⟩
    show (if _ then (if 16 * hexW a + hexW b = 0 then _ else _) else _) = _
    rw [if_pos ⟨rfl, by show (decide _ && decide _) = true; rw [decide_eq_true ha, decide_eq_true hb]; rfl⟩, hc, if_neg h0]
    show ntL k (sp ++ T) (acc ++ [16 * hexW a + hexW b]) = _
    rw [hc, e, List.append_assoc]; rfl
theorem name_whole {cs sp : List Int} {n : Nat} (h : Named cs sp) (hn : sp.length < n) : ntL n sp [] = some cs := by
  obtain ⟨m, hm, e⟩ := named_nt h [] [] n (.inl rfl) (by simpa using hn)
  rw [List.append_nil] at e
  rw [e]
  obtain ⟨k, rfl⟩ : ∃ k, m = k + 1 := ⟨m - 1, by have : 0 < m := hm; omega⟩
  rfl
theorem name_zero {cs sp : List Int} {n : Nat} (h : Named cs sp) (hn : sp.length + 3 < n) : ntL n (sp ++ [35, 48, 48]) [] = none := by
  obtain ⟨m, hm, e⟩ := named_nt h [35, 48, 48] [] n (.inr rfl) (by simpa using hn)
  rw [e]
  obtain ⟨k, rfl⟩ : ∃ k, m = k + 1 := ⟨m - 1, by have : 3 < m := hm; omega⟩
  rfl
theorem name_zero0 {sp : List Int} {n : Nat} : ntL (n + 1) (35 :: 48 :: 48 :: sp) [] = none := rfl
theorem reg_take {cs sp T : List Int} (h : Named cs sp) (hT : T = [] ∨ isRegular (T.headD 0) = false) : (sp ++ T).takeWhile isRegular = sp := by
  have hr := named_reg h
  clear h
  induction sp with
  | nil =>
    cases T with
    | nil => rfl
    | cons x r => rw [List.nil_append, List.takeWhile_cons, show isRegular x = false from hT.elim (fun q => nomatch q) id]; rfl
  | cons x r ih =>
    rw [List.cons_append, List.takeWhile_cons, if_pos (hr x (.head _)), ih fun y hy => hr y (.tail _ hy)]
theorem reg_take2 {cs sp : List Int} (h : Named cs sp) : (sp ++ [35, 48, 48]).takeWhile isRegular = sp ++ [35, 48, 48] := by
  have hr := named_reg h
  clear h
  induction sp with
  | nil => rfl
  | cons x r ih => rw [List.cons_append, List.takeWhile_cons, if_pos (hr x (.head _)), ih fun y hy => hr y (.tail _ hy)]
theorem code_size {c : Int} {bf : Bool} {b : Array UInt8} (ok : CodeOk c bf (KBw.bInts b)) : 1 ≤ b.size ∧ b.size ≤ 4 := by
  have := code_len ok
  rwa [KBw.ints_length] at this
theorem drop_back {cz : List Int} {i : Nat} (h : i < cz.length) : cz.drop (cz.length - (i + 1)) = cz.getD (cz.length - (i + 1)) 0 :: cz.drop (cz.length - i) := by
  have hl : cz.length - (i + 1) < cz.length := by omega
  rw [List.drop_eq_getElem_cons hl, List.getD_eq_getElem?_getD, List.getElem?_eq_getElem hl, show cz.length - (i + 1) + 1 = cz.length - i from by omega]
  rfl
theorem inD {l : List Int} (h : KBa.In l) (j : Nat) : 0 ≤ l.getD j 0 ∧ l.getD j 0 < 256 := by
  rw [List.getD_eq_getElem?_getD]
  by_cases q : j < l.length
  · rw [List.getElem?_eq_getElem q]; exact h _ (List.getElem_mem q)
  · rw [List.getElem?_eq_none (by omega)]; decide
theorem head_of {b r : Array UInt8} (h : KBw.bInts r = KBw.bInts b ++ KBw.bInts #[41]) : (KBw.bInts r).getD (Int.toNat 0) 0 = (KBw.bInts b).headD 41 := by
  rw [h]
  cases KBw.bInts b with
  | nil => rfl
  | cons x t => rfl
theorem bf_of {l : List Int} {x y : Int} {v : Bool} (hx : x = l.headD 41) (hy : y = l.headD 41) (h : (48 ≤ x ∧ x ≤ 57 ∧ v = true) ∨ (¬ (48 ≤ x ∧ x ≤ 57) ∧ v = (y == 10))) : v = bfOf l := by
  subst hx hy
  unfold bfOf
  rcases h with ⟨a, b, rfl⟩ | ⟨a, rfl⟩
  · rw [decide_eq_true a, decide_eq_true b]; rfl
  · have : (decide (48 ≤ l.headD 41) && decide (l.headD 41 ≤ 57)) = false := by
      rw [Bool.and_eq_false_iff, decide_eq_false_iff_not, decide_eq_false_iff_not]
      by_cases q : 48 ≤ l.headD 41
      · exact .inr fun z => a ⟨q, z⟩
      · exact .inl q
    rw [this, Bool.false_or]
    by_cases q : l.headD 41 = 10
    · rw [q]; rfl
    · rw [decide_eq_false q, beq_eq_false_iff_ne.mpr q]
end Mine
end
section
open PySem PySem.W PyProof.Rows PySem.Calls PySem.Spec
namespace Mine
/-! a hex string's inside, as it grows -/
def halv : List Int → List Int
  | [] => []
  | c :: r => (c / 16) :: (c % 16) :: halv r
theorem halv_app : ∀ (a b : List Int), halv (a ++ b) = halv a ++ halv b
  | [], _ => rfl
  | c :: r, b => by show c / 16 :: c % 16 :: halv (r ++ b) = _; rw [halv_app r b]; rfl
theorem pairs_cut : ∀ {cs : List Int} {c : Int}, c % 16 = 0 → pairsL (halv cs ++ [c / 16]) = cs ++ [c]
  | [], c, h => by show [16 * (c / 16)] = [c]; congr 1; omega
  | a :: r, c, h => by
    show (16 * (a / 16) + a % 16) :: pairsL (halv r ++ [c / 16]) = _
    rw [pairs_cut h, show 16 * (a / 16) + a % 16 = a from by omega]; rfl
theorem pairs_halv : ∀ {cs : List Int}, pairsL (halv cs) = cs
  | [] => rfl
  | a :: r => by
    show (16 * (a / 16) + a % 16) :: pairsL (halv r) = _
    rw [pairs_halv, show 16 * (a / 16) + a % 16 = a from by omega]
def HexGood (sp : List Int) : Prop := ∀ x ∈ sp, x ≠ 62 ∧ x ≠ 60 ∧ (0 ≤ hexW x ∨ isWhite x = true)
theorem HexGood.app {a b : List Int} (h : HexGood a) (k : HexGood b) : HexGood (a ++ b) := fun x hx => (List.mem_append.mp hx).elim (h x) (k x)
/-- what is spelt ahead of the i-th code -/
def HexAt (cz : List Int) (i : Nat) (sp : List Int) : Prop := HexGood sp ∧ (figs sp = halv (cz.take i) ∨ i = cz.length ∧ pairsL (figs sp) = cz)
def HexIn (base hs : List Int) (j : Nat) (sp : List Int) : Prop := HexGood sp ∧ figs sp = base ++ hs.take j
def loF : List Int := [48, 49, 50, 51, 52, 53, 54, 55, 56, 57, 97, 98, 99, 100, 101, 102]
def upF : List Int := [48, 49, 50, 51, 52, 53, 54, 55, 56, 57, 65, 66, 67, 68, 69, 70]
theorem hexAt_start {cz sp : List Int} (h : sp = [] ∨ sp = [32] ∨ sp = [13, 10] ∨ sp = [0]) : HexAt cz 0 sp := by
  have key : HexGood sp ∧ figs sp = [] := by
    rcases h with rfl | rfl | rfl | rfl
    · exact ⟨fun x hx => (nomatch hx), rfl⟩
    · exact ⟨fun x hx => by rw [List.mem_singleton.mp hx]; decide, rfl⟩
    · exact ⟨fun x hx => by
        rcases List.mem_cons.mp hx with rfl | hx
        · decide
        · rw [List.mem_singleton.mp hx]; decide, rfl⟩
    · exact ⟨fun x hx => by rw [List.mem_singleton.mp hx]; decide, rfl⟩
  exact ⟨key.1, .inl key.2⟩
theorem HexAt.into {cz sp : List Int} {i : Nat} (h : HexAt cz i sp) (hi : i < cz.length) (hs : List Int) : HexIn (halv (cz.take i)) hs 0 sp :=
  ⟨h.1, by
    rcases h.2 with e | ⟨e, _⟩
    · rw [e, List.take_zero, List.append_nil]
    · omega⟩
theorem fig_one {l : List Int} {k : Int} (hl : l = loF ∨ l = upF) (h0 : 0 ≤ k) (h1 : k < 16) : HexGood ((l.drop k.toNat).take 1) ∧ figs ((l.drop k.toNat).take 1) = [k] := by
  obtain ⟨n, rfl⟩ := Int.eq_ofNat_of_zero_le h0
  have hn : n < 16 := by omega
  rw [Int.toNat_natCast]
  have key : ∀ n : Fin 16, ((∀ x ∈ (loF.drop n.1).take 1, x ≠ 62 ∧ x ≠ 60 ∧ (0 ≤ hexW x ∨ isWhite x = true)) ∧ figs ((loF.drop n.1).take 1) = [(n.1 : Int)]) ∧ ((∀ x ∈ (upF.drop n.1).take 1, x ≠ 62 ∧ x ≠ 60 ∧ (0 ≤ hexW x ∨ isWhite x = true)) ∧ figs ((upF.drop n.1).take 1) = [(n.1 : Int)]) := by decide
  rcases hl with rfl | rfl
  · exact (key ⟨n, hn⟩).1
  · exact (key ⟨n, hn⟩).2
theorem gap_ok {g : List Int} (h : g = [] ∨ g = [9] ∨ g = [12]) : HexGood g ∧ figs g = [] := by
  rcases h with rfl | rfl | rfl
  · exact ⟨fun x hx => (nomatch hx), rfl⟩
  · exact ⟨fun x hx => by rw [List.mem_singleton.mp hx]; decide, rfl⟩
  · exact ⟨fun x hx => by rw [List.mem_singleton.mp hx]; decide, rfl⟩
theorem HexIn.step {base hs sp l g w : List Int} {j : Nat} {k : Int} (h : HexIn base hs j sp) (hj : hs[j]? = some k) (hl : l = loF ∨ l = upF) (h0 : 0 ≤ k) (h1 : k < 16) (hw : w = (l.drop k.toNat).take 1) (hg : g = [] ∨ g = [9] ∨ g = [12]) : HexIn base hs (j + 1) (sp ++ w ++ g) := by
  obtain ⟨a1, a2⟩ := fig_one hl h0 h1
  obtain ⟨b1, b2⟩ := gap_ok hg
  subst hw
  refine ⟨(h.1.app a1).app b1, ?_⟩
  rw [figs_app, figs_app, a2, b2, h.2, List.append_nil, List.append_assoc]
  obtain ⟨hj', e⟩ := List.getElem?_eq_some_iff.mp hj
  rw [List.take_succ_eq_append_getElem hj', e]
theorem HexIn.out {cz hs sp : List Int} {i : Nat} (h : HexIn (halv (cz.take i)) hs hs.length sp) (hi : i < cz.length) (hh : hs = [cz.getD i 0 / 16, cz.getD i 0 % 16] ∨ hs = [cz.getD i 0 / 16] ∧ cz.getD i 0 % 16 = 0 ∧ i + 1 = cz.length) : HexAt cz (i + 1) sp := by
  refine ⟨h.1, ?_⟩
  have e0 : cz.take (i + 1) = cz.take i ++ [cz.getD i 0] := by
    rw [List.take_succ_eq_append_getElem hi, List.getD_eq_getElem?_getD, List.getElem?_eq_getElem hi]; rfl
  have e1 := h.2
  rw [List.take_length] at e1
  rcases hh with rfl | ⟨rfl, hz, hn⟩
  · left; rw [e1, e0, halv_app]; rfl
  · right
    refine ⟨hn, ?_⟩
    rw [e1, pairs_cut hz, ← e0, hn, List.take_length]
theorem HexAt.done {cz sp : List Int} (h : HexAt cz cz.length sp) : HexOk cz sp :=
  ⟨h.1, by
    rcases h.2 with e | ⟨_, e⟩
    · rw [e, List.take_length, pairs_halv]
    · exact e⟩
/-! names -/
theorem fig_two {l : List Int} {k : Int} (hl : l = loF ∨ l = upF) (h0 : 0 ≤ k) (h1 : k < 16) : ∃ a, (l.drop k.toNat).take 1 = [a] ∧ isRegular a = true ∧ hexW a = k := by
  obtain ⟨n, rfl⟩ := Int.eq_ofNat_of_zero_le h0
  have hn : n < 16 := by omega
  rw [Int.toNat_natCast]
  have key : ∀ n : Fin 16, ((loF.drop n.1).take 1 = [loF.getD n.1 0] ∧ isRegular (loF.getD n.1 0) = true ∧ hexW (loF.getD n.1 0) = (n.1 : Int)) ∧ ((upF.drop n.1).take 1 = [upF.getD n.1 0] ∧ isRegular (upF.getD n.1 0) = true ∧ hexW (upF.getD n.1 0) = (n.1 : Int)) := by decide
  rcases hl with rfl | rfl
  · exact ⟨_, (key ⟨n, hn⟩).1⟩
  · exact ⟨_, (key ⟨n, hn⟩).2⟩
theorem named_esc {c : Int} {l w1 w2 cs sp : List Int} (hl : l = loF ∨ l = upF) (hc : c ≠ 0) (h0 : 0 ≤ c) (h1 : c < 256) (e1 : w1 = (l.drop (c / 16).toNat).take 1) (e2 : w2 = (l.drop (c % 16).toNat).take 1) (h : Named cs sp) : Named (c :: cs) ([35] ++ w1 ++ w2 ++ sp) := by
  obtain ⟨a, ea, ra, wa⟩ := fig_two (k := c / 16) hl (by omega) (by omega)
  obtain ⟨b, eb, rb, wb⟩ := fig_two (k := c % 16) hl (by omega) (by omega)
  rw [e1, e2, ea, eb]
  exact .esc hc ra rb (by omega) (by omega) (by omega) h
def bars : List Int := [0, 9, 10, 12, 13, 32, 40, 41, 60, 62, 91, 93, 123, 125, 47, 37, 35]
theorem named_raw {c : Int} {cs sp : List Int} (h0 : 0 ≤ c) (hb : c ∉ bars) (h : Named cs sp) : Named (c :: cs) ([c] ++ sp) := by
  simp only [bars, List.mem_cons, List.not_mem_nil, or_false, not_or] at hb
  refine .raw ?_ (by omega) (by omega) h
  unfold isRegular isWhite isDelim
  simp only [List.any_cons, List.any_nil, Bool.or_false, Bool.and_eq_true, Bool.not_eq_true', Bool.or_eq_false_iff, beq_eq_false_iff_ne, ne_eq, decide_eq_true_eq]
  omega
theorem named_hash {cs sp : List Int} (hs : sp.take 1 = [] ∨ sp.take 1 = [35] ∨ sp.take 1 = [103]) (h : Named cs sp) : Named (35 :: cs) ([35] ++ sp) := by
  refine .hash h ?_
  cases sp with
  | nil => exact .inl rfl
  | cons x r =>
    rcases hs with e | e | e
    · cases e
    · exact .inr (.inl (List.cons.inj e).1)
    · exact .inr (.inr (List.cons.inj e).1)
end Mine
end
section
open PySem PySem.W PyProof.Rows PySem.Calls PySem.Spec
namespace Mine
section
variable {prog : Program} {w : World} {A : Around} {E : Value → Shared → Prop} {Q : Value → Shared → Prop} {s : Shared} {h₀ : Heap} {L l : Addr} {news : List (Addr × Obj)} {vs : List Value} {n : Nat}
/-- an item of a written row of octets -/
theorem my_pickB {value slice : Expr} {k : Int} {u : Tok} (P : List Int → Prop) (N : News h₀ L s.heap news) (hm : (l, listOf vs.toArray n) ∈ news) (hP : ∀ v ∈ vs, ∃ (b : Array UInt8) (t : Tok), v = .bytes b t ∧ P (KBw.bInts b) ∧ b.size ≤ 1000) (h0 : 0 ≤ k) (h1 : k < (vs.length : Int)) (hz : vs.length ≤ 1000)
    (h : ∀ (b : Array UInt8) t, P (KBw.bInts b) → b.size ≤ 1000 → Q (.bytes b t) s)
    (hs : subscripted slice false (.ref l) (.int k u) = operate [.ref l, .int k u] (getItem (.ref l) (.int k u)) := by with_unfolding_all rfl) (hg : ∀ r, letTemporaryGo value (.ref l) r = pure () := by intro _; with_unfolding_all rfl) :
    wpAny (model prog w) A (subscriptTail value slice (.ref l) (.int k u)) Q E s := by
  have hj : k.toNat < vs.length := by omega
  obtain ⟨b, t, e, ok, hz'⟩ := hP _ (List.getElem_mem hj)
  refine item_listL ⟨_, (N _ hm).1, rfl, n, rfl⟩ h0 (by omega) (x := .bytes b t) ?_ (h b t ok hz') hs hg
  rw [List.getElem?_eq_getElem hj, e]
end
section
variable {prog : Program} {w : World} {A : Around} {E : Value → Shared → Prop} {Q : Value → Shared → Prop} {s : Shared} {b c : Array UInt8} {t u : Tok}
theorem my_addB (hsz : b.size + c.size ≤ 16777216) (h : ∀ (r : Array UInt8) t' k, KBw.bInts r = KBw.bInts b ++ KBw.bInts c → r.size = b.size + c.size → Q (.bytes r t') { s with toks := k }) :
    wpAny (model prog w) A (binaryOp .Add (.bytes b t) (.bytes c u)) Q E s :=
  KBy.add_bytes hsz fun t' k => h _ t' k (KBw.ints_app rfl rfl) Array.size_append
end
/-- the ways of a value meet -/
def ValJ (h₀ : Heap) (L : Addr) (m : Str → Option Value) (news : List (Addr × Obj)) (s : Shared) (P : Value → Prop) (v : Value) (s' : Shared) : Prop := P v ∧ ∃ h' tk', s' = { s with heap := h', toks := tk' } ∧ Fr h₀ L h' m ∧ News h₀ L h' news
theorem val_join {M : Model} {A : Around} {E : Value → Shared → Prop} {Q : Value → Shared → Prop} {s s₁ : Shared} {x : Sem Value} {h₀ : Heap} {L : Addr} {m : Str → Option Value} {news : List (Addr × Obj)} (F : Fr h₀ L s₁.heap m) (N : News h₀ L s₁.heap news) (P : Value → Prop)
    (h1 : wpAny M A x (ValJ h₀ L m news s P) E s₁) (h2 : ∀ v h' tk', P v → Fr h₀ L h' m → News h₀ L h' news → Q v { s with heap := h', toks := tk' }) : wpAny M A x Q E s₁ :=
  wpAny_mono h1 (fun v s' ⟨p, h', tk', e, F', N'⟩ => by rw [e]; exact h2 v h' tk' p F' N') fun _ _ e => e
theorem valj_mk {s : Shared} {h₀ h' : Heap} {L : Addr} {m : Str → Option Value} {news : List (Addr × Obj)} {P : Value → Prop} {v : Value} {tk' : Nat} (p : P v) (F : Fr h₀ L h' m) (N : News h₀ L h' news) : ValJ h₀ L m news s P v { s with heap := h', toks := tk' } := ⟨p, h', tk', rfl, F, N⟩
theorem three_ok {t1 t2 t3 : Tok} : ∀ v ∈ [Value.bytes #[92, 10] t1, Value.bytes #[92, 13, 10] t2, Value.bytes #[92, 13] t3], ∃ (b : Array UInt8) (t : Tok), v = .bytes b t ∧ (fun l : List Int => l = [92, 10] ∨ l = [92, 13, 10] ∨ l = [92, 13]) (KBw.bInts b) ∧ b.size ≤ 1000 := fun v hv => by
  rcases List.mem_cons.mp hv with rfl | hv
  · exact ⟨_, _, rfl, .inl rfl, Nat.le_of_ble_eq_true rfl⟩
  rcases List.mem_cons.mp hv with rfl | hv
  · exact ⟨_, _, rfl, .inr (.inl rfl), Nat.le_of_ble_eq_true rfl⟩
  rw [List.mem_singleton.mp hv]
  exact ⟨_, _, rfl, .inr (.inr rfl), Nat.le_of_ble_eq_true rfl⟩
end Mine
end
section
open PySem PySem.W PyProof.Rows PySem.Calls PySem.Spec
namespace Mine
/-- the ways of a statement meet in a state -/
def WayJ {σ : Type} (h₀ : Heap) (L : Addr) (s : Shared) (fm : σ → (Str → Option Value) → Str → Option Value) (Led : σ → List (Addr × Obj)) (P : σ → Prop) (f : Flow) (s' : Shared) : Prop :=
  f = .next ∧ ∃ (c : σ) (h' : Heap) (tk' : Nat) (m' : Str → Option Value) (news' : List (Addr × Obj)), s' = { s with heap := h', toks := tk' } ∧ Fr h₀ L h' m' ∧ (∀ y, m' y = fm c m' y) ∧ News h₀ L h' news' ∧ (∀ p ∈ Led c, p ∈ news') ∧ P c
theorem way_join {σ : Type} {M : Model} {A : Around} {E : Value → Shared → Prop} {Q : Flow → Shared → Prop} {s s₁ : Shared} {x : Sem Flow} {h₀ : Heap} {L : Addr} (fm : σ → (Str → Option Value) → Str → Option Value) (Led : σ → List (Addr × Obj)) (P : σ → Prop)
    (h1 : wpAny M A x (WayJ h₀ L s fm Led P) E s₁) (h2 : ∀ (c : σ) (u : Str → Option Value) h' tk', P c → Fr h₀ L h' (fm c u) → News h₀ L h' (Led c) → Q .next { s with heap := h', toks := tk' }) : wpAny M A x Q E s₁ :=
  wpAny_mono h1 (fun f s' ⟨hf, c, h', tk', m', news', e, F, hm, N, hn, p⟩ => by
    subst hf
    rw [e]
    rw [show m' = fm c m' from funext hm] at F
    exact h2 c m' h' tk' p F fun q hq => N q (hn q hq)) fun _ _ e => e
theorem way_mk {σ : Type} {h₀ : Heap} {L : Addr} {s : Shared} {fm : σ → (Str → Option Value) → Str → Option Value} {Led : σ → List (Addr × Obj)} {P : σ → Prop} {h' : Heap} {tk : Nat} {m' : Str → Option Value} {news' : List (Addr × Obj)} (c : σ)
    (F : Fr h₀ L h' m') (N : News h₀ L h' news') (hm : ∀ y, m' y = fm c m' y) (hn : ∀ p ∈ Led c, p ∈ news') (p : P c) : WayJ h₀ L s fm Led P .next { s with heap := h', toks := tk } :=
  ⟨rfl, c, h', tk, m', news', rfl, F, hm, N, hn, p⟩
/-- the same, where the frame stays -/
def WayM {σ : Type} (h₀ : Heap) (L : Addr) (m : Str → Option Value) (s : Shared) (Led : σ → List (Addr × Obj)) (P : σ → Prop) (f : Flow) (s' : Shared) : Prop :=
  f = .next ∧ ∃ (c : σ) (h' : Heap) (tk' : Nat) (news' : List (Addr × Obj)), s' = { s with heap := h', toks := tk' } ∧ Fr h₀ L h' m ∧ News h₀ L h' news' ∧ (∀ p ∈ Led c, p ∈ news') ∧ P c
theorem wayM_join {σ : Type} {M : Model} {A : Around} {E : Value → Shared → Prop} {Q : Flow → Shared → Prop} {s s₁ : Shared} {x : Sem Flow} {h₀ : Heap} {L : Addr} {m : Str → Option Value} (F : Fr h₀ L s₁.heap m) (Led : σ → List (Addr × Obj)) (P : σ → Prop)
    (h1 : wpAny M A x (WayM h₀ L m s Led P) E s₁) (h2 : ∀ (c : σ) h' tk', P c → Fr h₀ L h' m → News h₀ L h' (Led c) → Q .next { s with heap := h', toks := tk' }) : wpAny M A x Q E s₁ :=
  wpAny_mono h1 (fun f s' ⟨hf, c, h', tk', news', e, F, N, hn, p⟩ => by
    subst hf
    rw [e]
    exact h2 c h' tk' p F fun q hq => N q (hn q hq)) fun _ _ e => e
theorem wayM_mk {σ : Type} {h₀ : Heap} {L : Addr} {s : Shared} {m : Str → Option Value} {Led : σ → List (Addr × Obj)} {P : σ → Prop} {h' : Heap} {tk : Nat} {news' : List (Addr × Obj)} (c : σ)
    (F : Fr h₀ L h' m) (N : News h₀ L h' news') (hn : ∀ p ∈ Led c, p ∈ news') (p : P c) : WayM h₀ L m s Led P .next { s with heap := h', toks := tk } := ⟨rfl, c, h', tk, news', rfl, F, N, hn, p⟩
/-- the ways of a value meet, with a state -/
def ValS {σ : Type} (h₀ : Heap) (L : Addr) (m : Str → Option Value) (Led : σ → List (Addr × Obj)) (s : Shared) (P : Value → σ → Prop) (v : Value) (s' : Shared) : Prop :=
  ∃ (c : σ) (h' : Heap) (tk' : Nat) (news' : List (Addr × Obj)), s' = { s with heap := h', toks := tk' } ∧ Fr h₀ L h' m ∧ News h₀ L h' news' ∧ (∀ p ∈ Led c, p ∈ news') ∧ P v c
theorem vals_join {σ : Type} {M : Model} {A : Around} {E : Value → Shared → Prop} {Q : Value → Shared → Prop} {s s₁ : Shared} {x : Sem Value} {h₀ : Heap} {L : Addr} (m : Str → Option Value) (Led : σ → List (Addr × Obj)) (P : Value → σ → Prop)
    (h1 : wpAny M A x (ValS h₀ L m Led s P) E s₁) (h2 : ∀ v (c : σ) h' tk', P v c → Fr h₀ L h' m → News h₀ L h' (Led c) → Q v { s with heap := h', toks := tk' }) : wpAny M A x Q E s₁ :=
  wpAny_mono h1 (fun v s' ⟨c, h', tk', news', e, F, N, hn, p⟩ => by rw [e]; exact h2 v c h' tk' p F fun q hq => N q (hn q hq)) fun _ _ e => e
theorem vals_mk {σ : Type} {h₀ : Heap} {L : Addr} {m : Str → Option Value} {Led : σ → List (Addr × Obj)} {s : Shared} {P : Value → σ → Prop} {v : Value} {h' : Heap} {tk : Nat} {news' : List (Addr × Obj)} (c : σ)
    (F : Fr h₀ L h' m) (N : News h₀ L h' news') (hn : ∀ p ∈ Led c, p ∈ news') (p : P v c) : ValS h₀ L m Led s P v { s with heap := h', toks := tk } := ⟨c, h', tk, news', rfl, F, N, hn, p⟩
section
variable {prog : Program} {w : World} {A : Around} {E : Value → Shared → Prop} {s : Shared} {a : Int} {t u : Tok} {Q : Value → Shared → Prop}
theorem my_mod16 (h : ∀ t', 0 ≤ a % 16 → a % 16 < 16 → Q (.int (a % 16) t') { s with toks := s.toks + 1 }) : wpAny (model prog w) A (binaryOp .Mod (.int a t) (.int 16 u)) Q E s := by
  refine mod_int' (by omega) ?_
  rw [Int.fmod_eq_emod_of_nonneg _ (by decide)]
  exact h _ (Int.emod_nonneg _ (by decide)) (Int.emod_lt_of_pos _ (by decide))
theorem my_fdiv16 (ha : 0 ≤ a) (ha2 : a < 256) (h : ∀ t', 0 ≤ a / 16 → a / 16 < 16 → Q (.int (a / 16) t') { s with toks := s.toks + 1 }) : wpAny (model prog w) A (binaryOp .FloorDiv (.int a t) (.int 16 u)) Q E s := by
  refine floordiv_int (by omega) ?_ (Or.inl (PyProof.noPylong_small (by omega)))
  rw [Int.fdiv_eq_ediv_of_nonneg _ (by decide)]
  exact h _ (by omega) (by omega)
end
theorem spelt_code {cz sp w r : List Int} {k : Nat} {i : Nat} (hvl : k = cz.length) (hi : i < cz.length) (hin : KBa.In cz) (hj : Spelt (cz.drop (cz.length - i)) sp) (hb : CodeOk (cz.getD ((k : Int) - 1 + (i : Int) * -1).toNat 0) (bfOf sp) w) (hr : r = w ++ sp) : Spelt (cz.drop (cz.length - (i + 1))) r := by
  subst hr hvl
  rw [show ((cz.length : Int) - 1 + (i : Int) * -1).toNat = cz.length - (i + 1) from by omega] at hb
  rw [drop_back hi]
  exact .code (inD hin _).1 (inD hin _).2 hj hb
theorem spelt_brk {cs sp w r : List Int} (hj : Spelt cs sp) (hw : w = [92, 10] ∨ w = [92, 13, 10] ∨ w = [92, 13]) (hn : sp.getD (Int.toNat 0) 0 ≠ 10) (hr : r = w ++ sp) : Spelt cs r := by
  subst hr
  refine .brk hj (hw.imp_right (Or.imp_right fun e => ⟨e, ?_⟩))
  cases sp with
  | nil => decide
  | cons x t => exact hn
theorem spelt_brk0 {cs sp r : List Int} (hj : Spelt cs sp) (hr : r = [92, 10] ++ sp) : Spelt cs r := by
  subst hr
  exact .brk hj (.inl rfl)
theorem brk_size {b : Array UInt8} (h : KBw.bInts b = [92, 10] ∨ KBw.bInts b = [92, 13, 10] ∨ KBw.bInts b = [92, 13]) : b.size ≤ 3 := by
  rw [← KBw.ints_length]
  rcases h with h | h | h <;> (rw [h]; decide)
theorem size_up {k : Nat} {b : Int} (h : b = (k : Int)) : Builtin.Range.rangeSize 0 b 1 = (k : Int) := by
  unfold Builtin.Range.rangeSize
  rw [if_pos (by decide)]
  by_cases q : (0 : Int) < b
  · rw [if_pos q]; omega
  · rw [if_neg q]; omega
theorem small_up {k : Nat} {b : Int} (h : b = (k : Int)) (hk : k ≤ 1000000) : Builtin.Range.small 0 b 1 = true := by
  unfold Builtin.Range.small
  rw [size_up h]
  simp only [Builtin.Range.rangeFitsLong, Bool.and_eq_true, Bool.or_eq_true, decide_eq_true_eq, beq_iff_eq, show (1 : Int) > 0 by decide, if_true]
  omega
theorem ints_at : ∀ {vs : List Value} {ns : List Int} {j : Nat} {v : Value}, IntsAre vs ns → vs[j]? = some v → ∃ k t, v = .int k t ∧ ns[j]? = some k
  | _, _, j, v, .nil, h => by simp at h
  | _, _, 0, v, .cons n t _, h => ⟨n, t, (Option.some.inj h).symm, rfl⟩
  | _, _, j + 1, v, .cons n t r, h => ints_at (j := j) r h
section
variable {prog : Program} {w : World} {A : Around} {E : Value → Shared → Prop} {s : Shared} {value slice : PySem.Expr} {b : Array UInt8} {t : Tok} {h₀ : Heap} {L : Addr} {m : PySem.Str → Option Value} {news : List (Addr × Obj)} {l u : Value} {k : Int} {Q : Value → Shared → Prop}
theorem my_cut (hF : Fr h₀ L s.heap m) (hN : News h₀ L s.heap news) (hl : IsPart l (some k)) (hu : IsPart u (some (k + 1))) (h0 : 0 ≤ k) (h1 : k < (b.size : Int)) (hz : b.size ≤ 100000)
    (h : ∀ (r : Array UInt8) h' t' k', Fr h₀ L h' m → News h₀ L h' news → KBw.bInts r = ((KBw.bInts b).drop k.toNat).take 1 → r.size ≤ 1 → Q (.bytes r t') { s with heap := h', toks := k' })
    (hs : subscripted slice false (.bytes b t) (.ref s.heap.objs.size) = operate [.ref s.heap.objs.size, .bytes b t] (getItem (.bytes b t) (.ref s.heap.objs.size)) := by with_unfolding_all rfl)
    (ht : ∀ r, letTemporaryGo value (.bytes b t) r = pure () := by intro _; with_unfolding_all rfl) :
    wpAny (model prog w) A (subscriptTail value slice (.bytes b t) (.ref s.heap.objs.size)) Q E { s with heap := s.heap.push { cls := .type "slice", data := .fields #[l, u, .none] } } := by
  refine KBc.slice_K hF hN rfl hl hu (by rw [KBw.ints_length]; omega) (fun h' t' k' F N e => ?_) hs ht
  have e2 : KBw.bInts (KBy.picked b (some k) (some (k + 1))) = ((KBw.bInts b).drop k.toNat).take 1 := by
    rw [e, KBw.ints_length]
    obtain ⟨n, rfl⟩ := Int.eq_ofNat_of_zero_le h0
    show ((KBw.bInts b).drop (clipAt b.size (n : Int))).take (clipAt b.size ((n : Int) + 1) - clipAt b.size (n : Int)) = _
    rw [show (n : Int) + 1 = ((n + 1 : Nat) : Int) from rfl, clipAt_nat, clipAt_nat, Nat.min_eq_left (by omega), Nat.min_eq_left (by omega), Int.toNat_natCast, Nat.add_sub_cancel_left]
  exact h _ _ _ _ F N e2 (by rw [← KBw.ints_length, e2, List.length_take]; omega)
theorem my_cut0 (hF : Fr h₀ L s.heap m) (hN : News h₀ L s.heap news) (hl : IsPart l none) (hu : IsPart u (some 1)) (hz : b.size ≤ 100000)
    (h : ∀ (r : Array UInt8) h' t' k', Fr h₀ L h' m → News h₀ L h' news → KBw.bInts r = (KBw.bInts b).take 1 → r.size ≤ 1 → Q (.bytes r t') { s with heap := h', toks := k' })
    (hs : subscripted slice false (.bytes b t) (.ref s.heap.objs.size) = operate [.ref s.heap.objs.size, .bytes b t] (getItem (.bytes b t) (.ref s.heap.objs.size)) := by with_unfolding_all rfl)
    (ht : ∀ r, letTemporaryGo value (.bytes b t) r = pure () := by intro _; with_unfolding_all rfl) :
    wpAny (model prog w) A (subscriptTail value slice (.bytes b t) (.ref s.heap.objs.size)) Q E { s with heap := s.heap.push { cls := .type "slice", data := .fields #[l, u, .none] } } := by
  refine KBc.slice_K hF hN rfl hl hu (by rw [KBw.ints_length]; omega) (fun h' t' k' F N e => ?_) hs ht
  have e2 : KBw.bInts (KBy.picked b none (some 1)) = (KBw.bInts b).take 1 := by
    rw [e, KBw.ints_length]
    show ((KBw.bInts b).drop 0).take (clipAt b.size ((1 : Nat) : Int) - 0) = _
    rw [clipAt_nat, List.drop_zero, Nat.sub_zero]
    by_cases q : 1 ≤ b.size
    · rw [Nat.min_eq_left q]
    · have : KBw.bInts b = [] := List.eq_nil_of_length_eq_zero (by rw [KBw.ints_length]; omega)
      rw [this]; simp
  exact h _ _ _ _ F N e2 (by rw [← KBw.ints_length, e2, List.length_take]; omega)
end
def LoUp (l : List Int) : Prop := l = loF ∨ l = upF
def Gap (l : List Int) : Prop := l = [] ∨ l = [9] ∨ l = [12]
def Lead (l : List Int) : Prop := l = [] ∨ l = [32] ∨ l = [13, 10] ∨ l = [0]
theorem lohi_ok {t1 t2 : Tok} : ∀ v ∈ [Value.bytes #[48, 49, 50, 51, 52, 53, 54, 55, 56, 57, 97, 98, 99, 100, 101, 102] t1, Value.bytes #[48, 49, 50, 51, 52, 53, 54, 55, 56, 57, 65, 66, 67, 68, 69, 70] t2], ∃ (b : Array UInt8) (t : Tok), v = .bytes b t ∧ LoUp (KBw.bInts b) ∧ b.size ≤ 1000 := fun v hv => by
  rcases List.mem_cons.mp hv with rfl | hv
  · exact ⟨_, _, rfl, .inl rfl, Nat.le_of_ble_eq_true rfl⟩
  rw [List.mem_singleton.mp hv]
  exact ⟨_, _, rfl, .inr rfl, Nat.le_of_ble_eq_true rfl⟩
theorem gap_oks {t1 t2 t3 t4 : Tok} : ∀ v ∈ [Value.bytes #[] t1, Value.bytes #[] t2, Value.bytes #[9] t3, Value.bytes #[12] t4], ∃ (b : Array UInt8) (t : Tok), v = .bytes b t ∧ Gap (KBw.bInts b) ∧ b.size ≤ 1000 := fun v hv => by
  rcases List.mem_cons.mp hv with rfl | hv
  · exact ⟨_, _, rfl, .inl rfl, Nat.le_of_ble_eq_true rfl⟩
  rcases List.mem_cons.mp hv with rfl | hv
  · exact ⟨_, _, rfl, .inl rfl, Nat.le_of_ble_eq_true rfl⟩
  rcases List.mem_cons.mp hv with rfl | hv
  · exact ⟨_, _, rfl, .inr (.inl rfl), Nat.le_of_ble_eq_true rfl⟩
  rw [List.mem_singleton.mp hv]
  exact ⟨_, _, rfl, .inr (.inr rfl), Nat.le_of_ble_eq_true rfl⟩
theorem lead_ok {t1 t2 t3 t4 : Tok} : ∀ v ∈ [Value.bytes #[] t1, Value.bytes #[32] t2, Value.bytes #[13, 10] t3, Value.bytes #[0] t4], ∃ (b : Array UInt8) (t : Tok), v = .bytes b t ∧ Lead (KBw.bInts b) ∧ b.size ≤ 1000 := fun v hv => by
  rcases List.mem_cons.mp hv with rfl | hv
  · exact ⟨_, _, rfl, .inl rfl, Nat.le_of_ble_eq_true rfl⟩
  rcases List.mem_cons.mp hv with rfl | hv
  · exact ⟨_, _, rfl, .inr (.inl rfl), Nat.le_of_ble_eq_true rfl⟩
  rcases List.mem_cons.mp hv with rfl | hv
  · exact ⟨_, _, rfl, .inr (.inr (.inl rfl)), Nat.le_of_ble_eq_true rfl⟩
  rw [List.mem_singleton.mp hv]
  exact ⟨_, _, rfl, .inr (.inr (.inr rfl)), Nat.le_of_ble_eq_true rfl⟩
theorem gap_size {b : Array UInt8} (h : Gap (KBw.bInts b)) : b.size ≤ 1 := by
  rw [← KBw.ints_length]
  rcases h with h | h | h <;> (rw [h]; decide)
theorem lead_size {b : Array UInt8} (h : Lead (KBw.bInts b)) : b.size ≤ 2 := by
  rw [← KBw.ints_length]
  rcases h with h | h | h | h <;> (rw [h]; decide)
theorem lohi_size {b : Array UInt8} (h : LoUp (KBw.bInts b)) : b.size = 16 := by
  rw [← KBw.ints_length]
  rcases h with h | h <;> (rw [h]; rfl)
/-- the halves of a code, of which a last 0 may be left out -/
def HalfRow (cz : List Int) (i : Nat) (hs : List Int) : Prop := hs = [cz.getD i 0 / 16, cz.getD i 0 % 16] ∨ hs = [cz.getD i 0 / 16] ∧ cz.getD i 0 % 16 = 0 ∧ i + 1 = cz.length
theorem half_in {cz hs : List Int} {i j : Nat} {k : Int} (hin : KBa.In cz) (h : HalfRow cz i hs) (hk : hs[j]? = some k) : 0 ≤ k ∧ k < 16 := by
  have hc := inD hin i
  have : k = cz.getD i 0 / 16 ∨ k = cz.getD i 0 % 16 := by
    have hm := List.mem_of_getElem? hk
    rcases h with rfl | ⟨rfl, _⟩
    · rcases List.mem_cons.mp hm with e | hm
      · exact .inl e
      · exact .inr (List.mem_singleton.mp hm)
    · exact .inl (List.mem_singleton.mp hm)
  omega
theorem half_len {cz hs : List Int} {i : Nat} (h : HalfRow cz i hs) : hs.length ≤ 2 := by
  rcases h with rfl | ⟨rfl, _⟩ <;> exact Nat.le_of_ble_eq_true rfl
theorem hex_step {base hs sp l g w r1 r : List Int} {j : Nat} {k : Int} (h : HexIn base hs j sp) (hj : hs[j]? = some k) (hl : LoUp l) (h0 : 0 ≤ k) (h1 : k < 16) (hw : w = (l.drop k.toNat).take 1) (hg : Gap g) (e1 : r1 = sp ++ w) (e2 : r = r1 ++ g) : HexIn base hs (j + 1) r := by
  subst e1 e2
  exact h.step hj hl h0 h1 hw hg
end Mine
end
section
open PySem PySem.W PyProof.Rows PySem.Calls
namespace Mine
theorem law_literal_c {w : World} {dp un : Nat} {gd : Option (List Code)} {cn : Str} {cs : Scope} {a : Addr} {ccd : Value} {cl : List (Str × Addr)} {outer : List Env} {A₀ : Around} {base h₀ : Heap} {L : Addr} {m : Str → Option Value} {s : Shared} {Q E : Value → Shared → Prop} {mg mb : Str → Option Value} {mean : ExcName → Option Value} {loose : List Str} {pn inn : Addr} {place great : Int} {tp tg : Tok} {n1 n2 : Nat} {cells : List Value} {cs_ : List Int} {rest : List (Addr × Obj)} {cd : Addr} {cvs : List Value} {n3 : Nat} {cz : List Int}
  (B : Below A₀ base outer h₀) (F : Fr h₀ L s.heap m) (X : (Mine.hd.heap_1 w.params).In h₀) (N : News h₀ L s.heap ((pn, listOf [.ref inn, .int place tp, .int great tg].toArray n1) :: (inn, listOf cells.toArray n2) :: (cd, listOf cvs.toArray n3) :: rest)) (T : Top Mine.view loose mean mg mb h₀) (hk : cs.kind = .function) (hd : dp + 40 < recursionLimit) (hu : un + 2000 < cLine) (hpi : @Ne Nat pn inn) (hpr : ∀ p ∈ rest, p.1 ≠ pn) (hcs : IntsAre cells cs_) (hcl : cs_.length ≤ 1000) (hpl : 0 ≤ place) (hpm : place < 90000) (hgr : 0 ≤ great) (hcz : IntsAre cvs cz) (hczi : KBa.In cz) (hczl : cz.length ≤ 8) (hcn : @Ne Nat cd pn)
  (hQ : ∀ (b : Array UInt8) t place' great' tp' tg' n' h' tk', Spelt cz (KBw.bInts b) → b.size ≤ 56 → 0 ≤ place' → place' ≤ place + 24 → 0 ≤ great' → Fr h₀ L h' m → News h₀ L h' ((pn, listOf [.ref inn, .int place' tp', .int great' tg'].toArray n') :: (inn, listOf cells.toArray n2) :: (cd, listOf cvs.toArray n3) :: rest) → Q (.bytes b t) { s with heap := h', toks := tk' }) :
  wpAny (model Challenge.rw_nn0223_01.row.prog w) (ktrTop dp un gd cn cs L a ccd cl outer) (call (.ref 420) [.ref pn, .ref cd]) Q E s := by
  k_with_none
  w_top off
  k_with "MyPost" =>
    (dsimp only [MyPost])
  k_with "eval Call" =>
    ((with_reducible show wpAny _ _ (eval (Expr.Call (Expr.Name _ _) _ [] _) _) _ _ _); k_dflt (refine Call_ ?_))
  k_with "eval Call Attribute" =>
    ((with_reducible show wpAny _ _ (eval (Expr.Call (Expr.Attribute _ _ _) _ [] _) _) _ _ _); k_dflt (refine MethodCall_ ?_))
  k_with "compareOp In int ref" =>
    ((with_reducible show wpAny _ _ (compareOp CmpOp.In (Value.int _ _) (Value.ref 62)) _ _ _); refine in_tuple_ints (ns := [0, 9, 10, 12, 13, 32]) (tupK (Frag.In.keeps (by k_asm) (Fr.keep (by k_asm))) (by k_is)) (by repeat constructor) ?_)
  k_with "compareOp NotIn int ref" =>
    ((with_reducible show wpAny _ _ (compareOp CmpOp.NotIn (Value.int _ _) (Value.ref 62)) _ _ _); refine notin_tuple_ints (ns := [0, 9, 10, 12, 13, 32]) (tupK (Frag.In.keeps (by k_asm) (Fr.keep (by k_asm))) (by k_is)) (by repeat constructor) ?_)
  k_with "compareOp NotIn int ref" =>
    ((with_reducible show wpAny _ _ (compareOp CmpOp.NotIn (Value.int _ _) (Value.ref 63)) _ _ _); refine notin_tuple_ints (ns := [40, 41, 60, 62, 91, 93, 123, 125, 47, 37]) (tupK (Frag.In.keeps (by k_asm) (Fr.keep (by k_asm))) (by k_is)) (by repeat constructor) ?_)
  k_with "compareOp In int ref" =>
    ((with_reducible show wpAny _ _ (compareOp CmpOp.In (Value.int _ _) (Value.ref 304)) _ _ _); refine in_tuple_ints (ns := [91, 93, 123, 125]) (tupK (Frag.In.keeps (by k_asm) (Fr.keep (by k_asm))) (by k_is)) (by repeat constructor) ?_)
  k_with "call ref" =>
    ((with_reducible show wpAny _ _ (call (Value.ref 401) _) _ _ _); (rename News _ _ _ _ => kN); k_dflt (refine' draw_c (by k_asm) (by k_asm) (by k_asm) (news_pick2r kN (by tb_start) (by tb_start)) (by k_asm) (by first | exact rfl | assumption) (by ktr_room) (by ktr_units) (by k_ne) (by k_all) (by assumption) (by omega) (by omega) (by omega) (by omega) (by omega) (by omega) ?_; k_whole); intro _ _ _ _ _ _ _ _ _ _ _ _ _ _ _ _; (try clear kN); (try k_sweep))
  k_with "call ref" =>
    ((with_reducible show wpAny _ _ (call (Value.ref 413) _) _ _ _); (rename News _ _ _ _ => kN); k_dflt (refine' law_code_c (by k_asm) (by k_asm) (by k_asm) (news_pick2r kN (by tb_start) (by tb_start)) (by k_asm) (by first | exact rfl | assumption) (by ktr_room) (by ktr_units) (by k_ne) (by k_all) (by assumption) (by omega) (by omega) (by omega) (by omega) (by exact (inD (by assumption) _).1) (by exact (inD (by assumption) _).2) ?_; k_whole); intro _ _ _ _ _ _ _ _ _ _ _ _ _ _ _; (try clear kN); (rename_i hb' a1' a2' a3' F' N'); (have hz' := code_size hb'); (revert hb' a1' a2' a3' F' N' hz'; intro _ _ _ _ _ _ _); (try k_sweep))
  k_with "binaryOp Add bytes bytes" =>
    (k_dflt (refine' my_addB (by ((try simp only [List.size_toArray, List.length_cons, List.length_nil]); omega)) ?_); intro _ _ _ _ _; (rename_i hz'); (try simp only [List.size_toArray, List.length_cons, List.length_nil] at hz'); (revert hz'; intro _))
  k_with "subscriptTail" =>
    ((with_reducible show wpAny _ _ (subscriptTail _ _ (Value.bytes _ _) (Value.int _ _)) _ _ _); k_dflt (refine' KBw.item_K rfl (by (rw [KBw.ints_length]; omega)) (by omega) (by (rw [KBw.ints_length]; omega)) ?_); intro _ _ _ _)
  k_with "subscriptTail" =>
    ((with_reducible show wpAny _ _ (subscriptTail _ _ (Value.ref _) (Value.int _ _)) _ _ _); k_dflt (refine' my_pickB (vs := [_, _, _]) (fun l => l = [92, 10] ∨ l = [92, 13, 10] ∨ l = [92, 13]) (by k_asm) (by k_mem) (by exact three_ok) (by omega) (by (simp only [List.length_cons, List.length_nil]; omega)) (by exact Nat.le_of_ble_eq_true rfl) ?_); intro _ _ _ _)
  k_with "subscriptTail" =>
    ((with_reducible show wpAny _ _ (subscriptTail _ _ (Value.ref _) (Value.int _ _)) _ _ _); k_dflt (refine' my_item (by k_asm) (by k_mem) (by assumption) (by omega) (by omega) (by omega) ?_); intro _)
  k_with "ForPost" =>
    (dsimp only [ForPost])
  k_with "call builtin:len" =>
    ((with_reducible show wpAny _ _ (call (Value.builtin _) [Value.ref _]) _ _ _); k_dflt (refine' my_len (by k_asm) (by k_mem) (by omega) ?_))
  revert X; k_fill; intro X
  refine wpAny_call ?_
  k_dflt (refine' code_def (binds := [((Str.ofString "pen"), .ref pn), ((Str.ofString "codes"), .ref cd)]) ?k1 ?k2 ?k3 ?k4 ?k5 ?kA ?kF ?kK ?k6 ?k7 ?k8 ?k9 ?kB ?_ ?c2 ?c3 ?c4 ?c5; (case kA => exact rfl); (case kF => exact rfl); (case kK => assumption); (case k1 => k_asm); (case k2 => k_asm); (case k3 => k_asm); (case k4 => k_asm); (case k5 => k_asm); (case k6 => k_is); (case k7 => k_is); (case k8 => ktr_room); (case k9 => first | exact BindsTo.of_eq rfl | exact binds_K (by k_in) rfl (by k_is) rfl rfl rfl); (case c5 => decide); (case kB => exact locs rfl); (case c2 => exact rfl); (case c3 => exact rfl); (case c4 => exact rfl))
  k_whole
  intro g' L' h' FG' F' N' B' X' T'
  (try dsimp only [List.reverse_cons, List.reverse_nil, List.nil_append, List.cons_append]); (try k_fold)
  have hvl := hcz.length
  k_with "eval BoolOp" =>
    (fail_if_success (with_reducible show wpAny _ _ _ (ValJ _ _ _ _ _ _) _ _))
    (rename Fr _ _ _ _ => lF'); (rename News _ _ _ _ => lN')
    refine' val_join (s := s) lF' lN' (fun v => v = .bool (bfOf (KBw.bInts b))) ?_ ?_
    rotate_left
    rintro v h' tk' rfl F' N'
    (try clear lF' lN')
  k_with "pyIter ref" =>
    (rename Fr _ _ _ _ => lF'); (rename News _ _ _ _ => lN'); (rename IsRange _ _ _ _ _ _ _ _ => hrg)
    with_unfolding_all refine' my_for (σ := Array UInt8 × Tok × Int × Tok × Int × Tok × Nat × Tok) (n := cz.length) (fun x u y => if y = Str.ofString "place" then u y else if y = Str.ofString "behind" then some (.bytes #[41] x.2.2.2.2.2.2.2) else if y = Str.ofString "spelt" then some (.bytes x.1 x.2.1) else List.lookup y [(Str.ofString "pen", Value.ref pn), (Str.ofString "codes", Value.ref cd)].reverse) (fun x => (pn, listOf [.ref inn, .int x.2.2.1 x.2.2.2.1, .int x.2.2.2.2.1 x.2.2.2.2.2.1].toArray x.2.2.2.2.2.2.1) :: (inn, listOf cells.toArray n2) :: (cd, listOf cvs.toArray n3) :: rest) (fun i x => Spelt (cz.drop (cz.length - i)) (KBw.bInts x.1) ∧ x.1.size ≤ 7 * i ∧ 0 ≤ x.2.2.1 ∧ x.2.2.1 ≤ place + 3 * i ∧ 0 ≤ x.2.2.2.2.1) (#[], _, place, tp, great, tg, n1, _) rfl hrg (small_down (k := cz.length) (by omega) (by omega)) (size_down (k := cz.length) (by omega)) lF' lN' ?jm ?jl (fun _ => rfl) ?jz ?jt ?jf
    (case jm => tb_rel)
    (case jl => kcj_in)
    (case jz => exact ⟨by rw [Nat.sub_zero, List.drop_length]; k_dflt (exact Spelt.nil), by k_dflt (exact Nat.le_refl _), hpl, by dsimp only; omega, hgr⟩)
    rotate_left
    rintro ⟨b, tk1, pl1, tp1, gr1, tg1, nn1, tb1⟩ u h tk ⟨hz1, hz2, hz3, hz4, hz5⟩ lF lN
    dsimp only at lF lN hz1 hz2 hz3 hz4 hz5
    k_dflt (replace lF := show Fr g' L' h _ from lF)
    k_dflt (replace lN := show News g' L' h _ from lN)
    (try clear lF' lN')
    rotate_left
    rintro i ⟨b, tk1, pl1, tp1, gr1, tg1, nn1, tb1⟩ u I t h tk hi ⟨hj1, hj2, hj3, hj4, hj5⟩ hI lF lN
    (try clear lF' lN')
    dsimp only at lF lN hj1 hj2 hj3 hj4 hj5 hI ⊢
    k_dflt (replace lF := show Fr g' L' h _ from lF)
    k_dflt (replace lN := show News g' L' h _ from lN)
    have hI1 : @Ne Nat pn I := by k_dflt (exact hI _ (List.Mem.head _))
  k_steps
  all_goals (rename News _ _ _ _ => nE)
  all_goals (try (rename KBw.bInts _ = [92, 10] ∨ _ => hw; have hw3 := brk_size hw))
  all_goals first
      | (refine hQ _ _ _ _ _ _ _ _ _ (by rw [Nat.sub_self, List.drop_zero] at hz1; exact hz1) (by omega) ?_ ?_ ?_ (by assumption) (news_sub (by assumption) (by kcj_in)) <;> omega)
      | (rename KBw.bInts _ = KBw.bInts b ++ KBw.bInts #[41] => hr2; refine' valj_mk (congrArg Value.bool (bf_of (head_of hr2) (head_of hr2) (.inl ⟨by assumption, by assumption, decide_eq_true (by assumption)⟩))) (by assumption) nE)
      | (rename KBw.bInts _ = KBw.bInts b ++ KBw.bInts #[41] => hr2; have hx2 := head_of hr2; clear hr2; rename KBw.bInts _ = KBw.bInts b ++ KBw.bInts #[41] => hr1; refine' valj_mk (congrArg Value.bool (bf_of (head_of hr1) hx2 (.inr ⟨fun z => by first | exact absurd z.1 (by assumption) | exact absurd z.2 (by assumption), rfl⟩))) (by assumption) nE)
      | (refine' for_end (_, _, _, _, _, _, _, _) ?eF1 ?eN1 ?em1 ?en1 ?ej1; (case eF1 => assumption); (case eN1 => assumption); (case em1 => (intro y; (by_cases q0 : y = (Str.ofString "place"); (subst q0; rfl)); (by_cases q1 : y = (Str.ofString "behind"); (subst q1; rfl)); (by_cases q2 : y = (Str.ofString "spelt"); (subst q2; rfl)); simp only [q0, q1, q2, if_false, reduceIte])); (case en1 => kcj_in); (case ej1 => exact ⟨(by rename CodeOk _ _ _ => hC; rename KBw.bInts _ = _ ++ KBw.bInts b => hr1; exact spelt_code hvl hi hczi hj1 hC hr1), by dsimp only; omega, by assumption, by dsimp only; omega, by assumption⟩))
      | (refine' for_end (_, _, _, _, _, _, _, _) ?eF2 ?eN2 ?em2 ?en2 ?ej2; (case eF2 => assumption); (case eN2 => assumption); (case em2 => (intro y; (by_cases q0 : y = (Str.ofString "place"); (subst q0; rfl)); (by_cases q1 : y = (Str.ofString "behind"); (subst q1; rfl)); (by_cases q2 : y = (Str.ofString "spelt"); (subst q2; rfl)); simp only [q0, q1, q2, if_false, reduceIte])); (case en2 => kcj_in); (case ej2 => exact ⟨spelt_brk0 (by rename CodeOk _ _ _ => hC; rename KBw.bInts _ = _ ++ KBw.bInts b => hr1; exact spelt_code hvl hi hczi hj1 hC hr1) (by assumption), by dsimp only; omega, by assumption, by dsimp only; omega, by assumption⟩))
      | (refine' for_end (_, _, _, _, _, _, _, _) ?eF3 ?eN3 ?em3 ?en3 ?ej3; (case eF3 => assumption); (case eN3 => assumption); (case em3 => (intro y; (by_cases q0 : y = (Str.ofString "place"); (subst q0; rfl)); (by_cases q1 : y = (Str.ofString "behind"); (subst q1; rfl)); (by_cases q2 : y = (Str.ofString "spelt"); (subst q2; rfl)); simp only [q0, q1, q2, if_false, reduceIte])); (case en3 => kcj_in); (case ej3 => exact ⟨spelt_brk (by rename CodeOk _ _ _ => hC; rename KBw.bInts _ = _ ++ KBw.bInts b => hr1; exact spelt_code hvl hi hczi hj1 hC hr1) hw (by assumption) (by assumption), by dsimp only; omega, by assumption, by dsimp only; omega, by assumption⟩))
end Mine
end
section
open PySem PySem.W PyProof.Rows PySem.Calls
namespace Mine
theorem law_hexed_c {w : World} {dp un : Nat} {gd : Option (List Code)} {cn : Str} {cs : Scope} {a : Addr} {ccd : Value} {cl : List (Str × Addr)} {outer : List Env} {A₀ : Around} {base h₀ : Heap} {L : Addr} {m : Str → Option Value} {s : Shared} {Q E : Value → Shared → Prop} {mg mb : Str → Option Value} {mean : ExcName → Option Value} {loose : List Str} {pn inn : Addr} {place great : Int} {tp tg : Tok} {n1 n2 : Nat} {cells : List Value} {cs_ : List Int} {rest : List (Addr × Obj)} {cd : Addr} {cvs : List Value} {n3 : Nat} {cz : List Int}
  (B : Below A₀ base outer h₀) (F : Fr h₀ L s.heap m) (X : (Mine.hd.heap_1 w.params).In h₀) (N : News h₀ L s.heap ((pn, listOf [.ref inn, .int place tp, .int great tg].toArray n1) :: (inn, listOf cells.toArray n2) :: (cd, listOf cvs.toArray n3) :: rest)) (T : Top Mine.view loose mean mg mb h₀) (hk : cs.kind = .function) (hd : dp + 40 < recursionLimit) (hu : un + 2000 < cLine) (hpi : @Ne Nat pn inn) (hpr : ∀ p ∈ rest, p.1 ≠ pn) (hcs : IntsAre cells cs_) (hcl : cs_.length ≤ 1000) (hpl : 0 ≤ place) (hpm : place < 90000) (hgr : 0 ≤ great) (hcz : IntsAre cvs cz) (hczi : KBa.In cz) (hczl : cz.length ≤ 8) (hcn : @Ne Nat cd pn)
  (hQ : ∀ (b : Array UInt8) t place' great' tp' tg' n' h' tk', HexOk cz (KBw.bInts b) → b.size ≤ 40 → 0 ≤ place' → place' ≤ place + 50 → 0 ≤ great' → Fr h₀ L h' m → News h₀ L h' ((pn, listOf [.ref inn, .int place' tp', .int great' tg'].toArray n') :: (inn, listOf cells.toArray n2) :: (cd, listOf cvs.toArray n3) :: rest) → Q (.bytes b t) { s with heap := h', toks := tk' }) :
  wpAny (model Challenge.rw_nn0223_01.row.prog w) (ktrTop dp un gd cn cs L a ccd cl outer) (call (.ref 427) [.ref pn, .ref cd]) Q E s := by
  k_with_none
  w_top off
  k_with "MyPost" =>
    (dsimp only [MyPost])
  k_with "eval Call" =>
    ((with_reducible show wpAny _ _ (eval (Expr.Call (Expr.Name _ _) _ [] _) _) _ _ _); k_dflt (refine Call_ ?_))
  k_with "eval Call Attribute" =>
    ((with_reducible show wpAny _ _ (eval (Expr.Call (Expr.Attribute _ _ _) _ [] _) _) _ _ _); k_dflt (refine MethodCall_ ?_))
  k_with "compareOp In int ref" =>
    ((with_reducible show wpAny _ _ (compareOp CmpOp.In (Value.int _ _) (Value.ref 62)) _ _ _); refine in_tuple_ints (ns := [0, 9, 10, 12, 13, 32]) (tupK (Frag.In.keeps (by k_asm) (Fr.keep (by k_asm))) (by k_is)) (by repeat constructor) ?_)
  k_with "compareOp NotIn int ref" =>
    ((with_reducible show wpAny _ _ (compareOp CmpOp.NotIn (Value.int _ _) (Value.ref 62)) _ _ _); refine notin_tuple_ints (ns := [0, 9, 10, 12, 13, 32]) (tupK (Frag.In.keeps (by k_asm) (Fr.keep (by k_asm))) (by k_is)) (by repeat constructor) ?_)
  k_with "compareOp NotIn int ref" =>
    ((with_reducible show wpAny _ _ (compareOp CmpOp.NotIn (Value.int _ _) (Value.ref 63)) _ _ _); refine notin_tuple_ints (ns := [40, 41, 60, 62, 91, 93, 123, 125, 47, 37]) (tupK (Frag.In.keeps (by k_asm) (Fr.keep (by k_asm))) (by k_is)) (by repeat constructor) ?_)
  k_with "compareOp In int ref" =>
    ((with_reducible show wpAny _ _ (compareOp CmpOp.In (Value.int _ _) (Value.ref 304)) _ _ _); refine in_tuple_ints (ns := [91, 93, 123, 125]) (tupK (Frag.In.keeps (by k_asm) (Fr.keep (by k_asm))) (by k_is)) (by repeat constructor) ?_)
  k_with "call ref" =>
    ((with_reducible show wpAny _ _ (call (Value.ref 401) _) _ _ _); (rename News _ _ _ _ => kN); k_dflt (refine' draw_c (by k_asm) (by k_asm) (by k_asm) (news_pick2r kN (by tb_start) (by tb_start)) (by k_asm) (by first | exact rfl | assumption) (by ktr_room) (by ktr_units) (by k_ne) (by k_all) (by assumption) (by omega) (by omega) (by omega) (by omega) (by omega) (by omega) ?_; k_whole); intro _ _ _ _ _ _ _ _ _ _ _ _ _ _ _ _; (try clear kN); (try k_sweep))
  k_with "binaryOp Add bytes bytes" =>
    (k_dflt (refine' my_addB (by ((try simp only [List.size_toArray, List.length_cons, List.length_nil]); omega)) ?_); intro _ _ _ _ _; (rename_i hz'); (try simp only [List.size_toArray, List.length_cons, List.length_nil] at hz'); (revert hz'; intro _))
  k_with "subscriptTail" =>
    ((with_reducible show wpAny _ _ (subscriptTail _ _ (Value.bytes _ _) (Value.int _ _)) _ _ _); k_dflt (refine' KBw.item_K rfl (by (rw [KBw.ints_length]; omega)) (by omega) (by (rw [KBw.ints_length]; omega)) ?_); intro _ _ _ _)
  k_with "subscriptTail" =>
    ((with_reducible show wpAny _ _ (subscriptTail _ _ (Value.ref _) (Value.int _ _)) _ _ _); k_dflt (refine' my_pickB (vs := [_, _]) LoUp (by k_asm) (by k_mem) (by exact lohi_ok) (by omega) (by (simp only [List.length_cons, List.length_nil]; omega)) (by exact Nat.le_of_ble_eq_true rfl) ?_); intro _ _ _ _; (rename_i hb' hz'); (have hs' := lohi_size hb'); (revert hb' hz' hs'; intro _ _ _))
  k_with "subscriptTail" =>
    ((with_reducible show wpAny _ _ (subscriptTail _ _ (Value.ref _) (Value.int _ _)) _ _ _); k_dflt (refine' my_pickB (vs := [_, _, _, _]) Gap (by k_asm) (by k_mem) (by exact gap_oks) (by omega) (by (simp only [List.length_cons, List.length_nil]; omega)) (by exact Nat.le_of_ble_eq_true rfl) ?_); intro _ _ _ _; (rename_i hb' hz'); (have hs' := gap_size hb'); (revert hb' hz' hs'; intro _ _ _))
  k_with "subscriptTail" =>
    ((with_reducible show wpAny _ _ (subscriptTail _ _ (Value.ref _) (Value.int _ _)) _ _ _); k_dflt (refine' my_pickB (vs := [_, _, _, _]) Lead (by k_asm) (by k_mem) (by exact lead_ok) (by omega) (by (simp only [List.length_cons, List.length_nil]; omega)) (by exact Nat.le_of_ble_eq_true rfl) ?_); intro _ _ _ _; (rename_i hb' hz'); (have hs' := lead_size hb'); (revert hb' hz' hs'; intro _ _ _))
  k_with "subscriptTail" =>
    ((with_reducible show wpAny _ _ (subscriptTail _ _ (Value.ref _) (Value.int _ _)) _ _ _); k_dflt (refine' my_item (by k_asm) (by k_mem) (by assumption) (by omega) (by omega) (by omega) ?_); intro _; (try rw [Int.toNat_natCast]))
  k_with "binaryOp Mod int int" =>
    ((with_reducible show wpAny _ _ (binaryOp _ _ (Value.int 16 _)) _ _ _); (refine' my_mod16 ?_); intro _ _ _)
  k_with "binaryOp FloorDiv int int" =>
    ((with_reducible show wpAny _ _ (binaryOp _ _ (Value.int 16 _)) _ _ _); (refine' my_fdiv16 (by omega) (by omega) ?_); intro _ _ _)
  k_with "subscriptTail" =>
    ((with_reducible show wpAny _ _ (subscriptTail _ (Expr.Slice _ _ none _) (Value.bytes _ _) (Value.ref _)) _ _ _); (with_reducible rename Fr _ _ _ _ => zF'); (with_reducible rename News _ _ _ _ => zN'); k_dflt (refine' my_cut (s := ⟨_, _, _, _, _⟩) zF' zN' (by constructor) (by constructor) (by omega) (by omega) (by omega) ?_); intro _ _ _ _ _ _ _ _; (try k_sweep))
  k_with "subscriptTail" =>
    ((with_reducible show wpAny _ _ (subscriptTail _ (Expr.Slice none (some _) none _) (Value.bytes _ _) (Value.ref _)) _ _ _); (with_reducible rename Fr _ _ _ _ => zF'); (with_reducible rename News _ _ _ _ => zN'); k_dflt (refine' my_cut0 (s := ⟨_, _, _, _, _⟩) zF' zN' (by constructor) (by constructor) (by omega) ?_); intro _ _ _ _ _ _ _ _; (try k_sweep))
  k_with "exec If" =>
    (k_extra "exec If BoolOp")
  k_with "ForPost" =>
    (dsimp only [ForPost])
  k_with "exec For Name Name cons nil" =>
    ((rename Fr _ _ _ _ => zF); (with_unfolding_all refine' For_turns zF ?_; k_whole))
  k_with "call builtin:len" =>
    ((with_reducible show wpAny _ _ (call (Value.builtin _) [Value.ref _]) _ _ _); k_dflt (refine' my_len (by k_asm) (by k_mem) (by omega) ?_))
  revert X; k_fill; intro X
  refine wpAny_call ?_
  k_dflt (refine' code_def (binds := [((Str.ofString "pen"), .ref pn), ((Str.ofString "codes"), .ref cd)]) ?k1 ?k2 ?k3 ?k4 ?k5 ?kA ?kF ?kK ?k6 ?k7 ?k8 ?k9 ?kB ?_ ?c2 ?c3 ?c4 ?c5; (case kA => exact rfl); (case kF => exact rfl); (case kK => assumption); (case k1 => k_asm); (case k2 => k_asm); (case k3 => k_asm); (case k4 => k_asm); (case k5 => k_asm); (case k6 => k_is); (case k7 => k_is); (case k8 => ktr_room); (case k9 => first | exact BindsTo.of_eq rfl | exact binds_K (by k_in) rfl (by k_is) rfl rfl rfl); (case c5 => decide); (case kB => exact locs rfl); (case c2 => exact rfl); (case c3 => exact rfl); (case c4 => exact rfl))
  k_whole
  intro g' L' h' FG' F' N' B' X' T'
  (try dsimp only [List.reverse_cons, List.reverse_nil, List.nil_append, List.cons_append]); (try k_fold)
  have hvl := hcz.length
  k_with "exec If BoolOp" =>
    (fail_if_success (with_reducible show wpAny _ _ _ (WayM _ _ _ _ _ _) _ _))
    (rename Fr _ _ _ _ => lF'); (rename News _ _ _ _ => lN'); (rename _ ∧ _ ∧ _ ∧ _ ∧ AllLt _ _ => lL')
    obtain ⟨l', hl', lL2⟩ : ∃ z : Addr, z = _ ∧ (@LT.lt Nat _ I z ∧ @LT.lt Nat _ pn z ∧ @LT.lt Nat _ inn z ∧ @LT.lt Nat _ cd z ∧ AllLt z rest) := ⟨_, rfl, lL'⟩
    subst hl'
    clear lL'
    k_dflt (refine' wayM_join (σ := List Value × Nat × Int × Tok × Int × Tok × Nat) (s := s) lF' (fun x => (l', listOf x.1.toArray x.2.1) :: (I, krsIt (0 + ((i + 1 : Nat) : Int) * 1) ((cz.length : Int) - ((i + 1 : Nat) : Int)) 1) :: (pn, listOf [.ref inn, .int x.2.2.1 x.2.2.2.1, .int x.2.2.2.2.1 x.2.2.2.2.2.1].toArray x.2.2.2.2.2.2) :: (inn, listOf cells.toArray n2) :: (cd, listOf cvs.toArray n3) :: rest) (fun x => ∃ hs, IntsAre x.1 hs ∧ HalfRow cz i hs ∧ 0 ≤ x.2.2.1 ∧ x.2.2.1 ≤ pl1 + 1 ∧ 0 ≤ x.2.2.2.2.1) ?_ ?_)
    rotate_left
    rintro ⟨vs, nh, pl2, tp2, gr2, tg2, nn2⟩ h' tk' ⟨hs, hi2, hh2, hp2, hp3, hg2⟩ F' N'
    dsimp only at hi2 hp2 hp3 hg2 N'
    (try clear lF' lN')
  k_with "pyIter ref" =>
    (rename Fr _ _ _ _ => lF'); (rename News _ _ _ _ => lN')
    (first
    | (have hh3 := hh2
       have hhl := half_len hh2
       have hvl2 := hi2.length
       with_unfolding_all refine' my_forlist (σ := Array UInt8 × Tok × Int × Tok × Int × Tok × Nat) (vs := vs) (n := nh) (lo := listOf vs.toArray nh) (fun x u y => if y = Str.ofString "place" then u y else if y = Str.ofString "halves" then u y else if y = Str.ofString "half" then u y else if y = Str.ofString "spelt" then some (.bytes x.1 x.2.1) else List.lookup y [(Str.ofString "pen", Value.ref pn), (Str.ofString "codes", Value.ref cd)].reverse) (fun x => (l', listOf vs.toArray nh) :: (I, krsIt (0 + ((i + 1 : Nat) : Int) * 1) ((cz.length : Int) - ((i + 1 : Nat) : Int)) 1) :: (pn, listOf [.ref inn, .int x.2.2.1 x.2.2.2.1, .int x.2.2.2.2.1 x.2.2.2.2.2.1].toArray x.2.2.2.2.2.2) :: (inn, listOf cells.toArray n2) :: (cd, listOf cvs.toArray n3) :: rest) (fun j x => HexIn (halv (cz.take i)) hs j (KBw.bInts x.1) ∧ x.1.size ≤ 2 + 4 * i + 2 * j ∧ 0 ≤ x.2.2.1 ∧ x.2.2.1 ≤ place + 2 + 5 * i + 2 * j ∧ 0 ≤ x.2.2.2.2.1) (b, tk1, pl2, tp2, gr2, tg2, nn2) rfl lF' lN' rfl rfl (fun _ => .head _) ?jm2 ?jl2 (fun _ => rfl) ?jz2 ?jt2 ?jf2
       (case jm2 => tb_rel)
       (case jl2 => kcj_in)
       (case jz2 => exact ⟨hj1.into hi hs, by dsimp only; omega, hp2, by dsimp only; omega, hg2⟩)
       (case' jf2 =>
          (rintro ⟨b, tk1, pl1, tp1, gr1, tg1, nn1⟩ u h tk ⟨hy1, hy2, hy3, hy4, hy5⟩ lF lN
           dsimp only at lF lN hy1 hy2 hy3 hy4 hy5
           rw [hvl2] at hy1
           k_dflt (replace lF := show Fr g' L' h _ from lF)
           k_dflt (replace lN := show News g' L' h _ from lN)
           (try clear lF' lN')))
       (case' jt2 =>
          (rintro j ⟨b, tk1, pl1, tp1, gr1, tg1, nn1⟩ u I2 v o h tk hv ⟨hy1, hy2, hy3, hy4, hy5⟩ hI2 ho lF lN
           have hj9 := (List.getElem?_eq_some_iff.mp hv).1
           obtain ⟨k, tk9, hke, hk⟩ := ints_at hi2 hv
           subst hke
           obtain ⟨hk0, hk1⟩ := half_in hczi hh2 hk
           (try clear lF' lN')
           dsimp only at lF lN hy1 hy2 hy3 hy4 hy5 hI2 ⊢
           k_dflt (replace lF := show Fr g' L' h _ from lF)
           k_dflt (replace lN := show News g' L' h _ from lN)
           have hI3 : @Ne Nat pn I2 := by k_dflt (exact hI2 _ (List.Mem.tail _ (List.Mem.tail _ (List.Mem.head _)))))))
    | ((rename IsRange _ _ _ _ _ _ _ _ => hrg)
       with_unfolding_all refine' my_for (σ := Array UInt8 × Tok × Int × Tok × Int × Tok × Nat) (n := cz.length) (fun x u y => if y = Str.ofString "place" then u y else if y = Str.ofString "halves" then u y else if y = Str.ofString "half" then u y else if y = Str.ofString "spelt" then some (.bytes x.1 x.2.1) else List.lookup y [(Str.ofString "pen", Value.ref pn), (Str.ofString "codes", Value.ref cd)].reverse) (fun x => (pn, listOf [.ref inn, .int x.2.2.1 x.2.2.2.1, .int x.2.2.2.2.1 x.2.2.2.2.2.1].toArray x.2.2.2.2.2.2) :: (inn, listOf cells.toArray n2) :: (cd, listOf cvs.toArray n3) :: rest) (fun i x => HexAt cz i (KBw.bInts x.1) ∧ x.1.size ≤ 2 + 4 * i ∧ 0 ≤ x.2.2.1 ∧ x.2.2.1 ≤ place + 1 + 5 * i ∧ 0 ≤ x.2.2.2.2.1) (_, _, _, _, _, _, _) rfl hrg (small_up (k := cz.length) (by omega) (by omega)) (size_up (k := cz.length) (by omega)) lF' lN' ?jm ?jl (fun _ => rfl) ?jz ?jt ?jf
       (case jm => tb_rel)
       (case jl => kcj_in)
       (case jz => exact ⟨hexAt_start (by assumption), by dsimp only; omega, by assumption, by dsimp only; omega, by assumption⟩)
       (case' jf =>
          (rintro ⟨b, tk1, pl1, tp1, gr1, tg1, nn1⟩ u h tk ⟨hz1, hz2, hz3, hz4, hz5⟩ lF lN
           dsimp only at lF lN hz1 hz2 hz3 hz4 hz5
           k_dflt (replace lF := show Fr g' L' h _ from lF)
           k_dflt (replace lN := show News g' L' h _ from lN)
           (try clear lF' lN')))
       (case' jt =>
          (rintro i ⟨b, tk1, pl1, tp1, gr1, tg1, nn1⟩ u I t h tk hi ⟨hj1, hj2, hj3, hj4, hj5⟩ hI lF lN
           (try clear lF' lN')
           dsimp only at lF lN hj1 hj2 hj3 hj4 hj5 hI ⊢
           k_dflt (replace lF := show Fr g' L' h _ from lF)
           k_dflt (replace lN := show News g' L' h _ from lN)
           have hci := inD hczi ((i : Int).toNat)
           have he9 : (0 : Int) + (i : Int) * 1 = (i : Int) := by omega
           rw [he9] at lF
           have hI1 : @Ne Nat pn I := by k_dflt (exact hI _ (List.Mem.head _))))))
  k_steps
  all_goals (rename News _ _ _ _ => nE)
  all_goals first
      | (refine hQ _ _ _ _ _ _ _ _ _ hz1.done (by omega) ?_ ?_ ?_ (by assumption) (news_sub (by assumption) (by kcj_in)) <;> omega)
      | (refine' wayM_mk (_, _, _, _, _, _, _) (by assumption) nE ?en1 ?ej1; (case en1 => kcj_in); (case ej1 => exact ⟨_, .cons _ _ (.cons _ _ .nil), .inl rfl, by assumption, by dsimp only; omega, by assumption⟩))
      | (refine' wayM_mk (_, _, _, _, _, _, _) (by assumption) nE ?en2 ?ej2; (case en2 => kcj_in); (case ej2 => exact ⟨_, .cons _ _ .nil, .inr ⟨rfl, by assumption, by omega⟩, by assumption, by dsimp only; omega, by assumption⟩))
      | (refine' for_end (_, _, _, _, _, _, _) ?eF3 ?eN3 ?em3 ?en3 ?ej3; (case eF3 => assumption); (case eN3 => assumption); (case em3 => (intro y; (by_cases q0 : y = (Str.ofString "place"); (subst q0; rfl)); (by_cases q1 : y = (Str.ofString "halves"); (subst q1; rfl)); (by_cases q2 : y = (Str.ofString "half"); (subst q2; rfl)); (by_cases q3 : y = (Str.ofString "spelt"); (subst q3; rfl)); simp only [q0, q1, q2, q3, if_false, reduceIte])); (case en3 => kcj_in); (case ej3 => exact ⟨hy1.out hi hh2, by dsimp only; omega, by assumption, by dsimp only; omega, by assumption⟩))
      | (refine' for_end (_, _, _, _, _, _, _) ?eF4 ?eN4 ?em4 ?en4 ?ej4; (case eF4 => assumption); (case eN4 => assumption); (case em4 => (intro y; (by_cases q0 : y = (Str.ofString "half"); (subst q0; rfl)); (by_cases q1 : y = (Str.ofString "place"); (subst q1; rfl)); (by_cases q2 : y = (Str.ofString "halves"); (subst q2; rfl)); (by_cases q3 : y = (Str.ofString "spelt"); (subst q3; rfl)); simp only [q0, q1, q2, q3, if_false, reduceIte])); (case en4 => kcj_in); (case ej4 => exact ⟨(by rename LoUp _ => hLU; rename Gap _ => hG; rename KBw.bInts _ = List.take 1 _ => hw; rename KBw.bInts _ = KBw.bInts b ++ _ => hr1; exact hex_step hy1 hk hLU hk0 hk1 hw hG hr1 (by assumption)), by dsimp only; omega, by assumption, by dsimp only; omega, by assumption⟩))
end Mine
end
section
open PySem PySem.W PyProof.Rows PySem.Calls PySem.Spec
namespace Mine
theorem named_at {cz : List Int} {k i : Nat} (hvl : k = cz.length) (hi : i < cz.length) : cz.drop (cz.length - (i + 1)) = cz.getD ((k : Int) - 1 + (i : Int) * -1).toNat 0 :: cz.drop (cz.length - i) := by
  subst hvl
  rw [show ((cz.length : Int) - 1 + (i : Int) * -1).toNat = cz.length - (i + 1) from by omega]
  exact drop_back hi
theorem nm_raw {cz sp r : List Int} {k i : Nat} {c : Int} (hvl : k = cz.length) (hi : i < cz.length) (hin : KBa.In cz) (h : Named (cz.drop (cz.length - i)) sp) (hc : c = cz.getD ((k : Int) - 1 + (i : Int) * -1).toNat 0) (hb : bars.any (· == c) = false) (hr : r = [c] ++ sp) : Named (cz.drop (cz.length - (i + 1))) r := by
  rw [named_at hvl hi, hr, hc]
  refine named_raw (inD hin _).1 (fun hm => ?_) h
  rw [← hc] at hm
  rw [List.any_eq_false] at hb
  exact hb c hm (beq_self_eq_true c)
theorem nm_hash {cz sp r h1 : List Int} {k i : Nat} {c : Int} (hvl : k = cz.length) (hi : i < cz.length) (h : Named (cz.drop (cz.length - i)) sp) (hc : c = cz.getD ((k : Int) - 1 + (i : Int) * -1).toNat 0) (h35 : c = 35) (e : h1 = sp.take 1) (hs : h1 = [] ∨ h1 = [35] ∨ h1 = [103]) (hr : r = [c] ++ sp) : Named (cz.drop (cz.length - (i + 1))) r := by
  rw [named_at hvl hi, hr, ← hc, h35]
  exact named_hash (e ▸ hs) h
theorem nm_esc {cz sp l w1 w2 r1 r2 r3 : List Int} {k i : Nat} {c : Int} (hvl : k = cz.length) (hi : i < cz.length) (hin : KBa.In cz) (hz : ∀ x ∈ cz, x ≠ 0) (h : Named (cz.drop (cz.length - i)) sp) (hc : c = cz.getD ((k : Int) - 1 + (i : Int) * -1).toNat 0) (hl : LoUp l)
    (e1 : w1 = (l.drop (c / 16).toNat).take 1) (e2 : w2 = (l.drop (c % 16).toNat).take 1) (q1 : r1 = [35] ++ w1) (q2 : r2 = r1 ++ w2) (q3 : r3 = r2 ++ sp) : Named (cz.drop (cz.length - (i + 1))) r3 := by
  subst q1 q2 q3
  rw [named_at hvl hi, ← hc]
  have hb := inD hin ((k : Int) - 1 + (i : Int) * -1).toNat
  rw [← hc] at hb
  refine named_esc hl ?_ hb.1 hb.2 e1 e2 h
  rw [hc, List.getD_eq_getElem?_getD]
  have : ((k : Int) - 1 + (i : Int) * -1).toNat < cz.length := by omega
  rw [List.getElem?_eq_getElem this]
  exact hz _ (List.getElem_mem this)
def marks : List Int := [40, 41, 92, 13, 10, 0, 255, 35, 56, 110, 47, 37, 62, 60, 48, 65]
end Mine
end
section
open PySem PySem.W PyProof.Rows PySem.Calls PySem.Spec PySem.SeqAt
namespace Mine
theorem bints_inj {b c : Array UInt8} : KBw.bInts b = KBw.bInts c ↔ b = c := by
  refine ⟨fun h => ?_, fun h => h ▸ rfl⟩
  have e : ∀ l r : List UInt8, l.map (fun c => (c.toNat : Int)) = r.map (fun c => (c.toNat : Int)) → l = r := by
    intro l
    induction l with
    | nil => intro r h; cases r with | nil => rfl | cons _ _ => cases h
    | cons x l ih =>
      intro r h
      cases r with
      | nil => cases h
      | cons y r =>
        simp only [List.map_cons, List.cons.injEq] at h
        have : x = y := UInt8.toNat_inj.mp (by omega)
        rw [this, ih r h.2]
  exact Array.toList_inj.mp (e b.toList c.toList h)
theorem eqAt_bytes {A : Around} {s : Shared} {b c : Array UInt8} {t u : Tok} : EqAt A s (.bytes b t) (.bytes c u) (decide (KBw.bInts b = KBw.bInts c)) := by
  intro prog w E Q h
  unfold eqBool
  show wpAny _ _ (if (Value.bytes b t == Value.bytes c u) = true then _ else _) Q E s
  by_cases hab : (Value.bytes b t == Value.bytes c u) = true
  · rw [if_pos hab]
    have e : b = c := by have := eq_of_beq hab; injection this
    subst e
    exact wpAny_bind (wpAny_rule (wpAny_pure (by simpa using h)))
  · rw [if_neg hab]
    refine wpAny_bind (richCompare_gives (op := .Eq) (typeIs_bytes s b t) (typeIs_bytes s c u) FB.slot_bytes_eq FB.entry_bytes_eq (FB.args_bytes_eq_2 _ _) (gives_bytes_eq b c t u) (fun x => nomatch x) (wpAny_truthy_bool ?_))
    have e : (b.toList == c.toList) = decide (KBw.bInts b = KBw.bInts c) := by
      by_cases q : b = c
      · subst q; rw [decide_eq_true rfl, beq_self_eq_true]
      · rw [decide_eq_false (fun z => q (bints_inj.mp z)), beq_eq_false_iff_ne.mpr fun z => q (Array.toList_inj.mp z)]
    rw [e]
    exact h
theorem eqAt_int {A : Around} {s : Shared} {a b : Int} {t u : Tok} : EqAt A s (.int a t) (.int b u) (decide (a = b)) := fun _ _ _ _ h => wpAny_eqBool_int (by rw [show (a == b) = decide (a = b) from by by_cases q : a = b <;> simp [q]]; exact h)
theorem eqAt_str {A : Around} {s : Shared} {a b : Str} {t u : Tok} : EqAt A s (.str a t) (.str b u) (decide (a = b)) := fun _ _ _ _ h => wpAny_eqBool_str h
section
variable {prog : Program} {w : World} {A : Around} {E : Value → Shared → Prop} {Q : Value → Shared → Prop} {s : Shared} {h₀ : Heap} {L l l2 : Addr} {news : List (Addr × Obj)} {n n2 : Nat}
theorem isTuple_of {items : Array Value} (N : News h₀ L s.heap news) (hm : (l, { cls := .type "tuple", data := .seq items n }) ∈ news) : s.heap.IsTuple l items := ⟨_, (N _ hm).1, rfl, n, rfl⟩
theorem my_in3 {r a b c : Array UInt8} {t t1 t2 t3 : Tok} (N : News h₀ L s.heap news) (hm : (l, { cls := .type "tuple", data := .seq #[.bytes a t1, .bytes b t2, .bytes c t3] n }) ∈ news)
    (h : Q (.bool (decide (KBw.bInts r = KBw.bInts a ∨ KBw.bInts r = KBw.bInts b ∨ KBw.bInts r = KBw.bInts c))) s) : wpAny (model prog w) A (compareOp .In (.bytes r t) (.ref l)) Q E s := by
  refine in_tupleAt (fun y => match y with | .bytes a _ => decide (KBw.bInts a = KBw.bInts r) | _ => false) (isTuple_of N hm) (fun y hy => ?_) ?_
  · have hy' : y ∈ [Value.bytes a t1, .bytes b t2, .bytes c t3] := by simpa using hy
    rcases List.mem_cons.mp hy' with rfl | hy'
    · exact eqAt_bytes
    rcases List.mem_cons.mp hy' with rfl | hy'
    · exact eqAt_bytes
    rw [List.mem_singleton.mp hy']
    exact eqAt_bytes
  · have e : (#[Value.bytes a t1, .bytes b t2, .bytes c t3].any fun y => match y with | .bytes a _ => decide (KBw.bInts a = KBw.bInts r) | _ => false) = decide (KBw.bInts r = KBw.bInts a ∨ KBw.bInts r = KBw.bInts b ∨ KBw.bInts r = KBw.bInts c) := by
      rw [← Array.any_toList]
      simp only [List.any_cons, List.any_nil, Bool.or_false, eq_comm (b := KBw.bInts r), Bool.decide_or]
    rw [e]; exact h
theorem all3 {P : Nat → Prop} (h0 : P 0) (h1 : P 1) (h2 : P 2) : ∀ j, j < 3 → P j
  | 0, _ => h0
  | 1, _ => h1
  | 2, _ => h2
  | j + 3, h => absurd h (by omega)
/-- two tokens that are alike -/
theorem my_eq3 {x : Str} {v v2 : Value} {k k2 : Int} {t1 t2 u1 u2 : Tok} (N : News h₀ L s.heap news) (hm : (l, { cls := .type "tuple", data := .seq #[.str x t1, v, .int k t2] n }) ∈ news) (hm2 : (l2, { cls := .type "tuple", data := .seq #[.str x u1, v2, .int k2 u2] n2 }) ∈ news)
    (hv : ∀ A s, EqAt A s v v2 true) (hk : k = k2) (hu : A.units < cLine) (h : Q (.bool true) s) : wpAny (model prog w) A (compareOp .Eq (.ref l) (.ref l2)) Q E s := by
  subst hk
  refine eq_tupleAt (e := fun _ => true) (isTuple_of N hm) (isTuple_of N hm2) hu (fun j h1 h2 => ?_) h
  have e1 : EqAt A.in1 s (.str x t1) (.str x u1) true := by have := eqAt_str (A := A.in1) (s := s) (a := x) (b := x) (t := t1) (u := u1); rwa [decide_eq_true rfl] at this
  have e3 : EqAt A.in1 s (.int k t2) (.int k u2) true := by have := eqAt_int (A := A.in1) (s := s) (a := k) (b := k) (t := t2) (u := u2); rwa [decide_eq_true rfl] at this
  match j, h1, h2 with
  | 0, _, _ => exact e1
  | 1, _, _ => exact hv _ _
  | 2, _, _ => exact e3
theorem my_ne3 {x : Str} {v v2 : Value} {k k2 : Int} {t1 t2 u1 u2 : Tok} (N : News h₀ L s.heap news) (hm : (l, { cls := .type "tuple", data := .seq #[.str x t1, v, .int k t2] n }) ∈ news) (hm2 : (l2, { cls := .type "tuple", data := .seq #[.str x u1, v2, .int k2 u2] n2 }) ∈ news)
    (hv : ∀ A s, EqAt A s v v2 true) (hk : k = k2) (hu : A.units < cLine) (h : Q (.bool false) s) : wpAny (model prog w) A (compareOp .NotEq (.ref l) (.ref l2)) Q E s := by
  subst hk
  refine RcNeAt.tuples (e := fun _ => true) (isTuple_of N hm) (isTuple_of N hm2) hu (fun j h1 h2 => ?_) prog w E Q h
  have e1 : EqAt A.in1 s (.str x t1) (.str x u1) true := by have := eqAt_str (A := A.in1) (s := s) (a := x) (b := x) (t := t1) (u := u1); rwa [decide_eq_true rfl] at this
  have e3 : EqAt A.in1 s (.int k t2) (.int k u2) true := by have := eqAt_int (A := A.in1) (s := s) (a := k) (b := k) (t := t2) (u := u2); rwa [decide_eq_true rfl] at this
  match j, h1, h2 with
  | 0, _, _ => exact e1
  | 1, _, _ => exact hv _ _
  | 2, _, _ => exact e3
theorem eqv_bytes {b c : Array UInt8} {t u : Tok} (h : KBw.bInts b = KBw.bInts c) : ∀ A s, EqAt A s (.bytes b t) (.bytes c u) true := fun A s => by
  have := eqAt_bytes (A := A) (s := s) (b := b) (c := c) (t := t) (u := u); rwa [decide_eq_true h] at this
theorem eqv_str {b c : Str} {t u : Tok} (h : b = c) : ∀ A s, EqAt A s (.str b t) (.str c u) true := fun A s => by
  have := eqAt_str (A := A) (s := s) (a := b) (b := c) (t := t) (u := u); rwa [decide_eq_true h] at this
end
end Mine
end
section
open PySem PySem.W PyProof.Rows PySem.Calls
namespace Mine
theorem bars_c {w : World} {dp un : Nat} {gd : Option (List Code)} {cn : Str} {cs : Scope} {a : Addr} {ccd : Value} {cl : List (Str × Addr)} {outer : List Env} {A₀ : Around} {base h₀ : Heap} {L : Addr} {m : Str → Option Value} {s : Shared} {Q E : Value → Shared → Prop} {mg mb : Str → Option Value} {mean : ExcName → Option Value} {loose : List Str} {news : List (Addr × Obj)}
  (B : Below A₀ base outer h₀) (F : Fr h₀ L s.heap m) (X : (Mine.hd.heap_1 w.params).In h₀) (N : News h₀ L s.heap (news)) (T : Top Mine.view loose mean mg mb h₀) (hk : cs.kind = .function) (hd : dp + 10 < recursionLimit) (hu : un + 200 < cLine) 
  (hQ : ∀ l vs n h' tk', IntsAre vs bars → AllLt l news → Fr h₀ L h' m → News h₀ L h' ((l, listOf vs.toArray n) :: news) → Q (.ref l) { s with heap := h', toks := tk' }) :
  wpAny (model Challenge.rw_nn0223_01.row.prog w) (ktrTop dp un gd cn cs L a ccd cl outer) (call (.ref 387) []) Q E s := by
  k_with_none
  w_top off
  k_with "MyPost" =>
    (dsimp only [MyPost])
  k_with "eval Call" =>
    ((with_reducible show wpAny _ _ (eval (Expr.Call (Expr.Name _ _) _ [] _) _) _ _ _); k_dflt (refine Call_ ?_))
  k_with "eval Call Attribute" =>
    ((with_reducible show wpAny _ _ (eval (Expr.Call (Expr.Attribute _ _ _) _ [] _) _) _ _ _); k_dflt (refine MethodCall_ ?_))
  k_with "compareOp In int ref" =>
    ((with_reducible show wpAny _ _ (compareOp CmpOp.In (Value.int _ _) (Value.ref 62)) _ _ _); refine in_tuple_ints (ns := [0, 9, 10, 12, 13, 32]) (tupK (Frag.In.keeps (by k_asm) (Fr.keep (by k_asm))) (by k_is)) (by repeat constructor) ?_)
  k_with "compareOp NotIn int ref" =>
    ((with_reducible show wpAny _ _ (compareOp CmpOp.NotIn (Value.int _ _) (Value.ref 62)) _ _ _); refine notin_tuple_ints (ns := [0, 9, 10, 12, 13, 32]) (tupK (Frag.In.keeps (by k_asm) (Fr.keep (by k_asm))) (by k_is)) (by repeat constructor) ?_)
  k_with "compareOp NotIn int ref" =>
    ((with_reducible show wpAny _ _ (compareOp CmpOp.NotIn (Value.int _ _) (Value.ref 63)) _ _ _); refine notin_tuple_ints (ns := [40, 41, 60, 62, 91, 93, 123, 125, 47, 37]) (tupK (Frag.In.keeps (by k_asm) (Fr.keep (by k_asm))) (by k_is)) (by repeat constructor) ?_)
  k_with "compareOp In int ref" =>
    ((with_reducible show wpAny _ _ (compareOp CmpOp.In (Value.int _ _) (Value.ref 304)) _ _ _); refine in_tuple_ints (ns := [91, 93, 123, 125]) (tupK (Frag.In.keeps (by k_asm) (Fr.keep (by k_asm))) (by k_is)) (by repeat constructor) ?_)
  k_with "call ref" =>
    ((with_reducible show wpAny _ _ (call (Value.ref 401) _) _ _ _); (rename News _ _ _ _ => kN); k_dflt (refine' draw_c (by k_asm) (by k_asm) (by k_asm) (news_pick2r kN (by tb_start) (by tb_start)) (by k_asm) (by first | exact rfl | assumption) (by ktr_room) (by ktr_units) (by k_ne) (by k_all) (by assumption) (by omega) (by omega) (by omega) (by omega) (by omega) (by omega) ?_; k_whole); intro _ _ _ _ _ _ _ _ _ _ _ _ _ _ _ _; (try clear kN); (try k_sweep))
  k_with "binaryOp Add bytes bytes" =>
    (k_dflt (refine' my_addB (by ((try simp only [List.size_toArray, List.length_cons, List.length_nil]); omega)) ?_); intro _ _ _ _ _; (rename_i hz'); (try simp only [List.size_toArray, List.length_cons, List.length_nil] at hz'); (revert hz'; intro _))
  k_with "subscriptTail" =>
    ((with_reducible show wpAny _ _ (subscriptTail _ _ (Value.bytes _ _) (Value.int _ _)) _ _ _); k_dflt (refine' KBw.item_K rfl (by (rw [KBw.ints_length]; omega)) (by omega) (by (rw [KBw.ints_length]; omega)) ?_); intro _ _ _ _)
  k_with "subscriptTail" =>
    ((with_reducible show wpAny _ _ (subscriptTail _ _ (Value.ref _) (Value.int _ _)) _ _ _); k_dflt (refine' my_pickB (vs := [_, _]) LoUp (by k_asm) (by k_mem) (by exact lohi_ok) (by omega) (by (simp only [List.length_cons, List.length_nil]; omega)) (by exact Nat.le_of_ble_eq_true rfl) ?_); intro _ _ _ _; (rename_i hb' hz'); (have hs' := lohi_size hb'); (revert hb' hz' hs'; intro _ _ _))
  k_with "subscriptTail" =>
    ((with_reducible show wpAny _ _ (subscriptTail _ _ (Value.ref _) (Value.int _ _)) _ _ _); k_dflt (refine' my_pickB (vs := [_, _, _, _]) Gap (by k_asm) (by k_mem) (by exact gap_oks) (by omega) (by (simp only [List.length_cons, List.length_nil]; omega)) (by exact Nat.le_of_ble_eq_true rfl) ?_); intro _ _ _ _; (rename_i hb' hz'); (have hs' := gap_size hb'); (revert hb' hz' hs'; intro _ _ _))
  k_with "subscriptTail" =>
    ((with_reducible show wpAny _ _ (subscriptTail _ _ (Value.ref _) (Value.int _ _)) _ _ _); k_dflt (refine' my_pickB (vs := [_, _, _, _]) Lead (by k_asm) (by k_mem) (by exact lead_ok) (by omega) (by (simp only [List.length_cons, List.length_nil]; omega)) (by exact Nat.le_of_ble_eq_true rfl) ?_); intro _ _ _ _; (rename_i hb' hz'); (have hs' := lead_size hb'); (revert hb' hz' hs'; intro _ _ _))
  k_with "subscriptTail" =>
    ((with_reducible show wpAny _ _ (subscriptTail _ _ (Value.ref _) (Value.int _ _)) _ _ _); k_dflt (refine' my_item (by k_asm) (by k_mem) (by assumption) (by omega) (by omega) (by omega) ?_); intro _; (try rw [Int.toNat_natCast]))
  k_with "binaryOp Mod int int" =>
    ((with_reducible show wpAny _ _ (binaryOp _ _ (Value.int 16 _)) _ _ _); (refine' my_mod16 ?_); intro _ _ _)
  k_with "binaryOp FloorDiv int int" =>
    ((with_reducible show wpAny _ _ (binaryOp _ _ (Value.int 16 _)) _ _ _); (refine' my_fdiv16 (by omega) (by omega) ?_); intro _ _ _)
  k_with "subscriptTail" =>
    ((with_reducible show wpAny _ _ (subscriptTail _ (Expr.Slice _ _ none _) (Value.bytes _ _) (Value.ref _)) _ _ _); (with_reducible rename Fr _ _ _ _ => zF'); (with_reducible rename News _ _ _ _ => zN'); k_dflt (refine' my_cut (s := ⟨_, _, _, _, _⟩) zF' zN' (by constructor) (by constructor) (by omega) (by omega) (by omega) ?_); intro _ _ _ _ _ _ _ _; (try k_sweep))
  k_with "subscriptTail" =>
    ((with_reducible show wpAny _ _ (subscriptTail _ (Expr.Slice none (some _) none _) (Value.bytes _ _) (Value.ref _)) _ _ _); (with_reducible rename Fr _ _ _ _ => zF'); (with_reducible rename News _ _ _ _ => zN'); k_dflt (refine' my_cut0 (s := ⟨_, _, _, _, _⟩) zF' zN' (by constructor) (by constructor) (by omega) ?_); intro _ _ _ _ _ _ _ _; (try k_sweep))
  k_with "compareOp In bytes ref" =>
    (k_dflt (refine' my_in3 (by k_asm) (by k_mem) ?_))
  k_with "compareOp In" =>
    ((with_reducible show wpAny _ _ (compareOp CmpOp.In (Value.bytes _ _) (Value.ref _)) _ _ _); k_dflt (refine' my_in3 (by k_asm) (by k_mem) ?_))
  k_with "ForPost" =>
    (dsimp only [ForPost])
  k_with "compareOp NotIn int ref" =>
    (k_dflt (refine' notin_list_ints (ns := bars) (by exact ⟨_, (News.has (by k_asm) (by k_mem)), rfl, _, rfl⟩) (by assumption) ?_))
  k_with "call builtin:len" =>
    ((with_reducible show wpAny _ _ (call (Value.builtin _) [Value.ref _]) _ _ _); k_dflt (refine' my_len (by k_asm) (by k_mem) (by omega) ?_))
  revert X; k_fill; intro X
  refine wpAny_call ?_
  k_dflt (refine' code_def (binds := ([] : List (Str × Value))) ?k1 ?k2 ?k3 ?k4 ?k5 ?kA ?kF ?kK ?k6 ?k7 ?k8 ?k9 ?kB ?_ ?c2 ?c3 ?c4 ?c5; (case kA => exact rfl); (case kF => exact rfl); (case kK => assumption); (case k1 => k_asm); (case k2 => k_asm); (case k3 => k_asm); (case k4 => k_asm); (case k5 => k_asm); (case k6 => k_is); (case k7 => k_is); (case k8 => ktr_room); (case k9 => first | exact BindsTo.of_eq rfl | exact binds_K (by k_in) rfl (by k_is) rfl rfl rfl); (case c5 => decide); (case kB => exact locs rfl); (case c2 => exact rfl); (case c3 => exact rfl); (case c4 => exact rfl))
  k_whole
  intro g' L' h' FG' F' N' B' X' T'
  (try dsimp only [List.reverse_cons, List.reverse_nil, List.nil_append, List.cons_append]); (try k_fold)
  k_steps
  refine hQ _ [_, _, _, _, _, _, _, _, _, _, _, _, _, _, _, _, _] _ _ _ ?_ (allLt_of (by assumption)) (by assumption) (by assumption)
  repeat constructor
theorem marks_c {w : World} {dp un : Nat} {gd : Option (List Code)} {cn : Str} {cs : Scope} {a : Addr} {ccd : Value} {cl : List (Str × Addr)} {outer : List Env} {A₀ : Around} {base h₀ : Heap} {L : Addr} {m : Str → Option Value} {s : Shared} {Q E : Value → Shared → Prop} {mg mb : Str → Option Value} {mean : ExcName → Option Value} {loose : List Str} {news : List (Addr × Obj)}
  (B : Below A₀ base outer h₀) (F : Fr h₀ L s.heap m) (X : (Mine.hd.heap_1 w.params).In h₀) (N : News h₀ L s.heap (news)) (T : Top Mine.view loose mean mg mb h₀) (hk : cs.kind = .function) (hd : dp + 10 < recursionLimit) (hu : un + 200 < cLine) 
  (hQ : ∀ l vs n h' tk', IntsAre vs marks → AllLt l news → Fr h₀ L h' m → News h₀ L h' ((l, listOf vs.toArray n) :: news) → Q (.ref l) { s with heap := h', toks := tk' }) :
  wpAny (model Challenge.rw_nn0223_01.row.prog w) (ktrTop dp un gd cn cs L a ccd cl outer) (call (.ref 394) []) Q E s := by
  k_with_none
  w_top off
  k_with "MyPost" =>
    (dsimp only [MyPost])
  k_with "eval Call" =>
    ((with_reducible show wpAny _ _ (eval (Expr.Call (Expr.Name _ _) _ [] _) _) _ _ _); k_dflt (refine Call_ ?_))
  k_with "eval Call Attribute" =>
    ((with_reducible show wpAny _ _ (eval (Expr.Call (Expr.Attribute _ _ _) _ [] _) _) _ _ _); k_dflt (refine MethodCall_ ?_))
  k_with "compareOp In int ref" =>
    ((with_reducible show wpAny _ _ (compareOp CmpOp.In (Value.int _ _) (Value.ref 62)) _ _ _); refine in_tuple_ints (ns := [0, 9, 10, 12, 13, 32]) (tupK (Frag.In.keeps (by k_asm) (Fr.keep (by k_asm))) (by k_is)) (by repeat constructor) ?_)
  k_with "compareOp NotIn int ref" =>
    ((with_reducible show wpAny _ _ (compareOp CmpOp.NotIn (Value.int _ _) (Value.ref 62)) _ _ _); refine notin_tuple_ints (ns := [0, 9, 10, 12, 13, 32]) (tupK (Frag.In.keeps (by k_asm) (Fr.keep (by k_asm))) (by k_is)) (by repeat constructor) ?_)
  k_with "compareOp NotIn int ref" =>
    ((with_reducible show wpAny _ _ (compareOp CmpOp.NotIn (Value.int _ _) (Value.ref 63)) _ _ _); refine notin_tuple_ints (ns := [40, 41, 60, 62, 91, 93, 123, 125, 47, 37]) (tupK (Frag.In.keeps (by k_asm) (Fr.keep (by k_asm))) (by k_is)) (by repeat constructor) ?_)
  k_with "compareOp In int ref" =>
    ((with_reducible show wpAny _ _ (compareOp CmpOp.In (Value.int _ _) (Value.ref 304)) _ _ _); refine in_tuple_ints (ns := [91, 93, 123, 125]) (tupK (Frag.In.keeps (by k_asm) (Fr.keep (by k_asm))) (by k_is)) (by repeat constructor) ?_)
  k_with "call ref" =>
    ((with_reducible show wpAny _ _ (call (Value.ref 401) _) _ _ _); (rename News _ _ _ _ => kN); k_dflt (refine' draw_c (by k_asm) (by k_asm) (by k_asm) (news_pick2r kN (by tb_start) (by tb_start)) (by k_asm) (by first | exact rfl | assumption) (by ktr_room) (by ktr_units) (by k_ne) (by k_all) (by assumption) (by omega) (by omega) (by omega) (by omega) (by omega) (by omega) ?_; k_whole); intro _ _ _ _ _ _ _ _ _ _ _ _ _ _ _ _; (try clear kN); (try k_sweep))
  k_with "binaryOp Add bytes bytes" =>
    (k_dflt (refine' my_addB (by ((try simp only [List.size_toArray, List.length_cons, List.length_nil]); omega)) ?_); intro _ _ _ _ _; (rename_i hz'); (try simp only [List.size_toArray, List.length_cons, List.length_nil] at hz'); (revert hz'; intro _))
  k_with "subscriptTail" =>
    ((with_reducible show wpAny _ _ (subscriptTail _ _ (Value.bytes _ _) (Value.int _ _)) _ _ _); k_dflt (refine' KBw.item_K rfl (by (rw [KBw.ints_length]; omega)) (by omega) (by (rw [KBw.ints_length]; omega)) ?_); intro _ _ _ _)
  k_with "subscriptTail" =>
    ((with_reducible show wpAny _ _ (subscriptTail _ _ (Value.ref _) (Value.int _ _)) _ _ _); k_dflt (refine' my_pickB (vs := [_, _]) LoUp (by k_asm) (by k_mem) (by exact lohi_ok) (by omega) (by (simp only [List.length_cons, List.length_nil]; omega)) (by exact Nat.le_of_ble_eq_true rfl) ?_); intro _ _ _ _; (rename_i hb' hz'); (have hs' := lohi_size hb'); (revert hb' hz' hs'; intro _ _ _))
  k_with "subscriptTail" =>
    ((with_reducible show wpAny _ _ (subscriptTail _ _ (Value.ref _) (Value.int _ _)) _ _ _); k_dflt (refine' my_pickB (vs := [_, _, _, _]) Gap (by k_asm) (by k_mem) (by exact gap_oks) (by omega) (by (simp only [List.length_cons, List.length_nil]; omega)) (by exact Nat.le_of_ble_eq_true rfl) ?_); intro _ _ _ _; (rename_i hb' hz'); (have hs' := gap_size hb'); (revert hb' hz' hs'; intro _ _ _))
  k_with "subscriptTail" =>
    ((with_reducible show wpAny _ _ (subscriptTail _ _ (Value.ref _) (Value.int _ _)) _ _ _); k_dflt (refine' my_pickB (vs := [_, _, _, _]) Lead (by k_asm) (by k_mem) (by exact lead_ok) (by omega) (by (simp only [List.length_cons, List.length_nil]; omega)) (by exact Nat.le_of_ble_eq_true rfl) ?_); intro _ _ _ _; (rename_i hb' hz'); (have hs' := lead_size hb'); (revert hb' hz' hs'; intro _ _ _))
  k_with "subscriptTail" =>
    ((with_reducible show wpAny _ _ (subscriptTail _ _ (Value.ref _) (Value.int _ _)) _ _ _); k_dflt (refine' my_item (by k_asm) (by k_mem) (by assumption) (by omega) (by omega) (by omega) ?_); intro _; (try rw [Int.toNat_natCast]))
  k_with "binaryOp Mod int int" =>
    ((with_reducible show wpAny _ _ (binaryOp _ _ (Value.int 16 _)) _ _ _); (refine' my_mod16 ?_); intro _ _ _)
  k_with "binaryOp FloorDiv int int" =>
    ((with_reducible show wpAny _ _ (binaryOp _ _ (Value.int 16 _)) _ _ _); (refine' my_fdiv16 (by omega) (by omega) ?_); intro _ _ _)
  k_with "subscriptTail" =>
    ((with_reducible show wpAny _ _ (subscriptTail _ (Expr.Slice _ _ none _) (Value.bytes _ _) (Value.ref _)) _ _ _); (with_reducible rename Fr _ _ _ _ => zF'); (with_reducible rename News _ _ _ _ => zN'); k_dflt (refine' my_cut (s := ⟨_, _, _, _, _⟩) zF' zN' (by constructor) (by constructor) (by omega) (by omega) (by omega) ?_); intro _ _ _ _ _ _ _ _; (try k_sweep))
  k_with "subscriptTail" =>
    ((with_reducible show wpAny _ _ (subscriptTail _ (Expr.Slice none (some _) none _) (Value.bytes _ _) (Value.ref _)) _ _ _); (with_reducible rename Fr _ _ _ _ => zF'); (with_reducible rename News _ _ _ _ => zN'); k_dflt (refine' my_cut0 (s := ⟨_, _, _, _, _⟩) zF' zN' (by constructor) (by constructor) (by omega) ?_); intro _ _ _ _ _ _ _ _; (try k_sweep))
  k_with "compareOp In bytes ref" =>
    (k_dflt (refine' my_in3 (by k_asm) (by k_mem) ?_))
  k_with "compareOp In" =>
    ((with_reducible show wpAny _ _ (compareOp CmpOp.In (Value.bytes _ _) (Value.ref _)) _ _ _); k_dflt (refine' my_in3 (by k_asm) (by k_mem) ?_))
  k_with "ForPost" =>
    (dsimp only [ForPost])
  k_with "compareOp NotIn int ref" =>
    (k_dflt (refine' notin_list_ints (ns := bars) (by exact ⟨_, (News.has (by k_asm) (by k_mem)), rfl, _, rfl⟩) (by assumption) ?_))
  k_with "call builtin:len" =>
    ((with_reducible show wpAny _ _ (call (Value.builtin _) [Value.ref _]) _ _ _); k_dflt (refine' my_len (by k_asm) (by k_mem) (by omega) ?_))
  k_with "call ref" =>
    ((with_reducible show wpAny _ _ (call (Value.ref 387) _) _ _ _); (rename News _ _ _ _ => kN); k_dflt (refine' bars_c (by k_asm) (by k_asm) (by k_asm) kN (by k_asm) (by first | exact rfl | assumption) (by ktr_room) (by ktr_units)  ?_; k_whole); intro _ _ _ _ _ _ _ _ _; (try clear kN); (rename_i hi' hl' F' N'); (simp only [AllLt] at hl'); (have hml' := hi'.length); (first | rw [show marks.length = 16 from rfl] at hml' | rw [show bars.length = 17 from rfl] at hml'); (revert hi' hl' F' N' hml'; intro _ _ _ _ _); (try k_sweep))
  refine wpAny_call ?_
  k_dflt (refine' code_def (binds := ([] : List (Str × Value))) ?k1 ?k2 ?k3 ?k4 ?k5 ?kA ?kF ?kK ?k6 ?k7 ?k8 ?k9 ?kB ?_ ?c2 ?c3 ?c4 ?c5; (case kA => exact rfl); (case kF => exact rfl); (case kK => assumption); (case k1 => k_asm); (case k2 => k_asm); (case k3 => k_asm); (case k4 => k_asm); (case k5 => k_asm); (case k6 => k_is); (case k7 => k_is); (case k8 => ktr_room); (case k9 => first | exact BindsTo.of_eq rfl | exact binds_K (by k_in) rfl (by k_is) rfl rfl rfl); (case c5 => decide); (case kB => exact locs rfl); (case c2 => exact rfl); (case c3 => exact rfl); (case c4 => exact rfl))
  k_whole
  intro g' L' h' FG' F' N' B' X' T'
  (try dsimp only [List.reverse_cons, List.reverse_nil, List.nil_append, List.cons_append]); (try k_fold)
  k_steps
  refine hQ _ [_, _, _, _, _, _, _, _, _, _, _, _, _, _, _, _] _ _ _ ?_ (allLt_of (by assumption)) (by assumption) (by assumption)
  repeat constructor
theorem law_named_c {w : World} {dp un : Nat} {gd : Option (List Code)} {cn : Str} {cs : Scope} {a : Addr} {ccd : Value} {cl : List (Str × Addr)} {outer : List Env} {A₀ : Around} {base h₀ : Heap} {L : Addr} {m : Str → Option Value} {s : Shared} {Q E : Value → Shared → Prop} {mg mb : Str → Option Value} {mean : ExcName → Option Value} {loose : List Str} {pn inn : Addr} {place great : Int} {tp tg : Tok} {n1 n2 : Nat} {cells : List Value} {cs_ : List Int} {rest : List (Addr × Obj)} {cd : Addr} {cvs : List Value} {n3 : Nat} {cz : List Int}
  (B : Below A₀ base outer h₀) (F : Fr h₀ L s.heap m) (X : (Mine.hd.heap_1 w.params).In h₀) (N : News h₀ L s.heap ((pn, listOf [.ref inn, .int place tp, .int great tg].toArray n1) :: (inn, listOf cells.toArray n2) :: (cd, listOf cvs.toArray n3) :: rest)) (T : Top Mine.view loose mean mg mb h₀) (hk : cs.kind = .function) (hd : dp + 40 < recursionLimit) (hu : un + 2000 < cLine) (hpi : @Ne Nat pn inn) (hpr : ∀ p ∈ rest, p.1 ≠ pn) (hcs : IntsAre cells cs_) (hcl : cs_.length ≤ 1000) (hpl : 0 ≤ place) (hpm : place < 90000) (hgr : 0 ≤ great) (hcz : IntsAre cvs cz) (hczi : KBa.In cz) (hczl : cz.length ≤ 8) (hcn : @Ne Nat cd pn) (hnz : ∀ x ∈ cz, x ≠ 0)
  (hQ : ∀ (b : Array UInt8) t place' great' tp' tg' n' h' tk', Named cz (KBw.bInts b) → b.size ≤ 24 → 0 ≤ place' → place' ≤ place + 16 → 0 ≤ great' → Fr h₀ L h' m → News h₀ L h' ((pn, listOf [.ref inn, .int place' tp', .int great' tg'].toArray n') :: (inn, listOf cells.toArray n2) :: (cd, listOf cvs.toArray n3) :: rest) → Q (.bytes b t) { s with heap := h', toks := tk' }) :
  wpAny (model Challenge.rw_nn0223_01.row.prog w) (ktrTop dp un gd cn cs L a ccd cl outer) (call (.ref 434) [.ref pn, .ref cd]) Q E s := by
  k_with_none
  w_top off
  k_with "MyPost" =>
    (dsimp only [MyPost])
  k_with "eval Call" =>
    ((with_reducible show wpAny _ _ (eval (Expr.Call (Expr.Name _ _) _ [] _) _) _ _ _); k_dflt (refine Call_ ?_))
  k_with "eval Call Attribute" =>
    ((with_reducible show wpAny _ _ (eval (Expr.Call (Expr.Attribute _ _ _) _ [] _) _) _ _ _); k_dflt (refine MethodCall_ ?_))
  k_with "compareOp In int ref" =>
    ((with_reducible show wpAny _ _ (compareOp CmpOp.In (Value.int _ _) (Value.ref 62)) _ _ _); refine in_tuple_ints (ns := [0, 9, 10, 12, 13, 32]) (tupK (Frag.In.keeps (by k_asm) (Fr.keep (by k_asm))) (by k_is)) (by repeat constructor) ?_)
  k_with "compareOp NotIn int ref" =>
    ((with_reducible show wpAny _ _ (compareOp CmpOp.NotIn (Value.int _ _) (Value.ref 62)) _ _ _); refine notin_tuple_ints (ns := [0, 9, 10, 12, 13, 32]) (tupK (Frag.In.keeps (by k_asm) (Fr.keep (by k_asm))) (by k_is)) (by repeat constructor) ?_)
  k_with "compareOp NotIn int ref" =>
    ((with_reducible show wpAny _ _ (compareOp CmpOp.NotIn (Value.int _ _) (Value.ref 63)) _ _ _); refine notin_tuple_ints (ns := [40, 41, 60, 62, 91, 93, 123, 125, 47, 37]) (tupK (Frag.In.keeps (by k_asm) (Fr.keep (by k_asm))) (by k_is)) (by repeat constructor) ?_)
  k_with "compareOp In int ref" =>
    ((with_reducible show wpAny _ _ (compareOp CmpOp.In (Value.int _ _) (Value.ref 304)) _ _ _); refine in_tuple_ints (ns := [91, 93, 123, 125]) (tupK (Frag.In.keeps (by k_asm) (Fr.keep (by k_asm))) (by k_is)) (by repeat constructor) ?_)
  k_with "call ref" =>
    ((with_reducible show wpAny _ _ (call (Value.ref 401) _) _ _ _); (rename News _ _ _ _ => kN); k_dflt (refine' draw_c (by k_asm) (by k_asm) (by k_asm) (news_pick2r kN (by tb_start) (by tb_start)) (by k_asm) (by first | exact rfl | assumption) (by ktr_room) (by ktr_units) (by k_ne) (by k_all) (by assumption) (by omega) (by omega) (by omega) (by omega) (by omega) (by omega) ?_; k_whole); intro _ _ _ _ _ _ _ _ _ _ _ _ _ _ _ _; (try clear kN); (try k_sweep))
  k_with "binaryOp Add bytes bytes" =>
    (k_dflt (refine' my_addB (by ((try simp only [List.size_toArray, List.length_cons, List.length_nil]); omega)) ?_); intro _ _ _ _ _; (rename_i hz'); (try simp only [List.size_toArray, List.length_cons, List.length_nil] at hz'); (revert hz'; intro _))
  k_with "subscriptTail" =>
    ((with_reducible show wpAny _ _ (subscriptTail _ _ (Value.bytes _ _) (Value.int _ _)) _ _ _); k_dflt (refine' KBw.item_K rfl (by (rw [KBw.ints_length]; omega)) (by omega) (by (rw [KBw.ints_length]; omega)) ?_); intro _ _ _ _)
  k_with "subscriptTail" =>
    ((with_reducible show wpAny _ _ (subscriptTail _ _ (Value.ref _) (Value.int _ _)) _ _ _); k_dflt (refine' my_pickB (vs := [_, _]) LoUp (by k_asm) (by k_mem) (by exact lohi_ok) (by omega) (by (simp only [List.length_cons, List.length_nil]; omega)) (by exact Nat.le_of_ble_eq_true rfl) ?_); intro _ _ _ _; (rename_i hb' hz'); (have hs' := lohi_size hb'); (revert hb' hz' hs'; intro _ _ _))
  k_with "subscriptTail" =>
    ((with_reducible show wpAny _ _ (subscriptTail _ _ (Value.ref _) (Value.int _ _)) _ _ _); k_dflt (refine' my_pickB (vs := [_, _, _, _]) Gap (by k_asm) (by k_mem) (by exact gap_oks) (by omega) (by (simp only [List.length_cons, List.length_nil]; omega)) (by exact Nat.le_of_ble_eq_true rfl) ?_); intro _ _ _ _; (rename_i hb' hz'); (have hs' := gap_size hb'); (revert hb' hz' hs'; intro _ _ _))
  k_with "subscriptTail" =>
    ((with_reducible show wpAny _ _ (subscriptTail _ _ (Value.ref _) (Value.int _ _)) _ _ _); k_dflt (refine' my_pickB (vs := [_, _, _, _]) Lead (by k_asm) (by k_mem) (by exact lead_ok) (by omega) (by (simp only [List.length_cons, List.length_nil]; omega)) (by exact Nat.le_of_ble_eq_true rfl) ?_); intro _ _ _ _; (rename_i hb' hz'); (have hs' := lead_size hb'); (revert hb' hz' hs'; intro _ _ _))
  k_with "subscriptTail" =>
    ((with_reducible show wpAny _ _ (subscriptTail _ _ (Value.ref _) (Value.int _ _)) _ _ _); k_dflt (refine' my_item (by k_asm) (by k_mem) (by assumption) (by omega) (by omega) (by omega) ?_); intro _; (try rw [Int.toNat_natCast]))
  k_with "binaryOp Mod int int" =>
    ((with_reducible show wpAny _ _ (binaryOp _ _ (Value.int 16 _)) _ _ _); (refine' my_mod16 ?_); intro _ _ _)
  k_with "binaryOp FloorDiv int int" =>
    ((with_reducible show wpAny _ _ (binaryOp _ _ (Value.int 16 _)) _ _ _); (refine' my_fdiv16 (by omega) (by omega) ?_); intro _ _ _)
  k_with "subscriptTail" =>
    ((with_reducible show wpAny _ _ (subscriptTail _ (Expr.Slice _ _ none _) (Value.bytes _ _) (Value.ref _)) _ _ _); (with_reducible rename Fr _ _ _ _ => zF'); (with_reducible rename News _ _ _ _ => zN'); k_dflt (refine' my_cut (s := ⟨_, _, _, _, _⟩) zF' zN' (by constructor) (by constructor) (by omega) (by omega) (by omega) ?_); intro _ _ _ _ _ _ _ _; (try k_sweep))
  k_with "subscriptTail" =>
    ((with_reducible show wpAny _ _ (subscriptTail _ (Expr.Slice none (some _) none _) (Value.bytes _ _) (Value.ref _)) _ _ _); (with_reducible rename Fr _ _ _ _ => zF'); (with_reducible rename News _ _ _ _ => zN'); k_dflt (refine' my_cut0 (s := ⟨_, _, _, _, _⟩) zF' zN' (by constructor) (by constructor) (by omega) ?_); intro _ _ _ _ _ _ _ _; (try k_sweep))
  k_with "compareOp In bytes ref" =>
    (k_dflt (refine' my_in3 (by k_asm) (by k_mem) ?_))
  k_with "compareOp In" =>
    ((with_reducible show wpAny _ _ (compareOp CmpOp.In (Value.bytes _ _) (Value.ref _)) _ _ _); k_dflt (refine' my_in3 (by k_asm) (by k_mem) ?_))
  k_with "ForPost" =>
    (dsimp only [ForPost])
  k_with "compareOp NotIn int ref" =>
    (k_dflt (refine' notin_list_ints (ns := bars) (by exact ⟨_, (News.has (by k_asm) (by k_mem)), rfl, _, rfl⟩) (by assumption) ?_))
  k_with "call builtin:len" =>
    ((with_reducible show wpAny _ _ (call (Value.builtin _) [Value.ref _]) _ _ _); k_dflt (refine' my_len (by k_asm) (by k_mem) (by omega) ?_))
  k_with "call ref" =>
    ((with_reducible show wpAny _ _ (call (Value.ref 387) _) _ _ _); (rename News _ _ _ _ => kN); k_dflt (refine' bars_c (by k_asm) (by k_asm) (by k_asm) kN (by k_asm) (by first | exact rfl | assumption) (by ktr_room) (by ktr_units)  ?_; k_whole); intro _ _ _ _ _ _ _ _ _; (try clear kN); (rename_i hi' hl' F' N'); (simp only [AllLt] at hl'); (have hml' := hi'.length); (first | rw [show marks.length = 16 from rfl] at hml' | rw [show bars.length = 17 from rfl] at hml'); (revert hi' hl' F' N' hml'; intro _ _ _ _ _); (try k_sweep))
  k_with "call ref" =>
    ((with_reducible show wpAny _ _ (call (Value.ref 394) _) _ _ _); (rename News _ _ _ _ => kN); k_dflt (refine' marks_c (by k_asm) (by k_asm) (by k_asm) kN (by k_asm) (by first | exact rfl | assumption) (by ktr_room) (by ktr_units)  ?_; k_whole); intro _ _ _ _ _ _ _ _ _; (try clear kN); (rename_i hi' hl' F' N'); (simp only [AllLt] at hl'); (have hml' := hi'.length); (first | rw [show marks.length = 16 from rfl] at hml' | rw [show bars.length = 17 from rfl] at hml'); (revert hi' hl' F' N' hml'; intro _ _ _ _ _); (try k_sweep))
  refine wpAny_call ?_
  k_dflt (refine' code_def (binds := [((Str.ofString "pen"), .ref pn), ((Str.ofString "codes"), .ref cd)]) ?k1 ?k2 ?k3 ?k4 ?k5 ?kA ?kF ?kK ?k6 ?k7 ?k8 ?k9 ?kB ?_ ?c2 ?c3 ?c4 ?c5; (case kA => exact rfl); (case kF => exact rfl); (case kK => assumption); (case k1 => k_asm); (case k2 => k_asm); (case k3 => k_asm); (case k4 => k_asm); (case k5 => k_asm); (case k6 => k_is); (case k7 => k_is); (case k8 => ktr_room); (case k9 => first | exact BindsTo.of_eq rfl | exact binds_K (by k_in) rfl (by k_is) rfl rfl rfl); (case c5 => decide); (case kB => exact locs rfl); (case c2 => exact rfl); (case c3 => exact rfl); (case c4 => exact rfl))
  k_whole
  intro g' L' h' FG' F' N' B' X' T'
  (try dsimp only [List.reverse_cons, List.reverse_nil, List.nil_append, List.cons_append]); (try k_fold)
  have hvl := hcz.length
  k_with "pyIter ref" =>
    (rename Fr _ _ _ _ => lF'); (rename News _ _ _ _ => lN'); (rename IsRange _ _ _ _ _ _ _ _ => hrg)
    with_unfolding_all refine' my_for (σ := Array UInt8 × Tok × Int × Tok × Int × Tok × Nat) (n := cz.length) (fun x u y => if y = Str.ofString "place" then u y else if y = Str.ofString "code" then u y else if y = Str.ofString "alphabet" then u y else if y = Str.ofString "spelt" then some (.bytes x.1 x.2.1) else List.lookup y [(Str.ofString "pen", Value.ref pn), (Str.ofString "codes", Value.ref cd)].reverse) (fun x => (pn, listOf [.ref inn, .int x.2.2.1 x.2.2.2.1, .int x.2.2.2.2.1 x.2.2.2.2.2.1].toArray x.2.2.2.2.2.2) :: (inn, listOf cells.toArray n2) :: (cd, listOf cvs.toArray n3) :: rest) (fun i x => Named (cz.drop (cz.length - i)) (KBw.bInts x.1) ∧ x.1.size ≤ 3 * i ∧ 0 ≤ x.2.2.1 ∧ x.2.2.1 ≤ place + 2 * i ∧ 0 ≤ x.2.2.2.2.1) (#[], _, place, tp, great, tg, n1) rfl hrg (small_down (k := cz.length) (by omega) (by omega)) (size_down (k := cz.length) (by omega)) lF' lN' ?jm ?jl (fun _ => rfl) ?jz ?jt ?jf
    (case jm => tb_rel)
    (case jl => kcj_in)
    (case jz => exact ⟨by rw [Nat.sub_zero, List.drop_length]; k_dflt (exact Named.nil), by k_dflt (exact Nat.le_refl _), hpl, by dsimp only; omega, hgr⟩)
    (case' jf =>
       (rintro ⟨b, tk1, pl1, tp1, gr1, tg1, nn1⟩ u h tk ⟨hz1, hz2, hz3, hz4, hz5⟩ lF lN
        dsimp only at lF lN hz1 hz2 hz3 hz4 hz5
        k_dflt (replace lF := show Fr g' L' h _ from lF)
        k_dflt (replace lN := show News g' L' h _ from lN)
        (try clear lF' lN')))
    (case' jt =>
       (rintro i ⟨b, tk1, pl1, tp1, gr1, tg1, nn1⟩ u I t h tk hi ⟨hj1, hj2, hj3, hj4, hj5⟩ hI lF lN
        (try clear lF' lN')
        dsimp only at lF lN hj1 hj2 hj3 hj4 hj5 hI ⊢
        k_dflt (replace lF := show Fr g' L' h _ from lF)
        k_dflt (replace lN := show News g' L' h _ from lN)
        have hci := inD hczi ((cvs.length : Int) - 1 + (i : Int) * -1).toNat
        have hI1 : @Ne Nat pn I := by k_dflt (exact hI _ (List.Mem.head _))))
  k_steps
  all_goals (rename News _ _ _ _ => nE)
  all_goals first
      | (refine hQ _ _ _ _ _ _ _ _ _ (by rw [Nat.sub_self, List.drop_zero] at hz1; exact hz1) (by omega) ?_ ?_ ?_ (by assumption) (news_sub (by assumption) (by kcj_in)) <;> omega)
      | (refine' for_end (_, _, _, _, _, _, _) ?eF1 ?eN1 ?em1 ?en1 ?ej1; (case eF1 => assumption); (case eN1 => assumption); (case em1 => (intro y; (by_cases q0 : y = (Str.ofString "spelt"); (subst q0; rfl)); (by_cases q1 : y = (Str.ofString "alphabet"); (subst q1; rfl)); (by_cases q2 : y = (Str.ofString "code"); (subst q2; rfl)); (by_cases q3 : y = (Str.ofString "place"); (subst q3; rfl)); simp only [q0, q1, q2, q3, if_false, reduceIte])); (case en1 => kcj_in); (case ej1 => exact ⟨(by rename KBw.bInts _ = _ ++ KBw.bInts b => hr; rw [okc (by assumption)] at hr; exact nm_raw hvl hi hczi hj1 rfl (by assumption) hr), by dsimp only; omega, by assumption, by dsimp only; omega, by assumption⟩))
      | (refine' for_end (_, _, _, _, _, _, _) ?eF2 ?eN2 ?em2 ?en2 ?ej2; (case eF2 => assumption); (case eN2 => assumption); (case em2 => (intro y; (by_cases q0 : y = (Str.ofString "spelt"); (subst q0; rfl)); (by_cases q1 : y = (Str.ofString "alphabet"); (subst q1; rfl)); (by_cases q2 : y = (Str.ofString "code"); (subst q2; rfl)); (by_cases q3 : y = (Str.ofString "place"); (subst q3; rfl)); simp only [q0, q1, q2, q3, if_false, reduceIte])); (case en2 => kcj_in); (case ej2 => exact ⟨(by rename KBw.bInts _ = _ ++ KBw.bInts b => hr; rw [okc (by assumption)] at hr; exact nm_hash hvl hi hj1 rfl (by assumption) (by assumption) (by assumption) hr), by dsimp only; omega, by assumption, by dsimp only; omega, by assumption⟩))
      | (refine' for_end (_, _, _, _, _, _, _) ?eF3 ?eN3 ?em3 ?en3 ?ej3; (case eF3 => assumption); (case eN3 => assumption); (case em3 => (intro y; (by_cases q0 : y = (Str.ofString "spelt"); (subst q0; rfl)); (by_cases q1 : y = (Str.ofString "alphabet"); (subst q1; rfl)); (by_cases q2 : y = (Str.ofString "code"); (subst q2; rfl)); (by_cases q3 : y = (Str.ofString "place"); (subst q3; rfl)); simp only [q0, q1, q2, q3, if_false, reduceIte])); (case en3 => kcj_in); (case ej3 => exact ⟨(by rename LoUp _ => hLU; exact nm_esc hvl hi hczi hnz hj1 rfl hLU (by assumption) (by assumption) (by assumption) (by assumption) (by assumption)), by dsimp only; omega, by assumption, by dsimp only; omega, by assumption⟩))
end Mine
end
section
open PySem PySem.W PyProof.Rows PySem.Calls PySem.Spec
namespace Mine
/-- the call of f with c throws a SyntaxFault of the place pl -/
def RaisesAt (w : World) (f c : Addr) (pl : Int) (news rest : List (Addr × Obj)) : Prop :=
  ∀ {dp un : Nat} {gd : Option (List Code)} {cn : Str} {cs : Scope} {a : Addr} {ccd : Value} {cl : List (Str × Addr)} {outer : List Env} {A₀ : Around} {base h₀ : Heap} {L : Addr} {m : Str → Option Value} {s : Shared} {Q E : Value → Shared → Prop} {mg mb : Str → Option Value} {mean : ExcName → Option Value} {loose : List Str}
   (B : Below A₀ base outer h₀) (F : Fr h₀ L s.heap m) (X : (Mine.hd.heap_1 w.params).In h₀) (N : News h₀ L s.heap news) (T : Top Mine.view loose mean mg mb h₀) (hk : cs.kind = .function) (hd : dp + 80 < recursionLimit) (hu : un + 2000 < cLine)
   (hE : ∀ e g₂ h' tk', Fr h₀ L g₂ m → RaisedD base g₂ (envX cn cs L a ccd cl :: outer) e pl rest h' → g₂.UpToSlots h' → E (.ref e) { s with heap := h', toks := tk' }),
   wpAny (model Challenge.rw_nn0223_01.row.prog w) (ktrTop dp un gd cn cs L a ccd cl outer) (call (.ref f) [.ref c]) Q E s
section
variable {prog : Program} {w : World} {A : Around} {E : Value → Shared → Prop} {s : Shared} {h₀ : Heap} {L e dx : Addr} {m : Str → Option Value} {news : List (Addr × Obj)} {o oe : Obj} {pl : Int}
/-- the place that a caught SyntaxFault tells -/
theorem syn_get {expr : Bool} {Q : Value → Shared → Prop} (F : Fr h₀ L s.heap m) (X₀ : (Mine.hd.heap_1 w.params).In h₀) (N : News h₀ L s.heap ((dx, o) :: (e, oe) :: news)) (hs : SynDict pl o) (hh : Held59 dx oe) (hd : ∃ vs, oe.data = .fields vs) (h : ∀ t, Q (.int pl t) { s with toks := s.toks + 1 }) :
    wpAny (model prog w) A (getAttr (.ref e) (Str.ofString "at") expr) Q E s := by
  obtain ⟨H1, H2, k1, k2, what, t1, t2, rfl⟩ := hs
  obtain ⟨vs, hv⟩ := hd
  have I : PySem.W.InstAt s.heap e oe 59 (some (dictOf [⟨H1, .str (Str.ofString "what") k1, .str what t1⟩, ⟨H2, .str (Str.ofString "at") k2, .int pl t2⟩] 2)) :=
    ⟨(N _ (.tail _ (.head _))).1, hh.1, by unfold notCls; rw [hv], by rw [hh.2]; exact (N _ (.head _)).1⟩
  have hg : findIn (Mine.hd.heap_1 w.params) (.ref 59) "__getattribute__" = some (some (.builtin "BaseException.__getattribute__")) := by with_unfolding_all rfl
  have hgh : findIn (Mine.hd.heap_1 w.params) (.ref 59) "__getattr__" = some none := by with_unfolding_all rfl
  have hdi : hasDictIn (Mine.hd.heap_1 w.params) 59 = true := by with_unfolding_all rfl
  have ha : findIn (Mine.hd.heap_1 w.params) (.ref 59) (Str.ofString "at") = some none := by with_unfolding_all rfl
  have X := X₀.keeps F.keep
  obtain ⟨hp, g, d, tk, os⟩ := s
  dsimp only at I X
  have L0 : Looks (model prog w) hp (typeOf (.ref e)) (.ref 59) := PySem.W.InstAt.type I
  have L1 := looks_findIn (M := model prog w) X hg
  have L2 := looks_findIn (M := model prog w) X hgh
  have L3 := looks_find (M := model prog w) X I (findObj_own hdi ha rfl rfl)
  have L4 : Looks (model prog w) hp (isInstance (.ref e) (.type "BaseException")) true := L0.andThen (looks_subIn X (by with_unfolding_all rfl))
  have f3 := PySem.F.excAttr_ValueError.ga.bind (.ref e)
  have hx0 : (expr && onTheHeap (Value.builtin "BaseException.__getattribute__")) = false := by cases expr <;> rfl
  have hx2 : (Value.builtin "BaseException.__getattribute__" == Value.builtin "object.__getattribute__") = false := by decide +kernel
  have hx1 : (onTheHeap (Value.ref 59) && Value.builtin "BaseException.__getattribute__" == Value.builtin "object.__getattribute__") = false := by rw [hx2]; rfl
  have hk : builtinKind "BaseException.__getattribute__" = some .slot := by decide +kernel
  have hsplit : splitId "BaseException.__getattribute__" = some ("BaseException", "__getattribute__") := by decide +kernel
  have hargs : ∀ a b, argsOk "BaseException.__getattribute__" ⟨[a, b], []⟩ := PySem.F.args_bexc_ga
  unfold getAttr getAttrBy
  refine wpAny_bind (wpAny_mkText (wpAny_holding (wpAny_bind (L0.at (wpAny_bind (L1.at ?_))))))
  dsimp only
  rw [hx1, if_neg (by decide)]
  unfold getAttrByItsOwn
  refine wpAny_bind ?_
  show wpAny _ _ (typeLookup (.ref 59) "__getattr__") _ _ _
  refine L2.at (wpAny_bind (wpAny_attempt (wpAny_holding ?_)))
  unfold callGetattribute
  rw [hx0, if_neg (by decide)]
  unfold boundAndCalled
  refine wpAny_bind ?_
  rw [f3]
  refine wpAny_pure (wpAny_call ?_)
  refine codeAny_call_builtin PySem.F.excAttr_ValueError.ga.plain PySem.F.entry_bexc_ga ?_
  simp only [checkBuiltinCall, hk, hsplit]
  refine wpAny_bind (L4.at ?_)
  have := hargs (.ref e) (.str (Str.ofString "at") tk)
  have hx := I.at_
  have hc := I.cls
  repeat (first | assumption | (with_reducible refine wpAny_loadPart_at hx ?_; rw [hc]) | with_reducible refine L3.at ?_ | wp_step)
  exact h t2
end
end Mine
end
section
open PySem PySem.W PyProof.Rows PySem.Calls
namespace Mine
theorem fault_c {w : World} {dp un : Nat} {gd : Option (List Code)} {cn : Str} {cs : Scope} {a : Addr} {ccd : Value} {outer : List Env} {A₀ : Around} {base h₀ : Heap} {L : Addr} {m : Str → Option Value} {s : Shared} {Q E : Value → Shared → Prop} {mg mb : Str → Option Value} {mean : ExcName → Option Value} {loose : List Str} {g₀ : Heap} {c : Addr} {pl : Int} {news rest : List (Addr × Obj)}
  (B : Below A₀ base outer h₀) (F : Fr h₀ L s.heap m) (X : (Mine.hd.heap_1 w.params).In h₀) (N : News h₀ L s.heap (news)) (T : Top Mine.view loose mean mg mb h₀) (hk : cs.kind = .function) (hd : dp + 100 < recursionLimit) (hu : un + 3000 < cLine) (XB : (Mine.hd.heap_1 w.params).In base) (TB : Top Mine.view loose mean mg mb base) (D : KtsDicts (outer.filterMap (·.frame)) h₀) (T0 : KtsTurn (outer.filterMap (·.frame)) g₀ h₀)
  (hR : RaisesAt w 373 c pl news rest) (hQ : ∀ t h' h₁ tk', KtsTurn (outer.filterMap (·.frame)) g₀ h₁ → Fr h₁ L h' m → News h₁ L h' rest → Below A₀ base outer h₁ → (Mine.hd.heap_1 w.params).In h₁ → Top Mine.view loose mean mg mb h₁ → KtsDicts (outer.filterMap (·.frame)) h₁ → Q (.int pl t) { s with heap := h', toks := tk' }) :
  wpAny (model Challenge.rw_nn0223_01.row.prog w) (ktrTop dp un gd cn cs L a ccd [] outer) (call (.ref 441) [.ref c]) Q E s := by
  k_with_none
  w_top off
  k_with "MyPost" =>
    (dsimp only [MyPost])
  k_with "eval Call" =>
    ((with_reducible show wpAny _ _ (eval (Expr.Call (Expr.Name _ _) _ [] _) _) _ _ _); k_dflt (refine Call_ ?_))
  k_with "eval Call Attribute" =>
    ((with_reducible show wpAny _ _ (eval (Expr.Call (Expr.Attribute _ _ _) _ [] _) _) _ _ _); k_dflt (refine MethodCall_ ?_))
  k_with "compareOp In int ref" =>
    ((with_reducible show wpAny _ _ (compareOp CmpOp.In (Value.int _ _) (Value.ref 62)) _ _ _); refine in_tuple_ints (ns := [0, 9, 10, 12, 13, 32]) (tupK (Frag.In.keeps (by k_asm) (Fr.keep (by k_asm))) (by k_is)) (by repeat constructor) ?_)
  k_with "compareOp NotIn int ref" =>
    ((with_reducible show wpAny _ _ (compareOp CmpOp.NotIn (Value.int _ _) (Value.ref 62)) _ _ _); refine notin_tuple_ints (ns := [0, 9, 10, 12, 13, 32]) (tupK (Frag.In.keeps (by k_asm) (Fr.keep (by k_asm))) (by k_is)) (by repeat constructor) ?_)
  k_with "compareOp NotIn int ref" =>
    ((with_reducible show wpAny _ _ (compareOp CmpOp.NotIn (Value.int _ _) (Value.ref 63)) _ _ _); refine notin_tuple_ints (ns := [40, 41, 60, 62, 91, 93, 123, 125, 47, 37]) (tupK (Frag.In.keeps (by k_asm) (Fr.keep (by k_asm))) (by k_is)) (by repeat constructor) ?_)
  k_with "compareOp In int ref" =>
    ((with_reducible show wpAny _ _ (compareOp CmpOp.In (Value.int _ _) (Value.ref 304)) _ _ _); refine in_tuple_ints (ns := [91, 93, 123, 125]) (tupK (Frag.In.keeps (by k_asm) (Fr.keep (by k_asm))) (by k_is)) (by repeat constructor) ?_)
  revert X; k_fill; intro X
  refine wpAny_call ?_
  k_dflt (refine' code_defS (binds := [((Str.ofString "cursor"), .ref c)]) ?k1 ?k2 ?k3 ?k4 ?k5 ?XB ?TB ?D ?T0 ?kA ?k6 ?k7 ?k8 ?k9 ?kB ?_ ?cK ?c2 ?c3 ?c4 ?c5; (case kA => exact rfl); (case k2 => k_asm); (case k1 => k_asm); (case XB => assumption); (case TB => assumption); (case D => assumption); (case T0 => assumption); (case k3 => k_asm); (case k4 => k_asm); (case k5 => k_asm); (case k6 => k_is); (case k7 => k_is); (case k8 => ktr_room); (case k9 => first | exact BindsTo.of_eq rfl | exact binds_K (by k_in) rfl (by k_is) rfl rfl rfl); (case kB => exact locs rfl); (case cK => assumption); (case c2 => exact rfl); (case c3 => exact rfl); (case c4 => exact rfl); (case c5 => decide))
  k_whole
  intro g' L' h' FG' F' N' B' X' T' D'
  (try dsimp only [List.reverse_cons, List.reverse_nil, List.nil_append, List.cons_append]); (try k_fold)
  k_with "call ref" =>
    ((with_reducible show wpAny _ _ (call (Value.ref 373) _) _ _ _); (rename News _ _ _ _ => kN); k_dflt (refine' hR ?k1 ?k2 ?k3 kN ?k5 ?k6 ?kd ?ku ?kE; (case k1 => k_asm); (case k2 => k_asm); (case k3 => k_asm); (case k5 => k_asm); (case k6 => first | exact rfl | assumption); (case kd => ktr_room); (case ku => ktr_units)); intro e g₂ h'' tk'' Fg R U)
  k_with "getAttr ref" =>
    k_dflt (refine' syn_get F1 X1 N1 hSyn hHeld hData ?_)
    intro t9
  k_steps
  rename RaisedD _ _ _ _ _ _ _ => hR9; rename Heap.UpToSlots _ _ => hU9; rename Fr _ _ _ _ => hF9
  k_dflt (refine' caughtD hR9 hF9 ?cK9 hU9 ?cX9 ?cT9 ?cD9 KtsTurn.refl ?ce9 ?_; (case cK9 => assumption); (case cX9 => assumption); (case cT9 => assumption); (case cD9 => assumption); (case ce9 => k_is))
  clear hR9 hU9 hF9
  intro h' g₁ dx o oe tk T1 hSyn hHeld hData F1 N1 B1 X1 P1 D1
  k_steps
  rename News _ _ _ _ => nE
  exact hQ _ _ _ _ (by assumption) (by assumption) (news_sub nE (by kcj_in)) (by assumption) (by assumption) (by assumption) (by assumption)
end Mine
end
section
open PySem PySem.W PyProof.Rows PySem.Calls PySem.Spec
namespace Mine
/-- white and comments ahead of a token -/
def Ahead (l : List Int) : Prop := l = [] ∨ l = [32] ∨ l = [37, 41, 10]
theorem ahead_sw {l r : List Int} {x : Int} (h : Ahead l) (h1 : x ≠ 37) (h2 : isWhite x = false) : swL false (l ++ x :: r) = x :: r := by
  have e : swL false (x :: r) = x :: r := by
    show (if x = 37 then _ else if isWhite x = true then _ else _) = _
    rw [if_neg h1, if_neg (by rw [h2]; decide)]
  rcases h with rfl | rfl | rfl
  · exact e
  · exact e
  · exact e
theorem ahead_len {l : List Int} (h : Ahead l) : l.length ≤ 3 := by rcases h with rfl | rfl | rfl <;> decide
/-- a literal's inside, and what it says -/
def LitOk (inner due : List Int) : Prop := (∀ (T : List Int) (n : Nat), inner.length + T.length + 1 < n → litL n (inner ++ 41 :: T) 1 [] = some (due, T)) ∧ ∀ n, inner.length < n → litL n inner 1 [] = none
theorem litOk_plain {cs sp : List Int} (h : Spelt cs sp) : LitOk sp cs := ⟨fun T n hn => lit_whole h hn, fun n hn => lit_cut h hn⟩
theorem litOk_inner {cs sp : List Int} (h : Spelt cs sp) : LitOk ([40] ++ sp ++ [41]) ([40] ++ cs ++ [41]) := by
  refine ⟨fun T n hn => ?_, fun n hn => ?_⟩
  · have := lit_whole2 (T := T) (n := n) h (by simp only [List.length_append, List.length_cons, List.length_nil] at hn; omega)
    simpa using this
  · have := lit_cut2 (n := n) h (by simp only [List.length_append, List.length_cons, List.length_nil] at hn; omega)
    simpa using this
theorem rem_from {ks l r : List Int} {ps en : Int} (h : ks = l ++ r) (hp : ps = (l.length : Int)) (he : en = (ks.length : Int)) : rem ks ps en = r := by
  subst hp he
  unfold rem
  rw [Int.toNat_natCast, Int.toNat_natCast, List.take_length, h, List.drop_left]
theorem rem_upto {ks l r T : List Int} {ps en : Int} (h : ks = l ++ (r ++ T)) (hp : ps = (l.length : Int)) (he : en = (l.length : Int) + (r.length : Int)) : rem ks ps en = r := by
  subst hp he
  unfold rem
  rw [Int.toNat_natCast, show ((l.length : Int) + (r.length : Int)).toNat = (l ++ r).length from by rw [List.length_append]; omega, h, ← List.append_assoc, List.take_left, List.drop_left]
theorem rem_end {ks T : List Int} {p en : Int} (h0 : 0 ≤ p) (h1 : p ≤ en) (h2 : en ≤ (ks.length : Int)) (h : T = rem ks p en) : p = en - (T.length : Int) := by
  have := rem_length (ps := p) h0 h2
  rw [← h] at this
  omega
section
variable {data lead inner due r1 r2 r3 r4 : List Int}
/-- a text: what leads, the opening sign, the inside, the closing signs -/
theorem text_of {x : Int} {T U : List Int} (h1 : r1 = lead ++ [x]) (h2 : r2 = r1 ++ inner) (h3 : r3 = r2 ++ T) (h4 : r4 = r3 ++ U) : r4 = lead ++ x :: (inner ++ (T ++ U)) := by subst h1 h2 h3 h4; simp
theorem text_of3 {x : Int} {T : List Int} (h1 : r1 = lead ++ [x]) (h2 : r2 = r1 ++ inner) (h3 : r3 = r2 ++ T) : r3 = lead ++ x :: (inner ++ T) := by subst h1 h2 h3; simp
theorem str_rem {ps en : Int} {x : Int} {r : List Int} (h : data = lead ++ x :: r) (hp : ps = (lead.length : Int) + 1) (he : en = (data.length : Int)) : rem data ps en = r :=
  rem_from (l := lead ++ [x]) (by rw [h]; simp) (by rw [hp]; simp) he
theorem str_sw {en : Int} {x : Int} {r : List Int} (ha : Ahead lead) (h1 : x ≠ 37) (h2 : isWhite x = false) (h : data = lead ++ x :: r) (he : en = (data.length : Int)) : swL false (rem data 0 en) = x :: r := by
  rw [show rem data 0 en = data from rem_from (l := []) (r := data) rfl rfl he, h]
  exact ahead_sw ha h1 h2
theorem cut_sw {en : Int} {x : Int} {T : List Int} (ha : Ahead lead) (h1 : x ≠ 37) (h2 : isWhite x = false) (h : data = lead ++ x :: (inner ++ T)) (he : en = (lead.length : Int) + (inner.length : Int) + 1) : swL false (rem data 0 en) = x :: inner := by
  rw [show rem data 0 en = lead ++ x :: inner from rem_upto (l := []) (r := lead ++ x :: inner) (T := T) (by rw [h]; simp) rfl (by rw [he]; simp; omega)]
  exact ahead_sw ha h1 h2
theorem hex_in {cs sp T : List Int} (h : HexOk cs sp) (hT : ∀ x ∈ T, x = 62) : ∀ x ∈ sp ++ T, x = 62 ∨ 0 ≤ hexW x ∨ isWhite x = true := fun x hx => (List.mem_append.mp hx).elim (fun k => .inr (h.1 x k).2.2) fun k => .inl (hT x k)
theorem hex_head {cs sp T : List Int} (h : HexOk cs sp) (hT : ∀ x ∈ T, x = 62) : (sp ++ T).headD (-1) ≠ 60 := by
  cases sp with
  | nil => cases T with
    | nil => decide
    | cons x r => rw [show x = 62 from hT x (.head _)]; exact (by decide : (62 : Int) ≠ 60)
  | cons x r => exact (h.1 x (.head _)).2.1
end
theorem all62 : ∀ x ∈ ([62, 62] : List Int), x = 62 := by decide
theorem none62 : ∀ x ∈ ([] : List Int), x = 62 := fun x hx => nomatch hx
end Mine
end
section
open PySem PySem.W PyProof.Rows PySem.Calls PySem.Spec PySem.SeqAt
namespace Mine
theorem way_joinM {σ : Type} {M : Model} {A : Around} {E : Value → Shared → Prop} {Q : Flow → Shared → Prop} {s s₁ : Shared} {x : Sem Flow} {h₀ : Heap} {L : Addr} {m : Str → Option Value} (F : Fr h₀ L s₁.heap m) (fm : (Str → Option Value) → σ → Str → Option Value) (Led : σ → List (Addr × Obj)) (P : σ → Prop)
    (h1 : wpAny M A x (WayJ h₀ L s (fun c _ => fm m c) Led P) E s₁) (h2 : ∀ (c : σ) h' tk', P c → Fr h₀ L h' (fm m c) → News h₀ L h' (Led c) → Q .next { s with heap := h', toks := tk' }) : wpAny M A x Q E s₁ :=
  way_join (fun c _ => fm m c) Led P h1 fun c _ h' tk' p F N => h2 c h' tk' p F N
section
variable {prog : Program} {w : World} {A : Around} {E : Value → Shared → Prop} {Q : Value → Shared → Prop} {s : Shared}
theorem my_lenB {b : Array UInt8} {t : Tok} (hz : b.size ≤ 100000) (h : ∀ t' k, Q (.int (b.size : Int) t') { s with toks := k }) : wpAny (model prog w) A (call (.builtin "len") [.bytes b t]) Q E s :=
  KBw.len_K (ks := KBw.bInts b) rfl (by rw [KBw.ints_length]; omega) (by rw [KBw.ints_length]; exact h _ _)
theorem my_neB {b c : Array UInt8} {t u : Tok} (e : KBw.bInts b = KBw.bInts c) (h : Q (.bool false) s) : wpAny (model prog w) A (compareOp .NotEq (.bytes b t) (.bytes c u)) Q E s := by
  obtain rfl := bints_inj.mp e
  refine ne_bytes ?_
  rw [bne_self_eq_false]
  exact h
theorem my_neI {a b : Int} {t u : Tok} (e : a = b) (h : Q (.bool false) s) : wpAny (model prog w) A (compareOp .NotEq (.int a t) (.int b u)) Q E s := by
  subst e
  refine PyProof.Rows.ne_int ?_
  rw [bne_self_eq_false]
  exact h
theorem my_eqI {a b : Int} {t u : Tok} (e : a = b) (h : Q (.bool true) s) : wpAny (model prog w) A (compareOp .Eq (.int a t) (.int b u)) Q E s := by
  subst e
  refine PyProof.Rows.eq_int ?_
  rw [beq_self_eq_true]
  exact h
theorem my_neS {a b : Str} {t u : Tok} (e : a = b) (h : Q (.bool false) s) : wpAny (model prog w) A (compareOp .NotEq (.str a t) (.str b u)) Q E s := by
  subst e
  refine ne_str ?_
  rw [bne_self_eq_false]
  exact h
end
theorem ahead_ok {t1 t2 t3 : Tok} : ∀ v ∈ [Value.bytes #[] t1, Value.bytes #[32] t2, Value.bytes #[37, 41, 10] t3], ∃ (b : Array UInt8) (t : Tok), v = .bytes b t ∧ Ahead (KBw.bInts b) ∧ b.size ≤ 1000 := fun v hv => by
  rcases List.mem_cons.mp hv with rfl | hv
  · exact ⟨_, _, rfl, .inl rfl, Nat.le_of_ble_eq_true rfl⟩
  rcases List.mem_cons.mp hv with rfl | hv
  · exact ⟨_, _, rfl, .inr (.inl rfl), Nat.le_of_ble_eq_true rfl⟩
  rw [List.mem_singleton.mp hv]
  exact ⟨_, _, rfl, .inr (.inr rfl), Nat.le_of_ble_eq_true rfl⟩
theorem ahead_size {b : Array UInt8} (h : Ahead (KBw.bInts b)) : b.size ≤ 3 := by
  rw [← KBw.ints_length]; exact ahead_len h
/-- what follows a name -/
def After (l : List Int) : Prop := l = [] ∨ l = [32] ∨ l = [47] ∨ l = [40]
theorem after_ok {t1 t2 t3 t4 : Tok} : ∀ v ∈ [Value.bytes #[] t1, Value.bytes #[32] t2, Value.bytes #[47] t3, Value.bytes #[40] t4], ∃ (b : Array UInt8) (t : Tok), v = .bytes b t ∧ After (KBw.bInts b) ∧ b.size ≤ 1000 := fun v hv => by
  rcases List.mem_cons.mp hv with rfl | hv
  · exact ⟨_, _, rfl, .inl rfl, Nat.le_of_ble_eq_true rfl⟩
  rcases List.mem_cons.mp hv with rfl | hv
  · exact ⟨_, _, rfl, .inr (.inl rfl), Nat.le_of_ble_eq_true rfl⟩
  rcases List.mem_cons.mp hv with rfl | hv
  · exact ⟨_, _, rfl, .inr (.inr (.inl rfl)), Nat.le_of_ble_eq_true rfl⟩
  rw [List.mem_singleton.mp hv]
  exact ⟨_, _, rfl, .inr (.inr (.inr rfl)), Nat.le_of_ble_eq_true rfl⟩
theorem after_size {b : Array UInt8} (h : After (KBw.bInts b)) : b.size ≤ 1 := by
  rw [← KBw.ints_length]
  rcases h with h | h | h | h <;> (rw [h]; decide)
theorem after_reg {l : List Int} (h : After l) : l = [] ∨ isRegular (l.headD 0) = false := by
  rcases h with rfl | rfl | rfl | rfl
  · exact .inl rfl
  · exact .inr rfl
  · exact .inr rfl
  · exact .inr rfl
end Mine
end
section
open PySem PySem.W PyProof.Rows PySem.Calls PySem.Spec
namespace Mine
theorem news_pick3 {h₀ h : Heap} {L : Addr} {p q t : Addr × Obj} {l r r' r'' : List (Addr × Obj)} (N : News h₀ L h l) (x : Pick p l r) (y : Pick q r r') (z : Pick t r' r'') : News h₀ L h (p :: q :: t :: r'') := fun e he => by
  rcases List.mem_cons.mp he with rfl | he
  · exact N _ (x.mem _ (.head _))
  rcases List.mem_cons.mp he with rfl | he
  · exact N _ (x.mem _ (.tail _ (y.mem _ (.head _))))
  rcases List.mem_cons.mp he with rfl | he
  · exact N _ (x.mem _ (.tail _ (y.mem _ (.tail _ (z.mem _ (.head _))))))
  · exact N _ (x.mem _ (.tail _ (y.mem _ (.tail _ (z.mem _ (.tail _ he))))))
section
variable {data lead inner due b r1 r2 r3 r4 x y z : Array UInt8} {T D : List Int} {ps en p k : Int}
theorem dat_str (h1 : KBw.bInts r1 = KBw.bInts lead ++ KBw.bInts #[40]) (h2 : KBw.bInts r2 = KBw.bInts r1 ++ KBw.bInts inner) (h3 : KBw.bInts r3 = KBw.bInts r2 ++ KBw.bInts #[41]) (h4 : KBw.bInts r4 = KBw.bInts r3 ++ KBw.bInts #[41, 55]) :
    KBw.bInts r4 = KBw.bInts lead ++ 40 :: (KBw.bInts inner ++ 41 :: [41, 55]) := text_of (T := [41]) (U := [41, 55]) h1 h2 h3 h4
theorem dat_hex (h1 : KBw.bInts r1 = KBw.bInts lead ++ KBw.bInts #[60]) (h2 : KBw.bInts r2 = KBw.bInts r1 ++ KBw.bInts inner) (h3 : KBw.bInts r3 = KBw.bInts r2 ++ KBw.bInts #[62, 62]) :
    KBw.bInts r3 = KBw.bInts lead ++ 60 :: (KBw.bInts inner ++ 62 :: [62]) := text_of3 (T := [62, 62]) h1 h2 h3
theorem lit_at (h : KBw.bInts data = KBw.bInts lead ++ 40 :: (KBw.bInts inner ++ 41 :: T)) (ok : LitOk (KBw.bInts inner) D) (hp : ps = (lead.size : Int) + 1) (he : en = (data.size : Int)) : litL ((en - ps).toNat + 1) (rem (KBw.bInts data) ps en) 1 [] = some (D, T) := by
  have hr : rem (KBw.bInts data) ps en = KBw.bInts inner ++ 41 :: T := str_rem h (by rw [hp, KBw.ints_length]) (by rw [he, KBw.ints_length])
  rw [hr]
  refine ok.1 T _ ?_
  have hl := congrArg List.length h
  simp only [KBw.ints_length, List.length_append, List.length_cons] at hl ⊢
  omega
theorem rem_after {cs' : List Int} (ho : some (D, T) = some (cs', rem (KBw.bInts data) p en)) (hb : KBw.bInts b = cs') (h0 : 0 ≤ ps) (h1 : ps ≤ p) (h2 : p ≤ en) (h3 : en ≤ (data.size : Int)) (hk : (T.length : Int) = k) : KBw.bInts b = D ∧ p = en - k := by
  obtain ⟨e1, e2⟩ := Prod.mk.inj (Option.some.inj ho)
  refine ⟨hb.trans e1.symm, ?_⟩
  have := rem_end (p := p) (by omega) h2 (by rw [KBw.ints_length]; exact h3) e2
  omega
theorem hex_after {hv : List Int} (ho : some (D, T) = some (hv, rem (KBw.bInts data) p en)) (hb : KBw.bInts b = pairsL hv) (h0 : 0 ≤ ps) (h1 : ps ≤ p) (h2 : p ≤ en) (h3 : en ≤ (data.size : Int)) (hk : (T.length : Int) = k) : KBw.bInts b = pairsL D ∧ p = en - k := by
  obtain ⟨e1, e2⟩ := Prod.mk.inj (Option.some.inj ho)
  refine ⟨hb.trans (e1 ▸ rfl), ?_⟩
  have := rem_end (p := p) (by omega) h2 (by rw [KBw.ints_length]; exact h3) e2
  omega
theorem hx_at {cz : List Int} (h : KBw.bInts data = KBw.bInts lead ++ 60 :: (KBw.bInts inner ++ 62 :: T)) (ok : HexOk cz (KBw.bInts inner)) (hp : ps = (lead.size : Int) + 1) (he : en = (data.size : Int)) : hxL (rem (KBw.bInts data) ps en) [] = some (figs (KBw.bInts inner), T) := by
  rw [show rem (KBw.bInts data) ps en = KBw.bInts inner ++ 62 :: T from str_rem h (by rw [hp, KBw.ints_length]) (by rw [he, KBw.ints_length]), hx_app fun x hx => (ok.1 x hx).1]
  rfl
theorem hx_okA {cz : List Int} (h : KBw.bInts data = KBw.bInts lead ++ 60 :: (KBw.bInts inner ++ 62 :: [62])) (ok : HexOk cz (KBw.bInts inner)) (hp : ps = (lead.size : Int) + 1) (he : en = (data.size : Int)) : ∀ x ∈ rem (KBw.bInts data) ps en, x = 62 ∨ 0 ≤ hexW x ∨ isWhite x = true := by
  rw [show rem (KBw.bInts data) ps en = KBw.bInts inner ++ 62 :: [62] from str_rem h (by rw [hp, KBw.ints_length]) (by rw [he, KBw.ints_length])]
  exact hex_in (T := [62, 62]) ok all62
theorem hx_txt {cz : List Int} (ok : HexOk cz (KBw.bInts inner)) : hxL (KBw.bInts inner ++ 62 :: T) [] = some (figs (KBw.bInts inner), T) := by
  rw [hx_app fun x hx => (ok.1 x hx).1]
  rfl
theorem due_hex {cz hv : List Int} (hin : KBa.In cz) (ok : HexOk cz (KBw.bInts inner)) (ho : some (figs (KBw.bInts inner), T) = some (hv, D)) (hb : KBw.bInts b = pairsL hv) : KBw.bInts b = KBw.bInts (byteArr cz) := by
  rw [hb, ← (Prod.mk.inj (Option.some.inj ho)).1, ok.2, KBa.ints_make hin]
theorem due_hex2 {cz : List Int} (hin : KBa.In cz) (ok : HexOk cz (KBw.bInts inner)) (hb : KBw.bInts b = pairsL (figs (KBw.bInts inner))) : KBw.bInts b = KBw.bInts (byteArr cz) := by
  rw [hb, ok.2, KBa.ints_make hin]
theorem litOk_A {cz : List Int} (hin : KBa.In cz) (h : Spelt cz (KBw.bInts b)) : LitOk (KBw.bInts b) (KBw.bInts (byteArr cz)) := by
  rw [KBa.ints_make hin]; exact litOk_plain h
theorem litOk_B {cz : List Int} (hin : KBa.In cz) (h : Spelt cz (KBw.bInts b)) (h1 : KBw.bInts r1 = KBw.bInts #[40] ++ KBw.bInts b) (h2 : KBw.bInts r2 = KBw.bInts r1 ++ KBw.bInts #[41]) : LitOk (KBw.bInts r2) (KBw.bInts (#[40] ++ byteArr cz ++ #[41])) := by
  have e : KBw.bInts (#[40] ++ byteArr cz ++ #[41]) = [40] ++ cz ++ [41] := KBw.ints_app (KBw.ints_app rfl (KBa.ints_make hin)) rfl
  rw [e, h2, h1]
  exact litOk_inner h
theorem sw_at {c : Int} {r : List Int} (ha : Ahead (KBw.bInts lead)) (h : KBw.bInts data = KBw.bInts lead ++ c :: r) (h1 : c ≠ 37) (h2 : isWhite c = false) (he : en = (data.size : Int)) : swL false (rem (KBw.bInts data) 0 en) = c :: r :=
  str_sw ha h1 h2 h (by rw [he, KBw.ints_length])
theorem sw_cut {c : Int} (ha : Ahead (KBw.bInts lead)) (h : KBw.bInts data = KBw.bInts lead ++ c :: (KBw.bInts inner ++ T)) (h1 : c ≠ 37) (h2 : isWhite c = false) (he : en = (lead.size : Int) + (inner.size : Int) + 1) : swL false (rem (KBw.bInts data) 0 en) = c :: KBw.bInts inner :=
  cut_sw ha h1 h2 h (by rw [he, KBw.ints_length, KBw.ints_length])
end
section
variable {w : World} {c d : Addr} {H1 H2 H3 : Int} {t1 t2 t3 t4 t5 t6 : Tok} {data lead inner : Array UInt8} {en : Int} {rest : List (Addr × Obj)}
theorem raises_string {D T : List Int} (hcd : c ≠ d) (hne : ∀ p ∈ rest, p.1 ≠ d) (ha : Ahead (KBw.bInts lead)) (hD : KBw.bInts data = KBw.bInts lead ++ 40 :: (KBw.bInts inner ++ T)) (ok : LitOk (KBw.bInts inner) D) (he : en = (lead.size : Int) + (inner.size : Int) + 1) (hz : data.size ≤ 100000) (hle : en ≤ (data.size : Int)) :
    RaisesAt w 373 c (lead.size : Int) ((d, dictOf [⟨H1, .str (Str.ofString "data") t1, .bytes data t4⟩, ⟨H2, .str (Str.ofString "at") t2, .int 0 t5⟩, ⟨H3, .str (Str.ofString "end") t3, .int en t6⟩] 3) :: (c, instObj 187 d) :: rest) rest := by
  intro dp un gd cn cs a ccd cl outer A₀ base h₀ L m s Q E mg mb mean loose B F X N T hk hd hu hE
  refine next_string_c (OUT := none) (r := KBw.bInts inner) B F X N T hk hd hu hcd hne rfl (Int.le_refl _) (by omega) (by rw [KBw.ints_length]; exact hle) (by rw [KBw.ints_length]; exact hz) (sw_cut ha hD (by decide) rfl he) (ok.2 _ (Nat.lt_succ_self _)) (fun _ e g₂ h' tk' Fg R U => hE e g₂ h' tk' Fg ?_ U) (fun tu q1 at_ tat b t' cs' r2 h' tk' _ _ ho => nomatch ho)
  rw [show en - (((KBw.bInts inner).length : Int) + 1) = (lead.size : Int) from by rw [KBw.ints_length]; omega] at R
  exact R
theorem raises_hex {cz T : List Int} (hcd : c ≠ d) (hne : ∀ p ∈ rest, p.1 ≠ d) (ha : Ahead (KBw.bInts lead)) (hD : KBw.bInts data = KBw.bInts lead ++ 60 :: (KBw.bInts inner ++ T)) (ok : HexOk cz (KBw.bInts inner)) (he : en = (lead.size : Int) + (inner.size : Int) + 1) (hz : data.size ≤ 100000) (hle : en ≤ (data.size : Int)) :
    RaisesAt w 373 c (lead.size : Int) ((d, dictOf [⟨H1, .str (Str.ofString "data") t1, .bytes data t4⟩, ⟨H2, .str (Str.ofString "at") t2, .int 0 t5⟩, ⟨H3, .str (Str.ofString "end") t3, .int en t6⟩] 3) :: (c, instObj 187 d) :: rest) rest := by
  intro dp un gd cn cs a ccd cl outer A₀ base h₀ L m s Q E mg mb mean loose B F X N T hk hd hu hE
  have h60 := hex_head (T := []) ok none62
  have hin := hex_in (T := []) ok none62
  rw [List.append_nil] at h60 hin
  refine next_hex_c (OUT := none) (r := KBw.bInts inner) B F X N T hk hd hu hcd hne rfl (Int.le_refl _) (by omega) (by rw [KBw.ints_length]; exact hle) (by rw [KBw.ints_length]; exact hz) (sw_cut ha hD (by decide) rfl he) h60 hin (hx_cut ok) (fun _ e g₂ h' tk' Fg R U => hE e g₂ h' tk' Fg ?_ U) (fun tu q1 at_ tat b t' hv r2 h' tk' _ _ ho => nomatch ho)
  rw [show en - (((KBw.bInts inner).length : Int) + 1) = (lead.size : Int) from by rw [KBw.ints_length]; omega] at R
  exact R
end
end Mine
end
section
open PySem PySem.W PyProof.Rows PySem.Calls
namespace Mine
theorem strings_c {w : World} {dp un : Nat} {gd : Option (List Code)} {cn : Str} {cs : Scope} {a : Addr} {ccd : Value} {A₀ : Around} {base h₀ : Heap} {L : Addr} {m : Str → Option Value} {s : Shared} {Q E : Value → Shared → Prop} {mg mb : Str → Option Value} {mean : ExcName → Option Value} {loose : List Str} {pn inn : Addr} {place great : Int} {tp tg : Tok} {n1 n2 : Nat} {cells : List Value} {cs_ : List Int} {rest : List (Addr × Obj)} {cd : Addr} {cvs : List Value} {n3 : Nat} {cz : List Int}
  (B : Below A₀ base [] h₀) (F : Fr h₀ L s.heap m) (X : (Mine.hd.heap_1 w.params).In h₀) (N : News h₀ L s.heap ((pn, listOf [.ref inn, .int place tp, .int great tg].toArray n1) :: (inn, listOf cells.toArray n2) :: (cd, listOf cvs.toArray n3) :: rest)) (T : Top Mine.view loose mean mg mb h₀) (hk : cs.kind = .function) (hd : dp + 200 < recursionLimit) (hu : un + 6000 < cLine) (XB : (Mine.hd.heap_1 w.params).In base) (TB : Top Mine.view loose mean mg mb base) (hpi : @Ne Nat pn inn) (hpr : ∀ p ∈ rest, p.1 ≠ pn) (hcs : IntsAre cells cs_) (hcl : cs_.length ≤ 1000) (hpl : 0 ≤ place) (hpm : place < 80000) (hgr : 0 ≤ great) (hcz : IntsAre cvs cz) (hczi : KBa.In cz) (hczl : cz.length ≤ 8) (hcn : @Ne Nat cd pn)
  (hQ : ∀ place' great' tp' tg' n' h' tk', 0 ≤ place' → place' ≤ place + 90 → 0 ≤ great' → Fr h₀ L h' m → News h₀ L h' ((pn, listOf [.ref inn, .int place' tp', .int great' tg'].toArray n') :: (inn, listOf cells.toArray n2) :: (cd, listOf cvs.toArray n3) :: rest) → Q (.bool true) { s with heap := h', toks := tk' }) :
  wpAny (model Challenge.rw_nn0223_01.row.prog w) (ktrTop dp un gd cn cs L a ccd [] []) (call (.ref 448) [.ref pn, .ref cd]) Q E s := by
  k_with_none
  w_top off
  k_with "MyPost" =>
    (dsimp only [MyPost])
  k_with "eval Call" =>
    ((with_reducible show wpAny _ _ (eval (Expr.Call (Expr.Name _ _) _ [] _) _) _ _ _); k_dflt (refine Call_ ?_))
  k_with "eval Call Attribute" =>
    ((with_reducible show wpAny _ _ (eval (Expr.Call (Expr.Attribute _ _ _) _ [] _) _) _ _ _); k_dflt (refine MethodCall_ ?_))
  k_with "compareOp In int ref" =>
    ((with_reducible show wpAny _ _ (compareOp CmpOp.In (Value.int _ _) (Value.ref 62)) _ _ _); refine in_tuple_ints (ns := [0, 9, 10, 12, 13, 32]) (tupK (Frag.In.keeps (by k_asm) (Fr.keep (by k_asm))) (by k_is)) (by repeat constructor) ?_)
  k_with "compareOp NotIn int ref" =>
    ((with_reducible show wpAny _ _ (compareOp CmpOp.NotIn (Value.int _ _) (Value.ref 62)) _ _ _); refine notin_tuple_ints (ns := [0, 9, 10, 12, 13, 32]) (tupK (Frag.In.keeps (by k_asm) (Fr.keep (by k_asm))) (by k_is)) (by repeat constructor) ?_)
  k_with "compareOp NotIn int ref" =>
    ((with_reducible show wpAny _ _ (compareOp CmpOp.NotIn (Value.int _ _) (Value.ref 63)) _ _ _); refine notin_tuple_ints (ns := [40, 41, 60, 62, 91, 93, 123, 125, 47, 37]) (tupK (Frag.In.keeps (by k_asm) (Fr.keep (by k_asm))) (by k_is)) (by repeat constructor) ?_)
  k_with "compareOp In int ref" =>
    ((with_reducible show wpAny _ _ (compareOp CmpOp.In (Value.int _ _) (Value.ref 304)) _ _ _); refine in_tuple_ints (ns := [91, 93, 123, 125]) (tupK (Frag.In.keeps (by k_asm) (Fr.keep (by k_asm))) (by k_is)) (by repeat constructor) ?_)
  k_with "call ref" =>
    ((with_reducible show wpAny _ _ (call (Value.ref 401) _) _ _ _); (rename News _ _ _ _ => kN); k_dflt (refine' draw_c (by k_asm) (by k_asm) (by k_asm) (news_pick2r kN (by tb_start) (by tb_start)) (by k_asm) (by first | exact rfl | assumption) (by ktr_room) (by ktr_units) (by k_ne) (by k_all) (by assumption) (by omega) (by omega) (by omega) (by omega) (by omega) (by omega) ?_; k_whole); intro _ _ _ _ _ _ _ _ _ _ _ _ _ _ _ _; (try clear kN); (try k_sweep))
  k_with "call ref" =>
    ((with_reducible show wpAny _ _ (call (Value.ref 420) _) _ _ _); (rename News _ _ _ _ => kN); k_dflt (refine' law_literal_c (by k_asm) (by k_asm) (by k_asm) (news_pick3 kN (by tb_start) (by tb_start) (by tb_start)) (by k_asm) (by first | exact rfl | assumption) (by ktr_room) (by ktr_units) (by k_ne) (by k_all) (by assumption) (by omega) (by omega) (by omega) (by omega) (by assumption) (by assumption) (by omega) (by first | assumption | k_ne) ?_; k_whole); intro _ _ _ _ _ _ _ _ _ _ _ _ _ _ _ _; (try clear kN); (try k_sweep))
  k_with "call ref" =>
    ((with_reducible show wpAny _ _ (call (Value.ref 427) _) _ _ _); (rename News _ _ _ _ => kN); k_dflt (refine' law_hexed_c (by k_asm) (by k_asm) (by k_asm) (news_pick3 kN (by tb_start) (by tb_start) (by tb_start)) (by k_asm) (by first | exact rfl | assumption) (by ktr_room) (by ktr_units) (by k_ne) (by k_all) (by assumption) (by omega) (by omega) (by omega) (by omega) (by assumption) (by assumption) (by omega) (by first | assumption | k_ne) ?_; k_whole); intro _ _ _ _ _ _ _ _ _ _ _ _ _ _ _ _; (try clear kN); (try k_sweep))
  k_with "call ref" =>
    ((with_reducible show wpAny _ _ (call (Value.ref 187) [_]) _ _ _); (rename News _ _ _ _ => kN); k_dflt (refine' cursor1_c (at_ := 0) (e_ := 0) (u2 := 0) (u3 := 0) (by k_asm) (by k_asm) (by k_asm) kN (by k_asm) (by first | exact rfl | assumption) (by ktr_room) (by ktr_units) (by omega) ?_; k_whole); intro _ _ _ _ _ _ _ _ _ _ _ _ _ _ _ _ _ _; (try clear kN); (try k_sweep))
  k_with "call ref" =>
    ((with_reducible show wpAny _ _ (call (Value.ref 187) [_, _]) _ _ _); (rename News _ _ _ _ => kN); k_dflt (refine' cursor2_c (e_ := 0) (u3 := 0) (by k_asm) (by k_asm) (by k_asm) kN (by k_asm) (by first | exact rfl | assumption) (by ktr_room) (by ktr_units) (by omega) ?_; k_whole); intro _ _ _ _ _ _ _ _ _ _ _ _ _ _ _ _ _ _; (try clear kN); (try k_sweep))
  k_with "call ref" =>
    ((with_reducible show wpAny _ _ (call (Value.ref 187) [_, _, _]) _ _ _); (rename News _ _ _ _ => kN); k_dflt (refine' cursor3_c (by k_asm) (by k_asm) (by k_asm) kN (by k_asm) (by first | exact rfl | assumption) (by ktr_room) (by ktr_units) (by omega) (by omega) (by omega) ?_; k_whole); intro _ _ _ _ _ _ _ _ _ _ _ _ _ _ _ _ _ _; (try clear kN); (try k_sweep))
  k_with "binaryOp Add bytes bytes" =>
    (k_dflt (refine' my_addB (by ((try simp only [List.size_toArray, List.length_cons, List.length_nil]); omega)) ?_); intro _ _ _ _ _; (rename_i hz'); (try simp only [List.size_toArray, List.length_cons, List.length_nil] at hz'); (revert hz'; intro _))
  k_with "subscriptTail" =>
    ((with_reducible show wpAny _ _ (subscriptTail _ _ (Value.bytes _ _) (Value.int _ _)) _ _ _); k_dflt (refine' KBw.item_K rfl (by (rw [KBw.ints_length]; omega)) (by omega) (by (rw [KBw.ints_length]; omega)) ?_); intro _ _ _ _)
  k_with "subscriptTail" =>
    ((with_reducible show wpAny _ _ (subscriptTail _ _ (Value.ref _) (Value.int _ _)) _ _ _); k_dflt (refine' my_pickB (vs := [_, _, _]) Ahead (by k_asm) (by k_mem) (by exact ahead_ok) (by omega) (by (simp only [List.length_cons, List.length_nil]; omega)) (by exact Nat.le_of_ble_eq_true rfl) ?_); intro _ _ _ _; (rename_i hb' hz'); (have hs' := ahead_size hb'); (revert hb' hz' hs'; intro _ _ _))
  k_with "compareOp NotEq bytes bytes" =>
    ((refine' my_neB (by assumption) ?_))
  k_with "compareOp NotEq int int" =>
    ((refine' my_neI (by omega) ?_))
  k_with "compareOp Eq int int" =>
    ((refine' my_eqI (by omega) ?_))
  k_with "compareOp NotEq ref ref" =>
    (k_dflt (refine' my_ne3 (by k_asm) (by k_mem) (by k_mem) (by first | exact eqv_bytes (by assumption) | exact eqv_str rfl) (by omega) (by ktr_units) ?_))
  k_with "compareOp Eq ref ref" =>
    (k_dflt (refine' my_eq3 (by k_asm) (by k_mem) (by k_mem) (by first | exact eqv_bytes (by assumption) | exact eqv_str rfl) (by omega) (by ktr_units) ?_))
  k_with "call builtin:len" =>
    ((with_reducible show wpAny _ _ (call (Value.builtin _) [Value.bytes _ _]) _ _ _); k_dflt (refine' my_lenB (by omega) ?_); intro _ _)
  revert X; k_fill; intro X
  have hvl := hcz.length
  refine wpAny_call ?_
  k_dflt (refine' code_defS0 (binds := [((Str.ofString "pen"), .ref pn), ((Str.ofString "codes"), .ref cd)]) ?k1 ?k2 ?k3 ?k4 ?k5 ?kA ?k6 ?k7 ?k8 ?k9 ?kB ?_ ?cK ?c2 ?c3 ?c4 ?c5; (case kA => exact rfl); (case k2 => k_asm); (case k1 => k_asm); (case k3 => k_asm); (case k4 => k_asm); (case k5 => k_asm); (case k6 => k_is); (case k7 => k_is); (case k8 => ktr_room); (case k9 => first | exact BindsTo.of_eq rfl | exact binds_K (by k_in) rfl (by k_is) rfl rfl rfl); (case kB => exact locs rfl); (case cK => assumption); (case c2 => exact rfl); (case c3 => exact rfl); (case c4 => exact rfl); (case c5 => decide))
  k_whole
  intro g' L' h' FG' F' N' B' X' T' D'
  (try dsimp only [List.reverse_cons, List.reverse_nil, List.nil_append, List.cons_append]); (try k_fold)
  k_with "exec If Compare" =>
    (fail_if_success (with_reducible show wpAny _ _ _ (WayJ _ _ _ _ _ _) _ _))
    (rename Fr _ _ _ _ => lF'); (rename News _ _ _ _ => lN'); (rename Spelt _ _ => hSp)
    k_dflt (refine' way_joinM (σ := Array UInt8 × Tok × Array UInt8 × Tok × Int × Tok × Int × Tok × Nat) (s := s) lF' (fun m x y => if y = Str.ofString "inner" then some (.bytes x.1 x.2.1) else if y = Str.ofString "due" then some (.bytes x.2.2.1 x.2.2.2.1) else m y) (fun x => (pn, listOf [.ref inn, .int x.2.2.2.2.1 x.2.2.2.2.2.1, .int x.2.2.2.2.2.2.1 x.2.2.2.2.2.2.2.1].toArray x.2.2.2.2.2.2.2.2) :: (inn, listOf cells.toArray n2) :: (cd, listOf cvs.toArray n3) :: rest) (fun x => LitOk (KBw.bInts x.1) (KBw.bInts x.2.2.1) ∧ x.1.size ≤ 60 ∧ x.2.2.1.size ≤ 60 ∧ 0 ≤ x.2.2.2.2.1 ∧ x.2.2.2.2.1 ≤ place + 30 ∧ 0 ≤ x.2.2.2.2.2.2.1) ?_ ?_)
    rotate_left
    rintro ⟨inner, ti, due, td, pl2, tp2, gr2, tg2, nn2⟩ h' tk' ⟨hOk, hi1, hi2, hp2, hp3, hg2⟩ F' N'
    dsimp only at hOk hi1 hi2 hp2 hp3 hg2 F' N'
    (try clear lF' lN')
  k_with "call ref" => first
    | ((with_reducible show wpAny _ _ (call (Value.ref 347) _) _ _ _); (have hD := dat_str (by assumption) (by assumption) (by assumption) (by assumption)); (rename Ahead _ => hA); (rename News _ _ _ _ => kN); k_dflt (refine' literal_c (OUT := some (KBw.bInts due, [41, 55])) ?k1 ?k2 ?k3 (news_pick2 kN ?ka ?kb) ?k5 ?k6 ?kd ?ku ?kc1 ?kc2 ?kc3 ?kc4 ?kc5 ?kc6 ?kc7 ?kE ?kp ?kl ?_; (case k1 => k_asm); (case k2 => k_asm); (case k3 => k_asm); (case k5 => k_asm); (case k6 => first | exact rfl | assumption); (case ka => tb_start); (case kb => tb_start); (case kc1 => exact Nat.ne_of_gt (by assumption)); (case kc2 => exact ne_of_allLt (by assumption)); (case kc3 => exact rfl); (case kc4 => omega); (case kc5 => omega); (case kc6 => (rw [KBw.ints_length]; omega)); (case kc7 => (rw [KBw.ints_length]; omega)); (case kE => exact fun hno => nomatch hno); (case kp => omega); (case kl => exact lit_at hD hOk (by omega) (by omega)); (case kd => ktr_room); (case ku => ktr_units); k_whole); intro b' t' cs' p' u' h' tk' ho' hb' hp' he' F' N'; (try clear kN); (obtain ⟨hb9, hp9⟩ := rem_after (k := 2) ho' hb' (by omega) hp' he' (by omega) rfl); clear ho' hb'; (try k_sweep))
    | ((with_reducible show wpAny _ _ (call (Value.ref 373) _) _ _ _); (rename News _ _ _ _ => kN); k_dflt (refine' next_string_c (OUT := some (KBw.bInts due, [41, 55])) (r := KBw.bInts inner ++ 41 :: [41, 55]) ?k1 ?k2 ?k3 (news_pick2 kN ?ka ?kb) ?k5 ?k6 ?kd ?ku ?kc1 ?kc2 ?kc3 ?kc4 ?kc5 ?kc6 ?kc7 ?ks ?kl ?kE ?_; (case k1 => k_asm); (case k2 => k_asm); (case k3 => k_asm); (case k5 => k_asm); (case k6 => first | exact rfl | assumption); (case ka => tb_start); (case kb => tb_start); (case kc1 => exact Nat.ne_of_gt (by assumption)); (case kc2 => exact ne_of_allLt (by assumption)); (case kc3 => exact rfl); (case kc4 => omega); (case kc5 => omega); (case kc6 => (rw [KBw.ints_length]; omega)); (case kc7 => (rw [KBw.ints_length]; omega)); (case ks => exact sw_at hA hD (by decide) rfl (by omega)); (case kl => exact hOk.1 _ _ (by simp only [List.length_append, List.length_cons, List.length_nil]; omega)); (case kE => exact fun hno => nomatch hno); (case kd => ktr_room); (case ku => ktr_units); k_whole); intro tu' q1' at' tat' b' t' cs' r2' h' tk' lt' hat ho' hb' F' N'; (try clear kN); (have hb9 := hb'.trans (congrArg Prod.fst (Option.some.inj ho')).symm; dsimp only at hb9; clear ho' hb'; simp only [List.length_append, List.length_cons, List.length_nil, KBw.ints_length] at hat; ); (try k_sweep))
    | ((with_reducible show wpAny _ _ (call (Value.ref 441) _) _ _ _); (rename News _ _ _ _ => kN); (rename Below _ _ _ _ => oB); (rename Fr _ _ _ _ => oF); (rename Top _ _ _ _ _ _ => oT); (rename Frag.In _ _ => oX); (rename KtsDicts _ _ => oD); k_dflt (refine' fault_c (g₀ := g') oB oF oX kN oT ?k6 ?kd ?ku ?kXB ?kTB oD ?kT0 (raises_string (T := [41, 41, 55]) (Nat.ne_of_gt (by assumption)) (ne_of_allLt (by assumption)) hA hD hOk (by omega) (by omega) (by omega)) ?_; (case k6 => first | exact rfl | assumption); (case kd => ktr_room); (case ku => ktr_units); (case kXB => assumption); (case kTB => assumption); (case kT0 => first | assumption | exact KtsTurn.refl)); clear oB oF oT oX oD kN; (try clear oTn); intro t9 h' h₁ tk' oTn F' N' B' X' T' D'; (try k_dflt (replace N' : News h₁ L' h' ((pn, listOf [.ref inn, .int pl2 tp2, .int gr2 tg2].toArray nn2) :: (inn, listOf cells.toArray n2) :: (cd, listOf cvs.toArray n3) :: rest) := news_sub N' (by kcj_in))); (try k_sweep))
    | ((with_reducible show wpAny _ _ (call (Value.ref 352) _) _ _ _); (have hD := dat_hex (by assumption) (by assumption) (by assumption)); (rename Ahead _ => hA); (rename HexOk _ _ => hHx); (have hKl := hx_at hD hHx rfl rfl); (have hKo := hx_okA hD hHx rfl rfl); (have hKs := sw_at hA hD (by decide) rfl rfl); (have hK6 := hex_head (T := [62, 62]) hHx all62); (have hKp := hex_in (T := [62, 62]) hHx all62); (have hKt := hx_txt (T := [62]) hHx); (rename News _ _ _ _ => kN); k_dflt (refine' hex_string_c ?k1 ?k2 ?k3 (news_pick2 kN ?ka ?kb) ?k5 ?k6 ?kd ?ku ?kc1 ?kc2 ?kc3 ?kc4 ?kc5 ?kc6 ?kc7 ?kE ?kp hKo hKl ?_; (case k1 => k_asm); (case k2 => k_asm); (case k3 => k_asm); (case k5 => k_asm); (case k6 => first | exact rfl | assumption); (case ka => tb_start); (case kb => tb_start); (case kc1 => exact Nat.ne_of_gt (by assumption)); (case kc2 => exact ne_of_allLt (by assumption)); (case kc3 => exact rfl); (case kc4 => omega); (case kc5 => omega); (case kc6 => (rw [KBw.ints_length]; omega)); (case kc7 => (rw [KBw.ints_length]; omega)); (case kE => exact fun hno => nomatch hno); (case kp => omega);   (case kd => ktr_room); (case ku => ktr_units); k_whole); intro b' t' hv' p' u' h' tk' ho' hb' hp' he' F' N'; (try clear kN); (obtain ⟨hb8, hp9⟩ := hex_after (k := 1) ho' hb' (by omega) hp' he' (by omega) rfl); (have hb9 := due_hex2 hczi hHx hb8); clear ho' hb' hb8; (try k_sweep))
    | ((with_reducible show wpAny _ _ (call (Value.ref 373) _) _ _ _); (rename News _ _ _ _ => kN); k_dflt (refine' next_hex_c ?k1 ?k2 ?k3 (news_pick2 kN ?ka ?kb) ?k5 ?k6 ?kd ?ku ?kc1 ?kc2 ?kc3 ?kc4 ?kc5 ?kc6 ?kc7 hKs hK6 hKp hKt ?kE ?_; (case k1 => k_asm); (case k2 => k_asm); (case k3 => k_asm); (case k5 => k_asm); (case k6 => first | exact rfl | assumption); (case ka => tb_start); (case kb => tb_start); (case kc1 => exact Nat.ne_of_gt (by assumption)); (case kc2 => exact ne_of_allLt (by assumption)); (case kc3 => exact rfl); (case kc4 => omega); (case kc5 => omega); (case kc6 => (rw [KBw.ints_length]; omega)); (case kc7 => (rw [KBw.ints_length]; omega));     (case kE => exact fun hno => nomatch hno); (case kd => ktr_room); (case ku => ktr_units); k_whole); intro tu' q1' at' tat' b' t' hv' r2' h' tk' lt' hat ho' hb' F' N'; (try clear kN); (have hb9 := due_hex hczi hHx ho' hb'; clear ho' hb'; simp only [List.length_append, List.length_cons, List.length_nil, KBw.ints_length] at hat; ); (try k_sweep))
    | ((with_reducible show wpAny _ _ (call (Value.ref 441) _) _ _ _); (rename News _ _ _ _ => kN); (rename Below _ _ _ _ => oB); (rename Fr _ _ _ _ => oF); (rename Top _ _ _ _ _ _ => oT); (rename Frag.In _ _ => oX); (rename KtsDicts _ _ => oD); k_dflt (refine' fault_c (g₀ := g') oB oF oX kN oT ?k6 ?kd ?ku ?kXB ?kTB oD ?kT0 (raises_hex (T := [62, 62]) (Nat.ne_of_gt (by assumption)) (ne_of_allLt (by assumption)) hA hD hHx (by omega) (by omega) (by omega)) ?_; (case k6 => first | exact rfl | assumption); (case kd => ktr_room); (case ku => ktr_units); (case kXB => assumption); (case kTB => assumption); (case kT0 => first | assumption | exact KtsTurn.refl)); clear oB oF oT oX oD kN; (try clear oTn); intro t9 h' h₁ tk' oTn F' N' B' X' T' D'; (try k_dflt (replace N' : News h₁ L' h' ((pn, listOf [.ref inn, .int pl2 tp2, .int gr2 tg2].toArray nn2) :: (inn, listOf cells.toArray n2) :: (cd, listOf cvs.toArray n3) :: rest) := news_sub N' (by kcj_in))); (try k_sweep))
  k_steps
  all_goals (rename News _ _ _ _ => nE)
  all_goals first
      | (refine hQ _ _ _ _ _ _ _ ?_ ?_ ?_ (by assumption) (news_sub nE (by kcj_in)) <;> omega)
      | (rename Spelt _ _ => hSp; refine' way_mk (_, _, _, _, _, _, _, _, _) ?eF1 ?eN1 ?em1 ?en1 ?ej1; (case eF1 => assumption); (case eN1 => assumption); (case em1 => (intro y; (by_cases q0 : y = (Str.ofString "inner"); (subst q0; rfl)); (by_cases q1 : y = (Str.ofString "due"); (subst q1; rfl)); simp only [q0, q1, if_false, reduceIte])); (case en1 => kcj_in); (case ej1 => exact ⟨litOk_B hczi hSp (by assumption) (by assumption), by dsimp only; omega, by dsimp only; (try simp only [Array.size_append, List.size_toArray, List.length_cons, List.length_nil, List.length_map]); (try rw [byteArr_size]); omega, by assumption, by dsimp only; omega, by assumption⟩))
      | (rename Spelt _ _ => hSp; refine' way_mk (_, _, _, _, _, _, _, _, _) ?eF2 ?eN2 ?em2 ?en2 ?ej2; (case eF2 => assumption); (case eN2 => assumption); (case em2 => (intro y; (by_cases q0 : y = (Str.ofString "inner"); (subst q0; rfl)); (by_cases q1 : y = (Str.ofString "due"); (subst q1; rfl)); simp only [q0, q1, if_false, reduceIte])); (case en2 => kcj_in); (case ej2 => exact ⟨litOk_A hczi hSp, by dsimp only; omega, by dsimp only; (try simp only [Array.size_append, List.size_toArray, List.length_cons, List.length_nil, List.length_map]); (try rw [byteArr_size]); omega, by assumption, by dsimp only; omega, by assumption⟩))
end Mine
end
section
open PySem PySem.W PyProof.Rows PySem.Calls PySem.Spec
namespace Mine
section
open LCg
variable {prog : Program} {w : World} {A : Around} {E : Value → Shared → Prop} {s : Shared} {h₀ : Heap} {L : Addr} {m : Str → Option Value} {env : Env}
/-- a comprehension over a row: what holds of each item made -/
theorem comp_invS {elt : Expr} {x : Str} {scope : Scope} {cl : List (Str × Addr)} {news : List (Addr × Obj)} {n : Nat} {S : List (Addr × Obj) → Prop} {P : Nat → Value → Prop} {Fin : List Value → List (Addr × Obj) → Prop} (f : Nat → Value → Prop) (hS : S news)
    (turn : ∀ i ys v I oI C oC D m₂ h tk (E' : Value → Shared → Prop), P i v → NsObj oC m₂ → m₂ x = some v → Fr h₀ L h m → News h₀ L h ((I, oI) :: (C, oC) :: (D, lst ys) :: news) →
      wpAny (model prog w) A (eval elt (compEnvC scope cl C env)) (CompOK h₀ L m { s with heap := h, toks := tk } ((I, oI) :: (C, oC) :: (D, lst ys) :: news) (f i)) E' { s with heap := h, toks := tk })
    (fin : ∀ ys, ys.length = n → (∀ i v, ys[i]? = some v → f i v) → Fin ys news) :
    ∀ k i ys, k + i = n → ys.length = i → (∀ j v, ys[j]? = some v → f j v) → CompRest prog w A h₀ L m env elt x scope cl s S P Fin k i ys news
  | 0, i, ys, hk, hl, hf => fin ys (by omega) hf
  | k + 1, i, ys, hk, hl, hf => by
    intro v I oI C oC D m₂ h tk E' hP hC hx F N off ne
    refine wpAny_mono (turn i ys v I oI C oC D m₂ h tk E' hP hC hx F N) (fun y s₂ z => ?_) fun _ _ e => e
    obtain ⟨hy, h', tk', rfl, F', N'⟩ := z
    refine ⟨h', tk', news, rfl, F', N', off, hS, comp_invS f hS turn fin k (i + 1) (ys ++ [y]) (by omega) (by rw [List.length_append, hl]; rfl) fun j v hj => ?_⟩
    by_cases q : j < ys.length
    · rw [List.getElem?_append_left q] at hj; exact hf j v hj
    · rw [List.getElem?_append_right (by omega)] at hj
      have e : j - ys.length = 0 := by
        cases hh : j - ys.length with
        | zero => rfl
        | succ _ => rw [hh] at hj; cases hj
      rw [e] at hj
      cases hj
      have : j = i := by omega
      rw [this]; exact hy
end
section
variable {prog : Program} {w : World} {A : Around} {E : Value → Shared → Prop} {Q : Flow → Shared → Prop} {s : Shared} {env : Env} {h₀ : Heap}
/-- a for over range(v), v small, that only turns its own name -/
theorem my_forU {σ : Type} {x : Str} {body : List Stmt} {r : Addr} {v : Int} {t₀ u₀ v₀ : Tok} {m₀ : Str → Option Value} {news : List (Addr × Obj)} (Led : σ → List (Addr × Obj)) (J : Nat → σ → Prop) (c₀ : σ)
    (hv : 0 ≤ v) (hv9 : v < 9) (hh : A.handled = none) (hr : IsRange s.heap r 0 v 1 t₀ u₀ v₀) (F : Fr h₀ env.locals s.heap m₀) (N : News h₀ env.locals s.heap news)
    (hl : ∀ p ∈ Led c₀, p ∈ news) (hadr : ∀ c, (Led c).map Prod.fst = (Led c₀).map Prod.fst) (hJ : J 0 c₀)
    (turn : ∀ (i : Nat) (c₁ : σ) (u : Str → Option Value) I t h tk, i < 9 → J i c₁ → (∀ p ∈ Led c₁, p.1 ≠ I) → Fr h₀ env.locals h (fun y => if y = x then some (.int (0 + (i : Int) * 1) t) else if y = x then u y else m₀ y) →
      News h₀ env.locals h ((I, krsIt (0 + ((i + 1 : Nat) : Int) * 1) ((v.toNat : Int) - ((i + 1 : Nat) : Int)) 1) :: Led c₁) →
      wpAny (model prog w) A (execs body env) (ForPost h₀ env.locals s (fun _ u y => if y = x then u y else m₀ y) Led I (krsIt (0 + ((i + 1 : Nat) : Int) * 1) ((v.toNat : Int) - ((i + 1 : Nat) : Int)) 1) (J (i + 1)) Q) E { s with heap := h, toks := tk })
    (fin : ∀ (n : Nat) (c₁ : σ) (u : Str → Option Value) h tk, n < 9 → J n c₁ → Fr h₀ env.locals h (fun y => if y = x then u y else m₀ y) → News h₀ env.locals h (Led c₁) → Q .next { s with heap := h, toks := tk }) :
    wpAny (model prog w) A (pyIter (.ref r)) (fun it s₂ => LoopAtV prog w A h₀ env x body Q E it s₂) E s :=
  my_for (fun _ u y => if y = x then u y else m₀ y) Led J c₀ hh hr (small_up (k := v.toNat) (by omega) (by omega)) (size_up (k := v.toNat) (by omega)) F N (fun y => by split <;> rfl) hl hadr hJ
    (fun i c₁ u I t h tk hi hj hI F N => turn i c₁ u I t h tk (by omega) hj hI F N) (fun c₁ u h tk hj F N => fin v.toNat c₁ u h tk (by omega) hj F N)
end
theorem strs_of : ∀ {ys : List Value} {cs : List Int}, ys.length = cs.length → (∀ (i : Nat) (v : Value), ys[i]? = some v → ∃ t, v = .str (chS (cs.getD i 0)) t) → StrsAre ys (cs.map chS)
  | [], [], _, _ => .nil
  | [], _ :: _, h, _ => by simp at h
  | _ :: _, [], h, _ => by simp at h
  | y :: ys, c :: cs, h, k => by
    obtain ⟨t, rfl⟩ := k 0 y rfl
    exact .cons _ t (strs_of (by simpa using h) fun i v hv => k (i + 1) v hv)
theorem ints_of : ∀ {ys : List Value} {cs : List Int}, ys.length = cs.length → (∀ (i : Nat) (v : Value), ys[i]? = some v → ∃ t, v = .int (cs.getD i 0) t) → IntsAre ys cs
  | [], [], _, _ => .nil
  | [], _ :: _, h, _ => by simp at h
  | _ :: _, [], h, _ => by simp at h
  | y :: ys, c :: cs, h, k => by
    obtain ⟨t, rfl⟩ := k 0 y rfl
    exact .cons _ t (ints_of (by simpa using h) fun i v hv => k (i + 1) v hv)
/-- the codes without 0 -/
def noZ (l : List Int) (k : Int) : List Int := if k ≠ 0 then l ++ [k] else l
theorem noZ_grows : KPfGrows noZ := fun l k => by unfold noZ; split <;> simp
theorem noZ_in : ∀ (cz acc : List Int), (∀ x ∈ acc, x ≠ 0 ∧ 0 ≤ x ∧ x < 256) → KBa.In cz → ∀ x ∈ cz.foldl noZ acc, x ≠ 0 ∧ 0 ≤ x ∧ x < 256
  | [], acc, h, _ => h
  | c :: r, acc, h, hi => by
    refine noZ_in r (noZ acc c) (fun x hx => ?_) fun x hx => hi x (.tail _ hx)
    unfold noZ at hx
    split at hx
    · rcases List.mem_append.mp hx with hx | hx
      · exact h x hx
      · rw [List.mem_singleton.mp hx]; exact ⟨by assumption, hi c (.head _)⟩
    · exact h x hx
theorem noZ_len : ∀ (cz acc : List Int), (cz.foldl noZ acc).length ≤ acc.length + cz.length
  | [], acc => by simp
  | c :: r, acc => by
    have := noZ_len r (noZ acc c)
    have h2 := noZ_grows acc c
    simp only [List.foldl_cons, List.length_cons]
    omega
theorem in_snoc {cs : List Int} {v : Int} (h : KBa.In cs) (h0 : 0 ≤ v) (h1 : v < 256) : KBa.In (cs ++ [v]) := fun x hx => by
  rcases List.mem_append.mp hx with hx | hx
  · exact h x hx
  · rw [List.mem_singleton.mp hx]; exact ⟨h0, h1⟩
theorem marks_in : KBa.In marks := by
  have h : ∀ x ∈ marks, (0 : Int) ≤ x ∧ x < 256 := by decide
  exact fun x hx => h x hx
end Mine
end
section
open PySem PySem.W PyProof.Rows PySem.Calls PySem.Spec
namespace Mine
section
variable {b r1 r2 t : Array UInt8} {sp T : List Int}
theorem nm_rem (h1 : KBw.bInts r1 = KBw.bInts #[10, 47] ++ KBw.bInts b) (h2 : KBw.bInts r2 = KBw.bInts r1 ++ T) : swL false (rem (KBw.bInts r2) 0 (r2.size : Int)) = 47 :: (KBw.bInts b ++ T) := by
  rw [show rem (KBw.bInts r2) 0 (r2.size : Int) = KBw.bInts r2 from rem_from (l := []) (r := KBw.bInts r2) rfl rfl (by rw [KBw.ints_length]), h2, h1]
  rfl
theorem nm_nt (h : Named sp (KBw.bInts b)) (hT : After T) : ntL (((KBw.bInts b ++ T).takeWhile isRegular).length + 1) ((KBw.bInts b ++ T).takeWhile isRegular) [] = some sp := by
  rw [reg_take h (after_reg hT)]
  exact name_whole h (Nat.lt_succ_self _)
theorem nm_zero (h : KBw.bInts r1 = KBw.bInts #[35, 48, 48] ++ KBw.bInts b) : ntL ((KBw.bInts r1).length + 1) (KBw.bInts r1) [] = none := by
  rw [h]
  exact name_zero0
theorem nm_len (h1 : KBw.bInts r1 = KBw.bInts #[10, 47] ++ KBw.bInts b) (h2 : KBw.bInts r2 = KBw.bInts r1 ++ T) : (r2.size : Int) - (((KBw.bInts b ++ T).length : Int) + 1) = 1 := by
  have e1 := congrArg List.length h1
  have e2 := congrArg List.length h2
  simp only [List.length_append, KBw.ints_length, List.size_toArray, List.length_cons, List.length_nil] at e1 e2 ⊢
  omega
end
section
variable {w : World} {c d : Addr} {H1 H2 H3 : Int} {t1 t2 t3 t4 t5 t6 : Tok} {data b r1 : Array UInt8} {sp : List Int} {rest : List (Addr × Obj)}
theorem raises_name (hcd : c ≠ d) (hne : ∀ p ∈ rest, p.1 ≠ d) (h1 : KBw.bInts r1 = KBw.bInts #[10, 47] ++ KBw.bInts b) (h2 : KBw.bInts data = KBw.bInts r1 ++ KBw.bInts #[35, 48, 48]) (ok : Named sp (KBw.bInts b)) (hz : data.size ≤ 100000) :
    RaisesAt w 373 c 1 ((d, dictOf [⟨H1, .str (Str.ofString "data") t1, .bytes data t4⟩, ⟨H2, .str (Str.ofString "at") t2, .int 0 t5⟩, ⟨H3, .str (Str.ofString "end") t3, .int (data.size : Int) t6⟩] 3) :: (c, instObj 187 d) :: rest) rest := by
  intro dp un gd cn cs a ccd cl outer A₀ base h₀ L m s Q E mg mb mean loose B F X N T hk hd hu hE
  have hl : (KBw.bInts data).length = data.size := KBw.ints_length _
  refine next_name_c (OUT := none) (r := KBw.bInts b ++ [35, 48, 48]) B F X N T hk hd hu hcd hne rfl (Int.le_refl _) (by omega) (by rw [hl]; exact Int.le_refl _) (by rw [hl]; exact hz) (nm_rem h1 h2) ?_ (fun _ e g₂ h' tk' Fg R U => hE e g₂ h' tk' Fg ?_ U) (fun tu q1 at_ tat cs' t' h' tk' _ _ ho => nomatch ho)
  · rw [reg_take2 ok]
    exact name_zero ok (by simp)
  · have e := nm_len (T := [35, 48, 48]) h1 h2
    rw [e] at R
    exact R
end
end Mine
end
section
open PySem PySem.W PyProof.Rows PySem.Calls
namespace Mine
theorem names_c {w : World} {dp un : Nat} {gd : Option (List Code)} {cn : Str} {cs : Scope} {a : Addr} {ccd : Value} {A₀ : Around} {base h₀ : Heap} {L : Addr} {m : Str → Option Value} {s : Shared} {Q E : Value → Shared → Prop} {mg mb : Str → Option Value} {mean : ExcName → Option Value} {loose : List Str} {pn inn : Addr} {place great : Int} {tp tg : Tok} {n1 n2 : Nat} {cells : List Value} {cs_ : List Int} {rest : List (Addr × Obj)} {cd : Addr} {cvs : List Value} {n3 : Nat} {cz : List Int}
  (B : Below A₀ base [] h₀) (F : Fr h₀ L s.heap m) (X : (Mine.hd.heap_1 w.params).In h₀) (N : News h₀ L s.heap ((pn, listOf [.ref inn, .int place tp, .int great tg].toArray n1) :: (inn, listOf cells.toArray n2) :: (cd, listOf cvs.toArray n3) :: rest)) (T : Top Mine.view loose mean mg mb h₀) (hk : cs.kind = .function) (hd : dp + 200 < recursionLimit) (hu : un + 6000 < cLine) (XB : (Mine.hd.heap_1 w.params).In base) (TB : Top Mine.view loose mean mg mb base) (hpi : @Ne Nat pn inn) (hpr : ∀ p ∈ rest, p.1 ≠ pn) (hcs : IntsAre cells cs_) (hcl : cs_.length ≤ 1000) (hpl : 0 ≤ place) (hpm : place < 80000) (hgr : 0 ≤ great) (hcz : IntsAre cvs cz) (hczi : KBa.In cz) (hczl : cz.length ≤ 8) (hcn : @Ne Nat cd pn)
  (hQ : ∀ place' great' tp' tg' n' h' tk', 0 ≤ place' → place' ≤ place + 90 → 0 ≤ great' → Fr h₀ L h' m → News h₀ L h' ((pn, listOf [.ref inn, .int place' tp', .int great' tg'].toArray n') :: (inn, listOf cells.toArray n2) :: (cd, listOf cvs.toArray n3) :: rest) → Q (.bool true) { s with heap := h', toks := tk' }) :
  wpAny (model Challenge.rw_nn0223_01.row.prog w) (ktrTop dp un gd cn cs L a ccd [] []) (call (.ref 453) [.ref pn, .ref cd]) Q E s := by
  k_with_none
  w_top off
  k_with "MyPost" =>
    (dsimp only [MyPost])
  k_with "eval Call" =>
    ((with_reducible show wpAny _ _ (eval (Expr.Call (Expr.Name _ _) _ [] _) _) _ _ _); k_dflt (refine Call_ ?_))
  k_with "eval Call Attribute" =>
    ((with_reducible show wpAny _ _ (eval (Expr.Call (Expr.Attribute _ _ _) _ [] _) _) _ _ _); k_dflt (refine MethodCall_ ?_))
  k_with "compareOp In int ref" =>
    ((with_reducible show wpAny _ _ (compareOp CmpOp.In (Value.int _ _) (Value.ref 62)) _ _ _); refine in_tuple_ints (ns := [0, 9, 10, 12, 13, 32]) (tupK (Frag.In.keeps (by k_asm) (Fr.keep (by k_asm))) (by k_is)) (by repeat constructor) ?_)
  k_with "compareOp NotIn int ref" =>
    ((with_reducible show wpAny _ _ (compareOp CmpOp.NotIn (Value.int _ _) (Value.ref 62)) _ _ _); refine notin_tuple_ints (ns := [0, 9, 10, 12, 13, 32]) (tupK (Frag.In.keeps (by k_asm) (Fr.keep (by k_asm))) (by k_is)) (by repeat constructor) ?_)
  k_with "compareOp NotIn int ref" =>
    ((with_reducible show wpAny _ _ (compareOp CmpOp.NotIn (Value.int _ _) (Value.ref 63)) _ _ _); refine notin_tuple_ints (ns := [40, 41, 60, 62, 91, 93, 123, 125, 47, 37]) (tupK (Frag.In.keeps (by k_asm) (Fr.keep (by k_asm))) (by k_is)) (by repeat constructor) ?_)
  k_with "compareOp In int ref" =>
    ((with_reducible show wpAny _ _ (compareOp CmpOp.In (Value.int _ _) (Value.ref 304)) _ _ _); refine in_tuple_ints (ns := [91, 93, 123, 125]) (tupK (Frag.In.keeps (by k_asm) (Fr.keep (by k_asm))) (by k_is)) (by repeat constructor) ?_)
  k_with "call ref" =>
    ((with_reducible show wpAny _ _ (call (Value.ref 401) _) _ _ _); (rename News _ _ _ _ => kN); k_dflt (refine' draw_c (by k_asm) (by k_asm) (by k_asm) (news_pick2r kN (by tb_start) (by tb_start)) (by k_asm) (by first | exact rfl | assumption) (by ktr_room) (by ktr_units) (by k_ne) (by k_all) (by assumption) (by omega) (by omega) (by omega) (by omega) (by omega) (by omega) ?_; k_whole); intro _ _ _ _ _ _ _ _ _ _ _ _ _ _ _ _; (try clear kN); (try k_sweep))
  k_with "call ref" =>
    ((with_reducible show wpAny _ _ (call (Value.ref 434) _) _ _ _); (rename News _ _ _ _ => kN); k_dflt (refine' law_named_c (by k_asm) (by k_asm) (by k_asm) (news_pick3 kN (by tb_start) (by tb_start) (by tb_start)) (by k_asm) (by first | exact rfl | assumption) (by ktr_room) (by ktr_units) (by k_ne) (by k_all) (by assumption) (by omega) (by omega) (by omega) (by omega) (by assumption) (by assumption) (by omega) (by first | assumption | k_ne) (by assumption) ?_; k_whole); intro _ _ _ _ _ _ _ _ _ _ _ _ _ _ _ _; (try clear kN); (try k_sweep))
  k_with "call ref" =>
    ((with_reducible show wpAny _ _ (call (Value.ref 187) [_]) _ _ _); (rename News _ _ _ _ => kN); k_dflt (refine' cursor1_c (at_ := 0) (e_ := 0) (u2 := 0) (u3 := 0) (by k_asm) (by k_asm) (by k_asm) kN (by k_asm) (by first | exact rfl | assumption) (by ktr_room) (by ktr_units) (by omega) ?_; k_whole); intro _ _ _ _ _ _ _ _ _ _ _ _ _ _ _ _ _ _; (try clear kN); (try k_sweep))
  k_with "call ref" =>
    ((with_reducible show wpAny _ _ (call (Value.ref 187) [_, _]) _ _ _); (rename News _ _ _ _ => kN); k_dflt (refine' cursor2_c (e_ := 0) (u3 := 0) (by k_asm) (by k_asm) (by k_asm) kN (by k_asm) (by first | exact rfl | assumption) (by ktr_room) (by ktr_units) (by omega) ?_; k_whole); intro _ _ _ _ _ _ _ _ _ _ _ _ _ _ _ _ _ _; (try clear kN); (try k_sweep))
  k_with "call ref" =>
    ((with_reducible show wpAny _ _ (call (Value.ref 187) [_, _, _]) _ _ _); (rename News _ _ _ _ => kN); k_dflt (refine' cursor3_c (by k_asm) (by k_asm) (by k_asm) kN (by k_asm) (by first | exact rfl | assumption) (by ktr_room) (by ktr_units) (by omega) (by omega) (by omega) ?_; k_whole); intro _ _ _ _ _ _ _ _ _ _ _ _ _ _ _ _ _ _; (try clear kN); (try k_sweep))
  k_with "binaryOp Add bytes bytes" =>
    (k_dflt (refine' my_addB (by ((try simp only [List.size_toArray, List.length_cons, List.length_nil]); omega)) ?_); intro _ _ _ _ _; (rename_i hz'); (try simp only [List.size_toArray, List.length_cons, List.length_nil] at hz'); (revert hz'; intro _))
  k_with "subscriptTail" =>
    ((with_reducible show wpAny _ _ (subscriptTail _ _ (Value.bytes _ _) (Value.int _ _)) _ _ _); k_dflt (refine' KBw.item_K rfl (by (rw [KBw.ints_length]; omega)) (by omega) (by (rw [KBw.ints_length]; omega)) ?_); intro _ _ _ _)
  k_with "subscriptTail" =>
    ((with_reducible show wpAny _ _ (subscriptTail _ _ (Value.ref _) (Value.int _ _)) _ _ _); k_dflt (refine' my_pickB (vs := [_, _, _, _]) After (by k_asm) (by k_mem) (by exact after_ok) (by omega) (by (simp only [List.length_cons, List.length_nil]; omega)) (by exact Nat.le_of_ble_eq_true rfl) ?_); intro _ _ _ _; (rename_i hb' hz'); (have hs' := after_size hb'); (revert hb' hz' hs'; intro _ _ _))
  k_with "compareOp NotEq bytes bytes" =>
    ((refine' my_neB (by assumption) ?_))
  k_with "compareOp NotEq int int" =>
    ((refine' my_neI (by omega) ?_))
  k_with "compareOp Eq int int" =>
    ((refine' my_eqI (by omega) ?_))
  k_with "compareOp NotEq ref ref" =>
    (k_dflt (refine' my_ne3 (by k_asm) (by k_mem) (by k_mem) (by first | exact eqv_bytes (by assumption) | exact eqv_str rfl) (by omega) (by ktr_units) ?_))
  k_with "compareOp Eq ref ref" =>
    (k_dflt (refine' my_eq3 (by k_asm) (by k_mem) (by k_mem) (by first | exact eqv_bytes (by assumption) | exact eqv_str rfl) (by omega) (by ktr_units) ?_))
  k_with "call builtin:len" =>
    ((with_reducible show wpAny _ _ (call (Value.builtin _) [Value.bytes _ _]) _ _ _); k_dflt (refine' my_lenB (by omega) ?_); intro _ _)
  k_with "compareOp NotEq str str" =>
    ((refine' my_neS (by exact rfl) ?_))
  k_with "exec Assign cons ListComp" =>
    (k_dflt (refine LCt.Assign_ListComp_T (F₀ := by k_asm) (by rfl) (by with_unfolding_all rfl) (by with_unfolding_all rfl) (by decide) (by rfl) (by decide) (by rfl) (by rfl) (by rfl) ?_))
  k_with "eval ListComp" =>
    (k_dflt (refine LCg.ListComp_U (F₀ := by k_asm) (by with_unfolding_all rfl) (by decide) (by rfl) (by decide) (by rfl) ?_))
  k_with "call builtin:chr" =>
    ((refine' my_chr (by omega) (by omega) ?_))
  k_with "call builtin:str.join" =>
    ((refine' my_join (by k_asm) (by k_mem) (by assumption) (by omega) ?_); intro _ _)
  revert X; k_fill; intro X
  have hvl := hcz.length
  refine wpAny_call ?_
  k_dflt (refine' code_defS0 (binds := [((Str.ofString "pen"), .ref pn), ((Str.ofString "codes"), .ref cd)]) ?k1 ?k2 ?k3 ?k4 ?k5 ?kA ?k6 ?k7 ?k8 ?k9 ?kB ?_ ?cK ?c2 ?c3 ?c4 ?c5; (case kA => exact rfl); (case k2 => k_asm); (case k1 => k_asm); (case k3 => k_asm); (case k4 => k_asm); (case k5 => k_asm); (case k6 => k_is); (case k7 => k_is); (case k8 => ktr_room); (case k9 => first | exact BindsTo.of_eq rfl | exact binds_K (by k_in) rfl (by k_is) rfl rfl rfl); (case kB => exact locs rfl); (case cK => assumption); (case c2 => exact rfl); (case c3 => exact rfl); (case c4 => exact rfl); (case c5 => decide))
  k_whole
  intro g' L' h' FG' F' N' B' X' T' D'
  (try dsimp only [List.reverse_cons, List.reverse_nil, List.nil_append, List.cons_append]); (try k_fold)
  k_with "CompSrcT" =>
    (rename Fr _ _ _ _ => lF'); (rename News _ _ _ _ => lN')
    k_dflt (refine' LCt.CompSrcT.ledger rfl lF' lN' ?qm ?qz ?_)
    (case qm => k_mem)
    (case qz => (rw [sizeLine_eq, List.size_toArray]; omega))
    intro g9
    k_dflt (refine' kci_list noZ hcz ?jt ?jf noZ_grows)
    (case' jf => (intro ys9 hys hyl; have hsz := noZ_len cz []; have hsi := noZ_in cz [] (fun x hx => nomatch hx) hczi; simp only [List.length_nil, Nat.zero_add] at hsz; obtain ⟨sp, hsp⟩ : ∃ sp : List Int, sp = List.foldl noZ [] cz := ⟨_, rfl⟩; rw [← hsp] at hys hsz hsi; clear hsp; have hs0 : ∀ x ∈ sp, x ≠ 0 := fun x hx => (hsi x hx).1; have hsin : KBa.In sp := fun x hx => (hsi x hx).2; clear hsi; have hyl2 := hys.length))
    (case' jt => (intro k9 t9 I9 oI9 C9 oC9 D9 m9 ys9 l9 h9 tk9 E9 hk9 hy9 hC9 hx9 F9 N9 off9 ne9 mk9; clear lF' lN'))
  k_with "CompSrc" =>
    (rename Fr _ _ _ _ => lF'); (rename News _ _ _ _ => lN')
    k_dflt (refine' LCg.CompSrc.ledger (its := ys9.toArray) rfl lF' lN' ?qm2 ?qz2 ?_)
    (case qm2 => k_dflt (exact .tail _ (.tail _ (.head _))))
    (case qz2 => (rw [sizeLine_eq, List.size_toArray]; omega))
    intro g8
    k_dflt (refine' comp_invS (n := ys9.toArray.size) (fun i v => ∃ t, v = .str (chS (sp.getD i 0)) t) (.inr ⟨listOf ys9.toArray ys9.length, .tail _ (.tail _ (.head _)), rfl, ys9.length, rfl⟩) ?ju ?jg _ 0 [] (Nat.add_zero _) rfl (fun j v h => by simp at h))
    (case' jg => (intro zs hzl hzs; k_dflt (have hst := strs_of (hzl.trans ((List.size_toArray ..).trans hyl2)) hzs); clear hzs))
    (case' ju => (intro i8 zs8 v8 I8 oI8 C8 oC8 D8 m8 h8 tk8 E8 hP8 hC8 hx8 F8 N8; k_dflt (obtain ⟨k8, t8, hv8, hk8⟩ := ints_at hys (show ys9[i8]? = some v8 by simpa using hP8)); subst hv8; k_dflt (obtain ⟨hk80, hk81⟩ := hsin k8 (List.mem_of_getElem? hk8)); clear lF' lN'))
  k_with "call ref" => first
    | ((with_reducible show wpAny _ _ (call (Value.ref 326) _) _ _ _); (rename Named _ _ => hNm); (rename News _ _ _ _ => kN); k_dflt (refine' name_text_c (args := [_]) (OUT := some sp) ?k1 ?k2 ?k3 kN ?k5 ?k6 ?kd ?ku ?kar ?kks ?kl3 ?kE ?knt ?_; (case k1 => k_asm); (case k2 => k_asm); (case k3 => k_asm); (case k5 => k_asm); (case k6 => first | exact rfl | assumption); (case kar => exact .inr ⟨rfl, rfl, rfl⟩); (case kks => exact rfl); (case kl3 => (rw [KBw.ints_length]; omega)); (case kE => exact fun hno => nomatch hno); (case knt => exact name_whole hNm (Nat.lt_succ_self _)); (case kd => ktr_room); (case ku => ktr_units); k_whole); intro cs' h' tk' t' ho' F' N'; (try clear kN); (obtain rfl := Option.some.inj ho'); (try k_sweep))
    | ((with_reducible show wpAny _ _ (call (Value.ref 373) _) _ _ _); (rename After _ => hAf); (have hKs := nm_rem (by assumption) (by assumption)); (have hKe := nm_len (by assumption) (by assumption)); (have hKt := nm_nt hNm hAf); (rename News _ _ _ _ => kN); k_dflt (refine' next_name_c ?k1 ?k2 ?k3 (news_pick2 kN ?ka ?kb) ?k5 ?k6 ?kd ?ku ?kc1 ?kc2 ?kc3 ?kc4 ?kc5 ?kc6 ?kc7 hKs hKt ?kE ?_; (case k1 => k_asm); (case k2 => k_asm); (case k3 => k_asm); (case k5 => k_asm); (case k6 => first | exact rfl | assumption); (case ka => tb_start); (case kb => tb_start); (case kc1 => exact Nat.ne_of_gt (by assumption)); (case kc2 => exact ne_of_allLt (by assumption)); (case kc3 => exact rfl); (case kc4 => omega); (case kc5 => omega); (case kc6 => (rw [KBw.ints_length]; omega)); (case kc7 => (rw [KBw.ints_length]; omega));   (case kE => exact fun hno => nomatch hno); (case kd => ktr_room); (case ku => ktr_units); k_whole); intro tu' q1' at' tat' cs' t' h' tk' lt' hat ho' F' N'; (try clear kN); (obtain rfl := Option.some.inj ho'); (rw [hKe] at hat); (try k_sweep))
    | ((with_reducible show wpAny _ _ (call (Value.ref 441) _) _ _ _); (rename News _ _ _ _ => kN); (rename Below _ _ _ _ => oB); (rename Fr _ _ _ _ => oF); (rename Top _ _ _ _ _ _ => oT); (rename Frag.In _ _ => oX); (rename KtsDicts _ _ => oD); k_dflt (refine' fault_c (g₀ := g') oB oF oX kN oT ?k6 ?kd ?ku ?kXB ?kTB oD ?kT0 (raises_name (Nat.ne_of_gt (by assumption)) (ne_of_allLt (by assumption)) (by assumption) (by assumption) hNm (by omega)) ?_; (case k6 => first | exact rfl | assumption); (case kd => ktr_room); (case ku => ktr_units); (case kXB => assumption); (case kTB => assumption); (case kT0 => first | assumption | exact KtsTurn.refl)); clear oB oF oT oX oD kN; (try clear oTn); intro t9 h' h₁ tk' oTn F' N' B' X' T' D'; (try k_sweep))
    | ((with_reducible show wpAny _ _ (call (Value.ref 326) _) _ _ _); (rename News _ _ _ _ => kN); k_dflt (refine' name_text_c (args := [_, _]) (OUT := none) ?zk1 ?zk2 ?zk3 kN ?zk5 ?zk6 ?zkd ?zku (.inl rfl) rfl ?zk7 ?zkE ?zk8 (fun cs9 h9 tk9 t9 ho9 => nomatch ho9); (case zk1 => k_asm); (case zk2 => k_asm); (case zk3 => k_asm); (case zk5 => k_asm); (case zk6 => first | exact rfl | assumption); (case zkd => ktr_room); (case zku => ktr_units); (case zk7 => (rw [KBw.ints_length]; omega)); (case zk8 => exact nm_zero (by assumption))); intro hno9 e g₂ h'' tk'' Fg R U)
  k_with "getAttr ref" =>
    k_dflt (refine' syn_get F1 X1 N1 hSyn hHeld hData ?_)
    intro t9
  k_steps
  any_goals first
      | exact LCg.CompEnd.intro (by assumption) N9 _ (fun p hp => hp) off9 (.inr ⟨listOf cvs.toArray n3, .tail _ (.tail _ (.head _)), rfl, n3, rfl⟩) (kci_el (if_pos (by assumption)) rfl rfl)
      | exact LCg.CompEnd.intro (by assumption) N9 _ (fun p hp => hp) off9 (.inr ⟨listOf cvs.toArray n3, .tail _ (.tail _ (.head _)), rfl, n3, rfl⟩) (kci_no (if_neg (fun z => z (by assumption))) rfl)
      | exact ⟨⟨_, by rw [List.getD_eq_getElem?_getD, hk8]; rfl⟩, _, _, rfl, by assumption, by assumption⟩
      | skip
  rename RaisedD _ _ _ _ _ _ _ => hR9; rename Heap.UpToSlots _ _ => hU9; rename Fr _ _ _ _ => hF9
  k_dflt (refine' caughtD hR9 hF9 ?cK9 hU9 ?cX9 ?cT9 ?cD9 ?cT8 ?ce9 ?_; (case cK9 => assumption); (case cX9 => assumption); (case cT9 => assumption); (case cD9 => assumption); (case cT8 => assumption); (case ce9 => k_is))
  clear hR9 hU9 hF9 oTn
  intro h' g₁ dx o oe tk T1 hSyn hHeld hData F1 N1 B1 X1 P1 D1
  k_steps
  rename News _ _ _ _ => nE
  refine hQ _ _ _ _ _ _ _ ?_ ?_ ?_ (by assumption) (news_sub nE (by kcj_in)) <;> omega
end Mine
end
section
open PySem PySem.W PyProof.Rows PySem.Calls
namespace Mine
local macro_rules | `(tactic| k_qdec) => `(tactic| decide +kernel)
theorem law_holds : PySem.Challenge.rw_nn0223_01.Holds := by
  k_with_none
  w_top off
  k_with "MyPost" =>
    (dsimp only [MyPost])
  k_with "eval Call" =>
    ((with_reducible show wpAny _ _ (eval (Expr.Call (Expr.Name _ _) _ [] _) _) _ _ _); k_dflt (refine Call_ ?_))
  k_with "eval Call Attribute" =>
    ((with_reducible show wpAny _ _ (eval (Expr.Call (Expr.Attribute _ _ _) _ [] _) _) _ _ _); k_dflt (refine MethodCall_ ?_))
  k_with "compareOp In int ref" =>
    ((with_reducible show wpAny _ _ (compareOp CmpOp.In (Value.int _ _) (Value.ref 62)) _ _ _); refine in_tuple_ints (ns := [0, 9, 10, 12, 13, 32]) (tupK (Frag.In.keeps (by k_asm) (Fr.keep (by k_asm))) (by k_is)) (by repeat constructor) ?_)
  k_with "compareOp NotIn int ref" =>
    ((with_reducible show wpAny _ _ (compareOp CmpOp.NotIn (Value.int _ _) (Value.ref 62)) _ _ _); refine notin_tuple_ints (ns := [0, 9, 10, 12, 13, 32]) (tupK (Frag.In.keeps (by k_asm) (Fr.keep (by k_asm))) (by k_is)) (by repeat constructor) ?_)
  k_with "compareOp NotIn int ref" =>
    ((with_reducible show wpAny _ _ (compareOp CmpOp.NotIn (Value.int _ _) (Value.ref 63)) _ _ _); refine notin_tuple_ints (ns := [40, 41, 60, 62, 91, 93, 123, 125, 47, 37]) (tupK (Frag.In.keeps (by k_asm) (Fr.keep (by k_asm))) (by k_is)) (by repeat constructor) ?_)
  k_with "compareOp In int ref" =>
    ((with_reducible show wpAny _ _ (compareOp CmpOp.In (Value.int _ _) (Value.ref 304)) _ _ _); refine in_tuple_ints (ns := [91, 93, 123, 125]) (tupK (Frag.In.keeps (by k_asm) (Fr.keep (by k_asm))) (by k_is)) (by repeat constructor) ?_)
  k_with "call ref" =>
    ((with_reducible show wpAny _ _ (call (Value.ref 401) _) _ _ _); (rename News _ _ _ _ => kN); k_dflt (refine' draw_c (by k_asm) (by k_asm) (by k_asm) (news_pick2r kN (by tb_start) (by tb_start)) (by k_asm) (by first | exact rfl | assumption) (by ktr_room) (by ktr_units) (by k_ne) (by k_all) (by assumption) (by first | omega | (simp only [List.length_map, List.length_take]; omega)) (by omega) (by omega) (by omega) (by omega) (by omega) ?_; k_whole); intro _ _ _ _ _ _ _ _ _ _ _ _ _ _ _ _; (try clear kN); (try k_sweep))
  k_with "call ref" =>
    ((with_reducible show wpAny _ _ (call (Value.ref 387) _) _ _ _); (rename News _ _ _ _ => kN); k_dflt (refine' bars_c (by k_asm) (by k_asm) (by k_asm) kN (by k_asm) (by first | exact rfl | assumption) (by ktr_room) (by ktr_units)  ?_; k_whole); intro _ _ _ _ _ _ _ _ _; (try clear kN); (rename_i hi' hl' F' N'); (simp only [AllLt] at hl'); (have hml' := hi'.length); (first | rw [show marks.length = 16 from rfl] at hml' | rw [show bars.length = 17 from rfl] at hml'); (revert hi' hl' F' N' hml'; intro _ _ _ _ _); (try k_sweep))
  k_with "call ref" =>
    ((with_reducible show wpAny _ _ (call (Value.ref 394) _) _ _ _); (rename News _ _ _ _ => kN); k_dflt (refine' marks_c (by k_asm) (by k_asm) (by k_asm) kN (by k_asm) (by first | exact rfl | assumption) (by ktr_room) (by ktr_units)  ?_; k_whole); intro _ _ _ _ _ _ _ _ _; (try clear kN); (rename_i hi' hl' F' N'); (simp only [AllLt] at hl'); (have hml' := hi'.length); (first | rw [show marks.length = 16 from rfl] at hml' | rw [show bars.length = 17 from rfl] at hml'); (revert hi' hl' F' N' hml'; intro _ _ _ _ _); (try k_sweep))
  k_with "call type:range" =>
    ((rename Fr _ _ _ _ => zF'); (rename News _ _ _ _ => zN'); (with_unfolding_all refine range1_rows zF' zN' ?_); intro _ _ _ _ _ _ _ _ _)
  k_with "subscriptTail" =>
    ((with_reducible show wpAny _ _ (subscriptTail _ _ (Value.ref _) (Value.int _ _)) _ _ _); k_dflt (refine' my_item (ns := marks) (by k_asm) (by k_mem) (by assumption) (by omega) (by (rw [show marks.length = 16 from rfl]; omega)) (by exact Nat.le_of_ble_eq_true rfl) ?_); intro _)
  k_with "execs cons Assign cons" =>
    ((with_reducible refine wpAny_execs_cons ?_); (try dsimp only))
  k_with "ForPost" =>
    (dsimp only [ForPost])
  k_with "call builtin:len" =>
    ((with_reducible show wpAny _ _ (call (Value.builtin _) [Value.ref _]) _ _ _); k_dflt (refine' my_len (by k_asm) (by k_mem) (by omega) ?_))
  w_on
  refine holds_law wellL fun said => ?_
  refine holds_open (q := view) (loose := loose0) (Xt := XtM) (XP := XL view []) (Yf := hook.obs) (Ya := hook.val) (YP := Hook.says (kHook Mine.hd.heap_1 addrs addrs_eq)) (N := 5732) left (Hook.of hook) (Hook.keeps hook) (fun s e => xl_of s (Bool.and_eq_true_iff.mp e).1) XL.keeps (by rfl) (by rfl) (by rfl) (fun s e => recFacts_of (Bool.and_eq_true_iff.mp e).2) (by rfl) (by first | assumption | decide +kernel) (by decide +kernel) ⟨rfl, rfl, rfl, rfl, rfl, by decide +kernel⟩ ?hw ?hc
  case hw => w_witness2
  clear said
  k_go0
  k_with "call ref" => first
    | ((with_reducible show wpAny _ _ (call (Value.ref 448) _) _ _ _); (rename News _ _ _ _ => kN); k_dflt (refine' strings_c ?k1 ?k2 ?k3 (news_pick3 kN ?ka ?kb ?kc) ?k5 ?k6 ?kd ?ku ?kXB ?kTB ?kp1 ?kp2 hI8 hcl_ ?kp5 ?kp6 ?kp7 hcz hczi ?kq1 ?kq2 ?_; (case ka => tb_start); (case kb => tb_start); (case kc => tb_start); (case k1 => k_asm); (case k2 => k_asm); (case k3 => k_asm); (case k5 => k_asm); (case k6 => first | exact rfl | assumption); (case kXB => assumption); (case kTB => assumption); (case kd => ktr_room); (case ku => ktr_units); (case kp1 => k_ne); (case kp2 => k_all); (case kp5 => omega); (case kp6 => omega); (case kp7 => omega); (case kq1 => omega); (case kq2 => k_ne); k_whole); intro place' great' tp' tg' n' h' tk' hp0' hp1' hg' F' N'; clear kN; (try k_sweep))
    | ((with_reducible show wpAny _ _ (call (Value.ref 453) _) _ _ _); (rename News _ _ _ _ => kN); k_dflt (refine' names_c ?k1 ?k2 ?k3 (news_pick3 kN ?ka ?kb ?kc) ?k5 ?k6 ?kd ?ku ?kXB ?kTB ?kp1 ?kp2 hI8 hcl_ ?kp5 ?kp6 ?kp7 hcz hczi ?kq1 ?kq2 ?_; (case ka => tb_start); (case kb => tb_start); (case kc => tb_start); (case k1 => k_asm); (case k2 => k_asm); (case k3 => k_asm); (case k5 => k_asm); (case k6 => first | exact rfl | assumption); (case kXB => assumption); (case kTB => assumption); (case kd => ktr_room); (case ku => ktr_units); (case kp1 => k_ne); (case kp2 => k_all); (case kp5 => omega); (case kp6 => omega); (case kp7 => omega); (case kq1 => omega); (case kq2 => k_ne); k_whole); intro place' great' tp' tg' n' h' tk' hp0' hp1' hg' F' N'; clear kN; (try k_sweep))
  k_with "pyIter ref" =>
    (rename Fr _ _ _ _ => lF'); (rename News _ _ _ _ => lN'); (rename IsRange _ _ _ _ _ _ _ _ => hrg); (rename IntsAre ys _ => hI8); (rename _ < _ ∧ _ < _ ∧ _ < _ => l3)
    k_dflt (obtain ⟨cl, hcl, l4⟩ : ∃ z : Addr, z = _ ∧ (@LT.lt Nat _ _ z ∧ @LT.lt Nat _ _ z ∧ @LT.lt Nat _ _ z) := ⟨_, rfl, l3⟩)
    subst hcl
    clear l3
    k_dflt (obtain ⟨pn, hpn, l5⟩ : ∃ z : Addr, z = _ ∧ (@LT.lt Nat _ z cl ∧ @LT.lt Nat _ _ cl ∧ @LT.lt Nat _ _ cl) := ⟨_, rfl, l4⟩)
    subst hpn
    clear l4
    k_dflt (obtain ⟨inn, hinn, l6⟩ : ∃ z : Addr, z = _ ∧ (@LT.lt Nat _ pn cl ∧ @LT.lt Nat _ z cl ∧ @LT.lt Nat _ _ cl) := ⟨_, rfl, l5⟩)
    subst hinn
    clear l5
    (rename List Int => ns0)
    k_dflt (obtain ⟨cs_, hcs_⟩ : ∃ c : List Int, c = List.map (fun k' => k') (List.take 40 ns0) := ⟨_, rfl⟩)
    k_dflt (rw [← hcs_] at hI8)
    k_dflt (have hcl_ : cs_.length ≤ 1000 := by rw [hcs_, List.length_map, List.length_take]; omega)
    clear hcs_
    with_unfolding_all refine' my_forU (σ := List Value × Nat × Int × Tok × Int × Tok × Nat) (fun x => [(cl, listOf x.1.toArray x.2.1), (pn, listOf [.ref inn, .int x.2.2.1 x.2.2.2.1, .int x.2.2.2.2.1 x.2.2.2.2.2.1].toArray x.2.2.2.2.2.2), (inn, listOf ys.toArray ys.length)]) (fun i x => ∃ cz, IntsAre x.1 cz ∧ KBa.In cz ∧ cz.length = i ∧ 0 ≤ x.2.2.1 ∧ x.2.2.1 ≤ 1 + 2 * i ∧ 0 ≤ x.2.2.2.2.1) (_, _, _, _, _, _, _) ?jv ?jv9 rfl hrg lF' lN' ?jl (fun _ => rfl) ?jz ?jt ?jf
    (case jv => assumption)
    (case jv9 => assumption)
    (case jl => kcj_in)
    k_dflt ((case jz => exact ⟨[], .nil, (fun x hx => nomatch hx), rfl, by dsimp only; assumption, by dsimp only; omega, by dsimp only; assumption⟩))
    (case' jf =>
       (rintro n ⟨vs, nl, pl1, tp1, gr1, tg1, nn1⟩ u h tk hn ⟨cz, hcz, hczi, hczl, hy1, hy2, hy3⟩ lF lN
        dsimp only at lF lN hcz hczi hczl hy1 hy2 hy3
        (try clear lF' lN')))
    (case' jt =>
       (rintro i ⟨vs, nl, pl1, tp1, gr1, tg1, nn1⟩ u I t h tk hi ⟨cz, hcz, hczi, hczl, hy1, hy2, hy3⟩ hI lF lN
        (try clear lF' lN')
        dsimp only at lF lN hcz hczi hczl hy1 hy2 hy3 hI ⊢
        have hvl := hcz.length
        have hI1 : @Ne Nat pn I := by k_dflt (exact hI _ (List.Mem.tail _ (List.Mem.head _)))
        have hI2 : @Ne Nat cl I := by k_dflt (exact hI _ (List.Mem.head _))))
  repeat' walk1
  any_goals (with_reducible show ForEnd _ _ _ _ _ _ _ _ _)
  any_goals (rename News _ _ _ _ => nE; (try simp only [List.push_toArray] at nE))
  any_goals first
      | (refine' for_end (_, _, _, _, _, _, _) ?eF1 ?eN1 ?em1 ?en1 ?ej1; (case eF1 => assumption); (case eN1 => assumption); (case em1 => (intro y; (by_cases q0 : y = (Str.ofString "turn"); (subst q0; rfl)); simp only [q0, if_false, reduceIte])); (case en1 => kcj_in); (case ej1 => exact ⟨cz ++ [_], hcz.append (.cons _ _ .nil), in_snoc hczi (by assumption) (by assumption), by rw [List.length_append, hczl]; rfl, by dsimp only; assumption, by dsimp only; omega, by dsimp only; assumption⟩))
      | (refine' for_end (_, _, _, _, _, _, _) ?eF2 ?eN2 ?em2 ?en2 ?ej2; (case eF2 => assumption); (case eN2 => assumption); (case em2 => (intro y; (by_cases q0 : y = (Str.ofString "turn"); (subst q0; rfl)); simp only [q0, if_false, reduceIte])); (case en2 => kcj_in); (case ej2 => exact ⟨cz ++ [_], hcz.append (.cons _ _ .nil), in_snoc hczi (inD marks_in _).1 (inD marks_in _).2, by rw [List.length_append, hczl]; rfl, by dsimp only; assumption, by dsimp only; omega, by dsimp only; assumption⟩))
  wrow_close
end Mine
end
theorem PySem.Challenge.cw_nn0223_01_holds : PySem.Challenge.rw_nn0223_01.Holds :=
  Mine.law_holds
