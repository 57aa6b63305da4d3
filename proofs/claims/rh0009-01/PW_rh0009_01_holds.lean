import PyProof.Rows.All
import Wide.All
import OpenK.AllK
import Wide.FinOn
import Lean
import PySem.Challenge.RW_rh0009_01
set_option Elab.async false
set_option maxRecDepth 100000
set_option linter.all false
set_option genSizeOf false
set_option genInjectivity false
namespace Mine
theorem byC {P : Prop} (h : ¬P → False) : P := Classical.byContradiction h
end Mine
set_option tactic.hygienic false

section
open PySem PySem.W PyProof.Rows
set_option maxRecDepth 100000
set_option maxHeartbeats 8000000
namespace Mine
abbrev rowX : OpenRow := { PySem.Challenge.rw_rh0009_01.row with writes := true, records := [(Str.ofString "Bank", [])] }
def nat0 : Nat := 0
theorem leak (_h : rowX.Holds) : nat0 = 0 := rfl
theorem hd : nat0 + 0 = 0 := by
  simp (disch := k_head) only [leak, Nat.add_zero]
  rfl
end Mine
end

section
open PySem PySem.W PyProof.Rows
set_option maxRecDepth 100000
set_option maxHeartbeats 8000000
namespace Mine
def runG (st : SharedT → Thread → Option (SharedT × Thread)) (ok : Thread → Bool) : Nat → SharedT → Thread → Option SharedT
  | 0, _, _ => none
  | n + 1, s, t => match through t with
    | true => some s
    | false => match ok t with
      | false => none
      | true => match st s t with
        | some (s', t') => runG st ok n s' t'
        | none => none
theorem runG_top {tb : String → Option Builtin} {p : Program} {w : World} {n₀ : Nat} {ann : Option Value} : ∀ {n : Nat} {s s' : SharedT} {t : Thread}, runG (stepT (denote tb) p w) (stepOk n₀ ann) n s t = some s' → topRun tb p w n₀ ann n s.abs t = some s'.abs
  | 0, _, _, _, h => by cases h
  | n + 1, s, s', t, h => by
    unfold runG at h
    unfold topRun
    cases he : through t with
    | true => rw [he] at h; cases h; rfl
    | false =>
      rw [he] at h
      cases hk : stepOk n₀ ann t with
      | false => rw [hk] at h; cases h
      | true =>
        rw [hk] at h
        cases hs : stepT (denote tb) p w s t with
        | none => rw [hs] at h; cases h
        | some r => obtain ⟨s₂, t₂⟩ := r; rw [hs] at h; dsimp only; rw [stepT_spec hs]; exact runG_top h
def treeOf (l : List Obj) : BT := (l.foldl (fun t o => (t.1.ins t.2 o, t.2 + 1)) (BT.nil, 0)).1
noncomputable def t0 (P : Params) : BT := treeOf [boot_o_0 P, boot_o_1 P, boot_o_2 P, boot_o_3 P, boot_o_4 P, boot_o_5 P, boot_o_6 P, boot_o_7 P, boot_o_8 P, boot_o_9 P, boot_o_10 P]
theorem boot_abs (P : Params) : boot_heap P = absHeap (t0 P) 11 {} := by kernel_rfl
abbrev pw := PySem.Challenge.pw_rh0009_01
theorem boot_here (w : World) : Option.map (fun s => (s.heap, s.gens, s.drawn, s.toks)) (fencedOpening treeTable pw w 7000) = some (boot_heap w.params, #[], boot_drawn, boot_toks) :=
  boot_open (by kernel_rfl) (by kernel_rfl) (fun s => by kernel_rfl) w
theorem left_of {p q : Program} {loose : List Str} {Xt : Shared → Bool} {α : Type} {Yf : Shared → α} {Ya : World → α} {N n k m₀ : Nat} {H₀ : Params → Heap} {T₀ : Params → BT} {life : Life} {d : Drawn} {ann : Option Value}
    (open_ : ∀ w : World, (fencedOpening treeTable p w N).map (fun s => (s.heap, s.gens, s.drawn, s.toks)) = some (H₀ w.params, #[], d, k)) (ab : ∀ P, H₀ P = absHeap (T₀ P) n life)
    (size : ∀ w : World, ((H₀ w.params).isNs mainGlobals, (H₀ w.params).objs.size, (H₀ w.params).nsMap mainGlobals "__annotations__") = (true, m₀, ann))
    (run : ∀ (w : World) (os : OsState), (runG (stepT (denote treeTable) p w) (stepOk m₀ ann) N ⟨T₀ w.params, n, life, #[], d, k, os⟩ (topStub p)).map (fun t =>
      ((staticsOk (importedModules p.main.body) (H₀ w.params) t.abs.heap && namesBound p t.abs.heap && gensDone t.abs && laidKept (H₀ w.params) t.abs.heap), openSeen q loose (importedModules p.main.body) Xt true t.abs, Yf t.abs)) = some (true, openGood q loose, Ya w)) :
    LeftO p q loose Xt Yf Ya N := fun w => by
  obtain ⟨⟨h, gs, d', k', os⟩, e, e'⟩ := Option.map_eq_some_iff.mp (open_ w)
  obtain ⟨rfl, rfl, rfl, rfl⟩ : h = H₀ w.params ∧ gs = #[] ∧ d' = d ∧ k' = k := by simpa using e'
  obtain ⟨z1, z2, z3⟩ : _ ∧ _ ∧ _ := by simpa only [Prod.mk.injEq] using size w
  obtain ⟨t, r, l⟩ := Option.map_eq_some_iff.mp (run w os)
  obtain ⟨l1, l2, l3⟩ : _ ∧ _ ∧ _ := by simpa only [Prod.mk.injEq] using l
  have r' := runG_top r
  have ea : (⟨T₀ w.params, n, life, #[], d', k', os⟩ : SharedT).abs = ⟨H₀ w.params, #[], d', k', os⟩ := by rw [ab]; rfl
  rw [ea] at r'
  have t' : topFrom treeTable p w N ⟨H₀ w.params, #[], d', k', os⟩ = some t.abs := by
    unfold topFrom
    dsimp only
    rw [z1, z2, z3, r']
    show (match staticsOk (importedModules p.main.body) (H₀ w.params) t.abs.heap && namesBound p t.abs.heap && gensDone t.abs && laidKept (H₀ w.params) t.abs.heap with | true => _ | false => _) = _
    rw [l1]
  unfold openEnds
  rw [e]
  show (topFrom treeTable p w N _).map _ = _
  rw [t']
  exact congrArg some (Prod.ext l2 l3)
noncomputable def asL : List Addr := [2,  3,  15,  17,  18,  20,  21,  22,  25,  30,  31,  33,  34,  36,  37,  38,  40,  41,  43,  44,  45,  46,  47,  48,  51,  58,  59,  60,  63,  66,  67,  68,  71,  72,  80,  82,  83,  85,  86,  87,  89,  90,  92,  93,  94,  97,  98,  99,  101,  102,  104,  105,  106,  108,  109,  111,  112,  113,  116,  117,  118,  120,  121,  123,  124,  125,  127,  128,  130,  131,  132,  134,  135,  137,  138,  139,  141,  142,  144,  145,  146,  149,  150,  151,  153,  154,  156,  157,  158,  160,  161,  163,  164,  165,  167,  168,  170,  171,  172,  173,  174,  175,  176,  186,  188,  189,  191,  192,  193,  195,  196,  198,  199,  200,  202,  203,  205,  206,  207,  209,  210,  212,  213,  214,  216,  217,  219,  220,  221,  223,  224,  226,  227,  228,  231,  232,  233,  235,  236,  238,  239,  240,  242,  243,  245,  246,  247,  249,  250,  252,  253,  254,  255,  256,  257,  258,  268,  270,  271,  273,  274,  275,  277,  278,  280,  281,  282,  285,  286,  287,  290,  291,  292,  295,  296,  297,  299,  300,  302,  303,  304,  306,  307,  309,  310,  311,  313,  314,  316,  317,  318,  320,  321,  323,  324,  325,  327,  328,  330,  331,  332,  334,  335,  337,  338,  339,  341,  342,  344,  345,  346,  348,  349,  351,  352,  353,  355,  356,  358,  359,  360,  363,  364,  365,  367,  368,  370,  371,  372,  375,  376,  377,  379,  380,  382,  383,  384,  385,  386,  387,  388,  398,  400,  401,  403,  404,  405,  407,  408,  410,  411,  412,  414,  415,  417,  418,  419,  422,  423,  424,  426,  427,  429,  430,  431,  432,  433,  434,  435,  438,  440,  441,  443,  444,  445,  448,  449,  450,  453,  454,  455,  458,  459]
theorem as_ok (P : Params) : asL = (hd.heap_1 P).map (·.1) := by kernel_rfl
noncomputable abbrev HK : Hook := kHook hd.heap_1 asL as_ok
theorem run_all (w : World) (os : OsState) : (runG (stepT (denote treeTable) PySem.Challenge.pw_rh0009_01 w) (stepOk 11 (some (.ref 6))) 7000 ⟨t0 w.params, 11, {}, #[], boot_drawn, boot_toks, os⟩ (topStub PySem.Challenge.pw_rh0009_01)).map (fun t =>
      ((staticsOk (importedModules PySem.Challenge.pw_rh0009_01.main.body) (boot_heap w.params) t.abs.heap && namesBound PySem.Challenge.pw_rh0009_01 t.abs.heap && gensDone t.abs && laidKept (boot_heap w.params) t.abs.heap), openSeen hd.view_1 [] (importedModules PySem.Challenge.pw_rh0009_01.main.body) (fun s => xlAt hd.view_1 [] s && recOk [] s) true t.abs, asL.map t.abs.heap.get?)) = some (true, openGood hd.view_1 [], (hd.heap_1 w.params).map fun p => some p.2) := by
  rw [PySem.W.Fast.te10156331382660048174, PySem.W.Fast.te14364793385576792824, PySem.W.Fast.te11892475500146522536, PySem.W.Fast.te6613529449190102663, PySem.W.Fast.te4187177175401517315]
  kernel_rfl

theorem ws : PySem.Challenge.rw_rh0009_01.wellSaid = true := by kernel_rfl
theorem leftL : LeftO PySem.Challenge.rw_rh0009_01.row.prog hd.view_1 [] (fun s => xlAt hd.view_1 [] s && recOk (RowW.records PySem.Challenge.rw_rh0009_01.row.toRowW) s) (Hook.obs HK) (Hook.val HK) 7000 :=
  left_of (p := PySem.Challenge.pw_rh0009_01) (T₀ := t0) (n := 11) (life := {}) boot_here boot_abs (by intro w; kernel_rfl) run_all
theorem fin (hc : ∀ d kwd, defOf hd.view_1 (PySem.Challenge.rw_rh0009_01.row).name = some (d, kwd) → WalkO hd.view_1 [] (XL hd.view_1 []) HK.says PySem.Challenge.rw_rh0009_01.row.toRowW d kwd fun f vs => PySem.call f vs) : PySem.Challenge.rw_rh0009_01.Holds := by
  refine holds_law ws fun said => ?_
  refine holds_open (q := hd.view_1) (loose := []) (Xt := fun s => xlAt hd.view_1 [] s && recOk (RowW.records PySem.Challenge.rw_rh0009_01.row.toRowW) s) (XP := XL hd.view_1 []) (Yf := Hook.obs HK) (Ya := Hook.val HK) (YP := Hook.says HK) (N := 7000) leftL (Hook.of HK) (Hook.keeps HK) (fun s e => xl_of s (Bool.and_eq_true_iff.mp e).1) XL.keeps (by rfl) (by rfl) (by rfl) (fun s e => recFacts_of (Bool.and_eq_true_iff.mp e).2) (by rfl) (by first | assumption | decide +kernel) (by decide +kernel) ⟨rfl, rfl, rfl, rfl, rfl, by decide +kernel⟩ ?hw ?hc
  case hw => w_witness2
  case hc => exact hc _ _ (by rfl)
end Mine
end

section
open PySem PySem.W PySem.Calls PyProof.Rows
set_option maxRecDepth 100000
set_option maxHeartbeats 8000000




namespace Mine
noncomputable abbrev prog := PySem.Challenge.rw_rh0009_01.row.prog
noncomputable abbrev ky (w : World) (x : String) (t : Tok) (v : Value) : DictEntry := ⟨PyData.keyHash w.params (Str.ofString x), .str (Str.ofString x) t, v⟩
end Mine
end

section
open PySem PySem.W PySem.Calls PyProof.Rows PySem.Spec
set_option maxRecDepth 100000
namespace Mine
mutual
inductive KP (P : Addr → List Value → Prop) : Nat → Value → Dat → Prop
  | int {n : Nat} (i : Int) (t : Tok) : KP P n (.int i t) (.int i)
  | str {n : Nat} (x : Str) (t : Tok) : PyData.strOk x = true → KP P n (.str x t) (.str x)
  | tuple {n : Nat} {a : Addr} {vs : List Value} {ds : List Dat} : P a vs → KPs P n vs ds → KP P (n + 1) (.ref a) (.tuple ds)
inductive KPs (P : Addr → List Value → Prop) : Nat → List Value → List Dat → Prop
  | nil {n : Nat} : KPs P n [] []
  | cons {n : Nat} {v : Value} {d : Dat} {vs : List Value} {ds : List Dat} : KP P n v d → KPs P n vs ds → KPs P n (v :: vs) (d :: ds)
end
noncomputable abbrev KAt (h : Heap) : Nat → Value → Dat → Prop := KP fun a vs => h.get? a = some { cls := .type "tuple", data := .seq vs.toArray }
noncomputable abbrev KAll (h : Heap) : Nat → List Value → List Dat → Prop := KPs fun a vs => h.get? a = some { cls := .type "tuple", data := .seq vs.toArray }
section
variable {P P' : Addr → List Value → Prop} {M1 : Nat → Value → Dat → Prop} {M2 : Nat → List Value → List Dat → Prop}
theorem KP.both (hi : ∀ n i t, M1 n (.int i t) (.int i)) (hs : ∀ n x t, PyData.strOk x = true → M1 n (.str x t) (.str x)) (ht : ∀ n a vs ds, P a vs → M2 n vs ds → M1 (n + 1) (.ref a) (.tuple ds)) (hn : ∀ n, M2 n [] []) (hc : ∀ n v d vs ds, M1 n v d → M2 n vs ds → M2 n (v :: vs) (d :: ds)) :
    (∀ {n v d}, KP P n v d → M1 n v d) ∧ ∀ {n vs ds}, KPs P n vs ds → M2 n vs ds :=
  ⟨fun h => KP.rec (motive_1 := fun n v d _ => M1 n v d) (motive_2 := fun n vs ds _ => M2 n vs ds) (fun i t => hi _ i t) (fun x t k => hs _ x t k) (fun p _ ih => ht _ _ _ _ p ih) (hn _) (fun _ _ ia ir => hc _ _ _ _ _ ia ir) h,
   fun h => KPs.rec (motive_1 := fun n v d _ => M1 n v d) (motive_2 := fun n vs ds _ => M2 n vs ds) (fun i t => hi _ i t) (fun x t k => hs _ x t k) (fun p _ ih => ht _ _ _ _ p ih) (hn _) (fun _ _ ia ir => hc _ _ _ _ _ ia ir) h⟩
noncomputable def KP.Inv (P : Addr → List Value → Prop) (v : Value) : Dat → Prop
  | .tuple ds => ∃ k a vs, v = .ref a ∧ P a vs ∧ KPs P k vs ds
  | .str x => ∃ t, v = .str x t ∧ PyData.strOk x = true
  | .int i => ∃ t, v = .int i t
  | _ => True
noncomputable def KPs.Inv (P : Addr → List Value → Prop) (n : Nat) (vs : List Value) : List Dat → Prop
  | [] => vs = []
  | d :: ds => ∃ v us, vs = v :: us ∧ KP P n v d ∧ KPs P n us ds
theorem KP.inv {n : Nat} {v : Value} {d : Dat} (h : KP P n v d) : KP.Inv P v d := by
  cases h with
  | int _ t => exact ⟨t, rfl⟩
  | str _ t k => exact ⟨t, rfl, k⟩
  | tuple g r => exact ⟨_, _, _, rfl, g, r⟩
theorem KPs.inv {n : Nat} {vs : List Value} {ds : List Dat} (h : KPs P n vs ds) : KPs.Inv P n vs ds := by
  cases h with
  | nil => exact rfl
  | cons a r => exact ⟨_, _, rfl, a, r⟩
theorem KP.tup_inv {n : Nat} {v : Value} {ds : List Dat} (h : KP P n v (.tuple ds)) : ∃ k a vs, v = .ref a ∧ P a vs ∧ KPs P k vs ds := h.inv
theorem KP.str_inv {n : Nat} {v : Value} {x : Str} (h : KP P n v (.str x)) : ∃ t, v = .str x t ∧ PyData.strOk x = true := h.inv
theorem KP.int_inv {n : Nat} {v : Value} {i : Int} (h : KP P n v (.int i)) : ∃ t, v = .int i t := h.inv
theorem KPs.cons_inv {n : Nat} {vs : List Value} {d : Dat} {ds : List Dat} (h : KPs P n vs (d :: ds)) : ∃ v us, vs = v :: us ∧ KP P n v d ∧ KPs P n us ds := h.inv
theorem KPs.nil_inv {n : Nat} {vs : List Value} (h : KPs P n vs []) : vs = [] := h.inv
theorem KPs.len {n : Nat} {vs : List Value} {ds : List Dat} (h : KPs P n vs ds) : vs.length = ds.length :=
  (KP.both (M1 := fun _ _ _ => True) (M2 := fun _ vs ds => vs.length = ds.length) (fun _ _ _ => trivial) (fun _ _ _ _ => trivial) (fun _ _ _ _ _ _ => trivial) (fun _ => rfl) fun _ _ _ _ _ _ r => congrArg (· + 1) r).2 h
theorem KP.mono (h : ∀ a vs, P a vs → P' a vs) : (∀ {n v d}, KP P n v d → KP P' n v d) ∧ ∀ {n vs ds}, KPs P n vs ds → KPs P' n vs ds :=
  KP.both (fun _ i t => .int i t) (fun _ x t k => .str x t k) (fun _ _ _ _ p ih => .tuple (h _ _ p) ih) (fun _ => .nil) fun _ _ _ _ _ a r => .cons a r
noncomputable def KP.InvV (P : Addr → List Value → Prop) (d : Dat) : Value → Prop
  | .int i _ => .int i = d
  | .str x _ => .str x = d
  | .ref a => ∃ k vs ds, d = .tuple ds ∧ P a vs ∧ KPs P k vs ds
  | _ => True
noncomputable def KPs.InvV (P : Addr → List Value → Prop) (n : Nat) (ds : List Dat) : List Value → Prop
  | [] => [] = ds
  | v :: vs => ∃ d es, ds = d :: es ∧ KP P n v d ∧ KPs P n vs es
theorem KP.invV {n : Nat} {v : Value} {d : Dat} (h : KP P n v d) : KP.InvV P d v := by
  cases h with
  | int _ t => exact rfl
  | str _ t k => exact rfl
  | tuple g r => exact ⟨_, _, _, rfl, g, r⟩
theorem KPs.invV {n : Nat} {vs : List Value} {ds : List Dat} (h : KPs P n vs ds) : KPs.InvV P n ds vs := by
  cases h with
  | nil => exact rfl
  | cons a r => exact ⟨_, _, rfl, a, r⟩
theorem KP.fn (h : ∀ a vs us, P a vs → P a us → vs = us) : (∀ {n v d}, KP P n v d → ∀ k y, KP P k v y → d = y) ∧ ∀ {n vs ds}, KPs P n vs ds → ∀ k ys, KPs P k vs ys → ds = ys :=
  KP.both (fun _ _ _ _ _ q => q.invV) (fun _ _ _ _ _ _ q => q.invV)
    (fun _ _ _ _ p ih _ _ q => by
      obtain ⟨_, _, _, rfl, p', r⟩ := q.invV
      rw [h _ _ _ p' p] at r
      rw [ih _ _ r])
    (fun _ _ _ q => q.invV) fun _ _ _ _ _ a r _ _ q => by
      obtain ⟨_, _, rfl, a', r'⟩ := q.invV
      rw [a _ _ a', r _ _ r']
end
mutual
noncomputable def hashD (w : World) : Dat → Int
  | .int i => hashInt i
  | .str x => hashStr w x
  | .tuple ds => reduceHash (Builtin.Tuple.tupleHashOf (hashDs w ds))
  | _ => 0
noncomputable def hashDs (w : World) : List Dat → List Int
  | [] => []
  | d :: ds => hashD w d :: hashDs w ds
end
mutual
noncomputable def drawsD : Dat → Nat
  | .tuple ds => drawsDs ds + 1
  | _ => 1
noncomputable def drawsDs : List Dat → Nat
  | [] => 0
  | d :: ds => drawsD d + drawsDs ds
end
section
variable {h : Heap}
theorem tup_fn (a : Addr) (vs us : List Value) (g : h.get? a = some { cls := .type "tuple", data := .seq vs.toArray }) (g' : h.get? a = some { cls := .type "tuple", data := .seq us.toArray }) : vs = us :=
  congrArg (fun o : Option Obj => match o with | some ⟨_, _, .seq x, _⟩ => x.toList | _ => []) (g.symm.trans g')
theorem KAt.inj {n k : Nat} {v : Value} {x y : Dat} (a : KAt h n v x) (b : KAt h k v y) : x = y := (KP.fn tup_fn).1 a _ _ b
theorem KAll.inj {n k : Nat} {vs : List Value} {xs ys : List Dat} (a : KAll h n vs xs) (b : KAll h k vs ys) : xs = ys := (KP.fn tup_fn).2 a _ _ b
theorem tup_keeps {h' : Heap} {d : Addr} {o : Obj} {es ep} (ho : h.get? d = some o) (hd : o.data = .dict es ep) (hs : Heap.SameBut d h h') (a : Addr) (vs : List Value) (g : h.get? a = some { cls := .type "tuple", data := .seq vs.toArray }) : h'.get? a = some { cls := .type "tuple", data := .seq vs.toArray } := by
  refine (hs.2 a ?_).trans g
  rintro rfl
  rw [g] at ho
  cases ho
  exact nomatch hd
theorem KAt.keeps {h' : Heap} {d : Addr} {o : Obj} {es ep} (ho : h.get? d = some o) (hd : o.data = .dict es ep) (hs : Heap.SameBut d h h') {n : Nat} {v : Value} {x : Dat} (a : KAt h n v x) : KAt h' n v x := (KP.mono (tup_keeps ho hd hs)).1 a
theorem KAll.keeps {h' : Heap} {d : Addr} {o : Obj} {es ep} (ho : h.get? d = some o) (hd : o.data = .dict es ep) (hs : Heap.SameBut d h h') {n : Nat} {vs : List Value} {xs : List Dat} (a : KAll h n vs xs) : KAll h' n vs xs := (KP.mono (tup_keeps ho hd hs)).2 a
theorem K_reads : (∀ {n : Nat} {v : Value} {x : Dat}, KAt h n v x → ∃ as, Reads h v (kqdP x) as) ∧ ∀ {n : Nat} {vs : List Value} {xs : List Dat}, KAll h n vs xs → ∃ as, ReadsAll h vs (kqdPs xs) as :=
  KP.both (fun _ i t => ⟨_, Reads.int i t⟩) (fun _ x t _ => ⟨_, Reads.str x t⟩)
    (fun _ _ _ _ g ih => by
      rw [kqdP]
      exact ih.imp fun _ q => reads_tuple_at g rfl rfl (by simpa using q))
    (fun _ => ⟨_, ReadsAll.nil⟩)
    fun _ _ _ _ _ ⟨_, q⟩ ⟨_, p⟩ => by
      rw [kqdPs]
      exact ⟨_, ReadsAll.cons q p⟩
theorem KAt.reads {n : Nat} {v : Value} {x : Dat} (a : KAt h n v x) : ∃ as, Reads h v (kqdP x) as := K_reads.1 a
theorem K_ok : (∀ {n : Nat} {v : Value} {x : Dat}, KAt h n v x → kqdOk n x = true) ∧ ∀ {n : Nat} {vs : List Value} {xs : List Dat}, KAll h n vs xs → xs.all (kqdOk n) = true :=
  KP.both (fun n _ _ => by cases n <;> rfl) (fun n _ _ k => by cases n <;> exact k) (fun _ _ _ _ _ q => by simpa only [kqdOk] using q) (fun _ => rfl)
    fun _ _ _ _ _ a r => by rw [List.all_cons, a, r]; rfl
theorem KAt.ok {n : Nat} {v : Value} {x : Dat} (a : KAt h n v x) : kqdOk n x = true := K_ok.1 a
theorem KP.reads {n : Nat} {v : Value} {x : Dat} (a : KAt h n v x) : ∃ as, Reads h v (kqdP x) as := K_reads.1 a
theorem KPs.reads {n : Nat} {v : List Value} {x : List Dat} (a : KAll h n v x) : ∃ as, ReadsAll h v (kqdPs x) as := K_reads.2 a
theorem KP.ok {n : Nat} {v : Value} {x : Dat} (a : KAt h n v x) : kqdOk n x = true := K_ok.1 a
theorem KPs.ok {n : Nat} {v : List Value} {x : List Dat} (a : KAll h n v x) : ∀ d ∈ x, kqdOk n d = true := List.all_eq_true.mp (K_ok.2 a)
end
section
variable {prog : Program} {w : World}
theorem eqBool_key {A : Around} {E : Value → Shared → Prop} {s : Shared} {n k : Nat} {u v : Value} {x y : Dat} {Q : Bool → Shared → Prop} (hu : A.units + 16 < cLine) (hn : n ≤ 8) (hk : k ≤ 8) (a : KAt s.heap n u x) (b : KAt s.heap k v y) (h : ∀ z, (z = true ↔ x = y) → Q z s) :
    wpAny (model prog w) A (eqBool u v) Q E s := by
  refine byC fun U0 => ?_
  obtain ⟨as, ra⟩ := a.reads
  obtain ⟨bs, rb⟩ := b.reads
  refine U0 ?_
  clear U0
  have la := kqd_lay n x a.ok
  have lb := kqd_lay k y b.ok
  refine SeqAt.eqBoolOverData prog w A E s u v _ _ as bs Q ra rb la.1 lb.1 ?_ (h _ (kqd_eqv n x y k a.ok b.ok))
  have := la.2
  have := lb.2
  lia
theorem K_hash {h : Heap} : (∀ {n : Nat} {v : Value} {x : Dat}, KAt h n v x → ∀ {A : Around} {E : Value → Shared → Prop} {s : Shared} {Q : Int → Shared → Prop}, s.heap = h → A.units + n < cLine → Q (hashD w x) { s with toks := s.toks + drawsD x } → wpAny (model prog w) A (pyHash v) Q E s) ∧
    ∀ {n : Nat} {vs : List Value} {xs : List Dat}, KAll h n vs xs → ∀ {A : Around} {E : Value → Shared → Prop} {s : Shared} {b : Array Int} {Q : Array Int → Shared → Prop}, s.heap = h → A.units + n < cLine →
    (∀ b', b'.toList = b.toList ++ hashDs w xs → Q b' { s with toks := s.toks + drawsDs xs }) →
    wpAny (model prog w) A (forIn vs b fun x r => do let h ← pyHash x; pure PUnit.unit; pure (ForInStep.yield (r.push h))) Q E s := by
  refine KP.both (fun _ _ _ {_ _ _ _} _ _ h => wpAny_pyHash_int h) (fun _ _ _ _ {_ _ _ _} _ _ h => wpAny_pyHash_str h) (fun n a vs ds g ih {A E s Q} e hu h => ?_) (fun _ {_ _ _ _ _} _ _ h => wpAny_pure (h _ (by simp [hashDs]))) (fun n v d vs ds a r {A E s b Q} e hu h => ?_)
  · subst e
    refine pyHash_slot (T := "tuple") ⟨_, g, rfl⟩ F.slot_tuple_hash F.entry_tuple_hash (F.args_tuple_hash_1 _) (beq_builtin_none _) (.inr (by lia)) ?_
    refine (?_ : wpAny _ _ (Builtin.Tuple.tupleItemsOf (.ref a) >>= _) _ _ s)
    refine wpAny_bind (wpAny_tupleItemsOf g rfl ?_)
    refine wpAny_bind ?_
    rw [← Array.forIn_toList]
    refine ih (b := #[]) rfl (by simp only [Around.in1_units]; lia) fun b hb => ?_
    refine (?_ : wpAny _ _ (retInt (Builtin.Tuple.tupleHashOf b.toList)) _ _ _)
    rw [hb]
    refine wpAny_bind (wpAny_mkInt (wpAny_pure ⟨_, _, rfl, ?_⟩))
    simpa [hashD, drawsD, Nat.add_assoc] using h
  · rw [List.forIn_cons]
    refine wpAny_bind (wpAny_bind (a e hu (wpAny_bind (wpAny_pure (wpAny_pure ?_)))))
    refine r (s := { s with toks := s.toks + drawsD d }) e hu fun b' hb => ?_
    have := h b' (by rw [hb]; simp [hashDs])
    simpa [drawsDs, Nat.add_assoc] using this
theorem hash_key {n : Nat} {A : Around} {E : Value → Shared → Prop} {s : Shared} {v : Value} {x : Dat} {Q : Int → Shared → Prop} (a : KAt s.heap n v x) (hu : A.units + n < cLine) (h : Q (hashD w x) { s with toks := s.toks + drawsD x }) :
    wpAny (model prog w) A (pyHash v) Q E s := K_hash.1 a rfl hu h
theorem K_quiet {h : Heap} : (∀ {n : Nat} {v : Value} {x : Dat}, KAt h n v x → ∀ {k : Nat} {A : Around} {E : Value → Shared → Prop} {s : Shared} {Q : Bool → Shared → Prop}, s.heap = h → n ≤ k → Q true s → wpAny (model prog w) A (eqIsQuiet k v) Q E s) ∧
    ∀ {n : Nat} {vs : List Value} {xs : List Dat}, KAll h n vs xs → ∀ {k : Nat} {A : Around} {E : Value → Shared → Prop} {s : Shared} {Q : Option Bool × Unit → Shared → Prop}, s.heap = h → n ≤ k → Q (none, ()) s →
    wpAny (model prog w) A (forIn vs (none, ()) fun y r => do let b ← eqIsQuiet k y; if (!b) = true then (do pure PUnit.unit; pure (ForInStep.done (some false, ()))) else do pure PUnit.unit; pure (ForInStep.yield (none, ()))) Q E s := by
  refine KP.both (fun _ _ _ {k _ _ _ _} _ _ h => by rw [eqIsQuiet_byValue k rfl]; exact wpAny_pure h) (fun _ _ _ _ {k _ _ _ _} _ _ h => by rw [eqIsQuiet_byValue k rfl]; exact wpAny_pure h) (fun n a vs ds g ih {k A E s Q} e hk h => ?_) (fun _ {_ _ _ _ _} _ _ h => wpAny_pure h) (fun n v d vs ds a r {k A E s Q} e hk h => ?_)
  · subst e
    cases k with
    | zero => exact absurd hk (Nat.not_succ_le_zero _)
    | succ k =>
    have hT : s.TypeIs (.ref a) "tuple" := ⟨_, g, rfl⟩
    unfold eqIsQuiet
    refine wpAny_bind (wpAny_specialOf hT F.slot_tuple_eq.lookup ?_)
    refine (?_ : wpAny _ _ (isInstance (.ref a) (.type "tuple") >>= _) _ _ s)
    refine wpAny_bind (wpAny_isInstance hT isSubtype_tuple_tuple ?_)
    simp only [Bool.not_true, Bool.false_eq_true, if_false]
    refine wpAny_bind (wpAny_seqItems g rfl ?_)
    refine wpAny_bind ?_
    refine (?_ : wpAny _ _ (forIn vs.toArray _ _) _ _ s)
    rw [← Array.forIn_toList]
    exact ih rfl (Nat.le_of_succ_le_succ hk) (wpAny_pure h)
  · rw [List.forIn_cons]
    refine wpAny_bind (wpAny_bind (a e hk ?_))
    simp only [Bool.not_true, Bool.false_eq_true, if_false]
    exact wpAny_pure (r e hk h)
theorem quiet_key {n k : Nat} {A : Around} {E : Value → Shared → Prop} {s : Shared} {v : Value} {x : Dat} {Q : Bool → Shared → Prop} (a : KAt s.heap n v x) (hk : n ≤ k) (h : Q true s) : wpAny (model prog w) A (eqIsQuiet k v) Q E s := K_quiet.1 a rfl hk h
end

noncomputable abbrev tupObj (vs : List Value) : Obj := { cls := .type "tuple", data := .seq vs.toArray }
noncomputable def put (d : Addr) (o : Obj) (news : List (Addr × Obj)) : List (Addr × Obj) := (d, o) :: news.filter fun p => decide (p.1 ≠ d)
theorem put_self {d : Addr} {o : Obj} {news : List (Addr × Obj)} : (d, o) ∈ put d o news := List.mem_cons_self
theorem put_of {d b : Addr} {o ob : Obj} {news : List (Addr × Obj)} (h : (b, ob) ∈ news) (hn : b ≠ d) : (b, ob) ∈ put d o news :=
  List.mem_cons_of_mem _ (List.mem_filter.mpr ⟨h, by simpa using hn⟩)
theorem mem_put {d : Addr} {o : Obj} {p : Addr × Obj} {news : List (Addr × Obj)} (h : p ∈ put d o news) : p = (d, o) ∨ (p ∈ news ∧ p.1 ≠ d) := by
  rcases List.mem_cons.mp h with h | h
  · exact .inl h
  · have := List.mem_filter.mp h
    exact .inr ⟨this.1, by simpa using this.2⟩
section
variable {h₀ h h' : Heap} {L d : Addr} {m : Str → Option Value} {news : List (Addr × Obj)} {o o' : Obj}
theorem news_put (N : News h₀ L h news) (hm : (d, o) ∈ news) (hs : Heap.SameBut d h h') (ho : h'.get? d = some o') : News h₀ L h' (put d o' news) := by
  intro p hp
  rcases mem_put hp with rfl | ⟨hp, hn⟩
  · exact ⟨ho, (N _ hm).2⟩
  · exact ⟨(hs.2 _ hn).trans (N _ hp).1, (N _ hp).2⟩
theorem news_front (N : News h₀ L h news) (hm : (d, o) ∈ news) : News h₀ L h (put d o news) := by
  intro p hp
  rcases mem_put hp with rfl | ⟨hp, _⟩
  · exact N _ hm
  · exact N _ hp
theorem upd_front : Upd d o o' (put d o news) (put d o' news) := .head fun p hp => by have := (List.mem_filter.mp hp).2; simpa using this
theorem news_fn (N : News h₀ L h news) {a : Addr} {x y : Obj} (hx : (a, x) ∈ news) (hy : (a, y) ∈ news) : x = y := Option.some.inj ((N _ hx).1.symm.trans (N _ hy).1)
end
noncomputable abbrev KIn (news : List (Addr × Obj)) : Nat → Value → Dat → Prop := KP fun a vs => (a, tupObj vs) ∈ news
noncomputable abbrev KInAll (news : List (Addr × Obj)) : Nat → List Value → List Dat → Prop := KPs fun a vs => (a, tupObj vs) ∈ news
theorem KIn.tuple {news : List (Addr × Obj)} {n : Nat} {a : Addr} {vs : List Value} {ds : List Dat} (g : (a, tupObj vs) ∈ news) (r : KInAll news n vs ds) : KIn news (n + 1) (.ref a) (.tuple ds) := KP.tuple g r
noncomputable def TupStay (news news' : List (Addr × Obj)) : Prop := ∀ a vs, (a, tupObj vs) ∈ news → (a, tupObj vs) ∈ news'
theorem TupStay.refl {news : List (Addr × Obj)} : TupStay news news := fun _ _ h => h
theorem TupStay.trans {a b c : List (Addr × Obj)} (x : TupStay a b) (y : TupStay b c) : TupStay a c := fun _ _ h => y _ _ (x _ _ h)
theorem TupStay.cons {news : List (Addr × Obj)} {p : Addr × Obj} : TupStay news (p :: news) := fun _ _ h => List.mem_cons_of_mem _ h
theorem TupStay.put {h₀ h : Heap} {L d : Addr} {news : List (Addr × Obj)} {o o' : Obj} (N : News h₀ L h news) (hm : (d, o) ∈ news) (hc : o.cls ≠ .type "tuple") : TupStay news (put d o' news) := fun a vs ha => by
  refine put_of ha ?_
  rintro rfl
  exact hc (by rw [news_fn N hm ha])
theorem KIn.move {news news' : List (Addr × Obj)} (hs : TupStay news news') {n : Nat} {v : Value} {d : Dat} (a : KIn news n v d) : KIn news' n v d := (KP.mono hs).1 a
theorem KInAll.move {news news' : List (Addr × Obj)} (hs : TupStay news news') {n : Nat} {vs : List Value} {ds : List Dat} (a : KInAll news n vs ds) : KInAll news' n vs ds := (KP.mono hs).2 a
theorem KIn.kat {h₀ h : Heap} {L : Addr} {news : List (Addr × Obj)} (N : News h₀ L h news) {n : Nat} {v : Value} {d : Dat} (a : KIn news n v d) : KAt h n v d := (KP.mono fun _ _ g => (N _ g).1).1 a
theorem KInAll.kat {h₀ h : Heap} {L : Addr} {news : List (Addr × Obj)} (N : News h₀ L h news) {n : Nat} {vs : List Value} {ds : List Dat} (a : KInAll news n vs ds) : KAll h n vs ds := (KP.mono fun _ _ g => (N _ g).1).2 a
noncomputable instance datDec : DecidableEq Dat := fun _ _ => Classical.propDecidable _
noncomputable def kindD (prog : Program) (w : World) : HeapKind prog w Dat where
  is := fun h d a => KAt h 7 (.ref a) d
  hash := hashD w
  draws := drawsD
  room := fun A => A.units + 16 < cLine
  inj := fun hx hy => hx.inj hy
  keeps := fun x ho hd hs => x.keeps ho hd hs
  pyHash := fun hu hk h => hash_key hk (by lia) h
  eqBool := fun hu hx hy h => eqBool_key hu (by decide) (by decide) hx hy fun z hz => by
    rename_i x y _ _ _
    by_cases e : x = y
    · rw [hz.mpr e, ← decide_eq_true e]; exact h
    · have : z = false := Bool.eq_false_iff.mpr fun q => e (hz.mp q)
      rw [this, ← decide_eq_false e]; exact h
  quiet := fun hk h => quiet_key hk (by decide) h
noncomputable def TD (prog : Program) (w : World) (news : List (Addr × Obj)) (d : Addr) (xs : List (Dat × Addr × Value)) : Prop :=
  (d == sysModules) = false ∧ ∃ o es ep, (d, o) ∈ news ∧ o.ExactDict ∧ o.data = .dict es ep ∧ es.toList = xs.map (entryOfKey (kindD prog w)) ∧ (∀ x ∈ xs, KIn news 7 (.ref x.2.1) x.1) ∧ (xs.map (·.1)).Nodup
section
variable {prog : Program} {w : World} {A : Around} {E : Value → Shared → Prop} {s : Shared} {h₀ h : Heap} {L d a : Addr} {m : Str → Option Value} {news news' : List (Addr × Obj)} {xs : List (Dat × Addr × Value)} {k : Dat}
theorem TD.at (T : TD prog w news d xs) (N : News h₀ L h news) : h.DictOfH (kindD prog w) d xs :=
  let ⟨_, o, es, ep, hm, hc, hd, he, hk, hn⟩ := T
  ⟨o, es, ep, (N _ hm).1, hc, hd, he, fun x hx => (hk x hx).kat N, hn⟩
theorem TD.obj (T : TD prog w news d xs) : ∃ o, (d, o) ∈ news ∧ o.cls = .type "dict" := let ⟨_, o, _, _, hm, hc, _⟩ := T; ⟨o, hm, hc.1⟩
theorem TD.move (T : TD prog w news d xs) (hs : TupStay news news') (hd : ∀ o, (d, o) ∈ news → (d, o) ∈ news') : TD prog w news' d xs :=
  let ⟨lo, o, es, ep, hm, hc, hd', he, hk, hn⟩ := T
  ⟨lo, o, es, ep, hd _ hm, hc, hd', he, fun x hx => (hk x hx).move hs, hn⟩
theorem TD.cons (T : TD prog w news d xs) {p : Addr × Obj} : TD prog w (p :: news) d xs := T.move .cons fun _ h => List.mem_cons_of_mem _ h
theorem room_in1 (hu : A.units + 17 < cLine) : (kindD prog w).room A.in1 := by show A.units + 1 + 16 < cLine; lia
theorem td_in {Q : Value → Shared → Prop} (N : News h₀ L s.heap news) (T : TD prog w news d xs) (hk : KIn news 7 (.ref a) k) (hu : A.units + 17 < cLine)
    (h : ∀ tk, Q (.bool (atKey xs k).isSome) { s with toks := tk }) : wpAny (model prog w) A (compareOp .In (.ref a) (.ref d)) Q E s :=
  wpAny_in_heap (knd := kindD prog w) (room_in1 hu) (hk.kat N) T.1 (T.at N) (h _)
theorem td_notin {Q : Value → Shared → Prop} (N : News h₀ L s.heap news) (T : TD prog w news d xs) (hk : KIn news 7 (.ref a) k) (hu : A.units + 17 < cLine)
    (h : ∀ tk, Q (.bool (!(atKey xs k).isSome)) { s with toks := tk }) : wpAny (model prog w) A (compareOp .NotIn (.ref a) (.ref d)) Q E s :=
  wpAny_notIn_heap (knd := kindD prog w) (room_in1 hu) (hk.kat N) T.1 (T.at N) (h _)
theorem td_get {dflt : Value} {Q : Value → Shared → Prop} (N : News h₀ L s.heap news) (T : TD prog w news d xs) (hk : KIn news 7 (.ref a) k) (hu : A.units + 17 < cLine)
    (h : ∀ tk, Q (((atKey xs k).map (·.2)).getD dflt) { s with toks := tk }) : wpAny (model prog w) A (call (.builtin "dict.get") [.ref d, .ref a, dflt]) Q E s :=
  call_meetsIn PySem.F.slot_dict_get (T.at N).typeIs PySem.F.entry_dict_get (PySem.F.args_dict_get_3 _ _ _) (meetsH_dict_get_default (kindD prog w) d a T.1 dflt) ⟨room_in1 hu, k, xs, hk.kat N, T.at N, h _⟩
theorem td_item {value slice : Expr} {p : Addr × Value} {Q : Value → Shared → Prop} (N : News h₀ L s.heap news) (T : TD prog w news d xs) (hk : KIn news 7 (.ref a) k) (hp : atKey xs k = some p) (hu : A.units + 17 < cLine)
    (h : ∀ tk, Q p.2 { s with toks := tk }) (hs : subscripted slice false (.ref d) (.ref a) = operate [.ref d, .ref a] (getItem (.ref d) (.ref a)) := by with_unfolding_all rfl) :
    wpAny (model prog w) A (subscriptTail value slice (.ref d) (.ref a)) Q E s :=
  tail_any (T.at N).typeIs slot_dict_getitem.lookup (wpAny_getItem_heap (knd := kindD prog w) (room_in1 hu) (hk.kat N) (T.at N) hp (h _)) hs
theorem td_method {name : Str} {id : String} {pl : Sem Bool} {Q : Value × List Value → Shared → Prop} (N : News h₀ L s.heap news) (T : TD prog w news d xs) (slot : Slot "dict" name id) (hty : typeOf (.builtin id) = pure (.type "method_descriptor"))
    (h : Q (.builtin id, [.ref d]) s) : wpAny (model prog w) A (getMethod (.ref d) name pl) Q E s :=
  getMethod_builtin (T.at N).typeIs PySem.F.plainAttrs_dict slot hty (fun b e => by cases e; obtain ⟨o, _, _, ho, hc, _⟩ := T.at N; exact ⟨o, ho, hc.2.1⟩) h
theorem td_put {h' : Heap} {v : Value} (N : News h₀ L h news) (T : TD prog w news d xs) (hk : KIn news 7 (.ref a) k) (D : h'.DictOfH (kindD prog w) d (storedH xs k a v)) (hs : Heap.SameBut d h h') :
    ∃ o', News h₀ L h' (put d o' news) ∧ TD prog w (put d o' news) d (storedH xs k a v) ∧ TupStay news (put d o' news) := by
  refine byC fun U0 => ?_
  obtain ⟨lo, o, es, ep, hm, hc, hd, he, hks, hn⟩ := T
  obtain ⟨o', es', ep', ho', hc', hd', he', _, hn'⟩ := D
  refine U0 ?_
  clear U0
  have st : TupStay news (put d o' news) := TupStay.put N hm (by rw [hc.1]; decide)
  refine ⟨o', news_put N hm hs ho', ⟨lo, o', es', ep', put_self, hc', hd', he', fun x hx => ?_, hn'⟩, st⟩
  rcases mem_storedH hx with ⟨y, hy, e1, e2⟩ | ⟨e1, e2⟩
  · rw [e1, e2]; exact (hks y hy).move st
  · rw [e1, e2]; exact hk.move st
theorem td_set {v : Value} {Q : Unit → Shared → Prop} (F : Fr h₀ L s.heap m) (N : News h₀ L s.heap news) (T : TD prog w news d xs) (hk : KIn news 7 (.ref a) k) (hu : A.units + 17 < cLine)
    (h : ∀ h' o' tk, Fr h₀ L h' m → News h₀ L h' (put d o' news) → TD prog w (put d o' news) d (storedH xs k a v) → TupStay news (put d o' news) → Q () { s with heap := h', toks := tk })
    (hsz : xs.length ≤ sizeLine) : wpAny (model prog w) A (setItem (.ref d) (.ref a) v) Q E s := by
  refine wpAny_setItem_heap (hsz := hsz) (knd := kindD prog w) (room_in1 hu) (hk.kat N) (T.at N) fun h' D hs => ?_
  refine byC fun U0 => ?_
  obtain ⟨o', N', T', st⟩ := td_put N T hk D hs
  obtain ⟨_, o, _, _, hm, _⟩ := T
  refine U0 ?_
  clear U0
  exact h h' o' _ (F.change hs (N _ hm).2.1 (N _ hm).2.2) N' T' st
theorem dictSetDefault_heap {v : Value} {Q : Value → Shared → Prop} (hu : (kindD prog w).room A) (hkey : (kindD prog w).is s.heap k a) (hm : s.heap.DictOfH (kindD prog w) d xs)
    (h1 : ∀ p, atKey xs k = some p → Q p.2 { s with toks := s.toks + (kindD prog w).draws k })
    (h2 : atKey xs k = none → ∀ h', h'.DictOfH (kindD prog w) d (storedH xs k a v) → Heap.SameBut d s.heap h' → Q v { s with heap := h', toks := s.toks + (kindD prog w).draws k })
    (hsz : xs.length ≤ sizeLine) : wpAny (model prog w) A (dictSetDefault d (.ref a) v) Q E s := by
  refine byC fun U0 => ?_
  obtain ⟨o, es, ep, ho, hc, hd, he, his, hn⟩ := hm
  refine U0 ?_
  clear U0
  unfold dictSetDefault
  try with_reducible refine wpAny_holding ?_
  refine wpAny_bind ((kindD prog w).pyHash hu hkey ?_)
  refine wpAny_bind (wpAny_dictFind_heap (s := { s with toks := s.toks + (kindD prog w).draws k }) hu hkey ho hd he his hn ?_ ?_)
  · intro hno
    have hnot : k ∉ xs.map (·.1) := not_mem_keys_of_get hno
    refine wpAny_bind (wpAny_rule (wpAny_bind (wpAny_updateDictKeys (hz := by have e := size_of_entries he; lia) (s := { s with toks := s.toks + (kindD prog w).draws k }) ho hd (wpAny_pure (h2 (atKey_none_of_get hno) _ ⟨_, _, ep + 1, Heap.get?_update_self _ ho (Obj.isFreed_of_dict (Obj.data_mapDictKeys hd _)),
      hc.mapDictKeys _, Obj.data_mapDictKeys hd _, ?_, ?_, ?_⟩ (Heap.SameBut.update ..))))))
    · rw [storedH_new (atKey_none_of_get hno)]
      simp [he, entryOfKey]
    · rw [storedH_new (atKey_none_of_get hno)]
      intro x hx
      rcases List.mem_append.mp hx with hx | hx
      · exact (kindD prog w).keeps (his x hx) ho hd (Heap.SameBut.update ..)
      · simp only [List.mem_singleton] at hx
        subst hx
        exact (kindD prog w).keeps hkey ho hd (Heap.SameBut.update ..)
    · rw [storedH_new (atKey_none_of_get hno)]
      rw [List.map_append, List.nodup_append]
      refine ⟨hn, by simp, ?_⟩
      intro x hx y hy
      simp only [List.map_cons, List.map_nil, List.mem_singleton] at hy
      subst hy
      exact fun e => hnot (e ▸ hx)
  · intro j p hj
    refine wpAny_bind (wpAny_dictEntries (s := { s with toks := s.toks + (kindD prog w).draws k }) ho hd ?_)
    rw [entry_at he j, hj]
    exact wpAny_bind (wpAny_rule (wpAny_pure (h1 p (atKey_of_get hn hj))))
theorem meets_setdefault (hd : (d == sysModules) = false) (dflt : Value) :
    MeetsIn prog w (Builtin.«dict.setdefault» ⟨[.ref d, .ref a, dflt], []⟩) (fun A R s => (kindD prog w).room A.in1 ∧ ∃ k xs, (kindD prog w).is s.heap k a ∧ s.heap.DictOfH (kindD prog w) d xs ∧ xs.length ≤ sizeLine ∧
      (∀ p, atKey xs k = some p → R (.ok (.ret p.2)) { s with toks := s.toks + (kindD prog w).draws k }) ∧
      (atKey xs k = none → ∀ h', h'.DictOfH (kindD prog w) d (storedH xs k a dflt) → Heap.SameBut d s.heap h' → R (.ok (.ret dflt)) { s with heap := h', toks := s.toks + (kindD prog w).draws k })) :=
  .of_wp fun A R s ⟨hu, k, xs, hkey, hm, hz, h1, h2⟩ => by
    unfold Builtin.«dict.setdefault»
    refine wpAny_bind ?_
    unfold Builtin.Dict.keyAndDefault
    refine wpAny_bind (wpAny_notOrdered_dict hm.typeIs ?_)
    refine (?_ : wpAny _ _ (pure (d, Value.ref a, some dflt)) _ _ s)
    refine wpAny_pure ?_
    refine (?_ : wpAny _ _ (if (d == sysModules) = true then _ else (dictSetDefault d (.ref a) dflt >>= _)) _ _ s)
    rw [if_neg (by rw [hd]; exact Bool.false_ne_true)]
    exact wpAny_bind (dictSetDefault_heap (hsz := hz) hu hkey hm (fun p hp => wpAny_pure ⟨p.2, rfl, h1 p hp⟩) fun hn h' hm' hs' => wpAny_pure ⟨dflt, rfl, h2 hn h' hm' hs'⟩)
theorem td_setdefault {v : Value} {Q : Value → Shared → Prop} (F : Fr h₀ L s.heap m) (N : News h₀ L s.heap news) (T : TD prog w news d xs) (hk : KIn news 7 (.ref a) k) (hu : A.units + 17 < cLine)
    (h1 : ∀ p tk, atKey xs k = some p → Q p.2 { s with toks := tk })
    (h2 : atKey xs k = none → ∀ h' o' tk, Fr h₀ L h' m → News h₀ L h' (put d o' news) → TD prog w (put d o' news) d (storedH xs k a v) → TupStay news (put d o' news) → Q v { s with heap := h', toks := tk })
    (hsz : xs.length ≤ sizeLine) : wpAny (model prog w) A (call (.builtin "dict.setdefault") [.ref d, .ref a, v]) Q E s := by
  refine call_meetsIn PySem.F.slot_dict_setdefault (T.at N).typeIs PySem.F.entry_dict_setdefault (PySem.F.args_dict_setdefault_3 _ _ _) (meets_setdefault T.1 v) ⟨room_in1 hu, k, xs, hk.kat N, T.at N, hsz, fun p hp => h1 p _ hp, fun hn h' D hs => ?_⟩
  refine byC fun U0 => ?_
  obtain ⟨o', N', T', st⟩ := td_put N T hk D hs
  obtain ⟨_, o, _, _, hm, _⟩ := T
  refine U0 ?_
  clear U0
  exact h2 hn h' o' _ (F.change hs (N _ hm).2.1 (N _ hm).2.2) N' T' st
end
end Mine
end

section
open PySem PySem.W PySem.Calls PyProof.Rows PySem.Spec
set_option maxRecDepth 100000
namespace Mine
noncomputable abbrev toZ (ps : List Nat) : List Int := ps.map fun n : Nat => (n : Int)
theorem toZ_append (a b : List Nat) : toZ (a ++ b) = toZ a ++ toZ b := List.map_append
theorem toZ_length (a : List Nat) : (toZ a).length = a.length := List.length_map _
theorem ints_get {vs : List Value} {ps : List Nat} (h : IntsAre vs (toZ ps)) {k : Nat} (hk : k < ps.length) : ∃ t, vs[k]? = some (.int (ps[k]'hk) t) := by
  obtain ⟨t, e⟩ := h.get k (ps[k]'hk : Int) (by simp [toZ, hk])
  exact ⟨t, e⟩
theorem ints_len {vs : List Value} {ps : List Nat} (h : IntsAre vs (toZ ps)) : vs.length = ps.length := by rw [← toZ_length ps]; exact (IntsAre.length h).symm ▸ rfl
theorem ints_nil : IntsAre [] (toZ []) := .nil
theorem ints_snoc {vs : List Value} {ps : List Nat} (h : IntsAre vs (toZ ps)) (k : Nat) (t : Tok) : IntsAre (vs ++ [.int k t]) (toZ (ps ++ [k])) := by
  rw [toZ_append]; exact h.append (.cons _ _ .nil)
theorem ints_app {vs ws : List Value} {ps qs : List Nat} (h : IntsAre vs (toZ ps)) (h2 : IntsAre ws (toZ qs)) : IntsAre (vs ++ ws) (toZ (ps ++ qs)) := by
  rw [toZ_append]; exact h.append h2
theorem ints_set : ∀ {vs : List Value} {ns : List Int}, IntsAre vs ns → ∀ (i : Nat) (k : Int) (t : Tok), IntsAre (vs.set i (.int k t)) (ns.set i k)
  | _, _, .nil, _, _, _ => .nil
  | _, _, .cons n u r, 0, k, t => .cons k t r
  | _, _, .cons n u r, i + 1, k, t => .cons n u (ints_set r i k t)
theorem ints_setN {vs : List Value} {ps : List Nat} (h : IntsAre vs (toZ ps)) (i k : Nat) (t : Tok) : IntsAre (vs.set i (.int k t)) (toZ (ps.set i k)) := by
  have := ints_set h i k t
  rwa [toZ, ← List.map_set] at this
theorem ints_dropLast {vs : List Value} {ps : List Nat} (h : IntsAre vs (toZ ps)) (hne : 0 < ps.length) : ∃ us k t, vs = us ++ [.int (ps[ps.length - 1]'(by lia)) t] ∧ IntsAre us (toZ ps.dropLast) ∧ k = ps.length := by
  have hl := ints_len h
  obtain ⟨t, e⟩ := ints_get h (k := ps.length - 1) (by lia)
  have hv : vs ≠ [] := by intro q; rw [q] at hl; simp at hl; lia
  refine ⟨vs.dropLast, _, t, ?_, ?_, rfl⟩
  · have e2 := List.dropLast_concat_getLast hv
    have e3 : vs.getLast hv = .int (ps[ps.length - 1]'(by lia)) t := by
      rw [List.getLast_eq_getElem]
      have : vs[vs.length - 1]? = some (.int (ps[ps.length - 1]'(by lia)) t) := by rw [hl]; exact e
      rw [List.getElem?_eq_getElem (by have := List.length_pos_iff.mpr hv; lia)] at this
      exact Option.some.inj this
    rw [← e3, e2]
  · have gen : ∀ {vs : List Value} {ns : List Int}, IntsAre vs ns → IntsAre vs.dropLast ns.dropLast := by
      intro vs ns h
      induction h with
      | nil => exact .nil
      | @cons n t vs ns r ih =>
        cases r with
        | nil => exact .nil
        | cons n' t' r' => exact .cons n t ih
    have := gen h
    rwa [toZ, ← List.map_dropLast] at this
section
variable {prog : Program} {w : World} {A : Around} {E : Value → Shared → Prop} {s : Shared} {h₀ h : Heap} {L d a b : Addr} {m : Str → Option Value} {news news' : List (Addr × Obj)} {vs ws : List Value} {n n2 : Nat} {x : Value}
theorem isList_of (N : News h₀ L h news) (hm : (d, W.listOf vs.toArray n) ∈ news) : h.IsList d vs.toArray := ⟨_, (N _ hm).1, rfl, n, rfl⟩
theorem isTup_of (N : News h₀ L h news) (hm : (d, tupObj vs) ∈ news) : IsTup h d vs.toArray := ⟨_, (N _ hm).1, rfl, 0, rfl⟩
theorem item_B {value slice : Expr} {k : Nat} {u : Tok} {Q : Value → Shared → Prop} (N : News h₀ L s.heap news) (hm : (d, W.listOf vs.toArray n) ∈ news) (hx : vs[k]? = some x) (hk : k < 2 ^ 62) (h : Q x s)
    (hs : subscripted slice false (.ref d) (.int k u) = operate [.ref d, .int k u] (getItem (.ref d) (.int k u)) := by with_unfolding_all rfl) :
    wpAny (model prog w) A (subscriptTail value slice (.ref d) (.int k u)) Q E s :=
  tail_any (isList_of N hm).typeIs slot_list_getitem.lookup (wpAny_getItem_list (isList_of N hm) (by lia) (by lia) (by simpa using hx) h) hs
theorem tup_item_B {value slice : Expr} {k : Nat} {u : Tok} {Q : Value → Shared → Prop} (N : News h₀ L s.heap news) (hm : (d, tupObj vs) ∈ news) (hx : vs[k]? = some x) (hk : k < 2 ^ 62) (h : Q x s)
    (hs : subscripted slice false (.ref d) (.int k u) = operate [.ref d, .int k u] (getItem (.ref d) (.int k u)) := by with_unfolding_all rfl) :
    wpAny (model prog w) A (subscriptTail value slice (.ref d) (.int k u)) Q E s := by
  have hl : k < vs.length := by
    rcases Nat.lt_or_ge k vs.length with h' | h'
    · exact h'
    · rw [List.getElem?_eq_none h'] at hx; cases hx
  refine item_tupleT (isTup_of N hm) (by lia) (by lia) (j := k) ?_ (by simpa using hx) h hs
  unfold seqIndex?
  simp only [List.size_toArray]
  split <;> first | (simp; lia) | (simp_all <;> lia)
theorem tup_item0 {value slice : Expr} {u : Tok} {Q : Value → Shared → Prop} (N : News h₀ L s.heap news) (hm : (d, tupObj (x :: vs)) ∈ news) (h : Q x s)
    (hs : subscripted slice false (.ref d) (.int 0 u) = operate [.ref d, .int 0 u] (getItem (.ref d) (.int 0 u)) := by with_unfolding_all rfl) :
    wpAny (model prog w) A (subscriptTail value slice (.ref d) (.int 0 u)) Q E s := tup_item_B (k := 0) N hm rfl (by lia) h hs
theorem tup_item1 {value slice : Expr} {u : Tok} {y : Value} {Q : Value → Shared → Prop} (N : News h₀ L s.heap news) (hm : (d, tupObj (x :: y :: vs)) ∈ news) (h : Q y s)
    (hs : subscripted slice false (.ref d) (.int 1 u) = operate [.ref d, .int 1 u] (getItem (.ref d) (.int 1 u)) := by with_unfolding_all rfl) :
    wpAny (model prog w) A (subscriptTail value slice (.ref d) (.int 1 u)) Q E s := tup_item_B (k := 1) N hm rfl (by lia) h hs
theorem slice1_B {value slice : Expr} {u : Tok} {Q : Value → Shared → Prop} (F : Fr h₀ L s.heap m) (N : News h₀ L s.heap news) (hm : (d, tupObj (x :: vs)) ∈ news) (hz : vs.length ≤ 1000000)
    (h : ∀ D h', Fr h₀ L h' m → News h₀ L h' ((D, tupObj vs) :: news) → (∀ p ∈ news, p.1 < D) → Q (.ref D) { s with heap := h' })
    (hs : subscripted slice false (.ref d) (.ref s.heap.objs.size) = operate [.ref s.heap.objs.size, .ref d] (getItem (.ref d) (.ref s.heap.objs.size)) := by with_unfolding_all rfl)
    (hg : ∀ r, letTemporaryGo value (.ref d) r = pure () := by intro _; with_unfolding_all rfl) :
    wpAny (model prog w) A (subscriptTail value slice (.ref d) (.ref s.heap.objs.size)) Q E { s with heap := s.heap.push { cls := .type "slice", data := .fields #[.int 1 u, .none, .none] } } :=
  slice_tuple_from (a := 1) F N (isTup_of N hm) (by lia) (by simp) (fun h' F' N' => h _ h' F' (by simpa using N') fun p hp => Nat.lt_succ_of_lt (Heap.lt_size (N p hp).1)) hs hg (by rw [List.size_toArray, sizeLine_eq, List.length_cons]; lia)
theorem tupleOf_B {Q : Value → Shared → Prop} (F : Fr h₀ L s.heap m) (N : News h₀ L s.heap news) (hm : (d, W.listOf vs.toArray n) ∈ news) (hz : vs.length ≤ 16384)
    (h : ∀ D h', Fr h₀ L h' m → News h₀ L h' ((D, tupObj vs) :: news) → (∀ p ∈ news, p.1 < D) → Q (.ref D) { s with heap := h' }) : wpAny (model prog w) A (call (.type "tuple") [.ref d]) Q E s :=
  kde_tupleOf F N (isList_of N hm) (by simpa using hz) rfl (fun D h' F' N' l => h D h' F' (by simpa using N') l)
theorem addT_B {Q : Value → Shared → Prop} (F : Fr h₀ L s.heap m) (N : News h₀ L s.heap news) (hm : (a, tupObj (x :: vs)) ∈ news) (hb : (b, tupObj ws) ∈ news) (hz : vs.length + ws.length ≤ 16000)
    (h : ∀ D h' news', Fr h₀ L h' m → News h₀ L h' news' → (∀ p ∈ news, p ∈ news') → (D, tupObj (x :: vs ++ ws)) ∈ news' → Q (.ref D) { s with heap := h' }) : wpAny (model prog w) A (binaryOp .Add (.ref a) (.ref b)) Q E s := by
  by_cases hw : ws = []
  · subst hw
    exact kde_addT1 F N (isTup_of N hm) (isTup_of N hb) (by simp) (by simp) (by simp; lia) (h a _ news F N (fun _ h => h) (by simpa using hm))
  · exact kde_addT F N (isTup_of N hm) (isTup_of N hb) (by simp) (by simpa using hw) (by simp; lia) rfl fun D h' F' N' l => h D h' _ F' N' (fun _ h => List.mem_cons_of_mem _ h) (by simp)
theorem append_B {Q : Value → Shared → Prop} (F : Fr h₀ L s.heap m) (N : News h₀ L s.heap news) (hm : (d, W.listOf vs.toArray n) ∈ news) (hz : vs.length ≤ 1000000)
    (h : ∀ h', Fr h₀ L h' m → News h₀ L h' (put d (W.listOf (vs ++ [x]).toArray (n + 1)) news) → Q .none { s with heap := h' }) : wpAny (model prog w) A (call (.builtin "list.append") [.ref d, x]) Q E s := by
  refine append_K F (news_front N hm) upd_front (fun h' F' N' => h h' F' (by simpa using N')) ?_
  rw [List.size_toArray, sizeLine_eq]; lia
theorem extend_B {Q : Value → Shared → Prop} (F : Fr h₀ L s.heap m) (N : News h₀ L s.heap news) (hm : (d, W.listOf vs.toArray n) ∈ news) (hb : (b, W.listOf ws.toArray n2) ∈ news) (hn : b ≠ d) (hz : vs.length + ws.length ≤ 1000000)
    (h : ∀ h' n', Fr h₀ L h' m → News h₀ L h' (put d (W.listOf (vs ++ ws).toArray n') news) → Q .none { s with heap := h' }) : wpAny (model prog w) A (call (.builtin "list.extend") [.ref d, .ref b]) Q E s := by
  have hz' : vs.length + ws.length ≤ sizeLine := by rw [sizeLine_eq]; lia
  have nolong : ¬(!vs.toArray.isEmpty && Builtin.List.listTooLong (vs.toArray.size + ws.toArray.size)) = true := by
    simp only [Builtin.List.listTooLong, List.size_toArray, Bool.and_eq_true, decide_eq_true_eq, not_and]
    intro _
    lia
  by_cases hw : ws = []
  · subst hw
    exact kxn_extend F (news_front N hm) (put_of hb hn) (by simp) upd_front nolong (by simpa using (by lia : vs.length ≤ sizeLine)) (by simp; lia) (fun h' F' N' => h h' n F' (by simpa using N'))
  · exact kl_extend F (news_front N hm) (put_of hb hn) rfl (by simpa using hw) upd_front nolong (by simpa using (by lia : vs.length ≤ sizeLine)) (by simp; lia) (fun h' F' N' => h h' _ F' (by simpa using N'))
theorem pop_B {Q : Value → Shared → Prop} (F : Fr h₀ L s.heap m) (N : News h₀ L s.heap news) (hm : (d, W.listOf (vs ++ [x]).toArray n) ∈ news) (hz : vs.length ≤ 1000000)
    (h : ∀ h', Fr h₀ L h' m → News h₀ L h' (put d (W.listOf vs.toArray (n + 1)) news) → Q x { s with heap := h' }) : wpAny (model prog w) A (call (.builtin "list.pop") [.ref d]) Q E s := by
  have last : ∀ (l : List Value) (y : Value), kl_last (l ++ [y]) = some (l, y) := fun l y => kpa_last y l
  refine kl_pop F (news_front N hm) (p := vs) (y := x) ?_ upd_front ?_ h
  · simpa using last vs x
  · simp only [List.length_append, List.length_cons, List.length_nil, sizeLine_eq]; lia
theorem set_B {k : Nat} {t : Tok} {Q : Unit → Shared → Prop} (F : Fr h₀ L s.heap m) (N : News h₀ L s.heap news) (hm : (d, W.listOf vs.toArray n) ∈ news) (hk : k < vs.length) (hz : k < 2 ^ 62)
    (h : ∀ h', Fr h₀ L h' m → News h₀ L h' (put d (W.listOf (vs.set k x).toArray n) news) → Q () { s with heap := h' }) : wpAny (model prog w) A (setItem (.ref d) (.int k t) x) Q E s := by
  refine ki_setAt (N _ hm).1 (by lia) (by lia) (by simp; lia) ?_
  refine h _ (F.change (Heap.SameBut.update ..) (N _ hm).2.1 (N _ hm).2.2) (news_put N hm (Heap.SameBut.update ..) ?_)
  have q := PySem.IsL.update (N _ hm).1 fun y => y.setIfInBounds k x
  simpa using q
theorem len_B {Q : Value → Shared → Prop} (N : News h₀ L s.heap news) (hm : (d, W.listOf vs.toArray n) ∈ news) (hz : vs.length ≤ 1000000) (h : ∀ t tk, Q (.int vs.length t) { s with toks := tk }) : wpAny (model prog w) A (call (.builtin "len") [.ref d]) Q E s := by
  refine len_list (isList_of N hm) (by simp; lia) ?_
  simpa using h _ _
theorem len_T {Q : Value → Shared → Prop} (N : News h₀ L s.heap news) (hm : (d, tupObj vs) ∈ news) (hz : vs.length ≤ 1000000) (h : ∀ t tk, Q (.int vs.length t) { s with toks := tk }) : wpAny (model prog w) A (call (.builtin "len") [.ref d]) Q E s := by
  refine len_tuple (isTup_of N hm) (by simp; lia) ?_
  simpa using h _ _
theorem addL_B {Q : Value → Shared → Prop} (F : Fr h₀ L s.heap m) (N : News h₀ L s.heap news) (hm : (a, W.listOf vs.toArray n) ∈ news) (hb : (b, W.listOf ws.toArray n2) ∈ news) (hz : vs.length + ws.length ≤ 1000000)
    (h : ∀ D h', Fr h₀ L h' m → News h₀ L h' ((D, W.listOf (vs ++ ws).toArray 0) :: news) → (∀ p ∈ news, p.1 < D) → Q (.ref D) { s with heap := h' }) : wpAny (model prog w) A (binaryOp .Add (.ref a) (.ref b)) Q E s :=
  kmk_add_lit F N (isList_of N hm) (isList_of N hb) rfl (fun D h' F' N' l => h D h' F' (by simpa using N') l) (by simp only [List.toList_toArray, sizeLine_eq]; lia)
theorem newList_B {M : Model} {Q : Value → Shared → Prop} (F : Fr h₀ L s.heap m) (N : News h₀ L s.heap news) (hz : vs.length ≤ 1000000)
    (h : ∀ D h', Fr h₀ L h' m → News h₀ L h' ((D, W.listOf vs.toArray 0) :: news) → (∀ p ∈ news, p.1 < D) → Q (.ref D) { s with heap := h' }) : wpAny M A (newList vs) Q E s :=
  newList_K F N h (by rw [sizeLine_eq]; lia)
theorem newTuple_B {M : Model} {Q : Value → Shared → Prop} (F : Fr h₀ L s.heap m) (N : News h₀ L s.heap news) (hz : vs.length ≤ 1000000)
    (h : ∀ D h', Fr h₀ L h' m → News h₀ L h' ((D, tupObj vs) :: news) → (∀ p ∈ news, p.1 < D) → Q (.ref D) { s with heap := h' }) : wpAny M A (newTuple vs) Q E s :=
  newTuple_N F N (fun h' F' N' => h _ h' F' N' fun p hp => Heap.lt_size (N p hp).1) (by rw [sizeLine_eq]; lia)
end

noncomputable def ID (prog : Program) (w : World) (news : List (Addr × Obj)) (d : Addr) (kvs : List (Int × Value)) : Prop :=
  (d == sysModules) = false ∧ ∃ o, (d, o) ∈ news ∧ o.IsDictOf (intKind prog w) kvs
section
variable {prog : Program} {w : World} {A : Around} {E : Value → Shared → Prop} {s : Shared} {h₀ h : Heap} {L d : Addr} {m : Str → Option Value} {news news' : List (Addr × Obj)} {kvs : List (Int × Value)} {k : Int} {t : Tok}
theorem isDictOf_cls {o : Obj} {knd : KeyKind prog w Int} (x : o.IsDictOf knd kvs) : o.cls = .type "dict" := let ⟨_, _, hc, _⟩ := x; hc.1
theorem ID.at (T : ID prog w news d kvs) (N : News h₀ L h news) : h.DictOf (intKind prog w) d kvs :=
  let ⟨_, o, hm, hd⟩ := T
  Heap.dictOf_iff.mpr ⟨o, (N _ hm).1, hd⟩
theorem ID.obj (T : ID prog w news d kvs) : ∃ o, (d, o) ∈ news ∧ o.cls = .type "dict" := let ⟨_, o, hm, hc⟩ := T; ⟨o, hm, isDictOf_cls hc⟩
theorem ID.move (T : ID prog w news d kvs) (hd : ∀ o, (d, o) ∈ news → (d, o) ∈ news') : ID prog w news' d kvs := let ⟨lo, o, hm, hc⟩ := T; ⟨lo, o, hd _ hm, hc⟩
theorem intKind_int (k : Int) (t : Tok) : (intKind prog w).is k (.int k t) = true := by simp [intKind, Value.isInt]
theorem id_item {value slice : Expr} {v : Value} {Q : Value → Shared → Prop} (N : News h₀ L s.heap news) (T : ID prog w news d kvs) (hv : valueAt kvs k = some v)
    (h : ∀ tk, Q v { s with toks := tk }) (hs : subscripted slice false (.ref d) (.int k t) = operate [.ref d, .int k t] (getItem (.ref d) (.int k t)) := by with_unfolding_all rfl) :
    wpAny (model prog w) A (subscriptTail value slice (.ref d) (.int k t)) Q E s :=
  tail_any (T.at N).typeIs slot_dict_getitem.lookup (wpAny_getItem_of (intKind_int k t) (T.at N).mapOf hv (h _)) hs
theorem id_put {h' : Heap} {ys : List (Int × Value)} (N : News h₀ L h news) (T : ID prog w news d kvs) (D : h'.DictOf (intKind prog w) d ys) (hs : Heap.SameBut d h h') :
    ∃ o', News h₀ L h' (put d o' news) ∧ ID prog w (put d o' news) d ys ∧ TupStay news (put d o' news) := by
  refine byC fun U0 => ?_
  obtain ⟨lo, o, hm, hc⟩ := T
  obtain ⟨o', ho', hc'⟩ := Heap.dictOf_iff.mp D
  refine U0 ?_
  clear U0
  exact ⟨o', news_put N hm hs ho', ⟨lo, o', put_self, hc'⟩, TupStay.put N hm (by rw [isDictOf_cls hc]; decide)⟩
theorem id_set {v : Value} {Q : Unit → Shared → Prop} (F : Fr h₀ L s.heap m) (N : News h₀ L s.heap news) (T : ID prog w news d kvs) (hz : kvs.length ≤ 1000000)
    (h : ∀ h' o' tk, Fr h₀ L h' m → News h₀ L h' (put d o' news) → ID prog w (put d o' news) d (stored kvs k v) → TupStay news (put d o' news) → Q () { s with heap := h', toks := tk }) :
    wpAny (model prog w) A (setItem (.ref d) (.int k t) v) Q E s := by
  refine wpAny_setItem_pairs (hsz := by rw [sizeLine_eq]; lia) (intKind_int k t) (T.at N) fun h' D hs => ?_
  refine byC fun U0 => ?_
  obtain ⟨o', N', T', st⟩ := id_put N T D hs
  obtain ⟨_, o, hm, _⟩ := T
  refine U0 ?_
  clear U0
  exact h h' o' _ (F.change hs (N _ hm).2.1 (N _ hm).2.2) N' T' st
theorem id_pop {v : Value} {Q : Value → Shared → Prop} (F : Fr h₀ L s.heap m) (N : News h₀ L s.heap news) (T : ID prog w news d kvs) (hv : valueAt kvs k = some v) (hz : kvs.length ≤ 1000000)
    (h : ∀ h' o' tk, Fr h₀ L h' m → News h₀ L h' (put d o' news) → ID prog w (put d o' news) d (without kvs k) → TupStay news (put d o' news) → Q v { s with heap := h', toks := tk }) :
    wpAny (model prog w) A (call (.builtin "dict.pop") [.ref d, .int k t]) Q E s := by
  refine call_meetsIn PySem.F.slot_dict_pop (T.at N).typeIs PySem.F.entry_dict_pop (PySem.F.args_dict_pop_2 _ _) (meets_dict_pop_there (intKind prog w) d (intKind_int k t) [] (.inl rfl) rfl) ⟨kvs, v, T.at N, by rw [sizeLine_eq]; lia, hv, fun h' D hs => ?_⟩
  refine byC fun U0 => ?_
  obtain ⟨o', N', T', st⟩ := id_put N T D hs
  obtain ⟨_, o, hm, _⟩ := T
  refine U0 ?_
  clear U0
  exact h h' o' _ (F.change hs (N _ hm).2.1 (N _ hm).2.2) N' T' st
theorem id_method {name : Str} {id : String} {pl : Sem Bool} {Q : Value × List Value → Shared → Prop} (N : News h₀ L s.heap news) (T : ID prog w news d kvs) (slot : Slot "dict" name id) (hty : typeOf (.builtin id) = pure (.type "method_descriptor"))
    (h : Q (.builtin id, [.ref d]) s) : wpAny (model prog w) A (getMethod (.ref d) name pl) Q E s :=
  getMethod_builtin (T.at N).typeIs PySem.F.plainAttrs_dict slot hty (fun b e => by cases e; obtain ⟨_, o, hm, _, _, hc, _⟩ := T; exact ⟨o, (N _ hm).1, hc.2.1⟩) h
end
end Mine
end

section
open PySem PySem.W PySem.Calls PyProof.Rows PySem.Spec
set_option maxRecDepth 100000
namespace Mine
noncomputable abbrev unD (w : World) (t : Nat → Tok) (a l g : Addr) : Obj := dictOf [ky w "above" (t 0) (.ref a), ky w "lots" (t 1) (.ref l), ky w "merged" (t 2) (.ref g)] 3
noncomputable abbrev baD (w : World) (t : Nat → Tok) (a l g d : Addr) : Obj := dictOf [ky w "nodes" (t 0) (.ref a), ky w "numbers" (t 1) (.ref l), ky w "weights" (t 2) (.ref g), ky w "depths" (t 3) (.ref d)] 4
noncomputable abbrev heD (w : World) (t : Nat → Tok) (b u e f k a wa : Addr) (tz : Tok) : Obj := dictOf [ky w "bank" (t 0) (.ref b), ky w "unions" (t 1) (.ref u), ky w "edges" (t 2) (.ref e), ky w "forest" (t 3) (.ref f), ky w "known" (t 4) (.ref k), ky w "above" (t 5) (.ref a), ky w "waiting" (t 6) (.ref wa), ky w "backs" (t 7) (.int 0 tz)] 8

noncomputable abbrev Nd := Str × List Nat
noncomputable abbrev datI (n : Nat) : Dat := .int (n : Int)
noncomputable abbrev dat (x : Nd) : Dat := .tuple (.str x.1 :: x.2.map datI)
theorem datI_inj : ∀ {a b : List Nat}, a.map datI = b.map datI → a = b
  | [], [], _ => rfl
  | [], _ :: _, h => by cases h
  | _ :: _, [], h => by cases h
  | x :: a, y :: b, h => by
    rw [List.map_cons, List.map_cons] at h
    injection h with h1 h2
    injection h1 with h3
    rw [datI_inj h2, Int.ofNat.inj h3]
theorem dat_inj {a b : Nd} (h : dat a = dat b) : a = b := by
  injection h with h
  injection h with h1 h2
  injection h1 with h3
  exact Prod.ext h3 (datI_inj h2)

structure HS where
  nodes : List Nd
  par : List Nat
  lots : List (List Nat)
  known : List (Nd × Nat)
  keys : List Nat
  above : Nat → List Nat
  wait : List Nat
  big : Nat
  nums : List Nd
  wl : Nat
  dl : Nat

structure Lay where
  (hD hI bD bI nL nD wL dL uD uI paL loL mgL eL fL kD aD waL : Nat)
  (t2 t4 t6 : Nat → Tok)
  tz : Tok
structure Dy where
  las : List Nat
  ab : Nat → Nat

inductive Cell | nodes | numbers | weights | depths | par | lots | merged | edges | forest | known | above | wait
noncomputable def Lay.at (y : Lay) : Cell → Nat
  | .nodes => y.nL | .numbers => y.nD | .weights => y.wL | .depths => y.dL | .par => y.paL | .lots => y.loL | .merged => y.mgL | .edges => y.eL | .forest => y.fL | .known => y.kD | .above => y.aD | .wait => y.waL
structure Lay.Chain (y : Lay) : Prop where
  c1 : y.hD < y.hI
  c2 : y.hI < y.bD
  c3 : y.bD < y.bI
  c4 : y.bI < y.nL
  c5 : y.nL < y.nD
  c6 : y.nD < y.wL
  c7 : y.wL < y.dL
  c8 : y.dL < y.uD
  c9 : y.uD < y.uI
  c10 : y.uI < y.paL
  c11 : y.paL < y.loL
  c12 : y.loL < y.mgL
  c13 : y.mgL < y.eL
  c14 : y.eL < y.fL
  c15 : y.fL < y.kD
  c16 : y.kD < y.aD
  c17 : y.aD < y.waL

noncomputable def IsInts (news : List (Addr × Obj)) (a : Addr) (l : List Nat) : Prop := ∃ vs n, (a, W.listOf (List.toArray vs) n) ∈ news ∧ IntsAre vs (toZ l)
noncomputable def IsSome (news : List (Addr × Obj)) (a : Addr) (k : Nat) : Prop := ∃ vs n, (a, W.listOf (List.toArray vs) n) ∈ news ∧ vs.length ≤ k
noncomputable def ValsAre : List (Dat × Addr × Value) → List (Dat × Nat) → Prop
  | [], [] => True
  | x :: xs, y :: ys => (x.1 = y.1 ∧ ∃ t, x.2.2 = .int y.2 t) ∧ ValsAre xs ys
  | _, _ => False
noncomputable def TDI (w : World) (news : List (Addr × Obj)) (d : Addr) (ys : List (Dat × Nat)) : Prop := ∃ xs, TD prog w news d xs ∧ ValsAre xs ys
noncomputable def numbersOf (nodes : List Nd) : List (Dat × Nat) := nodes.zipIdx.map fun x => (dat x.1, x.2)
noncomputable def knownOf (known : List (Nd × Nat)) : List (Dat × Nat) := known.map fun x => (dat x.1, x.2)

noncomputable def Comp (w : World) (news : List (Addr × Obj)) (y : Lay) (v : Dy) (σ : HS) : Cell → Prop
  | .nodes => ∃ vs n, (y.nL, W.listOf (List.toArray vs) n) ∈ news ∧ KInAll news 7 vs (σ.nodes.map dat)
  | .numbers => TDI w news y.nD (numbersOf σ.nums)
  | .weights => ∃ ws, IsInts news y.wL ws ∧ ws.length = σ.wl
  | .depths => ∃ ws, IsInts news y.dL ws ∧ ws.length = σ.dl
  | .par => IsInts news y.paL σ.par
  | .lots => ∃ n, (y.loL, W.listOf (v.las.map Value.ref).toArray n) ∈ news
  | .merged => IsSome news y.mgL σ.big
  | .edges => IsSome news y.eL σ.big
  | .forest => IsSome news y.fL σ.big
  | .known => TDI w news y.kD (knownOf σ.known)
  | .above => ID prog w news y.aD (σ.keys.map fun c : Nat => ((c : Int), Value.ref (v.ab c)))
  | .wait => IsInts news y.waL σ.wait

structure Fixed (w : World) (news : List (Addr × Obj)) (y : Lay) : Prop where
  i1 : (y.hI, instObj 386 y.hD) ∈ news
  i2 : (y.hD, heD w y.t2 y.bI y.uI y.eL y.fL y.kD y.aD y.waL y.tz) ∈ news
  i3 : (y.bI, instObj 174 y.bD) ∈ news
  i4 : (y.bD, baD w y.t4 y.nL y.nD y.wL y.dL) ∈ news
  i5 : (y.uI, instObj 256 y.uD) ∈ news
  i6 : (y.uD, unD w y.t6 y.paL y.loL y.mgL) ∈ news

structure Dyn (news : List (Addr × Obj)) (v : Dy) (σ : HS) : Prop where
  lot : ∀ (i : Nat) (a : Addr) (l : List Nat), v.las[i]? = some a → σ.lots[i]? = some l → IsInts news a l
  abl : ∀ c ∈ σ.keys, IsInts news (v.ab c) (σ.above c)
structure Apart (y : Lay) (v : Dy) (σ : HS) : Prop where
  chain : y.Chain
  len : v.las.length = σ.lots.length
  lasN : v.las.Nodup
  keysN : σ.keys.Nodup
  inj : ∀ c ∈ σ.keys, ∀ d ∈ σ.keys, v.ab c = v.ab d → c = d
  cross : ∀ c ∈ σ.keys, v.ab c ∉ v.las
  lasHi : ∀ a ∈ v.las, y.waL < a
  abHi : ∀ c ∈ σ.keys, y.waL < v.ab c
structure HRep (w : World) (news : List (Addr × Obj)) (y : Lay) (v : Dy) (σ : HS) : Prop where
  fx : Fixed w news y
  cm : ∀ c, Comp w news y v σ c
  dy : Dyn news v σ
  ap : Apart y v σ

noncomputable def Lay.own (y : Lay) (v : Dy) (σ : HS) (x : Nat) : Prop := x ∈ [y.hD, y.hI, y.bD, y.bI, y.nL, y.nD, y.wL, y.dL, y.uD, y.uI, y.paL, y.loL, y.mgL, y.eL, y.fL, y.kD, y.aD, y.waL] ∨ x ∈ v.las ∨ ∃ c ∈ σ.keys, x = v.ab c

section
variable {w : World} {news news' : List (Addr × Obj)} {y : Lay} {v v' : Dy} {σ σ' : HS} {d a : Addr} {h₀ h : Heap} {L : Addr}
theorem IsInts.move {l : List Nat} (x : IsInts news a l) (k : ∀ o, (a, o) ∈ news → (a, o) ∈ news') : IsInts news' a l := let ⟨vs, n, hm, hi⟩ := x; ⟨vs, n, k _ hm, hi⟩
theorem IsSome.move {l : Nat} (x : IsSome news a l) (k : ∀ o, (a, o) ∈ news → (a, o) ∈ news') : IsSome news' a l := let ⟨vs, n, hm, hi⟩ := x; ⟨vs, n, k _ hm, hi⟩
theorem IsSome.up {l k : Nat} (x : IsSome news a l) (h : l ≤ k) : IsSome news a k := let ⟨vs, n, hm, hi⟩ := x; ⟨vs, n, hm, Nat.le_trans hi h⟩
theorem TDI.move {ys : List (Dat × Nat)} (x : TDI w news d ys) (st : TupStay news news') (k : ∀ o, (d, o) ∈ news → (d, o) ∈ news') : TDI w news' d ys := let ⟨xs, t, v⟩ := x; ⟨xs, t.move st k, v⟩
theorem Comp.move {c : Cell} (x : Comp w news y v σ c) (st : TupStay news news') (k : ∀ o, (y.at c, o) ∈ news → (y.at c, o) ∈ news') : Comp w news' y v σ c := by
  cases c with
  | nodes => obtain ⟨vs, n, hm, r⟩ := x; exact ⟨vs, n, k _ hm, r.move st⟩
  | numbers => exact TDI.move x st k
  | weights => obtain ⟨ws, i, e⟩ := x; exact ⟨ws, i.move k, e⟩
  | depths => obtain ⟨ws, i, e⟩ := x; exact ⟨ws, i.move k, e⟩
  | par => exact IsInts.move x k
  | lots => obtain ⟨n, hm⟩ := x; exact ⟨n, k _ hm⟩
  | merged => exact IsSome.move x k
  | edges => exact IsSome.move x k
  | forest => exact IsSome.move x k
  | known => exact TDI.move x st k
  | above => exact ID.move x k
  | wait => exact IsInts.move x k
theorem Fixed.move (x : Fixed w news y) (k : ∀ a ∈ [y.hD, y.hI, y.bD, y.bI, y.uD, y.uI], ∀ o, (a, o) ∈ news → (a, o) ∈ news') : Fixed w news' y where
  i1 := k _ (by simp) _ x.i1
  i2 := k _ (by simp) _ x.i2
  i3 := k _ (by simp) _ x.i3
  i4 := k _ (by simp) _ x.i4
  i5 := k _ (by simp) _ x.i5
  i6 := k _ (by simp) _ x.i6
theorem pw_cons {a b : Nat} {l : List Nat} (h : a < b) (P : (b :: l).Pairwise (· < ·)) : (a :: b :: l).Pairwise (· < ·) :=
  List.pairwise_cons.2 ⟨fun _ hx => by
    rcases List.mem_cons.1 hx with e | e
    · exact e ▸ h
    · exact Nat.lt_trans h ((List.pairwise_cons.1 P).1 _ e), P⟩
noncomputable def Lay.all (y : Lay) : List Nat := [y.hD, y.hI, y.bD, y.bI, y.nL, y.nD, y.wL, y.dL, y.uD, y.uI, y.paL, y.loL, y.mgL, y.eL, y.fL, y.kD, y.aD, y.waL]
noncomputable def Cell.rk : Cell → Nat
  | .nodes => 4 | .numbers => 5 | .weights => 6 | .depths => 7 | .par => 10 | .lots => 11 | .merged => 12 | .edges => 13 | .forest => 14 | .known => 15 | .above => 16 | .wait => 17
noncomputable def Cell.un : Nat → Cell
  | 4 => .nodes | 5 => .numbers | 6 => .weights | 7 => .depths | 10 => .par | 11 => .lots | 12 => .merged | 13 => .edges | 14 => .forest | 15 => .known | 16 => .above | _ => .wait
theorem un_rk (c : Cell) : Cell.un c.rk = c := by cases c <;> rfl
theorem Lay.at_all (y : Lay) (c : Cell) : y.all[c.rk]? = some (y.at c) := by cases c <;> rfl
theorem Lay.Chain.srt (C : y.Chain) : y.all.Pairwise (· < ·) :=
  pw_cons C.c1 <| pw_cons C.c2 <| pw_cons C.c3 <| pw_cons C.c4 <| pw_cons C.c5 <| pw_cons C.c6 <| pw_cons C.c7 <| pw_cons C.c8 <| pw_cons C.c9 <| pw_cons C.c10 <| pw_cons C.c11 <| pw_cons C.c12 <| pw_cons C.c13 <| pw_cons C.c14 <| pw_cons C.c15 <| pw_cons C.c16 <| pw_cons C.c17 <| List.pairwise_singleton _ _
theorem srt_lt {l : List Nat} (P : l.Pairwise (· < ·)) {i j : Nat} {a b : Nat} (h : l[i]? = some a) (k : l[j]? = some b) (q : i < j) : a < b := by
  refine byC fun U0 => ?_
  obtain ⟨hi, rfl⟩ := List.getElem?_eq_some_iff.1 h
  obtain ⟨hj, rfl⟩ := List.getElem?_eq_some_iff.1 k
  refine U0 ?_
  clear U0
  exact List.pairwise_iff_getElem.1 P i j hi hj q
theorem srt_inj {l : List Nat} (P : l.Pairwise (· < ·)) {i j : Nat} {a : Nat} (h : l[i]? = some a) (k : l[j]? = some a) : i = j := by
  rcases Nat.lt_trichotomy i j with q | q | q
  · exact absurd (srt_lt P h k q) (Nat.lt_irrefl _)
  · exact q
  · exact absurd (srt_lt P k h q) (Nat.lt_irrefl _)
theorem Lay.Chain.inj (C : y.Chain) {c e : Cell} (h : y.at c = y.at e) : c = e := by
  rw [← un_rk c, ← un_rk e, srt_inj C.srt (y.at_all c) (h ▸ y.at_all e)]
theorem Cell.rk_ne (c : Cell) : ∀ n ∈ [0, 1, 2, 3, 8, 9], n ≠ c.rk := by cases c <;> decide
theorem fixed_at {a : Nat} (h : a ∈ [y.hD, y.hI, y.bD, y.bI, y.uD, y.uI]) : ∃ n ∈ [0, 1, 2, 3, 8, 9], y.all[n]? = some a := by
  obtain ⟨n, hn, e⟩ := List.mem_map.mp (show a ∈ [0, 1, 2, 3, 8, 9].map (fun n => y.all.getD n 0) from h)
  have hl : n < y.all.length := (by decide : ∀ n ∈ [0, 1, 2, 3, 8, 9], n < 18) n hn
  exact ⟨n, hn, by rw [← e, List.getElem?_eq_getElem hl]; simp [hl]⟩
theorem Lay.Chain.fixed (C : y.Chain) {c : Cell} : ∀ a ∈ [y.hD, y.hI, y.bD, y.bI, y.uD, y.uI], a ≠ y.at c := by
  intro a ha e
  refine byC fun U0 => ?_
  obtain ⟨n, hn, q⟩ := fixed_at ha
  refine U0 ?_
  clear U0
  exact c.rk_ne n hn (srt_inj C.srt q (e ▸ y.at_all c))
theorem Lay.Chain.lo (C : y.Chain) {a : Nat} (h : a ∈ y.all) : y.hD ≤ a := by
  rcases List.mem_cons.1 h with e | e
  · exact Nat.le_of_eq e.symm
  · exact Nat.le_of_lt ((List.pairwise_cons.1 C.srt).1 _ e)
theorem Lay.Chain.hi (C : y.Chain) {a : Nat} (h : a ∈ y.all) : a ≤ y.waL := by
  obtain ⟨i, q⟩ := List.getElem?_of_mem h
  have hi := (List.getElem?_eq_some_iff.1 q).1
  rcases Nat.eq_or_lt_of_le (Nat.le_of_lt_succ hi) with e | e
  · subst e; exact Nat.le_of_eq (Option.some.inj (q.symm.trans rfl))
  · exact Nat.le_of_lt (srt_lt C.srt q (rfl : y.all[17]? = some y.waL) e)
theorem Lay.Chain.le (C : y.Chain) {c : Cell} : y.at c ≤ y.waL := C.hi (List.mem_of_getElem? (y.at_all c))
theorem Lay.Chain.fixedLe (C : y.Chain) : ∀ a ∈ [y.hD, y.hI, y.bD, y.bI, y.uD, y.uI], a ≤ y.waL := fun a ha => by
  refine byC fun U0 => ?_
  obtain ⟨n, hn, q⟩ := fixed_at ha
  refine U0 ?_
  clear U0
  exact C.hi (List.mem_of_getElem? q)
theorem own_cell (c : Cell) : y.own v σ (y.at c) := .inl (List.mem_of_getElem? (y.at_all c))
theorem own_fixed {a : Nat} (h : a ∈ [y.hD, y.hI, y.bD, y.bI, y.uD, y.uI]) : y.own v σ a := let ⟨_, _, q⟩ := fixed_at h; .inl (List.mem_of_getElem? q)
theorem own_six {x a b c d e f : Nat} : x ∈ [a, b, c, d, e, f] ↔ x = a ∨ x = b ∨ x = c ∨ x = d ∨ x = e ∨ x = f := by simp
theorem own_cases {x : Nat} (h : y.own v σ x) : x ∈ [y.hD, y.hI, y.bD, y.bI, y.uD, y.uI] ∨ (∃ c, x = y.at c) ∨ x ∈ v.las ∨ ∃ c ∈ σ.keys, x = v.ab c := by
  rcases h with h | h
  · simp only [List.mem_cons, List.not_mem_nil, or_false] at h
    rcases h with h | h | h | h | h | h | h | h | h | h | h | h | h | h | h | h | h | h
    · exact .inl (own_six.2 (.inl h))
    · exact .inl (own_six.2 (.inr (.inl h)))
    · exact .inl (own_six.2 (.inr (.inr (.inl h))))
    · exact .inl (own_six.2 (.inr (.inr (.inr (.inl h)))))
    · exact .inr (.inl ⟨.nodes, h⟩)
    · exact .inr (.inl ⟨.numbers, h⟩)
    · exact .inr (.inl ⟨.weights, h⟩)
    · exact .inr (.inl ⟨.depths, h⟩)
    · exact .inl (own_six.2 (.inr (.inr (.inr (.inr (.inl h))))))
    · exact .inl (own_six.2 (.inr (.inr (.inr (.inr (.inr h))))))
    · exact .inr (.inl ⟨.par, h⟩)
    · exact .inr (.inl ⟨.lots, h⟩)
    · exact .inr (.inl ⟨.merged, h⟩)
    · exact .inr (.inl ⟨.edges, h⟩)
    · exact .inr (.inl ⟨.forest, h⟩)
    · exact .inr (.inl ⟨.known, h⟩)
    · exact .inr (.inl ⟨.above, h⟩)
    · exact .inr (.inl ⟨.wait, h⟩)
  · exact .inr (.inr h)
theorem HRep.move (H : HRep w news y v σ) (st : TupStay news news') (k : ∀ a : Nat, y.own v σ a → ∀ o, (a, o) ∈ news → (a, o) ∈ news') : HRep w news' y v σ where
  fx := H.fx.move fun a ha => k a (own_fixed ha)
  cm := fun c => (H.cm c).move st (k _ (own_cell c))
  dy := ⟨fun i a l h1 h2 => (H.dy.lot i a l h1 h2).move (k _ (.inr (.inl (List.mem_of_getElem? h1)))), fun c hc => (H.dy.abl c hc).move (k _ (.inr (.inr ⟨c, hc, rfl⟩)))⟩
  ap := H.ap
theorem HRep.cons (H : HRep w news y v σ) {p : Addr × Obj} : HRep w (p :: news) y v σ := H.move .cons fun _ _ _ h => List.mem_cons_of_mem _ h
theorem HRep.cells (H : HRep w news y v σ) (C : Cell → Prop) (st : TupStay news news') (k : ∀ a : Nat, (∀ c, C c → a ≠ y.at c) → ∀ o, (a, o) ∈ news → (a, o) ∈ news')
    (hc : ∀ c, C c → Comp w news' y v σ' c) (ho : ∀ e, ¬ C e → Comp w news' y v σ e → Comp w news' y v σ' e) (hk : σ'.keys = σ.keys) (ha : σ'.above = σ.above) (hl : σ'.lots = σ.lots) : HRep w news' y v σ' where
  fx := H.fx.move fun a h => k a fun c _ => H.ap.chain.fixed a h
  cm := fun e => by
    by_cases q : C e
    · exact hc e q
    · exact ho e q ((H.cm e).move st (k _ fun c hC x => q (by rw [H.ap.chain.inj x]; exact hC)))
  dy := by
    refine ⟨fun i a l h1 h2 => ?_, fun e he => ?_⟩
    · rw [hl] at h2
      exact (H.dy.lot i a l h1 h2).move (k _ fun c _ => by have := H.ap.lasHi a (List.mem_of_getElem? h1); have := H.ap.chain.le (c := c); lia)
    · rw [hk] at he
      rw [ha]
      exact (H.dy.abl e he).move (k _ fun c _ => by have := H.ap.abHi e he; have := H.ap.chain.le (c := c); lia)
  ap := ⟨H.ap.chain, by rw [hl]; exact H.ap.len, H.ap.lasN, hk ▸ H.ap.keysN, fun c hc d hd => H.ap.inj c (hk ▸ hc) d (hk ▸ hd), fun c hc => H.ap.cross c (hk ▸ hc), H.ap.lasHi, fun c hc => H.ap.abHi c (hk ▸ hc)⟩
theorem cls_list {vs : Array Value} {n : Nat} : (W.listOf vs n).cls ≠ .type "tuple" := by simp
theorem cls_inst {C d : Addr} : (instObj C d).cls ≠ .type "tuple" := by simp
theorem cls_dict {es : List DictEntry} {n : Nat} : (dictOf es n).cls ≠ .type "tuple" := by simp
theorem cls_dic : Value.type "dict" ≠ .type "tuple" := by simp
theorem own_obj (H : HRep w news y v σ) {x : Nat} (h : y.own v σ x) : ∃ o, (x, o) ∈ news ∧ o.cls ≠ .type "tuple" := by
  rcases own_cases h with h | ⟨c, rfl⟩ | h | ⟨c, hc, rfl⟩
  · simp only [List.mem_cons, List.not_mem_nil, or_false] at h
    rcases h with rfl | rfl | rfl | rfl | rfl | rfl
    · exact ⟨_, H.fx.i2, cls_dict⟩
    · exact ⟨_, H.fx.i1, cls_inst⟩
    · exact ⟨_, H.fx.i4, cls_dict⟩
    · exact ⟨_, H.fx.i3, cls_inst⟩
    · exact ⟨_, H.fx.i6, cls_dict⟩
    · exact ⟨_, H.fx.i5, cls_inst⟩
  · have x := H.cm c
    cases c with
    | nodes => obtain ⟨vs, n, hm, _⟩ := x; exact ⟨_, hm, cls_list⟩
    | numbers => obtain ⟨xs, t, _⟩ := x; obtain ⟨o, hm, e⟩ := t.obj; exact ⟨o, hm, e ▸ cls_dic⟩
    | weights => obtain ⟨_, ⟨vs, n, hm, _⟩, _⟩ := x; exact ⟨_, hm, cls_list⟩
    | depths => obtain ⟨_, ⟨vs, n, hm, _⟩, _⟩ := x; exact ⟨_, hm, cls_list⟩
    | par => obtain ⟨vs, n, hm, _⟩ := x; exact ⟨_, hm, cls_list⟩
    | lots => obtain ⟨n, hm⟩ := x; exact ⟨_, hm, cls_list⟩
    | merged => obtain ⟨vs, n, hm, _⟩ := x; exact ⟨_, hm, cls_list⟩
    | edges => obtain ⟨vs, n, hm, _⟩ := x; exact ⟨_, hm, cls_list⟩
    | forest => obtain ⟨vs, n, hm, _⟩ := x; exact ⟨_, hm, cls_list⟩
    | known => obtain ⟨xs, t, _⟩ := x; obtain ⟨o, hm, e⟩ := t.obj; exact ⟨o, hm, e ▸ cls_dic⟩
    | above => obtain ⟨o, hm, e⟩ := ID.obj x; exact ⟨o, hm, e ▸ cls_dic⟩
    | wait => obtain ⟨vs, n, hm, _⟩ := x; exact ⟨_, hm, cls_list⟩
  · refine byC fun U0 => ?_
    obtain ⟨i, hi⟩ := List.mem_iff_getElem?.mp h
    have hlt : i < v.las.length := by
      rcases Nat.lt_or_ge i v.las.length with q | q
      · exact q
      · rw [List.getElem?_eq_none q] at hi; cases hi
    obtain ⟨vs, n, hm, _⟩ := H.dy.lot i x (σ.lots[i]'(by rw [← H.ap.len]; exact hlt)) hi (by simp)
    refine U0 ?_
    clear U0
    exact ⟨_, hm, cls_list⟩
  · refine byC fun U0 => ?_
    obtain ⟨vs, n, hm, _⟩ := H.dy.abl c hc
    refine U0 ?_
    clear U0
    exact ⟨_, hm, cls_list⟩
structure Kept (y : Lay) (v : Dy) (σ : HS) (v' : Dy) (σ' : HS) (news news' : List (Addr × Obj)) : Prop where
  keep : ∀ p ∈ news, ¬ y.own v σ p.1 → p ∈ news'
  own : ∀ x : Nat, y.own v' σ' x → y.own v σ x ∨ ∀ p ∈ news, p.1 ≠ x
  addr : ∀ p ∈ news, ∃ o, (p.1, o) ∈ news'
theorem Kept.refl : Kept y v σ v σ news news := ⟨fun _ h _ => h, fun _ h => .inl h, fun p h => ⟨p.2, h⟩⟩
theorem Kept.tups (K : Kept y v σ v' σ' news news') (H : HRep w news y v σ) (N : News h₀ L h news) : TupStay news news' := fun a vs ha => by
  refine K.keep _ ha fun q => ?_
  refine byC fun U0 => ?_
  obtain ⟨o, hm, hc⟩ := own_obj H q
  refine U0 ?_
  clear U0
  rw [news_fn N hm ha] at hc
  exact hc rfl
theorem Kept.trans {v'' : Dy} {σ'' : HS} {news'' : List (Addr × Obj)} (K : Kept y v σ v' σ' news news') (K' : Kept y v' σ' v'' σ'' news' news'') : Kept y v σ v'' σ'' news news'' where
  keep := fun p hp hn => K'.keep p (K.keep p hp hn) fun q => by
    rcases K.own _ q with q | q
    · exact hn q
    · exact q p hp rfl
  own := fun x hx => by
    rcases K'.own x hx with q | q
    · exact K.own x q
    · by_cases z : y.own v σ x
      · exact .inl z
      · refine .inr fun p hp e => ?_
        exact q p (K.keep p hp (by rw [e]; exact z)) e
  addr := fun p hp => by
    obtain ⟨o, ho⟩ := K.addr p hp
    exact K'.addr (p.1, o) ho
theorem Kept.fresh (K : Kept y v σ v' σ' news news') {D : Nat} (h : ∀ p ∈ news', p.1 < D) : ∀ p ∈ news, p.1 ≠ D := fun p hp e => by
  obtain ⟨o, ho⟩ := K.addr p hp
  have := h _ ho
  dsimp only at this
  rw [e] at this
  exact Nat.lt_irrefl _ this
theorem Kept.cons {p : Addr × Obj} (K : Kept y v σ v' σ' (p :: news) news') : Kept y v σ v' σ' news news' where
  keep := fun q hq hn => K.keep q (List.mem_cons_of_mem _ hq) hn
  own := fun x hx => (K.own x hx).imp id fun z q hq => z q (List.mem_cons_of_mem _ hq)
  addr := fun q hq => K.addr q (List.mem_cons_of_mem _ hq)
end
theorem mem_tl {a b : Addr × Obj} {l : List (Addr × Obj)} (h : a ∈ l) : a ∈ b :: l := List.mem_cons_of_mem _ h
theorem mem_hd {a : Addr × Obj} {l : List (Addr × Obj)} : a ∈ a :: l := List.mem_cons_self
theorem kinAll_get {news : List (Addr × Obj)} {n : Nat} {vs : List Value} {ds : List Dat} (h : KInAll news n vs ds) (i : Nat) (d : Dat) (e : ds[i]? = some d) : ∃ v, vs[i]? = some v ∧ KIn news n v d := by
  induction ds generalizing vs i with
  | nil => exact nomatch e
  | cons c ds ih =>
    cases h with | cons a r =>
    cases i with
    | zero => exact Option.some.inj e ▸ ⟨_, rfl, a⟩
    | succ i => exact ih r i e
theorem kinAll_ints {news : List (Addr × Obj)} {n : Nat} {vs : List Value} {ks : List Nat} (h : KInAll news n vs (ks.map datI)) : IntsAre vs (toZ ks) := by
  induction ks generalizing vs with
  | nil => rw [KPs.nil_inv h]; exact .nil
  | cons k ks ih =>
    obtain ⟨_, us, rfl, a, r⟩ := KPs.cons_inv h
    obtain ⟨t, rfl⟩ := KP.int_inv a
    exact .cons _ _ (ih r)
theorem kinAll_of_ints {news : List (Addr × Obj)} {n : Nat} : ∀ {vs : List Value} {ks : List Nat}, IntsAre vs (toZ ks) → KInAll news n vs (ks.map datI)
  | vs, [], h => by cases h; exact .nil
  | vs, k :: ks, h => by
    cases h with
    | cons _ t r => exact .cons (.int _ _) (kinAll_of_ints r)
theorem kinAll_len {news : List (Addr × Obj)} {n : Nat} {vs : List Value} {ds : List Dat} (h : KInAll news n vs ds) : vs.length = ds.length := KPs.len h
theorem nodes_get {w : World} {news : List (Addr × Obj)} {y : Lay} {v : Dy} {σ : HS} (H : HRep w news y v σ) {i : Nat} {op : Str} {kids : List Nat} (h : σ.nodes[i]? = some (op, kids)) :
    ∃ vs n tup t ks, (y.nL, W.listOf (List.toArray vs) n) ∈ news ∧ vs[i]? = some (.ref tup) ∧ (tup, tupObj (.str op t :: ks)) ∈ news ∧ IntsAre ks (toZ kids) ∧ PyData.strOk op = true := by
  refine byC fun U0 => ?_
  obtain ⟨vs, n, hm, r⟩ := (show ∃ vs n, (y.nL, W.listOf (List.toArray vs) n) ∈ news ∧ KInAll news 7 vs (σ.nodes.map dat) from H.cm .nodes)
  obtain ⟨v, e, k⟩ := kinAll_get r i (dat (op, kids)) (by simp [h])
  refine U0 ?_
  clear U0
  obtain ⟨q, b, us, rfl, hm', r'⟩ := KP.tup_inv k
  obtain ⟨_, ks, rfl, a, r''⟩ := KPs.cons_inv r'
  obtain ⟨t, rfl, ok⟩ := KP.str_inv a
  exact ⟨vs, n, _, t, _, hm, e, hm', kinAll_ints r'', ok⟩
theorem ints_zero {vs : List Value} (h : IntsAre vs (toZ [])) : vs = [] := by cases h; rfl
theorem ints_two {vs : List Value} {a b : Nat} (h : IntsAre vs (toZ [a, b])) : ∃ t u, vs = [.int (a : Int) t, .int (b : Int) u] := by
  cases h with
  | cons _ t r =>
    cases r with
    | cons _ u r => cases r; exact ⟨t, u, rfl⟩
theorem ints_at {vs : List Value} {ps : List Nat} (h : IntsAre vs (toZ ps)) {i : Nat} {v : Value} (hv : vs[i]? = some v) : ∃ (k : Nat) (t : Tok), ps[i]? = some k ∧ v = Value.int (k : Int) t := by
  have hl := ints_len h
  have hi : i < ps.length := by
    rcases Nat.lt_or_ge i ps.length with q | q
    · exact q
    · rw [List.getElem?_eq_none (by lia)] at hv; cases hv
  obtain ⟨t, e⟩ := ints_get h hi
  rw [e] at hv
  exact ⟨_, t, by simp [hi], (Option.some.inj hv).symm⟩
theorem ints_of_at {vs : List Value} {ps : List Nat} (hl : vs.length = ps.length) (h : ∀ (i : Nat) (v : Value), vs[i]? = some v → ∃ (k : Nat) (t : Tok), ps[i]? = some k ∧ v = Value.int (k : Int) t) : IntsAre vs (toZ ps) := by
  induction vs generalizing ps with
  | nil => cases ps with
    | nil => exact .nil
    | cons _ _ => simp at hl
  | cons v vs ih =>
    cases ps with
    | nil => simp at hl
    | cons p ps =>
      refine byC fun U0 => ?_
      obtain ⟨k, t, e1, rfl⟩ := h 0 v (by simp)
      simp at e1
      subst e1
      refine U0 ?_
      clear U0
      exact .cons _ t (ih (by simpa using hl) fun i v hv => by simpa using h (i + 1) v (by simpa using hv))
theorem HRep.sub {w : World} {news news' : List (Addr × Obj)} {y : Lay} {v : Dy} {σ : HS} (H : HRep w news y v σ) (h : ∀ p ∈ news, p ∈ news') : HRep w news' y v σ := H.move (fun _ _ q => h _ q) fun _ _ _ q => h _ q
theorem mem_sub {x : Addr × Obj} {a b : List (Addr × Obj)} (h : ∀ p ∈ a, p ∈ b) (hx : x ∈ a) : x ∈ b := h x hx
end Mine
end

section
open PySem PySem.W PySem.Calls PyProof.Rows PySem.Spec
set_option maxRecDepth 100000
namespace Mine
noncomputable def esHe (w : World) (y : Lay) : List DictEntry := [ky w "bank" (y.t2 0) (.ref y.bI), ky w "unions" (y.t2 1) (.ref y.uI), ky w "edges" (y.t2 2) (.ref y.eL), ky w "forest" (y.t2 3) (.ref y.fL), ky w "known" (y.t2 4) (.ref y.kD), ky w "above" (y.t2 5) (.ref y.aD), ky w "waiting" (y.t2 6) (.ref y.waL), ky w "backs" (y.t2 7) (.int 0 y.tz)]
noncomputable def esBa (w : World) (y : Lay) : List DictEntry := [ky w "nodes" (y.t4 0) (.ref y.nL), ky w "numbers" (y.t4 1) (.ref y.nD), ky w "weights" (y.t4 2) (.ref y.wL), ky w "depths" (y.t4 3) (.ref y.dL)]
noncomputable def esUn (w : World) (y : Lay) : List DictEntry := [ky w "above" (y.t6 0) (.ref y.paL), ky w "lots" (y.t6 1) (.ref y.loL), ky w "merged" (y.t6 2) (.ref y.mgL)]
section
variable {w : World} {news news' news₀ : List (Addr × Obj)} {y : Lay} {v v' v₀ : Dy} {σ σ' σ₀ : HS} {h₀ h : Heap} {L : Addr}
theorem HRep.i1 (H : HRep w news y v σ) : (y.hI, instObj 386 y.hD) ∈ news := H.fx.i1
theorem HRep.i2 (H : HRep w news y v σ) : (y.hD, dictOf (esHe w y) 8) ∈ news := H.fx.i2
theorem HRep.i3 (H : HRep w news y v σ) : (y.bI, instObj 174 y.bD) ∈ news := H.fx.i3
theorem HRep.i4 (H : HRep w news y v σ) : (y.bD, dictOf (esBa w y) 4) ∈ news := H.fx.i4
theorem HRep.i5 (H : HRep w news y v σ) : (y.uI, instObj 256 y.uD) ∈ news := H.fx.i5
theorem HRep.i6 (H : HRep w news y v σ) : (y.uD, dictOf (esUn w y) 3) ∈ news := H.fx.i6
theorem Kept.more (K : Kept y v₀ σ₀ v σ news₀ news) (h : ∀ p ∈ news, p ∈ news') : Kept y v₀ σ₀ v σ news₀ news' := ⟨fun p hp hn => h _ (K.keep p hp hn), K.own, fun p hp => let ⟨o, ho⟩ := K.addr p hp; ⟨o, h (p.1, o) ho⟩⟩
theorem own_keys {x : Nat} (hk : σ'.keys = σ.keys) (h : y.own v σ' x) : y.own v σ x := by
  rcases h with h | h | ⟨c, hc, e⟩
  · exact .inl h
  · exact .inr (.inl h)
  · exact .inr (.inr ⟨c, hk ▸ hc, e⟩)
theorem tupStay_put (H : HRep w news y v σ) (N : News h₀ L h news) {d : Nat} {o' : Obj} (hd : y.own v σ d) : TupStay news (put d o' news) := by
  refine byC fun U0 => ?_
  obtain ⟨o, hm, hc⟩ := own_obj H hd
  refine U0 ?_
  clear U0
  exact TupStay.put N hm hc
theorem put_addr {d : Nat} {o' : Obj} : ∀ p ∈ news, ∃ o, (p.1, o) ∈ put d o' news := fun p hp => by
  by_cases e : p.1 = d
  · rw [e]; exact ⟨o', put_self⟩
  · exact ⟨p.2, put_of hp e⟩
theorem kept_put {d : Nat} {o' : Obj} (hd : y.own v σ d) (hk : σ'.keys = σ.keys) : Kept y v σ v σ' news (put d o' news) where
  keep := fun p hp hn => put_of hp fun e => hn (by rw [e]; exact hd)
  own := fun x hx => .inl (own_keys hk hx)
  addr := put_addr
theorem cell_put (H : HRep w news y v σ) (N : News h₀ L h news) (K : Kept y v₀ σ₀ v σ news₀ news) (c : Cell) (o' : Obj) (σ' : HS) (hc : Comp w (put (y.at c) o' news) y v σ' c)
    (ho : ∀ e, e ≠ c → Comp w (put (y.at c) o' news) y v σ e → Comp w (put (y.at c) o' news) y v σ' e) (hk : σ'.keys = σ.keys) (ha : σ'.above = σ.above) (hl : σ'.lots = σ.lots) :
    HRep w (put (y.at c) o' news) y v σ' ∧ Kept y v₀ σ₀ v σ' news₀ (put (y.at c) o' news) ∧ TupStay news (put (y.at c) o' news) := by
  have st := tupStay_put H N (o' := o') (own_cell (σ := σ) c)
  refine ⟨H.cells (fun e => e = c) st (fun a hn o hm => put_of hm (hn c rfl)) (fun e he => he ▸ hc) ho hk ha hl, K.trans (kept_put (own_cell c) hk), st⟩
theorem dyn_put (H : HRep w news y v σ) (N : News h₀ L h news) (K : Kept y v₀ σ₀ v σ news₀ news) (d : Nat) (o' : Obj) (σ' : HS) (hd : y.own v σ d) (hhi : y.waL < d) (hcm : ∀ c, Comp w (put d o' news) y v σ c → Comp w (put d o' news) y v σ' c)
    (hdy : Dyn (put d o' news) v σ') (hk : σ'.keys = σ.keys) (hl : σ'.lots.length = σ.lots.length) :
    HRep w (put d o' news) y v σ' ∧ Kept y v₀ σ₀ v σ' news₀ (put d o' news) ∧ TupStay news (put d o' news) := by
  have st := tupStay_put H N (o' := o') hd
  refine ⟨⟨H.fx.move fun a ha o hm => put_of hm (Nat.ne_of_lt (Nat.lt_of_le_of_lt (H.ap.chain.fixedLe a ha) hhi)), fun c => hcm c ((H.cm c).move st fun o hm => put_of hm (Nat.ne_of_lt (Nat.lt_of_le_of_lt (H.ap.chain.le (c := c)) hhi))), hdy, ?_⟩, K.trans (kept_put hd hk), st⟩
  exact ⟨H.ap.chain, by rw [hl]; exact H.ap.len, H.ap.lasN, hk ▸ H.ap.keysN, fun c hc d hd => H.ap.inj c (hk ▸ hc) d (hk ▸ hd), fun c hc => H.ap.cross c (hk ▸ hc), H.ap.lasHi, fun c hc => H.ap.abHi c (hk ▸ hc)⟩
theorem not_own_of (H : HRep w news y v σ) {d : Nat} (h : ∀ p ∈ news, p.1 < d) : ¬ y.own v σ d := fun q => by
  refine byC fun U0 => ?_
  obtain ⟨o, hm, _⟩ := own_obj H q
  refine U0 ?_
  clear U0
  exact Nat.lt_irrefl _ (h _ hm)
theorem waL_lt (H : HRep w news y v σ) {d : Nat} (h : ∀ p ∈ news, p.1 < d) : y.waL < d := by
  refine byC fun U0 => ?_
  obtain ⟨o, hm, _⟩ := own_obj H (own_cell (y := y) (v := v) (σ := σ) .wait)
  refine U0 ?_
  clear U0
  exact h _ hm
theorem getLast_eq (l : List Nat) (h : 0 < l.length) : l[l.length - 1]'(by lia) = l.getLastD 0 := by
  cases l with
  | nil => simp at h
  | cons a r => simp [List.getLast?_eq_getElem?]
theorem las_get (H : HRep w news y v σ) {i : Nat} (hi : i < σ.lots.length) : ∃ a, v.las[i]? = some a := by
  have := H.ap.len
  exact ⟨v.las[i]'(by lia), by simp [show i < v.las.length by lia]⟩
end
section
variable {w : World} {A : Around} {E : Value → Shared → Prop} {s : Shared} {news news' news₀ : List (Addr × Obj)} {y : Lay} {v v' v₀ : Dy} {σ σ' σ₀ : HS} {h₀ h : Heap} {L : Addr} {m : Str → Option Value} {value slice : Expr} {Q : Value → Shared → Prop} {u t : Tok}
theorem item_par (N : News h₀ L s.heap news) (H : HRep w news y v σ) {a : Nat} (ha : a < σ.par.length) (hz : σ.par.length ≤ 1000000) (h : ∀ t, Q (.int (σ.par.getD a a : Nat) t) s)
    (hs : subscripted slice false (.ref y.paL) (.int a u) = operate [.ref y.paL, .int a u] (getItem (.ref y.paL) (.int a u)) := by with_unfolding_all rfl) :
    wpAny (model prog w) A (subscriptTail value slice (.ref y.paL) (.int a u)) Q E s := by
  refine byC fun U0 => ?_
  obtain ⟨vs, n, hm, hi⟩ := (show IsInts news y.paL σ.par from H.cm .par)
  obtain ⟨t, e⟩ := ints_get hi ha
  refine U0 ?_
  clear U0
  refine item_B N hm e (by lia) ?_ hs
  have := h t
  simpa [ha] using this
theorem item_lots (N : News h₀ L s.heap news) (H : HRep w news y v σ) {i : Nat} (hi : i < σ.lots.length) (hz : σ.lots.length ≤ 1000000) (h : ∀ a, v.las[i]? = some a → Q (.ref a) s)
    (hs : subscripted slice false (.ref y.loL) (.int i u) = operate [.ref y.loL, .int i u] (getItem (.ref y.loL) (.int i u)) := by with_unfolding_all rfl) :
    wpAny (model prog w) A (subscriptTail value slice (.ref y.loL) (.int i u)) Q E s := by
  refine byC fun U0 => ?_
  obtain ⟨n, hm⟩ := (show ∃ n, (y.loL, W.listOf (v.las.map Value.ref).toArray n) ∈ news from H.cm .lots)
  obtain ⟨a, e⟩ := las_get H hi
  refine U0 ?_
  clear U0
  exact item_B N hm (by rw [List.getElem?_map, e]; rfl) (by lia) (h a e) hs
theorem valueAt_keys {ab : Nat → Nat} : ∀ {keys : List Nat} {c : Nat}, c ∈ keys → valueAt (keys.map fun c : Nat => ((c : Int), Value.ref (ab c))) (c : Int) = some (.ref (ab c))
  | [], _, h => nomatch h
  | k :: ks, c, h => by
    unfold valueAt
    rw [List.map_cons, List.find?_cons]
    by_cases e : k = c
    · subst e; simp
    · have e' : ¬ ((k : Int) = (c : Int)) := by lia
      simp only [e', decide_false]
      rcases List.mem_cons.mp h with h | h
      · exact absurd h.symm e
      · exact valueAt_keys h
theorem item_above (N : News h₀ L s.heap news) (H : HRep w news y v σ) {c : Nat} (hc : c ∈ σ.keys) (h : ∀ tk, Q (.ref (v.ab c)) { s with toks := tk })
    (hs : subscripted slice false (.ref y.aD) (.int c u) = operate [.ref y.aD, .int c u] (getItem (.ref y.aD) (.int c u)) := by with_unfolding_all rfl) :
    wpAny (model prog w) A (subscriptTail value slice (.ref y.aD) (.int c u)) Q E s :=
  id_item N (show ID prog w news y.aD _ from H.cm .above) (valueAt_keys hc) h hs
theorem item_nodes (N : News h₀ L s.heap news) (H : HRep w news y v σ) {i : Nat} {op : Str} {kids : List Nat} (hn : σ.nodes[i]? = some (op, kids)) (hz : i < 1000000)
    (h : ∀ tup t ks, (tup, tupObj (.str op t :: ks)) ∈ news → IntsAre ks (toZ kids) → ks.length = kids.length → PyData.strOk op = true → Q (.ref tup) s)
    (hs : subscripted slice false (.ref y.nL) (.int i u) = operate [.ref y.nL, .int i u] (getItem (.ref y.nL) (.int i u)) := by with_unfolding_all rfl) :
    wpAny (model prog w) A (subscriptTail value slice (.ref y.nL) (.int i u)) Q E s := by
  refine byC fun U0 => ?_
  obtain ⟨vs, en, tup, t0, ks, n7, e7, m7, i7, ok7⟩ := nodes_get H hn
  refine U0 ?_
  clear U0
  exact item_B N n7 e7 (by lia) (h _ _ _ m7 i7 (ints_len i7) ok7) hs
theorem item_weights (N : News h₀ L s.heap news) (H : HRep w news y v σ) {i : Nat} (hn : i < σ.wl) (hz : σ.wl ≤ 1000000) (h : ∀ k t, Q (.int (k : Nat) t) s)
    (hs : subscripted slice false (.ref y.wL) (.int i u) = operate [.ref y.wL, .int i u] (getItem (.ref y.wL) (.int i u)) := by with_unfolding_all rfl) :
    wpAny (model prog w) A (subscriptTail value slice (.ref y.wL) (.int i u)) Q E s := by
  refine byC fun U0 => ?_
  obtain ⟨ws, ⟨vs, n, hm, hi⟩, e⟩ := (show ∃ ws, IsInts news y.wL ws ∧ ws.length = σ.wl from H.cm .weights)
  obtain ⟨t, ei⟩ := ints_get hi (k := i) (by lia)
  refine U0 ?_
  clear U0
  exact item_B N hm ei (by lia) (h _ t) hs
theorem item_depths (N : News h₀ L s.heap news) (H : HRep w news y v σ) {i : Nat} (hn : i < σ.dl) (hz : σ.dl ≤ 1000000) (h : ∀ k t, Q (.int (k : Nat) t) s)
    (hs : subscripted slice false (.ref y.dL) (.int i u) = operate [.ref y.dL, .int i u] (getItem (.ref y.dL) (.int i u)) := by with_unfolding_all rfl) :
    wpAny (model prog w) A (subscriptTail value slice (.ref y.dL) (.int i u)) Q E s := by
  refine byC fun U0 => ?_
  obtain ⟨ws, ⟨vs, n, hm, hi⟩, e⟩ := (show ∃ ws, IsInts news y.dL ws ∧ ws.length = σ.dl from H.cm .depths)
  obtain ⟨t, ei⟩ := ints_get hi (k := i) (by lia)
  refine U0 ?_
  clear U0
  exact item_B N hm ei (by lia) (h _ t) hs
theorem len_ints {a : Addr} {l : List Nat} (N : News h₀ L s.heap news) (x : IsInts news a l) (hz : l.length ≤ 1000000) (h : ∀ t tk, Q (.int l.length t) { s with toks := tk }) : wpAny (model prog w) A (call (.builtin "len") [.ref a]) Q E s := by
  refine byC fun U0 => ?_
  obtain ⟨vs, n, hm, hi⟩ := x
  refine U0 ?_
  clear U0
  have e := ints_len hi
  exact len_B N hm (by lia) fun t tk => e ▸ h t tk
theorem len_par (N : News h₀ L s.heap news) (H : HRep w news y v σ) (hz : σ.par.length ≤ 1000000) (h : ∀ t tk, Q (.int σ.par.length t) { s with toks := tk }) : wpAny (model prog w) A (call (.builtin "len") [.ref y.paL]) Q E s := len_ints N (H.cm .par) hz h
theorem len_wait (N : News h₀ L s.heap news) (H : HRep w news y v σ) (hz : σ.wait.length ≤ 1000000) (h : ∀ t tk, Q (.int σ.wait.length t) { s with toks := tk }) : wpAny (model prog w) A (call (.builtin "len") [.ref y.waL]) Q E s := len_ints N (H.cm .wait) hz h
theorem len_nodes (N : News h₀ L s.heap news) (H : HRep w news y v σ) (hz : σ.nodes.length ≤ 1000000) (h : ∀ t tk, Q (.int σ.nodes.length t) { s with toks := tk }) : wpAny (model prog w) A (call (.builtin "len") [.ref y.nL]) Q E s := by
  refine byC fun U0 => ?_
  obtain ⟨vs, n, hm, r⟩ := (show ∃ vs n, (y.nL, W.listOf (List.toArray vs) n) ∈ news ∧ KInAll news 7 vs (σ.nodes.map dat) from H.cm .nodes)
  refine U0 ?_
  clear U0
  have e := kinAll_len r
  rw [List.length_map] at e
  exact len_B N hm (by lia) fun t tk => e ▸ h t tk
theorem len_lots (N : News h₀ L s.heap news) (H : HRep w news y v σ) (hz : σ.lots.length ≤ 1000000) (h : ∀ t tk, Q (.int σ.lots.length t) { s with toks := tk }) : wpAny (model prog w) A (call (.builtin "len") [.ref y.loL]) Q E s := by
  obtain ⟨n, hm⟩ := (show ∃ n, (y.loL, W.listOf (v.las.map Value.ref).toArray n) ∈ news from H.cm .lots)
  have e := H.ap.len
  refine len_B N hm (by rw [List.length_map]; lia) fun t tk => ?_
  rw [List.length_map, e]; exact h t tk
theorem len_edges (N : News h₀ L s.heap news) (H : HRep w news y v σ) (hz : σ.big ≤ 1000000) (h : ∀ k t tk, Q (.int (k : Nat) t) { s with toks := tk }) : wpAny (model prog w) A (call (.builtin "len") [.ref y.eL]) Q E s := by
  refine byC fun U0 => ?_
  obtain ⟨vs, n, hm, r⟩ := (show IsSome news y.eL σ.big from H.cm .edges)
  refine U0 ?_
  clear U0
  exact len_B N hm (by lia) fun t tk => h _ t tk
variable {x : Value}
theorem push_some {vs : List Value} {n : Nat} {a : Addr} {k : Nat} {led : List (Addr × Obj)} (hl : vs.length ≤ k) : IsSome (put a (W.listOf (vs ++ [x]).toArray n) led) a (k + 1) := ⟨_, _, put_self, by simp; lia⟩
theorem comp_up {led : List (Addr × Obj)} {k : Nat} (hk : σ.big ≤ k) {e : Cell} (q : Comp w led y v σ e) : Comp w led y v { σ with big := k } e := by
  cases e <;> first | exact q | exact IsSome.up q hk
theorem push_edges (F : Fr h₀ L s.heap m) (N : News h₀ L s.heap news) (H : HRep w news y v σ) (K : Kept y v₀ σ₀ v σ news₀ news) (hz : σ.big ≤ 900000)
    (h : ∀ h' news', Fr h₀ L h' m → News h₀ L h' news' → HRep w news' y v { σ with big := σ.big + 1 } → Kept y v₀ σ₀ v { σ with big := σ.big + 1 } news₀ news' → TupStay news news' → Q .none { s with heap := h' }) :
    wpAny (model prog w) A (call (.builtin "list.append") [.ref y.eL, x]) Q E s := by
  refine byC fun U0 => ?_
  obtain ⟨vs, n, hm, hl⟩ := (show IsSome news y.eL σ.big from H.cm .edges)
  refine U0 ?_
  clear U0
  refine append_B F N hm (by lia) fun h' F' N' => ?_
  refine byC fun U0 => ?_
  obtain ⟨H', K', st⟩ := cell_put H N K .edges (W.listOf (vs ++ [x]).toArray (n + 1)) { σ with big := σ.big + 1 } (push_some hl) (fun e _ q => comp_up (Nat.le_succ _) q) rfl rfl rfl
  refine U0 ?_
  clear U0
  exact h h' _ F' N' H' K' st
theorem push_forest (F : Fr h₀ L s.heap m) (N : News h₀ L s.heap news) (H : HRep w news y v σ) (K : Kept y v₀ σ₀ v σ news₀ news) (hz : σ.big ≤ 900000)
    (h : ∀ h' news', Fr h₀ L h' m → News h₀ L h' news' → HRep w news' y v { σ with big := σ.big + 1 } → Kept y v₀ σ₀ v { σ with big := σ.big + 1 } news₀ news' → TupStay news news' → Q .none { s with heap := h' }) :
    wpAny (model prog w) A (call (.builtin "list.append") [.ref y.fL, x]) Q E s := by
  refine byC fun U0 => ?_
  obtain ⟨vs, n, hm, hl⟩ := (show IsSome news y.fL σ.big from H.cm .forest)
  refine U0 ?_
  clear U0
  refine append_B F N hm (by lia) fun h' F' N' => ?_
  refine byC fun U0 => ?_
  obtain ⟨H', K', st⟩ := cell_put H N K .forest (W.listOf (vs ++ [x]).toArray (n + 1)) { σ with big := σ.big + 1 } (push_some hl) (fun e _ q => comp_up (Nat.le_succ _) q) rfl rfl rfl
  refine U0 ?_
  clear U0
  exact h h' _ F' N' H' K' st
theorem push_merged (F : Fr h₀ L s.heap m) (N : News h₀ L s.heap news) (H : HRep w news y v σ) (K : Kept y v₀ σ₀ v σ news₀ news) (hz : σ.big ≤ 900000)
    (h : ∀ h' news', Fr h₀ L h' m → News h₀ L h' news' → HRep w news' y v { σ with big := σ.big + 1 } → Kept y v₀ σ₀ v { σ with big := σ.big + 1 } news₀ news' → TupStay news news' → Q .none { s with heap := h' }) :
    wpAny (model prog w) A (call (.builtin "list.append") [.ref y.mgL, x]) Q E s := by
  refine byC fun U0 => ?_
  obtain ⟨vs, n, hm, hl⟩ := (show IsSome news y.mgL σ.big from H.cm .merged)
  refine U0 ?_
  clear U0
  refine append_B F N hm (by lia) fun h' F' N' => ?_
  refine byC fun U0 => ?_
  obtain ⟨H', K', st⟩ := cell_put H N K .merged (W.listOf (vs ++ [x]).toArray (n + 1)) { σ with big := σ.big + 1 } (push_some hl) (fun e _ q => comp_up (Nat.le_succ _) q) rfl rfl rfl
  refine U0 ?_
  clear U0
  exact h h' _ F' N' H' K' st
theorem set_par {gone kept : Nat} {Q : Unit → Shared → Prop} (F : Fr h₀ L s.heap m) (N : News h₀ L s.heap news) (H : HRep w news y v σ) (K : Kept y v₀ σ₀ v σ news₀ news) (hg : gone < σ.par.length) (hz : σ.par.length ≤ 1000000)
    (h : ∀ h' news', Fr h₀ L h' m → News h₀ L h' news' → HRep w news' y v { σ with par := σ.par.set gone kept } → Kept y v₀ σ₀ v { σ with par := σ.par.set gone kept } news₀ news' → TupStay news news' → Q () { s with heap := h' }) :
    wpAny (model prog w) A (setItem (.ref y.paL) (.int gone t) (.int kept u)) Q E s := by
  refine byC fun U0 => ?_
  obtain ⟨vs, n, hm, hi⟩ := (show IsInts news y.paL σ.par from H.cm .par)
  refine U0 ?_
  clear U0
  have hl := ints_len hi
  refine set_B F N hm (by lia) (by lia) fun h' F' N' => ?_
  refine byC fun U0 => ?_
  obtain ⟨H', K', st⟩ := cell_put H N K .par (W.listOf (vs.set gone (Value.int (kept : Nat) u)).toArray n) { σ with par := σ.par.set gone kept } ⟨_, _, put_self, ints_setN hi gone kept u⟩ (fun e he q => by cases e <;> first | exact q | exact absurd rfl he) rfl rfl rfl
  refine U0 ?_
  clear U0
  exact h h' _ F' N' H' K' st
theorem push_par {k : Nat} (F : Fr h₀ L s.heap m) (N : News h₀ L s.heap news) (H : HRep w news y v σ) (K : Kept y v₀ σ₀ v σ news₀ news) (hz : σ.par.length ≤ 900000)
    (h : ∀ h' news', Fr h₀ L h' m → News h₀ L h' news' → HRep w news' y v { σ with par := σ.par ++ [k] } → Kept y v₀ σ₀ v { σ with par := σ.par ++ [k] } news₀ news' → TupStay news news' → Q .none { s with heap := h' }) :
    wpAny (model prog w) A (call (.builtin "list.append") [.ref y.paL, .int k u]) Q E s := by
  refine byC fun U0 => ?_
  obtain ⟨vs, n, hm, hi⟩ := (show IsInts news y.paL σ.par from H.cm .par)
  refine U0 ?_
  clear U0
  have hl := ints_len hi
  refine append_B F N hm (by lia) fun h' F' N' => ?_
  refine byC fun U0 => ?_
  obtain ⟨H', K', st⟩ := cell_put H N K .par (W.listOf (vs ++ [Value.int (k : Nat) u]).toArray (n + 1)) { σ with par := σ.par ++ [k] } ⟨_, _, put_self, ints_snoc hi k u⟩ (fun e he q => by cases e <;> first | exact q | exact absurd rfl he) rfl rfl rfl
  refine U0 ?_
  clear U0
  exact h h' _ F' N' H' K' st
theorem ext_wait {c : Nat} (F : Fr h₀ L s.heap m) (N : News h₀ L s.heap news) (H : HRep w news y v σ) (K : Kept y v₀ σ₀ v σ news₀ news) (hc : c ∈ σ.keys) (hz : σ.wait.length + (σ.above c).length ≤ 900000)
    (h : ∀ h' news', Fr h₀ L h' m → News h₀ L h' news' → HRep w news' y v { σ with wait := σ.wait ++ σ.above c } → Kept y v₀ σ₀ v { σ with wait := σ.wait ++ σ.above c } news₀ news' → TupStay news news' → Q .none { s with heap := h' }) :
    wpAny (model prog w) A (call (.builtin "list.extend") [.ref y.waL, .ref (v.ab c)]) Q E s := by
  refine byC fun U0 => ?_
  obtain ⟨vs, n, hm, hi⟩ := (show IsInts news y.waL σ.wait from H.cm .wait)
  obtain ⟨us, n2, hm2, hi2⟩ := H.dy.abl c hc
  refine U0 ?_
  clear U0
  have hl := ints_len hi
  have hl2 := ints_len hi2
  have hne : v.ab c ≠ y.waL := by have := H.ap.abHi c hc; lia
  refine extend_B F N hm hm2 hne (by lia) fun h' n' F' N' => ?_
  refine byC fun U0 => ?_
  obtain ⟨H', K', st⟩ := cell_put H N K .wait (W.listOf (vs ++ us).toArray n') { σ with wait := σ.wait ++ σ.above c } ⟨_, _, put_self, ints_app hi hi2⟩ (fun e he q => by cases e <;> first | exact q | exact absurd rfl he) rfl rfl rfl
  refine U0 ?_
  clear U0
  exact h h' _ F' N' H' K' st
theorem pop_wait (F : Fr h₀ L s.heap m) (N : News h₀ L s.heap news) (H : HRep w news y v σ) (K : Kept y v₀ σ₀ v σ news₀ news) (hne : 0 < σ.wait.length) (hz : σ.wait.length ≤ 900000)
    (h : ∀ h' news' t, Fr h₀ L h' m → News h₀ L h' news' → HRep w news' y v { σ with wait := σ.wait.dropLast } → Kept y v₀ σ₀ v { σ with wait := σ.wait.dropLast } news₀ news' → TupStay news news' → Q (.int (σ.wait.getLastD 0 : Nat) t) { s with heap := h' }) :
    wpAny (model prog w) A (call (.builtin "list.pop") [.ref y.waL]) Q E s := by
  refine byC fun U0 => ?_
  obtain ⟨vs, n, hm, hi⟩ := (show IsInts news y.waL σ.wait from H.cm .wait)
  have hl := ints_len hi
  obtain ⟨us, _, t, rfl, hi', _⟩ := ints_dropLast hi hne
  refine U0 ?_
  clear U0
  rw [List.length_append] at hl
  rw [getLast_eq _ hne] at hm
  refine pop_B F N hm (by lia) fun h' F' N' => ?_
  refine byC fun U0 => ?_
  obtain ⟨H', K', st⟩ := cell_put H N K .wait (W.listOf us.toArray (n + 1)) { σ with wait := σ.wait.dropLast } ⟨_, _, put_self, hi'⟩ (fun e he q => by cases e <;> first | exact q | exact absurd rfl he) rfl rfl rfl
  refine U0 ?_
  clear U0
  exact h h' _ t F' N' H' K' st
end
end Mine
end

section
open PySem PySem.W PySem.Calls PyProof.Rows PySem.Spec
set_option maxRecDepth 100000
namespace Mine
theorem ValsAre.length : ∀ {xs : List (Dat × Addr × Value)} {ys : List (Dat × Nat)}, ValsAre xs ys → xs.length = ys.length
  | [], [], _ => rfl
  | _ :: _, _ :: _, h => by simp [ValsAre.length h.2]
  | [], _ :: _, h => h.elim
  | _ :: _, [], h => h.elim
theorem ValsAre.snoc {k : Dat} {a : Addr} {n : Nat} {t : Tok} : ∀ {xs : List (Dat × Addr × Value)} {ys : List (Dat × Nat)}, ValsAre xs ys → ValsAre (xs ++ [(k, a, .int (n : Int) t)]) (ys ++ [(k, n)])
  | [], [], _ => ⟨⟨rfl, t, rfl⟩, trivial⟩
  | _ :: _, _ :: _, h => ⟨h.1, ValsAre.snoc h.2⟩
  | [], _ :: _, h => h.elim
  | _ :: _, [], h => h.elim
theorem ValsAre.some {k : Dat} {p : Addr × Value} : ∀ {xs : List (Dat × Addr × Value)} {ys : List (Dat × Nat)}, ValsAre xs ys → atKey xs k = some p → ∃ (i n : Nat) (t : Tok), ys[i]? = some (k, n) ∧ (∀ (j : Nat) (z : Dat × Nat), j < i → ys[j]? = some z → z.1 ≠ k) ∧ p.2 = .int (n : Int) t
  | [], [], _, h => by simp [atKey] at h
  | x :: xs, y :: ys, h, e => by
    by_cases q : x.1 = k
    · have e' : p = x.2 := by
        have : atKey (x :: xs) k = Option.some x.2 := by simp [atKey, q]
        rw [this] at e
        exact (Option.some.inj e).symm
      refine byC fun U0 => ?_
      obtain ⟨e1, t, e2⟩ := h.1
      refine U0 ?_
      clear U0
      exact ⟨0, y.2, t, by simp [← q, e1], fun j z hj => absurd hj (Nat.not_lt_zero _), by rw [e', e2]⟩
    · have e' : atKey xs k = Option.some p := by
        have : atKey (x :: xs) k = atKey xs k := by simp [atKey, q]
        rw [← this]; exact e
      refine byC fun U0 => ?_
      obtain ⟨i, n, t, a, b, c⟩ := ValsAre.some h.2 e'
      refine U0 ?_
      clear U0
      refine ⟨i + 1, n, t, by simpa using a, fun j z hj hz => ?_, c⟩
      cases j with
      | zero =>
        simp at hz
        subst hz
        rw [← h.1.1]; exact q
      | succ j => exact b j z (by lia) (by simpa using hz)
  | [], _ :: _, h, _ => h.elim
  | _ :: _, [], h, _ => h.elim
theorem ValsAre.none {k : Dat} : ∀ {xs : List (Dat × Addr × Value)} {ys : List (Dat × Nat)}, ValsAre xs ys → (atKey xs k = Option.none ↔ ∀ z ∈ ys, z.1 ≠ k)
  | [], [], _ => by simp [atKey]
  | x :: xs, y :: ys, h => by
    have ih := ValsAre.none (k := k) h.2
    have e1 := h.1.1
    by_cases q : x.1 = k
    · have : atKey (x :: xs) k = Option.some x.2 := by simp [atKey, q]
      rw [this]
      simp [← e1, q]
    · have : atKey (x :: xs) k = atKey xs k := by simp [atKey, q]
      rw [this, ih]
      simp only [List.mem_cons, forall_eq_or_imp, ← e1]
      exact ⟨fun z => ⟨q, z⟩, fun z => z.2⟩
  | [], _ :: _, h => h.elim
  | _ :: _, [], h => h.elim
noncomputable def kget (known : List (Nd × Nat)) (nd : Nd) : Option Nat := (known.find? fun x => decide (x.1 = nd)).map (·.2)
theorem kget_some {known : List (Nd × Nat)} {nd : Nd} {i n : Nat} (h : known[i]? = some (nd, n)) (hb : ∀ (j : Nat) (z : Nd × Nat), j < i → known[j]? = some z → z.1 ≠ nd) : kget known nd = some n := by
  induction known generalizing i with
  | nil => simp at h
  | cons x r ih =>
    cases i with
    | zero => simp at h; subst h; simp [kget]
    | succ i =>
      have q := hb 0 x (by lia) rfl
      have := ih (i := i) (by simpa using h) fun j z hj hz => hb (j + 1) z (by lia) (by simpa using hz)
      simpa [kget, q] using this
theorem kget_none {known : List (Nd × Nat)} {nd : Nd} : kget known nd = none ↔ ∀ z ∈ known, z.1 ≠ nd := by
  simp [kget]
section
variable {w : World} {A : Around} {E : Value → Shared → Prop} {s : Shared} {news news' news₀ : List (Addr × Obj)} {y : Lay} {v v' v₀ : Dy} {σ σ' σ₀ : HS} {h₀ h : Heap} {L a : Addr} {m : Str → Option Value} {value slice : Expr} {Q : Value → Shared → Prop} {u t : Tok} {nd : Nd}
theorem num_in (N : News h₀ L s.heap news) (H : HRep w news y v σ) (hk : KIn news 7 (.ref a) (dat nd)) (hu : A.units + 17 < cLine)
    (h1 : nd ∈ σ.nums → ∀ tk, Q (.bool true) { s with toks := tk }) (h2 : nd ∉ σ.nums → ∀ tk, Q (.bool false) { s with toks := tk }) : wpAny (model prog w) A (compareOp .In (.ref a) (.ref y.nD)) Q E s := by
  refine byC fun U0 => ?_
  obtain ⟨xs, T, V⟩ := (show TDI w news y.nD (numbersOf σ.nums) from H.cm .numbers)
  refine U0 ?_
  clear U0
  refine td_in N T hk hu fun tk => ?_
  have e := V.none (k := dat nd)
  by_cases q : nd ∈ σ.nums
  · have : atKey xs (dat nd) ≠ none := fun z => by
      obtain ⟨i, hi⟩ := List.mem_iff_getElem?.mp q
      refine e.mp z (dat nd, i) ?_ rfl
      simp only [numbersOf, List.mem_map]
      exact ⟨(nd, i), by rw [List.mem_zipIdx_iff_getElem?]; exact hi, rfl⟩
    cases hp : atKey xs (dat nd) with
    | none => exact absurd hp this
    | some p => exact h1 q tk
  · have : atKey xs (dat nd) = none := e.mpr fun z hz ez => by
      simp only [numbersOf, List.mem_map] at hz
      refine byC fun U0 => ?_
      obtain ⟨x, hx, rfl⟩ := hz
      have := dat_inj ez
      subst this
      refine U0 ?_
      clear U0
      exact q (List.mem_of_getElem? (by rw [← List.mem_zipIdx_iff_getElem?]; exact hx))
    rw [this]
    exact h2 q tk
theorem num_item (N : News h₀ L s.heap news) (H : HRep w news y v σ) (hk : KIn news 7 (.ref a) (dat nd)) (hm : nd ∈ σ.nums) (hu : A.units + 17 < cLine)
    (h : ∀ i t tk, σ.nums[i]? = some nd → Q (.int (i : Nat) t) { s with toks := tk })
    (hs : subscripted slice false (.ref y.nD) (.ref a) = operate [.ref y.nD, .ref a] (getItem (.ref y.nD) (.ref a)) := by with_unfolding_all rfl) :
    wpAny (model prog w) A (subscriptTail value slice (.ref y.nD) (.ref a)) Q E s := by
  refine byC fun U0 => ?_
  obtain ⟨xs, T, V⟩ := (show TDI w news y.nD (numbersOf σ.nums) from H.cm .numbers)
  refine U0 ?_
  clear U0
  have e := V.none (k := dat nd)
  have hne : atKey xs (dat nd) ≠ none := fun z => by
    obtain ⟨i, hi⟩ := List.mem_iff_getElem?.mp hm
    refine e.mp z (dat nd, i) ?_ rfl
    simp only [numbersOf, List.mem_map]
    exact ⟨(nd, i), by rw [List.mem_zipIdx_iff_getElem?]; exact hi, rfl⟩
  cases hp : atKey xs (dat nd) with
  | none => exact absurd hp hne
  | some p =>
    refine byC fun U0 => ?_
    obtain ⟨i, n, t, e1, _, e2⟩ := V.some hp
    refine U0 ?_
    clear U0
    refine td_item N T hk hp hu (fun tk => ?_) hs
    rw [e2]
    refine h n t tk ?_
    simp only [numbersOf, List.getElem?_map, List.getElem?_zipIdx, Nat.zero_add, Option.map_map, Option.map_eq_some_iff] at e1
    refine byC fun U0 => ?_
    obtain ⟨x, hx, ex⟩ := e1
    refine U0 ?_
    clear U0
    injection ex with ex1 ex2
    have := dat_inj ex1
    refine byC fun U0 => ?_
    subst this
    subst ex2
    refine U0 ?_
    clear U0
    exact hx
theorem known_set {n : Nat} (F : Fr h₀ L s.heap m) (N : News h₀ L s.heap news) (H : HRep w news y v σ) (K : Kept y v₀ σ₀ v σ news₀ news) (hk : KIn news 7 (.ref a) (dat nd)) (hu : A.units + 17 < cLine) (hz : σ.known.length ≤ 1000000)
    (h1 : ∀ k t tk, kget σ.known nd = some k → Q (.int (k : Nat) t) { s with toks := tk })
    (h2 : kget σ.known nd = none → ∀ h' news' tk, Fr h₀ L h' m → News h₀ L h' news' → HRep w news' y v { σ with known := σ.known ++ [(nd, n)] } → Kept y v₀ σ₀ v { σ with known := σ.known ++ [(nd, n)] } news₀ news' → TupStay news news' → Q (.int n t) { s with heap := h', toks := tk }) :
    wpAny (model prog w) A (call (.builtin "dict.setdefault") [.ref y.kD, .ref a, .int n t]) Q E s := by
  refine byC fun U0 => ?_
  obtain ⟨xs, T, V⟩ := (show TDI w news y.kD (knownOf σ.known) from H.cm .known)
  refine U0 ?_
  clear U0
  have hl := V.length
  rw [knownOf, List.length_map] at hl
  refine td_setdefault F N T hk hu (fun p tk hp => ?_) (fun hp h' o' tk F' N' T' st => ?_) (by rw [sizeLine_eq]; lia)
  · refine byC fun U0 => ?_
    obtain ⟨i, k, t', e1, e2, e3⟩ := V.some hp
    refine U0 ?_
    clear U0
    rw [e3]
    refine h1 k t' tk ?_
    simp only [knownOf, List.getElem?_map, Option.map_eq_some_iff] at e1
    refine byC fun U0 => ?_
    obtain ⟨x, hx, ex⟩ := e1
    refine U0 ?_
    clear U0
    injection ex with ex1 ex2
    have := dat_inj ex1
    refine byC fun U0 => ?_
    obtain ⟨x1, x2⟩ := x
    simp only at this ex2
    subst this
    subst ex2
    refine U0 ?_
    clear U0
    refine kget_some hx fun j z hj hz ez => e2 j (dat z.1, z.2) hj ?_ (by rw [ez])
    simp [knownOf, hz]
  · have hn : kget σ.known nd = none := kget_none.mpr fun z hz ez => V.none.mp hp (dat z.1, z.2) (by simp only [knownOf, List.mem_map]; exact ⟨z, hz, rfl⟩) (by rw [ez])
    refine byC fun U0 => ?_
    obtain ⟨H', K', st'⟩ := cell_put H N K .known o' { σ with known := σ.known ++ [(nd, n)] } ⟨_, T', by rw [storedH_new hp, knownOf, List.map_append]; exact V.snoc⟩ (fun e he q => by cases e <;> first | exact q | exact absurd rfl he) rfl rfl rfl
    refine U0 ?_
    clear U0
    exact h2 hn h' _ tk F' N' H' K' st'
theorem without_keys {ab : Nat → Nat} (keys : List Nat) (g : Nat) : without (keys.map fun c : Nat => ((c : Int), Value.ref (ab c))) (g : Int) = (keys.filter fun c => decide (c ≠ g)).map fun c : Nat => ((c : Int), Value.ref (ab c)) := by
  induction keys with
  | nil => rfl
  | cons k r ih =>
    unfold without at ih ⊢
    rw [List.map_cons, List.filter_cons, List.filter_cons, ih]
    by_cases e : k = g
    · subst e; simp
    · have : (k : Int) ≠ (g : Int) := by lia
      simp [e, this]
theorem stored_old {ab : Nat → Nat} {keys : List Nat} {c D : Nat} (hc : c ∈ keys) : stored (keys.map fun c : Nat => ((c : Int), Value.ref (ab c))) (c : Int) (.ref D) = keys.map fun x : Nat => ((x : Int), Value.ref (if x = c then D else ab x)) := by
  unfold stored
  rw [if_pos (by simp only [List.any_map, List.any_eq_true]; exact ⟨c, hc, by simp⟩), List.map_map]
  refine List.map_congr_left fun x _ => ?_
  by_cases e : x = c
  · subst e; simp
  · have : ¬ ((x : Int) = (c : Int)) := by lia
    simp [e, this]
theorem stored_new {ab : Nat → Nat} {keys : List Nat} {c D : Nat} (hc : c ∉ keys) : stored (keys.map fun c : Nat => ((c : Int), Value.ref (ab c))) (c : Int) (.ref D) = (keys ++ [c]).map fun x : Nat => ((x : Int), Value.ref (if x = c then D else ab x)) := by
  unfold stored
  rw [if_neg, List.map_append]
  · refine congr (congrArg HAppend.hAppend (List.map_congr_left fun x hx => ?_)) (by simp)
    have : x ≠ c := fun e => hc (e ▸ hx)
    simp [this]
  · simp only [List.any_map, List.any_eq_true, not_exists, not_and]
    intro x hx
    have : ¬ ((x : Int) = (c : Int)) := fun e => hc (by have : x = c := by lia
                                                        rw [← this]; exact hx)
    simp [this]
theorem pop_above {g : Nat} (F : Fr h₀ L s.heap m) (N : News h₀ L s.heap news) (H : HRep w news y v σ) (K : Kept y v₀ σ₀ v σ news₀ news) (hg : g ∈ σ.keys) (hz : σ.keys.length ≤ 900000)
    (h : ∀ h' news' tk, Fr h₀ L h' m → News h₀ L h' news' → HRep w news' y v { σ with keys := σ.keys.filter fun c => decide (c ≠ g) } → Kept y v₀ σ₀ v { σ with keys := σ.keys.filter fun c => decide (c ≠ g) } news₀ news' → TupStay news news' → IsInts news' (v.ab g) (σ.above g) → Q (.ref (v.ab g)) { s with heap := h', toks := tk }) :
    wpAny (model prog w) A (call (.builtin "dict.pop") [.ref y.aD, .int g t]) Q E s := by
  refine id_pop F N (show ID prog w news y.aD _ from H.cm .above) (valueAt_keys hg) (by rw [List.length_map]; lia) fun h' o' tk F' N' T' st => ?_
  rw [without_keys] at T'
  have sub : ∀ c ∈ σ.keys.filter fun c => decide (c ≠ g), c ∈ σ.keys := fun c hc => (List.mem_filter.mp hc).1
  have k : ∀ a : Nat, a ≠ y.aD → ∀ o, (a, o) ∈ news → (a, o) ∈ put y.aD o' news := fun a ha o hm => put_of hm ha
  have hi : ∀ c ∈ σ.keys, v.ab c ≠ y.aD := fun c hc => by have := H.ap.abHi c hc; have := H.ap.chain.c17; lia
  have H' : HRep w (put y.aD o' news) y v { σ with keys := σ.keys.filter fun c => decide (c ≠ g) } := by
    refine ⟨H.fx.move fun a ha => k a (H.ap.chain.fixed (c := .above) a ha), fun e => ?_, ⟨fun i a l h1 h2 => (H.dy.lot i a l h1 h2).move (k a ?_), fun c hc => (H.dy.abl c (sub c hc)).move (k _ (hi c (sub c hc)))⟩, ?_⟩
    · by_cases q : e = .above
      · subst q; exact T'
      · have z := (H.cm e).move st (k _ fun x => q (H.ap.chain.inj (e := .above) x))
        cases e <;> first | exact z | exact absurd rfl q
    · have := H.ap.lasHi a (List.mem_of_getElem? h1); have := H.ap.chain.c17; lia
    · exact ⟨H.ap.chain, H.ap.len, H.ap.lasN, H.ap.keysN.filter _, fun c hc d hd => H.ap.inj c (sub c hc) d (sub d hd), fun c hc => H.ap.cross c (sub c hc), H.ap.lasHi, fun c hc => H.ap.abHi c (sub c hc)⟩
  have K' : Kept y v σ v { σ with keys := σ.keys.filter fun c => decide (c ≠ g) } news (put y.aD o' news) := by
    refine ⟨fun p hp hn => put_of hp fun e => hn (by rw [e]; exact own_cell .above), fun x hx => .inl ?_, put_addr⟩
    rcases hx with q | q | ⟨c, hc, e⟩
    · exact .inl q
    · exact .inr (.inl q)
    · exact .inr (.inr ⟨c, sub c hc, e⟩)
  exact h h' _ tk F' N' H' (K.trans K') st ((H.dy.abl g hg).move (k _ (hi g hg)))
theorem lay_above {c D : Nat} {l : List Nat} {Q : Unit → Shared → Prop} (F : Fr h₀ L s.heap m) (N : News h₀ L s.heap news) (H : HRep w news y v σ) (K : Kept y v₀ σ₀ v σ news₀ news) (hD : IsInts news D l) (hno : ¬ y.own v σ D) (hhi : y.waL < D) (hfr : ∀ p ∈ news₀, p.1 ≠ D) (hz : σ.keys.length ≤ 900000)
    (keys' : List Nat) (hst : stored (σ.keys.map fun c : Nat => ((c : Int), Value.ref (v.ab c))) (c : Int) (.ref D) = keys'.map fun x : Nat => ((x : Int), Value.ref (if x = c then D else v.ab x))) (hnd : keys'.Nodup) (hsub : ∀ x ∈ keys', x = c ∨ x ∈ σ.keys)
    (h : ∀ h' news' tk, Fr h₀ L h' m → News h₀ L h' news' → HRep w news' y { v with ab := fun x => if x = c then D else v.ab x } { σ with keys := keys', above := fun x => if x = c then l else σ.above x } →
      Kept y v₀ σ₀ { v with ab := fun x => if x = c then D else v.ab x } { σ with keys := keys', above := fun x => if x = c then l else σ.above x } news₀ news' → TupStay news news' → Q () { s with heap := h', toks := tk }) :
    wpAny (model prog w) A (setItem (.ref y.aD) (.int c t) (.ref D)) Q E s := by
  refine id_set F N (show ID prog w news y.aD _ from H.cm .above) (by rw [List.length_map]; lia) fun h' o' tk F' N' T' st => ?_
  rw [hst] at T'
  have k : ∀ a : Nat, a ≠ y.aD → ∀ o, (a, o) ∈ news → (a, o) ∈ put y.aD o' news := fun a ha o hm => put_of hm ha
  have haW := H.ap.chain.c17
  have hi : ∀ c ∈ σ.keys, v.ab c ≠ y.aD := fun c hc => by have := H.ap.abHi c hc; lia
  have ne : ∀ x ∈ keys', x ≠ c → x ∈ σ.keys := fun x hx hn => (hsub x hx).resolve_left hn
  have hDl : D ∉ v.las := fun q => hno (.inr (.inl q))
  have hDa : ∀ x ∈ σ.keys, v.ab x ≠ D := fun x hx e => hno (.inr (.inr ⟨x, hx, e.symm⟩))
  have H' : HRep w (put y.aD o' news) y { v with ab := fun x => if x = c then D else v.ab x } { σ with keys := keys', above := fun x => if x = c then l else σ.above x } := by
    refine ⟨H.fx.move fun a ha => k a (H.ap.chain.fixed (c := .above) a ha), fun e => ?_, ⟨fun i a l h1 h2 => (H.dy.lot i a l h1 h2).move (k a ?_), fun x hx => ?_⟩, ?_⟩
    · by_cases q : e = .above
      · subst q; exact T'
      · have z := (H.cm e).move st (k _ fun x => q (H.ap.chain.inj (e := .above) x))
        cases e <;> first | exact z | exact absurd rfl q
    · have := H.ap.lasHi a (List.mem_of_getElem? h1); lia
    · show IsInts _ (if x = c then D else v.ab x) (if x = c then l else σ.above x)
      by_cases e : x = c
      · rw [if_pos e, if_pos e]; exact hD.move (k _ (by lia))
      · rw [if_neg e, if_neg e]; exact (H.dy.abl x (ne x hx e)).move (k _ (hi x (ne x hx e)))
    · refine ⟨H.ap.chain, H.ap.len, H.ap.lasN, hnd, fun x hx z hz e => ?_, fun x hx => ?_, H.ap.lasHi, fun x hx => ?_⟩
      · dsimp only at e
        by_cases e1 : x = c
        · by_cases e2 : z = c
          · rw [e1, e2]
          · rw [if_pos e1, if_neg e2] at e; exact absurd e.symm (hDa z (ne z hz e2))
        · by_cases e2 : z = c
          · rw [if_neg e1, if_pos e2] at e; exact absurd e (hDa x (ne x hx e1))
          · rw [if_neg e1, if_neg e2] at e; exact H.ap.inj x (ne x hx e1) z (ne z hz e2) e
      · dsimp only
        by_cases e1 : x = c
        · rw [if_pos e1]; exact hDl
        · rw [if_neg e1]; exact H.ap.cross x (ne x hx e1)
      · dsimp only
        by_cases e1 : x = c
        · rw [if_pos e1]; exact hhi
        · rw [if_neg e1]; exact H.ap.abHi x (ne x hx e1)
  have K' : Kept y v₀ σ₀ { v with ab := fun x => if x = c then D else v.ab x } { σ with keys := keys', above := fun x => if x = c then l else σ.above x } news₀ (put y.aD o' news) := by
    refine ⟨fun p hp hn => ?_, fun x hx => ?_, fun p hp => let ⟨o, ho⟩ := K.addr p hp; put_addr (p.1, o) ho⟩
    · refine put_of (K.keep p hp hn) fun e => ?_
      rcases K.own p.1 (by rw [e]; exact own_cell .above) with q | q
      · exact hn q
      · exact q p hp rfl
    · have old : y.own v σ x → y.own v₀ σ₀ x ∨ ∀ p ∈ news₀, p.1 ≠ x := K.own x
      rcases hx with q | q | ⟨z, hz, e⟩
      · exact old (.inl q)
      · exact old (.inr (.inl q))
      · dsimp only at e
        by_cases e1 : z = c
        · rw [if_pos e1] at e; subst e; exact .inr hfr
        · rw [if_neg e1] at e; exact old (.inr (.inr ⟨z, ne z hz e1, e⟩))
  exact h h' _ tk F' N' H' K' st
theorem push_above {c n : Nat} (F : Fr h₀ L s.heap m) (N : News h₀ L s.heap news) (H : HRep w news y v σ) (K : Kept y v₀ σ₀ v σ news₀ news) (hc : c ∈ σ.keys) (hz : (σ.above c).length ≤ 900000)
    (h : ∀ h' news', Fr h₀ L h' m → News h₀ L h' news' → HRep w news' y v { σ with above := fun x => if x = c then σ.above c ++ [n] else σ.above x } → Kept y v₀ σ₀ v { σ with above := fun x => if x = c then σ.above c ++ [n] else σ.above x } news₀ news' → TupStay news news' → Q .none { s with heap := h' }) :
    wpAny (model prog w) A (call (.builtin "list.append") [.ref (v.ab c), .int n u]) Q E s := by
  refine byC fun U0 => ?_
  obtain ⟨vs, k, hm, hi⟩ := H.dy.abl c hc
  refine U0 ?_
  clear U0
  have hl := ints_len hi
  refine append_B F N hm (by lia) fun h' F' N' => ?_
  have hhi := H.ap.abHi c hc
  refine byC fun U0 => ?_
  obtain ⟨H', K', st⟩ := dyn_put H N K (v.ab c) (W.listOf (vs ++ [Value.int (n : Nat) u]).toArray (k + 1)) { σ with above := fun x => if x = c then σ.above c ++ [n] else σ.above x } (.inr (.inr ⟨c, hc, rfl⟩)) hhi (fun e q => by cases e <;> exact q)
    ⟨fun i a l h1 h2 => (H.dy.lot i a l h1 h2).move fun o ho => put_of ho fun e => H.ap.cross c hc (e ▸ List.mem_of_getElem? h1), fun x hx => by
      dsimp only
      by_cases e : x = c
      · rw [if_pos e, e]; exact ⟨_, _, put_self, ints_snoc hi n u⟩
      · rw [if_neg e]; exact (H.dy.abl x hx).move fun o ho => put_of ho fun q => e (H.ap.inj x hx c hc q)⟩ rfl rfl
  refine U0 ?_
  clear U0
  exact h h' _ F' N' H' K' st
theorem ext_lot {i j a b : Nat} (F : Fr h₀ L s.heap m) (N : News h₀ L s.heap news) (H : HRep w news y v σ) (K : Kept y v₀ σ₀ v σ news₀ news) (hi : v.las[i]? = some a) (hj : v.las[j]? = some b) (hij : i ≠ j) (hz : (σ.lots.getD i []).length + (σ.lots.getD j []).length ≤ 900000)
    (h : ∀ h' news', Fr h₀ L h' m → News h₀ L h' news' → HRep w news' y v { σ with lots := σ.lots.set i (σ.lots.getD i [] ++ σ.lots.getD j []) } → Kept y v₀ σ₀ v { σ with lots := σ.lots.set i (σ.lots.getD i [] ++ σ.lots.getD j []) } news₀ news' → TupStay news news' → Q .none { s with heap := h' }) :
    wpAny (model prog w) A (call (.builtin "list.extend") [.ref a, .ref b]) Q E s := by
  have lt : ∀ {k c : Nat}, v.las[k]? = some c → k < σ.lots.length := fun {k c} e => by
    rw [← H.ap.len]
    rcases Nat.lt_or_ge k v.las.length with q | q
    · exact q
    · rw [List.getElem?_eq_none q] at e; cases e
  have gi : σ.lots[i]? = some (σ.lots.getD i []) := by simp [lt hi]
  have gj : σ.lots[j]? = some (σ.lots.getD j []) := by simp [lt hj]
  refine byC fun U0 => ?_
  obtain ⟨vs, n1, hm1, hi1⟩ := H.dy.lot i a _ hi gi
  obtain ⟨us, n2, hm2, hi2⟩ := H.dy.lot j b _ hj gj
  refine U0 ?_
  clear U0
  have l1 := ints_len hi1
  have l2 := ints_len hi2
  have inj : ∀ {k c : Nat}, v.las[k]? = some c → c = a → k = i := fun {k c} e q => by
    subst q
    exact (List.getElem?_inj (by rw [H.ap.len]; exact lt e) H.ap.lasN).mp (e.trans hi.symm)
  have hne : b ≠ a := fun q => hij (inj hj q).symm
  have hhi := H.ap.lasHi a (List.mem_of_getElem? hi)
  refine extend_B F N hm1 hm2 hne (by lia) fun h' n' F' N' => ?_
  refine byC fun U0 => ?_
  obtain ⟨H', K', st⟩ := dyn_put H N K a (W.listOf (vs ++ us).toArray n') { σ with lots := σ.lots.set i (σ.lots.getD i [] ++ σ.lots.getD j []) } (.inr (.inl (List.mem_of_getElem? hi))) hhi (fun e q => by cases e <;> exact q)
    ⟨fun k c l h1 h2 => by
      by_cases e : k = i
      · subst e
        rw [hi] at h1
        cases h1
        dsimp only at h2
        rw [List.getElem?_set_self (lt hi)] at h2
        cases h2
        exact ⟨_, _, put_self, ints_app hi1 hi2⟩
      · dsimp only at h2
        rw [List.getElem?_set_ne (fun q => e q.symm)] at h2
        exact (H.dy.lot k c l h1 h2).move fun o ho => put_of ho fun q => e (inj h1 q),
     fun x hx => (H.dy.abl x hx).move fun o ho => put_of ho fun q => H.ap.cross x hx (q ▸ List.mem_of_getElem? hi)⟩ rfl (by simp)
  refine U0 ?_
  clear U0
  exact h h' _ F' N' H' K' st
theorem push_lots {D : Nat} {l : List Nat} (F : Fr h₀ L s.heap m) (N : News h₀ L s.heap news) (H : HRep w news y v σ) (K : Kept y v₀ σ₀ v σ news₀ news) (hD : IsInts news D l) (hno : ¬ y.own v σ D) (hhi : y.waL < D) (hfr : ∀ p ∈ news₀, p.1 ≠ D) (hz : σ.lots.length ≤ 900000)
    (h : ∀ h' news', Fr h₀ L h' m → News h₀ L h' news' → HRep w news' y { v with las := v.las ++ [D] } { σ with lots := σ.lots ++ [l] } → Kept y v₀ σ₀ { v with las := v.las ++ [D] } { σ with lots := σ.lots ++ [l] } news₀ news' → TupStay news news' → Q .none { s with heap := h' }) :
    wpAny (model prog w) A (call (.builtin "list.append") [.ref y.loL, .ref D]) Q E s := by
  obtain ⟨n, hm⟩ := (show ∃ n, (y.loL, W.listOf (v.las.map Value.ref).toArray n) ∈ news from H.cm .lots)
  have hlen := H.ap.len
  refine append_B F N hm (by rw [List.length_map]; lia) fun h' F' N' => ?_
  have st := tupStay_put H N (o' := W.listOf (v.las.map Value.ref ++ [Value.ref D]).toArray (n + 1)) (own_cell (σ := σ) .lots)
  have k : ∀ a : Nat, a ≠ y.loL → ∀ o, (a, o) ∈ news → (a, o) ∈ put y.loL (W.listOf (v.las.map Value.ref ++ [Value.ref D]).toArray (n + 1)) news := fun a ha o hm => put_of hm ha
  have hlo := H.ap.chain.le (c := .lots)
  have hDl : D ∉ v.las := fun q => hno (.inr (.inl q))
  have H' : HRep w (put y.loL (W.listOf (v.las.map Value.ref ++ [Value.ref D]).toArray (n + 1)) news) y { v with las := v.las ++ [D] } { σ with lots := σ.lots ++ [l] } := by
    refine ⟨H.fx.move fun a ha => k a (H.ap.chain.fixed (c := .lots) a ha), fun e => ?_, ⟨fun i a q h1 h2 => ?_, fun x hx => (H.dy.abl x hx).move (k _ ?_)⟩, ?_⟩
    · by_cases q : e = .lots
      · subst q
        refine ⟨n + 1, ?_⟩
        dsimp only
        rw [List.map_append]
        exact put_self
      · have z := (H.cm e).move st (k _ fun x => q (H.ap.chain.inj (e := .lots) x))
        cases e <;> first | exact z | exact absurd rfl q
    · dsimp only at h1 h2
      rcases Nat.lt_or_ge i v.las.length with q | q
      · rw [List.getElem?_append_left q] at h1
        rw [List.getElem?_append_left (by lia)] at h2
        exact (H.dy.lot i a _ h1 h2).move (k a (Nat.ne_of_gt (Nat.lt_of_le_of_lt hlo (H.ap.lasHi a (List.mem_of_getElem? h1)))))
      · rw [List.getElem?_append_right q] at h1
        rw [List.getElem?_append_right (by lia)] at h2
        have e0 : i - v.las.length = 0 := by
          rcases Nat.eq_zero_or_pos (i - v.las.length) with r | r
          · exact r
          · rw [List.getElem?_eq_none (by simp; lia)] at h1; cases h1
        rw [e0] at h1
        rw [← hlen, e0] at h2
        simp at h1 h2
        subst h1 h2
        exact hD.move (k _ (Nat.ne_of_gt (Nat.lt_of_le_of_lt hlo hhi)))
    · exact Nat.ne_of_gt (Nat.lt_of_le_of_lt hlo (H.ap.abHi x hx))
    · refine ⟨H.ap.chain, by simp [hlen], ?_, H.ap.keysN, H.ap.inj, fun c hc q => ?_, fun a ha => ?_, H.ap.abHi⟩
      · dsimp only
        rw [List.nodup_append]
        exact ⟨H.ap.lasN, by simp, fun a ha b hb e => by simp at hb; subst hb; exact hDl (e ▸ ha)⟩
      · dsimp only at q
        rcases List.mem_append.mp q with q | q
        · exact H.ap.cross c hc q
        · simp at q; exact hno (.inr (.inr ⟨c, hc, q.symm⟩))
      · dsimp only at ha
        rcases List.mem_append.mp ha with q | q
        · exact H.ap.lasHi a q
        · simp at q; subst q; exact hhi
  have K' : Kept y v₀ σ₀ { v with las := v.las ++ [D] } { σ with lots := σ.lots ++ [l] } news₀ (put y.loL (W.listOf (v.las.map Value.ref ++ [Value.ref D]).toArray (n + 1)) news) := by
    refine ⟨fun p hp hn => ?_, fun x hx => ?_, fun p hp => let ⟨o, ho⟩ := K.addr p hp; put_addr (p.1, o) ho⟩
    · refine put_of (K.keep p hp hn) fun e => ?_
      rcases K.own p.1 (by rw [e]; exact own_cell .lots) with q | q
      · exact hn q
      · exact q p hp rfl
    · rcases hx with q | q | q
      · exact K.own x (.inl q)
      · dsimp only at q
        rcases List.mem_append.mp q with q | q
        · exact K.own x (.inr (.inl q))
        · simp at q; subst q; exact .inr hfr
      · exact K.own x (.inr (.inr q))
  exact h h' _ F' (by simpa using N') H' K' st
theorem add_ints {a b : Addr} {l1 l2 : List Nat} (F : Fr h₀ L s.heap m) (N : News h₀ L s.heap news) (x1 : IsInts news a l1) (x2 : IsInts news b l2) (hz : l1.length + l2.length ≤ 900000)
    (h : ∀ D h', Fr h₀ L h' m → (∀ o, News h₀ L h' ((D, o) :: news) → IsInts ((D, o) :: news) D (l1 ++ l2) → (∀ p ∈ news, p.1 < D) → Q (.ref D) { s with heap := h' })) :
    wpAny (model prog w) A (binaryOp .Add (.ref a) (.ref b)) Q E s := by
  refine byC fun U0 => ?_
  obtain ⟨vs, n1, hm1, hi1⟩ := x1
  obtain ⟨us, n2, hm2, hi2⟩ := x2
  refine U0 ?_
  clear U0
  have e1 := ints_len hi1
  have e2 := ints_len hi2
  exact addL_B F N hm1 hm2 (by lia) fun D h' F' N' l => h D h' F' _ N' ⟨_, _, List.mem_cons_self, ints_app hi1 hi2⟩ l
end
theorem mem_stay {x : Addr} {vs : List Value} {a b : List (Addr × Obj)} (h : TupStay a b) (hx : (x, tupObj vs) ∈ a) : (x, tupObj vs) ∈ b := h _ _ hx
end Mine
end

section
open PySem PySem.W PySem.Calls PyProof.Rows PySem.Spec
set_option maxRecDepth 100000
namespace Mine
theorem kinAll_snoc {news : List (Addr × Obj)} {n : Nat} {v : Value} {d : Dat} : ∀ {vs : List Value} {ds : List Dat}, KInAll news n vs ds → KIn news n v d → KInAll news n (vs ++ [v]) (ds ++ [d])
  | _, _, .nil, k => .cons k .nil
  | _, _, .cons a r, k => .cons a (kinAll_snoc r k)
section
variable {w : World} {A : Around} {E : Value → Shared → Prop} {s : Shared} {news news' news₀ : List (Addr × Obj)} {y : Lay} {v v' v₀ : Dy} {σ σ' σ₀ : HS} {h₀ h : Heap} {L a : Addr} {m : Str → Option Value} {value slice : Expr} {Q : Value → Shared → Prop} {u t : Tok}
theorem isInts_nil {D : Addr} {n : Nat} (h : (D, W.listOf (List.toArray []) n) ∈ news) : IsInts news D [] := ⟨_, _, h, .nil⟩
theorem isInts_one {D : Addr} {n a : Nat} (h : (D, W.listOf (List.toArray [.int (a : Int) t]) n) ∈ news) : IsInts news D [a] := ⟨_, _, h, .cons _ _ .nil⟩
theorem not_own_hd {D : Addr} {o : Obj} (l : ∀ p ∈ news, p.1 < D) (H : HRep w news y v σ) : ¬ y.own v σ D ∧ y.waL < D := ⟨not_own_of H l, waL_lt H l⟩
theorem lay_old {c : Nat} {D : Addr} {l : List Nat} {Q : Unit → Shared → Prop} (F : Fr h₀ L s.heap m) {o : Obj} (lt : ∀ p ∈ news, p.1 < D) (N : News h₀ L s.heap ((D, o) :: news)) (H : HRep w news y v σ) (K : Kept y v₀ σ₀ v σ news₀ news) (hD : IsInts ((D, o) :: news) D l) (hc : c ∈ σ.keys) (hz : σ.keys.length ≤ 900000)
    (h : ∀ h' news' tk, Fr h₀ L h' m → News h₀ L h' news' → HRep w news' y { v with ab := fun x => if x = c then D else v.ab x } { σ with above := fun x => if x = c then l else σ.above x } →
      Kept y v₀ σ₀ { v with ab := fun x => if x = c then D else v.ab x } { σ with above := fun x => if x = c then l else σ.above x } news₀ news' → TupStay news news' → Q () { s with heap := h', toks := tk }) :
    wpAny (model prog w) A (setItem (.ref y.aD) (.int c t) (.ref D)) Q E s :=
  lay_above F N H.cons (K.more fun p hp => List.mem_cons_of_mem _ hp) hD (not_own_of H lt) (waL_lt H lt) (K.fresh lt) hz σ.keys (stored_old hc) H.ap.keysN (fun x hx => .inr hx) fun h' news' tk F' N' H' K' st => h h' news' tk F' N' H' K' (TupStay.trans .cons st)
theorem lay_new {c : Nat} {D : Addr} {l : List Nat} {Q : Unit → Shared → Prop} (F : Fr h₀ L s.heap m) {o : Obj} (lt : ∀ p ∈ news, p.1 < D) (N : News h₀ L s.heap ((D, o) :: news)) (H : HRep w news y v σ) (K : Kept y v₀ σ₀ v σ news₀ news) (hD : IsInts ((D, o) :: news) D l) (hc : c ∉ σ.keys) (hz : σ.keys.length ≤ 900000)
    (h : ∀ h' news' tk, Fr h₀ L h' m → News h₀ L h' news' → HRep w news' y { v with ab := fun x => if x = c then D else v.ab x } { σ with keys := σ.keys ++ [c], above := fun x => if x = c then l else σ.above x } →
      Kept y v₀ σ₀ { v with ab := fun x => if x = c then D else v.ab x } { σ with keys := σ.keys ++ [c], above := fun x => if x = c then l else σ.above x } news₀ news' → TupStay news news' → Q () { s with heap := h', toks := tk }) :
    wpAny (model prog w) A (setItem (.ref y.aD) (.int c t) (.ref D)) Q E s :=
  lay_above F N H.cons (K.more fun p hp => List.mem_cons_of_mem _ hp) hD (not_own_of H lt) (waL_lt H lt) (K.fresh lt) hz (σ.keys ++ [c]) (stored_new hc)
    (by rw [List.nodup_append]; exact ⟨H.ap.keysN, by simp, fun a ha b hb e => by simp at hb; subst hb; exact hc (e ▸ ha)⟩)
    (fun x hx => by rcases List.mem_append.mp hx with q | q; exact .inr q; simp at q; exact .inl q) fun h' news' tk F' N' H' K' st => h h' news' tk F' N' H' K' (TupStay.trans .cons st)
theorem new_lot {D : Addr} {l : List Nat} (F : Fr h₀ L s.heap m) {o : Obj} (lt : ∀ p ∈ news, p.1 < D) (N : News h₀ L s.heap ((D, o) :: news)) (H : HRep w news y v σ) (K : Kept y v₀ σ₀ v σ news₀ news) (hD : IsInts ((D, o) :: news) D l) (hz : σ.lots.length ≤ 900000)
    (h : ∀ h' news', Fr h₀ L h' m → News h₀ L h' news' → HRep w news' y { v with las := v.las ++ [D] } { σ with lots := σ.lots ++ [l] } → Kept y v₀ σ₀ { v with las := v.las ++ [D] } { σ with lots := σ.lots ++ [l] } news₀ news' → TupStay news news' → Q .none { s with heap := h' }) :
    wpAny (model prog w) A (call (.builtin "list.append") [.ref y.loL, .ref D]) Q E s :=
  push_lots F N H.cons (K.more fun p hp => List.mem_cons_of_mem _ hp) hD (not_own_of H lt) (waL_lt H lt) (K.fresh lt) hz fun h' news' F' N' H' K' st => h h' news' F' N' H' K' (TupStay.trans .cons st)
theorem sorted2_B {l : Addr} {a b n : Nat} (F : Fr h₀ L s.heap m) (N : News h₀ L s.heap news) (hm : (l, W.listOf (List.toArray [.int (a : Int) t, .int (b : Int) u]) n) ∈ news)
    (h : ∀ D t' u' c h', Fr h₀ L h' m → News h₀ L h' ((D, W.listOf (List.toArray [.int (min a b : Nat) t', .int (max a b : Nat) u']) c) :: news) → (∀ q ∈ news, q.1 < D) → Q (.ref D) { s with heap := h' }) :
    wpAny (model prog w) A (call (.builtin "sorted") [.ref l]) Q E s := by
  refine kso_sorted F N (isList_of N hm) (ns := toZ [a, b]) (.cons _ _ (.cons _ _ .nil)) (by simp [toZ]) fun D vs' ns' c h' F' N' l1 i' e' p' o' b' => ?_
  have key : ns' = toZ [min a b, max a b] := by
    simp only [toZ, List.map_cons, List.map_nil] at p' e' ⊢
    obtain ⟨x, z, rfl⟩ : ∃ x z, ns' = [x, z] := by
      match ns', e' with
      | [x, z], _ => exact ⟨x, z, rfl⟩
    simp only [List.pairwise_cons, List.mem_cons, List.not_mem_nil, or_false, forall_eq] at o'
    have m1 : x = a ∨ x = b := by simpa using p'.mem_iff.mp (List.mem_cons_self (a := x))
    have m2 : z = a ∨ z = b := by simpa using p'.mem_iff.mp (show z ∈ [x, z] by simp)
    have m3 : (a : Int) = x ∨ (a : Int) = z := by simpa using p'.mem_iff.mpr (show (a : Int) ∈ [(a : Int), (b : Int)] by simp)
    have m4 : (b : Int) = x ∨ (b : Int) = z := by simpa using p'.mem_iff.mpr (show (b : Int) ∈ [(a : Int), (b : Int)] by simp)
    have o1 := o'.1
    rw [List.cons.injEq, List.cons.injEq]
    refine ⟨?_, ?_, rfl⟩ <;> lia
  subst key
  obtain ⟨t1, u1, rfl⟩ := ints_two i'
  exact h D t1 u1 c h' F' N' l1
noncomputable def IsL (news : List (Addr × Obj)) (a : Addr) : Prop := ∃ its n, (a, W.listOf its n) ∈ news
theorem isL_ints {l : List Nat} (h : IsInts news a l) : IsL news a := let ⟨vs, n, hm, _⟩ := h; ⟨_, n, hm⟩
theorem isL_par (H : HRep w news y v σ) : IsL news y.paL := isL_ints (H.cm .par)
theorem isL_wait (H : HRep w news y v σ) : IsL news y.waL := isL_ints (H.cm .wait)
theorem isL_lots (H : HRep w news y v σ) : IsL news y.loL := let ⟨n, hm⟩ := (show ∃ n, (y.loL, W.listOf (v.las.map Value.ref).toArray n) ∈ news from H.cm .lots); ⟨_, n, hm⟩
theorem isL_some {k : Nat} (h : IsSome news a k) : IsL news a := let ⟨vs, n, hm, _⟩ := h; ⟨_, n, hm⟩
theorem isL_merged (H : HRep w news y v σ) : IsL news y.mgL := isL_some (H.cm .merged)
theorem isL_edges (H : HRep w news y v σ) : IsL news y.eL := isL_some (H.cm .edges)
theorem isL_forest (H : HRep w news y v σ) : IsL news y.fL := isL_some (H.cm .forest)
theorem isL_nodes (H : HRep w news y v σ) : IsL news y.nL := let ⟨vs, n, hm, _⟩ := (show ∃ vs n, (y.nL, W.listOf (List.toArray vs) n) ∈ news ∧ KInAll news 7 vs (σ.nodes.map dat) from H.cm .nodes); ⟨_, n, hm⟩
theorem isL_weights (H : HRep w news y v σ) : IsL news y.wL := let ⟨_, i, _⟩ := (show ∃ ws, IsInts news y.wL ws ∧ ws.length = σ.wl from H.cm .weights); isL_ints i
theorem isL_depths (H : HRep w news y v σ) : IsL news y.dL := let ⟨_, i, _⟩ := (show ∃ ws, IsInts news y.dL ws ∧ ws.length = σ.dl from H.cm .depths); isL_ints i
theorem isL_ab (H : HRep w news y v σ) {c : Nat} (hc : c ∈ σ.keys) : IsL news (v.ab c) := isL_ints (H.dy.abl c hc)
theorem isL_las (H : HRep w news y v σ) {i : Nat} (e : v.las[i]? = some a) : IsL news a := by
  have hlt : i < v.las.length := by
    rcases Nat.lt_or_ge i v.las.length with q | q
    · exact q
    · rw [List.getElem?_eq_none q] at e; cases e
  exact isL_ints (H.dy.lot i a (σ.lots[i]'(by rw [← H.ap.len]; exact hlt)) e (by simp))
theorem list_method {name : Str} {id : String} {pl : Sem Bool} {Q : Value × List Value → Shared → Prop} (N : News h₀ L s.heap news) (x : IsL news a) (slot : Slot "list" name id) (hty : typeOf (.builtin id) = pure (.type "method_descriptor"))
    (h : Q (.builtin id, [.ref a]) s) : wpAny (model prog w) A (getMethod (.ref a) name pl) Q E s := by
  obtain ⟨its, n, hm⟩ := x
  exact kl_method N hm slot hty h
theorem kn_method {name : Str} {id : String} {pl : Sem Bool} {Q : Value × List Value → Shared → Prop} (N : News h₀ L s.heap news) (H : HRep w news y v σ) (slot : Slot "dict" name id) (hty : typeOf (.builtin id) = pure (.type "method_descriptor"))
    (h : Q (.builtin id, [.ref y.kD]) s) : wpAny (model prog w) A (getMethod (.ref y.kD) name pl) Q E s := by
  obtain ⟨xs, T, V⟩ := (show TDI w news y.kD (knownOf σ.known) from H.cm .known)
  exact td_method N T slot hty h
theorem nums_set {nd : Nd} {d : Addr} {Q : Unit → Shared → Prop} (F : Fr h₀ L s.heap m) (N : News h₀ L s.heap news) (H : HRep w news y v σ) (K : Kept y v₀ σ₀ v σ news₀ news) (hk : KIn news 7 (.ref d) (dat nd)) (hu : A.units + 17 < cLine) (hz : σ.nums.length ≤ 1000000) (hn : nd ∉ σ.nums)
    (h : ∀ h' news' tk, Fr h₀ L h' m → News h₀ L h' news' → HRep w news' y v { σ with nums := σ.nums ++ [nd] } → Kept y v₀ σ₀ v { σ with nums := σ.nums ++ [nd] } news₀ news' → TupStay news news' → Q () { s with heap := h', toks := tk }) :
    wpAny (model prog w) A (setItem (.ref y.nD) (.ref d) (.int σ.nums.length t)) Q E s := by
  obtain ⟨xs, T, V⟩ := (show TDI w news y.nD (numbersOf σ.nums) from H.cm .numbers)
  have hl := V.length
  rw [numbersOf, List.length_map, List.length_zipIdx] at hl
  have e := V.none (k := dat nd)
  have hnone : atKey xs (dat nd) = none := e.mpr fun z hz ez => by
    simp only [numbersOf, List.mem_map] at hz
    obtain ⟨x, hx, rfl⟩ := hz
    have := dat_inj ez
    subst this
    exact hn (List.mem_of_getElem? (by rw [← List.mem_zipIdx_iff_getElem?]; exact hx))
  refine td_set F N T hk hu (fun h' o' tk F' N' T' st => ?_) (by rw [sizeLine_eq]; lia)
  obtain ⟨H', K', st'⟩ := cell_put H N K .numbers o' { σ with nums := σ.nums ++ [nd] } ⟨_, T', by
    rw [storedH_new hnone, numbersOf, List.zipIdx_append, List.map_append]
    simpa [numbersOf] using V.snoc⟩ (fun e he q => by cases e <;> first | exact q | exact absurd rfl he) rfl rfl rfl
  exact h h' _ tk F' N' H' K' st'
theorem push_nodes {nd : Nd} {d : Addr} (F : Fr h₀ L s.heap m) (N : News h₀ L s.heap news) (H : HRep w news y v σ) (K : Kept y v₀ σ₀ v σ news₀ news) (hk : KIn news 7 (.ref d) (dat nd)) (hz : σ.nodes.length ≤ 900000)
    (h : ∀ h' news', Fr h₀ L h' m → News h₀ L h' news' → HRep w news' y v { σ with nodes := σ.nodes ++ [nd] } → Kept y v₀ σ₀ v { σ with nodes := σ.nodes ++ [nd] } news₀ news' → TupStay news news' → Q .none { s with heap := h' }) :
    wpAny (model prog w) A (call (.builtin "list.append") [.ref y.nL, .ref d]) Q E s := by
  obtain ⟨vs, n, hm, r⟩ := (show ∃ vs n, (y.nL, W.listOf (List.toArray vs) n) ∈ news ∧ KInAll news 7 vs (σ.nodes.map dat) from H.cm .nodes)
  have e := kinAll_len r
  rw [List.length_map] at e
  refine append_B F N hm (by lia) fun h' F' N' => ?_
  have st := tupStay_put H N (o' := W.listOf (vs ++ [Value.ref d]).toArray (n + 1)) (own_cell (σ := σ) .nodes)
  obtain ⟨H', K', st'⟩ := cell_put H N K .nodes (W.listOf (vs ++ [Value.ref d]).toArray (n + 1)) { σ with nodes := σ.nodes ++ [nd] } ⟨_, _, put_self, by
    rw [List.map_append]; exact kinAll_snoc (r.move st) (hk.move st)⟩ (fun e he q => by cases e <;> first | exact q | exact absurd rfl he) rfl rfl rfl
  exact h h' _ F' N' H' K' st'
theorem push_weights {k : Nat} (F : Fr h₀ L s.heap m) (N : News h₀ L s.heap news) (H : HRep w news y v σ) (K : Kept y v₀ σ₀ v σ news₀ news) (hz : σ.wl ≤ 900000)
    (h : ∀ h' news', Fr h₀ L h' m → News h₀ L h' news' → HRep w news' y v { σ with wl := σ.wl + 1 } → Kept y v₀ σ₀ v { σ with wl := σ.wl + 1 } news₀ news' → TupStay news news' → Q .none { s with heap := h' }) :
    wpAny (model prog w) A (call (.builtin "list.append") [.ref y.wL, .int k u]) Q E s := by
  obtain ⟨ws, ⟨vs, n, hm, hi⟩, el⟩ := (show ∃ ws, IsInts news y.wL ws ∧ ws.length = σ.wl from H.cm .weights)
  have hl := ints_len hi
  refine append_B F N hm (by lia) fun h' F' N' => ?_
  obtain ⟨H', K', st⟩ := cell_put H N K .weights (W.listOf (vs ++ [Value.int (k : Nat) u]).toArray (n + 1)) { σ with wl := σ.wl + 1 } ⟨ws ++ [k], ⟨_, _, put_self, ints_snoc hi k u⟩, by simp [el]⟩ (fun e he q => by cases e <;> first | exact q | exact absurd rfl he) rfl rfl rfl
  exact h h' _ F' N' H' K' st
theorem push_depths {k : Nat} (F : Fr h₀ L s.heap m) (N : News h₀ L s.heap news) (H : HRep w news y v σ) (K : Kept y v₀ σ₀ v σ news₀ news) (hz : σ.dl ≤ 900000)
    (h : ∀ h' news', Fr h₀ L h' m → News h₀ L h' news' → HRep w news' y v { σ with dl := σ.dl + 1 } → Kept y v₀ σ₀ v { σ with dl := σ.dl + 1 } news₀ news' → TupStay news news' → Q .none { s with heap := h' }) :
    wpAny (model prog w) A (call (.builtin "list.append") [.ref y.dL, .int k u]) Q E s := by
  obtain ⟨ws, ⟨vs, n, hm, hi⟩, el⟩ := (show ∃ ws, IsInts news y.dL ws ∧ ws.length = σ.dl from H.cm .depths)
  have hl := ints_len hi
  refine append_B F N hm (by lia) fun h' F' N' => ?_
  obtain ⟨H', K', st⟩ := cell_put H N K .depths (W.listOf (vs ++ [Value.int (k : Nat) u]).toArray (n + 1)) { σ with dl := σ.dl + 1 } ⟨ws ++ [k], ⟨_, _, put_self, ints_snoc hi k u⟩, by simp [el]⟩ (fun e he q => by cases e <;> first | exact q | exact absurd rfl he) rfl rfl rfl
  exact h h' _ F' N' H' K' st
end
end Mine
end

section
open PySem PySem.W PySem.Calls PyProof.Rows PySem.Spec
set_option maxRecDepth 100000
namespace Mine
theorem kin_node {news : List (Addr × Obj)} {D : Addr} {op : Str} {t : Tok} {vs : List Value} {kids : List Nat} (hm : (D, tupObj (.str op t :: vs)) ∈ news) (ok : PyData.strOk op = true) (hi : IntsAre vs (toZ kids)) : KIn news 7 (.ref D) (dat (op, kids)) := .tuple (n := 6) hm (.cons (.str _ _ ok) (kinAll_of_ints hi))
section
variable {w : World} {A : Around} {E : Value → Shared → Prop} {s : Shared} {news news' news₀ : List (Addr × Obj)} {y : Lay} {v v' v₀ : Dy} {σ σ' σ₀ : HS} {h₀ h : Heap} {L a : Addr} {m : Str → Option Value} {u t : Tok}
theorem nums_setn {nd : Nd} {d : Addr} {k : Nat} {Q : Unit → Shared → Prop} (F : Fr h₀ L s.heap m) (N : News h₀ L s.heap news) (H : HRep w news y v σ) (K : Kept y v₀ σ₀ v σ news₀ news) (hk : KIn news 7 (.ref d) (dat nd)) (hu : A.units + 17 < cLine) (hz : σ.nums.length ≤ 1000000) (hn : nd ∉ σ.nums) (e : σ.nums.length = k)
    (h : ∀ h' news' tk, Fr h₀ L h' m → News h₀ L h' news' → HRep w news' y v { σ with nums := σ.nums ++ [nd] } → Kept y v₀ σ₀ v { σ with nums := σ.nums ++ [nd] } news₀ news' → TupStay news news' → Q () { s with heap := h', toks := tk }) :
    wpAny (model prog w) A (setItem (.ref y.nD) (.ref d) (.int k t)) Q E s := by
  subst e
  exact nums_set F N H K hk hu hz hn h
end
theorem kept_here {y : Lay} {v : Dy} {σ : HS} {h₀ h : Heap} {L : Addr} {news : List (Addr × Obj)} (_N : News h₀ L h news) : Kept y v σ v σ news news := .refl
end Mine
end

section
open PySem PySem.W PySem.Calls PyProof.Rows PySem.Spec
set_option maxRecDepth 100000
namespace Mine
theorem ints_ex : ∀ {ys : List Value}, (∀ (j : Nat) (y : Value), ys[j]? = some y → ∃ (k : Nat) (t : Tok), y = .int (k : Int) t) → ∃ ks : List Nat, IntsAre ys (toZ ks) ∧ ks.length = ys.length
  | [], _ => ⟨[], .nil, rfl⟩
  | y :: ys, h => by
    obtain ⟨k, t, rfl⟩ := h 0 y rfl
    obtain ⟨ks, i, e⟩ := ints_ex (ys := ys) fun j z hz => h (j + 1) z (by simpa using hz)
    exact ⟨k :: ks, .cons _ _ i, by simp [e]⟩
section
variable {w : World} {A : Around} {E : Value → Shared → Prop} {s : Shared} {news news' news₀ : List (Addr × Obj)} {y : Lay} {v v' v₀ : Dy} {σ σ' σ₀ : HS} {h₀ h : Heap} {L a : Addr} {m : Str → Option Value} {u t : Tok} {vs us : List Value} {Q : Value → Shared → Prop}
theorem sumN {ks : List Nat} {n : Nat} (hh : A.handled = none) (F : Fr h₀ L s.heap m) (N : News h₀ L s.heap news) (hm : (a, W.listOf vs.toArray n) ∈ news) (hi : IntsAre vs (toZ ks))
    (h : ∀ h' tk t' M, Fr h₀ L h' m → News h₀ L h' news → 0 ≤ M → Q (.int M t') { s with heap := h', toks := tk }) : wpAny (model prog w) A (call (.builtin "sum") [.ref a]) Q E s := by
  refine LSm.sum_ints F N hh (isList_of N hm) hi fun h' tk t' F' N' => h h' tk t' _ F' N' ?_
  clear hi
  induction ks with
  | nil => simp [toZ]
  | cons k ks ih => simp only [toZ, List.map_cons, List.sum_cons] at ih ⊢; lia
theorem maxN {ks : List Nat} {n : Nat} {t0 : Tok} (hh : A.handled = none) (F : Fr h₀ L s.heap m) (N : News h₀ L s.heap news) (hm : (a, W.listOf (vs ++ [Value.int 0 t0]).toArray n) ∈ news) (hi : IntsAre vs (toZ ks))
    (h : ∀ h' tk t' M, Fr h₀ L h' m → News h₀ L h' news → 0 ≤ M → Q (.int M t') { s with heap := h', toks := tk }) : wpAny (model prog w) A (call (.builtin "max") [.ref a]) Q E s := by
  have hi' : IntsAre (vs ++ [Value.int 0 t0]) (toZ (ks ++ [0])) := ints_snoc hi 0 t0
  refine PySem.W.kso_max F N (isList_of N hm) hi' (by simp [toZ]) hh fun h' M t' tk F' N' hM _ => h h' tk t' M F' N' ?_
  simp only [toZ, List.mem_map] at hM
  obtain ⟨k, _, rfl⟩ := hM
  exact Int.natCast_nonneg k
theorem push_weights_z {k : Int} (F : Fr h₀ L s.heap m) (N : News h₀ L s.heap news) (H : HRep w news y v σ) (K : Kept y v₀ σ₀ v σ news₀ news) (hz : σ.wl ≤ 900000) (hk : 0 ≤ k)
    (h : ∀ h' news', Fr h₀ L h' m → News h₀ L h' news' → HRep w news' y v { σ with wl := σ.wl + 1 } → Kept y v₀ σ₀ v { σ with wl := σ.wl + 1 } news₀ news' → TupStay news news' → Q .none { s with heap := h' }) :
    wpAny (model prog w) A (call (.builtin "list.append") [.ref y.wL, .int k u]) Q E s := by
  obtain ⟨n, rfl⟩ := Int.eq_ofNat_of_zero_le hk
  exact push_weights F N H K hz h
theorem push_depths_z {k : Int} (F : Fr h₀ L s.heap m) (N : News h₀ L s.heap news) (H : HRep w news y v σ) (K : Kept y v₀ σ₀ v σ news₀ news) (hz : σ.dl ≤ 900000) (hk : 0 ≤ k)
    (h : ∀ h' news', Fr h₀ L h' m → News h₀ L h' news' → HRep w news' y v { σ with dl := σ.dl + 1 } → Kept y v₀ σ₀ v { σ with dl := σ.dl + 1 } news₀ news' → TupStay news news' → Q .none { s with heap := h' }) :
    wpAny (model prog w) A (call (.builtin "list.append") [.ref y.dL, .int k u]) Q E s := by
  obtain ⟨n, rfl⟩ := Int.eq_ofNat_of_zero_le hk
  exact push_depths F N H K hz h
end
end Mine
end

section
open PySem PySem.W PySem.Calls PyProof.Rows PySem.Spec PyProof.Rows.LCg
set_option maxRecDepth 100000
namespace Mine
noncomputable def SrcB (ax : Addr) (us : List Value) (isT : Bool) (nws : List (Addr × Obj)) : Prop := if isT = true then (ax, tupObj us) ∈ nws else ∃ n, (ax, W.listOf us.toArray n) ∈ nws
theorem SrcB.tup {ax : Addr} {us : List Value} {nws : List (Addr × Obj)} (h : (ax, tupObj us) ∈ nws) : SrcB ax us true nws := h
theorem SrcB.list {ax : Addr} {us : List Value} {nws : List (Addr × Obj)} {n : Nat} (h : (ax, W.listOf us.toArray n) ∈ nws) : SrcB ax us false nws := ⟨n, h⟩
section
variable {prog : Program} {w : World} {A : Around} {E : Value → Shared → Prop} {s : Shared} {h₀ : Heap} {L : Addr} {m : Str → Option Value} {env : Env}
noncomputable def IterAt (I ax : Addr) (us : List Value) (isT : Bool) (i : Nat) (h : Heap) : Prop := if isT = true then h.IsTupleIter I ax i ∧ h.IsTuple ax us.toArray else h.IsListIter I ax i ∧ h.IsList ax us.toArray
theorem srcB_lt {ax : Addr} {us : List Value} {isT : Bool} {nws : List (Addr × Obj)} {h : Heap} (N : News h₀ L h nws) (S : SrcB ax us isT nws) : ax < h.objs.size := by
  cases isT with
  | true => exact Heap.lt_size (N _ S).1
  | false => obtain ⟨n, hm⟩ := S; exact Heap.lt_size (N _ hm).1
theorem walks_B (hh : A.handled = none) (I ax : Addr) (us : List Value) (isT : Bool) (hne : ax ≠ I) : Walks prog w A I [I, ax] [I] us.length (fun i v => us[i]? = some v) (IterAt I ax us isT) := by
  cases isT with
  | true =>
    have W := Walks.tuple (prog := prog) (w := w) hh I ax hne us.toArray
    rw [List.size_toArray] at W
    have e : IterAt I ax us true = fun i h => h.IsTupleIter I ax i ∧ h.IsTuple ax us.toArray := by funext i h; simp [IterAt]
    rw [e]
    simpa using W
  | false =>
    have W := Walks.list (prog := prog) (w := w) hh I ax hne us.toArray
    rw [List.size_toArray] at W
    have e : IterAt I ax us false = fun i h => h.IsListIter I ax i ∧ h.IsList ax us.toArray := by funext i h; simp [IterAt]
    rw [e]
    simpa using W
theorem iter_st {I ax : Addr} {us : List Value} {isT : Bool} : ∀ i (h h' : Heap) (o : Obj) (nw : List (Addr × Obj)), IterAt I ax us isT i h → h.get? I = some o → h'.get? I = some o → (∀ b o, h₀.get? b = some o → h'.get? b = some o) → News h₀ L h' nw → SrcB ax us isT nw → IterAt I ax us isT i h' := by
  intro i h h' o nw st e e' k N S
  cases isT with
  | true => exact ⟨by obtain ⟨o', q, r⟩ := st.1; rw [e] at q; cases q; exact ⟨o, e', r⟩, ⟨_, (N _ S).1, rfl, _, rfl⟩⟩
  | false => obtain ⟨n, hm⟩ := S; exact ⟨by obtain ⟨o', q, r⟩ := st.1; rw [e] at q; cases q; exact ⟨o, e', r⟩, isList_of N hm⟩
theorem iter_obj {I ax : Addr} {us : List Value} {isT : Bool} {i : Nat} {h : Heap} (st : IterAt I ax us isT i h) : ∃ o, h.get? I = some o := by
  cases isT with
  | true => obtain ⟨o, e, _⟩ := st.1; exact ⟨o, e⟩
  | false => obtain ⟨o, e, _⟩ := st.1; exact ⟨o, e⟩
theorem pyIter_B {ax : Addr} {us : List Value} {isT : Bool} {nws : List (Addr × Obj)} {Q : Value → Shared → Prop} (F : Fr h₀ L s.heap m) (N : News h₀ L s.heap nws) (S : SrcB ax us isT nws)
    (h : ∀ I h', I = s.heap.objs.size → h'.objs.size = I + 1 → (∀ b o, s.heap.get? b = some o → h'.get? b = some o) → IterAt I ax us isT 0 h' → Fr h₀ L h' m → News h₀ L h' nws → (∀ p ∈ nws, p.1 ≠ I) → L ≠ I → h₀.get? I = none → Q (.ref I) { s with heap := h' }) : wpAny (model prog w) A (pyIter (.ref ax)) Q E s := by
  cases isT with
  | true =>
    have ht : s.heap.IsTuple ax us.toArray := ⟨_, (N _ S).1, rfl, _, rfl⟩
    refine wpAny_pyIter_tuple ht ?_
    have up : ∀ b o, s.heap.get? b = some o → (s.heap.push { cls := .type "tuple_iterator", data := .fields #[.ref ax, .int 0 0] }).get? b = some o := fun b o e => Heap.get?_push_of_some _ e
    exact h _ _ rfl (Heap.size_push ..) up ⟨⟨_, Heap.get?_push_size _ rfl, rfl, rfl⟩, let ⟨o, e, r⟩ := ht; ⟨o, up _ _ e, r⟩⟩ (F.keeps up) (N.grown up) (fun p hp => Nat.ne_of_lt (Heap.lt_size (N p hp).1)) (Nat.ne_of_lt F.ns.lt) (next_is_new F)
  | false =>
    obtain ⟨n, hm⟩ := S
    have hl := isList_of N hm
    refine wpAny_pyIter_list hl ?_
    have up : ∀ b o, s.heap.get? b = some o → (s.heap.push { cls := .type "list_iterator", data := .fields #[.ref ax, .int 0 0] }).get? b = some o := fun b o e => Heap.get?_push_of_some _ e
    exact h _ _ rfl (Heap.size_push ..) up ⟨⟨_, Heap.get?_push_size _ rfl, rfl, rfl⟩, hl.push _⟩ (F.keeps up) (N.grown up) (fun p hp => Nat.ne_of_lt (Heap.lt_size (N p hp).1)) (Nat.ne_of_lt F.ns.lt) (next_is_new F)

noncomputable def CompSrcB (prog : Program) (w : World) (A : Around) (h₀ : Heap) (L : Addr) (m : Str → Option Value) (env : Env) (elt : Expr) (x : Str) (scope : Scope) (cl : List (Str × Addr)) (Fin : Shared → List Value → List (Addr × Obj) → Prop) (xv : Value) (s₁ : Shared) : Prop :=
  ∃ ax us isT nws, xv = .ref ax ∧ A.handled = none ∧ Fr h₀ L s₁.heap m ∧ News h₀ L s₁.heap nws ∧ SrcB ax us isT nws ∧ us.length ≤ 1000000 ∧
    ∀ s₂ : Shared, (∃ h, s₂ = { s₁ with heap := h }) → CompRest prog w A h₀ L m env elt x scope cl s₂ (SrcB ax us isT) (fun i v => us[i]? = some v) (Fin s₂) us.length 0 [] nws
theorem compRest_inv {elt : Expr} {x : Str} {scope : Scope} {cl : List (Str × Addr)} {s₂ : Shared} {S : List (Addr × Obj) → Prop} {P : Nat → Value → Prop} {Fin : List Value → List (Addr × Obj) → Prop} {n : Nat} (Inv : Nat → List Value → List (Addr × Obj) → Prop)
    (turn : ∀ i ys nws v I oI C oC D m₂ h tk (E' : Value → Shared → Prop), i < n → Inv i ys nws → P i v → NsObj oC m₂ → m₂ x = some v → Fr h₀ L h m → News h₀ L h ((I, oI) :: (C, oC) :: (D, lst ys) :: nws) → Off3 I C D nws → ((@Ne Nat I C) ∧ (@Ne Nat I D) ∧ (@Ne Nat C D)) →
      wpAny (model prog w) A (eval elt (compEnvC scope cl C env)) (CompEnd h₀ L m { s₂ with heap := h, toks := tk } I oI C oC D (lst ys) S (fun y news' => Inv (i + 1) (ys ++ [y]) news')) E' { s₂ with heap := h, toks := tk })
    (fin : ∀ ys nws, Inv n ys nws → Fin ys nws) : ∀ (k i : Nat) (ys : List Value) (nws : List (Addr × Obj)), i + k = n → Inv i ys nws → CompRest prog w A h₀ L m env elt x scope cl s₂ S P Fin k i ys nws
  | 0, i, ys, nws, e, hi => fin ys nws (by rw [← e]; exact hi)
  | k + 1, i, ys, nws, e, hi => by
    refine CompRest.succ fun v I oI C oC D m₂ h tk E' hP hC hx F N off ne => ?_
    refine wpAny_mono (turn i ys nws v I oI C oC D m₂ h tk E' (by lia) hi hP hC hx F N off ne) (fun y s' q => ?_) fun _ _ x => x
    refine byC fun U0 => ?_
    obtain ⟨h', tk', news', e', F', N', off', hS, r⟩ := q
    refine U0 ?_
    clear U0
    exact ⟨h', tk', news', e', F', N', off', hS, compRest_inv Inv turn fin k (i + 1) _ _ (by lia) r⟩
theorem listComp_B {elt iter : Expr} {x : Str} {px : Pos} {scope : Scope} {cl : List (Str × Addr)} {pos : Pos} {Q : Value → Shared → Prop} (_F₀ : Fr h₀ L s.heap m)
    (hclos : closureFor scope env = pure cl) (hcell : ∀ y ∈ scope.names, y.2 ≠ .cell) (hkind : scope.kind = .function)
    (hnames : ∀ y ∈ scope.names, y.2 = .local → scope.names.lookup y.1 = some .local) (hx : scope.names.lookup x = some .local)
    (h : wpAny (model prog w) A (eval iter env) (CompSrcB prog w A h₀ L m env elt x scope cl (fun s₂ => FinE h₀ L m s₂ Q)) E s)
    (hs : ∀ x, foldedSetIterable iter env x = pure x := by intro _; rfl) :
    wpAny (model prog w) A (eval (.ListComp elt [⟨.Name x px, iter, [], 0⟩] scope pos) env) Q E s := by
  rw [eval_ListComp]
  refine wpAny_comprehension_free (use := none) rfl hs hclos hkind hnames (wpAny_mono h (fun xv s₁ h₁ => ?_) fun _ _ e => e)
  refine byC fun U0 => ?_
  obtain ⟨ax, us, isT, nws, rfl, hh, F, N, S, hsz, R⟩ := h₁
  refine U0 ?_
  clear U0
  have hlt := srcB_lt N S
  refine pyIter_B F N S fun I h' hI hsize up st F' N' hpI hLI hI₀ => ?_
  have hne : ax ≠ I := by rw [hI]; exact Nat.ne_of_lt hlt
  refine block_U (walks_B hh I ax us isT hne) (by rw [sizeLine_eq]; lia) (fun i h st => iter_obj st) iter_st hcell hkind hx st (fun b hb => ?_) F' N' hLI hI₀ hpI S (R _ ⟨_, rfl⟩) ?_
  · show b < h'.objs.size
    rw [hsize, hI]
    rcases List.mem_cons.mp hb with rfl | hb
    · rw [hI]; exact Nat.lt_succ_self _
    · rw [List.mem_singleton.mp hb]; exact Nat.lt_succ_of_lt hlt
  · intro D C h tk m' ys news' F' N' o1 hn hC₀ hD₀ hCL hDL hCD offC fin
    refine ⟨m', hn, fun h'' hs'' => fin D h'' tk (F'.change hs'' hCL hC₀) (fun p hp => ?_) o1⟩
    refine ⟨hs''.extBut _ _ ?_ (N' p hp).1, (N' p hp).2⟩
    rcases List.mem_cons.mp hp with rfl | hp
    · exact Ne.symm hCD
    · exact offC p hp
noncomputable def PEnd (P : Nat → Value → Prop) (h₀ : Heap) (L : Addr) (m : Str → Option Value) (s₁ : Shared) (led : List (Addr × Obj)) (i : Nat) (y : Value) (s' : Shared) : Prop := P i y ∧ ∃ h' tk', s' = { s₁ with heap := h', toks := tk' } ∧ Fr h₀ L h' m ∧ News h₀ L h' led
theorem PEnd.intro {P : Nat → Value → Prop} {h₀ : Heap} {L : Addr} {m : Str → Option Value} {s₁ : Shared} {led : List (Addr × Obj)} {i : Nat} {y : Value} {h' : Heap} {tk' : Nat} (F : Fr h₀ L h' m) (N : News h₀ L h' led) (h : P i y) : PEnd P h₀ L m s₁ led i y { s₁ with heap := h', toks := tk' } := ⟨h, h', tk', rfl, F, N⟩
theorem compPure {elt : Expr} {x : Str} {scope : Scope} {cl : List (Str × Addr)} {Q : Value → Shared → Prop} {ax : Addr} {us : List Value} {isT : Bool} {nws : List (Addr × Obj)} {s₁ : Shared} (P : Nat → Value → Prop)
    (hh : A.handled = none) (F : Fr h₀ L s₁.heap m) (N : News h₀ L s₁.heap nws) (S : SrcB ax us isT nws) (hz : us.length ≤ 1000000)
    (turn : ∀ i v J C oC m₂ h tk, us[i]? = some v → (C, oC) ∈ J → NsObj oC m₂ → m₂ x = some v → Fr h₀ L h m → News h₀ L h (J ++ nws) →
      wpAny (model prog w) A (eval elt (compEnvC scope cl C env)) (PEnd P h₀ L m s₁ (J ++ nws) i) (fun _ _ => False) { s₁ with heap := h, toks := tk })
    (fin : ∀ D ys h tk, ys.length = us.length → (∀ i y, ys[i]? = some y → P i y) → Fr h₀ L h m → News h₀ L h ((D, W.listOf (List.toArray ys) ys.length) :: nws) → (∀ p ∈ nws, p.1 ≠ D) → Q (.ref D) { s₁ with heap := h, toks := tk }) :
    CompSrcB prog w A h₀ L m env elt x scope cl (fun s₂ => FinE h₀ L m s₂ Q) (.ref ax) s₁ := by
  refine ⟨ax, us, isT, nws, rfl, hh, F, N, S, hz, ?_⟩
  intro s₂ P1
  refine byC fun U0 => ?_
  obtain ⟨g, rfl⟩ := P1
  refine U0 ?_
  clear U0
  refine compRest_inv (n := us.length) (fun i ys nw => nw = nws ∧ ys.length = i ∧ ∀ j y, ys[j]? = some y → P j y) ?_ ?_ us.length 0 [] nws (by lia) ⟨rfl, rfl, fun j y h => by simp at h⟩
  · intro i ys nw v I oI C oC D m₂ h tk E' hi P2 hP hC hx F' N' off ne
    refine byC fun U0 => ?_
    obtain ⟨rfl, hl, hys⟩ := P2
    refine U0 ?_
    clear U0
    refine wpAny_mono (wpAny_noRaise (turn i v [(I, oI), (C, oC), (D, lst ys)] C oC m₂ h tk hP (by simp) hC hx F' N')) (fun y s' q => ?_) fun _ _ x => x
    refine byC fun U0 => ?_
    obtain ⟨hy, h', tk', rfl, F'', N''⟩ := q
    refine U0 ?_
    clear U0
    refine CompEnd.intro F'' N'' nw (fun p hp => hp) off S ⟨rfl, by simp [hl], fun j z hz => ?_⟩
    rcases Nat.lt_or_ge j ys.length with q | q
    · rw [List.getElem?_append_left q] at hz; exact hys j z hz
    · rw [List.getElem?_append_right q] at hz
      have : j - ys.length = 0 := by
        rcases Nat.eq_zero_or_pos (j - ys.length) with r | r
        · exact r
        · rw [List.getElem?_eq_none (by simp; lia)] at hz; cases hz
      rw [this] at hz
      simp at hz
      subst hz
      have : j = i := by lia
      rw [this]; exact hy
  · intro ys nw P3 D h tk F' N' off
    refine byC fun U0 => ?_
    obtain ⟨rfl, hl, hys⟩ := P3
    refine U0 ?_
    clear U0
    refine fin D ys h tk hl hys F' N' ?_
    have gen : ∀ {l : List (Addr × Obj)}, Off1 D l → ∀ p ∈ l, p.1 ≠ D := by
      intro l
      induction l with
      | nil => intro _ p hp; cases hp
      | cons q r ih =>
        intro o p hp
        rcases List.mem_cons.mp hp with rfl | hp
        · exact o.1
        · exact ih o.2 p hp
    exact gen off
end
end Mine
end

section
open PySem PySem.W PySem.Calls PyProof.Rows PySem.Spec PyProof.Rows.LCg PyProof.Rows.LCt
set_option maxRecDepth 100000
namespace Mine
section
variable {prog : Program} {w : World} {A : Around} {E : Value → Shared → Prop} {s : Shared} {h₀ : Heap} {L : Addr} {m : Str → Option Value} {env : Env}
structure ItAt (prog : Program) (w : World) (A : Around) (h₀ : Heap) (L : Addr) (m : Str → Option Value) (s : Shared) (nws : List (Addr × Obj)) (n : Nat) (P : Nat → Value → Prop) (S : List (Addr × Obj) → Prop) (I : Addr) (h' : Heap) (fp : List Addr) (St : Nat → Heap → Prop) : Prop where
  W : Walks prog w A I fp [I] n P St
  obj : ∀ i h, St i h → ∃ o, h.get? I = some o
  stay : ∀ i (h h' : Heap) (o : Obj) (nw : List (Addr × Obj)), St i h → h.get? I = some o → h'.get? I = some o → (∀ b o, h₀.get? b = some o → h'.get? b = some o) → News h₀ L h' nw → S nw → St i h'
  st : St 0 h'
  fp : ∀ b ∈ fp, b < h'.objs.size
  F : Fr h₀ L h' m
  N : News h₀ L h' nws
  hL : L ≠ I
  h0 : h₀.get? I = none
  off : ∀ p ∈ nws, p.1 ≠ I
  S : S nws
noncomputable def Iterable (prog : Program) (w : World) (A : Around) (h₀ : Heap) (L : Addr) (m : Str → Option Value) (xv : Value) (s₁ : Shared) (nws : List (Addr × Obj)) (n : Nat) (P : Nat → Value → Prop) (S : List (Addr × Obj) → Prop) : Prop :=
  ∀ (Q : Value → Shared → Prop) (E : Value → Shared → Prop), (∀ I h' fp St, ItAt prog w A h₀ L m s₁ nws n P S I h' fp St → Q (.ref I) { s₁ with heap := h' }) → wpAny (model prog w) A (pyIter xv) Q E s₁
theorem iterable_B {ax : Addr} {us : List Value} {isT : Bool} {nws : List (Addr × Obj)} {s₁ : Shared} (hh : A.handled = none) (F : Fr h₀ L s₁.heap m) (N : News h₀ L s₁.heap nws) (S : SrcB ax us isT nws) :
    Iterable prog w A h₀ L m (.ref ax) s₁ nws us.length (fun i v => us[i]? = some v) (SrcB ax us isT) := fun Q E k => by
  have hlt := srcB_lt N S
  refine pyIter_B F N S fun I h' hI hsize up st F' N' hpI hLI hI₀ => ?_
  have hne : ax ≠ I := by rw [hI]; exact Nat.ne_of_lt hlt
  refine k I h' _ _ ⟨walks_B hh I ax us isT hne, fun i h st => iter_obj st, iter_st, st, fun b hb => ?_, F', N', hLI, hI₀, hpI, S⟩
  rw [hsize, hI]
  rcases List.mem_cons.mp hb with rfl | hb
  · rw [hI]; exact Nat.lt_succ_self _
  · rw [List.mem_singleton.mp hb]; exact Nat.lt_succ_of_lt hlt
theorem iterable_str {x : Str} {t : Tok} {nws : List (Addr × Obj)} {s₁ : Shared} (hh : A.handled = none) (F : Fr h₀ L s₁.heap m) (N : News h₀ L s₁.heap nws) :
    Iterable prog w A h₀ L m (.str x t) s₁ nws x.cps.size (SignAt x) (fun _ => True) := fun Q E k => by
  have go : ∀ (T : String) (o : Obj), Walks prog w A s₁.heap.objs.size [s₁.heap.objs.size] [s₁.heap.objs.size] x.cps.size (SignAt x) (fun i h => h.IsStrIter s₁.heap.objs.size T x t i) →
      (s₁.heap.push o).IsStrIter s₁.heap.objs.size T x t 0 → Q (.ref s₁.heap.objs.size) { s₁ with heap := s₁.heap.push o } := fun T o W st =>
    k _ _ _ _ ⟨W, fun i h st => by obtain ⟨o, e, _⟩ := st; exact ⟨o, e⟩, fun i h h' o nw st e e' _ _ _ => by obtain ⟨o', q, r⟩ := st; rw [e] at q; cases q; exact ⟨o, e', r⟩, st,
      fun b hb => by rw [List.mem_singleton.mp hb, Heap.size_push]; exact Nat.lt_succ_self _, F.keeps fun _ _ e => Heap.get?_push_of_some _ e, N.grown fun _ _ e => Heap.get?_push_of_some _ e, Nat.ne_of_lt F.ns.lt, next_is_new F,
      fun p hp => Nat.ne_of_lt (Heap.lt_size (N p hp).1), trivial⟩
  cases ha : x.cps.all (· < 128)
  · exact wpAny_pyIter_wide ha (go "str_iterator" _ (Walks.strWide hh _ x t) ⟨_, Heap.get?_push_size _ rfl, rfl, rfl⟩)
  · exact wpAny_pyIter_ascii ha (go "str_ascii_iterator" _ (Walks.strAscii hh _ x t) ⟨_, Heap.get?_push_size _ rfl, rfl, rfl⟩)
theorem iterable_range {r : Addr} {a b : Int} {t u v : Tok} {n : Nat} {nws : List (Addr × Obj)} {s₁ : Shared} (hh : A.handled = none) (F : Fr h₀ L s₁.heap m) (N : News h₀ L s₁.heap nws)
    (hr : IsRange s₁.heap r a b 1 t u v) (hsm : Builtin.Range.small a b 1 = true) (hn : Builtin.Range.rangeSize a b 1 = ((n : Nat) : Int)) :
    Iterable prog w A h₀ L m (.ref r) s₁ nws n (fun i v => ∃ t, v = .int (a + (i : Int)) t) (fun _ => True) := fun Q E k => by
  refine wpAny_pyIter_range hr hsm ?_
  exact k _ _ _ _ ⟨range_walks hh a n, fun i h st => ⟨_, st⟩, range_st, by show IsRangeIter _ _ _ _ _; rw [hn]; simpa using Heap.get?_push_size _ rfl,
    fun b hb => by rw [List.mem_singleton.mp hb, Heap.size_push]; exact Nat.lt_succ_self _, F.keeps fun _ _ e => Heap.get?_push_of_some _ e, N.grown fun _ _ e => Heap.get?_push_of_some _ e, Nat.ne_of_lt F.ns.lt, next_is_new F,
    fun p hp => Nat.ne_of_lt (Heap.lt_size (N p hp).1), trivial⟩

noncomputable def CompSrcTB (prog : Program) (w : World) (A : Around) (h₀ : Heap) (L : Addr) (m : Str → Option Value) (env : Env) (ct elt : Expr) (x : Str) (scope : Scope) (cl : List (Str × Addr)) (Fin : Shared → List Value → List (Addr × Obj) → Prop) (xv : Value) (s₁ : Shared) : Prop :=
  ∃ nws n P S, n ≤ 1000000 ∧ Iterable prog w A h₀ L m xv s₁ nws n P S ∧ ∀ s₂ : Shared, (∃ h, s₂ = { s₁ with heap := h }) → CompRestT prog w A h₀ L m env ct elt x scope cl s₂ S P (Fin s₂) n 0 [] nws
theorem listComp_T {ct elt iter : Expr} {x : Str} {px : Pos} {scope : Scope} {cl : List (Str × Addr)} {pos : Pos} {Q : Value → Shared → Prop} (_F₀ : Fr h₀ L s.heap m)
    (hclos : closureFor scope env = pure cl) (hcell : ∀ y ∈ scope.names, y.2 ≠ .cell) (hkind : scope.kind = .function)
    (hnames : ∀ y ∈ scope.names, y.2 = .local → scope.names.lookup y.1 = some .local) (hx : scope.names.lookup x = some .local)
    (h : wpAny (model prog w) A (eval iter env) (CompSrcTB prog w A h₀ L m env ct elt x scope cl (fun s₂ => FinE h₀ L m s₂ Q)) E s)
    (hs : ∀ x, foldedSetIterable iter env x = pure x := by intro _; rfl) :
    wpAny (model prog w) A (eval (.ListComp elt [⟨.Name x px, iter, [ct], 0⟩] scope pos) env) Q E s := by
  rw [eval_ListComp]
  refine wpAny_comprehension_free (use := none) rfl hs hclos hkind hnames (wpAny_mono h (fun xv s₁ h₁ => ?_) fun _ _ e => e)
  refine byC fun U0 => ?_
  obtain ⟨nws, n, P, S, hsz, It, R⟩ := h₁
  refine U0 ?_
  clear U0
  refine It _ _ fun I h' fp St X => ?_
  refine block_T X.W (by rw [sizeLine_eq]; lia) X.obj X.stay hcell hkind hx X.st X.fp X.F X.N X.hL X.h0 X.off X.S (R _ ⟨_, rfl⟩) ?_
  intro D C h tk m' ys news' F' N' o1 hn hC₀ hD₀ hCL hDL hCD offC fin
  refine ⟨m', hn, fun h'' hs'' => fin D h'' tk (F'.change hs'' hCL hC₀) (fun p hp => ?_) o1⟩
  refine ⟨hs''.extBut _ _ ?_ (N' p hp).1, (N' p hp).2⟩
  rcases List.mem_cons.mp hp with rfl | hp
  · exact Ne.symm hCD
  · exact offC p hp
noncomputable def NEnd (h₀ : Heap) (L : Addr) (m : Str → Option Value) (s₁ : Shared) (led : List (Addr × Obj)) (s' : Shared) : Prop := ∃ h' tk', s' = { s₁ with heap := h', toks := tk' } ∧ Fr h₀ L h' m ∧ News h₀ L h' led
theorem NEnd.intro {h₀ : Heap} {L : Addr} {m : Str → Option Value} {s₁ : Shared} {led : List (Addr × Obj)} {h' : Heap} {tk' : Nat} (F : Fr h₀ L h' m) (N : News h₀ L h' led) : NEnd h₀ L m s₁ led { s₁ with heap := h', toks := tk' } := ⟨h', tk', rfl, F, N⟩
theorem range_snoc (f : Nat → Bool) (i : Nat) : (List.range (i + 1)).filter f = (List.range i).filter f ++ if f i = true then [i] else [] := by
  rw [List.range_succ, List.filter_append]
  by_cases h : f i = true <;> simp [h]
theorem compPureT {ct elt : Expr} {x : Str} {scope : Scope} {cl : List (Str × Addr)} {Q : Value → Shared → Prop} {xv : Value} {n : Nat} {P : Nat → Value → Prop} {S : List (Addr × Obj) → Prop} {nws : List (Addr × Obj)} {s₁ : Shared} (sel : Nat → Bool) (R : Nat → Value → Prop)
    (It : Iterable prog w A h₀ L m xv s₁ nws n P S) (S₀ : S nws) (hz : n ≤ 1000000)
    (turn : ∀ i v J C oC m₂ h tk, i < n → P i v → (C, oC) ∈ J → NsObj oC m₂ → m₂ x = some v → Fr h₀ L h m → News h₀ L h (J ++ nws) →
      wpAny (model prog w) A (isTrue ct (compEnvC scope cl C env) (eval ct (compEnvC scope cl C env))) (fun ok s' => if ok = true then sel i = true ∧
        wpAny (model prog w) A (eval elt (compEnvC scope cl C env)) (PEnd R h₀ L m s₁ (J ++ nws) i) (fun _ _ => False) s' else sel i = false ∧ NEnd h₀ L m s₁ (J ++ nws) s') (fun _ _ => False) { s₁ with heap := h, toks := tk })
    (fin : ∀ D ys h tk, ys.length = ((List.range n).filter sel).length → (∀ (j : Nat) (y : Value), ys[j]? = some y → ∃ i, ((List.range n).filter sel)[j]? = some i ∧ R i y) → Fr h₀ L h m → News h₀ L h ((D, W.listOf (List.toArray ys) ys.length) :: nws) → (∀ p ∈ nws, p.1 ≠ D) → Q (.ref D) { s₁ with heap := h, toks := tk }) :
    CompSrcTB prog w A h₀ L m env ct elt x scope cl (fun s₂ => FinE h₀ L m s₂ Q) xv s₁ := by
  refine ⟨nws, n, P, S, hz, It, ?_⟩
  intro s₂ P1
  refine byC fun U0 => ?_
  obtain ⟨g, rfl⟩ := P1
  refine U0 ?_
  clear U0
  have key : ∀ (k i : Nat) (ys : List Value), i + k = n → (ys.length = ((List.range i).filter sel).length ∧ ∀ (j : Nat) (y : Value), ys[j]? = some y → ∃ i', ((List.range i).filter sel)[j]? = some i' ∧ R i' y) →
      CompRestT prog w A h₀ L m env ct elt x scope cl { s₁ with heap := g } S P (FinE h₀ L m { s₁ with heap := g } Q) k i ys nws := by
    intro k
    induction k with
    | zero =>
      intro i ys e P2
      refine byC fun U0 => ?_
      obtain ⟨hl, hys⟩ := P2
      refine U0 ?_
      clear U0
      have e : i = n := by lia
      subst e
      refine CompRestT.zero fun D h tk F' N' off => fin D ys h tk hl hys F' N' ?_
      have gen : ∀ {l : List (Addr × Obj)}, Off1 D l → ∀ p ∈ l, p.1 ≠ D := by
        intro l
        induction l with
        | nil => intro _ p hp; cases hp
        | cons q r ih =>
          intro o p hp
          rcases List.mem_cons.mp hp with rfl | hp
          · exact o.1
          · exact ih o.2 p hp
      exact gen off
    | succ k ih =>
      intro i ys e P3
      refine byC fun U0 => ?_
      obtain ⟨hl, hys⟩ := P3
      refine U0 ?_
      clear U0
      refine CompRestT.succ fun v I oI C oC D m₂ h tk E' hP hC hx F' N' off ne => ?_
      refine wpAny_mono (wpAny_noRaise (turn i v [(I, oI), (C, oC), (D, lst ys)] C oC m₂ h tk (by lia) hP (by simp) hC hx F' N')) (fun ok s' q => ?_) fun _ _ x => x
      cases ok with
      | false =>
        simp only [Bool.false_eq_true, if_false] at q ⊢
        refine byC fun U0 => ?_
        obtain ⟨hs, h', tk', rfl, F'', N''⟩ := q
        refine U0 ?_
        clear U0
        refine CompEnd.intro F'' N'' nws (fun p hp => hp) off S₀ (ih (i + 1) ys (by lia) ?_)
        rw [range_snoc, hs]
        simpa using ⟨hl, hys⟩
      | true =>
        simp only [if_true] at q ⊢
        obtain ⟨hs, q⟩ := q
        refine wpAny_mono (wpAny_noRaise q) (fun y s'' z => ?_) fun _ _ x => x
        refine byC fun U0 => ?_
        obtain ⟨hy, h', tk', rfl, F'', N''⟩ := z
        refine U0 ?_
        clear U0
        refine CompEnd.intro F'' N'' nws (fun p hp => hp) off S₀ (ih (i + 1) (ys ++ [y]) (by lia) ?_)
        rw [range_snoc, hs]
        simp only [if_true]
        refine ⟨by simp [hl], fun j z hz => ?_⟩
        rcases Nat.lt_or_ge j ys.length with q | q
        · rw [List.getElem?_append_left q] at hz
          refine byC fun U0 => ?_
          obtain ⟨i', e1, e2⟩ := hys j z hz
          refine U0 ?_
          clear U0
          exact ⟨i', by rw [List.getElem?_append_left (by lia)]; exact e1, e2⟩
        · rw [List.getElem?_append_right q] at hz
          have : j - ys.length = 0 := by
            rcases Nat.eq_zero_or_pos (j - ys.length) with r | r
            · exact r
            · rw [List.getElem?_eq_none (by simp; lia)] at hz; cases hz
          rw [this] at hz
          simp at hz
          subst hz
          exact ⟨i, by rw [List.getElem?_append_right (by lia), ← hl, this]; rfl, hy⟩
  exact key n 0 [] (by lia) ⟨rfl, fun j y h => by simp at h⟩
end
end Mine
end

section
open PySem PySem.W PySem.Calls PyProof.Rows PySem.Spec PyProof.Rows.LCg
set_option maxRecDepth 100000
namespace Mine
section
variable {prog : Program} {w : World} {A : Around} {E : Value → Shared → Prop} {s : Shared} {h₀ : Heap} {L : Addr} {m : Str → Option Value} {env : Env}
inductive GEnd (h₀ : Heap) (L : Addr) (m : Str → Option Value) (s₁ : Shared) (I : Addr) (oI : Obj) (C : Addr) (oC : Obj) (D : Addr) (ys : List Value) (Inv : List Value → List (Addr × Obj) → Prop) (y : Value) (s' : Shared) : Prop
  | mk (h' : Heap) (tk' : Nat) (all nw' : List (Addr × Obj)) (e : s' = { s₁ with heap := h', toks := tk' }) (F : Fr h₀ L h' m) (N : News h₀ L h' all) (sub : ∀ p ∈ (I, oI) :: (C, oC) :: (D, lst ys) :: nw', p ∈ all) (off : ∀ p ∈ nw', p.1 ≠ I ∧ p.1 ≠ C ∧ p.1 ≠ D) (i : Inv (ys ++ [y]) nw') : GEnd h₀ L m s₁ I oI C oC D ys Inv y s'
theorem GEnd.intro {s₁ : Shared} {I : Addr} {oI : Obj} {C : Addr} {oC : Obj} {D : Addr} {ys : List Value} {Inv : List Value → List (Addr × Obj) → Prop} {y : Value} {h' : Heap} {tk' : Nat} {all : List (Addr × Obj)} (F : Fr h₀ L h' m) (N : News h₀ L h' all) (nw' : List (Addr × Obj))
    (sub : ∀ p ∈ (I, oI) :: (C, oC) :: (D, lst ys) :: nw', p ∈ all) (off : ∀ p ∈ nw', p.1 ≠ I ∧ p.1 ≠ C ∧ p.1 ≠ D) (i : Inv (ys ++ [y]) nw') : GEnd h₀ L m s₁ I oI C oC D ys Inv y { s₁ with heap := h', toks := tk' } := ⟨h', tk', all, nw', rfl, F, N, sub, off, i⟩
theorem off3_of {I C D : Addr} : ∀ {l : List (Addr × Obj)}, (∀ p ∈ l, p.1 ≠ I ∧ p.1 ≠ C ∧ p.1 ≠ D) → Off3 I C D l
  | [], _ => trivial
  | p :: r, h => ⟨h p (.head _), off3_of fun q hq => h q (.tail _ hq)⟩
theorem off1_mem {D : Addr} : ∀ {l : List (Addr × Obj)}, Off1 D l → ∀ p ∈ l, p.1 ≠ D
  | [], _, _, h => nomatch h
  | q :: r, o, p, hp => by
    rcases List.mem_cons.mp hp with rfl | hp
    · exact o.1
    · exact off1_mem o.2 p hp
theorem compG {elt : Expr} {x : Str} {scope : Scope} {cl : List (Str × Addr)} {Q : Value → Shared → Prop} {ax : Addr} {us : List Value} {isT : Bool} {nws : List (Addr × Obj)} {s₁ : Shared} (Inv : Nat → List Value → List (Addr × Obj) → Prop)
    (hh : A.handled = none) (F : Fr h₀ L s₁.heap m) (N : News h₀ L s₁.heap nws) (S : SrcB ax us isT nws) (hz : us.length ≤ 1000000) (h0 : Inv 0 [] nws) (hS : ∀ i ys nw, Inv i ys nw → SrcB ax us isT nw) (hl : ∀ i ys nw, Inv i ys nw → ys.length = i)
    (turn : ∀ i v ys nw I oI C oC D m₂ h tk, us[i]? = some v → Inv i ys nw → NsObj oC m₂ → m₂ x = some v → Fr h₀ L h m → News h₀ L h ((I, oI) :: (C, oC) :: (D, lst ys) :: nw) → (∀ p ∈ nw, p.1 ≠ I ∧ p.1 ≠ C ∧ p.1 ≠ D) →
      wpAny (model prog w) A (eval elt (compEnvC scope cl C env)) (GEnd h₀ L m s₁ I oI C oC D ys (Inv (i + 1))) (fun _ _ => False) { s₁ with heap := h, toks := tk })
    (fin : ∀ D ys nw h tk, Inv us.length ys nw → Fr h₀ L h m → News h₀ L h ((D, W.listOf (List.toArray ys) ys.length) :: nw) → (∀ p ∈ nw, p.1 ≠ D) → Q (.ref D) { s₁ with heap := h, toks := tk }) :
    CompSrcB prog w A h₀ L m env elt x scope cl (fun s₂ => FinE h₀ L m s₂ Q) (.ref ax) s₁ := by
  refine ⟨ax, us, isT, nws, rfl, hh, F, N, S, hz, ?_⟩
  rintro s₂ ⟨g, rfl⟩
  refine compRest_inv (n := us.length) Inv ?_ ?_ us.length 0 [] nws (by lia) h0
  · intro i ys nw v I oI C oC D m₂ h tk E' hi hI hP hC hx F' N' off ne
    refine wpAny_mono (wpAny_noRaise (turn i v ys nw I oI C oC D m₂ h tk hP hI hC hx F' N' (Off3.mem off))) (fun y s' q => ?_) fun _ _ x => x
    obtain ⟨h', tk', all, nw', rfl, F'', N'', sub, off', i'⟩ := q
    exact CompEnd.intro F'' N'' nw' sub (off3_of off') (hS _ _ _ i') i'
  · intro ys nw hI D h tk F' N' off
    exact fin D ys nw h tk hI F' N' (off1_mem off)
end
end Mine
end

section
open PySem PySem.W PySem.Calls PyProof.Rows PySem.Spec PyProof.Rows.LCg PyProof.Rows.LCt
set_option maxRecDepth 100000
namespace Mine
section
variable {prog : Program} {w : World} {A : Around} {E : Value → Shared → Prop} {s : Shared} {h₀ : Heap} {L : Addr} {m : Str → Option Value} {env : Env}
noncomputable def CompSrcI (prog : Program) (w : World) (A : Around) (h₀ : Heap) (L : Addr) (m : Str → Option Value) (env : Env) (elt : Expr) (x : Str) (scope : Scope) (cl : List (Str × Addr)) (Fin : Shared → List Value → List (Addr × Obj) → Prop) (xv : Value) (s₁ : Shared) : Prop :=
  ∃ nws n P S, n ≤ 1000000 ∧ Iterable prog w A h₀ L m xv s₁ nws n P S ∧ ∀ s₂ : Shared, (∃ h, s₂ = { s₁ with heap := h }) → CompRest prog w A h₀ L m env elt x scope cl s₂ S P (Fin s₂) n 0 [] nws
theorem listComp_I {elt iter : Expr} {x : Str} {px : Pos} {scope : Scope} {cl : List (Str × Addr)} {pos : Pos} {Q : Value → Shared → Prop} (_F₀ : Fr h₀ L s.heap m)
    (hclos : closureFor scope env = pure cl) (hcell : ∀ y ∈ scope.names, y.2 ≠ .cell) (hkind : scope.kind = .function)
    (hnames : ∀ y ∈ scope.names, y.2 = .local → scope.names.lookup y.1 = some .local) (hx : scope.names.lookup x = some .local)
    (h : wpAny (model prog w) A (eval iter env) (CompSrcI prog w A h₀ L m env elt x scope cl (fun s₂ => FinE h₀ L m s₂ Q)) E s)
    (hs : ∀ x, foldedSetIterable iter env x = pure x := by intro _; rfl) :
    wpAny (model prog w) A (eval (.ListComp elt [⟨.Name x px, iter, [], 0⟩] scope pos) env) Q E s := by
  rw [eval_ListComp]
  refine wpAny_comprehension_free (use := none) rfl hs hclos hkind hnames (wpAny_mono h (fun xv s₁ h₁ => ?_) fun _ _ e => e)
  refine byC fun U0 => ?_
  obtain ⟨nws, n, P, S, hsz, It, R⟩ := h₁
  refine U0 ?_
  clear U0
  refine It _ _ fun I h' fp St X => ?_
  refine block_U X.W (by rw [sizeLine_eq]; lia) X.obj X.stay hcell hkind hx X.st X.fp X.F X.N X.hL X.h0 X.off X.S (R _ ⟨_, rfl⟩) ?_
  intro D C h tk m' ys news' F' N' o1 hn hC₀ hD₀ hCL hDL hCD offC fin
  refine ⟨m', hn, fun h'' hs'' => fin D h'' tk (F'.change hs'' hCL hC₀) (fun p hp => ?_) o1⟩
  refine ⟨hs''.extBut _ _ ?_ (N' p hp).1, (N' p hp).2⟩
  rcases List.mem_cons.mp hp with rfl | hp
  · exact Ne.symm hCD
  · exact offC p hp
theorem compPureI {elt : Expr} {x : Str} {scope : Scope} {cl : List (Str × Addr)} {Q : Value → Shared → Prop} {xv : Value} {n : Nat} {P : Nat → Value → Prop} {S : List (Addr × Obj) → Prop} {nws : List (Addr × Obj)} {s₁ : Shared} (R : Nat → Value → Prop)
    (It : Iterable prog w A h₀ L m xv s₁ nws n P S) (S₀ : S nws) (hz : n ≤ 1000000)
    (turn : ∀ i v J C oC m₂ h tk, i < n → P i v → (C, oC) ∈ J → NsObj oC m₂ → m₂ x = some v → Fr h₀ L h m → News h₀ L h (J ++ nws) →
      wpAny (model prog w) A (eval elt (compEnvC scope cl C env)) (PEnd R h₀ L m s₁ (J ++ nws) i) (fun _ _ => False) { s₁ with heap := h, toks := tk })
    (fin : ∀ D ys h tk, ys.length = n → (∀ i y, ys[i]? = some y → R i y) → Fr h₀ L h m → News h₀ L h ((D, W.listOf (List.toArray ys) ys.length) :: nws) → (∀ p ∈ nws, p.1 ≠ D) → Q (.ref D) { s₁ with heap := h, toks := tk }) :
    CompSrcI prog w A h₀ L m env elt x scope cl (fun s₂ => FinE h₀ L m s₂ Q) xv s₁ := by
  refine ⟨nws, n, P, S, hz, It, ?_⟩
  intro s₂ P1
  refine byC fun U0 => ?_
  obtain ⟨g, rfl⟩ := P1
  refine U0 ?_
  clear U0
  refine compRest_inv (n := n) (fun i ys nw => nw = nws ∧ ys.length = i ∧ ∀ j y, ys[j]? = some y → R j y) ?_ ?_ n 0 [] nws (by lia) ⟨rfl, rfl, fun j y h => by simp at h⟩
  · intro i ys nw v I oI C oC D m₂ h tk E' hi P2 hP hC hx F' N' off ne
    refine byC fun U0 => ?_
    obtain ⟨rfl, hl, hys⟩ := P2
    refine U0 ?_
    clear U0
    refine wpAny_mono (wpAny_noRaise (turn i v [(I, oI), (C, oC), (D, lst ys)] C oC m₂ h tk hi hP (by simp) hC hx F' N')) (fun y s' q => ?_) fun _ _ x => x
    refine byC fun U0 => ?_
    obtain ⟨hy, h', tk', rfl, F'', N''⟩ := q
    refine U0 ?_
    clear U0
    refine CompEnd.intro F'' N'' nw (fun p hp => hp) off S₀ ⟨rfl, by simp [hl], fun j z hz => ?_⟩
    rw [List.getElem?_append] at hz
    split at hz
    · exact hys j z hz
    · rename_i q
      have hj := (List.getElem?_eq_some_iff.mp hz).1
      rw [List.length_singleton] at hj
      have e : j - ys.length = 0 := by lia
      rw [e] at hz
      cases hz
      have : j = i := by lia
      rw [this]; exact hy
  · intro ys nw P3 D h tk F' N' off
    refine byC fun U0 => ?_
    obtain ⟨rfl, hl, hys⟩ := P3
    refine U0 ?_
    clear U0
    exact fin D ys h tk hl hys F' N' (off1_mem off)
end
end Mine
end

section
open PySem PySem.W PySem.Calls PyProof.Rows PySem.Spec PyProof.Rows.LCg PyProof.Rows.LCt
set_option maxRecDepth 100000
namespace Mine
section
variable {prog : Program} {w : World} {A : Around} {E : Value → Shared → Prop} {s : Shared} {h₀ : Heap} {L : Addr} {m : Str → Option Value} {env : Env}
structure ItF (prog : Program) (w : World) (A : Around) (h₀ : Heap) (L : Addr) (m : Str → Option Value) (nws : List (Addr × Obj)) (n : Nat) (P : Nat → Value → Prop) (fixed : List (Addr × Obj)) (I : Addr) (h' : Heap) (fp : List Addr) (St : Nat → Heap → Prop) : Prop where
  W : Walks prog w A I fp [I] n P St
  obj : ∀ i h, St i h → ∃ o, h.get? I = some o
  fpc : ∀ b ∈ fp, b = I ∨ ∃ o, (b, o) ∈ fixed
  st : St 0 h'
  F : Fr h₀ L h' m
  N : News h₀ L h' nws
  hL : L ≠ I
  h0 : h₀.get? I = none
  off : ∀ p ∈ nws, p.1 ≠ I
noncomputable def IterableF (prog : Program) (w : World) (A : Around) (h₀ : Heap) (L : Addr) (m : Str → Option Value) (xv : Value) (s₁ : Shared) (nws : List (Addr × Obj)) (n : Nat) (P : Nat → Value → Prop) (fixed : List (Addr × Obj)) : Prop :=
  ∀ (Q : Value → Shared → Prop) (E : Value → Shared → Prop), (∀ I h' fp St, ItF prog w A h₀ L m nws n P fixed I h' fp St → Q (.ref I) { s₁ with heap := h' }) → wpAny (model prog w) A (pyIter xv) Q E s₁
theorem iterF_B {ax : Addr} {us : List Value} {isT : Bool} {o : Obj} {nws : List (Addr × Obj)} {s₁ : Shared} (hh : A.handled = none) (F : Fr h₀ L s₁.heap m) (N : News h₀ L s₁.heap nws) (ho : (ax, o) ∈ nws) (S : SrcB ax us isT nws) :
    IterableF prog w A h₀ L m (.ref ax) s₁ nws us.length (fun i v => us[i]? = some v) [(ax, o)] := fun Q E k => by
  have hlt := srcB_lt N S
  refine pyIter_B F N S fun I h' hI hsize up st F' N' hpI hLI hI₀ => ?_
  have hne : ax ≠ I := by rw [hI]; exact Nat.ne_of_lt hlt
  refine k I h' _ _ ⟨walks_B hh I ax us isT hne, fun i h st => iter_obj st, fun b hb => ?_, st, F', N', hLI, hI₀, hpI⟩
  rcases List.mem_cons.mp hb with rfl | hb
  · exact .inl rfl
  · rw [List.mem_singleton.mp hb]; exact .inr ⟨o, by simp⟩
theorem iterF_tup {ax : Addr} {us : List Value} {nws : List (Addr × Obj)} {s₁ : Shared} (hh : A.handled = none) (F : Fr h₀ L s₁.heap m) (N : News h₀ L s₁.heap nws) (ho : (ax, tupObj us) ∈ nws) :
    IterableF prog w A h₀ L m (.ref ax) s₁ nws us.length (fun i v => us[i]? = some v) [(ax, tupObj us)] := iterF_B hh F N ho (SrcB.tup ho)
theorem iterF_list {ax : Addr} {us : List Value} {c : Nat} {nws : List (Addr × Obj)} {s₁ : Shared} (hh : A.handled = none) (F : Fr h₀ L s₁.heap m) (N : News h₀ L s₁.heap nws) (ho : (ax, W.listOf us.toArray c) ∈ nws) :
    IterableF prog w A h₀ L m (.ref ax) s₁ nws us.length (fun i v => us[i]? = some v) [(ax, W.listOf us.toArray c)] := iterF_B hh F N ho (SrcB.list ho)
inductive FoEnd {σ : Type} (h₀ : Heap) (L : Addr) (x : Str) (Led : σ → List (Addr × Obj)) (ps : σ → List (Str × Value)) (stored : List Str) (m₀ : Str → Option Value) (Inv : σ → Prop) (I : Addr) (oI : Obj) (s₁ s₂ : Shared) : Prop
  | mk (c' : σ) (h' : Heap) (tk : Nat) (m' : Str → Option Value) (news' : List (Addr × Obj)) (e : s₂ = { s₁ with heap := h', toks := tk }) (F : Fr h₀ L h' m') (N : News h₀ L h' news') (hn : ∀ p ∈ Led c', p ∈ news') (hI : (I, oI) ∈ news') (off : ∀ p ∈ Led c', p.1 ≠ I) (hk : ∀ p ∈ ps c', m' p.1 = some p.2)
    (hr : ∀ z, (∀ p ∈ ps c', z ≠ p.1) → stored.contains z = false → z ≠ x → m' z = m₀ z) (hp : Inv c') : FoEnd h₀ L x Led ps stored m₀ Inv I oI s₁ s₂
noncomputable def FoPost {σ : Type} (h₀ : Heap) (L : Addr) (x : Str) (Led : σ → List (Addr × Obj)) (ps : σ → List (Str × Value)) (stored : List Str) (m₀ : Str → Option Value) (Inv : σ → Prop) (I : Addr) (oI : Obj) (s₁ : Shared) (Q : Flow → Shared → Prop) (f : Flow) (s₂ : Shared) : Prop :=
  match f with
  | .ret v => Q (.ret v) s₂
  | .brk => Q .next s₂
  | _ => FoEnd h₀ L x Led ps stored m₀ Inv I oI s₁ s₂
theorem FoEnd.intro {σ : Type} {h₀ : Heap} {L : Addr} {x : Str} {Led : σ → List (Addr × Obj)} {ps : σ → List (Str × Value)} {stored : List Str} {m₀ m' : Str → Option Value} {Inv : σ → Prop} {I : Addr} {oI : Obj} {s₁ : Shared} {h' : Heap} {tk : Nat} {news' : List (Addr × Obj)} (c' : σ)
    (F : Fr h₀ L h' m') (N : News h₀ L h' news') (hn : ∀ p ∈ Led c', p ∈ news') (hI : (I, oI) ∈ news') (off : ∀ p ∈ Led c', p.1 ≠ I) (hk : ∀ p ∈ ps c', m' p.1 = some p.2) (hr : ∀ z, (∀ p ∈ ps c', z ≠ p.1) → stored.contains z = false → z ≠ x → m' z = m₀ z) (hp : Inv c') :
    FoEnd h₀ L x Led ps stored m₀ Inv I oI s₁ { s₁ with heap := h', toks := tk } := ⟨c', h', tk, m', news', rfl, F, N, hn, hI, off, hk, hr, hp⟩
theorem fr_kst {x : Str} {h : Heap} {ps : List (Str × Value)} {stored : List Str} {m₀ m₁ : Str → Option Value} {v : Value} (h1 : ∀ p ∈ ps, m₁ p.1 = some p.2) (h2 : ∀ z, (∀ p ∈ ps, z ≠ p.1) → stored.contains z = false → z ≠ x → m₁ z = m₀ z)
    (F : Fr h₀ L h (fun y => if y = x then some v else m₁ y)) : Fr h₀ L h (fun y => if y = x then some v else kstB (fun z => if stored.contains z then m₁ z else m₀ z) ps y) := by
  have em : (fun y => if y = x then some v else kstB (fun z => if stored.contains z then m₁ z else m₀ z) ps y) = fun y => if y = x then some v else m₁ y := by
    funext y
    by_cases e : y = x
    · rw [if_pos e, if_pos e]
    · rw [if_neg e, if_neg e]
      refine kstB_eq h1 fun hn => ?_
      show (if stored.contains y = true then m₁ y else m₀ y) = m₁ y
      cases h3 : stored.contains y with
      | true => simp
      | false => simp only [Bool.false_eq_true, if_false]; exact (h2 y hn h3 e).symm
  rw [em]; exact F
theorem fr_kst_out {x : Str} {h : Heap} {ps : List (Str × Value)} {stored : List Str} {m₀ m₁ : Str → Option Value} (h1 : ∀ p ∈ ps, m₁ p.1 = some p.2) (h2 : ∀ z, (∀ p ∈ ps, z ≠ p.1) → stored.contains z = false → z ≠ x → m₁ z = m₀ z)
    (F : Fr h₀ L h m₁) : Fr h₀ L h (fun y => if y = x then m₁ y else kstB (fun z => if stored.contains z then m₁ z else m₀ z) ps y) := by
  have em : (fun y => if y = x then m₁ y else kstB (fun z => if stored.contains z then m₁ z else m₀ z) ps y) = m₁ := by
    funext y
    by_cases e : y = x
    · rw [if_pos e]
    · rw [if_neg e]
      refine kstB_eq h1 fun hn => ?_
      show (if stored.contains y = true then m₁ y else m₀ y) = m₁ y
      cases h3 : stored.contains y with
      | true => simp
      | false => simp only [Bool.false_eq_true, if_false]; exact (h2 y hn h3 e).symm
  rw [em]; exact F
theorem for_B {σ : Type} {x : Str} {body : List Stmt} {xv : Value} {n : Nat} {P : Nat → Value → Prop} {fixed : List (Addr × Obj)} {m₀ : Str → Option Value} {Q : Flow → Shared → Prop} (Led : σ → List (Addr × Obj)) (ps : σ → List (Str × Value)) (stored : List Str) (Inv : Nat → σ → Prop) (c₀ : σ)
    (It : IterableF prog w A h₀ env.locals m₀ xv s (Led c₀) n P fixed) (hfix : ∀ i c, Inv i c → ∀ p ∈ fixed, p ∈ Led c) (hk : ∀ p ∈ ps c₀, m₀ p.1 = some p.2) (hp : Inv 0 c₀)
    (turn : ∀ (i : Nat) (v : Value) (c : σ) (u : Str → Option Value) h tk (I : Addr) oI, i < n → P i v → Inv i c → (∀ p ∈ Led c, p.1 ≠ I) → Fr h₀ env.locals h (fun y => if y = x then some v else kstB (fun z => if stored.contains z then u z else m₀ z) (ps c) y) →
      News h₀ env.locals h ((I, oI) :: Led c) → wpAny (model prog w) A (execs body env) (FoPost h₀ env.locals x Led ps stored m₀ (Inv (i + 1)) I oI { s with heap := h, toks := tk } Q) E { s with heap := h, toks := tk })
    (done : ∀ (c : σ) (u : Str → Option Value) h tk, Inv n c → Fr h₀ env.locals h (fun y => if y = x then u y else kstB (fun z => if stored.contains z then u z else m₀ z) (ps c) y) → News h₀ env.locals h (Led c) → Q .next { s with heap := h, toks := tk }) :
    wpAny (model prog w) A (pyIter xv) (fun it s₂ => LoopAtV prog w A h₀ env x body Q E it s₂) E s := by
  refine It _ _ fun I h' fp St X => ?_
  refine ⟨I, fp, [I], n, P, St, m₀, Led c₀, fun i m₁ nx => ∃ c, nx = Led c ∧ (∀ p ∈ ps c, m₁ p.1 = some p.2) ∧ (∀ z, (∀ p ∈ ps c, z ≠ p.1) → stored.contains z = false → z ≠ x → m₁ z = m₀ z) ∧ Inv i c, rfl, X.W, ?_, ?_, ?_, X.st, X.F, X.N, ⟨c₀, rfl, hk, fun _ _ _ _ => rfl, hp⟩, ?_, ?_⟩
  · intro hm
    rcases X.fpc _ hm with e | ⟨o, ho⟩
    · exact X.hL e
    · exact (X.N _ (hfix 0 c₀ hp _ ho)).2.1 rfl
  · intro b hb
    rw [List.mem_singleton.mp hb]
    exact X.h0
  · intro p hp' hI
    exact X.off p hp' (List.mem_singleton.mp hI)
  · intro i v m₁ news₁ s₁ own P1 hin hP P2 hoff hown hget hmem hst F₁ N₁
    refine byC fun U0 => ?_
    obtain ⟨hh', tk', rfl⟩ := P1
    refine byC fun U0 => ?_
    obtain ⟨c, rfl, h1, h2, hc⟩ := P2
    refine U0 ?_
    clear U0
    refine U0 ?_
    clear U0
    have hIf : I ∈ fp := X.W.sub I (List.mem_singleton.mpr rfl)
    obtain ⟨oI, hoI⟩ := X.obj _ _ hst
    have hIown := hmem _ hIf X.h0 _ hoI
    have N₂ : News h₀ env.locals hh' ((I, oI) :: Led c) := fun p hp => by
      rcases List.mem_cons.mp hp with rfl | hp
      · exact N₁ _ (List.mem_append_left _ hIown)
      · exact N₁ _ (List.mem_append_right _ hp)
    have off : ∀ p ∈ Led c, p.1 ≠ I := fun p hp e => hoff p hp (List.mem_singleton.mpr e)
    refine wpAny_mono (turn i v c m₁ hh' tk' I oI hin hP hc off (fr_kst h1 h2 F₁) N₂) (fun f s₂ p => ?_) fun _ _ e => e
    have fin : FoEnd h₀ env.locals x Led ps stored m₀ (Inv (i + 1)) I oI { s with heap := hh', toks := tk' } s₂ → LoopStepU h₀ env.locals [I] own (fun m₁ nx => ∃ c, nx = Led c ∧ (∀ p ∈ ps c, m₁ p.1 = some p.2) ∧ (∀ z, (∀ p ∈ ps c, z ≠ p.1) → stored.contains z = false → z ≠ x → m₁ z = m₀ z) ∧ Inv (i + 1) c) { s with heap := hh', toks := tk' } .next s₂ := by
      intro P3
      refine byC fun U0 => ?_
      obtain ⟨c', h', tk, m', news', e, F', N', hn, hI', off', hk', hr', hp'⟩ := P3
      refine U0 ?_
      clear U0
      refine ⟨rfl, h', tk, m', Led c', e, F', fun p hp => ?_, fun p hp hq => off' p hp (List.mem_singleton.mp hq), c', rfl, hk', hr', hp'⟩
      rcases List.mem_append.mp hp with hp | hp
      · have g := hget p hp
        rcases X.fpc _ (hown p hp) with e1 | ⟨o, ho⟩
        · have : p = (I, oI) := by
            have g2 : hh'.get? I = some oI := hoI
            have g3 : hh'.get? p.1 = some p.2 := g
            rw [e1, g2] at g3
            exact Prod.ext e1 (Option.some.inj g3).symm
          rw [this]; exact N' _ hI'
        · have g2 := (N₂ _ (List.mem_cons_of_mem _ (hfix _ _ hc _ ho))).1
          have : p = (p.1, o) := by
            have g3 : hh'.get? p.1 = some p.2 := g
            have g2' : hh'.get? p.1 = some o := g2
            rw [g2'] at g3
            exact Prod.ext rfl (Option.some.inj g3).symm
          rw [this]
          exact N' _ (hn _ (hfix _ _ hp' _ ho))
      · exact N' _ (hn _ hp)
    cases f with
    | ret v => exact .ret p
    | brk => exact .brk p
    | next => exact .next (fin p)
    | cont => exact .cont (fin p)
  · intro h' tk m' news' F' N' _ P4
    refine byC fun U0 => ?_
    obtain ⟨c, rfl, h1, h2, hc⟩ := P4
    refine U0 ?_
    clear U0
    exact done c m' h' tk hc (fr_kst_out h1 h2 F') N'
theorem for_C {x : Str} {body : List Stmt} {xv : Value} {n : Nat} {P : Nat → Value → Prop} {fixed nws : List (Addr × Obj)} {m₀ : Str → Option Value} {Q : Flow → Shared → Prop}
    (It : IterableF prog w A h₀ env.locals m₀ xv s nws n P fixed) (hfix : ∀ p ∈ fixed, p ∈ nws)
    (turn : ∀ (i : Nat) (v : Value) h tk (I : Addr) oI, i < n → P i v → (∀ p ∈ nws, p.1 ≠ I) → Fr h₀ env.locals h (fun y => if y = x then some v else m₀ y) →
      News h₀ env.locals h ((I, oI) :: nws) → wpAny (model prog w) A (execs body env) (FoPost (σ := Unit) h₀ env.locals x (fun _ => nws) (fun _ => []) [] m₀ (fun _ => True) I oI { s with heap := h, toks := tk } Q) E { s with heap := h, toks := tk })
    (done : ∀ (u : Str → Option Value) h tk, Fr h₀ env.locals h (fun y => if y = x then u y else m₀ y) → News h₀ env.locals h nws → Q .next { s with heap := h, toks := tk }) :
    wpAny (model prog w) A (pyIter xv) (fun it s₂ => LoopAtV prog w A h₀ env x body Q E it s₂) E s :=
  for_B (σ := Unit) (fun _ => nws) (fun _ => []) [] (fun _ _ => True) () It (fun _ _ _ => hfix) (fun _ h => nomatch h) trivial
    (fun i v _ u h tk I oI hi hv _ off F' N' => turn i v h tk I oI hi hv off (by simpa [kstB] using F') N') (fun _ u h tk _ F' N' => done u h tk (by simpa [kstB] using F') N')
theorem fo_end {x : Str} {nws : List (Addr × Obj)} {m₀ m' : Str → Option Value} {I : Addr} {oI : Obj} {s₁ : Shared} {h' : Heap} {tk : Nat} {news' : List (Addr × Obj)}
    (F : Fr h₀ L h' m') (N : News h₀ L h' news') (hn : ∀ p ∈ nws, p ∈ news') (hI : (I, oI) ∈ news') (off : ∀ p ∈ nws, p.1 ≠ I) (hr : ∀ z, z ≠ x → m' z = m₀ z) :
    FoEnd (σ := Unit) h₀ L x (fun _ => nws) (fun _ => []) [] m₀ (fun _ => True) I oI s₁ { s₁ with heap := h', toks := tk } := FoEnd.intro () F N hn hI off (fun _ h => nomatch h) (fun z _ _ e => hr z e) trivial
end
end Mine
end

section
open PySem PySem.W PySem.Calls PyProof.Rows PySem.Spec
namespace Mine
section
variable {ps qs : List (Str × Value)} {st l : List Str} {m m' m1 m2 : Str → Option Value} {x z : Str} {v : Option Value}
noncomputable def Has (m : Str → Option Value) (ps : List (Str × Value)) : Prop := ps.map (fun p => m p.1) = ps.map fun p => some p.2
theorem Has.all (h : Has m ps) : ∀ p ∈ ps, m p.1 = some p.2 := fun p hp => List.map_inj_left.mp h p hp
theorem all_of {h₀ h : Heap} {L : Addr} (_F : Fr h₀ L h m) (h : Has m ps) : ∀ p ∈ ps, m p.1 = some p.2 := h.all
noncomputable def inKS (ps : List (Str × Value)) (st : List Str) (x : Str) : Bool := ps.any (fun p => decide (x = p.1)) || st.contains x
noncomputable def Over (ps : List (Str × Value)) (st : List Str) (m' m : Str → Option Value) : Prop := ∀ z, (∀ p ∈ ps, z ≠ p.1) → st.contains z = false → m' z = m z
theorem ne_inKS (h1 : ∀ p ∈ ps, z ≠ p.1) (h2 : st.contains z = false) (hx : inKS ps st x = true) : z ≠ x := by
  rintro rfl
  rw [inKS, h2, Bool.or_false, List.any_eq_true] at hx
  exact hx.elim fun p q => h1 p q.1 (of_decide_eq_true q.2)
theorem over_refl : Over ps st m m := fun _ _ _ => rfl
theorem over_trans (a : Over ps st m' m1) (b : Over ps st m1 m) : Over ps st m' m := fun z h1 h2 => (a z h1 h2).trans (b z h1 h2)
theorem over_ite (h : Over ps st m1 m) (hx : inKS ps st x = true) : Over ps st (fun z => if z = x then v else m1 z) m := fun z h1 h2 => (if_neg (ne_inKS h1 h2 hx)).trans (h z h1 h2)
theorem over_kstB (h : Over ps st m1 m) (hx : qs.all (fun q => inKS ps st q.1) = true) : Over ps st (kstB m1 qs) m := by
  induction qs with
  | nil => exact h
  | cons q qs ih =>
    rw [List.all_cons, Bool.and_eq_true] at hx
    exact over_ite (ih hx.2) hx.1
theorem over_cont (h : Over ps st m2 m) (hx : l.all (inKS ps st) = true) : Over ps st (fun z => if l.contains z then m1 z else m2 z) m := fun z h1 h2 => by
  refine (if_neg fun hc => ?_).trans (h z h1 h2)
  exact ne_inKS h1 h2 (List.all_eq_true.mp hx z (List.contains_iff_mem.mp hc)) rfl
theorem over_of (hm : ∀ z, l.contains z = false → m' z = m1 z) (hl : l.all (inKS ps st) = true) (h : Over ps st m1 m) : Over ps st m' m := fun z h1 h2 => by
  refine (hm z (Bool.eq_false_iff.mpr fun hc => ?_)).trans (h z h1 h2)
  exact ne_inKS h1 h2 (List.all_eq_true.mp hl z (List.contains_iff_mem.mp hc)) rfl
theorem over_has (hm : ∀ z, l.contains z = false → m' z = m1 z) (hd : ps.all (fun p => !l.contains p.1) = true) (h : Has m1 ps) : ∀ p ∈ ps, m' p.1 = some p.2 := fun p hp =>
  (hm p.1 (by simpa using List.all_eq_true.mp hd p hp)).trans (h.all p hp)
theorem of3 {a b c : Str} (hm : ∀ z, z ≠ a → z ≠ b → z ≠ c → m' z = m1 z) : ∀ z, [a, b, c].contains z = false → m' z = m1 z := fun z h => by
  simp only [List.contains_cons, List.contains_nil, Bool.or_false, Bool.or_eq_false_iff, beq_eq_false_iff_ne, ne_eq] at h
  exact hm z h.1 h.2.1 h.2.2
theorem over3 {a b c : Str} (h : Over [] [a, b, c] m' m) : ∀ z, z ≠ a → z ≠ b → z ≠ c → m' z = m z := fun z h1 h2 h3 =>
  h z (fun _ hp => nomatch hp) (by simp only [List.contains_cons, List.contains_nil, Bool.or_false, Bool.or_eq_false_iff, beq_eq_false_iff_ne, ne_eq]; exact ⟨h1, h2, h3⟩)
end
end Mine
end

section
open PySem PySem.W PySem.Calls PyProof.Rows PySem.Spec PyProof.Rows.LCg PyProof.Rows.LCt
set_option maxRecDepth 100000
namespace Mine
section
variable {prog : Program} {w : World} {A : Around} {E : Value → Shared → Prop} {s : Shared} {h₀ : Heap} {L : Addr} {m : Str → Option Value} {env : Env}
theorem forLoop_D {R : Result → Shared → Prop} {target : Expr} {body : List Stmt} {I : Addr} {fp : List Addr} {n : Nat} {P : Nat → Value → Prop} {St : Nat → Heap → Prop} (W : Walks prog w A I fp [I] n P St) (J : Nat → Shared → Prop)
    (hgo : ∀ i (s' : Shared) v (Q' : Unit → Shared → Prop), St i s'.heap → Q' () s' → wpAny (model prog w) A (letOwnedTupleGo target (.ref I) v) Q' (notedBy (model prog w) A env fun e s' => R (.error e) s') s')
    (turn : ∀ i v (s0 : Shared) h1 tk1, i < n → P i v → St i s0.heap → J i s0 → St (i + 1) h1 → (∀ b o, b ≠ I → s0.heap.get? b = some o → h1.get? b = some o) →
      wpAny (model prog w) A (assign target env v) (fun _ s₂ => wpAny (model prog w) A (execs body env) (fun f s₃ => match f with
          | .next | .cont => St (i + 1) s₃.heap ∧ J (i + 1) s₃
          | .brk => R (.ok .next) s₃
          | .ret v => R (.ok (.ret v)) s₃) (notedBy (model prog w) A env fun e s' => R (.error e) s') s₂) (notedBy (model prog w) A env fun e s' => R (.error e) s') { s0 with heap := h1, toks := tk1 })
    (done : ∀ (s0 : Shared) h1 tk1, J n s0 → (∀ b o, b ≠ I → s0.heap.get? b = some o → h1.get? b = some o) → R (.ok .next) { s0 with heap := h1, toks := tk1 })
    (hst : St 0 s.heap) (h0 : J 0 s) : codeAny (model prog w) A (.forLoop target (.ref I) body [] env) R s := by
  refine codeAny_forLoop_any (fun k s' => ∃ i, St i s'.heap ∧ J i s' ∧ i ≤ n ∧ k = n + 1 - i) ?_ (n + 1) ⟨0, hst, h0, Nat.zero_le _, rfl⟩
  intro k s' P1
  refine byC fun U0 => ?_
  obtain ⟨i, hst', hJ, hi, rfl⟩ := P1
  refine U0 ?_
  clear U0
  have ne : ∀ {b : Addr}, b ≠ I → b ∉ [I] := fun hb q => hb (List.mem_singleton.mp q)
  by_cases hlt : i < n
  · refine W.item i _ _ _ hlt hst' fun v h₁ tk₁ hP hst₁ hk₁ => ?_
    refine hgo (i + 1) _ v _ hst₁ ?_
    refine wpAny_mono (turn i v s' h₁ tk₁ hlt hP hst' hJ hst₁ fun b o hb e => hk₁ b o (ne hb) e) (fun _ s₂ h₂ => wpAny_mono h₂ (fun f s₃ h₃ => ?_) fun _ _ e => e) fun _ _ e => e
    cases f with
    | ret v => exact h₃
    | brk => exact h₃
    | next => exact ⟨n + 1 - (i + 1), by omega, i + 1, h₃.1, h₃.2, hlt, rfl⟩
    | cont => exact ⟨n + 1 - (i + 1), by omega, i + 1, h₃.1, h₃.2, hlt, rfl⟩
  · have hin : i = n := by omega
    subst hin
    exact W.done _ _ _ hst' fun h₁ tk₁ hk₁ => wpAny_execs_nil (done s' h₁ tk₁ hJ fun b o hb e => hk₁ b o (ne hb) e)
noncomputable def LoopD (prog : Program) (w : World) (A : Around) (env : Env) (target : Expr) (body : List Stmt) (Q : Flow → Shared → Prop) (E : Value → Shared → Prop) (it : Value) (s₂ : Shared) : Prop :=
  ∃ (I : Addr) (fp : List Addr) (n : Nat) (P : Nat → Value → Prop) (St : Nat → Heap → Prop) (J : Nat → Shared → Prop), it = .ref I ∧ Walks prog w A I fp [I] n P St ∧
    (∀ i (s' : Shared) v (Q' : Unit → Shared → Prop), St i s'.heap → Q' () s' → wpAny (model prog w) A (letOwnedTupleGo target (.ref I) v) Q' E s') ∧
    (∀ i v (s0 : Shared) h1 tk1, i < n → P i v → St i s0.heap → J i s0 → St (i + 1) h1 → (∀ b o, b ≠ I → s0.heap.get? b = some o → h1.get? b = some o) →
      wpAny (model prog w) A (assign target env v) (fun _ s₂ => wpAny (model prog w) A (execs body env) (fun f s₃ => match f with
          | .next | .cont => St (i + 1) s₃.heap ∧ J (i + 1) s₃
          | .brk => Q .next s₃
          | .ret v => Q (.ret v) s₃) E s₂) E { s0 with heap := h1, toks := tk1 }) ∧
    (∀ (s0 : Shared) h1 tk1, J n s0 → (∀ b o, b ≠ I → s0.heap.get? b = some o → h1.get? b = some o) → Q .next { s0 with heap := h1, toks := tk1 }) ∧ St 0 s₂.heap ∧ J 0 s₂
theorem For_D {Q : Flow → Shared → Prop} {target iter : Expr} {pos : Pos} {body : List Stmt}
    (h : wpAny (model prog w) A (eval iter env) (fun xv s₁ => wpAny (model prog w) A (pyIter xv) (fun it s₂ => LoopD prog w A env target body Q E it s₂) E s₁) E s)
    (hs : ∀ x, foldedSetIterable iter env x = pure x) (hE : PassesOwn (model prog w) A env E) :
    wpAny (model prog w) A (exec (.For target iter body [] pos) env) Q E s := by
  refine wpAny_For (wpAny_mono h (fun xv s₁ h₁ => wpAny_mono h₁ (fun it s₂ h₂ => ?_) fun _ _ e => e) fun _ _ e => e) hs
  refine byC fun U0 => ?_
  obtain ⟨I, fp, n, P, St, J, rfl, W, hgo, turn, done, hst, h0⟩ := h₂
  refine U0 ?_
  clear U0
  exact forLoop_D (R := fun r s' => match r with | .ok f => Q f s' | .error e => cameBackBy (model prog w) A env E e s') W J (fun i s' v Q' a b => wpAny_passesOwn hE (hgo i s' v Q' a b))
    (fun i v s0 h1 tk1 a b c d e f => wpAny_mono (turn i v s0 h1 tk1 a b c d e f) (fun _ s₂ x => wpAny_passesOwn hE (wpAny_mono x (fun f s₃ y => by cases f <;> exact y) fun _ _ e => e)) hE) done hst h0
structure ItG (prog : Program) (w : World) (A : Around) (h₀ : Heap) (L : Addr) (m : Str → Option Value) (nws : List (Addr × Obj)) (n : Nat) (P : Nat → Value → Prop) (fixed : List (Addr × Obj)) (I : Addr) (h' : Heap) (fp : List Addr) (St : Nat → Heap → Prop) : Prop extends ItF prog w A h₀ L m nws n P fixed I h' fp St where
  cls : ∀ i h o, St i h → h.get? I = some o → o.cls ≠ .type "tuple"
  go : ∀ (A : Around) (E : Value → Shared → Prop) (elts : List Expr) x1 (pos : Pos) i (s' : Shared) v (Q' : Unit → Shared → Prop), St i s'.heap → Q' () s' → wpAny (model prog w) A (letOwnedTupleGo (.Tuple elts x1 pos) (.ref I) v) Q' E s'
noncomputable def IterableG (prog : Program) (w : World) (A : Around) (h₀ : Heap) (L : Addr) (m : Str → Option Value) (xv : Value) (s₁ : Shared) (nws : List (Addr × Obj)) (n : Nat) (P : Nat → Value → Prop) (fixed : List (Addr × Obj)) : Prop :=
  ∀ (Q : Value → Shared → Prop) (E : Value → Shared → Prop), (∀ I h' fp St, ItG prog w A h₀ L m nws n P fixed I h' fp St → Q (.ref I) { s₁ with heap := h' }) → wpAny (model prog w) A (pyIter xv) Q E s₁
theorem go_of {o : Obj} {I : Addr} {elts : List Expr} {x1} {pos : Pos} {v : Value} {vs : Array Value} {ty : String} {Q' : Unit → Shared → Prop} (ho : s.heap.get? I = some o) (hc : o.cls = .type ty) (hd : o.data = .fields vs)
    (hn : ["enumerate", "zip", "dict_itemiterator", "dict_reverseitemiterator", "odict_iterator", "itertools.zip_longest", "itertools.pairwise"].contains ty = false) (hQ : Q' () s) :
    wpAny (model prog w) A (letOwnedTupleGo (.Tuple elts x1 pos) (.ref I) v) Q' E s := by
  unfold letOwnedTupleGo
  cases v <;> first | exact wpAny_pure hQ | skip
  refine wpAny_bind (wpAny_load ho ?_)
  rw [hc, hd]
  dsimp only
  rw [hn, Bool.false_and]
  exact wpAny_pure hQ
theorem iterG_B {ax : Addr} {us : List Value} {isT : Bool} {o : Obj} {nws : List (Addr × Obj)} {s₁ : Shared} (hh : A.handled = none) (F : Fr h₀ L s₁.heap m) (N : News h₀ L s₁.heap nws) (ho : (ax, o) ∈ nws) (S : SrcB ax us isT nws) :
    IterableG prog w A h₀ L m (.ref ax) s₁ nws us.length (fun i v => us[i]? = some v) [(ax, o)] := fun Q E k => by
  have hlt := srcB_lt N S
  refine pyIter_B F N S fun I h' hI hsize up st F' N' hpI hLI hI₀ => ?_
  have hne : ax ≠ I := by rw [hI]; exact Nat.ne_of_lt hlt
  refine k I h' _ _ ⟨⟨walks_B hh I ax us isT hne, fun i h st => iter_obj st, fun b hb => ?_, st, F', N', hLI, hI₀, hpI⟩, fun i h o st e => ?_, fun A E elts x1 pos i s' v Q' st hq => ?_⟩
  · rcases List.mem_cons.mp hb with rfl | hb
    · exact .inl rfl
    · rw [List.mem_singleton.mp hb]; exact .inr ⟨o, by simp⟩
  · cases isT with
    | true => obtain ⟨o', e', c, _⟩ := st.1; rw [e] at e'; cases e'; rw [c]; simp
    | false => obtain ⟨o', e', c, _⟩ := st.1; rw [e] at e'; cases e'; rw [c]; simp
  · cases isT with
    | true => obtain ⟨o', e', c, d⟩ := st.1; exact go_of e' c d (by decide) hq
    | false => obtain ⟨o', e', c, d⟩ := st.1; exact go_of e' c d (by decide) hq
theorem iterG_tup {ax : Addr} {us : List Value} {nws : List (Addr × Obj)} {s₁ : Shared} (hh : A.handled = none) (F : Fr h₀ L s₁.heap m) (N : News h₀ L s₁.heap nws) (ho : (ax, tupObj us) ∈ nws) :
    IterableG prog w A h₀ L m (.ref ax) s₁ nws us.length (fun i v => us[i]? = some v) [(ax, tupObj us)] := iterG_B hh F N ho (SrcB.tup ho)
theorem iterG_list {ax : Addr} {us : List Value} {c : Nat} {nws : List (Addr × Obj)} {s₁ : Shared} (hh : A.handled = none) (F : Fr h₀ L s₁.heap m) (N : News h₀ L s₁.heap nws) (ho : (ax, W.listOf us.toArray c) ∈ nws) :
    IterableG prog w A h₀ L m (.ref ax) s₁ nws us.length (fun i v => us[i]? = some v) [(ax, W.listOf us.toArray c)] := iterG_B hh F N ho (SrcB.list ho)
theorem iterG_range {r : Addr} {a b : Int} {t u v : Tok} {n : Nat} {nws : List (Addr × Obj)} {s₁ : Shared} (hh : A.handled = none) (F : Fr h₀ L s₁.heap m) (N : News h₀ L s₁.heap nws)
    (hr : IsRange s₁.heap r a b 1 t u v) (hsm : Builtin.Range.small a b 1 = true) (hn : Builtin.Range.rangeSize a b 1 = ((n : Nat) : Int)) :
    IterableG prog w A h₀ L m (.ref r) s₁ nws n (fun i v => ∃ t, v = .int (a + (i : Int)) t) [] := fun Q E k => by
  refine wpAny_pyIter_range hr hsm ?_
  refine k _ _ _ _ ⟨⟨range_walks hh a n, fun i h st => ⟨_, st⟩, fun b hb => .inl (List.mem_singleton.mp hb), by show IsRangeIter _ _ _ _ _; rw [hn]; simpa using Heap.get?_push_size _ rfl,
    F.keeps fun _ _ e => Heap.get?_push_of_some _ e, N.grown fun _ _ e => Heap.get?_push_of_some _ e, Nat.ne_of_lt F.ns.lt, next_is_new F, fun p hp => Nat.ne_of_lt (Heap.lt_size (N p hp).1)⟩, fun i h o st e => ?_, fun A E elts x1 pos i s' v Q' st hq => ?_⟩
  · have st' := (show IsRangeIter _ _ _ _ _ from st)
    unfold IsRangeIter at st'
    rw [e] at st'
    cases st'
    simp
  · exact go_of st rfl rfl (by decide) hq
inductive FoEndD {σ : Type} (h₀ : Heap) (L : Addr) (Led : σ → List (Addr × Obj)) (drOf : σ → Drawn) (ps : σ → List (Str × Value)) (stored : List Str) (m₀ : Str → Option Value) (Inv : σ → Prop) (I : Addr) (oI : Obj) (s₁ s₂ : Shared) : Prop
  | mk (c' : σ) (h' : Heap) (tk : Nat) (m' : Str → Option Value) (news' : List (Addr × Obj)) (e : s₂ = { s₁ with heap := h', toks := tk, drawn := drOf c' }) (F : Fr h₀ L h' m') (N : News h₀ L h' news') (hn : ∀ p ∈ Led c', p ∈ news') (hI : (I, oI) ∈ news') (off : ∀ p ∈ Led c', p.1 ≠ I) (hk : ∀ p ∈ ps c', m' p.1 = some p.2)
    (hr : ∀ z, (∀ p ∈ ps c', z ≠ p.1) → stored.contains z = false → m' z = m₀ z) (hp : Inv c') : FoEndD h₀ L Led drOf ps stored m₀ Inv I oI s₁ s₂
inductive LoopSt {σ : Type} (h₀ : Heap) (L : Addr) (Led : σ → List (Addr × Obj)) (drOf : σ → Drawn) (ps : σ → List (Str × Value)) (stored : List Str) (m₀ : Str → Option Value) (Inv : σ → Prop) (I : Addr) (s s' : Shared) : Prop
  | mk (c : σ) (h1 : Heap) (tk : Nat) (m₁ : Str → Option Value) (e : s' = { s with heap := h1, toks := tk, drawn := drOf c }) (F : Fr h₀ L h1 m₁) (N : News h₀ L h1 (Led c)) (off : ∀ p ∈ Led c, p.1 ≠ I) (k1 : ∀ p ∈ ps c, m₁ p.1 = some p.2) (k2 : ∀ z, (∀ p ∈ ps c, z ≠ p.1) → stored.contains z = false → m₁ z = m₀ z) (hc : Inv c) : LoopSt h₀ L Led drOf ps stored m₀ Inv I s s'
noncomputable def FoPostD {σ : Type} (h₀ : Heap) (L : Addr) (Led : σ → List (Addr × Obj)) (drOf : σ → Drawn) (ps : σ → List (Str × Value)) (stored : List Str) (m₀ : Str → Option Value) (Inv : σ → Prop) (I : Addr) (oI : Obj) (s₁ : Shared) (Q : Flow → Shared → Prop) (f : Flow) (s₂ : Shared) : Prop :=
  match f with
  | .ret v => Q (.ret v) s₂
  | .brk => Q .next s₂
  | _ => FoEndD h₀ L Led drOf ps stored m₀ Inv I oI s₁ s₂
theorem FoEndD.intro {σ : Type} {Led : σ → List (Addr × Obj)} {drOf : σ → Drawn} {ps : σ → List (Str × Value)} {stored : List Str} {m₀ m' : Str → Option Value} {Inv : σ → Prop} {I : Addr} {oI : Obj} {s₁ : Shared} {h' : Heap} {tk : Nat} {news' : List (Addr × Obj)} (c' : σ)
    (F : Fr h₀ L h' m') (N : News h₀ L h' news') (hn : ∀ p ∈ Led c', p ∈ news') (hI : (I, oI) ∈ news') (off : ∀ p ∈ Led c', p.1 ≠ I) (hk : ∀ p ∈ ps c', m' p.1 = some p.2) (hr : ∀ z, (∀ p ∈ ps c', z ≠ p.1) → stored.contains z = false → m' z = m₀ z) (hp : Inv c') :
    FoEndD h₀ L Led drOf ps stored m₀ Inv I oI s₁ { s₁ with heap := h', toks := tk, drawn := drOf c' } := ⟨c', h', tk, m', news', rfl, F, N, hn, hI, off, hk, hr, hp⟩
theorem FoEndD.put {σ : Type} {Led : σ → List (Addr × Obj)} {drOf : σ → Drawn} {ps : σ → List (Str × Value)} {stored : List Str} {m₀ m' : Str → Option Value} {Inv : σ → Prop} {I : Addr} {oI : Obj} {s₁ : Shared} {h' : Heap} {tk : Nat} {news' : List (Addr × Obj)} (c' : σ)
    (F : Fr h₀ L h' m') (N : News h₀ L h' news') (hn : ∀ p ∈ Led c', p ∈ news') (hI : (I, oI) ∈ news') (off : ∀ p ∈ Led c', p.1 ≠ I) (hk : Has m' (ps c')) (hr : Over (ps c') stored m' m₀) (hp : Inv c') :
    FoEndD h₀ L Led drOf ps stored m₀ Inv I oI s₁ { s₁ with heap := h', toks := tk, drawn := drOf c' } := ⟨c', h', tk, m', news', rfl, F, N, hn, hI, off, hk.all, hr, hp⟩
theorem kst_all_eq {ps : List (Str × Value)} {stored : List Str} {m₀ m₁ : Str → Option Value} (h1 : ∀ p ∈ ps, m₁ p.1 = some p.2) (h2 : ∀ z, (∀ p ∈ ps, z ≠ p.1) → stored.contains z = false → m₁ z = m₀ z) : m₁ = kstB (fun z => if stored.contains z then m₁ z else m₀ z) ps := by
  funext y
  symm
  refine kstB_eq h1 fun hn => ?_
  show (if stored.contains y = true then m₁ y else m₀ y) = m₁ y
  cases h3 : stored.contains y with
  | true => simp
  | false => simp only [Bool.false_eq_true, if_false]; exact (h2 y hn h3).symm
theorem for_T {σ : Type} {target : Expr} {body : List Stmt} {xv : Value} {n : Nat} {P : Nat → Value → Prop} {fixed : List (Addr × Obj)} {m₀ : Str → Option Value} {Q : Flow → Shared → Prop} (Led : σ → List (Addr × Obj)) (drOf : σ → Drawn) (ps : σ → List (Str × Value)) (stored : List Str) (Inv : Nat → σ → Prop) (c₀ : σ) (hd0 : drOf c₀ = s.drawn)
    (It : IterableG prog w A h₀ env.locals m₀ xv s (Led c₀) n P fixed) (hfix : ∀ i c, Inv i c → ∀ p ∈ fixed, p ∈ Led c) (hk : ∀ p ∈ ps c₀, m₀ p.1 = some p.2) (hp : Inv 0 c₀) (htg : (∃ elts x1 pos, target = .Tuple elts x1 pos) ∨ ∃ x pos, target = .Name x pos)
    (turn : ∀ (i : Nat) (v : Value) (c : σ) (u : Str → Option Value) h tk (I : Addr) oI, i < n → P i v → Inv i c → (∀ p ∈ Led c, p.1 ≠ I) → oI.cls ≠ .type "tuple" → Fr h₀ env.locals h (kstB (fun z => if stored.contains z then u z else m₀ z) (ps c)) →
      News h₀ env.locals h ((I, oI) :: Led c) → wpAny (model prog w) A (assign target env v) (fun _ s₂ => wpAny (model prog w) A (execs body env) (FoPostD h₀ env.locals Led drOf ps stored m₀ (Inv (i + 1)) I oI { s with heap := h, toks := tk, drawn := drOf c } Q) E s₂) E { s with heap := h, toks := tk, drawn := drOf c })
    (done : ∀ (c : σ) (u : Str → Option Value) h tk, Inv n c → Fr h₀ env.locals h (kstB (fun z => if stored.contains z then u z else m₀ z) (ps c)) → News h₀ env.locals h (Led c) → Q .next { s with heap := h, toks := tk, drawn := drOf c }) :
    wpAny (model prog w) A (pyIter xv) (fun it s₂ => LoopD prog w A env target body Q E it s₂) E s := by
  refine It _ _ fun I h' fp St X => ?_
  have hIf : I ∈ fp := X.W.sub I (List.mem_singleton.mpr rfl)
  have move : ∀ {h1 h2 : Heap} {m1 : Str → Option Value} {nw : List (Addr × Obj)}, Fr h₀ env.locals h1 m1 → News h₀ env.locals h1 nw → (∀ p ∈ nw, p.1 ≠ I) → (∀ b o, b ≠ I → h1.get? b = some o → h2.get? b = some o) → Fr h₀ env.locals h2 m1 ∧ News h₀ env.locals h2 nw := fun F N off hk =>
    ⟨⟨F.ns.at' fun o e => hk _ o X.hL e, fun b o e => hk b o (fun q => by rw [q, X.h0] at e; cases e) (F.keep b o e), F.above⟩, fun p hp => ⟨hk _ _ (off p hp) (N p hp).1, (N p hp).2⟩⟩
  refine ⟨I, fp, n, P, St, fun i s' => LoopSt h₀ env.locals Led drOf ps stored m₀ (Inv i) I s s', rfl, X.W, ?_, ?_, ?_, X.st, ⟨c₀, h', s.toks, m₀, by rw [hd0], X.F, X.N, X.off, hk, fun _ _ _ => rfl, hp⟩⟩
  · intro i s' v Q' st hq
    rcases htg with ⟨elts, x1, pos, rfl⟩ | ⟨x, pos, rfl⟩
    · exact X.go _ _ _ _ _ _ _ _ _ st hq
    · exact wpAny_pure hq
  · intro i v s0 h1 tk1 hi hP st0 P2 st1 hk1
    refine byC fun U0 => ?_
    obtain ⟨c, hh, tk, m₁, rfl, F₁, N₁, off, k1, k2, hc⟩ := P2
    refine U0 ?_
    clear U0
    refine byC fun U0 => ?_
    obtain ⟨F₂, N₂⟩ := move F₁ N₁ off hk1
    obtain ⟨oI, hoI⟩ := X.obj _ _ st1
    refine U0 ?_
    clear U0
    have em := kst_all_eq k1 k2
    have hcls := X.cls _ _ _ st1 hoI
    have NI : News h₀ env.locals h1 ((I, oI) :: Led c) := fun p hp => by
      rcases List.mem_cons.mp hp with rfl | hp
      · exact ⟨hoI, X.hL.symm, X.h0⟩
      · exact N₂ p hp
    refine wpAny_mono (turn i v c m₁ h1 tk1 I oI hi hP hc off hcls (em ▸ F₂) NI) (fun _ s₂ q => wpAny_mono q (fun f s₃ p => ?_) fun _ _ e => e) fun _ _ e => e
    have fin : FoEndD h₀ env.locals Led drOf ps stored m₀ (Inv (i + 1)) I oI { s with heap := h1, toks := tk1, drawn := drOf c } s₃ → St (i + 1) s₃.heap ∧ LoopSt h₀ env.locals Led drOf ps stored m₀ (Inv (i + 1)) I s s₃ := by
      intro P3
      refine byC fun U0 => ?_
      obtain ⟨c', h3, tk3, m', news', rfl, F', N', hn, hI', off', hk', hr', hp'⟩ := P3
      refine U0 ?_
      clear U0
      refine ⟨X.W.frame _ _ _ st1 fun b hb o e => ?_, ⟨c', h3, tk3, m', rfl, F', fun p hp => N' _ (hn p hp), off', hk', hr', hp'⟩⟩
      rcases X.fpc b hb with rfl | ⟨o', ho'⟩
      · rw [hoI] at e; cases e; exact (N' _ hI').1
      · have e2 := (N₂ _ (hfix _ _ hc _ ho')).1
        rw [e] at e2
        cases e2
        exact (N' _ (hn _ (hfix _ _ hp' _ ho'))).1
    cases f with
    | ret v => exact p
    | brk => exact p
    | next => exact fin p
    | cont => exact fin p
  · intro s0 h1 tk1 P4 hk1
    refine byC fun U0 => ?_
    obtain ⟨c, hh, tk, m₁, rfl, F₁, N₁, off, k1, k2, hc⟩ := P4
    refine U0 ?_
    clear U0
    obtain ⟨F₂, N₂⟩ := move F₁ N₁ off hk1
    exact done c m₁ h1 tk1 hc ((kst_all_eq k1 k2) ▸ F₂) N₂
theorem for_E {σ : Type} {x : Str} {px : Pos} {body : List Stmt} {xv : Value} {n : Nat} {P : Nat → Value → Prop} {fixed : List (Addr × Obj)} {m₀ : Str → Option Value} {Q : Flow → Shared → Prop} (Led : σ → List (Addr × Obj)) (drOf : σ → Drawn) (ps : σ → List (Str × Value)) (stored : List Str) (Inv : Nat → σ → Prop) (c₀ : σ) (hd0 : drOf c₀ = s.drawn)
    (hx : env.kindOf x = some .local) (hpl : (env.scope.kind == .class || (env.scope.kind == .module && env.locals != env.globals)) = false)
    (It : IterableG prog w A h₀ env.locals m₀ xv s (Led c₀) n P fixed) (hfix : ∀ i c, Inv i c → ∀ p ∈ fixed, p ∈ Led c) (hk : ∀ p ∈ ps c₀, m₀ p.1 = some p.2) (hp : Inv 0 c₀)
    (turn : ∀ (i : Nat) (v : Value) (c : σ) (u : Str → Option Value) h tk (I : Addr) oI, i < n → P i v → Inv i c → (∀ p ∈ Led c, p.1 ≠ I) → oI.cls ≠ .type "tuple" → Fr h₀ env.locals h (fun y => if y = x then some v else kstB (fun z => if stored.contains z then u z else m₀ z) (ps c) y) →
      News h₀ env.locals h ((I, oI) :: Led c) → wpAny (model prog w) A (execs body env) (FoPostD h₀ env.locals Led drOf ps stored m₀ (Inv (i + 1)) I oI { s with heap := h, toks := tk, drawn := drOf c } Q) E { s with heap := h, toks := tk, drawn := drOf c })
    (done : ∀ (c : σ) (u : Str → Option Value) h tk, Inv n c → Fr h₀ env.locals h (kstB (fun z => if stored.contains z then u z else m₀ z) (ps c)) → News h₀ env.locals h (Led c) → Q .next { s with heap := h, toks := tk, drawn := drOf c }) :
    wpAny (model prog w) A (pyIter xv) (fun it s₂ => LoopD prog w A env (.Name x px) body Q E it s₂) E s := by
  refine for_T Led drOf ps stored Inv c₀ hd0 It hfix hk hp (.inr ⟨_, _, rfl⟩) (fun i v c u h tk I oI hi hv hc off hcl F N => ?_) done
  refine wpAny_assign_Name (wpAny_storeName_local hx F.ns (fun h₂ hn₂ hs₂ => ?_) hpl)
  exact wpAny_mono (turn i v c u h₂ (tk + 1) I oI hi hv hc off hcl (F.set hn₂ hs₂) (N.set hs₂)) (fun f s₃ p => by
    cases f with
    | ret v => exact p
    | brk => exact p
    | next => obtain ⟨c', h3, tk3, m', news', rfl, r1, r2, r3, r4, r5, r6, r7, r8⟩ := p; exact ⟨c', h3, tk3, m', news', rfl, r1, r2, r3, r4, r5, r6, r7, r8⟩
    | cont => obtain ⟨c', h3, tk3, m', news', rfl, r1, r2, r3, r4, r5, r6, r7, r8⟩ := p; exact ⟨c', h3, tk3, m', news', rfl, r1, r2, r3, r4, r5, r6, r7, r8⟩) fun _ _ e => e
theorem for_F {σ : Type} {x : Str} {px : Pos} {body : List Stmt} {xv : Value} {n : Nat} {P : Nat → Value → Prop} {fixed : List (Addr × Obj)} {m₀ : Str → Option Value} {Q : Flow → Shared → Prop} (Led : σ → List (Addr × Obj)) (drOf : σ → Drawn) (Inv : Nat → σ → Prop) (c₀ : σ) (hd0 : drOf c₀ = s.drawn)
    (hx : env.kindOf x = some .local) (hpl : (env.scope.kind == .class || (env.scope.kind == .module && env.locals != env.globals)) = false)
    (It : IterableG prog w A h₀ env.locals m₀ xv s (Led c₀) n P fixed) (hfix : ∀ i c, Inv i c → ∀ p ∈ fixed, p ∈ Led c) (hp : Inv 0 c₀)
    (turn : ∀ (i : Nat) (v : Value) (c : σ) h tk (I : Addr) oI, i < n → P i v → Inv i c → (∀ p ∈ Led c, p.1 ≠ I) → oI.cls ≠ .type "tuple" → Fr h₀ env.locals h (fun y => if y = x then some v else m₀ y) →
      News h₀ env.locals h ((I, oI) :: Led c) → wpAny (model prog w) A (execs body env) (FoPostD h₀ env.locals Led drOf (fun _ => []) [x] m₀ (Inv (i + 1)) I oI { s with heap := h, toks := tk, drawn := drOf c } Q) E { s with heap := h, toks := tk, drawn := drOf c })
    (done : ∀ (c : σ) (u : Str → Option Value) h tk, Inv n c → Fr h₀ env.locals h (fun y => if y = x then u y else m₀ y) → News h₀ env.locals h (Led c) → Q .next { s with heap := h, toks := tk, drawn := drOf c }) :
    wpAny (model prog w) A (pyIter xv) (fun it s₂ => LoopD prog w A env (.Name x px) body Q E it s₂) E s := by
  have e1 : ∀ (u : Str → Option Value) z, kstB (fun z => if [x].contains z = true then u z else m₀ z) [] z = if z = x then u z else m₀ z := fun u z => by
    show (if [x].contains z = true then u z else m₀ z) = _
    by_cases e : z = x
    · subst e; simp
    · have : [x].contains z = false := by simpa using e
      rw [this, if_neg e]; simp
  refine for_E Led drOf (fun _ => []) [x] Inv c₀ hd0 hx hpl It hfix (fun p hp => nomatch hp) hp (fun i v c u h tk I oI hi hv hc off hcl F N => turn i v c h tk I oI hi hv hc off hcl ?_ N) fun c u h tk hc F N => done c u h tk hc ?_ N
  · have e : (fun y => if y = x then some v else kstB (fun z => if [x].contains z = true then u z else m₀ z) [] y) = fun y => if y = x then some v else m₀ y := by
      funext y
      by_cases e : y = x
      · rw [if_pos e, if_pos e]
      · rw [if_neg e, if_neg e, e1, if_neg e]
    exact e ▸ F
  · have e : kstB (fun z => if [x].contains z = true then u z else m₀ z) [] = fun y => if y = x then u y else m₀ y := funext (e1 u)
    exact e ▸ F
theorem fo_endF {σ : Type} {x : Str} {Led : σ → List (Addr × Obj)} {drOf : σ → Drawn} {m₀ m' : Str → Option Value} {Inv : σ → Prop} {I : Addr} {oI : Obj} {s₁ : Shared} {h' : Heap} {tk : Nat} {news' : List (Addr × Obj)} (c' : σ)
    (F : Fr h₀ L h' m') (N : News h₀ L h' news') (hn : ∀ p ∈ Led c', p ∈ news') (hI : (I, oI) ∈ news') (off : ∀ p ∈ Led c', p.1 ≠ I) (hr : ∀ z, z ≠ x → m' z = m₀ z) (hp : Inv c') :
    FoEndD h₀ L Led drOf (fun _ => []) [x] m₀ Inv I oI s₁ { s₁ with heap := h', toks := tk, drawn := drOf c' } :=
  FoEndD.intro c' F N hn hI off (fun p hp => nomatch hp) (fun z _ hz => hr z (fun e => by subst e; simp at hz)) hp
end
end Mine
end

section
open PySem PySem.W PySem.Calls PyProof.Rows PySem.Spec
set_option maxRecDepth 100000
namespace Mine
open SetTable
structure Tab (t : SetTable) (js : List Nat) : Prop where
  mask : t.mask = 7
  place : t.place = js.toArray
  dum : t.dummies = #[]
  le : ∀ j ∈ js, j ≤ 7
  up : js.Pairwise (· < ·)
theorem below_nil (j : Nat) : below #[] j = 0 := rfl
theorem below_one (a j : Nat) : below #[a] j = if a < j then 1 else 0 := by
  show below.go #[a] j 1 0 1 = _
  unfold below.go
  simp
  split
  · next h => simp [below.go]
  · next h => simp [below.go]
theorem slot_nil {t : SetTable} (T : Tab t []) (j : Nat) : t.slot j = .empty := by
  unfold SetTable.slot has
  rw [T.place, T.dum]
  simp [below_nil]
theorem slot_one {t : SetTable} {a : Nat} (T : Tab t [a]) (j : Nat) : t.slot j = if j = a then .live 0 else .empty := by
  unfold SetTable.slot has
  rw [T.place, T.dum]
  simp only [List.toArray, below_nil]
  rw [below_one]
  by_cases h : a < j
  · simp [h]
    intro e; lia
  · by_cases e : j = a
    · subst e; simp
    · have : ¬ a = j := fun q => e q.symm
      simp [h, e, this]
noncomputable def Esc (t : SetTable) (a : Nat) : Nat → Probe → Prop
  | 0, p => p.more = 0 ∧ p.i = p.j ∧ p.j < 8 ∧ p.dummy = none ∧ p.j ≠ a
  | n + 1, p => p.more = 0 ∧ p.i = p.j ∧ p.j < 8 ∧ p.dummy = none ∧ (p.j ≠ a ∨ Esc t a n (t.advance p))
theorem Esc.up {t : SetTable} {a : Nat} : ∀ {n : Nat} {p : Probe}, Esc t a n p → Esc t a (n + 1) p
  | 0, _, h => ⟨h.1, h.2.1, h.2.2.1, h.2.2.2.1, .inl h.2.2.2.2⟩
  | _ + 1, _, h => ⟨h.1, h.2.1, h.2.2.1, h.2.2.2.1, h.2.2.2.2.imp id Esc.up⟩
theorem adv_eq {t : SetTable} (hm : t.mask = 7) {p : Probe} (h : p.more = 0) : t.advance p = { p with j := (p.i * 5 + 1 + p.perturb / 32) % 8, more := 0, i := (p.i * 5 + 1 + p.perturb / 32) % 8, perturb := p.perturb / 32 } := by
  unfold advance leap runEnd
  rw [hm, h]
  have : ¬ ((p.i * 5 + 1 + p.perturb / 32) % (7 + 1) + 9 ≤ 7) := by lia
  simp [this]
theorem esc_of {t : SetTable} (hm : t.mask = 7) (a : Nat) : ∀ (n : Nat) (p : Probe), p.more = 0 → p.i = p.j → p.j < 8 → p.dummy = none → p.perturb < 32 ^ n → Esc t a (n + 1) p
  | 0, p, h1, h2, h3, h4, h5 => by
    refine ⟨h1, h2, h3, h4, ?_⟩
    by_cases e : p.j = a
    · right
      rw [adv_eq hm h1]
      have h0 : p.perturb = 0 := by simpa using h5
      refine ⟨rfl, rfl, ?_, h4, ?_⟩
      · simp only [h0]; lia
      · simp only [h0, h2]; lia
    · exact .inl e
  | n + 1, p, h1, h2, h3, h4, h5 => by
    refine ⟨h1, h2, h3, h4, .inr ?_⟩
    rw [adv_eq hm h1]
    refine esc_of hm a n _ rfl rfl (by show (_ % 8) < 8; lia) h4 ?_
    show p.perturb / 32 < 32 ^ n
    rw [Nat.pow_succ] at h5
    lia
theorem esc_start {t : SetTable} (hm : t.mask = 7) (a : Nat) (h : Int) : Esc t a 14 (t.probeStart h) := by
  refine esc_of hm a 13 _ ?_ rfl ?_ rfl ?_
  · show runEnd t.mask (bits h % (t.mask + 1)) - bits h % (t.mask + 1) = 0
    rw [hm]; unfold runEnd
    have : ¬ (bits h % (7 + 1) + 9 ≤ 7) := by lia
    simp [this]
  · show bits h % (t.mask + 1) < 8
    rw [hm]; lia
  · show bits h < 32 ^ 13
    have : bits h < 2 ^ 64 := by
      unfold bits
      have := Int.emod_lt_of_pos h (show (0 : Int) < 2 ^ 64 by decide)
      have := Int.emod_nonneg h (show (2 ^ 64 : Int) ≠ 0 by decide)
      lia
    exact Nat.lt_of_lt_of_le this (by decide)
theorem probe_nil {t : SetTable} (T : Tab t []) (hashAt : Nat → Int) (h : Int) : ∃ j, t.probe hashAt h (t.probeStart h) = some (.empty j none) ∧ j ≤ 7 := by
  refine byC fun U0 => ?_
  obtain ⟨_, _, h3, h4, _⟩ := esc_start T.mask 0 h
  refine U0 ?_
  clear U0
  refine ⟨(t.probeStart h).j, ?_, by lia⟩
  unfold SetTable.probe
  rw [T.mask]
  show probe.go t hashAt h (219 + 1) _ = _
  unfold probe.go
  rw [slot_nil T]
  simp [h4]
theorem go_one {t : SetTable} {a : Nat} (T : Tab t [a]) (hashAt : Nat → Int) (h : Int) : ∀ (n fuel : Nat) (p : Probe), n < fuel → Esc t a n p →
    (∃ j, probe.go t hashAt h fuel p = some (.empty j none) ∧ j ≤ 7 ∧ j ≠ a) ∨ (∃ next k, n = k + 1 ∧ hashAt 0 = h ∧ probe.go t hashAt h fuel p = some (.candidate a 0 next) ∧ Esc t a k next) := by
  intro n
  induction n with
  | zero =>
    intro fuel p hf e
    refine byC fun U0 => ?_
    obtain ⟨fuel, rfl⟩ : ∃ f, fuel = f + 1 := ⟨fuel - 1, by lia⟩
    obtain ⟨_, _, h3, h4, h5⟩ := e
    refine U0 ?_
    clear U0
    left
    refine ⟨p.j, ?_, by lia, h5⟩
    unfold probe.go
    rw [slot_one T, if_neg h5]
    simp [h4]
  | succ n ih =>
    intro fuel p hf e
    refine byC fun U0 => ?_
    obtain ⟨fuel, rfl⟩ : ∃ f, fuel = f + 1 := ⟨fuel - 1, by lia⟩
    obtain ⟨_, _, h3, h4, h5⟩ := e
    refine U0 ?_
    clear U0
    unfold probe.go
    rw [slot_one T]
    by_cases q : p.j = a
    · rw [if_pos q]
      have h6 := h5.resolve_left (fun z => z q)
      dsimp only
      by_cases hq : hashAt 0 = h
      · right
        refine ⟨t.advance p, n, rfl, hq, ?_, h6⟩
        simp [hq, q]
      · have : (hashAt 0 == h) = false := by simpa using hq
        rw [this]
        simp only [Bool.false_eq_true, if_false]
        rcases ih fuel (t.advance p) (by lia) h6 with x | ⟨next, k, e1, e2, e3, e4⟩
        · exact .inl x
        · exact absurd e2 hq
    · left
      rw [if_neg q]
      exact ⟨p.j, by simp [h4], by lia, q⟩
theorem probe_one {t : SetTable} {a : Nat} (T : Tab t [a]) (hashAt : Nat → Int) (h : Int) {n : Nat} {p : Probe} (hn : n ≤ 14) (e : Esc t a n p) :
    (∃ j, t.probe hashAt h p = some (.empty j none) ∧ j ≤ 7 ∧ j ≠ a) ∨ (∃ next k, n = k + 1 ∧ hashAt 0 = h ∧ t.probe hashAt h p = some (.candidate a 0 next) ∧ Esc t a k next) := by
  unfold SetTable.probe
  exact go_one T hashAt h n _ p (by rw [T.mask]; show n < 10 * (7 + 15); lia) e
theorem put_nil {t : SetTable} (T : Tab t []) {j : Nat} (hj : j ≤ 7) : (t.put j).2 = 0 ∧ Tab (t.put j).1 [j] ∧ (t.put j).1.led = t.led ∧ (t.put j).1.plain = t.plain ∧ (t.put j).1.moves = t.moves := by
  unfold SetTable.put
  rw [T.place, T.dum]
  refine ⟨rfl, ⟨T.mask, ?_, ?_, by simpa using hj, by simp⟩, rfl, rfl, rfl⟩
  · simp [below_nil, insertAt]
  · simp [has]
theorem put_one {t : SetTable} {a : Nat} (T : Tab t [a]) {j : Nat} (hj : j ≤ 7) (hne : j ≠ a) :
    (t.put j).2 = (if a < j then 1 else 0) ∧ Tab (t.put j).1 (if a < j then [a, j] else [j, a]) ∧ (t.put j).1.led = t.led ∧ (t.put j).1.plain = t.plain ∧ (t.put j).1.moves = t.moves := by
  have ha := T.le a (by simp)
  unfold SetTable.put
  rw [T.place, T.dum]
  simp only [List.toArray]
  rw [below_one]
  refine ⟨by first | rfl | trivial, ⟨T.mask, ?_, ?_, ?_, ?_⟩, by first | rfl | trivial, by first | rfl | trivial, by first | rfl | trivial⟩
  · by_cases h : a < j <;> simp [h, insertAt]
  · simp [has]
  · by_cases h : a < j <;> simp [h, ha, hj]
  · by_cases h : a < j
    · simp [h]
    · simp [h]; lia
end Mine
end

section
open PySem PySem.W PySem.Calls PyProof.Rows PySem.Spec
set_option maxRecDepth 100000
namespace Mine
section
variable {prog : Program} {w : World}
theorem K_aclass {h : Heap} : (∀ {n : Nat} {v : Value} {x : Dat}, KAt h n v x → ∀ {k : Nat} {A : Around} {E : Value → Shared → Prop} {s : Shared} {Q : Bool → Shared → Prop}, s.heap = h → n ≤ k → Q false s → wpAny (model prog w) A (ofAClassStatement k v) Q E s) ∧
    ∀ {n : Nat} {vs : List Value} {xs : List Dat}, KAll h n vs xs → ∀ {k : Nat} {A : Around} {E : Value → Shared → Prop} {s : Shared} {Q : Option Bool × Unit → Shared → Prop}, s.heap = h → n ≤ k → Q (none, ()) s →
    wpAny (model prog w) A (forIn vs (none, ()) fun y r => do let b ← ofAClassStatement k y; if b = true then (do pure PUnit.unit; pure (ForInStep.done (some true, ()))) else do pure PUnit.unit; pure (ForInStep.yield (none, ()))) Q E s := by
  refine KP.both (fun _ _ _ {k _ _ _ _} _ _ h => by cases k <;> exact wpAny_pure h) (fun _ _ _ _ {k _ _ _ _} _ _ h => by cases k <;> exact wpAny_pure h) (fun n a vs ds g ih {k A E s Q} e hk h => ?_) (fun _ {_ _ _ _ _} _ _ h => wpAny_pure h) (fun n v d vs ds a r {k A E s Q} e hk h => ?_)
  · subst e
    cases k with
    | zero => exact absurd hk (Nat.not_succ_le_zero _)
    | succ k =>
    have hT : s.TypeIs (.ref a) "tuple" := ⟨_, g, rfl⟩
    unfold ofAClassStatement
    refine wpAny_bind (wpAny_typeOf hT ?_)
    have e : (("tuple" : String) == "tuple") = true := by decide
    simp only [e, if_true]
    refine wpAny_bind (wpAny_pure ?_)
    simp only [Bool.not_true, Bool.false_eq_true, if_false]
    refine wpAny_bind (wpAny_seqItems g rfl ?_)
    refine wpAny_bind ?_
    refine (?_ : wpAny _ _ (forIn vs.toArray _ _) _ _ s)
    rw [← Array.forIn_toList]
    exact ih rfl (Nat.le_of_succ_le_succ hk) (wpAny_pure h)
  · rw [List.forIn_cons]
    refine wpAny_bind (wpAny_bind (a e hk ?_))
    simp only [Bool.false_eq_true, if_false]
    exact wpAny_pure (r e hk h)
theorem aclass_key {n k : Nat} {A : Around} {E : Value → Shared → Prop} {s : Shared} {v : Value} {x : Dat} {Q : Bool → Shared → Prop} (a : KAt s.heap n v x) (hk : n ≤ k) (h : Q false s) : wpAny (model prog w) A (ofAClassStatement k v) Q E s := K_aclass.1 a rfl hk h
theorem K_hbv {h : Heap} : (∀ {n : Nat} {v : Value} {x : Dat}, KAt h n v x → ∀ {k : Nat} {A : Around} {E : Value → Shared → Prop} {s : Shared} {Q : Bool → Shared → Prop}, s.heap = h → n ≤ k → (∀ b, Q b s) → wpAny (model prog w) A (hashByValue k v) Q E s) ∧
    ∀ {n : Nat} {vs : List Value} {xs : List Dat}, KAll h n vs xs → ∀ {k : Nat} {A : Around} {E : Value → Shared → Prop} {s : Shared} {Q : Option Bool × Unit → Shared → Prop}, s.heap = h → n ≤ k → Q (none, ()) s → Q (some false, ()) s →
    wpAny (model prog w) A (forIn vs (none, ()) fun y r => do let b ← hashByValue k y; if (!b) = true then (do pure PUnit.unit; pure (ForInStep.done (some false, ()))) else do pure PUnit.unit; pure (ForInStep.yield (none, ()))) Q E s := by
  refine KP.both (fun _ _ _ {k _ _ _ _} _ _ h => by cases k <;> exact wpAny_pure (h _)) (fun _ _ _ _ {k _ _ _ _} _ _ h => by cases k <;> exact wpAny_pure (h _)) (fun n a vs ds g ih {k A E s Q} e hk h => ?_) (fun _ {_ _ _ _ _} _ _ h _ => wpAny_pure h) (fun n v d vs ds a r {k A E s Q} e hk h h' => ?_)
  · subst e
    cases k with
    | zero => exact absurd hk (Nat.not_succ_le_zero _)
    | succ k =>
    have hT : s.TypeIs (.ref a) "tuple" := ⟨_, g, rfl⟩
    unfold hashByValue
    refine wpAny_bind (wpAny_specialOf hT F.slot_tuple_hash.lookup ?_)
    dsimp only
    refine wpAny_bind (wpAny_seqItems g rfl ?_)
    refine wpAny_bind ?_
    refine (?_ : wpAny _ _ (forIn vs.toArray _ _) _ _ s)
    rw [← Array.forIn_toList]
    exact ih rfl (Nat.le_of_succ_le_succ hk) (wpAny_pure (h _)) (wpAny_pure (h _))
  · rw [List.forIn_cons]
    refine wpAny_bind (wpAny_bind (a e hk fun b => ?_))
    cases b with
    | true =>
      simp only [Bool.not_true, Bool.false_eq_true, if_false]
      exact wpAny_pure (r e hk h h')
    | false =>
      simp only [Bool.not_false, if_true]
      exact wpAny_pure (wpAny_pure h')
theorem hbv_key {n k : Nat} {A : Around} {E : Value → Shared → Prop} {s : Shared} {v : Value} {x : Dat} {Q : Bool → Shared → Prop} (a : KAt s.heap n v x) (hk : n ≤ k) (h : ∀ b, Q b s) : wpAny (model prog w) A (hashByValue k v) Q E s := K_hbv.1 a rfl hk h
theorem could_key {n : Nat} {A : Around} {E : Value → Shared → Prop} {s : Shared} {x y : Value} {dx dy : Dat} {Q : Bool → Shared → Prop} (hn : n ≤ 8) (hx : KAt s.heap n x dx) (hy : KAt s.heap n y dy) (h : Q false s) :
    wpAny (model prog w) A (searchCouldBeSeen x [y]) Q E s := by
  unfold searchCouldBeSeen
  refine wpAny_bind ?_
  rw [List.forIn_cons]
  refine wpAny_bind ?_
  split <;>
  · refine wpAny_ite_split (fun _ => wpAny_pure (wpAny_pure (wpAny_pure h))) (fun _ => ?_)
    refine wpAny_bind (quiet_key hx hn ?_)
    simp only [Bool.not_true, Bool.false_eq_true, if_false]
    refine wpAny_bind (quiet_key hy hn ?_)
    simp only [Bool.not_true, Bool.false_eq_true, if_false]
    refine wpAny_bind (aclass_key hx hn ?_)
    simp only [Bool.false_eq_true, if_false]
    refine wpAny_bind (aclass_key hy hn ?_)
    simp only [Bool.false_eq_true, if_false]
    exact wpAny_pure (wpAny_pure (wpAny_pure h))
theorem could_nil {A : Around} {E : Value → Shared → Prop} {s : Shared} {x : Value} {Q : Bool → Shared → Prop} (h : Q false s) :
    wpAny (model prog w) A (searchCouldBeSeen x []) Q E s := by
  unfold searchCouldBeSeen
  exact wpAny_bind (wpAny_pure (wpAny_pure h))
end
end Mine
end

section
open PySem PySem.W PySem.Calls PyProof.Rows PySem.Spec
set_option maxRecDepth 100000
namespace Mine
open SetTable
noncomputable def SetIs (w : World) (pl : Bool) (o : Obj) (es : List (Int × Value)) : Prop :=
  ∃ ep t js, o = { cls := .type "set", dict := none, data := .set es.toArray ep t } ∧ Tab t js ∧ js.length = es.length ∧ es.length ≤ 2 ∧ t.led = (!w.params.followText "set-order") ∧ (pl = true → t.plain = true)
theorem Tab.fits {t : SetTable} {js : List Nat} (T : Tab t js) {n : Nat} (e : js.length = n) (h : n ≤ 7) : t.fits n = true := by
  simp [SetTable.fits, SetTable.fill, T.place, T.dum, T.mask, e, h]
theorem Tab.notFull {t : SetTable} {js : List Nat} (T : Tab t js) (h : js.length ≤ 2) : t.tooFull = false := by
  simp [SetTable.tooFull, SetTable.fill, T.place, T.dum, T.mask]; lia
theorem lay_tail {t : SetTable} {js : List Nat} (T : Tab t js) {es : List (Int × Value)} (hl : js.length = es.length) (h1 : es.length ≤ 1) {j : Nat} (hj : j ≤ 7) (hn : j ∉ js) (e : Int × Value) :
    ∃ (js' : List Nat) (es' : List (Int × Value)), insertAt es.toArray (t.put j).2 e = es'.toArray ∧ es'.Perm (e :: es) ∧ Tab (t.put j).1 js' ∧ js'.length = es'.length ∧ es'.length ≤ 2 ∧ (t.put j).1.led = t.led ∧ (t.put j).1.plain = t.plain ∧ (t.put j).1.tooFull = false ∧ (t.put j).1.fits es'.length = true := by
  match js, es, hl, h1 with
  | [], [], _, _ =>
    refine byC fun U0 => ?_
    obtain ⟨a, b, c, d, _⟩ := put_nil T hj
    refine U0 ?_
    clear U0
    refine ⟨[j], [e], ?_, List.Perm.refl _, b, rfl, by simp, c, d, b.notFull (by simp), b.fits rfl (by simp)⟩
    rw [a]; simp [insertAt]
  | [k], [f], _, _ =>
    have hne : j ≠ k := by simpa using hn
    refine byC fun U0 => ?_
    obtain ⟨a, b, c, d, _⟩ := put_one T hj hne
    refine U0 ?_
    clear U0
    by_cases q : k < j
    · rw [if_pos q] at a b
      refine ⟨_, [f, e], ?_, List.Perm.swap _ _ _, b, rfl, by simp, c, d, b.notFull (by simp), b.fits rfl (by simp)⟩
      rw [a]; simp [insertAt]
    · rw [if_neg q] at a b
      refine ⟨_, [e, f], ?_, List.Perm.refl _, b, rfl, by simp, c, d, b.notFull (by simp), b.fits rfl (by simp)⟩
      rw [a]; simp [insertAt]
  | [], _ :: _, hl, _ => simp at hl
  | _ :: _, [], hl, _ => simp at hl
  | _ :: _ :: _, [_], hl, _ => simp at hl
  | [_], _ :: _ :: _, hl, _ => simp at hl
  | _ :: _ :: _, _ :: _ :: _, _, h => simp at h
section
variable {prog : Program} {w : World} {A : Around} {E : Value → Shared → Prop} {s : Shared} {S : Addr} {o : Obj} {es : List (Int × Value)}
theorem setState_is {ep : Nat} {t : SetTable} {js : List Nat} {Q : (Array (Int × Value) × Nat × SetTable) → Shared → Prop} (ho : s.heap.get? S = some { cls := .type "set", dict := none, data := .set es.toArray ep t })
    (T : Tab t js) (hl : js.length = es.length) (h2 : es.length ≤ 2) (h : Q (es.toArray, ep, t) s) : wpAny (model prog w) A (setState S) Q E s :=
  wpAny_setState_of ho rfl (by rw [List.size_toArray]; exact T.fits hl (by lia)) h
theorem store_is {pl : Bool} {ep : Nat} {t t' : SetTable} {js' : List Nat} {es' : List (Int × Value)} {Q : Unit → Shared → Prop} (ho : s.heap.get? S = some { cls := .type "set", dict := none, data := .set es.toArray ep t })
    (T : Tab t' js') (hl : js'.length = es'.length) (h2 : es'.length ≤ 2) (hled : t'.led = !w.params.followText "set-order") (hpl : pl = true → t'.plain = true)
    (h : ∀ o' h', SetIs w pl o' es' → Heap.SameBut S s.heap h' → h'.get? S = some o' → Q () { s with heap := h' }) : wpAny (model prog w) A (storeSet S es'.toArray t') Q E s := by
  refine wpAny_storeSet_of ho rfl ?_ (by rw [List.size_toArray, sizeLine_eq]; lia)
  have hg : (s.heap.update S (Obj.putSet es'.toArray t')).get? S = some { cls := .type "set", dict := none, data := .set es'.toArray (ep + 1) t' } := by
    have := Heap.get?_update_self (Obj.putSet es'.toArray t') ho (by rw [putSet_of _ _ rfl]; rfl)
    rw [putSet_of _ _ rfl] at this; exact this
  exact h _ _ ⟨_, _, _, rfl, T, hl, h2, hled, hpl⟩ (Heap.SameBut.update s.heap S _) hg
theorem search_one {a b : Addr} {t : SetTable} {j0 ep : Nat} {hash h1 : Int} {d d1 : Dat} {Q : SetFound → Shared → Prop} (ho : s.heap.get? S = some { cls := .type "set", dict := none, data := .set [(h1, Value.ref b)].toArray ep t })
    (T : Tab t [j0]) (hx : KAt s.heap 7 (.ref a) d) (hy : KAt s.heap 7 (.ref b) d1) (hu : A.units + 16 < cLine)
    (found : Q (.there none) s) (free : ∀ j, j ≤ 7 → j ≠ j0 → Q (.free j false) s) : ∀ (n fuel : Nat) (p : Option Probe), n ≤ 14 → n < fuel → Esc t j0 n (p.getD (t.probeStart hash)) →
    wpAny (model prog w) A (setSearchFrom S (.ref a) hash true fuel p) Q E s := by
  have st : ∀ {Q : (Array (Int × Value) × Nat × SetTable) → Shared → Prop}, Q ([(h1, Value.ref b)].toArray, ep, t) s → wpAny (model prog w) A (setState S) Q E s := fun h => setState_is ho T rfl (by simp) h
  intro n
  induction n with
  | zero =>
    intro fuel p h14 hf e
    refine byC fun U0 => ?_
    obtain ⟨fuel, rfl⟩ : ∃ f, fuel = f + 1 := ⟨fuel - 1, by lia⟩
    refine U0 ?_
    clear U0
    unfold setSearchFrom
    refine wpAny_bind (st ?_)
    have hg : t.gaveWay = false := by simp [SetTable.gaveWay, T.mask]
    dsimp only
    rw [hg]
    simp only [Bool.false_eq_true, if_false]
    rcases probe_one T _ hash h14 e with ⟨j, e1, hj, hne⟩ | ⟨_, k, hk, _⟩
    · rw [e1]
      exact wpAny_pure (free j hj hne)
    · exact absurd hk (by lia)
  | succ n ih =>
    intro fuel p h14 hf e
    refine byC fun U0 => ?_
    obtain ⟨fuel, rfl⟩ : ∃ f, fuel = f + 1 := ⟨fuel - 1, by lia⟩
    refine U0 ?_
    clear U0
    unfold setSearchFrom
    refine wpAny_bind (st ?_)
    have hg : t.gaveWay = false := by simp [SetTable.gaveWay, T.mask]
    dsimp only
    rw [hg]
    simp only [Bool.false_eq_true, if_false]
    rcases probe_one T _ hash h14 e with ⟨j, e1, hj, hne⟩ | ⟨next, k, hk, _, e1, e2⟩
    · rw [e1]
      exact wpAny_pure (free j hj hne)
    · have hk' : n = k := by lia
      subst hk'
      rw [e1]
      dsimp only
      have cs : ∀ {Q : Bool → Shared → Prop}, Q false s → wpAny (model prog w) A (searchCouldBeSeen (Value.ref a) ((([(h1, Value.ref b)].toArray.filter (fun x => x.1 == hash)).toList).map (fun x => x.2))) Q E s := by
        intro Q hq
        by_cases z : (h1 == hash) = true
        · have e : ((([(h1, Value.ref b)].toArray.filter (fun x => x.1 == hash)).toList).map (fun x => x.2)) = [Value.ref b] := by simp [z]
          rw [e]
          exact could_key (by lia) hx hy hq
        · have e : ((([(h1, Value.ref b)].toArray.filter (fun x => x.1 == hash)).toList).map (fun x => x.2)) = [] := by simp [z]
          rw [e]
          exact could_nil hq
      have same : ∀ {Q' : Bool → Shared → Prop}, Q' true s → wpAny (model prog w) A (isSame (Value.ref b) (Value.ref b)) Q' E s := by
        intro Q' hq
        unfold isSame
        simp only [beq_self_eq_true, if_true]
        exact wpAny_pure hq
      have sl : t.slot j0 = .live 0 := by rw [slot_one T, if_pos rfl]
      have sm : t.sameMemory t.moves t.mask = some true := by simp [SetTable.sameMemory]
      have tailW : ∀ equal : Bool, (equal = true → Q (.there none) s) → wpAny (model prog w) A (setState S >>= fun __x =>
          if (true && equal) = true then pure (SetFound.there none)
          else match __x.2.snd.sameMemory t.moves t.mask with
          | some same =>
            match if same = true then __x.2.snd.slot j0 else Slot.empty with
            | Slot.live i' =>
              match __x.fst[i']? with
              | some (_, y') => do
                let __do_lift ← isSame y' (Value.ref b)
                let still ← pure (if __do_lift = true then some i' else none)
                match still with
                  | none => do
                    rule "set.search.anew"
                    setSearchFrom S (Value.ref a) hash true fuel none
                  | some i' =>
                    if equal = true then pure (SetFound.there (some i'))
                    else setSearchFrom S (Value.ref a) hash true fuel (some next)
              | none => do
                let still ← pure none
                match still with
                  | none => do
                    rule "set.search.anew"
                    setSearchFrom S (Value.ref a) hash true fuel none
                  | some i' =>
                    if equal = true then pure (SetFound.there (some i'))
                    else setSearchFrom S (Value.ref a) hash true fuel (some next)
            | _ => do
              let still ← pure none
              match still with
                | none => do
                  rule "set.search.anew"
                  setSearchFrom S (Value.ref a) hash true fuel none
                | some i' =>
                  if equal = true then pure (SetFound.there (some i'))
                  else setSearchFrom S (Value.ref a) hash true fuel (some next)
          | _ => unsupported "set.changed-during-lookup:is-the-new-block-at-the-old-address") Q E s := by
        intro equal he
        refine wpAny_bind (st ?_)
        cases equal with
        | true => exact wpAny_pure (he rfl)
        | false =>
          simp only [Bool.and_false, Bool.false_eq_true, if_false]
          rw [sm]
          dsimp only
          simp only [if_true]
          rw [sl]
          dsimp only
          have e0 : [(h1, Value.ref b)].toArray[0]? = some (h1, Value.ref b) := rfl
          rw [e0]
          dsimp only
          refine wpAny_bind (same ?_)
          simp only [if_true]
          refine wpAny_bind (wpAny_pure ?_)
          dsimp only
          exact ih fuel (some next) (by lia) (by lia) e2
      have tail2 : wpAny (model prog w) A (holding [Value.ref b] (eqBool (Value.ref b) (Value.ref a))) (fun equal s' => (equal = true → Q (.there none) s) ∧ s' = s) E s :=
        wpAny_holding (eqBool_key hu (by lia) (by lia) hy hx fun z _ => ⟨fun _ => found, rfl⟩)
      have hm0 : [(h1, Value.ref b)].toArray[0]? = some (h1, Value.ref b) := rfl
      refine wpAny_ite_split (fun _ => ?_) (fun _ => ?_)
      · refine wpAny_bind (cs ?_)
        simp only [Bool.false_eq_true, if_false]
        rw [hm0]
        dsimp only
        refine wpAny_bind (wpAny_mono tail2 (fun equal s' hq => ?_) fun _ _ x => x)
        refine byC fun U0 => ?_
        obtain ⟨hq, rfl⟩ := hq
        refine U0 ?_
        clear U0
        exact tailW equal hq
      · rw [hm0]
        dsimp only
        refine wpAny_bind (wpAny_mono tail2 (fun equal s' hq => ?_) fun _ _ x => x)
        refine byC fun U0 => ?_
        obtain ⟨hq, rfl⟩ := hq
        refine U0 ?_
        clear U0
        exact tailW equal hq
end
end Mine
end

section
open PySem PySem.W PySem.Calls PyProof.Rows PySem.Spec
set_option maxRecDepth 100000
namespace Mine
open SetTable
section
variable {prog : Program} {w : World} {A : Around} {E : Value → Shared → Prop} {s : Shared} {S : Addr} {o : Obj} {es : List (Int × Value)}
theorem search_nil {a : Addr} {t : SetTable} {ep : Nat} {hash : Int} {Q : SetFound → Shared → Prop} (ho : s.heap.get? S = some { cls := .type "set", dict := none, data := .set ([] : List (Int × Value)).toArray ep t })
    (T : Tab t []) (free : ∀ j, j ≤ 7 → Q (.free j false) s) (fuel : Nat) (hf : 0 < fuel) :
    wpAny (model prog w) A (setSearchFrom S (.ref a) hash true fuel none) Q E s := by
  obtain ⟨fuel, rfl⟩ : ∃ f, fuel = f + 1 := ⟨fuel - 1, by lia⟩
  unfold setSearchFrom
  refine wpAny_bind (setState_is ho T rfl (by simp) ?_)
  have hg : t.gaveWay = false := by simp [SetTable.gaveWay, T.mask]
  dsimp only
  rw [hg]
  simp only [Bool.false_eq_true, if_false]
  obtain ⟨j, e1, hj⟩ := probe_nil T _ hash
  rw [show (none : Option Probe).getD (t.probeStart hash) = t.probeStart hash from rfl, e1]
  exact wpAny_pure (free j hj)
theorem Tab.unplain {t : SetTable} {js : List Nat} (T : Tab t js) : Tab { t with plain := false } js := ⟨T.mask, T.place, T.dum, T.le, T.up⟩
theorem place_is {x : Value} {hash : Int} {ep n : Nat} {t t2 : SetTable} {js' : List Nat} {es' : List (Int × Value)} {Q : Bool → Shared → Prop} (ho : s.heap.get? S = some { cls := .type "set", dict := none, data := .set es.toArray ep t })
    (T : Tab t2 js') (hl : js'.length = es'.length) (h2 : es'.length ≤ 2) (hled : t2.led = !w.params.followText "set-order") (hp : es'.Perm ((hash, x) :: es))
    (added : ∀ o' es' h', SetIs w false o' es' → es'.Perm ((hash, x) :: es) → Heap.SameBut S s.heap h' → h'.get? S = some o' → Q true { s with heap := h' }) :
    wpAny (model prog w) A (storeSet S es'.toArray t2 >>= fun _ => if (!false && t2.tooFull) = true then (setRelay S n >>= fun _ => pure true) else pure true) Q E s := by
  refine wpAny_bind (store_is (pl := false) ho T hl h2 hled (fun z => nomatch z) fun o' h' a b c => ?_)
  rw [T.notFull (by lia)]
  exact wpAny_pure (added o' es' h' a hp b c)
theorem add_ref {a : Addr} {hash : Int} {d : Dat} {Q : Bool → Shared → Prop} (ho : s.heap.get? S = some o) (hS : SetIs w false o es) (h1 : es.length ≤ 1) (hel : ∀ e ∈ es, ∃ b d, e.2 = .ref b ∧ KAt s.heap 7 (.ref b) d)
    (hx : KAt s.heap 7 (.ref a) d) (hu : A.units + 16 < cLine) (found : Q false s)
    (added : ∀ o' es' h', SetIs w false o' es' → es'.Perm ((hash, .ref a) :: es) → Heap.SameBut S s.heap h' → h'.get? S = some o' → Q true { s with heap := h' }) :
    wpAny (model prog w) A (setAddHashed S (.ref a) hash) Q E s := by
  obtain ⟨ep, t, js, rfl, T, hl, h2, hled, -⟩ := hS
  unfold setAddHashed setAddHashedIn
  refine wpAny_holding (wpAny_bind (setState_is ho T hl h2 ?_))
  dsimp only
  have hb : byScan (.ref a) es.toArray = false := rfl
  rw [hb]
  simp only [Bool.false_eq_true, if_false]
  have go : ∀ j, j ≤ 7 → j ∉ js → wpAny (model prog w) A (do
      let __x ← setState S
      if (__x.2.snd.put j).fst.plain = true then do
          let byValue ← hashByValue 8 (Value.ref a)
          storeSet S (insertAt __x.fst (__x.2.snd.put j).snd (hash, Value.ref a)) (if byValue = true then (__x.2.snd.put j).fst else { (__x.2.snd.put j).fst with plain := false })
          if (!false && (if byValue = true then (__x.2.snd.put j).fst else { (__x.2.snd.put j).fst with plain := false }).tooFull) = true then do
              setRelay S (grown (__x.fst.size + 1))
              pure true
            else pure true
        else do
          let byValue ← pure true
          storeSet S (insertAt __x.fst (__x.2.snd.put j).snd (hash, Value.ref a)) (if byValue = true then (__x.2.snd.put j).fst else { (__x.2.snd.put j).fst with plain := false })
          if (!false && (if byValue = true then (__x.2.snd.put j).fst else { (__x.2.snd.put j).fst with plain := false }).tooFull) = true then do
              setRelay S (grown (__x.fst.size + 1))
              pure true
            else pure true) Q E s := by
    intro j hj hn
    obtain ⟨js', es', e1, e2, T', e3, e4, e5, e6, e7, e8⟩ := lay_tail T hl h1 hj hn (hash, Value.ref a)
    refine wpAny_bind (setState_is ho T hl h2 ?_)
    dsimp only
    rw [e1]
    refine wpAny_ite_split (fun _ => ?_) (fun _ => ?_)
    · refine wpAny_bind (hbv_key hx (by lia) fun b => ?_)
      cases b with
      | true => exact place_is ho T' e3 e4 (e5.trans hled) e2 added
      | false => exact place_is ho T'.unplain e3 e4 (e5.trans hled) e2 added
    · refine wpAny_bind (wpAny_pure ?_)
      exact place_is ho T' e3 e4 (e5.trans hled) e2 added
  unfold setSearch
  match js, es, hl, h1 with
  | [], [], _, _ =>
    refine wpAny_bind (search_nil ho T (fun j hj => ?_) 100000 (by decide))
    exact go j hj (by simp)
  | [k], [f], _, _ =>
    obtain ⟨b, d1, e1, kf⟩ := hel f (by simp)
    obtain ⟨f1, f2⟩ := f
    dsimp only at e1
    subst e1
    refine wpAny_bind (search_one ho T hx kf hu (wpAny_pure found) (fun j hj hne => ?_) 14 100000 none (by lia) (by decide) (esc_start T.mask k hash))
    exact go j hj (by simpa using hne)
  | [], _ :: _, hl, _ => simp at hl
  | _ :: _, [], hl, _ => simp at hl
  | _ :: _ :: _, [_], hl, _ => simp at hl
  | [_], _ :: _ :: _, hl, _ => simp at hl
  | _ :: _ :: _, _ :: _ :: _, _, h => simp at h
end
end Mine
end

section
open PySem PySem.W PySem.Calls PyProof.Rows PySem.Spec
set_option maxRecDepth 100000
namespace Mine
open SetTable
theorem freeSlot_is {t : SetTable} {js : List Nat} (T : Tab t js) (h1 : js.length ≤ 1) (h : Int) : ∃ j, t.freeSlot h = some (j, false) ∧ j ≤ 7 ∧ j ∉ js := by
  unfold SetTable.freeSlot
  match js, h1 with
  | [], _ =>
    refine byC fun U0 => ?_
    obtain ⟨j, e, hj⟩ := probe_nil T (fun _ => h + 1) h
    refine U0 ?_
    clear U0
    exact ⟨j, by rw [e]; rfl, hj, by simp⟩
  | [k], _ =>
    rcases probe_one T (fun _ => h + 1) h (Nat.le_refl 14) (esc_start T.mask k h) with ⟨j, e, hj, hne⟩ | ⟨_, _, _, e, _⟩
    · exact ⟨j, by rw [e]; rfl, hj, by simpa using hne⟩
    · lia
section
variable {prog : Program} {w : World} {A : Around} {E : Value → Shared → Prop} {s : Shared} {S : Addr} {o : Obj} {es : List (Int × Value)}
noncomputable def IntEl (e : Int × Value) : Prop := ∃ (i : Int) (t : Tok), e = (hashInt i, Value.int i t)
theorem all_int : ∀ {es : List (Int × Value)}, (∀ e ∈ es, IntEl e) → es.toArray.all (fun x => x.2.scannable) = true := by
  intro es h
  rw [← Array.all_toList, List.all_eq_true]
  intro e he
  refine byC fun U0 => ?_
  obtain ⟨i, t, rfl⟩ := h e he
  refine U0 ?_
  clear U0
  rfl
theorem layN_is {t : SetTable} {js : List Nat} (T : Tab t js) (hl : js.length = es.length) (h1 : es.length ≤ 1) (h : Int) (x : Value) :
    ∃ (js' : List Nat) (es' : List (Int × Value)) (t' : SetTable), layNew t es.toArray h x = (es'.toArray, t', false, false) ∧ es'.Perm ((h, x) :: es) ∧ Tab t' js' ∧ js'.length = es'.length ∧ es'.length ≤ 2 ∧ t'.led = t.led ∧ t'.plain = t.plain := by
  refine byC fun U0 => ?_
  obtain ⟨j, e0, hj, hn⟩ := freeSlot_is T (by lia) h
  obtain ⟨js', es', e1, e2, T', e3, e4, e5, e6, e7, e8⟩ := lay_tail T hl h1 hj hn (h, x)
  refine U0 ?_
  clear U0
  refine ⟨js', es', (t.put j).1, ?_, e2, T', e3, e4, e5, e6⟩
  unfold layNew
  rw [e0]
  dsimp only
  rw [e1]
  simp only [List.size_toArray]
  have : (t.put j).1.orStandIn es'.length = (t.put j).1 := by unfold SetTable.orStandIn; rw [if_pos e8]
  rw [this, e8]
  rfl
theorem scan_int {k : Int} {tk : Tok} {h : Int} {ep : Nat} {t : SetTable} {js : List Nat} {es0 : List (Int × Value)} (hu : A.units + 16 < cLine) (ho : s.heap.get? S = some { cls := .type "set", dict := none, data := .set es0.toArray ep t }) (T : Tab t js) (hl : js.length = es0.length) (h2 : es0.length ≤ 2) {Q : ScanMet → Shared → Prop} :
    ∀ (es : List (Int × Value)) (i : Nat), (∀ e ∈ es, IntEl e) → h = hashInt k → (∀ i t, (hashInt k, Value.int k t) ∈ es → Q (.found i) s) → ((∀ t, (hashInt k, Value.int k t) ∉ es) → Q .absent s) →
    wpAny (model prog w) A (setScanFrom S (.int k tk) h true es i) Q E s
  | [], i, _, _, _, h4 => wpAny_pure (h4 (by simp))
  | e :: r, i, hel, hh, h3, h4 => by
    refine byC fun U0 => ?_
    obtain ⟨n, t1, rfl⟩ := hel e (by simp)
    refine U0 ?_
    clear U0
    unfold setScanFrom
    have rest : n ≠ k → wpAny (model prog w) A (setScanFrom S (.int k tk) h true r (i + 1)) Q E s := fun hne =>
      scan_int hu ho T hl h2 r (i + 1) (fun e he => hel e (List.mem_cons_of_mem _ he)) hh (fun i t hm => h3 i t (List.mem_cons_of_mem _ hm)) (fun hn => h4 fun t hm => by
        rcases List.mem_cons.mp hm with q | q
        · injection q with q1 q2
          injection q2 with q3 q4
          exact hne q3.symm
        · exact hn t q)
    refine wpAny_ite_split (fun hq => ?_) (fun hq => ?_)
    · refine wpAny_bind (wpAny_setEpoch_of ho rfl (by rw [List.size_toArray]; exact T.fits hl (by lia)) ?_)
      refine wpAny_bind (eqBool_key (n := 7) (k := 7) hu (by lia) (by lia) (.int n t1) (.int k tk) fun z hz => ?_)
      cases z with
      | true =>
        have e1 := hz.mp rfl
        injection e1 with e1
        subst e1
        exact wpAny_pure (h3 i t1 (by simp))
      | false =>
        have hne : n ≠ k := fun e => by have := hz.mpr (by rw [e]); cases this
        simp only [Bool.and_false, Bool.false_eq_true, if_false]
        refine wpAny_bind (wpAny_setEpoch_of ho rfl (by rw [List.size_toArray]; exact T.fits hl (by lia)) ?_)
        simp only [bne_self_eq_false, Bool.false_eq_true, if_false]
        exact rest hne
    · exact rest fun e => by subst e; exact hq (by simp [hh])
theorem add_int {k : Int} {tk : Tok} {Q : Bool → Shared → Prop} (ho : s.heap.get? S = some o) (hS : SetIs w true o es) (h1 : es.length ≤ 1) (hel : ∀ e ∈ es, IntEl e)
    (hu : A.units + 16 < cLine) (found : (∃ t, (hashInt k, Value.int k t) ∈ es) → Q false s)
    (added : (∀ t, (hashInt k, Value.int k t) ∉ es) → ∀ o' es' h', SetIs w true o' es' → es'.Perm ((hashInt k, .int k tk) :: es) → Heap.SameBut S s.heap h' → h'.get? S = some o' → Q true { s with heap := h' }) :
    wpAny (model prog w) A (setAddHashed S (.int k tk) (hashInt k)) Q E s := by
  refine byC fun U0 => ?_
  obtain ⟨ep, t, js, rfl, T, hl, h2, hled, hpl⟩ := hS
  refine U0 ?_
  clear U0
  unfold setAddHashed setAddHashedIn
  refine wpAny_holding (wpAny_bind (setState_is ho T hl h2 ?_))
  dsimp only
  have hb : byScan (.int k tk) es.toArray = true := by
    unfold byScan
    simp only [Value.scannable, List.size_toArray, Bool.true_and, Bool.and_eq_true, decide_eq_true_eq]
    exact ⟨by unfold scanBound; lia, all_int hel⟩
  rw [hb]
  simp only [if_true]
  unfold setAddByScan setScan
  refine wpAny_bind (wpAny_bind (wpAny_rule (wpAny_bind ?_)))
  dsimp only
  refine scan_int hu ho T hl h2 _ 0 (by simpa using hel) rfl (fun i t hm => ?_) (fun hn => ?_)
  · exact wpAny_pure (wpAny_pure (found ⟨t, by simpa using hm⟩))
  · refine byC fun U0 => ?_
    obtain ⟨js', es', t', e0, e2, T', e3, e4, e5, e6⟩ := layN_is T hl h1 (hashInt k) (Value.int k tk)
    refine U0 ?_
    clear U0
    dsimp only
    rw [e0]
    dsimp only
    have hn' : ∀ t, (hashInt k, Value.int k t) ∉ es := by simpa using hn
    refine wpAny_bind (wpAny_pure ?_)
    refine wpAny_ite_split (fun _ => ?_) (fun _ => ?_)
    · refine wpAny_bind (show wpAny _ _ (hashByValue 8 (Value.int k tk)) _ _ _ from wpAny_pure ?_)
      simp only [if_true]
      refine wpAny_bind (store_is ho T' e3 e4 (e5.trans hled) (fun z => e6.trans (hpl z)) fun o' h' a b c => ?_)
      rw [T'.notFull (by lia)]
      exact wpAny_pure (wpAny_pure (added hn' o' es' h' a e2 b c))
    · refine wpAny_bind (wpAny_pure ?_)
      simp only [if_true]
      refine wpAny_bind (store_is ho T' e3 e4 (e5.trans hled) (fun z => e6.trans (hpl z)) fun o' h' a b c => ?_)
      rw [T'.notFull (by lia)]
      exact wpAny_pure (wpAny_pure (added hn' o' es' h' a e2 b c))
end
end Mine
end

section
open PySem PySem.W PySem.Calls PyProof.Rows PySem.Spec
set_option maxRecDepth 100000
namespace Mine
section
variable {prog : Program} {w : World} {A : Around} {E : Value → Shared → Prop} {s : Shared} {S I ax : Addr}
noncomputable def Adder (prog : Program) (w : World) (pl : Bool) (S : Addr) (n0 : Nat) (g : Heap) (u : Nat) (vs : List Value) (Inv : Nat → List (Int × Value) → Prop) : Prop :=
  ∀ (A : Around) (E : Value → Shared → Prop) (i : Nat) (v : Value) (es : List (Int × Value)) (s : Shared) (o : Obj) (Q : Bool → Shared → Prop), A.units ≤ u → vs[i]? = some v → s.heap.get? S = some o → SetIs w pl o es → Inv i es →
    (∀ b o, b < n0 → g.get? b = some o → s.heap.get? b = some o) →
    (∀ c es' o' h' tk, SetIs w pl o' es' → Inv (i + 1) es' → Heap.SameBut S s.heap h' → h'.get? S = some o' → Q c { s with heap := h', toks := tk }) → wpAny (model prog w) A (setAdd S v) Q E s
theorem upd_loop {pl : Bool} {R : Result → Shared → Prop} {n0 u : Nat} {g : Heap} {vs : List Value} {St : Nat → Heap → Prop} {Inv : Nat → List (Int × Value) → Prop} (W : Walks prog w A.in1 I [I, ax] [I] vs.length (fun i v => vs[i]? = some v) St) (hSI : S ≠ I) (hSa : S ≠ ax) (hI0 : n0 ≤ I) (hS0 : n0 ≤ S) (hu : A.units + 1 ≤ u)
    (add : Adder prog w pl S n0 g u vs Inv) : ∀ (k i : Nat) (s : Shared) (o : Obj) (es : List (Int × Value)), vs.length - i = k → i ≤ vs.length → St i s.heap → s.heap.get? S = some o → SetIs w pl o es → Inv i es → (∀ b o, b < n0 → g.get? b = some o → s.heap.get? b = some o) →
    (∀ h' tk o' es', SetIs w pl o' es' → Inv vs.length es' → h'.get? S = some o' → (∀ b o, b < n0 → g.get? b = some o → h'.get? b = some o) → R (.ok (.ret .none)) { s with heap := h', toks := tk }) →
    codeAny (model prog w) A (.builtin "set.update.loop" ⟨[.ref S, .ref I], []⟩) R s := by
  have hbI : ∀ b, b < n0 → b ∉ [I] := fun b hb q => Nat.lt_irrefl _ (Nat.lt_of_lt_of_le (List.mem_singleton.mp q ▸ hb) hI0)
  have hbS : ∀ b, b < n0 → b ≠ S := fun b hb q => Nat.lt_irrefl _ (Nat.lt_of_lt_of_le (q ▸ hb) hS0)
  intro k
  induction k with
  | zero =>
    intro i s o es hk hi hst hS hO hInv hg fin
    have : i = vs.length := by lia
    subst this
    refine codeAny_builtin F.entry_set_update_loop ?_
    rw [Around.under_plainId F.plain_set_update_loop _]
    refine (?_ : wpAny _ A.in1 (pyNext (.ref I) >>= _) _ _ s)
    refine wpAny_bind (W.done s _ _ hst fun h' tk hh => ?_)
    refine (?_ : wpAny _ A.in1 (ret Value.none) _ _ _)
    exact wpAny_pure (fin h' tk o es hO hInv (hh S o (by simpa using hSI) hS) fun b o hb e => hh b o (hbI b hb) (hg b o hb e))
  | succ k ih =>
    intro i s o es hk hi hst hS hO hInv hg fin
    have hlt : i < vs.length := by lia
    refine codeAny_builtin F.entry_set_update_loop ?_
    rw [Around.under_plainId F.plain_set_update_loop _]
    refine (?_ : wpAny _ A.in1 (pyNext (.ref I) >>= _) _ _ s)
    refine wpAny_bind (W.item i s _ _ hlt hst fun v h1 tk1 hv hst1 hh => ?_)
    refine (?_ : wpAny _ A.in1 (holding [v] (setAdd S v) >>= _) _ _ _)
    refine wpAny_bind (wpAny_holding ?_)
    refine add _ _ i v es { s with heap := h1, toks := tk1 } o _ (by simpa using hu) hv (hh S o (by simpa using hSI) hS) hO hInv (fun b o hb e => hh b o (hbI b hb) (hg b o hb e)) fun c es' o' h2 tk2 hO2 hInv2 sb h2S => ?_
    refine wpAny_pure ⟨plainId_quiet F.plain_set_update_loop _, ?_⟩
    refine ih (i + 1) { s with heap := h2, toks := tk2 } o' es' (by lia) (by lia) (W.frame _ _ _ hst1 fun b hb o e => ?_) h2S hO2 hInv2 (fun b o hb e => ?_) fin
    · rw [sb.2 b (fun h => by subst h; simp at hb; rcases hb with q | q; exact hSI q; exact hSa q)]; exact e
    · rw [sb.2 b (hbS b hb)]; exact hh b o (hbI b hb) (hg b o hb e)
theorem set_new (a : Value) {Q₁ : Value → Shared → Prop}
    (h : Q₁ (.ref s.heap.objs.size) { s with heap := s.heap.push { cls := .type "set", dict := none, data := .set #[] 0 (.fresh 0 0 (!w.params.followText "set-order")) } }) :
    codeAny (model prog w) A (.call (.builtin "set.__new__") ⟨[.type "set", a], []⟩) (wants Q₁ E) s := by
  refine codeAny_of_tree ?_
  refine (?_ : wpAny _ A.in1 (do checkBuiltinCall "set.__new__" ⟨[.type "set", a], []⟩; again (.builtin "set.__new__" ⟨[.type "set", a], []⟩)) _ _ s)
  refine wpAny_bind (wpAny_of_eq (F.newCall_set_1 a) (wpAny_pure ⟨plainId_quiet F.plain_set_new _, codeAny_builtin F.entry_set_new ?_⟩))
  rw [Around.under_plainId F.plain_set_new _]
  unfold Builtin.«set.__new__» Builtin.Frozenset.newClass
  have hsub := sub_set_self
  obtain ⟨hp, g, d, tk, os⟩ := s
  dsimp only
  wp_walk
  refine wpAny_askSetting (wpAny_pure ?_)
  dsimp only
  simp only [newObj]
  refine wpAny_bind (wpAny_alloc (wpAny_pure ?_))
  exact wpAny_pure h
set_option maxHeartbeats 3200000 in
theorem call_set_is {pl : Bool} {l : Addr} {vs : List Value} {Inv : Nat → List (Int × Value) → Prop} {Q : Value → Shared → Prop} (hh : A.handled = none) (hl : s.heap.IsList l vs.toArray) (h0 : Inv 0 [])
    (add : Adder prog w pl s.heap.objs.size s.heap.objs.size s.heap (A.units + 10) vs Inv)
    (h : ∀ h' tk o es, SetIs w pl o es → Inv vs.length es → h'.get? s.heap.objs.size = some o → (∀ b o, b < s.heap.objs.size → s.heap.get? b = some o → h'.get? b = some o) → Q (.ref s.heap.objs.size) { s with heap := h', toks := tk }) :
    wpAny (model prog w) A (call (.type "set") [.ref l]) Q E s := by
  obtain ⟨c, tl, hmro⟩ := F.called_set.mro
  have hmade := F.called_set.made
  have hsub := F.called_set.sub
  refine wpAny_call (codeAny_of_tree ?_)
  refine (?_ : wpAny _ _ (callAny (.type "set") _) _ _ _)
  refine wpAny_pure ⟨Code.quiet_builtin _ (by decide +kernel), codeAny_builtin F.entry_type_call ?_⟩
  rw [Around.under_plain (weight_type_call_type "set" [.ref l] []) rfl]
  have h1 := F.called_set.notType
  have h2 := F.called_set.canCreate
  have hct := F.typeCall_set_1 (.ref l)
  repeat (any_goals (first | assumption | wp_step))
  generalize hN : ({ cls := .type "set", dict := none, data := .set #[] 0 (.fresh 0 0 (!w.params.followText "set-order")) } : Obj) = oN
  refine codeAny_mono (set_new (.ref l) (E := E) (Q₁ := fun obj s₁ => obj = .ref s.heap.objs.size ∧ s₁ = { s with heap := s.heap.push oN }) (by rw [hN]; exact ⟨rfl, rfl⟩)) fun r s₁ hr => ?_
  cases r with
  | error e => exact hr
  | ok fl =>
    cases fl with
    | ret obj =>
      obtain ⟨rfl, rfl⟩ := hr
      have hS : (s.heap.push oN).get? s.heap.objs.size = some oN := Heap.get?_push_size _ (by rw [← hN]; rfl)
      have hT : Shared.TypeIs { s with heap := s.heap.push oN } (.ref s.heap.objs.size) "set" := ⟨_, hS, by rw [← hN]⟩
      have hli := F.called_set.init.lookup
      have hbi := F.called_set.init.bind (.ref s.heap.objs.size)
      repeat (any_goals (first | assumption | wp_step))
      have h00 : SetIs w pl oN [] := ⟨0, _, [], hN.symm, ⟨rfl, rfl, rfl, by simp, by simp⟩, rfl, by simp, rfl, fun _ => rfl⟩
      refine codeAny_mono (codeAny_call_builtin (R := wants (fun r s₂ => r = .none ∧ ∃ h' tk o es, s₂ = { s with heap := h', toks := tk } ∧ SetIs w pl o es ∧ Inv vs.length es ∧ h'.get? s.heap.objs.size = some o ∧
          (∀ b o, b < s.heap.objs.size → s.heap.get? b = some o → h'.get? b = some o)) E) F.called_set.init.plain F.entry_set_init (check_set_init_1 hT ?_)) fun r₂ s₂ hr₂ => ?_
      · have hlS : l < s.heap.objs.size := by obtain ⟨ol, hol, _⟩ := hl; exact Heap.lt_size hol
        obtain ⟨ol, hol, hcl, nl, hdl⟩ := hl
        obtain ⟨ocls, odict, odata, oslots⟩ := ol
        simp only at hcl hdl
        subst hcl; subst hdl
        have hol' : (s.heap.push oN).get? l = some { cls := .type "list", dict := odict, data := .seq vs.toArray nl, slots := oslots } := Heap.get?_push_of_some _ hol
        have hsls := F.sub_list_set
        have hslf := F.sub_list_frozenset
        have hne : (Value.type "list" == Value.type "dict") = false := by decide
        have hl1 : (s.heap.push oN).IsList l vs.toArray := ⟨_, hol', rfl, nl, rfl⟩
        have hI : (s.heap.push oN).objs.size = s.heap.objs.size + 1 := Heap.size_push ..
        have hne1 : l ≠ (s.heap.push oN).objs.size := by rw [hI]; exact Nat.ne_of_lt (Nat.lt_succ_of_lt hlS)
        have hne2 : s.heap.objs.size ≠ (s.heap.push oN).objs.size := by rw [hI]; exact Nat.ne_of_lt (Nat.lt_succ_self _)
        have hne3 : s.heap.objs.size ≠ l := Nat.ne_of_gt hlS
        have hle : s.heap.objs.size ≤ (s.heap.push oN).objs.size := by rw [hI]; exact Nat.le_succ _
        subst hN
        unfold Builtin.«set.__init__» noKeywords Builtin.Frozenset.updateFrom
        generalize hPI : pyIter = PI
        wp_walk
        subst hPI
        refine wpAny_pyIter_list hl1 ?_
        refine wpAny_bind (wpAny_runValue ?_)
        refine upd_loop (n0 := s.heap.objs.size) (g := s.heap) (vs := vs) (walks_B (by simp [hh]) _ l vs false hne1) hne2 hne3 hle (Nat.le_refl _) (by simp) add
          vs.length 0 _ _ [] (by lia) (Nat.zero_le _) ?_ (Heap.get?_push_of_some _ hS) h00 h0 (fun b o _ e => Heap.get?_push_of_some _ (Heap.get?_push_of_some _ e)) fun h' tk o' es' q1 q2 q3 q4 => ?_
        · show IterAt _ _ _ false 0 _
          exact ⟨⟨_, Heap.get?_push_size _ rfl, rfl, rfl⟩, hl1.push _⟩
        · refine wpAny_pure ?_
          refine (?_ : wpAny _ _ (ret Value.none) _ _ _)
          exact wpAny_pure ⟨rfl, h', tk, o', es', rfl, q1, q2, q3, q4⟩
      · cases r₂ with
        | error e => exact hr₂
        | ok fl₂ =>
          cases fl₂ with
          | ret r =>
            obtain ⟨rfl, h', tk, o, es, rfl, q1, q2, q3, q4⟩ := hr₂
            repeat (any_goals (first | assumption | wp_step))
            exact h _ _ _ _ q1 q2 q3 q4
          | _ => exact hr₂.elim
    | _ => exact hr.elim
end
end Mine
end

section
open PySem PySem.W PySem.Calls PyProof.Rows PySem.Spec
set_option maxRecDepth 100000
namespace Mine
theorem entry_set_iter : entryFor table "set.__iter__" = some Builtin.«frozenset.__iter__» := entryFor_alias (id' := "frozenset.__iter__") (by kernel_rfl) rfl (by decide +kernel) (by kernel_rfl)
theorem slot_sit_next : Slot "set_iterator" "__next__" "set_iterator.__next__" :=
  .of (owner := "set_iterator") (n := "__next__") (by rw [typeLookup_type, builtinLookup_eq_fast]; kernel_rfl) (by decide +kernel) (by decide +kernel) (by decide +kernel)
    (by first | exact .inl (by decide +kernel) | exact .inr (by decide +kernel)) (by rw [isSubtype_type]; kernel_rfl)
theorem slot_sit_iter : Slot "set_iterator" "__iter__" "set_iterator.__iter__" :=
  .of (owner := "set_iterator") (n := "__iter__") (by rw [typeLookup_type, builtinLookup_eq_fast]; kernel_rfl) (by decide +kernel) (by decide +kernel) (by decide +kernel)
    (by first | exact .inl (by decide +kernel) | exact .inr (by decide +kernel)) (by rw [isSubtype_type]; kernel_rfl)
theorem entry_sit_next : entryFor table "set_iterator.__next__" = some Builtin.«set_iterator.__next__» := entryFor_of_tree (by kernel_rfl)
theorem entry_sit_iter : entryFor table "set_iterator.__iter__" = some Builtin.«dict_keyiterator.__iter__» := entryFor_alias (id' := "dict_keyiterator.__iter__") (by kernel_rfl) rfl (by decide +kernel) (by kernel_rfl)
theorem owner_sit : Manifest.owners.lookup (String.ofList ['r', 'o', 't', 'a', 'r', 'e', 't', 'i', '_', 't', 'e', 's'].reverse) = some Manifest.sig_set_iterator := by kernel_rfl
theorem args_sit_next (a : Value) : argsOk "set_iterator.__next__" ⟨[a], []⟩ := by
  unfold argsOk; rw [signature?_of (id := "set_iterator.__next__") (n := ['_', '_', 't', 'x', 'e', 'n', '_', '_']) (o := ['r', 'o', 't', 'a', 'r', 'e', 't', 'i', '_', 't', 'e', 's']) (by kernel_rfl) owner_sit]; kernel_rfl
theorem args_sit_iter (a : Value) : argsOk "set_iterator.__iter__" ⟨[a], []⟩ := by
  unfold argsOk; rw [signature?_of (id := "set_iterator.__iter__") (n := ['_', '_', 'r', 'e', 't', 'i', '_', '_']) (o := ['r', 'o', 't', 'a', 'r', 'e', 't', 'i', '_', 't', 'e', 's']) (by kernel_rfl) owner_sit]; kernel_rfl
noncomputable abbrev sitObj (S : Addr) (first : Value) (i n ep : Nat) : Obj := { cls := .type "set_iterator", data := .fields #[first, .int i 0, .ref S, .int n 0, .int ep 0] }
noncomputable abbrev setObj (es : List (Int × Value)) (ep : Nat) (t : SetTable) : Obj := { cls := .type "set", dict := none, data := .set es.toArray ep t }
section
variable {prog : Program} {w : World} {A : Around} {E : Value → Shared → Prop} {s : Shared} {S I : Addr} {es : List (Int × Value)} {ep : Nat} {t : SetTable} {js : List Nat}
theorem entries_is {Q : Array (Int × Value) → Shared → Prop} (ho : s.heap.get? S = some (setObj es ep t)) (T : Tab t js) (hl : js.length = es.length) (h2 : es.length ≤ 2) (h : Q es.toArray s) :
    wpAny (model prog w) A (setEntries S) Q E s :=
  wpAny_setEntries_of ho rfl (by rw [List.size_toArray]; exact T.fits hl (by lia)) h
theorem sit_self {first : Value} {i n : Nat} {Q : Value → Shared → Prop} (hit : s.heap.get? I = some (sitObj S first i n ep)) (h : Q (.ref I) s) : wpAny (model prog w) A (pyIter (.ref I)) Q E s := by
  have hT : s.TypeIs (.ref I) "set_iterator" := ⟨_, hit, rfl⟩
  refine wpAny_pyIter_slot hT slot_sit_iter (wpAny_call_entry slot_sit_iter hT entry_sit_iter ?_ (args_sit_iter _))
  refine (?_ : wpAny _ _ (ret (.ref I)) _ _ s)
  exact wpAny_pure ⟨_, rfl, "set_iterator", _, hT, slot_sit_next.lookup, h⟩
theorem upd_fields {h : Heap} {i : Nat} {x first y z u v : Value} (hit : h.get? I = some { cls := .type "set_iterator", data := .fields #[first, y, z, u, v] }) :
    (h.update I (Obj.mapFields (·.setIfInBounds i x))).get? I = some { cls := .type "set_iterator", data := .fields (#[first, y, z, u, v].setIfInBounds i x) } := by
  have := Heap.get?_update_self (Obj.mapFields (·.setIfInBounds i x)) hit (Obj.isFreed_of_fields (Obj.data_mapFields rfl _))
  rw [this]
  rfl
theorem sit_item {slot next i n : Nat} {x : Value} {Q : Option Value → Shared → Prop} (hit : s.heap.get? I = some (sitObj S (.int slot 0) i n ep)) (ho : s.heap.get? S = some (setObj es ep t)) (T : Tab t js) (hl : js.length = es.length) (h2 : es.length ≤ 2) (hn : es.length = n)
    (hx : ∀ (A : Around) (E : Value → Shared → Prop) (Q : Option (Value × Nat) → Shared → Prop), Q (some (x, next)) s → wpAny (model prog w) A (setNext S slot i ep) Q E s)
    (hQ : ∀ h', h'.get? I = some (sitObj S (.int next 0) (i + 1) n ep) → Heap.SameBut I s.heap h' → Q (some x) { s with heap := h' }) :
    wpAny (model prog w) A (pyNext (.ref I)) Q E s := by
  have hT : s.TypeIs (.ref I) "set_iterator" := ⟨_, hit, rfl⟩
  unfold pyNext
  refine wpAny_bind (wpAny_attempt (wpAny_callSpecial?_slot (name := Str.ofString "__next__") hT slot_sit_next
    (wpAny_call_entry slot_sit_next hT entry_sit_next ?_ (args_sit_next _))))
  unfold Builtin.«set_iterator.__next__»
  refine wpAny_bind (wpAny_pure ?_)
  refine wpAny_bind (wpAny_fieldsOf hit rfl ?_)
  dsimp only
  refine wpAny_bind (entries_is ho T hl h2 ?_)
  rw [if_neg (by simp [hn])]
  refine wpAny_bind (hx _ _ _ ?_)
  dsimp only
  refine wpAny_bind (wpAny_setField hit rfl (by simp) ?_)
  have h1 := upd_fields (i := 0) (x := rawInt next) hit
  refine wpAny_bind (wpAny_setField (s := { s with heap := _ }) h1 rfl (by simp) ?_)
  have h3 := upd_fields (i := 1) (x := rawInt ((i : Int) + 1)) h1
  exact wpAny_pure ⟨_, rfl, wpAny_pure (hQ _ h3 ((Heap.SameBut.update ..).trans (Heap.SameBut.update ..)))⟩
theorem raise_stop {Q : PySem.Fin → Shared → Prop} {E' : Value → Shared → Prop} (hh : A.handled = none) (hQ : ∀ e h', (∀ b o, s.heap.get? b = some o → h'.get? b = some o) → Shared.TypeIs { s with heap := h' } e "StopIteration" → E' e { s with heap := h' }) :
    wpAny (model prog w) A (do raiseNew (← newExc (.type "StopIteration") [])) Q E' s := by
  refine wpAny_bind ?_
  simp only [newExc, newTuple]
  refine wpAny_bind (wpAny_newObj_type ?_ (by size_fits))
  refine wpAny_bind (m := firstArgMember _ _) (wpAny_of_eq (a := Value.none) (by first | rfl | (simp only [firstArgMember]; rfl)) ?_)
  refine wpAny_newObj_type ?_ (by size_fits)
  simp only [raiseNew]
  refine wpAny_bind (wpAny_handled ?_)
  rw [hh]
  refine wpAny_bind (wpAny_pure (wpAny_throw ?_))
  exact hQ _ _ (fun b o e => Heap.get?_push_of_some _ (Heap.get?_push_of_some _ e)) ⟨_, Heap.get?_push_size _ rfl, rfl⟩
theorem sit_end {slot i n : Nat} {Q : Option Value → Shared → Prop} (hh : A.handled = none) (hit : s.heap.get? I = some (sitObj S (.int slot 0) i n ep)) (ho : s.heap.get? S = some (setObj es ep t)) (T : Tab t js) (hl : js.length = es.length) (h2 : es.length ≤ 2) (hn : es.length = n)
    (hx : ∀ (A : Around) (E : Value → Shared → Prop) (Q : Option (Value × Nat) → Shared → Prop), Q none s → wpAny (model prog w) A (setNext S slot i ep) Q E s)
    (hQ : ∀ h', Heap.ExtBut I s.heap h' → Q none { s with heap := h' }) :
    wpAny (model prog w) A (pyNext (.ref I)) Q E s := by
  have hT : s.TypeIs (.ref I) "set_iterator" := ⟨_, hit, rfl⟩
  unfold pyNext
  refine wpAny_bind (wpAny_attempt (wpAny_callSpecial?_slot (name := Str.ofString "__next__") hT slot_sit_next
    (wpAny_call_entry slot_sit_next hT entry_sit_next ?_ (args_sit_next _))))
  unfold Builtin.«set_iterator.__next__»
  refine wpAny_bind (wpAny_pure ?_)
  refine wpAny_bind (wpAny_fieldsOf hit rfl ?_)
  dsimp only
  refine wpAny_bind (entries_is ho T hl h2 ?_)
  rw [if_neg (by simp [hn])]
  refine wpAny_bind (hx _ _ _ ?_)
  dsimp only
  refine wpAny_bind (wpAny_setField hit rfl (by simp) ?_)
  refine raise_stop (show A.in1.handled = none from hh) fun e h' hk hT' => ?_
  refine wpAny_bind (wpAny_isInstance (T := "StopIteration") (b := true) hT' isSubtype_stop ?_)
  exact wpAny_pure (hQ _ fun b o hb e => hk b o ((Heap.SameBut.update ..).extBut b o hb e))
end
end Mine
end

section
open PySem PySem.W PySem.Calls PyProof.Rows PySem.Spec
set_option maxRecDepth 100000
namespace Mine
open SetTable
theorem erase_perm {α : Type} : ∀ (l : List α) (i : Nat) (h : i < l.length), (l[i] :: l.eraseIdx i).Perm l
  | [], _, h => by simp at h
  | a :: l, 0, _ => by simp
  | a :: l, i + 1, h => by
    simp only [List.getElem_cons_succ, List.eraseIdx_cons_succ]
    exact (List.Perm.swap _ _ _).trans (List.Perm.cons a (erase_perm l i (by simpa using h)))
theorem go_perm {α : Type} (next : Nat → Nat) : ∀ (fuel k : Nat) (left : List α) (out : Array α), left.length ≤ fuel → (pickOrder.go next fuel k left out).toList.Perm (out.toList ++ left)
  | 0, k, left, out, h => by
    have : left = [] := List.length_eq_zero_iff.mp (by lia)
    subst this
    simp [pickOrder.go]
  | fuel + 1, k, left, out, h => by
    unfold pickOrder.go
    cases left with
    | nil => simp
    | cons a l =>
      have hlt : next k % (a :: l).length < (a :: l).length := Nat.mod_lt _ (by simp)
      rw [List.getElem?_eq_getElem hlt]
      dsimp only
      refine (go_perm next fuel (k + 1) _ _ (by rw [List.length_eraseIdx_of_lt hlt]; lia)).trans ?_
      simp only [Array.toList_push, List.append_assoc]
      refine List.Perm.append_left _ ?_
      exact erase_perm _ _ hlt
theorem pick_perm {α : Type} (next : Nat → Nat) (xs : Array α) : (pickOrder next xs).toList.Perm xs.toList := by
  have := go_perm next xs.size 0 xs.toList #[] (by simp)
  simpa [pickOrder] using this
theorem below_up {js : List Nat} (h2 : js.length ≤ 2) (up : js.Pairwise (· < ·)) : below js.toArray 0 = 0 ∧ ∀ (i j : Nat), js[i]? = some j → below js.toArray (j + 1) = i + 1 := by
  match js, h2 with
  | [], _ => exact ⟨rfl, fun i j h => by simp at h⟩
  | [a], _ =>
    refine ⟨by show below #[a] 0 = 0; rw [below_one]; simp, fun i j h => ?_⟩
    have : i = 0 := by
      rcases Nat.eq_zero_or_pos i with q | q
      · exact q
      · rw [List.getElem?_eq_none (by simp; lia)] at h; cases h
    subst this
    simp at h
    subst h
    show below #[a] (a + 1) = 1
    rw [below_one]; simp
  | [a, b], _ =>
    have hab : a < b := by simpa using up
    refine ⟨?_, fun i j h => ?_⟩
    · show below.go #[a, b] 0 2 0 2 = 0
      unfold below.go
      simp
      unfold below.go
      simp
      unfold below.go
      simp
    · have hi : i = 0 ∨ i = 1 := by
        rcases Nat.lt_or_ge i 2 with q | q
        · lia
        · rw [List.getElem?_eq_none (by simpa using q)] at h; cases h
      rcases hi with rfl | rfl
      · simp at h
        subst h
        show below.go #[a, b] (a + 1) 2 0 2 = 1
        unfold below.go
        have : ¬ b < a + 1 := by lia
        simp [this]
        unfold below.go
        simp
        unfold below.go
        simp
      · simp at h
        subst h
        show below.go #[a, b] (b + 1) 2 0 2 = 2
        unfold below.go
        simp
        unfold below.go
        simp
end Mine
end

section
open PySem PySem.W PySem.Calls PyProof.Rows PySem.Spec
set_option maxRecDepth 100000
namespace Mine
open SetTable
section
variable {prog : Program} {w : World} {A : Around} {E : Value → Shared → Prop} {s : Shared} {S I : Addr} {es : List (Int × Value)} {ep : Nat} {t : SetTable} {js : List Nat}
structure SetL (w : World) (h : Heap) (S : Addr) (es : List (Int × Value)) (ep : Nat) (t : SetTable) (js : List Nat) : Prop where
  ho : h.get? S = some (setObj es ep t)
  T : Tab t js
  hl : js.length = es.length
  h2 : es.length ≤ 2
  led : t.led = !w.params.followText "set-order"
theorem walks_slot (hh : A.handled = none) (hne : S ≠ I) {xs : List Value} {Ok : Nat → Nat → Prop} (hn : es.length = xs.length) {es0 : List (Int × Value)} (T : Tab t js) (hl : js.length = es.length) (h2 : es.length ≤ 2)
    (nxt : ∀ i slot x, Ok i slot → xs[i]? = some x → ∃ next, Ok (i + 1) next ∧ ∀ (A : Around) (E : Value → Shared → Prop) (s : Shared) (Q : Option (Value × Nat) → Shared → Prop), s.heap.get? S = some (setObj es ep t) → Q (some (x, next)) s → wpAny (model prog w) A (setNext S slot i ep) Q E s)
    (fin : ∀ slot, Ok xs.length slot → ∀ (A : Around) (E : Value → Shared → Prop) (s : Shared) (Q : Option (Value × Nat) → Shared → Prop), s.heap.get? S = some (setObj es ep t) → Q none s → wpAny (model prog w) A (setNext S slot xs.length ep) Q E s) :
    Walks prog w A I [I, S] [I] xs.length (fun i v => xs[i]? = some v) (fun i h => (∃ slot : Nat, h.get? I = some (sitObj S (.int slot 0) i xs.length ep) ∧ Ok i slot) ∧ h.get? S = some (setObj es ep t)) where
  sub := fun b hb => by simp at hb; simp [hb]
  frame := fun i h h' st hk => by
    refine byC fun U0 => ?_
    obtain ⟨⟨slot, a, b⟩, c⟩ := st
    refine U0 ?_
    clear U0
    exact ⟨⟨slot, hk I (by simp) _ a, b⟩, hk S (by simp) _ c⟩
  item := fun i s Q E hi st hQ => by
    refine byC fun U0 => ?_
    obtain ⟨⟨slot, a, b⟩, c⟩ := st
    obtain ⟨x, hx⟩ : ∃ x, xs[i]? = some x := ⟨xs[i], by simp [hi]⟩
    obtain ⟨next, ok, hs⟩ := nxt i slot x b hx
    refine U0 ?_
    clear U0
    refine sit_item a c T hl h2 hn (fun A E Q hq => hs A E s Q c hq) fun h' hit' sb => ?_
    exact hQ x h' s.toks hx ⟨⟨next, hit', ok⟩, by rw [sb.2 S hne]; exact c⟩ fun b o hb e => by rw [sb.2 b (fun q => hb (by simp [q]))]; exact e
  done := fun s Q E st hQ => by
    refine byC fun U0 => ?_
    obtain ⟨⟨slot, a, b⟩, c⟩ := st
    refine U0 ?_
    clear U0
    refine sit_end hh a c T hl h2 hn (fun A E Q hq => fin slot b A E s Q c hq) fun h' he => hQ h' s.toks fun b o hb e => he b o (fun q => hb (by simp [q])) e
  self := fun i s Q E st hQ => by
    refine byC fun U0 => ?_
    obtain ⟨⟨slot, a, b⟩, c⟩ := st
    refine U0 ?_
    clear U0
    exact sit_self a hQ
theorem ask_text {b : Bool} (hb : w.params.followText "set-order" = b) {Q : Bool → Shared → Prop} (h : Q b s) : wpAny (model prog w) A setsByText Q E s := by
  unfold setsByText
  refine wpAny_bind (wpAny_askSetting (wpAny_pure ?_))
  show Q (w.params.followText "set-order") s
  rw [hb]; exact h
theorem walks_text (hh : A.handled = none) (hne : S ≠ I) (hb : w.params.followText "set-order" = true) (T : Tab t js) (hl : js.length = es.length) (h2 : es.length ≤ 2) :
    ∃ xs : List Value, xs.Perm (es.map (·.2)) ∧ Walks prog w A I [I, S] [I] xs.length (fun i v => xs[i]? = some v) (fun i h => (∃ slot : Nat, h.get? I = some (sitObj S (.int slot 0) i xs.length ep) ∧ True) ∧ h.get? S = some (setObj es ep t)) := by
  have hp := pick_perm (w.params.setOrder S ep) es.toArray
  have hpl : ((pickOrder (w.params.setOrder S ep) es.toArray).toList.map (·.2)).Perm (es.map (·.2)) := by
    have := hp.map (fun x : Int × Value => x.2)
    simpa using this
  have get : ∀ (i slot : Nat) (A : Around) (E : Value → Shared → Prop) (s : Shared) (Q : Option (Value × Nat) → Shared → Prop), s.heap.get? S = some (setObj es ep t) → Q (((pickOrder (w.params.setOrder S ep) es.toArray)[i]?).map fun e => (e.2, slot)) s → wpAny (model prog w) A (setNext S slot i ep) Q E s := by
    intro i slot A E s Q ho hq
    unfold setNext
    refine wpAny_bind (setState_is ho T hl h2 ?_)
    dsimp only
    refine wpAny_bind (ask_text hb ?_)
    simp only [if_true]
    rw [if_neg (by simp)]
    unfold setWalk
    refine wpAny_bind (wpAny_bind (setState_is ho T hl h2 ?_))
    dsimp only
    refine wpAny_bind (ask_text hb ?_)
    simp only [if_true]
    refine wpAny_bind (wpAny_askSetting (wpAny_pure ?_))
    exact wpAny_pure hq
  refine ⟨_, hpl, walks_slot (Ok := fun _ _ => True) hh hne ?_ (es0 := []) T hl h2 ?_ ?_⟩
  · have := hpl.length_eq
    simpa using this.symm
  · intro i slot x _ hx
    refine ⟨slot, trivial, fun A E s Q ho hq => get i slot A E s Q ho ?_⟩
    simp only [List.getElem?_map, Array.getElem?_toList] at hx
    refine byC fun U0 => ?_
    obtain ⟨e, he, rfl⟩ := Option.map_eq_some_iff.mp hx
    refine U0 ?_
    clear U0
    rw [he]; exact hq
  · intro slot _ A E s Q ho hq
    refine get _ slot A E s Q ho ?_
    rw [Array.getElem?_eq_none (by simp)]
    exact hq
theorem walks_place (hh : A.handled = none) (hne : S ≠ I) (hb : w.params.followText "set-order" = false) (hp : t.plain = true ∨ es.length ≤ 1) (hled : t.led = true) (T : Tab t js) (hl : js.length = es.length) (h2 : es.length ≤ 2) :
    Walks prog w A I [I, S] [I] (es.map (·.2)).length (fun i v => (es.map (·.2))[i]? = some v) (fun i h => (∃ slot : Nat, h.get? I = some (sitObj S (.int slot 0) i (es.map (·.2)).length ep) ∧ below t.place slot = i) ∧ h.get? S = some (setObj es ep t)) := by
  have get : ∀ (i slot : Nat) (A : Around) (E : Value → Shared → Prop) (s : Shared) (Q : Option (Value × Nat) → Shared → Prop), s.heap.get? S = some (setObj es ep t) → below t.place slot = i →
      Q (match es.toArray[i]?, t.place[i]? with | some (_, x), some j => some (x, j + 1) | _, _ => none) s → wpAny (model prog w) A (setNext S slot i ep) Q E s := by
    intro i slot A E s Q ho hi hq
    unfold setNext
    refine wpAny_bind (setState_is ho T hl h2 ?_)
    dsimp only
    refine wpAny_bind (ask_text hb ?_)
    simp only [Bool.false_eq_true, if_false]
    refine wpAny_ite_split (fun hd => ?_) (fun _ => ?_)
    · exfalso
      have hd' : (!t.plain && decide (es.toArray.size > 1)) = true := hd
      simp only [List.size_toArray, Bool.and_eq_true, Bool.not_eq_true', decide_eq_true_eq] at hd'
      rcases hp with hp | hp
      · rw [hp] at hd'; exact absurd hd'.1 (by simp)
      · omega
    · refine wpAny_bind (wpAny_ite_split (fun hd => ?_) (fun _ => wpAny_pure ?_))
      · exfalso
        rw [hled] at hd
        simp at hd
      · rw [hi]
        exact wpAny_pure hq
  have hup := below_up (js := js) (by omega) T.up
  have hxl : (es.map (fun x : Int × Value => x.2)).length = es.length := List.length_map _
  refine walks_slot (Ok := fun i slot => below t.place slot = i) hh hne hxl.symm (es0 := []) T hl h2 ?_ ?_
  · intro i slot x hi hx
    rw [List.getElem?_map] at hx
    refine byC fun U0 => ?_
    obtain ⟨e, he, rfl⟩ := Option.map_eq_some_iff.mp hx
    refine U0 ?_
    clear U0
    have hlt : i < es.length := by
      rcases Nat.lt_or_ge i es.length with q | q
      · exact q
      · rw [List.getElem?_eq_none q] at he; cases he
    have hj : js[i]? = some (js[i]'(by omega)) := by simp [show i < js.length by omega]
    refine ⟨js[i]'(by omega) + 1, ?_, fun A E s Q ho hq => get i slot A E s Q ho hi ?_⟩
    · rw [T.place]; exact hup.2 i _ hj
    · rw [T.place, List.getElem?_toArray, List.getElem?_toArray, he, hj]
      exact hq
  · intro slot hi A E s Q ho hq
    refine get _ slot A E s Q ho hi ?_
    rw [List.getElem?_toArray, List.getElem?_eq_none (by simp)]
    exact hq
end
end Mine
end

section
open PySem PySem.W PySem.Calls PyProof.Rows PySem.Spec
set_option maxRecDepth 100000
namespace Mine
open SetTable
section
variable {prog : Program} {w : World} {A : Around} {E : Value → Shared → Prop} {s : Shared} {S I Tp : Addr} {es : List (Int × Value)} {ep : Nat} {t : SetTable} {js : List Nat}
theorem wpAny_choose {src : Source} {n : Nat} {Q : Nat → Shared → Prop} (hn : n ≠ 0) (h : ∀ i, i < n → Q i { s with drawn := s.drawn.bump src }) : wpAny (model prog w) A (choose src n) Q E s :=
  fun _ _ _ => ⟨hn, h _ (Nat.mod_lt _ (Nat.pos_of_ne_zero hn))⟩
theorem draw_is {α : Type} : ∀ (n : Nat) (xs : List α) (s : Shared) {Q : List α → Shared → Prop}, xs.length = n → (∀ ys dr, ys.Perm xs → Q ys { s with drawn := dr }) → wpAny (model prog w) A (drawOrder n xs) Q E s
  | 0, xs, s, Q, hl, h => by
    have : xs = [] := List.length_eq_zero_iff.mp hl
    subst this
    exact wpAny_pure (h [] s.drawn (List.Perm.refl _))
  | n + 1, [], _, _, hl, _ => by simp at hl
  | n + 1, x :: l, s, Q, hl, h => by
    unfold drawOrder
    refine wpAny_bind (wpAny_choose (by simp) fun i hi => ?_)
    rw [List.getElem?_eq_getElem hi]
    dsimp only
    refine wpAny_bind (draw_is n _ _ (by rw [List.length_eraseIdx_of_lt hi]; lia) fun ys dr hp => ?_)
    exact wpAny_pure (h _ dr ((List.Perm.cons _ hp).trans (erase_perm _ i hi)))
noncomputable abbrev places (ps : List Nat) : List Value := ps.map fun (i : Nat) => rawInt (i : Int)
theorem dit_item {i n p : Nat} {ps : List Nat} {x : Value} {Q : Option Value → Shared → Prop} (hit : s.heap.get? I = some (sitObj S (.ref Tp) i n ep)) (hT' : s.heap.get? Tp = some (tupObj (places ps))) (ho : s.heap.get? S = some (setObj es ep t)) (T : Tab t js) (hl : js.length = es.length) (h2 : es.length ≤ 2) (hn : es.length = n)
    (hp : ps[i]? = some p) {hx : Int} (he : es[p]? = some (hx, x))
    (hQ : ∀ h', h'.get? I = some (sitObj S (.ref Tp) (i + 1) n ep) → Heap.SameBut I s.heap h' → Q (some x) { s with heap := h' }) :
    wpAny (model prog w) A (pyNext (.ref I)) Q E s := by
  have hT : s.TypeIs (.ref I) "set_iterator" := ⟨_, hit, rfl⟩
  unfold pyNext
  refine wpAny_bind (wpAny_attempt (wpAny_callSpecial?_slot (name := Str.ofString "__next__") hT slot_sit_next
    (wpAny_call_entry slot_sit_next hT entry_sit_next ?_ (args_sit_next _))))
  unfold Builtin.«set_iterator.__next__»
  refine wpAny_bind (wpAny_pure ?_)
  refine wpAny_bind (wpAny_fieldsOf hit rfl ?_)
  dsimp only
  refine wpAny_bind (entries_is ho T hl h2 ?_)
  rw [if_neg (by simp [hn])]
  refine wpAny_bind (wpAny_seqItems hT' rfl ?_)
  dsimp only
  have e1 : (places ps).toArray[((i : Int)).toNat]? = some (rawInt p) := by simp [hp]
  rw [e1]
  dsimp only [rawInt]
  unfold setNextDrawn
  refine wpAny_bind (wpAny_bind (setState_is ho T hl h2 ?_))
  dsimp only
  rw [if_neg (by simp)]
  have e2 : es.toArray[((p : Int)).toNat]? = some (hx, x) := by simp [he]
  rw [e2]
  dsimp only
  refine wpAny_pure ?_
  refine wpAny_bind (wpAny_setField hit rfl (by simp) ?_)
  have h3 := upd_fields (i := 1) (x := rawInt ((i : Int) + 1)) hit
  exact wpAny_pure ⟨_, rfl, wpAny_pure (hQ _ h3 (Heap.SameBut.update ..))⟩
theorem dit_end {i n : Nat} {ps : List Nat} {Q : Option Value → Shared → Prop} (hh : A.handled = none) (hit : s.heap.get? I = some (sitObj S (.ref Tp) i n ep)) (hT' : s.heap.get? Tp = some (tupObj (places ps))) (ho : s.heap.get? S = some (setObj es ep t)) (T : Tab t js) (hl : js.length = es.length) (h2 : es.length ≤ 2) (hn : es.length = n)
    (hp : ps[i]? = none)
    (hQ : ∀ h', Heap.ExtBut I s.heap h' → Q none { s with heap := h' }) :
    wpAny (model prog w) A (pyNext (.ref I)) Q E s := by
  have hT : s.TypeIs (.ref I) "set_iterator" := ⟨_, hit, rfl⟩
  unfold pyNext
  refine wpAny_bind (wpAny_attempt (wpAny_callSpecial?_slot (name := Str.ofString "__next__") hT slot_sit_next
    (wpAny_call_entry slot_sit_next hT entry_sit_next ?_ (args_sit_next _))))
  unfold Builtin.«set_iterator.__next__»
  refine wpAny_bind (wpAny_pure ?_)
  refine wpAny_bind (wpAny_fieldsOf hit rfl ?_)
  dsimp only
  refine wpAny_bind (entries_is ho T hl h2 ?_)
  rw [if_neg (by simp [hn])]
  refine wpAny_bind (wpAny_seqItems hT' rfl ?_)
  dsimp only
  have e1 : (places ps).toArray[((i : Int)).toNat]? = none := by simpa using hp
  rw [e1]
  dsimp only
  refine wpAny_bind (wpAny_setField hit rfl (by simp) ?_)
  have h1 := upd_fields (i := 0) (x := rawInt 0) hit
  refine wpAny_bind (wpAny_setField (s := { s with heap := _ }) h1 rfl (by simp) ?_)
  refine raise_stop (show A.in1.handled = none from hh) fun e h' hk hT' => ?_
  refine wpAny_bind (wpAny_isInstance (T := "StopIteration") (b := true) hT' isSubtype_stop ?_)
  exact wpAny_pure (hQ _ fun b o hb e => hk b o (((Heap.SameBut.update ..).trans (Heap.SameBut.update ..)).extBut b o hb e))
theorem walks_drawn (hh : A.handled = none) (hne : S ≠ I) (hne2 : Tp ≠ I) {ps : List Nat} (hps : ps.Perm (List.range es.length)) (T : Tab t js) (hl : js.length = es.length) (h2 : es.length ≤ 2) :
    ∃ xs : List Value, xs.Perm (es.map (·.2)) ∧ xs.length = es.length ∧ Walks prog w A I [I, S, Tp] [I] xs.length (fun i v => xs[i]? = some v) (fun i h => h.get? I = some (sitObj S (.ref Tp) i es.length ep) ∧ h.get? Tp = some (tupObj (places ps)) ∧ h.get? S = some (setObj es ep t)) := by
  have hall : ∀ p ∈ ps, p < es.length := fun p hp => List.mem_range.mp (hps.mem_iff.mp hp)
  have hpl : ps.length = es.length := by rw [hps.length_eq, List.length_range]
  have hx : (ps.map fun p => (es.getD p (0, Value.none)).2).Perm (es.map (·.2)) := by
    have h1 := hps.map (fun p => (es.getD p (0, Value.none)).2)
    refine h1.trans (List.Perm.of_eq ?_)
    apply List.ext_getElem
    · simp
    · intro i a b
      simp at a b
      simp [a]
  refine ⟨_, hx, by simpa using hpl, ?_⟩
  exact {
    sub := fun b hb => by simp at hb; simp [hb]
    frame := fun i h h' st hk => ⟨hk I (by simp) _ st.1, hk Tp (by simp) _ st.2.1, hk S (by simp) _ st.2.2⟩
    item := fun i s Q E hi st hQ => by
      have hi' : i < ps.length := by simpa using hi
      have hp : ps[i]? = some ps[i] := by simp [hi']
      have hlt := hall _ (List.getElem_mem hi')
      have he : es[ps[i]]? = some ((es[ps[i]]).1, (es[ps[i]]).2) := by simp [hlt]
      refine dit_item st.1 st.2.1 st.2.2 T hl h2 rfl hp he fun h' hit' sb => ?_
      refine hQ _ h' s.toks (by simp [hi', hlt]) ⟨hit', by rw [sb.2 _ hne2]; exact st.2.1, by rw [sb.2 _ hne]; exact st.2.2⟩ fun b o hb e => by rw [sb.2 b (fun q => hb (by simp [q]))]; exact e
    done := fun s Q E st hQ => by
      refine dit_end hh st.1 st.2.1 st.2.2 T hl h2 rfl (by simp) fun h' he => hQ h' s.toks fun b o hb e => he b o (fun q => hb (by simp [q])) e
    self := fun i s Q E st hQ => sit_self st.1 hQ }
end
end Mine
end

section
open PySem PySem.W PySem.Calls PyProof.Rows PySem.Spec
set_option maxRecDepth 100000
namespace Mine
open SetTable
section
variable {prog : Program} {w : World} {A : Around} {E : Value → Shared → Prop} {s : Shared} {S I Tp : Addr} {es : List (Int × Value)} {o : Obj}
theorem iter_set {pl : Bool} {Q : Value → Shared → Prop} (hh : A.handled = none) (hS : s.heap.get? S = some o) (hO : SetIs w pl o es)
    (h : ∀ h' dr I fp St (xs : List Value), xs.Perm (es.map (·.2)) → (pl = true → dr = s.drawn) → (∀ b o, s.heap.get? b = some o → h'.get? b = some o) → s.heap.objs.size ≤ I → Walks prog w A I fp [I] xs.length (fun i v => xs[i]? = some v) St → St 0 h' →
      (∀ b ∈ fp, b = S ∨ s.heap.objs.size ≤ b) → Q (.ref I) { s with heap := h', drawn := dr }) :
    wpAny (model prog w) A (pyIter (.ref S)) Q E s := by
  refine byC fun U0 => ?_
  obtain ⟨ep, t, js, rfl, T, hl, h2, hled, hplain⟩ := hO
  refine U0 ?_
  clear U0
  have hT : s.TypeIs (.ref S) "set" := ⟨_, hS, rfl⟩
  have hlt : S < s.heap.objs.size := Heap.lt_size hS
  refine wpAny_pyIter_slot hT F.slot_set_iter (wpAny_call_entry F.slot_set_iter hT entry_set_iter ?_ (F.args_set_iter_1 _))
  unfold Builtin.«frozenset.__iter__»
  unfold Builtin.Frozenset.slot0 slotArgs
  simp only [List.isEmpty_nil, Bool.not_true, Bool.false_eq_true, ↓reduceIte, bind_assoc, List.length_nil, bne_self_eq_false]
  refine wpAny_bind (wpAny_pure ?_)
  dsimp only
  refine wpAny_bind (wpAny_pure ?_)
  refine wpAny_bind (wpAny_bind (entries_is hS T hl h2 (wpAny_pure ?_)))
  simp only [List.size_toArray]
  refine wpAny_bind ?_
  unfold setDrawn
  refine wpAny_bind (setState_is hS T hl h2 ?_)
  dsimp only
  have up1 : ∀ {h0 : Heap} {x : Obj}, (∀ b o, s.heap.get? b = some o → h0.get? b = some o) → ∀ b o, s.heap.get? b = some o → (h0.push x).get? b = some o := fun hk b o e => Heap.get?_push_of_some _ (hk b o e)
  have hIne : ∀ {n : Nat}, s.heap.objs.size ≤ n → S ≠ n := fun hn e => Nat.lt_irrefl _ (Nat.lt_of_lt_of_le (e ▸ hlt) hn)
  have ep_is : ∀ {h0 : Heap} {dr : Drawn} {Q : Nat → Shared → Prop} {A : Around} {E : Value → Shared → Prop}, h0.get? S = some (setObj es ep t) → Q ep { s with heap := h0, drawn := dr } → wpAny (model prog w) A (setEpoch S) Q E { s with heap := h0, drawn := dr } := fun hq h => wpAny_setEpoch_of hq rfl (by rw [List.size_toArray]; exact T.fits hl (by lia)) h
  cases hb : w.params.followText "set-order" with
  | true =>
    refine wpAny_bind (ask_text hb (wpAny_pure ?_))
    simp only [Bool.not_true, Bool.false_and, Bool.false_eq_true, if_false]
    refine wpAny_bind (wpAny_pure ?_)
    refine wpAny_bind (ep_is hS ?_)
    refine wpAny_bind (wpAny_newObj_type ?_ (by size_fits))
    refine byC fun U0 => ?_
    obtain ⟨xs, hp, W⟩ := walks_text (prog := prog) (w := w) (A := A) (S := S) (I := s.heap.objs.size) (ep := ep) hh (hIne (Nat.le_refl _)) hb T hl h2
    refine U0 ?_
    clear U0
    have hxl : xs.length = es.length := by rw [hp.length_eq, List.length_map]
    refine wpAny_pure ⟨_, rfl, "set_iterator", _, ⟨_, Heap.get?_push_size _ rfl, rfl⟩, slot_sit_next.lookup, ?_⟩
    refine h _ s.drawn _ _ _ xs hp (fun _ => rfl) (up1 fun _ _ e => e) (Nat.le_refl _) W ⟨⟨0, ?_, trivial⟩, Heap.get?_push_of_some _ hS⟩ ?_
    · rw [hxl]; exact Heap.get?_push_size _ rfl
    · intro b hb; simp at hb; rcases hb with rfl | rfl; exact .inr (Nat.le_refl _); exact .inl rfl
  | false =>
    refine wpAny_bind (ask_text hb (wpAny_pure ?_))
    simp only [Bool.not_false, Bool.true_and]
    refine wpAny_ite_split (fun hd => ?_) (fun hd => ?_)
    · refine wpAny_bind (draw_is _ _ _ (by simp) fun ps dr hps => ?_)
      have hd' : (!t.plain && decide (es.toArray.size > 1)) = true := hd
      simp only [List.size_toArray, Bool.and_eq_true, decide_eq_true_eq] at hd'
      have hpl : ps.length = es.length := by rw [hps.length_eq, List.length_range]
      unfold newTuple
      refine wpAny_bind (wpAny_newObj_type ?_ (by show (List.map (fun (i : Nat) => rawInt (i : Int)) ps).toArray.size ≤ sizeLine; rw [List.size_toArray, List.length_map, hpl, sizeLine_eq]; lia))
      refine wpAny_bind (ep_is (Heap.get?_push_of_some _ hS) ?_)
      refine wpAny_bind (wpAny_newObj_type ?_ (by size_fits))
      generalize hTo : ({ cls := .type "tuple", data := .seq (List.map (fun (i : Nat) => rawInt (i : Int)) ps).toArray } : Obj) = oT
      have hI : (s.heap.push oT).objs.size = s.heap.objs.size + 1 := Heap.size_push ..
      have gT : (s.heap.push oT).get? s.heap.objs.size = some (tupObj (places ps)) := by rw [← hTo]; exact Heap.get?_push_size _ rfl
      refine byC fun U0 => ?_
      obtain ⟨xs, hp, hxl, W⟩ := walks_drawn (prog := prog) (w := w) (A := A) (S := S) (I := (s.heap.push oT).objs.size) (Tp := s.heap.objs.size) (ep := ep) hh (hIne (by rw [hI]; exact Nat.le_succ _)) (by rw [hI]; exact Nat.ne_of_lt (Nat.lt_succ_self _)) hps T hl h2
      refine U0 ?_
      clear U0
      refine wpAny_pure ⟨_, rfl, "set_iterator", _, ⟨_, Heap.get?_push_size _ rfl, rfl⟩, slot_sit_next.lookup, ?_⟩
      refine h _ dr _ _ _ xs hp (fun z => by rw [hplain z] at hd'; simp at hd') (up1 (up1 fun _ _ e => e)) (by rw [hI]; exact Nat.le_succ _) W ⟨Heap.get?_push_size _ rfl, Heap.get?_push_of_some _ gT, Heap.get?_push_of_some _ (Heap.get?_push_of_some _ hS)⟩ ?_
      intro b hb
      simp only [List.mem_cons, List.not_mem_nil, or_false] at hb
      rcases hb with rfl | rfl | rfl
      · exact .inr (by rw [hI]; exact Nat.le_succ _)
      · exact .inl rfl
      · exact .inr (Nat.le_refl _)
    · have hd' : ¬ ((!t.plain && decide (es.toArray.size > 1)) = true) := hd
      have hpl : t.plain = true ∨ es.length ≤ 1 := by
        simp only [List.size_toArray, Bool.and_eq_true, Bool.not_eq_true', decide_eq_true_eq] at hd'
        cases hq : t.plain with
        | true => exact .inl rfl
        | false => exact .inr (by have : ¬ es.length > 1 := fun z => hd' ⟨hq, z⟩; lia)
      refine wpAny_bind (wpAny_pure ?_)
      refine wpAny_bind (ep_is hS ?_)
      refine wpAny_bind (wpAny_newObj_type ?_ (by size_fits))
      have W := walks_place (prog := prog) (w := w) (A := A) (S := S) (I := s.heap.objs.size) (ep := ep) hh (hIne (Nat.le_refl _)) hb hpl (by rw [hled, hb]; rfl) T hl h2
      refine wpAny_pure ⟨_, rfl, "set_iterator", _, ⟨_, Heap.get?_push_size _ rfl, rfl⟩, slot_sit_next.lookup, ?_⟩
      refine h _ s.drawn _ _ _ _ (List.Perm.refl _) (fun _ => rfl) (up1 fun _ _ e => e) (Nat.le_refl _) W ⟨⟨0, ?_, ?_⟩, Heap.get?_push_of_some _ hS⟩ ?_
      · rw [List.length_map]; exact Heap.get?_push_size _ rfl
      · rw [T.place]; exact (below_up (by lia) T.up).1
      · intro b hb; simp at hb; rcases hb with rfl | rfl; exact .inr (Nat.le_refl _); exact .inl rfl
theorem hint_set {Q : Bool → Shared → Prop} (hT : s.TypeIs (.ref S) "set") (h : Q false s) : wpAny (model prog w) A (Builtin.List.listLengthHint (.ref S)) Q E s := by
  unfold Builtin.List.listLengthHint
  refine wpAny_bind (wpAny_specialOf hT F.slot_set_len.lookup ?_)
  generalize hid : ("set.__len__" : String) = id0
  wp_delta
  rw [show splitId id0 = some ("set", "__len__") from by subst hid; decide +kernel]
  subst hid
  refine wpAny_bind (wpAny_isInstance (T := "set") (b := true) hT (by rw [isSubtype_type]; kernel_rfl) ?_)
  refine wpAny_ite_split (fun hab => absurd hab (by decide)) (fun _ => ?_)
  refine wpAny_ite_split (fun _ => ?_) (fun hab => absurd (by decide +kernel) hab)
  refine wpAny_bind (wpAny_typeOf hT ?_)
  exact wpAny_pure h
theorem extend_set {pl : Bool} {R : Result → Shared → Prop} {D : Addr} {res : Value} (hh : A.handled = none) (hS : s.heap.get? S = some o) (hO : SetIs w pl o es) (hDS : D ≠ S) (hD : s.heap.get? D = some { cls := .type "list", data := .seq #[] })
    (fin : ∀ h' tk dr (xs : List Value) c', xs.Perm (es.map (·.2)) → (pl = true → dr = s.drawn) → (∀ b o, b ≠ D → s.heap.get? b = some o → h'.get? b = some o) → h'.get? D = some { cls := .type "list", dict := none, data := .seq xs.toArray c', slots := #[] } → R (.ok (.ret res)) { s with heap := h', toks := tk, drawn := dr }) :
    wpAny (model prog w) A.in1 (Builtin.List.listExtendWith (.ref D) (.ref S) res)
      (fun fin s' => match fin with | .done f => R (.ok f) s' | .again c' => c'.quiet = true ∧ codeAny (model prog w) A c' R s') (fun e s' => R (.error e) s') s := by
  have hT : s.TypeIs (.ref S) "set" := ⟨_, hS, by obtain ⟨_, _, _, rfl, _⟩ := hO; rfl⟩
  have hDlt : D < s.heap.objs.size := Heap.lt_size hD
  unfold Builtin.List.listExtendWith
  refine wpAny_bind (wpAny_typeOf (T := "set") hT ?_)
  have h1 : Builtin.List.listSameRef (.ref D) (.ref S) = false := by simp [Builtin.List.listSameRef, hDS]
  have n1 : (Value.type "set" == Value.type "list") = false := by decide
  have n2 : (Value.type "set" == Value.type "tuple") = false := by decide
  simp only [h1, n1, n2, Bool.or_false, Bool.false_eq_true, if_false]
  refine wpAny_bind (iter_set (show A.in1.handled = none from hh) hS hO fun h2 dr I fp St xs hp hdr up hI W st hfp => ?_)
  have hDf : D ∉ fp := fun q => by
    rcases hfp D q with e | e
    · exact hDS e
    · exact Nat.lt_irrefl _ (Nat.lt_of_lt_of_le hDlt e)
  have hDI : D ≠ I := fun e => Nat.lt_irrefl _ (Nat.lt_of_lt_of_le (e ▸ hDlt) hI)
  have hxl : xs.length ≤ 2 := by
    refine byC fun U0 => ?_
    obtain ⟨_, _, _, _, _, _, h2, _, _⟩ := hO
    refine U0 ?_
    clear U0
    rw [hp.length_eq, List.length_map]; exact h2
  have key : ∀ (h3 : Heap) (c₁ tk : Nat), St 0 h3 → (∀ b o, b ≠ D → s.heap.get? b = some o → h3.get? b = some o) → h3.get? D = some { cls := .type "list", data := .seq #[] c₁ } →
      codeAny (model prog w) A (.builtin "list.extend.loop" ⟨[.ref D, .ref I, res], []⟩) R { s with heap := h3, toks := tk, drawn := dr } := by
    intro h3 c₁ tk hst hk hD3
    refine codeAny_extend_loopS W.toS (by rw [sizeLine_eq]; lia) D hDf res xs.length 0 _ #[] c₁ rfl (Nat.zero_le _) hst hD3 (ItemsOf.nil _) fun s' acc' c' hm hD' hacc => ?_
    rw [Moved.eq_with hm]
    have ea : acc' = xs.toArray := by
      apply Array.ext'
      apply List.ext_getElem?
      intro i
      rcases Nat.lt_or_ge i xs.length with q | q
      · have ha : i < acc'.toList.length := by rw [Array.length_toList, hacc.1]; exact q
        have := hacc.2 i acc'.toList[i] (by rw [← Array.getElem?_toList]; simp [ha])
        rw [List.getElem?_eq_getElem ha, ← this]
      · rw [List.getElem?_eq_none (by rw [Array.length_toList, hacc.1]; exact q), List.getElem?_eq_none (by simpa using q)]
    subst ea
    exact fin s'.heap s'.toks dr xs c' hp hdr (fun b o hb e => hm.heap b o (fun q => by
      simp only [List.mem_cons, List.not_mem_nil, or_false] at q
      rcases q with q | q
      · exact hb q
      · exact Nat.lt_irrefl _ (Nat.lt_of_lt_of_le (q ▸ Heap.lt_size e) hI)) (hk b o hb e)) hD'
  have hD2 := up _ _ hD
  refine wpAny_bind (wpAny_holding (hint_set (s := { s with heap := h2, drawn := dr }) ⟨_, up _ _ hS, by obtain ⟨_, _, _, rfl, _⟩ := hO; rfl⟩ ?_))
  refine wpAny_ite_split (fun _ => ?_) (fun _ => wpAny_pure ⟨plainId_quiet PySem.F.plain_extend_loop _, key _ 0 _ st (fun b o _ e => up b o e) hD2⟩)
  refine wpAny_bind (wpAny_rule ?_)
  refine wpAny_bind ?_
  refine (?_ : wpAny _ _ (updateSeq D (·.push .none) >>= fun _ => updateSeq D (·.pop)) _ _ _)
  refine wpAny_bind (wpAny_updateSeq hD2 rfl ?_)
  have hD3 := Heap.get?_update_self (Obj.mapSeq (·.push Value.none)) hD2 rfl
  refine wpAny_updateSeq (hz := by seq_fits) hD3 rfl ?_
  have hD4 := Heap.get?_update_self (Obj.mapSeq (·.pop)) hD3 rfl
  refine wpAny_pure ⟨plainId_quiet PySem.F.plain_extend_loop _, key _ _ _ ?_ (fun b o hb e => ?_) hD4⟩
  · refine W.frame 0 _ _ st fun b hb o e => ?_
    have hbD : b ≠ D := fun h => hDf (h ▸ hb)
    exact (Heap.get?_update_other _ _ (Ne.symm hbD)).trans ((Heap.get?_update_other _ _ (Ne.symm hbD)).trans e)
  · exact (Heap.get?_update_other _ _ (Ne.symm hb)).trans ((Heap.get?_update_other _ _ (Ne.symm hb)).trans (up b o e))
end
end Mine
end

section
open PySem PySem.W PySem.Calls PyProof.Rows PySem.Spec
set_option maxRecDepth 100000
namespace Mine
section
variable {prog : Program} {w : World} {A : Around} {E : Value → Shared → Prop} {s : Shared} {S : Addr} {es : List (Int × Value)} {o : Obj} {h₀ : Heap} {L : Addr} {m : Str → Option Value} {news : List (Addr × Obj)} {Q : Value → Shared → Prop}
theorem collect_set {pl : Bool} {R : List Value → Shared → Prop} (hh : A.handled = none) (hS : s.heap.get? S = some o) (hO : SetIs w pl o es)
    (h : ∀ (h' : Heap) (tk : Nat) dr (xs : List Value), xs.Perm (es.map (·.2)) → (pl = true → dr = s.drawn) → (∀ b o, s.heap.get? b = some o → h'.get? b = some o) → R xs { s with heap := h', toks := tk, drawn := dr }) :
    wpAny (model prog w) A (collect (.ref S)) R E s := by
  have hlt : S < s.heap.objs.size := Heap.lt_size hS
  unfold collect
  refine wpAny_bind (wpAny_runValue (codeAny_builtin entry_proto_collect' ?_))
  rw [Around.under_plainId PySem.F.plain_proto_collect _]
  refine (?_ : wpAny _ A.in1 (newList [] >>= fun l => again (.builtin "list.__iadd__" ⟨[l, .ref S], []⟩)) _ _ s)
  refine wpAny_bind (wpAny_newObj_type ?_)
  refine wpAny_pure ⟨plainId_quiet PySem.F.plain_list_iadd _, codeAny_builtin entry_list_iadd' ?_⟩
  rw [Around.under_plainId PySem.F.plain_list_iadd _]
  have hD₁ : (s.heap.push { cls := .type "list", data := .seq ([] : List Value).toArray }).get? s.heap.objs.size = some { cls := .type "list", data := .seq #[] } := Heap.get?_push_size _ rfl
  refine (?_ : wpAny _ A.in1 (Builtin.List.listExtendWith (.ref s.heap.objs.size) (.ref S) (.ref s.heap.objs.size)) _ _ _)
  have key := extend_set (A := A) (prog := prog) (w := w) (s := { s with heap := s.heap.push { cls := .type "list", data := .seq ([] : List Value).toArray } })
    (R := fun (q : Result) (s' : Shared) => ∃ (h' : Heap) (tk : Nat) (dr : Drawn) (xs : List Value) (c' : Nat), q = .ok (.ret (.ref s.heap.objs.size)) ∧ s' = { s with heap := h', toks := tk, drawn := dr } ∧ xs.Perm (es.map (·.2)) ∧ (pl = true → dr = s.drawn) ∧
      (∀ b o, s.heap.get? b = some o → h'.get? b = some o) ∧ h'.get? s.heap.objs.size = some { cls := .type "list", dict := none, data := .seq xs.toArray c', slots := #[] })
    hh (Heap.get?_push_of_some _ hS) hO (Nat.ne_of_gt hlt) hD₁ (res := .ref s.heap.objs.size)
    (fun h' tk dr xs c' hp hdr hk hD' => ⟨h', tk, dr, xs, c', rfl, rfl, hp, hdr, fun b o e => hk b o (Nat.ne_of_lt (Heap.lt_size e)) (Heap.get?_push_of_some _ e), hD'⟩)
  refine wpAny_mono key (fun fin s' x => ?_) fun e s' x => ?_
  · cases fin with
    | done f =>
      refine byC fun U0 => ?_
      obtain ⟨h', tk, dr, xs, c', e, rfl, hp, hdr, hk, hD'⟩ := x
      refine U0 ?_
      clear U0
      cases e
      refine (?_ : wpAny _ A (load s.heap.objs.size >>= _) _ _ _)
      refine wpAny_bind (wpAny_load hD' ?_)
      exact wpAny_pure (h h' tk dr xs hp hdr hk)
    | again c₁ =>
      refine ⟨x.1, codeAny_mono x.2 fun q s₂ y => ?_⟩
      refine byC fun U0 => ?_
      obtain ⟨h', tk, dr, xs, c', rfl, rfl, hp, hdr, hk, hD'⟩ := y
      refine U0 ?_
      clear U0
      refine (?_ : wpAny _ A (load s.heap.objs.size >>= _) _ _ _)
      refine wpAny_bind (wpAny_load hD' ?_)
      exact wpAny_pure (h h' tk dr xs hp hdr hk)
  · refine byC fun U0 => ?_
    obtain ⟨_, _, _, _, _, e', _⟩ := x
    refine U0 ?_
    clear U0
    cases e'
theorem sorted_set {pl : Bool} (hh : A.handled = none) (F : Fr h₀ L s.heap m) (N : News h₀ L s.heap news) (hS : (S, o) ∈ news) (hO : SetIs w pl o es)
    (h : ∀ (D : Addr) (h' : Heap) (tk : Nat) dr (vs : List Value), Fr h₀ L h' m → News h₀ L h' ((D, W.listOf vs.toArray 0) :: news) → (∀ q ∈ news, q.1 < D) → vs.Perm (es.map (·.2)) → (pl = true → dr = s.drawn) →
      wpAny (model prog w) A.in1 (call (.builtin "list.sort") [.ref D]) (fun _ s' => Q (.ref D) s') E { s with heap := h', toks := tk, drawn := dr }) :
    wpAny (model prog w) A (call (.builtin "sorted") [.ref S]) Q E s := by
  refine call_function_entry kind_sorted plain_sorted entry_sorted (args_sorted1 _) ?_
  unfold Builtin.«sorted»
  refine wpAny_bind (m := checkCount "sorted" 1 1 _) (wpAny_pure ?_)
  refine wpAny_bind (collect_set (A := A.in1) hh (N _ hS).1 hO fun h' tk dr xs hp hdr hk => ?_)
  have hl : xs.length ≤ 2 := by
    refine byC fun U0 => ?_
    obtain ⟨_, _, _, _, _, _, h2, _, _⟩ := hO
    refine U0 ?_
    clear U0
    rw [hp.length_eq, List.length_map]; exact h2
  refine wpAny_bind (wpAny_newList ?_ (by rw [sizeLine_eq]; lia))
  have hg := h h'.objs.size (h'.push { cls := .type "list", data := .seq xs.toArray }) tk dr xs ((F.keeps hk).push _) (News.push (F.keeps hk) (fun p hp => ⟨hk _ _ (N p hp).1, (N p hp).2⟩) _ rfl)
    (fun q hq => Heap.lt_size (hk _ _ (N q hq).1)) hp hdr
  refine wpAny_bind (wpAny_holding (wpAny_mono hg (fun _ s' x => ?_) fun _ _ e => e))
  exact wpAny_pure ⟨_, rfl, x⟩
end
end Mine
end

section
open PySem PySem.W PySem.Calls PyProof.Rows PySem.Spec
set_option maxRecDepth 100000
namespace Mine
section
variable {prog : Program} {w : World} {A : Around} {E : Value → Shared → Prop} {s : Shared} {h₀ h h' : Heap} {L D : Addr} {m : Str → Option Value} {news : List (Addr × Obj)} {vs : List Value} {o : Obj}
theorem fr_ext (F : Fr h₀ L h m) (hk : ∀ b o, b ≠ D → h.get? b = some o → h'.get? b = some o) (hL : D ≠ L) (h0 : h₀.get? D = none) : Fr h₀ L h' m :=
  ⟨F.ns.at' fun o e => hk L o hL.symm e, fun b o e => hk b o (fun q => by rw [q, h0] at e; cases e) (F.keep b o e), F.above⟩
theorem news_ext {o' : Obj} (N : News h₀ L h ((D, o) :: news)) (lt : ∀ p ∈ news, p.1 < D) (hk : ∀ b o, b ≠ D → h.get? b = some o → h'.get? b = some o) (hD : h'.get? D = some o') : News h₀ L h' ((D, o') :: news) := fun p hp => by
  rcases List.mem_cons.mp hp with rfl | hp
  · exact ⟨hD, (N _ (.head _)).2⟩
  · have := N p (.tail _ hp)
    exact ⟨hk _ _ (Nat.ne_of_lt (lt p hp)) this.1, this.2⟩
theorem sortedHeap_at {out : Array Value} {n : Nat} (ho : h.get? D = some (seqObj "list" vs.toArray n)) : ∃ c, (sortedHeap h D vs out).get? D = some (W.listOf out c) := by
  have ha : D < h.objs.size := Heap.lt_size ho
  obtain ⟨e1, ho1⟩ : ∃ e1, (h.update D (Obj.mapSeq fun _ => #[])).get? D = some (seqObj "list" #[] e1) := ⟨_, get?_update_seq ho (fun _ => #[])⟩
  have ho2 : (((h.update D (Obj.mapSeq fun _ => #[])).push (seqObj "tuple" vs.toArray 0)).push (seqObj "list" #[] 0)).get? D = some (seqObj "list" #[] e1) := Heap.get?_push_of_some _ (Heap.get?_push_of_some _ ho1)
  exact ⟨_, get?_update_seq ho2 fun _ => out⟩
theorem sortedHeap_off {out : Array Value} : ∀ b o, b ≠ D → h.get? b = some o → (sortedHeap h D vs out).get? b = some o := fun b o hb e => by
  unfold sortedHeap
  rw [Heap.get?_update_other _ _ (Ne.symm hb)]
  exact Heap.get?_push_of_some _ (Heap.get?_push_of_some _ ((Heap.get?_update_other _ _ (Ne.symm hb)).trans e))
theorem lsort_ints {n : Nat} {ns : List Int} {Q : Value → Shared → Prop} (F : Fr h₀ L s.heap m) (N : News h₀ L s.heap ((D, W.listOf vs.toArray n) :: news)) (lt : ∀ p ∈ news, p.1 < D) (hI : IntsAre vs ns) (h64 : vs.length < 64)
    (h : ∀ vs' ns' c h', IntsAre vs' ns' → ns'.Perm ns → ns'.Pairwise (· ≤ ·) → Fr h₀ L h' m → News h₀ L h' ((D, W.listOf (List.toArray vs') c) :: news) → Q .none { s with heap := h' }) :
    wpAny (model prog w) A (call (.builtin "list.sort") [.ref D]) Q E s := by
  have z := N _ (.head _)
  refine wpAny_call_entry PyProof.Rows.slot_list_sort ⟨_, z.1, rfl⟩ PyProof.Rows.entry_list_sort (list_sort_tree (n := n) (vs := vs) z.1 hI h64 fun out ns' hI' hp hP => ⟨.none, rfl, ?_⟩) (PyProof.Rows.args_list_sort _)
  obtain ⟨c, hc⟩ := sortedHeap_at (out := out) z.1
  exact h out.toList ns' c _ hI' hp hP (fr_ext F sortedHeap_off z.2.1 z.2.2) (news_ext N lt sortedHeap_off (by rw [Array.toArray_toList]; exact hc))
theorem lsort_short {n : Nat} {Q : Value → Shared → Prop} (F : Fr h₀ L s.heap m) (N : News h₀ L s.heap ((D, W.listOf vs.toArray n) :: news)) (lt : ∀ p ∈ news, p.1 < D) (h2 : vs.length < 2)
    (h : ∀ c h', Fr h₀ L h' m → News h₀ L h' ((D, W.listOf (List.toArray vs) c) :: news) → Q .none { s with heap := h' }) :
    wpAny (model prog w) A (call (.builtin "list.sort") [.ref D]) Q E s := by
  have z := N _ (.head _)
  have ho : s.heap.get? D = some (seqObj "list" vs.toArray n) := z.1
  have key : wpAny (model prog w) A.in1 (Builtin.«list.sort» ⟨[.ref D], []⟩) (fun fin s' => ∃ v, fin = .done (.ret v) ∧ Q v s') E s := by
    rw [list_sort_plain]
    refine wpAny_bind (listItems_at ho rfl ?_)
    refine wpAny_bind (listUpdate_at ho rfl ?_ (by rw [List.size_toArray, sizeLine_eq]; lia) (Nat.zero_le _))
    obtain ⟨e1, ho1⟩ : ∃ e1, (s.heap.update D (Obj.mapSeq fun _ => #[])).get? D = some (seqObj "list" #[] e1) := ⟨_, get?_update_seq ho (fun _ => #[])⟩
    refine wpAny_bind (seqEpoch_at ho1 rfl ?_)
    refine wpAny_bind (wpAny_newTuple ?_ (by show vs.length ≤ _; rw [sizeLine_eq]; lia))
    refine wpAny_bind (wpAny_newList ?_ (Nat.zero_le _))
    refine wpAny_holding ?_
    have ho6 : (((s.heap.update D (Obj.mapSeq fun _ => #[])).push (seqObj "tuple" vs.toArray 0)).push (seqObj "list" #[] 0)).get? D = some (seqObj "list" #[] e1) := Heap.get?_push_of_some _ (Heap.get?_push_of_some _ ho1)
    refine (?_ : wpAny (model prog w) _ _ _ E { s with heap := ((s.heap.update D (Obj.mapSeq fun _ => (#[] : Array Value))).push (seqObj "tuple" vs.toArray 0)).push (seqObj "list" #[] 0) })
    dsimp only
    have hn2 : vs.toArray.size < 2 := by rw [List.size_toArray]; exact h2
    rw [if_pos hn2, if_pos hn2]
    refine wpAny_bind (wpAny_pure ?_)
    refine wpAny_bind (wpAny_pure ?_)
    dsimp only
    refine wpAny_bind (seqEpoch_at ho6 rfl ?_)
    have hout : (arrOf (SortSt.mk' general' (vs.toArray.zip vs.toArray) #[] 7 none)).map (·.2) = vs.toArray := by
      show (vs.toArray.zip vs.toArray).map (·.2) = vs.toArray
      apply Array.ext'
      simp [List.zip_map']
      apply List.ext_getElem
      · simp
      · intro i a b; simp
    rw [hout]
    refine wpAny_bind (listUpdate_at ho6 rfl ?_ (Nat.zero_le _) (by rw [List.size_toArray, sizeLine_eq]; lia))
    simp only [bne_self_eq_false, Bool.false_eq_true, if_false]
    obtain ⟨c, hc⟩ := sortedHeap_at (out := vs.toArray) z.1
    exact wpAny_pure ⟨_, rfl, h c _ (fr_ext F sortedHeap_off z.2.1 z.2.2) (news_ext N lt sortedHeap_off hc)⟩
  exact wpAny_call_entry PyProof.Rows.slot_list_sort ⟨_, z.1, rfl⟩ PyProof.Rows.entry_list_sort key (PyProof.Rows.args_list_sort _)
noncomputable def TupSI (news : List (Addr × Obj)) (v : Value) : Prop := ∃ a op t us ks, v = .ref a ∧ (a, tupObj (.str op t :: us)) ∈ news ∧ IntsAre us ks ∧ PyData.strOk op = true
noncomputable def leaves {α : Type} (ok : α → Bool) (n : Nat) : KasT α → Bool
  | .ret a => ok a
  | .ask i j k => decide (i < n) && decide (j < n) && leaves ok n (k true) && leaves ok n (k false)
theorem leaves_wp {α : Type} {ok : α → Bool} {n : Nat} {cmp : Nat → Nat → (Bool → Shared → Prop) → Shared → Prop} {Q : α → Shared → Prop} (hc : ∀ i j (C : Bool → Shared → Prop), i < n → j < n → (∀ b, C b s) → cmp i j C s) :
    ∀ (t : KasT α), leaves ok n t = true → (∀ a, ok a = true → Q a s) → t.kasWp cmp Q s
  | .ret a, h, hQ => hQ a h
  | .ask i j k, h, hQ => by
    simp only [leaves, Bool.and_eq_true, decide_eq_true_eq] at h
    refine hc i j _ h.1.1.1 h.1.1.2 fun b => ?_
    cases b with
    | true => exact leaves_wp hc (k true) h.1.2 hQ
    | false => exact leaves_wp hc (k false) h.2 hQ
noncomputable def permOk (n : Nat) (p : Array Nat) : Bool := p.toList.isPerm (List.range n)
theorem sort_leaves : ∀ n, 2 ≤ n → n ≤ 4 → leaves (permOk n) n (kas_sort n) = true := by
  intro n h1 h2
  have : n = 2 ∨ n = 3 ∨ n = 4 := by lia
  rcases this with rfl | rfl | rfl <;> decide +kernel
theorem perm_getD {α : Type} {d : α} {vs : List α} {p : List Nat} (h : p.Perm (List.range vs.length)) : (p.map fun i => vs.getD i d).Perm vs := by
  refine (h.map _).trans (List.Perm.of_eq ?_)
  apply List.ext_getElem
  · simp
  · intro i a b
    simp at a b
    simp [a]
theorem lt_ints {A : Around} {E : Value → Shared → Prop} {i j : Int} {t u : Tok} {Q : Bool → Shared → Prop} (h : ∀ b, Q b s) : wpAny (model prog w) A (oneLt' false (.int i t) (.int j u)) Q E s :=
  kat_one _ _ (PyProof.Rows.lt_int (show _ from by first | exact h _ | exact ⟨_, rfl, h _⟩))
theorem lex_ints {b fin : Bool} {Q : Bool → Shared → Prop} (hu : A.units + 16 < cLine) (h : ∀ b, Q b s) : ∀ {us vs : List Value} {ks ls : List Int} (i : Nat), IntsAre us ks → IntsAre vs ls → KatLex prog w A b fin Q (us.zip vs) (i + 1) s
  | _, _, _, _, _, .nil, _ => kat_nil (h _)
  | _, _, _, _, _, .cons _ _ _, .nil => kat_nil (h _)
  | _, _, _, _, i, .cons k t r, .cons l u r' => by
    rw [List.zip_cons_cons]
    refine kat_cons (eqBool_key (n := 7) (k := 7) hu (by lia) (by lia) (.int k t) (.int l u) fun z _ => kat_go (fun _ => kat_yes (lex_ints hu h (i + 1) r r')) fun _ => kat_no ?_)
    have e : (b && (i + 1 == 0)) = false := by simp
    rw [e]
    exact lt_ints h
theorem lt_tups {Q : Bool → Shared → Prop} (hu : A.units + 16 < cLine) (N : News h₀ L s.heap news) {v x : Value} (hv : TupSI news v) (hx : TupSI news x) (h : ∀ b, Q b s) : wpAny (model prog w) A (keyLt' (tuples' true) v x) Q E s := by
  refine byC fun U0 => ?_
  obtain ⟨a, op, t, us, ks, rfl, ha, hi, ok⟩ := hv
  obtain ⟨a2, op2, t2, us2, ks2, rfl, ha2, hi2, ok2⟩ := hx
  refine U0 ?_
  clear U0
  refine kat_lt (N _ ha).1 rfl (N _ ha2).1 rfl ?_
  simp only [List.toList_toArray, List.zip_cons_cons]
  refine kat_cons (eqBool_key (n := 7) (k := 7) hu (by lia) (by lia) (.str op t ok) (.str op2 t2 ok2) fun z _ => kat_go (fun _ => kat_yes (lex_ints hu h 0 hi hi2)) fun _ => kat_no ?_)
  exact oneLt_str (h _)
theorem tups_of (N : News h₀ L s.heap news) : ∀ {vs : List Value}, (∀ v ∈ vs, TupSI news v) → ∃ fs, KatTups s.heap vs fs ∧ fs.length = vs.length ∧ ∀ v ∈ fs, ∃ op t, v = .str op t
  | [], _ => ⟨[], KatTups.nil, rfl, by simp⟩
  | v :: vs, h => by
    refine byC fun U0 => ?_
    obtain ⟨fs, a, b, c⟩ := tups_of N (vs := vs) fun v hv => h v (.tail _ hv)
    obtain ⟨x, op, t, us, ks, rfl, ha, hi, ok⟩ := h v (.head _)
    refine U0 ?_
    clear U0
    refine ⟨.str op t :: fs, KatTups.cons (N _ ha).1 rfl rfl rfl a, by simp [b], fun v hv => ?_⟩
    rcases List.mem_cons.mp hv with rfl | hv
    · exact ⟨op, t, rfl⟩
    · exact c v hv
theorem lsort_tups {n : Nat} {Q : Value → Shared → Prop} (hu : A.units + 17 < cLine) (F : Fr h₀ L s.heap m) (N : News h₀ L s.heap ((D, W.listOf vs.toArray n) :: news)) (lt : ∀ p ∈ news, p.1 < D) (hT : ∀ v ∈ vs, TupSI news v) (h4 : vs.length ≤ 4)
    (h : ∀ vs' c h', vs'.Perm vs → Fr h₀ L h' m → News h₀ L h' ((D, W.listOf (List.toArray vs') c) :: news) → Q .none { s with heap := h' }) :
    wpAny (model prog w) A (call (.builtin "list.sort") [.ref D]) Q E s := by
  rcases Nat.lt_or_ge vs.length 2 with h2 | h2
  · exact lsort_short F N lt h2 fun c h' F' N' => h vs c h' (List.Perm.refl _) F' N'
  have off : ∀ p ∈ news, p.1 ≠ D := fun p hp => Nat.ne_of_lt (lt p hp)
  refine kat_lsort F N (.head off) (by simp) h2 (by lia) fun e1 h' F' N' => ?_
  have N'' : News h₀ L h' news := fun p hp => N' p (.tail _ hp)
  refine byC fun U0 => ?_
  obtain ⟨fs, t1, t2, t3⟩ := tups_of (s := { s with heap := h' }) N'' hT
  refine U0 ?_
  clear U0
  refine kat_kind t1 (by lia) (T := .type "str") (fun v hv => ?_) (by decide) ?_
  · refine byC fun U0 => ?_
    obtain ⟨op, t, rfl⟩ := t3 v hv
    refine U0 ?_
    clear U0
    exact Looks.of_pure rfl
  · have e : (Value.type "str" != Value.type "tuple") = true := by decide
    rw [e]
    refine leaves_wp (ok := permOk vs.length) (n := vs.length) (fun i j C hi hj hC => ?_) _ (sort_leaves _ h2 h4) fun p hp => ?_
    · exact lt_tups (s := { s with heap := h' }) (by show A.units + 1 + 16 < cLine; lia) N'' (hT _ (by simp [hi])) (hT _ (by simp [hj])) hC
    · have hp' : p.toList.Perm (List.range vs.length) := List.isPerm_iff.mp hp
      exact KasFin.intro F' N' (.head off) fun h3 c F3 N3 => h _ c h3 (perm_getD hp') F3 N3
end
end Mine
end

section
open PySem PySem.W PySem.Calls PyProof.Rows PySem.Spec
set_option maxRecDepth 100000
namespace Mine
section
variable {prog : Program} {w : World} {A : Around} {E : Value → Shared → Prop} {s : Shared} {h₀ h h' : Heap} {L l S : Addr} {m : Str → Option Value} {news : List (Addr × Obj)} {vs : List Value} {o : Obj} {n : Nat} {Q : Value → Shared → Prop}
noncomputable def valN (e : Int × Value) : Nat := match e.2 with | .int i _ => i.toNat | _ => 0
noncomputable def NatEl (e : Int × Value) : Prop := ∃ (k : Nat) (t : Tok), e = (hashInt k, Value.int (k : Int) t)
theorem ints_vals : ∀ {es : List (Int × Value)}, (∀ e ∈ es, NatEl e) → IntsAre (es.map (·.2)) (toZ (es.map valN))
  | [], _ => .nil
  | e :: es, h => by
    refine byC fun U0 => ?_
    obtain ⟨k, t, rfl⟩ := h _ (.head _)
    refine U0 ?_
    clear U0
    exact .cons _ t (ints_vals fun e he => h e (.tail _ he))
theorem news_keep {g : Heap} (N : News h₀ L g news) (hk : ∀ b o, b < g.objs.size → g.get? b = some o → h'.get? b = some o) : News h₀ L h' news := fun p hp => ⟨hk _ _ (Heap.lt_size (N p hp).1) (N p hp).1, (N p hp).2⟩
theorem fr_keep {g : Heap} (F : Fr h₀ L g m) (hk : ∀ b o, b < g.objs.size → g.get? b = some o → h'.get? b = some o) : Fr h₀ L h' m :=
  F.keeps fun b o e => hk b o (Heap.lt_size e) e
theorem set_ints {ks : List Nat} (hh : A.handled = none) (hu : A.units + 30 < cLine) (F : Fr h₀ L s.heap m) (N : News h₀ L s.heap news) (hm : (l, W.listOf vs.toArray n) ∈ news) (hI : IntsAre vs (toZ ks)) (h2 : ks.length ≤ 2)
    (h : ∀ S h' tk o es ds, SetIs w true o es → IntsAre (es.map (·.2)) (toZ ds) → ds.Nodup → (∀ x, x ∈ ds ↔ x ∈ ks) → Fr h₀ L h' m → News h₀ L h' ((S, o) :: news) → (∀ p ∈ news, p.1 < S) → Q (.ref S) { s with heap := h', toks := tk }) :
    wpAny (model prog w) A (call (.type "set") [.ref l]) Q E s := by
  have hl := ints_len hI
  refine call_set_is (pl := true) (Inv := fun i es => es.length ≤ i ∧ (∀ e ∈ es, NatEl e) ∧ (es.map valN).Nodup ∧ ∀ x, x ∈ es.map valN ↔ x ∈ ks.take i) hh (isList_of N hm) ⟨by simp, by simp, by simp, by simp⟩ ?_ fun h' tk o es hO hInv hS hk => ?_
  · intro A' E' i v es s₁ o₁ Q' hu' hv hS₁ hO₁ ⟨i1, i2, i3, i4⟩ hk fin
    refine byC fun U0 => ?_
    obtain ⟨k, t, eK, rfl⟩ := ints_at hI hv
    refine U0 ?_
    clear U0
    have hi : i < ks.length := by
      rcases Nat.lt_or_ge i ks.length with q | q
      · exact q
      · rw [List.getElem?_eq_none q] at eK; cases eK
    have htk : ks.take (i + 1) = ks.take i ++ [k] := by rw [List.take_add_one, eK]; rfl
    unfold setAdd
    refine wpAny_holding (wpAny_bind (wpAny_pyHash_int ?_))
    have h0 : (∃ t, (hashInt k, Value.int k t) ∈ es) → k ∈ es.map valN := fun ⟨t, hm⟩ => List.mem_map.mpr ⟨_, hm, by simp [valN]⟩
    refine add_int (s := { s₁ with toks := _ }) hS₁ hO₁ (by lia) (fun e he => let ⟨k, t, e'⟩ := i2 e he; ⟨k, t, e'⟩) (by lia) (fun hf => ?_) fun hf o' es' h1 hO' hp sb hS' => ?_
    · have hke := h0 hf
      refine fin false es o₁ s₁.heap _ hO₁ ⟨by lia, i2, i3, fun x => ?_⟩ (Heap.SameBut.refl _ _) hS₁
      rw [htk, List.mem_append, ← i4 x]
      simp only [List.mem_singleton]
      exact ⟨.inl, fun q => q.elim id fun q => q ▸ hke⟩
    · have hpv : (es'.map valN).Perm (k :: es.map valN) := by
        have := hp.map valN
        simpa [valN] using this
      have hnk : k ∉ es.map valN := fun q => by
        refine byC fun U0 => ?_
        obtain ⟨e, he, ek⟩ := List.mem_map.mp q
        obtain ⟨k', t', rfl⟩ := i2 e he
        simp [valN] at ek
        subst ek
        refine U0 ?_
        clear U0
        exact hf t' he
      refine fin true es' o' h1 _ hO' ⟨?_, fun e he => ?_, ?_, fun x => ?_⟩ sb hS'
      · rw [hp.length_eq]; simp; lia
      · rcases List.mem_cons.mp (hp.mem_iff.mp he) with rfl | he
        · exact ⟨k, t, rfl⟩
        · exact i2 e he
      · exact hpv.nodup_iff.mpr (List.nodup_cons.mpr ⟨hnk, i3⟩)
      · rw [hpv.mem_iff, htk, List.mem_append, List.mem_cons, ← i4 x]
        simp only [List.mem_singleton]
        exact or_comm
  · refine byC fun U0 => ?_
    obtain ⟨i1, i2, i3, i4⟩ := hInv
    refine U0 ?_
    clear U0
    have hL : L ≠ s.heap.objs.size := fun e => by obtain ⟨_, _, _, hL, _⟩ := F.ns; exact Nat.lt_irrefl _ (e ▸ Heap.lt_size hL)
    refine h _ h' tk o es _ hO (ints_vals i2) i3 (fun x => by rw [i4 x, hl, List.take_of_length_le (Nat.le_refl _)]) (fr_keep F hk) (fun p hp => ?_) fun p hp => Heap.lt_size (N p hp).1
    rcases List.mem_cons.mp hp with rfl | hp
    · refine ⟨hS, hL.symm, ?_⟩
      cases hq : h₀.get? s.heap.objs.size with
      | none => rfl
      | some o' => exact absurd (Heap.lt_size (F.keep _ _ hq)) (Nat.lt_irrefl _)
    · exact news_keep N hk p hp
noncomputable def TupKey (news : List (Addr × Obj)) (v : Value) : Prop := ∃ a d, v = .ref a ∧ KIn news 7 (.ref a) d
theorem set_tups (hh : A.handled = none) (hu : A.units + 60 < cLine) (F : Fr h₀ L s.heap m) (N : News h₀ L s.heap news) (hm : (l, W.listOf vs.toArray n) ∈ news) (hT : ∀ v ∈ vs, TupKey news v) (h2 : vs.length ≤ 2)
    (h : ∀ S h' tk o es, SetIs w false o es → (∀ v ∈ es.map (·.2), v ∈ vs) → Fr h₀ L h' m → News h₀ L h' ((S, o) :: news) → (∀ p ∈ news, p.1 < S) → Q (.ref S) { s with heap := h', toks := tk }) :
    wpAny (model prog w) A (call (.type "set") [.ref l]) Q E s := by
  refine call_set_is (pl := false) (Inv := fun i es => es.length ≤ i ∧ ∀ e ∈ es, e.2 ∈ vs) hh (isList_of N hm) ⟨by simp, by simp⟩ ?_ fun h' tk o es hO hInv hS hk => ?_
  · intro A' E' i v es s₁ o₁ Q' hu' hv hS₁ hO₁ ⟨i1, i2⟩ hk fin
    have hi : i < vs.length := by
      rcases Nat.lt_or_ge i vs.length with q | q
      · exact q
      · rw [List.getElem?_eq_none q] at hv; cases hv
    have N₁ : News h₀ L s₁.heap news := news_keep N hk
    refine byC fun U0 => ?_
    obtain ⟨a, d, rfl, kd⟩ := hT v (List.mem_of_getElem? hv)
    refine U0 ?_
    clear U0
    unfold setAdd
    refine wpAny_holding (wpAny_bind (hash_key (kd.kat N₁) (by lia) ?_))
    refine add_ref (s := { s₁ with toks := _ }) hS₁ hO₁ (by lia) (fun e he => ?_) (kd.kat N₁) (by lia) ?_ fun o' es' h1 hO' hp sb hS' => ?_
    · refine byC fun U0 => ?_
      obtain ⟨b, d', eb, kb⟩ := hT _ (i2 e he)
      refine U0 ?_
      clear U0
      exact ⟨b, d', eb, kb.kat N₁⟩
    · exact fin false es o₁ s₁.heap _ hO₁ ⟨by lia, i2⟩ (Heap.SameBut.refl _ _) hS₁
    · refine fin true es' o' h1 _ hO' ⟨by rw [hp.length_eq]; simp; lia, fun e he => ?_⟩ sb hS'
      rcases List.mem_cons.mp (hp.mem_iff.mp he) with rfl | he
      · exact List.mem_of_getElem? hv
      · exact i2 e he
  · obtain ⟨i1, i2⟩ := hInv
    have hL : L ≠ s.heap.objs.size := fun e => by obtain ⟨_, _, _, hL, _⟩ := F.ns; exact Nat.lt_irrefl _ (e ▸ Heap.lt_size hL)
    refine h _ h' tk o es hO (fun v hv => ?_) (fr_keep F hk) (fun p hp => ?_) fun p hp => Heap.lt_size (N p hp).1
    · refine byC fun U0 => ?_
      obtain ⟨e, he, rfl⟩ := List.mem_map.mp hv
      refine U0 ?_
      clear U0
      exact i2 e he
    · rcases List.mem_cons.mp hp with rfl | hp
      · refine ⟨hS, hL.symm, ?_⟩
        cases hq : h₀.get? s.heap.objs.size with
        | none => rfl
        | some o' => exact absurd (Heap.lt_size (F.keep _ _ hq)) (Nat.lt_irrefl _)
      · exact news_keep N hk p hp
theorem sorted_seti {es : List (Int × Value)} {ds : List Nat} (hh : A.handled = none) (F : Fr h₀ L s.heap m) (N : News h₀ L s.heap news) (hS : (S, o) ∈ news) (hO : SetIs w true o es) (hI : IntsAre (es.map (·.2)) (toZ ds))
    (h : ∀ D c h' tk vs' ds', IntsAre vs' (toZ ds') → ds'.Perm ds → Fr h₀ L h' m → News h₀ L h' ((D, W.listOf (List.toArray vs') c) :: news) → (∀ p ∈ news, p.1 < D) → Q (.ref D) { s with heap := h', toks := tk }) :
    wpAny (model prog w) A (call (.builtin "sorted") [.ref S]) Q E s := by
  refine sorted_set hh F N hS hO fun D h' tk dr vs F' N' lt hp hdr => ?_
  rw [hdr rfl]
  have hnat : ∀ v ∈ es.map (·.2), ∃ (k : Nat) (t : Tok), v = .int (k : Int) t := fun v hv => by
    refine byC fun U0 => ?_
    obtain ⟨i, hi⟩ := List.mem_iff_getElem?.mp hv
    obtain ⟨k, t, _, e⟩ := ints_at hI hi
    refine U0 ?_
    clear U0
    exact ⟨k, t, e⟩
  refine byC fun U0 => ?_
  obtain ⟨ks, iks, _⟩ := ints_ex (ys := vs) fun j y hy => hnat y (hp.mem_iff.mp (List.mem_of_getElem? hy))
  refine U0 ?_
  clear U0
  have vn : ∀ {us : List Value} {qs : List Nat}, IntsAre us (toZ qs) → qs = us.map fun v => valN (0, v) := by
    intro us qs
    induction us generalizing qs with
    | nil => intro i; cases qs with
      | nil => rfl
      | cons _ _ => cases i
    | cons u us ih => intro i; cases qs with
      | nil => cases i
      | cons q qs => cases i with
        | cons _ t r => rw [List.map_cons, ← ih r]; rfl
  have hkp : ks.Perm ds := by
    rw [vn iks, vn hI]
    exact hp.map _
  have hlen : vs.length ≤ 2 := by
    refine byC fun U0 => ?_
    obtain ⟨_, _, _, _, _, _, h2, _, _⟩ := hO
    refine U0 ?_
    clear U0
    rw [hp.length_eq, List.length_map]; exact h2
  refine lsort_ints (s := { s with heap := h', toks := tk, drawn := s.drawn }) F' N' lt iks (by lia) fun vs' ns' c h2 iv pv _ F2 N2 => ?_
  refine byC fun U0 => ?_
  obtain ⟨qs, rfl⟩ : ∃ qs : List Nat, ns' = toZ qs := by
    refine ⟨ns'.map Int.toNat, ?_⟩
    have : ∀ z ∈ ns', (0 : Int) ≤ z := fun z hz => by
      have := pv.mem_iff.mp hz
      obtain ⟨k, _, rfl⟩ := List.mem_map.mp this
      exact Int.natCast_nonneg k
    simp only [toZ, List.map_map]
    symm
    calc ns'.map ((fun n : Nat => (n : Int)) ∘ Int.toNat) = ns'.map id := List.map_congr_left fun z hz => by have := this z hz; simp; lia
      _ = ns' := List.map_id _
  refine U0 ?_
  clear U0
  have hq : qs.Perm ks := by
    have := pv.map Int.toNat
    simpa [toZ, List.map_map, Function.comp_def] using this
  exact h D c h2 tk vs' qs iv (hq.trans hkp) F2 N2 lt
theorem sorted_sett {es : List (Int × Value)} (hh : A.handled = none) (hu : A.units + 30 < cLine) (F : Fr h₀ L s.heap m) (N : News h₀ L s.heap news) (hS : (S, o) ∈ news) (hO : SetIs w false o es) (hT : ∀ v ∈ es.map (·.2), TupSI news v)
    (h : ∀ D c h' tk dr vs', (∀ v ∈ vs', v ∈ es.map (·.2)) → vs'.length ≤ 2 → Fr h₀ L h' m → News h₀ L h' ((D, W.listOf (List.toArray vs') c) :: news) → (∀ p ∈ news, p.1 < D) → Q (.ref D) { s with heap := h', toks := tk, drawn := dr }) :
    wpAny (model prog w) A (call (.builtin "sorted") [.ref S]) Q E s := by
  have hlen : es.length ≤ 2 := by
    refine byC fun U0 => ?_
    obtain ⟨_, _, _, _, _, _, h2, _, _⟩ := hO
    refine U0 ?_
    clear U0
    exact h2
  refine sorted_set hh F N hS hO fun D h' tk dr vs F' N' lt hp _ => ?_
  refine lsort_tups (s := { s with heap := h', toks := tk, drawn := dr }) (by show A.units + 1 + 17 < cLine; lia) F' N' lt (fun v hv => hT v (hp.mem_iff.mp hv)) (by rw [hp.length_eq, List.length_map]; lia) fun vs' c h2 pv F2 N2 => ?_
  exact h D c h2 tk dr vs' (fun v hv => hp.mem_iff.mp (pv.mem_iff.mp hv)) (by rw [pv.length_eq, hp.length_eq, List.length_map]; exact hlen) F2 N2 lt
end
end Mine
end

section
open PySem PySem.W PySem.Calls PyProof.Rows PySem.Spec
set_option maxRecDepth 100000
namespace Mine
noncomputable def root (ps : List Nat) (a : Nat) : Nat := WellFounded.fix Nat.lt_wfRel.wf (C := fun _ => Nat) (fun a ih => if h : ps.getD a a < a then ih (ps.getD a a) h else a) a
theorem root_eq {ps : List Nat} {a : Nat} : root ps a = if _h : ps.getD a a < a then root ps (ps.getD a a) else a := WellFounded.fix_eq ..
noncomputable def Par (ps : List Nat) : Prop := ∀ i, i < ps.length → ps.getD i i ≤ i
theorem root_step {ps : List Nat} {a : Nat} (h : ps.getD a a < a) : root ps a = root ps (ps.getD a a) := by
  rw [root_eq, dif_pos h]
theorem root_stop {ps : List Nat} {a : Nat} (h : ¬ ps.getD a a < a) : root ps a = a := by
  rw [root_eq, dif_neg h]
theorem getD_lt {ps : List Nat} {a : Nat} (h : a < ps.length) : ps.getD a a = ps[a] := by simp [h]
theorem root_le {ps : List Nat} : ∀ a, root ps a ≤ a := by
  intro a
  induction a using Nat.strongRecOn with
  | ind a ih =>
    by_cases h : ps.getD a a < a
    · rw [root_step h]; have := ih _ h; lia
    · rw [root_stop h]; exact Nat.le_refl _
structure Small (σ : HS) : Prop where
  par : σ.par.length ≤ 1000
  lots : σ.lots.length = σ.par.length
  nodes : σ.nodes.length ≤ 1000
  lot : ∀ i, (σ.lots.getD i []).length ≤ 100000
  keys : σ.keys.length ≤ 1000
  known : σ.known.length ≤ 100000
  ab : ∀ c, (σ.above c).length ≤ 100000
  wait : σ.wait.length ≤ 100000
  big : σ.big ≤ 100000
noncomputable def mkU (σ : HS) : HS := { σ with par := σ.par ++ [σ.par.length], lots := σ.lots ++ [[σ.lots.length]] }
noncomputable def unite (σ : HS) (kept gone : Nat) : HS := { σ with par := σ.par.set gone kept, lots := σ.lots.set kept (σ.lots.getD kept [] ++ σ.lots.getD gone []), big := σ.big + 1 }
noncomputable def joined (σ : HS) (k g : Nat) : HS := { nodes := σ.nodes, par := σ.par.set g k, lots := σ.lots.set k (σ.lots.getD k [] ++ σ.lots.getD g []), known := σ.known, keys := σ.keys.filter fun c => decide (c ≠ g), above := fun x => if x = k then σ.above k ++ σ.above g else σ.above x, wait := σ.wait ++ σ.above g, big := σ.big + 3, nums := σ.nums, wl := σ.wl, dl := σ.dl }
noncomputable def nojoin (σ : HS) : HS := { σ with big := σ.big + 1 }
noncomputable abbrev canon (ps : List Nat) (nd : Nd) : Nd := (nd.1, nd.2.map (root ps))
noncomputable def lookS (σ : HS) (nd : Nd) (n : Nat) : HS := match kget σ.known nd with
  | none => { σ with known := σ.known ++ [(nd, n)] }
  | some o => if root σ.par o = root σ.par n then σ else joined σ (min (root σ.par o) (root σ.par n)) (max (root σ.par o) (root σ.par n))
theorem lookS_join {σ : HS} {nd : Nd} {n o : Nat} (e : kget σ.known nd = some o) (h : root σ.par o ≠ root σ.par n) : lookS σ nd n = joined σ (min (root σ.par o) (root σ.par n)) (max (root σ.par o) (root σ.par n)) := by
  simp only [lookS, e]; exact if_neg h
theorem lookS_same {σ : HS} {nd : Nd} {n o : Nat} (e : kget σ.known nd = some o) (h : root σ.par o = root σ.par n) : lookS σ nd n = σ := by
  simp only [lookS, e]; exact if_pos h
theorem lookS_new {σ : HS} {nd : Nd} {n : Nat} (e : kget σ.known nd = none) : lookS σ nd n = { σ with known := σ.known ++ [(nd, n)] } := by
  simp only [lookS, e]
end Mine
end

section
open PySem PySem.W PySem.Calls PyProof.Rows PySem.Spec
namespace Mine
section
variable {α β γ δ ε ζ η : Type}
theorem pr2 {P : α × β → Prop} (h : ∀ a b, P (a, b)) : ∀ x, P x := fun x => h x.1 x.2
theorem pr3 {P : α × β × γ → Prop} (h : ∀ a b c, P (a, b, c)) : ∀ x, P x := fun x => h x.1 x.2.1 x.2.2
theorem pr4 {P : α × β × γ × δ → Prop} (h : ∀ a b c d, P (a, b, c, d)) : ∀ x, P x := fun x => h x.1 x.2.1 x.2.2.1 x.2.2.2
theorem pr7 {P : α × β × γ × δ × ε × ζ × η → Prop} (h : ∀ a b c d e f g, P (a, b, c, d, e, f, g)) : ∀ x, P x := fun x => h x.1 x.2.1 x.2.2.1 x.2.2.2.1 x.2.2.2.2.1 x.2.2.2.2.2.1 x.2.2.2.2.2.2
end
theorem room0 {a k c : Nat} (h : a + k < c) : a < c := Nat.lt_of_le_of_lt (Nat.le_add_right a k) h
theorem room1 {a j k c : Nat} (h : a + k < c) (hj : j ≤ k) : a + j < c := Nat.lt_of_le_of_lt (Nat.add_le_add_left hj a) h
theorem room2 {a i j k c : Nat} (h : a + k < c) (hj : i + j ≤ k) : a + i + j < c := by rw [Nat.add_assoc]; exact room1 h hj
theorem room3 {a i i' j k c : Nat} (h : a + k < c) (hj : i + i' + j ≤ k) : a + i + i' + j < c := by rw [Nat.add_assoc a]; exact room2 h hj
theorem unit1 {a j k : Nat} (h : a + k < 1000) (hj : j ≤ 8900) : a + j < cLine := by rw [cLine_is]; lia
theorem unit0 {a k : Nat} (h : a + k < 1000) : a < cLine := unit1 (j := 0) h (Nat.zero_le _)
theorem unit2 {a i j k : Nat} (h : a + k < 1000) (hj : i + j ≤ 8900) : a + i + j < cLine := by rw [Nat.add_assoc]; exact unit1 h hj
theorem unit3 {a i i' j k : Nat} (h : a + k < 1000) (hj : i + i' + j ≤ 8900) : a + i + i' + j < cLine := by rw [Nat.add_assoc a]; exact unit2 h hj
end Mine
end

section
open PySem PySem.W PySem.Calls PyProof.Rows PySem.Spec
namespace Mine
section
variable {prog : Program} {w : World} {M : Model} {A : Around} {E : Value → Shared → Prop} {s : Shared} {h₀ : Heap} {L a b : Addr} {m : Str → Option Value} {cn : Str} {cs : Scope} {ccd v : Value} {cl : List (Str × Addr)} {news : List (Addr × Obj)} {K : Frag} {x name : Str} {xp pos apos : Pos}
noncomputable def isLoc : Option NameKind → Bool | some .local => true | _ => false
noncomputable def nameOf : Expr → Option Str | .Name x _ => some x | _ => none
noncomputable def has : Bool → Option Value → Option (List Value) → Option (List Value) | true, some v, some vs => some (v :: vs) | _, _, _ => none
noncomputable def valsL (m : Str → Option Value) (env : Env) : List Expr → Option (List Value)
  | [] => some []
  | e :: r => (nameOf e).bind fun x => has (isLoc (env.kindOf x) && !(x == ("__debug__" : Str))) (m x) (valsL m env r)
theorem valsL_cons {m : Str → Option Value} {env : Env} {e : Expr} {r : List Expr} {vs : List Value} (h : valsL m env (e :: r) = some vs) :
    ∃ x p v us, e = .Name x p ∧ (isLoc (env.kindOf x) && !(x == ("__debug__" : Str))) = true ∧ m x = some v ∧ valsL m env r = some us ∧ vs = v :: us := by
  rw [valsL, Option.bind_eq_some_iff] at h
  obtain ⟨x, hx, h⟩ := h
  unfold nameOf at hx
  split at hx
  · cases hx
    unfold has at h
    split at h
    · rename_i h1 h2 h3
      cases h
      exact ⟨_, _, _, _, rfl, h1, h2, h3, rfl⟩
    · cases h
  · cases hx
theorem isLoc_of {k : Option NameKind} (h : isLoc k = true) : k = some .local := by
  unfold isLoc at h
  split at h
  · rfl
  · cases h
theorem hideQ {α : Type} {M : Model} {A : Around} {t : Sem α} {Q : α → Shared → Prop} {E : Value → Shared → Prop} {s : Shared} (h : let Q' := Q; wpAny M A t Q' E s) : wpAny M A t Q E s := h
theorem hideA {α : Type} {M : Model} {A : Around} {t : Sem α} {Q : α → Shared → Prop} {E : Value → Shared → Prop} {s : Shared} (h : let A' := A; wpAny M A' t Q E s) : wpAny M A t Q E s := h
theorem hideF {M : Model} {A : Around} {env : Env} {body : List Stmt} {Q : Flow → Shared → Prop} {E : Value → Shared → Prop} {s : Shared} (h : let e := env; let A' := A.deeper e; wpAny M A' (execs body e) Q E s) : wpAny M (A.deeper env) (execs body env) Q E s := h
theorem hideE {M : Model} {A : Around} {env : Env} {body : List Stmt} {Q : Flow → Shared → Prop} {E : Value → Shared → Prop} {s : Shared} (h : let e := env; wpAny M A (execs body e) Q E s) : wpAny M A (execs body env) Q E s := h
theorem hideS {α : Type} {M : Model} {A : Around} {t : Sem α} {Q : α → Shared → Prop} {E : Value → Shared → Prop} {s : Shared} (h : let s' := s; wpAny M A t Q E s') : wpAny M A t Q E s := h
theorem nameM {g h : Heap} {L' : Addr} {m : Str → Option Value} {P : Prop} (F : Fr g L' h m) (k : let m' := m; Fr g L' h m' → P) : P := k F
theorem args_names {es : List Expr} {vs : List Value} {Q : List Value → Shared → Prop} (F : Fr h₀ L s.heap m) (hv : valsL m (envX cn cs L a ccd cl) es = some vs) (h : Q vs s) (hk : cs.kind = .function := by rfl) :
    wpAny M A (spliced (backTo pos (starEach es (envX cn cs L a ccd cl)))) Q E s := by
  induction es generalizing vs Q with
  | nil => cases hv; exact args_nil h
  | cons e r ih =>
    obtain ⟨x, p, v, us, rfl, hb, hm, hr, rfl⟩ := valsL_cons hv
    rw [Bool.and_eq_true, Bool.not_eq_true'] at hb
    exact args_cons (nameX_L F hm (ih hr h) hk (isLoc_of hb.1) hb.2)
variable {es : List DictEntry} {n : Nat} {ox : Obj} {C : Addr} {attr : Option Value} {f : Addr}
theorem attr_L {Q : Value → Shared → Prop} (F : Fr h₀ L s.heap m) (hx : m x = some (.ref b)) (X₀ : K.In h₀) (I : PySem.W.InstAt s.heap b ox C (some (dictOf es n))) (hg : plainGet K C name = true) (hh : hasDictIn K C = true)
    (ha : findIn K (.ref C) name = some attr) (hn : noGet K attr = true) (hl : getL name es = some (some v)) (hv : handedIn v = true) (h : Q v { s with toks := s.toks + 1 })
    (hk : cs.kind = .function := by rfl) (hy : (envX cn cs L a ccd cl).kindOf x = some .local := by rfl) (hd : (x == ("__debug__" : Str)) = false := by decide) :
    wpAny (model prog w) A (eval (.Attribute (.Name x xp) name pos) (envX cn cs L a ccd cl)) Q E s :=
  Attribute_Name_ (nameX_L F hx (get_own F X₀ I hg hh ha hn hl hv h) hk hy hd)
theorem attr_C {Q : Value → Shared → Prop} {c : Addr} {o : Obj} (N : News h₀ L s.heap news) (hc : cl.lookup x = some c) (hm : (c, o) ∈ news) (ho : o.data = .cell (some (.ref b))) (F : Fr h₀ L s.heap m) (X₀ : K.In h₀) (I : PySem.W.InstAt s.heap b ox C (some (dictOf es n))) (hg : plainGet K C name = true) (hh : hasDictIn K C = true)
    (ha : findIn K (.ref C) name = some attr) (hn : noGet K attr = true) (hl : getL name es = some (some v)) (hv : handedIn v = true) (h : Q v { s with toks := s.toks + 1 })
    (hk : cs.kind = .function := by rfl) (hy : (envX cn cs L a ccd cl).kindOf x = some .cell := by rfl) (hd : (x == ("__debug__" : Str)) = false := by decide) :
    wpAny (model prog w) A (eval (.Attribute (.Name x xp) name pos) (envX cn cs L a ccd cl)) Q E s :=
  Attribute_Name_ (nameX_C N hc hm ho (get_own F X₀ I hg hh ha hn hl hv h) hk hy hd)
theorem names_plain {env : Env} {xs : List Expr} {vs : List Value} (hv : valsL m env xs = some vs) : (backTo pos (starEach xs env)).any (·.1) = false := by
  induction xs generalizing vs with
  | nil => rfl
  | cons e r ih =>
    obtain ⟨x, p, v, us, rfl, hb, hm, hr, rfl⟩ := valsL_cons hv
    exact ih hr
theorem callWith_names {args : List Expr} {vs first : List Value} {g : Value} {Q : Value → Shared → Prop} (F : Fr h₀ L s.heap m) (X : K.In s.heap) (hkp : keepIn K g = true) (hv : valsL m (envX cn cs L a ccd cl) args = some vs)
    (h : wpAny M A (call g (first ++ vs)) Q E s) (hk : cs.kind = .function := by rfl) :
    wpAny M A (callWith pos g first (backTo pos (starEach args (envX cn cs L a ccd cl))) []) Q E s := by
  cases args with
  | nil => cases hv; exact callWith_K0 X hkp h
  | cons e r =>
    have hp := names_plain (pos := pos) hv
    have ha := args_names (pos := pos) (Q := fun vs s₁ => K.In s₁.heap ∧ wpAny M A (call g (first ++ vs)) Q E s₁) F hv ⟨X, h⟩ hk (E := E) (A := A) (M := M)
    obtain ⟨x, p, v, us, rfl, -⟩ := valsL_cons hv
    exact callWith_K X hkp ha rfl hp
theorem callWith_names1 {args : List Expr} {vs : List Value} {g self : Value} {Q : Value → Shared → Prop} (F : Fr h₀ L s.heap m) (X₀ : K.In h₀) (hkp : keepIn K g = true) (hv : valsL m (envX cn cs L a ccd cl) args = some vs)
    (h : wpAny M A (call g (self :: vs)) Q E s) (hk : cs.kind = .function := by rfl) :
    wpAny M A (callWith pos g [self] (backTo pos (starEach args (envX cn cs L a ccd cl))) []) Q E s := callWith_names F (X₀.keeps F.keep) hkp hv h hk
theorem callWith_names0 {args : List Expr} {vs : List Value} {g : Value} {Q : Value → Shared → Prop} (F : Fr h₀ L s.heap m) (X₀ : K.In h₀) (hkp : keepIn K g = true) (hv : valsL m (envX cn cs L a ccd cl) args = some vs)
    (h : wpAny M A (call g vs) Q E s) (hk : cs.kind = .function := by rfl) :
    wpAny M A (callWith pos g [] (backTo pos (starEach args (envX cn cs L a ccd cl))) []) Q E s := callWith_names F (X₀.keeps F.keep) hkp hv h hk
theorem meth_L {args : List Expr} {vs : List Value} {Q : Value → Shared → Prop} (F : Fr h₀ L s.heap m) (hx : m x = some (.ref b)) (X₀ : K.In h₀) (I : PySem.W.InstAt s.heap b ox C (some (dictOf es n))) (hg : plainGet K C name = true)
    (hf : findIn K (.ref C) name = some (some (.ref f))) (ht : isFn K (.ref f) = true) (hl : getL name es = some none) (hkp : keepIn K (.ref f) = true) (hv : valsL m (envX cn cs L a ccd cl) args = some vs)
    (h : wpAny (model prog w) A (call (.ref f) (.ref b :: vs)) Q E s)
    (hk : cs.kind = .function := by rfl) (hy : (envX cn cs L a ccd cl).kindOf x = some .local := by rfl) (hd : (x == ("__debug__" : Str)) = false := by decide) (pl : Sem Bool)
    (he : eval (.Call (.Attribute (.Name x xp) name apos) args [] pos) (envX cn cs L a ccd cl) = (do
      let ov ← eval (.Name x xp) (envX cn cs L a ccd cl)
      standAt apos.atName
      let (f, first) ← holding [ov] (getMethod ov name pl)
      callWith pos f first (backTo pos (starEach args (envX cn cs L a ccd cl))) [])) :
    wpAny (model prog w) A (eval (.Call (.Attribute (.Name x xp) name apos) args [] pos) (envX cn cs L a ccd cl)) Q E s :=
  MethodCall_ (pl := pl) (nameX_L F hx (method_inst F X₀ I hg hf ht hl (callWith_names F (X₀.keeps F.keep) hkp hv h hk)) hk hy hd) he
end
end Mine
end

section
open PySem PySem.W PySem.Calls PyProof.Rows PySem.Spec
set_option maxRecDepth 100000
namespace Mine
theorem root_fix {ps : List Nat} : ∀ a, ¬ ps.getD (root ps a) (root ps a) < root ps a := by
  intro a
  induction a using Nat.strongRecOn with
  | ind a ih =>
    by_cases h : ps.getD a a < a
    · rw [root_step h]; exact ih _ h
    · rw [root_stop h]; exact h
theorem root_root {ps : List Nat} (a : Nat) : root ps (root ps a) = root ps a := root_stop (root_fix a)
theorem root_ge {ps : List Nat} {a : Nat} (h : ps.length ≤ a) : root ps a = a := root_stop (by
  have : ps.getD a a = a := by simp [h]
  lia)
theorem getD_set {α : Type} {ps : List α} {g i : Nat} {k d : α} (hg : g < ps.length) : (ps.set g k).getD i d = if i = g then k else ps.getD i d := by
  by_cases h : i = g
  · subst h; rw [if_pos rfl]; simp [hg]
  · rw [if_neg h, List.getD_eq_getElem?_getD, List.getD_eq_getElem?_getD, List.getElem?_set_ne (fun e => h e.symm)]
theorem root_set {ps : List Nat} {k g : Nat} (hg : g < ps.length) (hkg : k < g) (rk : root ps k = k) (rg : root ps g = g) : ∀ i, root (ps.set g k) i = if root ps i = g then k else root ps i := by
  intro i
  induction i using Nat.strongRecOn with
  | ind i ih =>
    have e : (ps.set g k).getD i i = if i = g then k else ps.getD i i := getD_set hg
    by_cases h : i = g
    · subst h
      rw [if_pos rfl] at e
      rw [root_step (by rw [e]; exact hkg), e, ih k hkg, rk, rg, if_pos rfl, if_neg (by lia)]
    · rw [if_neg h] at e
      by_cases q : ps.getD i i < i
      · rw [root_step (ps := ps.set g k) (by rw [e]; exact q), e, ih _ q, ← root_step q]
      · rw [root_stop (ps := ps.set g k) (by rw [e]; exact q), root_stop q, if_neg h]
theorem par_set {ps : List Nat} {k g : Nat} (hp : Par ps) (hg : g < ps.length) (hkg : k < g) : Par (ps.set g k) := fun i hi => by
  rw [List.length_set] at hi
  rw [getD_set hg]
  by_cases h : i = g
  · rw [if_pos h]; lia
  · rw [if_neg h]; exact hp i hi
theorem root_app {ps : List Nat} : ∀ i, root (ps ++ [ps.length]) i = root ps i := by
  intro i
  induction i using Nat.strongRecOn with
  | ind i ih =>
    have e : (ps ++ [ps.length]).getD i i = ps.getD i i := by
      rcases Nat.lt_trichotomy i ps.length with h | h | h
      · simp [List.getD_eq_getElem?_getD, List.getElem?_append_left h]
      · subst h; simp
      · simp [List.getD_eq_getElem?_getD, List.getElem?_append_right (Nat.le_of_lt h), show ¬ i < ps.length by lia, show ¬ i - ps.length = 0 by lia, show ¬ i < ps.length + 1 by lia]
    by_cases q : ps.getD i i < i
    · rw [root_step (ps := ps ++ [ps.length]) (by rw [e]; exact q), e, ih _ q, ← root_step q]
    · rw [root_stop (ps := ps ++ [ps.length]) (by rw [e]; exact q), root_stop q]
theorem par_app {ps : List Nat} (hp : Par ps) : Par (ps ++ [ps.length]) := fun i hi => by
  rw [List.length_append] at hi
  simp only [List.length_cons, List.length_nil] at hi
  rcases Nat.lt_or_ge i ps.length with h | h
  · have := hp i h
    simpa [List.getD_eq_getElem?_getD, List.getElem?_append_left h] using this
  · have : i = ps.length := by lia
    subst this; simp
theorem sum_split {l : List Nat} (f : Nat → Nat) : l.Nodup → ∀ {c : Nat}, c ∈ l → (l.map f).sum = f c + ((l.filter fun x => decide (x ≠ c)).map f).sum := by
  induction l with
  | nil => intro _ c h; cases h
  | cons x r ih =>
    intro hn c hc
    rw [List.nodup_cons] at hn
    by_cases e : x = c
    · subst e
      have : r.filter (fun y => decide (y ≠ x)) = r := List.filter_eq_self.mpr fun y hy => by
        rw [decide_eq_true_eq]; intro q; exact hn.1 (q ▸ hy)
      rw [List.filter_cons_of_neg (by simp), this, List.map_cons, List.sum_cons]
    · rw [List.filter_cons_of_pos (by simpa using e), List.map_cons, List.sum_cons, List.map_cons, List.sum_cons, ih hn.2 (by
        rcases List.mem_cons.mp hc with q | q
        · exact absurd q.symm e
        · exact q)]
      lia
theorem sum_same {l : List Nat} {f g : Nat → Nat} (h : ∀ x ∈ l, f x = g x) : (l.map f).sum = (l.map g).sum := by
  rw [List.map_congr_left h]
theorem sum_le {l : List Nat} {f : Nat → Nat} {c : Nat} (h : c ∈ l) : f c ≤ (l.map f).sum := by
  induction l with
  | nil => cases h
  | cons x r ih =>
    rw [List.map_cons, List.sum_cons]
    rcases List.mem_cons.mp h with q | q
    · subst q; lia
    · have := ih q; lia
theorem len_filter {l : List Nat} (hn : l.Nodup) {c : Nat} (hc : c ∈ l) : (l.filter fun x => decide (x ≠ c)).length + 1 = l.length := by
  have h := sum_split (fun _ => 1) hn hc
  have e : ∀ l : List Nat, (l.map fun _ => 1).sum = l.length := fun l => by induction l <;> simp_all <;> lia
  rw [e, e] at h
  lia
noncomputable def abSum (σ : HS) : Nat := (σ.keys.map fun c => (σ.above c).length).sum
noncomputable def loSum (σ : HS) : Nat := (σ.keys.map fun c => (σ.lots.getD c []).length).sum
noncomputable def pot (σ : HS) : Nat := σ.wait.length + σ.known.length + σ.big + 30 * σ.keys.length
noncomputable def mu (σ : HS) : Nat := σ.wait.length + 30 * σ.keys.length
structure Ok (B : Nat) (σ : HS) : Prop where
  len : σ.par.length ≤ 12
  par : Par σ.par
  nodes : σ.nodes.length = σ.par.length
  nums : σ.nums = σ.nodes
  wl : σ.wl = σ.nodes.length
  dl : σ.dl = σ.nodes.length
  lots : σ.lots.length = σ.par.length
  kids : ∀ (n : Nat) (nd : Nd), σ.nodes[n]? = some nd → nd.2.length ≤ 2 ∧ ∀ k ∈ nd.2, k < n
  roots : ∀ i, i < σ.par.length → root σ.par i ∈ σ.keys
  keys : ∀ c ∈ σ.keys, c < σ.par.length ∧ root σ.par c = c
  keysN : σ.keys.Nodup
  known : ∀ x ∈ σ.known, x.2 < σ.par.length
  above : ∀ c ∈ σ.keys, ∀ n ∈ σ.above c, n < σ.par.length
  wait : ∀ n ∈ σ.wait, n < σ.par.length
  ab : ∀ c, (σ.above c).length ≤ 24
  lot : ∀ i, (σ.lots.getD i []).length ≤ 12
  abs : abSum σ ≤ 2 * σ.par.length
  los : loSum σ ≤ σ.par.length
  pot : pot σ ≤ B
theorem Ok.small {B : Nat} {σ : HS} (O : Ok B σ) (hB : B ≤ 1000) : Small σ := by
  have h := O.pot
  unfold Mine.pot at h
  exact ⟨Nat.le_trans O.len (by lia), O.lots, by rw [O.nodes]; exact Nat.le_trans O.len (by lia), fun i => Nat.le_trans (O.lot i) (by lia), by lia, by lia, fun c => Nat.le_trans (O.ab c) (by lia), by lia, by lia⟩
theorem Ok.mono {B C : Nat} {σ : HS} (O : Ok B σ) (h : B ≤ C) : Ok C σ := { O with pot := Nat.le_trans O.pot h }
theorem joined_keys {σ : HS} {k g x : Nat} : x ∈ (joined σ k g).keys ↔ x ∈ σ.keys ∧ x ≠ g := by simp [joined]
theorem Ok.joined {B : Nat} {σ : HS} (O : Ok B σ) {k g : Nat} (hk : k ∈ σ.keys) (hg : g ∈ σ.keys) (hkg : k < g) :
    Ok B (joined σ k g) ∧ Mine.pot (Mine.joined σ k g) + 3 ≤ Mine.pot σ ∧ mu (Mine.joined σ k g) + 6 ≤ mu σ := by
  obtain ⟨gl, rg⟩ := O.keys g hg
  obtain ⟨kl, rk⟩ := O.keys k hk
  have rs := root_set gl hkg rk rg
  have hk' : k ∈ σ.keys.filter fun c => decide (c ≠ g) := List.mem_filter.mpr ⟨hk, by rw [decide_eq_true_eq]; lia⟩
  have hn' : (σ.keys.filter fun c => decide (c ≠ g)).Nodup := O.keysN.filter _
  have lk := len_filter O.keysN hg
  have a1 := sum_split (fun c => (σ.above c).length) O.keysN hg
  have a2 := sum_split (fun c => (σ.above c).length) hn' hk'
  have a3 := sum_split (fun c => ((Mine.joined σ k g).above c).length) hn' hk'
  have a4 : ((((σ.keys.filter fun c => decide (c ≠ g)).filter fun x => decide (x ≠ k))).map fun c => ((Mine.joined σ k g).above c).length).sum = ((((σ.keys.filter fun c => decide (c ≠ g)).filter fun x => decide (x ≠ k))).map fun c => (σ.above c).length).sum :=
    sum_same fun x hx => by
      have : x ≠ k := by simpa using (List.mem_filter.mp hx).2
      simp [Mine.joined, this]
  have a5 : ((Mine.joined σ k g).above k).length = (σ.above k).length + (σ.above g).length := by simp [Mine.joined]
  have b1 := sum_split (fun c => (σ.lots.getD c []).length) O.keysN hg
  have b2 := sum_split (fun c => (σ.lots.getD c []).length) hn' hk'
  have b3 := sum_split (fun c => ((Mine.joined σ k g).lots.getD c []).length) hn' hk'
  have kl2 : k < σ.lots.length := by rw [O.lots]; exact kl
  have b4 : ((((σ.keys.filter fun c => decide (c ≠ g)).filter fun x => decide (x ≠ k))).map fun c => ((Mine.joined σ k g).lots.getD c []).length).sum = ((((σ.keys.filter fun c => decide (c ≠ g)).filter fun x => decide (x ≠ k))).map fun c => (σ.lots.getD c []).length).sum :=
    sum_same fun x hx => by
      have : x ≠ k := by simpa using (List.mem_filter.mp hx).2
      show ((σ.lots.set k _).getD x []).length = _
      rw [getD_set kl2, if_neg this]
  have b5 : ((Mine.joined σ k g).lots.getD k []).length = (σ.lots.getD k []).length + (σ.lots.getD g []).length := by
    show ((σ.lots.set k _).getD k []).length = _
    rw [getD_set kl2, if_pos rfl, List.length_append]
  have hab := O.abs
  have hlo := O.los
  have hp := O.pot
  have hle := O.len
  unfold abSum at hab
  unfold loSum at hlo
  unfold Mine.pot at hp
  have e1 : (Mine.joined σ k g).wait.length = σ.wait.length + (σ.above g).length := by simp [Mine.joined]
  have ag := O.ab g
  refine ⟨?_, ?_, ?_⟩
  · refine ⟨?_, par_set O.par gl hkg, ?_, O.nums, O.wl, O.dl, ?_, O.kids |> fun h => ?_, ?_, ?_, hn', ?_, ?_, ?_, ?_, ?_, ?_, ?_, ?_⟩
    · show (σ.par.set g k).length ≤ 12; rw [List.length_set]; exact O.len
    · show _ = (σ.par.set g k).length; rw [List.length_set]; exact O.nodes
    · show (σ.lots.set k _).length = (σ.par.set g k).length; rw [List.length_set, List.length_set]; exact O.lots
    · exact h
    · intro i hi
      rw [show (Mine.joined σ k g).par = σ.par.set g k from rfl, List.length_set] at hi
      rw [show (Mine.joined σ k g).par = σ.par.set g k from rfl, rs, joined_keys]
      by_cases q : root σ.par i = g
      · rw [if_pos q]; exact ⟨hk, by lia⟩
      · rw [if_neg q]; exact ⟨O.roots i hi, q⟩
    · intro c hc
      rw [joined_keys] at hc
      rw [show (Mine.joined σ k g).par = σ.par.set g k from rfl, List.length_set, rs, (O.keys c hc.1).2, if_neg hc.2]
      exact ⟨(O.keys c hc.1).1, rfl⟩
    · intro x hx
      show _ < (σ.par.set g k).length; rw [List.length_set]; exact O.known x hx
    · intro c hc n hn
      rw [joined_keys] at hc
      show _ < (σ.par.set g k).length; rw [List.length_set]
      by_cases q : c = k
      · subst q
        rw [show (Mine.joined σ c g).above c = σ.above c ++ σ.above g by simp [Mine.joined]] at hn
        rcases List.mem_append.mp hn with z | z
        · exact O.above c hk n z
        · exact O.above g hg n z
      · rw [show (Mine.joined σ k g).above c = σ.above c by simp [Mine.joined, q]] at hn
        exact O.above c hc.1 n hn
    · intro n hn
      show _ < (σ.par.set g k).length; rw [List.length_set]
      rcases List.mem_append.mp (show n ∈ σ.wait ++ σ.above g from hn) with z | z
      · exact O.wait n z
      · exact O.above g hg n z
    · intro c
      by_cases q : c = k
      · subst q; rw [a5]; lia
      · rw [show (Mine.joined σ k g).above c = σ.above c by simp [Mine.joined, q]]; exact O.ab c
    · intro i
      by_cases q : i = k
      · subst q; rw [b5]; lia
      · show ((σ.lots.set k _).getD i []).length ≤ 12
        rw [getD_set kl2, if_neg q]; exact O.lot i
    · show ((σ.keys.filter fun c => decide (c ≠ g)).map _).sum ≤ 2 * (σ.par.set g k).length
      rw [List.length_set]
      lia
    · show ((σ.keys.filter fun c => decide (c ≠ g)).map _).sum ≤ (σ.par.set g k).length
      rw [List.length_set]
      lia
    · unfold Mine.pot
      rw [e1]
      show _ + σ.known.length + (σ.big + 3) + 30 * (σ.keys.filter fun c => decide (c ≠ g)).length ≤ B
      lia
  · unfold Mine.pot
    rw [e1]
    show _ + σ.known.length + (σ.big + 3) + 30 * (σ.keys.filter fun c => decide (c ≠ g)).length + 3 ≤ _
    lia
  · unfold mu
    rw [e1]
    show _ + 30 * (σ.keys.filter fun c => decide (c ≠ g)).length + 6 ≤ _
    lia
theorem Ok.nojoin {B : Nat} {σ : HS} (O : Ok B σ) : Ok (B + 1) (nojoin σ) := ⟨O.len, O.par, O.nodes, O.nums, O.wl, O.dl, O.lots, O.kids, O.roots, O.keys, O.keysN, O.known, O.above, O.wait, O.ab, O.lot, O.abs, O.los, by
  have := O.pot
  unfold Mine.pot at this ⊢
  show _ + _ + (σ.big + 1) + _ ≤ _
  have e1 : (Mine.nojoin σ).wait = σ.wait := rfl
  have e2 : (Mine.nojoin σ).known = σ.known := rfl
  have e3 : (Mine.nojoin σ).keys = σ.keys := rfl
  rw [e1, e2, e3]
  lia⟩
end Mine
end

section
open PySem PySem.W PySem.Calls PyProof.Rows PySem.Spec
set_option maxRecDepth 100000
namespace Mine
theorem kget_mem {known : List (Nd × Nat)} {nd : Nd} {o : Nat} (e : kget known nd = some o) : (nd, o) ∈ known := by
  rw [kget, Option.map_eq_some_iff] at e
  obtain ⟨x, hx, rfl⟩ := e
  have h1 := List.find?_some hx
  have h2 := List.mem_of_find?_eq_some hx
  rw [decide_eq_true_eq] at h1
  subst h1
  exact h2
theorem Ok.known_app {B : Nat} {σ : HS} (O : Ok B σ) {nd : Nd} {n : Nat} (hn : n < σ.par.length) : Ok (B + 1) { σ with known := σ.known ++ [(nd, n)] } :=
  ⟨O.len, O.par, O.nodes, O.nums, O.wl, O.dl, O.lots, O.kids, O.roots, O.keys, O.keysN, fun x hx => by
    rcases List.mem_append.mp hx with q | q
    · exact O.known x q
    · simp at q; subst q; exact hn, O.above, O.wait, O.ab, O.lot, O.abs, O.los, by
    have := O.pot
    unfold Mine.pot at this ⊢
    dsimp only
    rw [List.length_append]
    simp only [List.length_cons, List.length_nil]
    lia⟩
theorem minmax_keys {B : Nat} {σ : HS} (O : Ok B σ) {a b : Nat} (ha : a < σ.par.length) (hb : b < σ.par.length) (hne : root σ.par a ≠ root σ.par b) :
    min (root σ.par a) (root σ.par b) ∈ σ.keys ∧ max (root σ.par a) (root σ.par b) ∈ σ.keys ∧ min (root σ.par a) (root σ.par b) < max (root σ.par a) (root σ.par b) := by
  have h1 := O.roots a ha
  have h2 := O.roots b hb
  refine ⟨?_, ?_, by lia⟩
  · rcases Nat.le_total (root σ.par a) (root σ.par b) with q | q
    · rw [Nat.min_eq_left q]; exact h1
    · rw [Nat.min_eq_right q]; exact h2
  · rcases Nat.le_total (root σ.par a) (root σ.par b) with q | q
    · rw [Nat.max_eq_right q]; exact h2
    · rw [Nat.max_eq_left q]; exact h1
theorem Ok.look {B : Nat} {σ : HS} (O : Ok B σ) {nd : Nd} {n : Nat} (hn : n < σ.par.length) : Ok (B + 1) (lookS σ nd n) ∧ mu (lookS σ nd n) ≤ mu σ := by
  cases e : kget σ.known nd with
  | none => rw [lookS_new e]; exact ⟨O.known_app hn, Nat.le_refl _⟩
  | some o =>
    by_cases h : root σ.par o = root σ.par n
    · rw [lookS_same e h]; exact ⟨O.mono (Nat.le_succ _), Nat.le_refl _⟩
    · rw [lookS_join e h]
      obtain ⟨h1, h2, h3⟩ := minmax_keys O (show o < σ.par.length from O.known _ (kget_mem e)) hn h
      obtain ⟨q1, q2, q3⟩ := O.joined h1 h2 h3
      exact ⟨q1.mono (Nat.le_succ _), by lia⟩
theorem look_frame (σ : HS) (nd : Nd) (n : Nat) : (lookS σ nd n).nodes = σ.nodes ∧ (lookS σ nd n).par.length = σ.par.length := by
  cases e : kget σ.known nd with
  | none => rw [lookS_new e]; exact ⟨rfl, rfl⟩
  | some o =>
    by_cases h : root σ.par o = root σ.par n
    · rw [lookS_same e h]; exact ⟨rfl, rfl⟩
    · rw [lookS_join e h]; exact ⟨rfl, List.length_set ..⟩
noncomputable def nodeAt (σ : HS) (n : Nat) : Nd := σ.nodes.getD n (Str.ofString "", [])
noncomputable def popped (σ : HS) : HS := { σ with wait := σ.wait.dropLast }
noncomputable def popLook (σ : HS) : HS := lookS (popped σ) (canon σ.par (nodeAt σ (σ.wait.getLastD 0))) (σ.wait.getLastD 0)
theorem getLastD_mem {l : List Nat} (h : 0 < l.length) : l.getLastD 0 ∈ l := by
  cases l with
  | nil => simp at h
  | cons a r => rw [List.getLastD_cons]; exact List.getLastD_mem_cons
theorem Ok.popped {B : Nat} {σ : HS} (O : Ok B σ) (h : 0 < σ.wait.length) : Ok (B - 1) (popped σ) ∧ mu (Mine.popped σ) + 1 = mu σ ∧ 0 < B := by
  have hp := O.pot
  unfold Mine.pot at hp
  refine ⟨⟨O.len, O.par, O.nodes, O.nums, O.wl, O.dl, O.lots, O.kids, O.roots, O.keys, O.keysN, O.known, O.above, fun n hn => O.wait n (List.dropLast_subset _ hn), O.ab, O.lot, O.abs, O.los, ?_⟩, ?_, by lia⟩
  · unfold Mine.pot
    show σ.wait.dropLast.length + σ.known.length + σ.big + 30 * σ.keys.length ≤ _
    rw [List.length_dropLast]; lia
  · unfold mu
    show σ.wait.dropLast.length + 30 * σ.keys.length + 1 = _
    rw [List.length_dropLast]; lia
theorem Ok.last {B : Nat} {σ : HS} (O : Ok B σ) (h : 0 < σ.wait.length) : σ.wait.getLastD 0 < σ.par.length := O.wait _ (getLastD_mem h)
theorem Ok.popLook {B : Nat} {σ : HS} (O : Ok B σ) (h : 0 < σ.wait.length) : Ok B (popLook σ) ∧ mu (popLook σ) < mu σ := by
  obtain ⟨O1, e1, hB⟩ := O.popped h
  obtain ⟨O2, e2⟩ := O1.look (nd := canon σ.par (nodeAt σ (σ.wait.getLastD 0))) (n := σ.wait.getLastD 0) (O.last h)
  rw [show B - 1 + 1 = B by lia] at O2
  refine ⟨O2, ?_⟩
  unfold Mine.popLook
  lia
theorem nodeAt_get {B : Nat} {σ : HS} (O : Ok B σ) {n : Nat} (h : n < σ.par.length) : σ.nodes[n]? = some ((nodeAt σ n).1, (nodeAt σ n).2) := by
  have := O.nodes
  simp [nodeAt, show n < σ.nodes.length by lia]
inductive Steps : HS → HS → Prop
  | refl {σ : HS} : Steps σ σ
  | snoc {σ τ : HS} : Steps σ τ → 0 < τ.wait.length → Steps σ (popLook τ)
end Mine
end

section
open PySem PySem.W PySem.Calls PyProof.Rows PySem.Spec
set_option maxRecDepth 100000
namespace Mine
theorem lt_get {α : Type} {l : List α} {i : Nat} {x : α} (h : l[i]? = some x) : i < l.length := by
  rcases Nat.lt_or_ge i l.length with q | q
  · exact q
  · rw [List.getElem?_eq_none q] at h; cases h
noncomputable def newS (σ : HS) (nd : Nd) : HS := { nodes := σ.nodes ++ [nd], par := σ.par ++ [σ.par.length], lots := σ.lots ++ [[σ.lots.length]], known := σ.known, keys := σ.keys ++ [σ.par.length], above := fun x => if x = σ.par.length then [] else if x ∈ nd.2.map (root σ.par) then σ.above x ++ [σ.par.length] else σ.above x, wait := σ.wait, big := σ.big, nums := σ.nums ++ [nd], wl := σ.wl + 1, dl := σ.dl + 1 }
noncomputable def addS (σ : HS) (nd : Nd) : HS := lookS (newS σ nd) (canon (newS σ nd).par nd) σ.par.length
theorem root_app' {ps : List Nat} {k : Nat} (h : k = ps.length) (i : Nat) : root (ps ++ [k]) i = root ps i := by subst h; exact root_app i
theorem sum_plus {l : List Nat} {f g : Nat → Nat} : (l.map fun x => f x + g x).sum = (l.map f).sum + (l.map g).sum := by
  induction l with
  | nil => rfl
  | cons x r ih => simp only [List.map_cons, List.sum_cons, ih]; lia
theorem sum_ind {l : List Nat} (p : Nat → Bool) : (l.map fun x => if p x = true then 1 else 0).sum = (l.filter p).length := by
  induction l with
  | nil => rfl
  | cons x r ih =>
    rw [List.map_cons, List.sum_cons, ih, List.filter_cons]
    cases p x <;> simp; lia
theorem getD_app {ps : List (List Nat)} {k : List Nat} {i : Nat} : (ps ++ [k]).getD i [] = if i < ps.length then ps.getD i [] else if i = ps.length then k else [] := by
  rcases Nat.lt_trichotomy i ps.length with h | h | h
  · simp [h, List.getElem?_append_left h]
  · subst h; simp
  · have h1 : ¬ i < ps.length := by lia
    have h2 : ¬ i = ps.length := by lia
    rw [if_neg h1, if_neg h2, List.getD_eq_getElem?_getD, List.getElem?_eq_none (by simp; lia)]; rfl
theorem Ok.new {B : Nat} {σ : HS} (O : Ok B σ) {nd : Nd} (hl : σ.par.length ≤ 11) (hk : nd.2.length ≤ 2) (hb : ∀ k ∈ nd.2, k < σ.par.length) : Ok (B + 30) (newS σ nd) := by
  have hnl := O.nodes
  have hlo := O.lots
  have hnk : σ.par.length ∉ σ.keys := fun q => Nat.lt_irrefl _ (O.keys _ q).1
  have hcs : ∀ x ∈ nd.2.map (root σ.par), x ∈ σ.keys := fun x hx => by
    obtain ⟨k, hk, rfl⟩ := List.mem_map.mp hx
    exact O.roots k (hb k hk)
  have hab : ∀ c ∈ σ.keys, (σ.above c).length ≤ 22 := fun c hc => by
    have := sum_le (f := fun c => (σ.above c).length) hc
    have := O.abs
    unfold abSum at this
    lia
  have ne : ∀ c ∈ σ.keys, c ≠ σ.par.length := fun c hc e => hnk (e ▸ hc)
  refine ⟨?_, par_app O.par, ?_, ?_, ?_, ?_, ?_, ?_, ?_, ?_, ?_, ?_, ?_, ?_, ?_, ?_, ?_, ?_, ?_⟩
  · show (σ.par ++ [σ.par.length]).length ≤ 12; simp; lia
  · show (σ.nodes ++ [nd]).length = (σ.par ++ [σ.par.length]).length; simp [hnl]
  · show σ.nums ++ [nd] = σ.nodes ++ [nd]; rw [O.nums]
  · show σ.wl + 1 = (σ.nodes ++ [nd]).length; simp [O.wl]
  · show σ.dl + 1 = (σ.nodes ++ [nd]).length; simp [O.dl]
  · show (σ.lots ++ [[σ.lots.length]]).length = (σ.par ++ [σ.par.length]).length; simp [hlo]
  · intro n nd' h
    rw [show (newS σ nd).nodes = σ.nodes ++ [nd] from rfl] at h
    rcases Nat.lt_or_ge n σ.nodes.length with q | q
    · rw [List.getElem?_append_left q] at h; exact O.kids n nd' h
    · rw [List.getElem?_append_right q] at h
      have e0 : n - σ.nodes.length = 0 := by
        rcases Nat.eq_zero_or_pos (n - σ.nodes.length) with r | r
        · exact r
        · rw [List.getElem?_eq_none (by simp; lia)] at h; cases h
      rw [e0] at h
      simp at h
      subst h
      exact ⟨hk, fun k hk' => by have := hb k hk'; lia⟩
  · intro i hi
    show root (σ.par ++ [σ.par.length]) i ∈ σ.keys ++ [σ.par.length]
    rw [root_app]
    rw [show (newS σ nd).par = σ.par ++ [σ.par.length] from rfl, List.length_append] at hi
    rcases Nat.lt_or_ge i σ.par.length with q | q
    · exact List.mem_append_left _ (O.roots i q)
    · rw [root_ge q]
      have : i = σ.par.length := by simp at hi; lia
      rw [this]; simp
  · intro c hc
    show c < (σ.par ++ [σ.par.length]).length ∧ root (σ.par ++ [σ.par.length]) c = c
    rw [root_app, List.length_append]
    rcases List.mem_append.mp (show c ∈ σ.keys ++ [σ.par.length] from hc) with q | q
    · exact ⟨Nat.lt_of_lt_of_le (O.keys c q).1 (Nat.le_add_right _ _), (O.keys c q).2⟩
    · simp at q; subst q; exact ⟨by simp, root_ge (Nat.le_refl _)⟩
  · show (σ.keys ++ [σ.par.length]).Nodup
    rw [List.nodup_append]
    exact ⟨O.keysN, by simp, fun a ha b hb e => by simp at hb; subst hb; exact ne a ha e⟩
  · intro x hx
    have := O.known x hx
    show _ < (σ.par ++ [σ.par.length]).length; simp; lia
  · intro c hc n hn
    show n < (σ.par ++ [σ.par.length]).length
    rw [List.length_append]
    have hn' : n ∈ (if c = σ.par.length then [] else if c ∈ nd.2.map (root σ.par) then σ.above c ++ [σ.par.length] else σ.above c) := hn
    by_cases e : c = σ.par.length
    · rw [if_pos e] at hn'; cases hn'
    · rw [if_neg e] at hn'
      have hck : c ∈ σ.keys := by
        rcases List.mem_append.mp (show c ∈ σ.keys ++ [σ.par.length] from hc) with q | q
        · exact q
        · simp at q; exact absurd q e
      split at hn'
      · rcases List.mem_append.mp hn' with q | q
        · exact Nat.lt_of_lt_of_le (O.above c hck n q) (Nat.le_add_right _ _)
        · simp at q; subst q; simp
      · exact Nat.lt_of_lt_of_le (O.above c hck n hn') (Nat.le_add_right _ _)
  · intro n hn
    have := O.wait n hn
    show _ < (σ.par ++ [σ.par.length]).length; simp; lia
  · intro c
    show (if c = σ.par.length then [] else if c ∈ nd.2.map (root σ.par) then σ.above c ++ [σ.par.length] else σ.above c).length ≤ 24
    by_cases e : c = σ.par.length
    · rw [if_pos e]; simp
    · rw [if_neg e]
      split
      · next q => have := hab c (hcs c q); simp; lia
      · exact O.ab c
  · intro i
    show ((σ.lots ++ [[σ.lots.length]]).getD i []).length ≤ 12
    rw [getD_app]
    split
    · exact O.lot i
    · split <;> simp
  · show ((σ.keys ++ [σ.par.length]).map fun c => ((newS σ nd).above c).length).sum ≤ 2 * (σ.par ++ [σ.par.length]).length
    rw [List.map_append, List.sum_append]
    have e1 : (σ.keys.map fun c => ((newS σ nd).above c).length) = σ.keys.map fun c => (σ.above c).length + (if decide (c ∈ nd.2.map (root σ.par)) = true then 1 else 0) := by
      refine List.map_congr_left fun c hc => ?_
      show (if c = σ.par.length then [] else if c ∈ nd.2.map (root σ.par) then σ.above c ++ [σ.par.length] else σ.above c).length = _
      rw [if_neg (ne c hc)]
      by_cases q : c ∈ nd.2.map (root σ.par)
      · rw [if_pos q, if_pos (decide_eq_true q)]; simp
      · rw [if_neg q, if_neg (by simpa using q)]; rfl
    rw [e1, sum_plus, sum_ind]
    have e2 : ((newS σ nd).above σ.par.length).length = 0 := by simp [newS]
    have e3 : (σ.keys.filter fun c => decide (c ∈ nd.2.map (root σ.par))).length ≤ (nd.2.map (root σ.par)).length :=
      List.Nodup.length_le_of_subset (O.keysN.filter _) fun x hx => by simpa using (List.mem_filter.mp hx).2
    rw [List.length_map] at e3
    have := O.abs
    unfold abSum at this
    simp only [List.map_cons, List.map_nil, List.sum_cons, List.sum_nil, e2, List.length_append, List.length_cons, List.length_nil]
    lia
  · show ((σ.keys ++ [σ.par.length]).map fun c => ((σ.lots ++ [[σ.lots.length]]).getD c []).length).sum ≤ (σ.par ++ [σ.par.length]).length
    rw [List.map_append, List.sum_append]
    have e1 : (σ.keys.map fun c => ((σ.lots ++ [[σ.lots.length]]).getD c []).length) = σ.keys.map fun c => (σ.lots.getD c []).length := by
      refine List.map_congr_left fun c hc => ?_
      rw [getD_app, if_pos (by rw [hlo]; exact (O.keys c hc).1)]
    rw [e1]
    have := O.los
    unfold loSum at this
    have e2 : ((σ.lots ++ [[σ.lots.length]]).getD σ.par.length []).length = 1 := by rw [getD_app, hlo]; simp
    simp only [List.map_cons, List.map_nil, List.sum_cons, List.sum_nil, e2, List.length_append, List.length_cons, List.length_nil]
    lia
  · have := O.pot
    unfold Mine.pot at this ⊢
    show σ.wait.length + σ.known.length + σ.big + 30 * (σ.keys ++ [σ.par.length]).length ≤ B + 30
    simp only [List.length_append, List.length_cons, List.length_nil]
    lia
theorem Ok.add {B : Nat} {σ : HS} (O : Ok B σ) {nd : Nd} (hl : σ.par.length ≤ 11) (hk : nd.2.length ≤ 2) (hb : ∀ k ∈ nd.2, k < σ.par.length) : Ok (B + 31) (addS σ nd) :=
  ((O.new hl hk hb).look (by show _ < (σ.par ++ [σ.par.length]).length; simp)).1
noncomputable def mergeS (σ : HS) (a b : Nat) : HS := if root σ.par a = root σ.par b then nojoin σ else joined σ (min (root σ.par a) (root σ.par b)) (max (root σ.par a) (root σ.par b))
theorem Ok.merge {B : Nat} {σ : HS} (O : Ok B σ) {a b : Nat} (ha : a < σ.par.length) (hb : b < σ.par.length) : Ok (B + 1) (mergeS σ a b) := by
  unfold mergeS
  by_cases h : root σ.par a = root σ.par b
  · rw [if_pos h]; exact O.nojoin
  · rw [if_neg h]
    obtain ⟨h1, h2, h3⟩ := minmax_keys O ha hb h
    exact (O.joined h1 h2 h3).1.mono (Nat.le_succ _)
theorem add_frame (σ : HS) (nd : Nd) : (addS σ nd).nodes = σ.nodes ++ [nd] ∧ (addS σ nd).par.length = σ.par.length + 1 := by
  have := look_frame (newS σ nd) (canon (newS σ nd).par nd) σ.par.length
  refine ⟨this.1, this.2.trans ?_⟩
  show (σ.par ++ [σ.par.length]).length = _
  simp
theorem nodeAt_new {B : Nat} {σ : HS} (O : Ok B σ) (nd : Nd) : nodeAt (newS σ nd) σ.par.length = nd := by
  unfold nodeAt
  show (σ.nodes ++ [nd]).getD _ _ = nd
  rw [← O.nodes]
  simp
end Mine
end

section
open PySem PySem.W PySem.Calls PyProof.Rows PySem.Spec
set_option maxRecDepth 100000
namespace Mine
section
variable {w : World} {news nw nw' news' : List (Addr × Obj)} {y : Lay} {v v' : Dy} {σ σ' : HS} {h₀ h : Heap} {L : Addr} {I : Addr} {oI : Obj}
theorem not_in_take {ds : List Nat} (hn : ds.Nodup) {i k : Nat} (e : ds[i]? = some k) : k ∉ ds.take i := fun q => by
  obtain ⟨j, hj⟩ := List.mem_iff_getElem?.mp q
  rw [List.getElem?_take] at hj
  split at hj
  · next hji =>
    have hlt : j < ds.length := lt_get hj
    have := (List.getElem?_inj hlt hn).mp (hj.trans e.symm)
    lia
  · cases hj
theorem mem_of_news {p : Addr × Obj} (_N : News h₀ L h nw) (hm : p ∈ nw) : p ∈ nw := hm
theorem name_news (_N : News h₀ L h nw) : ∃ x, x = nw := ⟨_, rfl⟩
theorem name_ints {vs : List Value} {ds : List Nat} (_ : IntsAre vs (toZ ds)) : ∃ x : List Nat, x = ds := ⟨_, rfl⟩
noncomputable def offI (I : Addr) (nw : List (Addr × Obj)) : List (Addr × Obj) := nw.filter fun p => decide (p.1 ≠ I)
theorem mem_offI {p : Addr × Obj} : p ∈ offI I nw ↔ p ∈ nw ∧ p.1 ≠ I := by simp [offI]
theorem offI_ne : ∀ p ∈ offI I nw, p.1 ≠ I := fun _ hp => (mem_offI.mp hp).2
theorem offI_sub : ∀ p ∈ offI I nw, p ∈ nw := fun _ hp => (mem_offI.mp hp).1
theorem not_own_off (H : HRep w nw y v σ) (off : ∀ p ∈ nw, p.1 ≠ I) : ¬ y.own v σ I := fun q => by
  obtain ⟨o, hm, _⟩ := own_obj H q
  exact off _ hm rfl
theorem tup_offI (N : News h₀ L h nw) (hI : (I, oI) ∈ nw) (hc : oI.cls ≠ .type "tuple") : TupStay nw (offI I nw) := fun a vs ha => mem_offI.mpr ⟨ha, fun e => by
  dsimp only at e
  subst e
  have := news_fn N ha hI
  exact hc (by rw [← this])⟩
theorem HRep.offI (H : HRep w nw y v σ) (N : News h₀ L h nw) (hI : (I, oI) ∈ nw) (hc : oI.cls ≠ .type "tuple") (hn : ¬ y.own v σ I) : HRep w (Mine.offI I nw) y v σ :=
  H.move (tup_offI N hI hc) fun a ha o hm => mem_offI.mpr ⟨hm, fun e => hn (by dsimp only at e; exact e ▸ ha)⟩
theorem Kept.offI (K : Kept y v σ v' σ' ((I, oI) :: news) nw) (off : ∀ p ∈ news, p.1 ≠ I) : Kept y v σ v' σ' news (Mine.offI I nw) where
  keep := fun p hp hn => mem_offI.mpr ⟨K.keep p (.tail _ hp) hn, off p hp⟩
  own := fun x hx => (K.own x hx).imp id fun z p hp => z p (.tail _ hp)
  addr := fun p hp => let ⟨o, ho⟩ := K.addr p (.tail _ hp); ⟨o, mem_offI.mpr ⟨ho, off p hp⟩⟩
theorem Kept.cell {a : Nat} {o : Obj} (K : Kept y v σ v' σ' news news') (hm : (a, o) ∈ news) (hn : ¬ y.own v σ a) : (a, o) ∈ news' ∧ ¬ y.own v' σ' a :=
  ⟨K.keep _ hm hn, fun q => (K.own a q).elim hn fun z => z _ hm rfl⟩
noncomputable def upS (σ : HS) (nd : Nd) (cs : List Nat) : HS := { nodes := σ.nodes ++ [nd], par := σ.par ++ [σ.par.length], lots := σ.lots ++ [[σ.lots.length]], known := σ.known, keys := σ.keys ++ [σ.par.length], above := fun x => if x = σ.par.length then [] else if x ∈ cs then σ.above x ++ [σ.par.length] else σ.above x, wait := σ.wait, big := σ.big, nums := σ.nums ++ [nd], wl := σ.wl + 1, dl := σ.dl + 1 }
theorem upS_new {nd : Nd} {cs : List Nat} (h : ∀ x, x ∈ cs ↔ x ∈ nd.2.map (root σ.par)) : upS σ nd cs = newS σ nd := by
  unfold upS newS
  simp only [h]
theorem pre_up (σ : HS) (nd : Nd) : ({ nodes := σ.nodes ++ [nd], par := σ.par ++ [σ.par.length], lots := σ.lots ++ [[σ.lots.length]], known := σ.known, keys := σ.keys ++ [σ.par.length], above := fun x => if x = σ.par.length then [] else σ.above x, wait := σ.wait, big := σ.big, nums := σ.nums ++ [nd], wl := σ.wl + 1, dl := σ.dl + 1 } : HS) = upS σ nd [] := by
  unfold upS
  simp
theorem up_H {nd : Nd} (H : HRep w nw y v ({ nodes := σ.nodes ++ [nd], par := σ.par ++ [σ.par.length], lots := σ.lots ++ [[σ.lots.length]], known := σ.known, keys := σ.keys ++ [σ.par.length], above := fun x => if x = σ.par.length then [] else σ.above x, wait := σ.wait, big := σ.big, nums := σ.nums ++ [nd], wl := σ.wl + 1, dl := σ.dl + 1 } : HS)) : HRep w nw y v (upS σ nd []) := pre_up σ nd ▸ H
theorem up_K {nd : Nd} {σ₁ : HS} (K : Kept y v σ₁ v' ({ nodes := σ.nodes ++ [nd], par := σ.par ++ [σ.par.length], lots := σ.lots ++ [[σ.lots.length]], known := σ.known, keys := σ.keys ++ [σ.par.length], above := fun x => if x = σ.par.length then [] else σ.above x, wait := σ.wait, big := σ.big, nums := σ.nums ++ [nd], wl := σ.wl + 1, dl := σ.dl + 1 } : HS) news nw) : Kept y v σ₁ v' (upS σ nd []) news nw := pre_up σ nd ▸ K
theorem upS_snoc {nd : Nd} {cs : List Nat} {c : Nat} (hc : c ≠ σ.par.length) (hn : c ∉ cs) :
    { upS σ nd cs with above := fun x => if x = c then (upS σ nd cs).above c ++ [σ.par.length] else (upS σ nd cs).above x } = upS σ nd (cs ++ [c]) := by
  have e : (fun x => if x = c then (upS σ nd cs).above c ++ [σ.par.length] else (upS σ nd cs).above x) = (upS σ nd (cs ++ [c])).above := by
    funext x
    show (if x = c then (if c = σ.par.length then [] else if c ∈ cs then σ.above c ++ [σ.par.length] else σ.above c) ++ [σ.par.length] else (if x = σ.par.length then [] else if x ∈ cs then σ.above x ++ [σ.par.length] else σ.above x)) = if x = σ.par.length then [] else if x ∈ cs ++ [c] then σ.above x ++ [σ.par.length] else σ.above x
    by_cases e : x = c
    · subst e; simp [hc, hn]
    · have : x ∈ cs ++ [c] ↔ x ∈ cs := by simp [e]
      simp only [if_neg e, this]
  exact congrArg (fun a => { upS σ nd cs with above := a }) e
end
end Mine
end

section
open PySem PySem.W PySem.Calls PyProof.Rows PySem.Spec
set_option maxRecDepth 100000
namespace Mine
noncomputable abbrev pdat (p : Nat × Nat) : Dat := .tuple [datI p.1, datI p.2]
theorem pdat_inj {p q : Nat × Nat} (h : pdat p = pdat q) : p = q := by
  injection h with h
  injection h with h1 h2
  injection h2 with h2 _
  injection h1 with h1
  injection h2 with h2
  exact Prod.ext (Int.ofNat.inj h1) (Int.ofNat.inj h2)
noncomputable def dget (ys : List (Dat × Nat)) (k : Dat) : Option Nat := (ys.find? fun x => decide (x.1 = k)).map (·.2)
theorem vals_get {k : Dat} : ∀ {xs : List (Dat × Addr × Value)} {ys : List (Dat × Nat)}, ValsAre xs ys → (atKey xs k = none ∧ dget ys k = none) ∨ ∃ p n t, atKey xs k = some p ∧ dget ys k = some n ∧ p.2 = .int (n : Int) t
  | [], [], _ => .inl ⟨rfl, rfl⟩
  | x :: xs, y :: ys, h => by
    refine byC fun U0 => ?_
    obtain ⟨⟨e1, t, e2⟩, h2⟩ := h
    refine U0 ?_
    clear U0
    by_cases q : x.1 = k
    · have q' : y.1 = k := e1 ▸ q
      exact .inr ⟨x.2, y.2, t, by simp [atKey, q], by simp [dget, q'], e2⟩
    · have q' : ¬ y.1 = k := e1 ▸ q
      have a : atKey (x :: xs) k = atKey xs k := by simp [atKey, q]
      have b : dget (y :: ys) k = dget ys k := by simp [dget, q']
      rw [a, b]
      exact vals_get h2
  | [], _ :: _, h => h.elim
  | _ :: _, [], h => h.elim
noncomputable def pget (ps : List ((Nat × Nat) × Nat)) (k : Nat × Nat) : Option Nat := (ps.find? fun x => decide (x.1 = k)).map (·.2)
theorem pget_mem {ps : List ((Nat × Nat) × Nat)} {k : Nat × Nat} {n : Nat} (e : pget ps k = some n) : (k, n) ∈ ps := by
  rw [pget, Option.map_eq_some_iff] at e
  refine byC fun U0 => ?_
  obtain ⟨x, hx, rfl⟩ := e
  have h1 := List.find?_some hx
  have h2 := List.mem_of_find?_eq_some hx
  rw [decide_eq_true_eq] at h1
  subst h1
  refine U0 ?_
  clear U0
  exact h2
theorem pget_lt {ps : List ((Nat × Nat) × Nat)} {k : Nat × Nat} {n i : Nat} (h : ∀ x ∈ ps, x.2 < n) (e : pget ps k = some i) : i < n := h _ (pget_mem e)
theorem add_nodes_len (σ : HS) (nd : Nd) : (addS σ nd).nodes.length = σ.nodes.length + 1 := by rw [(add_frame σ nd).1]; simp
theorem add_par_len (σ : HS) (nd : Nd) : (addS σ nd).par.length = σ.par.length + 1 := (add_frame σ nd).2
noncomputable def pairsOf' (ps : List ((Nat × Nat) × Nat)) : List (Dat × Nat) := ps.map fun x => (pdat x.1, x.2)
theorem dget_pairs (k : Nat × Nat) : ∀ ps : List ((Nat × Nat) × Nat), dget (pairsOf' ps) (pdat k) = pget ps k
  | [] => rfl
  | x :: ps => by
    by_cases q : x.1 = k
    · simp [dget, pget, pairsOf', q]
    · have q' : ¬ pdat x.1 = pdat k := fun e => q (pdat_inj e)
      have ih := dget_pairs k ps
      unfold dget pget pairsOf' at ih ⊢
      rw [List.map_cons, List.find?_cons_of_neg (by simpa using q'), List.find?_cons_of_neg (by simpa using q)]
      exact ih
noncomputable def PD (w : World) (news : List (Addr × Obj)) (d : Addr) (ps : List ((Nat × Nat) × Nat)) : Prop := TDI w news d (pairsOf' ps)
theorem PD.move {w : World} {news news' : List (Addr × Obj)} {d : Addr} {ps : List ((Nat × Nat) × Nat)} (x : PD w news d ps) (st : TupStay news news') (k : ∀ o, (d, o) ∈ news → (d, o) ∈ news') : PD w news' d ps := TDI.move x st k
theorem kin_pair {news : List (Addr × Obj)} {a : Addr} {p : Nat × Nat} {t u : Tok} (hm : (a, tupObj [.int (p.1 : Nat) t, .int (p.2 : Nat) u]) ∈ news) : KIn news 7 (.ref a) (pdat p) := .tuple (n := 6) hm (.cons (.int _ _) (.cons (.int _ _) .nil))
section
variable {w : World} {A : Around} {E : Value → Shared → Prop} {s : Shared} {news : List (Addr × Obj)} {h₀ h : Heap} {L a d : Addr} {m : Str → Option Value} {value slice : Expr} {Q : Value → Shared → Prop} {u t : Tok} {ps : List ((Nat × Nat) × Nat)} {k : Nat × Nat}
theorem pd_obj (P : PD w news d ps) : ∃ o, (d, o) ∈ news ∧ o.cls = .type "dict" := let ⟨_, T, _⟩ := P; T.obj
theorem pd_notin (N : News h₀ L s.heap news) (P : PD w news d ps) (hk : KIn news 7 (.ref a) (pdat k)) (hu : A.units + 17 < cLine)
    (h1 : pget ps k = none → ∀ tk, Q (.bool true) { s with toks := tk }) (h2 : ∀ n, pget ps k = some n → ∀ tk, Q (.bool false) { s with toks := tk }) : wpAny (model prog w) A (compareOp .NotIn (.ref a) (.ref d)) Q E s := by
  refine byC fun U0 => ?_
  obtain ⟨xs, T, V⟩ := P
  refine U0 ?_
  clear U0
  refine td_notin N T hk hu fun tk => ?_
  rcases vals_get (k := pdat k) V with ⟨e1, e2⟩ | ⟨p, n, t, e1, e2, e3⟩
  · rw [e1]; rw [dget_pairs] at e2; exact h1 e2 tk
  · rw [e1]; rw [dget_pairs] at e2; exact h2 n e2 tk
theorem pd_in (N : News h₀ L s.heap news) (P : PD w news d ps) (hk : KIn news 7 (.ref a) (pdat k)) (hu : A.units + 17 < cLine)
    (h1 : ∀ n, pget ps k = some n → ∀ tk, Q (.bool true) { s with toks := tk }) (h2 : pget ps k = none → ∀ tk, Q (.bool false) { s with toks := tk }) : wpAny (model prog w) A (compareOp .In (.ref a) (.ref d)) Q E s := by
  refine byC fun U0 => ?_
  obtain ⟨xs, T, V⟩ := P
  refine U0 ?_
  clear U0
  refine td_in N T hk hu fun tk => ?_
  rcases vals_get (k := pdat k) V with ⟨e1, e2⟩ | ⟨p, n, t, e1, e2, e3⟩
  · rw [e1]; rw [dget_pairs] at e2; exact h2 e2 tk
  · rw [e1]; rw [dget_pairs] at e2; exact h1 n e2 tk
theorem pd_item {n : Nat} (N : News h₀ L s.heap news) (P : PD w news d ps) (hk : KIn news 7 (.ref a) (pdat k)) (hn : pget ps k = some n) (hu : A.units + 17 < cLine)
    (h : ∀ t tk, Q (.int (n : Nat) t) { s with toks := tk })
    (hs : subscripted slice false (.ref d) (.ref a) = operate [.ref d, .ref a] (getItem (.ref d) (.ref a)) := by with_unfolding_all rfl) :
    wpAny (model prog w) A (subscriptTail value slice (.ref d) (.ref a)) Q E s := by
  refine byC fun U0 => ?_
  obtain ⟨xs, T, V⟩ := P
  refine U0 ?_
  clear U0
  rcases vals_get (k := pdat k) V with ⟨e1, e2⟩ | ⟨p, n', t, e1, e2, e3⟩
  · rw [dget_pairs, hn] at e2; cases e2
  · rw [dget_pairs, hn] at e2
    cases e2
    refine td_item N T hk e1 hu (fun tk => ?_) hs
    rw [e3]; exact h t tk
theorem pd_get {i : Int} {ti : Tok} (N : News h₀ L s.heap news) (P : PD w news d ps) (hk : KIn news 7 (.ref a) (pdat k)) (hu : A.units + 17 < cLine)
    (h1 : ∀ n, pget ps k = some n → ∀ t tk, Q (.int (n : Nat) t) { s with toks := tk }) (h2 : pget ps k = none → ∀ tk, Q (.int i ti) { s with toks := tk }) : wpAny (model prog w) A (call (.builtin "dict.get") [.ref d, .ref a, .int i ti]) Q E s := by
  refine byC fun U0 => ?_
  obtain ⟨xs, T, V⟩ := P
  refine U0 ?_
  clear U0
  refine td_get N T hk hu fun tk => ?_
  rcases vals_get (k := pdat k) V with ⟨e1, e2⟩ | ⟨p, n, t, e1, e2, e3⟩
  · rw [e1]; rw [dget_pairs] at e2; exact h2 e2 tk
  · rw [e1]; rw [dget_pairs] at e2
    show Q p.2 _
    rw [e3]; exact h1 n e2 t tk
theorem pd_setdefault {n : Nat} (F : Fr h₀ L s.heap m) (N : News h₀ L s.heap news) (P : PD w news d ps) (hk : KIn news 7 (.ref a) (pdat k)) (hu : A.units + 17 < cLine) (hz : ps.length ≤ 1000000)
    (h1 : ∀ i, pget ps k = some i → ∀ t tk, Q (.int (i : Nat) t) { s with toks := tk })
    (h2 : pget ps k = none → ∀ h' o' tk, Fr h₀ L h' m → News h₀ L h' (put d o' news) → PD w (put d o' news) d (ps ++ [(k, n)]) → TupStay news (put d o' news) → Q (.int (n : Nat) t) { s with heap := h', toks := tk }) :
    wpAny (model prog w) A (call (.builtin "dict.setdefault") [.ref d, .ref a, .int (n : Nat) t]) Q E s := by
  refine byC fun U0 => ?_
  obtain ⟨xs, T, V⟩ := P
  refine U0 ?_
  clear U0
  have hl := V.length
  rw [pairsOf', List.length_map] at hl
  refine td_setdefault F N T hk hu (fun p tk hp => ?_) (fun hp h' o' tk F' N' T' st => ?_) (by rw [sizeLine_eq]; lia)
  · rcases vals_get (k := pdat k) V with ⟨e1, e2⟩ | ⟨p', n', t', e1, e2, e3⟩
    · rw [hp] at e1; cases e1
    · rw [hp] at e1; cases e1
      rw [dget_pairs] at e2
      rw [e3]; exact h1 n' e2 t' tk
  · rcases vals_get (k := pdat k) V with ⟨e1, e2⟩ | ⟨p', n', t', e1, e2, e3⟩
    · rw [dget_pairs] at e2
      exact h2 e2 h' o' tk F' N' ⟨_, T', by rw [storedH_new hp, pairsOf', List.map_append]; exact V.snoc⟩ st
    · rw [hp] at e1; cases e1
theorem pd_method {name : Str} {id : String} {pl : Sem Bool} {Q : Value × List Value → Shared → Prop} (N : News h₀ L s.heap news) (P : PD w news d ps) (slot : Slot "dict" name id) (hty : typeOf (.builtin id) = pure (.type "method_descriptor"))
    (h : Q (.builtin id, [.ref d]) s) : wpAny (model prog w) A (getMethod (.ref d) name pl) Q E s := by
  refine byC fun U0 => ?_
  obtain ⟨xs, T, V⟩ := P
  refine U0 ?_
  clear U0
  exact td_method N T slot hty h
end
section
variable {w : World} {A : Around} {E : Value → Shared → Prop} {s : Shared} {news : List (Addr × Obj)} {h₀ : Heap} {L a b : Addr} {xs ys : List Value} {ds es : List Dat} {k1 k2 : Nat} {Q : Value → Shared → Prop}
open Classical in
theorem lists_eqv (K1 : ∀ d ∈ ds, kqdOk 7 d = true) (K2 : ∀ d ∈ es, kqdOk 7 d = true) : PyData.eqv (.list (kqdPs ds)) (.list (kqdPs es)) = decide (ds = es) := by
  have q := kqd_eqv 8 (.list ds) (.list es) 8 (by simpa [kqdOk] using K1) (by simpa [kqdOk] using K2)
  rw [kqdP, kqdP, Dat.list.injEq] at q
  by_cases hq : ds = es
  · rw [decide_eq_true hq]; exact q.mpr hq
  · rw [decide_eq_false hq]; exact Bool.eq_false_iff.mpr fun x => hq (q.mp x)
theorem kinAll_ex : ∀ {ys : List Value}, (∀ (j : Nat) (y : Value), ys[j]? = some y → ∃ k : Nat × Nat, KIn news 7 y (pdat k)) → ∃ ks : List (Nat × Nat), KInAll news 7 ys (ks.map pdat) ∧ ks.length = ys.length
  | [], _ => ⟨[], .nil, rfl⟩
  | y :: ys, h => by
    refine byC fun U0 => ?_
    obtain ⟨k, hk⟩ := h 0 y rfl
    obtain ⟨ks, i, e⟩ := kinAll_ex (ys := ys) fun j z hz => h (j + 1) z (by simpa using hz)
    refine U0 ?_
    clear U0
    exact ⟨k :: ks, .cons hk i, by simp [e]⟩
theorem lists_ne (N : News h₀ L s.heap news) (m1 : (a, W.listOf xs.toArray k1) ∈ news) (m2 : (b, W.listOf ys.toArray k2) ∈ news) (K1 : KInAll news 7 xs ds) (K2 : KInAll news 7 ys es) (hu : A.units + 64 < cLine)
    (h1 : ds = es → Q (.bool false) s) (h2 : ds ≠ es → Q (.bool true) s) : wpAny (model prog w) A (compareOp .NotEq (.ref a) (.ref b)) Q E s := by
  refine byC fun U0 => ?_
  obtain ⟨as, ra⟩ := (K1.kat N).reads
  obtain ⟨bs, rb⟩ := (K2.kat N).reads
  refine U0 ?_
  clear U0
  have oa := (K1.kat N).ok
  have ob := (K2.kat N).ok
  have la := kqd_lay 8 (.list ds) (by simpa [kqdOk] using oa)
  have lb := kqd_lay 8 (.list es) (by simpa [kqdOk] using ob)
  rw [kqdP] at la lb
  refine ne_dataH (reads_list_at (N _ m1).1 rfl rfl (by simpa using ra)) (reads_list_at (N _ m2).1 rfl rfl (by simpa using rb)) ?_ ?_ hu (by
    rw [lists_eqv oa ob]
    by_cases e : ds = es
    · rw [decide_eq_true e]; exact h1 e
    · rw [decide_eq_false e]; exact h2 e)
  · unfold SeqAt.shaped; rw [la.1, Bool.true_and]; exact decide_eq_true (Nat.le_trans la.2 (by decide))
  · unfold SeqAt.shaped; rw [lb.1, Bool.true_and]; exact decide_eq_true (Nat.le_trans lb.2 (by decide))
end
noncomputable abbrev meD (w : World) (t : Nat → Tok) (o1 o2 he nu : Addr) : Obj := dictOf [ky w "one" (t 0) (.ref o1), ky w "other" (t 1) (.ref o2), ky w "heap" (t 2) (.ref he), ky w "numbers" (t 3) (.ref nu)] 4
structure ML where
  (mI mD nu : Nat)
  t : Nat → Tok
  (y y1 y2 : Lay)
noncomputable def esMe (w : World) (M : ML) : List DictEntry := [ky w "one" (M.t 0) (.ref M.y1.hI), ky w "other" (M.t 1) (.ref M.y2.hI), ky w "heap" (M.t 2) (.ref M.y.hI), ky w "numbers" (M.t 3) (.ref M.nu)]
structure MRep (w : World) (news : List (Addr × Obj)) (M : ML) (v : Dy) (σ : HS) (ps : List ((Nat × Nat) × Nat)) : Prop where
  i1 : (M.mI, instObj 433 M.mD) ∈ news
  i2 : (M.mD, dictOf (esMe w M) 4) ∈ news
  nu : PD w news M.nu ps
  h : HRep w news M.y v σ
  a1 : ¬ M.y.own v σ M.mI
  a2 : ¬ M.y.own v σ M.mD
  a3 : ¬ M.y.own v σ M.nu
  a4 : M.mI ≠ M.nu
  a5 : M.mD ≠ M.nu
structure MKept (M : ML) (v : Dy) (σ : HS) (v' : Dy) (σ' : HS) (news news' : List (Addr × Obj)) : Prop where
  keep : ∀ p ∈ news, ¬ M.y.own v σ p.1 → p.1 ≠ M.nu → p ∈ news'
  own : ∀ x : Nat, M.y.own v' σ' x → M.y.own v σ x ∨ ∀ p ∈ news, p.1 ≠ x
  addr : ∀ p ∈ news, ∃ o, (p.1, o) ∈ news'
section
variable {w : World} {news news' news'' : List (Addr × Obj)} {M : ML} {v v' v'' : Dy} {σ σ' σ'' : HS} {ps ps' : List ((Nat × Nat) × Nat)} {h₀ h : Heap} {L : Addr}
theorem MKept.of (K : Kept M.y v σ v' σ' news news') : MKept M v σ v' σ' news news' := ⟨fun p hp hn _ => K.keep p hp hn, K.own, K.addr⟩
theorem MKept.refl : MKept M v σ v σ news news := ⟨fun _ h _ _ => h, fun _ h => .inl h, fun p h => ⟨p.2, h⟩⟩
theorem MKept.trans (K : MKept M v σ v' σ' news news') (K' : MKept M v' σ' v'' σ'' news' news'') : MKept M v σ v'' σ'' news news'' where
  keep := fun p hp hn hne => K'.keep p (K.keep p hp hn hne) (fun q => by
    rcases K.own _ q with q | q
    · exact hn q
    · exact q p hp rfl) hne
  own := fun x hx => by
    rcases K'.own x hx with q | q
    · exact K.own x q
    · by_cases z : M.y.own v σ x
      · exact .inl z
      · refine .inr fun p hp e => ?_
        obtain ⟨o, ho⟩ := K.addr p hp
        exact q (p.1, o) ho e
  addr := fun p hp => by
    obtain ⟨o, ho⟩ := K.addr p hp
    exact K'.addr (p.1, o) ho
theorem MKept.more (K : MKept M v σ v' σ' news news') (h : ∀ p ∈ news', p ∈ news'') : MKept M v σ v' σ' news news'' := ⟨fun p hp hn hne => h _ (K.keep p hp hn hne), K.own, fun p hp => let ⟨o, ho⟩ := K.addr p hp; ⟨o, h (p.1, o) ho⟩⟩
theorem MKept.cons {p : Addr × Obj} (K : MKept M v σ v' σ' (p :: news) news') : MKept M v σ v' σ' news news' where
  keep := fun q hq hn => K.keep q (List.mem_cons_of_mem _ hq) hn
  own := fun x hx => (K.own x hx).imp id fun z q hq => z q (List.mem_cons_of_mem _ hq)
  addr := fun q hq => K.addr q (List.mem_cons_of_mem _ hq)
theorem MRep.heap (R : MRep w news M v σ ps) (K : Kept M.y v σ v' σ' news news') (st : TupStay news news') (H : HRep w news' M.y v' σ') : MRep w news' M v' σ' ps := by
  have c1 := K.cell R.i1 R.a1
  have c2 := K.cell R.i2 R.a2
  refine byC fun U0 => ?_
  obtain ⟨o, ho, _⟩ := pd_obj R.nu
  refine U0 ?_
  clear U0
  have c3 := K.cell ho R.a3
  exact ⟨c1.1, c2.1, R.nu.move st fun o ho => (K.cell ho R.a3).1, H, c1.2, c2.2, c3.2, R.a4, R.a5⟩
theorem MRep.sub (R : MRep w news M v σ ps) (h : ∀ p ∈ news, p ∈ news') : MRep w news' M v σ ps := ⟨h _ R.i1, h _ R.i2, R.nu.move (fun _ _ q => h _ q) fun _ q => h _ q, R.h.sub h, R.a1, R.a2, R.a3, R.a4, R.a5⟩
theorem MRep.consN {p : Addr × Obj} (R : MRep w news M v σ ps) (_N : News h₀ L h (p :: news)) : MRep w (p :: news) M v σ ps := R.sub fun _ hp => List.mem_cons_of_mem _ hp
theorem MRep.put (R : MRep w news M v σ ps) (N : News h₀ L h news) {o' : Obj} (P : PD w (Mine.put M.nu o' news) M.nu ps') : MRep w (Mine.put M.nu o' news) M v σ ps' ∧ MKept M v σ v σ news (Mine.put M.nu o' news) ∧ TupStay news (Mine.put M.nu o' news) := by
  refine byC fun U0 => ?_
  obtain ⟨o, ho, hc⟩ := pd_obj R.nu
  refine U0 ?_
  clear U0
  have st : TupStay news (Mine.put M.nu o' news) := TupStay.put N ho (by rw [hc]; simp)
  refine ⟨⟨put_of R.i1 R.a4, put_of R.i2 R.a5, P, R.h.move st fun a ha o hm => put_of hm fun e => R.a3 (e ▸ ha), R.a1, R.a2, R.a3, R.a4, R.a5⟩, ⟨fun p hp _ hne => put_of hp hne, fun x hx => .inl hx, put_addr⟩, st⟩
theorem kept_of (_R : MRep w news M v σ ps) : Kept M.y v σ v σ news news := .refl
end
section
variable {w : World} {A : Around} {E : Value → Shared → Prop} {s : Shared} {news : List (Addr × Obj)} {M : ML} {v : Dy} {σ : HS} {h₀ : Heap} {L a : Addr} {m : Str → Option Value} {Q : Value → Shared → Prop} {t : Tok} {ps : List ((Nat × Nat) × Nat)} {k : Nat × Nat}
theorem meet_setd {n : Nat} (F : Fr h₀ L s.heap m) (N : News h₀ L s.heap news) (R : MRep w news M v σ ps) (hk : KIn news 7 (.ref a) (pdat k)) (hu : A.units + 17 < cLine) (hz : ps.length ≤ 1000000)
    (h1 : ∀ i, pget ps k = some i → ∀ t tk, Q (.int (i : Nat) t) { s with toks := tk })
    (h2 : pget ps k = none → ∀ h' news' tk, Fr h₀ L h' m → News h₀ L h' news' → MRep w news' M v σ (ps ++ [(k, n)]) → MKept M v σ v σ news news' → TupStay news news' → Q (.int (n : Nat) t) { s with heap := h', toks := tk }) :
    wpAny (model prog w) A (call (.builtin "dict.setdefault") [.ref M.nu, .ref a, .int (n : Nat) t]) Q E s :=
  pd_setdefault F N R.nu hk hu hz h1 fun e h' o' tk F' N' P' st' => by
    refine byC fun U0 => ?_
    obtain ⟨R', K', st⟩ := R.put N P'
    refine U0 ?_
    clear U0
    exact h2 e h' _ tk F' N' R' K' st
end
end Mine
end

section
open PySem PySem.W PySem.Calls PyProof.Rows PySem.Spec
set_option maxRecDepth 100000
namespace Mine
noncomputable def SD (w : World) (news : List (Addr × Obj)) (d : Addr) (kvs : List (Str × Value)) : Prop :=
  (d == sysModules) = false ∧ ∃ o, (d, o) ∈ news ∧ o.IsDictOf (strKind prog w) kvs
section
variable {w : World} {A : Around} {E : Value → Shared → Prop} {s : Shared} {h₀ h : Heap} {L d tb cl : Addr} {m : Str → Option Value} {news news' : List (Addr × Obj)} {kvs : List (Str × Value)} {k : Str} {t : Tok}
theorem sd_cls {o : Obj} (x : o.IsDictOf (strKind prog w) kvs) : o.cls = .type "dict" := let ⟨_, _, hc, _⟩ := x; hc.1
theorem SD.at (T : SD w news d kvs) (N : News h₀ L h news) : h.DictOf (strKind prog w) d kvs :=
  let ⟨_, o, hm, hd⟩ := T
  Heap.dictOf_iff.mpr ⟨o, (N _ hm).1, hd⟩
theorem SD.obj (T : SD w news d kvs) : ∃ o, (d, o) ∈ news ∧ o.cls = .type "dict" := let ⟨_, o, hm, hc⟩ := T; ⟨o, hm, sd_cls hc⟩
theorem SD.move (T : SD w news d kvs) (hd : ∀ o, (d, o) ∈ news → (d, o) ∈ news') : SD w news' d kvs := let ⟨lo, o, hm, hc⟩ := T; ⟨lo, o, hd _ hm, hc⟩
theorem strKind_str (k : Str) (t : Tok) : (strKind prog w).is k (.str k t) = true := by simp [PySem.strKind, Value.isStrOf]
theorem sd_item {value slice : Expr} {v : Value} {Q : Value → Shared → Prop} (N : News h₀ L s.heap news) (T : SD w news d kvs) (hv : valueAt kvs k = some v)
    (h : ∀ tk, Q v { s with toks := tk }) (hs : subscripted slice false (.ref d) (.str k t) = operate [.ref d, .str k t] (getItem (.ref d) (.str k t)) := by with_unfolding_all rfl) :
    wpAny (model prog w) A (subscriptTail value slice (.ref d) (.str k t)) Q E s :=
  tail_any (T.at N).typeIs slot_dict_getitem.lookup (wpAny_getItem_of (strKind_str k t) (T.at N).mapOf hv (h _)) hs
theorem sd_set {v : Value} {Q : Unit → Shared → Prop} (F : Fr h₀ L s.heap m) (N : News h₀ L s.heap news) (T : SD w news d kvs) (hz : kvs.length ≤ 1000000)
    (h : ∀ h' o' tk, Fr h₀ L h' m → News h₀ L h' (put d o' news) → SD w (put d o' news) d (stored kvs k v) → TupStay news (put d o' news) → Q () { s with heap := h', toks := tk }) :
    wpAny (model prog w) A (setItem (.ref d) (.str k t) v) Q E s := by
  refine wpAny_setItem_pairs (hsz := by rw [sizeLine_eq]; lia) (strKind_str k t) (T.at N) fun h' D hs => ?_
  refine byC fun U0 => ?_
  obtain ⟨lo, o, hm, hc⟩ := T
  obtain ⟨o', ho', hc'⟩ := Heap.dictOf_iff.mp D
  refine U0 ?_
  clear U0
  exact h h' o' _ (F.change hs (N _ hm).2.1 (N _ hm).2.2) (news_put N hm hs ho') ⟨lo, o', put_self, hc'⟩ (TupStay.put N hm (by rw [sd_cls hc]; decide))
structure Tube (w : World) (news : List (Addr × Obj)) (tb cl : Addr) (at' : Nat) (cs : List Nat) : Prop where
  d : ∃ ta, SD w news tb [(Str.ofString "cells", .ref cl), (Str.ofString "at", .int (at' : Nat) ta)]
  c : IsInts news cl cs
variable {at' : Nat} {cs : List Nat}
theorem Tube.ne (T : Tube w news tb cl at' cs) (N : News h₀ L h news) : cl ≠ tb := fun e => by
  refine byC fun U0 => ?_
  subst e
  obtain ⟨_, D⟩ := T.d
  obtain ⟨o, ho, hc⟩ := D.obj
  obtain ⟨vs, n, hm, _⟩ := T.c
  refine U0 ?_
  clear U0
  rw [news_fn N ho hm] at hc
  simp at hc
theorem Tube.move (T : Tube w news tb cl at' cs) (h1 : ∀ o, (tb, o) ∈ news → (tb, o) ∈ news') (h2 : ∀ o, (cl, o) ∈ news → (cl, o) ∈ news') : Tube w news' tb cl at' cs := ⟨let ⟨ta, D⟩ := T.d; ⟨ta, D.move h1⟩, T.c.move h2⟩
theorem Tube.sub (T : Tube w news tb cl at' cs) (h : ∀ p ∈ news, p ∈ news') : Tube w news' tb cl at' cs := T.move (fun _ q => h _ q) fun _ q => h _ q
theorem tube_at {value slice : Expr} {Q : Value → Shared → Prop} (N : News h₀ L s.heap news) (T : Tube w news tb cl at' cs) (h : ∀ t tk, Q (.int (at' : Nat) t) { s with toks := tk })
    (hs : subscripted slice false (.ref tb) (.str (Str.ofString "at") t) = operate [.ref tb, .str (Str.ofString "at") t] (getItem (.ref tb) (.str (Str.ofString "at") t)) := by with_unfolding_all rfl) :
    wpAny (model prog w) A (subscriptTail value slice (.ref tb) (.str (Str.ofString "at") t)) Q E s := by
  obtain ⟨ta, D⟩ := T.d
  exact sd_item N D (by rfl) (fun tk => h ta tk) hs
theorem tube_cells {value slice : Expr} {Q : Value → Shared → Prop} (N : News h₀ L s.heap news) (T : Tube w news tb cl at' cs) (h : ∀ tk, Q (.ref cl) { s with toks := tk })
    (hs : subscripted slice false (.ref tb) (.str (Str.ofString "cells") t) = operate [.ref tb, .str (Str.ofString "cells") t] (getItem (.ref tb) (.str (Str.ofString "cells") t)) := by with_unfolding_all rfl) :
    wpAny (model prog w) A (subscriptTail value slice (.ref tb) (.str (Str.ofString "cells") t)) Q E s := by
  obtain ⟨ta, D⟩ := T.d
  exact sd_item N D (by rfl) h hs
theorem tube_set {k : Nat} {u : Tok} {Q : Unit → Shared → Prop} (F : Fr h₀ L s.heap m) (N : News h₀ L s.heap news) (T : Tube w news tb cl at' cs)
    (h : ∀ h' news' tk, Fr h₀ L h' m → News h₀ L h' news' → Tube w news' tb cl k cs → (∀ p ∈ news, p.1 ≠ tb → p ∈ news') → (∀ p ∈ news, ∃ o, (p.1, o) ∈ news') → TupStay news news' → Q () { s with heap := h', toks := tk }) :
    wpAny (model prog w) A (setItem (.ref tb) (.str (Str.ofString "at") t) (.int (k : Nat) u)) Q E s := by
  have hne := T.ne N
  obtain ⟨ta, D⟩ := T.d
  refine sd_set F N D (by simp) fun h' o' tk F' N' D' st => ?_
  refine h h' _ tk F' N' ⟨⟨u, ?_⟩, T.c.move fun o hm => put_of hm hne⟩ (fun p hp hn => put_of hp hn) put_addr st
  have e : stored [(Str.ofString "cells", Value.ref cl), (Str.ofString "at", .int (at' : Nat) ta)] (Str.ofString "at") (.int (k : Nat) u) = [(Str.ofString "cells", .ref cl), (Str.ofString "at", .int (k : Nat) u)] := by rfl
  rw [e] at D'
  exact D'
theorem tube_len {Q : Value → Shared → Prop} (N : News h₀ L s.heap news) (T : Tube w news tb cl at' cs) (hz : cs.length ≤ 1000) (h : ∀ t tk, Q (.int cs.length t) { s with toks := tk }) : wpAny (model prog w) A (call (.builtin "len") [.ref cl]) Q E s := len_ints N T.c (by lia) h
theorem tube_cell {value slice : Expr} {Q : Value → Shared → Prop} {i : Nat} {u : Tok} (N : News h₀ L s.heap news) (T : Tube w news tb cl at' cs) (hi : i < cs.length) (hz : i < 1000) (h : ∀ (c : Nat) t, Q (.int (c : Nat) t) s)
    (hs : subscripted slice false (.ref cl) (.int i u) = operate [.ref cl, .int i u] (getItem (.ref cl) (.int i u)) := by with_unfolding_all rfl) :
    wpAny (model prog w) A (subscriptTail value slice (.ref cl) (.int i u)) Q E s := by
  refine byC fun U0 => ?_
  obtain ⟨vs, n, hm, hi'⟩ := T.c
  obtain ⟨t, e⟩ := ints_get hi' hi
  refine U0 ?_
  clear U0
  exact item_B N hm e (by lia) (h _ t) hs
theorem HRep.tube {y : Lay} {v : Dy} {σ : HS} (H : HRep w news y v σ) (k : ∀ p ∈ news, p.1 ≠ tb → p ∈ news') (st : TupStay news news') (hn : ¬ y.own v σ tb) : HRep w news' y v σ :=
  H.move st fun a ha o hm => k _ hm fun e => hn (by dsimp only at e; exact e ▸ ha)
theorem Tube.cellne {D : Addr} (T : Tube w news tb cl at' cs) (lc : ∀ p ∈ news, p.1 < D) : D + 1 ≠ tb := fun e => by
  refine byC fun U0 => ?_
  obtain ⟨_, TD⟩ := T.d
  obtain ⟨o, ho, _⟩ := TD.obj
  refine U0 ?_
  clear U0
  have h1 : @LT.lt Nat _ tb D := lc _ ho
  have h2 : @Eq Nat (D + 1) tb := e
  lia
noncomputable def off3 (I C D : Addr) (nw : List (Addr × Obj)) : List (Addr × Obj) := nw.filter fun p => decide (p.1 ≠ I ∧ p.1 ≠ C ∧ p.1 ≠ D)
theorem mem_off3 {I C D : Addr} {nw : List (Addr × Obj)} {p : Addr × Obj} : p ∈ off3 I C D nw ↔ p ∈ nw ∧ p.1 ≠ I ∧ p.1 ≠ C ∧ p.1 ≠ D := by simp [off3]
theorem lists_eq {a b : Addr} {xs ys : List Value} {ds es : List Dat} {k1 k2 : Nat} {Q : Value → Shared → Prop} (N : News h₀ L s.heap news) (m1 : (a, W.listOf xs.toArray k1) ∈ news) (m2 : (b, W.listOf ys.toArray k2) ∈ news) (K1 : KInAll news 7 xs ds) (K2 : KInAll news 7 ys es) (hu : A.units + 64 < cLine)
    (h1 : ds = es → Q (.bool true) s) (h2 : ds ≠ es → Q (.bool false) s) : wpAny (model prog w) A (compareOp .Eq (.ref a) (.ref b)) Q E s := by
  refine byC fun U0 => ?_
  obtain ⟨as, ra⟩ := (K1.kat N).reads
  obtain ⟨bs, rb⟩ := (K2.kat N).reads
  refine U0 ?_
  clear U0
  have oa := (K1.kat N).ok
  have ob := (K2.kat N).ok
  have la := kqd_lay 8 (.list ds) (by simpa [kqdOk] using oa)
  have lb := kqd_lay 8 (.list es) (by simpa [kqdOk] using ob)
  rw [kqdP] at la lb
  refine eq_dataH (reads_list_at (N _ m1).1 rfl rfl (by simpa using ra)) (reads_list_at (N _ m2).1 rfl rfl (by simpa using rb)) ?_ ?_ hu (by
    rw [lists_eqv oa ob]
    by_cases e : ds = es
    · rw [decide_eq_true e]; exact h1 e
    · rw [decide_eq_false e]; exact h2 e)
  · unfold SeqAt.shaped; rw [la.1, Bool.true_and]; exact decide_eq_true (Nat.le_trans la.2 (by decide))
  · unfold SeqAt.shaped; rw [lb.1, Bool.true_and]; exact decide_eq_true (Nat.le_trans lb.2 (by decide))
theorem lists_nil {a b : Addr} {xs : List Value} {ds : List Dat} {k1 : Nat} {Q : Value → Shared → Prop} (N : News h₀ L s.heap news) (m1 : (a, W.listOf xs.toArray k1) ∈ news) (m2 : (b, W.listOf #[] 0) ∈ news) (K1 : KInAll news 7 xs ds) (hu : A.units + 64 < cLine)
    (h1 : xs = [] → Q (.bool true) s) (h2 : 0 < xs.length → Q (.bool false) s) : wpAny (model prog w) A (compareOp .Eq (.ref a) (.ref b)) Q E s :=
  lists_eq (ys := []) N m1 m2 K1 .nil hu (fun e => h1 (List.eq_nil_of_length_eq_zero (by rw [kinAll_len K1, e]; rfl))) fun e => h2 (by
    rw [kinAll_len K1]
    exact List.length_pos_iff.mpr e)
end
end Mine
end

section
open PySem PySem.W PySem.Calls PyProof.Rows PySem.Spec
set_option maxRecDepth 100000
namespace Mine
section
variable {prog : Program} {w : World} {A : Around} {E : Value → Shared → Prop} {s : Shared} {h₀ h h' : Heap} {L d I : Addr} {m : Str → Option Value} {news : List (Addr × Obj)} {es : Array DictEntry} {ep i : Nat}
noncomputable def DK (h : Heap) (d : Addr) (es : Array DictEntry) (ep : Nat) : Prop := ∃ o, h.get? d = some o ∧ o.ExactDict ∧ o.data = .dict es ep
theorem DK.keep (x : DK h d es ep) (e : ∀ o, h.get? d = some o → h'.get? d = some o) : DK h' d es ep := let ⟨o, ho, r⟩ := x; ⟨o, e _ ho, r⟩
theorem DK.type (x : DK s.heap d es ep) : s.TypeIs (.ref d) "dict" := let ⟨o, ho, hc, _⟩ := x; ⟨o, ho, hc.1⟩
theorem dk_iter {Q : Value → Shared → Prop} (lo : (d == sysModules) = false) (x : DK s.heap d es ep) (h : Q (.ref s.heap.objs.size) { s with heap := s.heap.push { cls := .type "dict_keyiterator", data := .fields #[.ref d, .int 0 0, .int es.size 0, .int ep 0] } }) :
    wpAny (model prog w) A (pyIter (.ref d)) Q E s := by
  have T := x.type
  refine byC fun U0 => ?_
  obtain ⟨o, ho, hc, hd⟩ := x
  refine U0 ?_
  clear U0
  refine wpAny_pyIter_slot T PySem.F.slot_dict_iter (wpAny_call_entry PySem.F.slot_dict_iter T PySem.F.entry_dict_iter ?_ (PySem.F.args_dict_iter_1 _))
  unfold Builtin.«dict.__iter__» Builtin.Dict.dictSlotNone
  refine wpAny_bind (wpAny_bind (wpAny_notOrdered_dict T ?_))
  refine wpAny_of_eq (a := Value.ref d) (by rfl) ?_
  refine wpAny_bind (wpAny_of_eq (a := d) (by rfl) ?_)
  unfold Builtin.Dict.showsAll
  rw [if_neg (by rw [lo]; exact Bool.false_ne_true)]
  refine wpAny_bind (wpAny_pure (wpAny_bind (wpAny_dictEntries ho hd (wpAny_bind (wpAny_dictEpoch ho hd (wpAny_bind (wpAny_newObj_type ?_)))))))
  refine wpAny_pure ⟨_, rfl, "dict_keyiterator", _, ⟨_, Heap.get?_push_size _ rfl, rfl⟩, PySem.F.slot_dict_keyiterator_next.lookup, ?_⟩
  simpa [rawInt] using h
theorem dk_step {Q : Option Value → Shared → Prop} (hit : s.heap.IsKeyIter I d i es.size ep) (x : DK s.heap d es ep) (h1 : ∀ hi : i < es.size, ∀ h', h'.IsKeyIter I d (i + 1) es.size ep → Heap.SameBut I s.heap h' → Q (some es[i].key) { s with heap := h' })
    (h2 : es.size ≤ i → ∀ h', Heap.ExtBut I s.heap h' → Q none { s with heap := h' }) (hh : A.handled = none) : wpAny (model prog w) A (pyNext (.ref I)) Q E s := by
  have T := hit.typeIs
  refine byC fun U0 => ?_
  obtain ⟨oi, hoi, hci, hdi⟩ := id hit
  obtain ⟨o, ho, hc, hd⟩ := id x
  refine U0 ?_
  clear U0
  unfold pyNext
  refine wpAny_bind (wpAny_attempt (wpAny_callSpecial?_slot (name := Str.ofString "__next__") T PySem.F.slot_dict_keyiterator_next (wpAny_call_entry PySem.F.slot_dict_keyiterator_next T PySem.F.entry_dict_keyiterator_next ?_ (PySem.F.args_dict_keyiterator_next_1 _))))
  refine wpAny_bind (wpAny_pure (wpAny_bind (wpAny_bind ?_)))
  refine wpAny_bind (wpAny_typeNameOfWhole_keyiter T (wpAny_pure (wpAny_bind (wpAny_fieldsOf hoi hdi ?_))))
  rw [show Builtin.Dict_items.ownsTuple "dict_keyiterator" = false by decide]
  refine wpAny_ite_split (fun q => absurd q Bool.false_ne_true) fun _ => ?_
  refine wpAny_bind (wpAny_of_eq (a := d) (by rfl) ?_)
  refine wpAny_bind (wpAny_dictEntries ho hd ?_)
  refine wpAny_ite_split (fun q => absurd q (by simp)) fun _ => ?_
  refine wpAny_bind (wpAny_of_eq (a := d) (by rfl) ?_)
  refine wpAny_bind (wpAny_dictEpoch ho hd ?_)
  refine wpAny_ite_split (fun q => absurd q (by simp)) fun _ => ?_
  refine wpAny_pure ?_
  dsimp only
  rw [if_neg (show ¬ ((i : Nat) : Int) < 0 by lia), Int.toNat_natCast]
  by_cases hi : i < es.size
  · rw [Array.getElem?_eq_getElem hi]
    dsimp only
    refine wpAny_bind (wpAny_bind (wpAny_typeNameOfWhole_keyiter T (wpAny_pure (wpAny_bind (wpAny_isOneOf_keyiter T ?_)))))
    refine (?_ : wpAny _ _ (setField (.ref I) 1 (rawInt ((i : Nat) + 1 : Int)) >>= _) _ _ s)
    refine wpAny_bind (wpAny_setField hoi hdi (by simp) ?_)
    have up : (s.heap.update I (Obj.mapFields (·.setIfInBounds 1 (rawInt ((i : Int) + 1))))).IsKeyIter I d (i + 1) es.size ep :=
      ⟨_, Heap.get?_update_self _ hoi (Obj.isFreed_of_fields (Obj.data_mapFields hdi _)), (Obj.cls_mapFields ..).trans hci, by rw [Obj.data_mapFields hdi]; simp [rawInt]⟩
    refine wpAny_bind (wpAny_holding (wpAny_bind (wpAny_isOneOf_keyiter (s := { s with heap := s.heap.update I (Obj.mapFields (·.setIfInBounds 1 (rawInt ((i : Int) + 1)))) }) up.typeIs ?_)))
    exact wpAny_of_eq (a := es[i].key) (by rfl) (wpAny_pure ⟨_, rfl, wpAny_pure (h1 hi _ up (Heap.SameBut.update ..))⟩)
  · rw [Array.getElem?_eq_none (Nat.le_of_not_lt hi)]
    dsimp only
    refine wpAny_bind (wpAny_bind (wpAny_typeNameOfWhole_keyiter T (wpAny_pure ?_)))
    refine (?_ : wpAny _ _ (setField (.ref I) 0 .none >>= _) _ _ s)
    refine wpAny_bind (wpAny_setField hoi hdi (by simp) (wpAny_bind ?_))
    unfold newExc newTuple
    refine wpAny_bind (wpAny_newObj_type ?_ (by size_fits))
    refine wpAny_bind (wpAny_of_eq (a := Value.none) (by first | rfl | (simp only [firstArgMember]; rfl)) (wpAny_newObj_type ?_ (by size_fits)))
    unfold raiseNew
    refine wpAny_bind (wpAny_handled ?_)
    rw [show A.in1.handled = none from hh]
    refine wpAny_bind (wpAny_pure (wpAny_throw ?_))
    refine wpAny_bind (wpAny_isInstance (T := "StopIteration") (b := true) ⟨_, Heap.get?_push_size _ rfl, rfl⟩ isSubtype_stop ?_)
    exact wpAny_pure (h2 (Nat.le_of_not_lt hi) _ (((Heap.SameBut.update ..).extBut.push _).push _))
theorem dk_walks (hh : A.handled = none) (hne : d ≠ I) : Walks prog w A I [I, d] [I] es.size (fun i v => ∃ e, es[i]? = some e ∧ v = e.key) (fun i h => h.IsKeyIter I d i es.size ep ∧ DK h d es ep) where
  sub := fun b hb => by simp at hb; simp [hb]
  frame := fun _ _ _ st hk => ⟨st.1.at fun o e => hk I (by simp) o e, st.2.keep fun o e => hk d (by simp) o e⟩
  item := fun i s Q E hi st hQ => dk_step st.1 st.2 (fun hi' h' up sb => hQ _ h' s.toks ⟨_, Array.getElem?_eq_getElem hi', rfl⟩ ⟨up, st.2.keep fun o e => sb.extBut d o hne e⟩ fun b o hb e => sb.extBut b o (fun q => hb (by simp [q])) e) (fun q => absurd hi (Nat.not_lt.mpr q)) hh
  done := fun s Q E st hQ => dk_step st.1 st.2 (fun hi' => absurd hi' (Nat.lt_irrefl _)) (fun _ h' eb => hQ h' s.toks fun b o hb e => eb b o (fun q => hb (by simp [q])) e) hh
  self := fun _ _ _ _ st hQ => wpAny_pyIter_keyiter st.1 hQ
theorem dk_src (lo : (d == sysModules) = false) : KdlSrc prog w "dict" d d es.size (fun i v => ∃ e, es[i]? = some e ∧ v = e.key) (fun h => DK h d es ep) where
  type := fun _ x => x.type
  there := fun _ x => let ⟨_, ho, _⟩ := x; ⟨Heap.lt_size ho, Heap.lt_size ho⟩
  keep := fun _ _ x hk => x.keep fun o e => hk d (.inl rfl) o e
  notList := by decide
  notTuple := by decide
  hint := fun _ _ _ _ x hq => kdl_hint_dict x.type hq
  iter := fun A s hh x => ⟨_, _, fun _ _ hq => dk_iter lo x hq, dk_walks hh (Nat.ne_of_lt (let ⟨_, ho, _⟩ := x; Heap.lt_size ho)), ⟨⟨_, Heap.get?_push_size _ rfl, rfl, rfl⟩, x.keep fun o e => Heap.get?_push_of_some _ e⟩⟩
theorem td_dk {xs : List (Dat × Addr × Value)} (T : TD prog w news d xs) (N : News h₀ L h news) : ∃ es ep, DK h d es ep ∧ es.size = xs.length ∧ ∀ (i : Nat) (e : DictEntry), es[i]? = some e → ∃ x, xs[i]? = some x ∧ e.key = .ref x.2.1 := by
  refine byC fun U0 => ?_
  obtain ⟨_, o, es, ep, hm, hc, hd, he, _, _⟩ := T
  refine U0 ?_
  clear U0
  refine ⟨es, ep, ⟨o, (N _ hm).1, hc, hd⟩, by rw [← Array.length_toList, he, List.length_map], fun i e q => ?_⟩
  rw [← Array.getElem?_toList, he, List.getElem?_map] at q
  refine byC fun U0 => ?_
  obtain ⟨x, hx, rfl⟩ := Option.map_eq_some_iff.mp q
  refine U0 ?_
  clear U0
  exact ⟨x, hx, rfl⟩
variable {xs : List (Dat × Addr × Value)} {Q : Value → Shared → Prop}
theorem td_list (hh : A.handled = none) (F : Fr h₀ L s.heap m) (N : News h₀ L s.heap news) (T : TD prog w news d xs) (hz : xs.length ≤ 1000)
    (h : ∀ (D : Addr) c h' tk (vs : List Value), Fr h₀ L h' m → News h₀ L h' ((D, W.listOf vs.toArray c) :: news) → (∀ q ∈ news, q.1 < D) → vs.length = xs.length → (∀ (j : Nat) (v : Value), vs[j]? = some v → ∃ x, xs[j]? = some x ∧ v = .ref x.2.1) → Q (.ref D) { s with heap := h', toks := tk }) :
    wpAny (model prog w) A (call (.type "list") [.ref d]) Q E s := by
  refine byC fun U0 => ?_
  obtain ⟨es, ep, x, hs, hk⟩ := td_dk T N
  refine U0 ?_
  clear U0
  exact kdl_N (dk_src T.1) hh F N x (by rw [hs, sizeLine_eq]; lia) fun D c h' tk vs F' N' lt hl hv => h D c h' tk vs F' N' lt (hl.trans hs) fun j v q => by
    refine byC fun U0 => ?_
    obtain ⟨e, he, rfl⟩ := hv j v q
    refine U0 ?_
    clear U0
    exact hk j e he
theorem td_sorted (hh : A.handled = none) (hu : A.units + 30 < cLine) (F : Fr h₀ L s.heap m) (N : News h₀ L s.heap news) (T : TD prog w news d xs) (hz : xs.length ≤ 4) (hT : ∀ x ∈ xs, TupSI news (.ref x.2.1))
    (h : ∀ (D : Addr) c h' tk (vs : List Value), Fr h₀ L h' m → News h₀ L h' ((D, W.listOf vs.toArray c) :: news) → (∀ q ∈ news, q.1 < D) → vs.length = xs.length → (∀ v ∈ vs, ∃ x ∈ xs, v = .ref x.2.1) → Q (.ref D) { s with heap := h', toks := tk }) :
    wpAny (model prog w) A (call (.builtin "sorted") [.ref d]) Q E s := by
  refine byC fun U0 => ?_
  obtain ⟨es, ep, x, hs, hk⟩ := td_dk T N
  refine U0 ?_
  clear U0
  refine kdu_sorted (dk_src T.1) hh F N x (by rw [hs, sizeLine_eq]; lia) fun D h' tk vs F' N' lt hl hv => ?_
  have hvx : ∀ v ∈ vs, ∃ x ∈ xs, v = .ref x.2.1 := fun v q => by
    refine byC fun U0 => ?_
    obtain ⟨j, hj⟩ := List.mem_iff_getElem?.mp q
    obtain ⟨e, he, rfl⟩ := hv j v hj
    obtain ⟨x, hx, ex⟩ := hk j e he
    refine U0 ?_
    clear U0
    exact ⟨x, List.mem_of_getElem? hx, ex⟩
  refine lsort_tups (s := { s with heap := h', toks := tk }) (by show A.units + 1 + 17 < cLine; lia) F' N' lt (fun v q => by obtain ⟨x, hx, rfl⟩ := hvx v q; exact hT x hx) (by rw [hl, hs]; exact hz) fun vs' c h2 pv F2 N2 => ?_
  exact h D c h2 tk vs' F2 N2 lt (by rw [pv.length_eq, hl, hs]) fun v q => hvx v (pv.mem_iff.mp q)
end
end Mine
end

section
open PySem PySem.W PySem.Calls PyProof.Rows PySem.Spec
set_option maxRecDepth 100000
namespace Mine
noncomputable def PairT (news : List (Addr × Obj)) (u : Value) : Prop := ∃ a x z, u = .ref a ∧ (a, tupObj [x, z]) ∈ news
noncomputable def PairL (news : List (Addr × Obj)) (l : Addr) (K : Nat) : Prop := ∃ us n, (l, W.listOf (List.toArray us) n) ∈ news ∧ (∀ u ∈ us, PairT news u) ∧ us.length ≤ K
theorem PairT.move {news news' : List (Addr × Obj)} {u : Value} (x : PairT news u) (st : TupStay news news') : PairT news' u := let ⟨a, p, q, e, hm⟩ := x; ⟨a, p, q, e, st _ _ hm⟩
theorem PairL.move {news news' : List (Addr × Obj)} {l : Addr} {K : Nat} (x : PairL news l K) (st : TupStay news news') (h : ∀ o, (l, o) ∈ news → (l, o) ∈ news') : PairL news' l K :=
  let ⟨us, n, hm, hu, hz⟩ := x; ⟨us, n, h _ hm, fun u q => (hu u q).move st, hz⟩
theorem PairL.mono {news : List (Addr × Obj)} {l : Addr} {K K' : Nat} (x : PairL news l K) (h : K ≤ K') : PairL news l K' := let ⟨us, n, hm, hu, hz⟩ := x; ⟨us, n, hm, hu, Nat.le_trans hz h⟩
structure NB (P : Str → Prop) (w : World) (base nw : List (Addr × Obj)) (fd : Addr) (xs : List (Dat × Addr × Value)) (K : Nat) : Prop where
  td : TD prog w nw fd xs
  ks : ∀ x ∈ xs, ∃ op, P op ∧ x.1 = .tuple [.str op, .int 0]
  vs : ∀ x ∈ xs, ∃ l, x.2.2 = .ref l ∧ PairL nw l K ∧ ∀ p ∈ base, p.1 ≠ l
  keep : ∀ p ∈ base, p.1 ≠ fd → p ∈ nw
  st : TupStay base nw
section
variable {P : Str → Prop} {w : World} {A : Around} {E : Value → Shared → Prop} {s : Shared} {h₀ h : Heap} {L fd l a : Addr} {m : Str → Option Value} {base base' nw nw' : List (Addr × Obj)} {xs : List (Dat × Addr × Value)} {K K' : Nat}
theorem NB.mono (B : NB P w base nw fd xs K) (h : K ≤ K') : NB P w base nw fd xs K' := { B with vs := fun x hx => let ⟨l, e, p, f⟩ := B.vs x hx; ⟨l, e, p.mono h, f⟩ }
theorem NB.less (B : NB P w base nw fd xs K) (h : ∀ p ∈ base', p ∈ base) : NB P w base' nw fd xs K :=
  { B with vs := fun x hx => let ⟨l, e, p, f⟩ := B.vs x hx; ⟨l, e, p, fun p hp => f p (h p hp)⟩, keep := fun p hp => B.keep p (h p hp), st := fun a us q => B.st a us (h _ q) }
theorem NB.sub (B : NB P w base nw fd xs K) (h : ∀ p ∈ nw, p ∈ nw') : NB P w base nw' fd xs K where
  td := B.td.move (fun _ _ q => h _ q) fun _ q => h _ q
  ks := B.ks
  vs := fun x hx => let ⟨l, e, p, f⟩ := B.vs x hx; ⟨l, e, p.move (fun _ _ q => h _ q) fun _ q => h _ q, f⟩
  keep := fun p hp hn => h _ (B.keep p hp hn)
  st := fun a us q => h _ (B.st a us q)
theorem NB.add (B : NB P w base nw fd xs K) (h : ∀ p ∈ nw, p ∈ nw') {q : Addr × Obj} (hq : q ∈ nw') (hf : ∀ p ∈ nw, p.1 ≠ q.1) : NB P w (q :: base) nw' fd xs K :=
  { B.sub h with
    vs := fun x hx => let ⟨l, e, p, f⟩ := (B.sub h).vs x hx; ⟨l, e, p, fun p hp => by
      rcases List.mem_cons.mp hp with rfl | hp
      · refine byC fun U0 => ?_
        obtain ⟨l', e', ⟨us, n, hm, _⟩, _⟩ := B.vs x hx
        refine U0 ?_
        clear U0
        rw [e] at e'; cases e'
        exact (hf _ hm).symm
      · exact f p hp⟩
    keep := fun p hp hn => by
      rcases List.mem_cons.mp hp with rfl | hp
      · exact hq
      · exact (B.sub h).keep p hp hn
    st := fun a us ha => by
      rcases List.mem_cons.mp ha with e | ha
      · rw [e]; exact hq
      · exact (B.sub h).st a us ha }
theorem NB.offI {I : Addr} {oI : Obj} (B : NB P w ((I, oI) :: base) nw fd xs K) (N : News h₀ L h nw) (hf : I ≠ fd) (hc : oI.cls ≠ .type "tuple") (off : ∀ p ∈ base, p.1 ≠ I) : NB P w base (Mine.offI I nw) fd xs K := by
  have hI := B.keep _ mem_hd hf
  have st := tup_offI N hI hc
  refine ⟨B.td.move st fun o q => mem_offI.mpr ⟨q, fun e => hf e.symm⟩, B.ks, fun x hx => ?_, fun p hp hn => mem_offI.mpr ⟨B.keep p (mem_tl hp) hn, off p hp⟩, fun a us q => st _ _ (B.st a us (mem_tl q))⟩
  refine byC fun U0 => ?_
  obtain ⟨l, e, p, f⟩ := B.vs x hx
  refine U0 ?_
  clear U0
  exact ⟨l, e, p.move st fun o q => mem_offI.mpr ⟨q, fun e => f _ mem_hd e.symm⟩, fun p hp => f p (mem_tl hp)⟩
theorem NB.ne (B : NB P w base nw fd xs K) (N : News h₀ L h nw) {x : Dat × Addr × Value} (hx : x ∈ xs) {l : Addr} (e : x.2.2 = .ref l) : l ≠ fd := fun q => by
  refine byC fun U0 => ?_
  obtain ⟨l', e', ⟨us, n, hm, _⟩, _⟩ := B.vs x hx
  refine U0 ?_
  clear U0
  rw [e] at e'; cases e'
  refine byC fun U0 => ?_
  obtain ⟨o, ho, hc⟩ := B.td.obj
  refine U0 ?_
  clear U0
  rw [news_fn N ho (q ▸ hm)] at hc
  simp at hc
theorem nb_set (B : NB P w base nw fd xs K) {o' : Obj} {k : Dat} {D : Addr} {op : Str} (hk : k = .tuple [.str op, .int 0]) (hP : P op) (N : News h₀ L h nw) (T : TD prog w (put fd o' nw) fd (storedH xs k a (.ref D))) (st : TupStay nw (put fd o' nw)) (hn : atKey xs k = none)
    (hD : (D, W.listOf #[] 0) ∈ nw) (fr : ∀ p ∈ base, p.1 ≠ D) : NB P w base (put fd o' nw) fd (storedH xs k a (.ref D)) K := by
  have hDf : D ≠ fd := fun q => by
    refine byC fun U0 => ?_
    obtain ⟨o, ho, hc⟩ := B.td.obj
    refine U0 ?_
    clear U0
    rw [news_fn N ho (q ▸ hD)] at hc
    simp at hc
  rw [storedH_new hn] at T ⊢
  refine ⟨T, fun x hx => ?_, fun x hx => ?_, fun p hp hn => put_of (B.keep p hp hn) hn, fun a us q => st _ _ (B.st a us q)⟩
  · rcases List.mem_append.mp hx with hx | hx
    · exact B.ks x hx
    · rw [List.mem_singleton.mp hx]; exact ⟨op, hP, hk⟩
  · rcases List.mem_append.mp hx with hx | hx
    · refine byC fun U0 => ?_
      obtain ⟨l, e, p, f⟩ := B.vs x hx
      refine U0 ?_
      clear U0
      exact ⟨l, e, p.move st fun o q => put_of q (B.ne N hx e), f⟩
    · rw [List.mem_singleton.mp hx]
      exact ⟨D, rfl, ⟨[], 0, put_of hD hDf, nofun, Nat.zero_le _⟩, fr⟩
theorem nb_setdefault {Q : Value → Shared → Prop} {D : Addr} {op : Str} (F : Fr h₀ L s.heap m) (N : News h₀ L s.heap nw) (B : NB P w base nw fd xs K) (hk : KIn nw 7 (.ref a) (.tuple [.str op, .int 0])) (hP : P op) (hu : A.units + 17 < cLine) (hD : (D, W.listOf #[] 0) ∈ nw) (fr : ∀ p ∈ base, p.1 ≠ D) (hz : xs.length ≤ 1000)
    (h : ∀ h' nw' xs' l tk, Fr h₀ L h' m → News h₀ L h' nw' → NB P w base nw' fd xs' K → (∃ x ∈ xs', x.2.2 = .ref l) → (∀ p ∈ nw, p.1 ≠ fd → p ∈ nw') → TupStay nw nw' → xs'.length ≤ xs.length + 1 → Q (.ref l) { s with heap := h', toks := tk }) :
    wpAny (model prog w) A (call (.builtin "dict.setdefault") [.ref fd, .ref a, .ref D]) Q E s := by
  refine td_setdefault F N B.td hk hu (fun p tk e => ?_) (fun e h' o' tk F' N' T' st => ?_) (by rw [sizeLine_eq]; lia)
  · refine byC fun U0 => ?_
    obtain ⟨x, hx, rfl⟩ : ∃ x ∈ xs, x.2 = p := by
      unfold atKey at e
      obtain ⟨x, hx, e'⟩ := Option.map_eq_some_iff.mp e
      exact ⟨x, List.mem_of_find?_eq_some hx, e'⟩
    obtain ⟨l, el, _⟩ := B.vs x hx
    refine U0 ?_
    clear U0
    rw [el]
    exact h _ nw xs l tk F N B ⟨x, hx, el⟩ (fun p hp _ => hp) .refl (Nat.le_succ _)
  · refine h h' _ _ D tk F' N' (nb_set B rfl hP N T' st e hD fr) ?_ (fun p hp hn => put_of hp hn) st ?_
    · rw [storedH_new e]; exact ⟨_, List.mem_append_right _ (List.mem_singleton.mpr rfl), rfl⟩
    · rw [storedH_new e]; simp
theorem nb_append {Q : Value → Shared → Prop} {u : Value} (F : Fr h₀ L s.heap m) (N : News h₀ L s.heap nw) (B : NB P w base nw fd xs K) (hl : ∃ x ∈ xs, x.2.2 = .ref l) (hu : PairT nw u) (hK : K ≤ 1000)
    (h : ∀ h' nw', Fr h₀ L h' m → News h₀ L h' nw' → NB P w base nw' fd xs (K + 1) → TupStay nw nw' → Q .none { s with heap := h' }) :
    wpAny (model prog w) A (call (.builtin "list.append") [.ref l, u]) Q E s := by
  refine byC fun U0 => ?_
  obtain ⟨x, hx, el⟩ := hl
  have hne := B.ne N hx el
  obtain ⟨l', e', ⟨us, n, hm, hus, hz⟩, hf⟩ := B.vs x hx
  refine U0 ?_
  clear U0
  rw [el] at e'; cases e'
  refine append_B F N hm (by lia) fun h' F' N' => ?_
  have st : TupStay nw (put l (W.listOf (us ++ [u]).toArray (n + 1)) nw) := TupStay.put N hm (by simp)
  refine h h' _ F' N' ⟨B.td.move st fun o q => put_of q hne.symm, B.ks, fun y hy => ?_, fun p hp hn => put_of (B.keep p hp hn) (hf p hp), fun a us q => st _ _ (B.st a us q)⟩ st
  refine byC fun U0 => ?_
  obtain ⟨l2, e2, p2, f2⟩ := B.vs y hy
  refine U0 ?_
  clear U0
  by_cases q : l2 = l
  · subst q
    exact ⟨l2, e2, ⟨_, _, put_self, fun v hv => by
      rcases List.mem_append.mp hv with hv | hv
      · exact (hus v hv).move st
      · rw [List.mem_singleton.mp hv]; exact hu.move st, by simp; lia⟩, f2⟩
  · exact ⟨l2, e2, (p2.move st fun o r => put_of r q).mono (Nat.le_succ _), f2⟩
theorem NB.method {name : Str} {id : String} {pl : Sem Bool} {Q : Value × List Value → Shared → Prop} (N : News h₀ L s.heap nw) (B : NB P w base nw fd xs K) (slot : Slot "dict" name id) (hty : typeOf (.builtin id) = pure (.type "method_descriptor"))
    (h : Q (.builtin id, [.ref fd]) s) : wpAny (model prog w) A (getMethod (.ref fd) name pl) Q E s := td_method N B.td slot hty h
theorem nodup_len : ∀ {l k : List Dat}, l.Nodup → (∀ x ∈ l, x ∈ k) → l.length ≤ k.length
  | [], _, _, _ => Nat.zero_le _
  | x :: l, k, hn, hs => by
    obtain ⟨h1, h2⟩ := List.nodup_cons.mp hn
    have hx := hs x (.head _)
    have := nodup_len (l := l) (k := k.erase x) h2 fun y hy => (List.mem_erase_of_ne (by rintro rfl; exact h1 hy)).mpr (hs y (.tail _ hy))
    rw [List.length_erase_of_mem hx] at this
    have := List.length_pos_of_mem hx
    simp only [List.length_cons]
    lia
theorem NB.len {ops : List Str} (B : NB (fun x => x ∈ ops) w base nw fd xs K) : xs.length ≤ ops.length := by
  refine byC fun U0 => ?_
  obtain ⟨_, _, _, _, _, _, _, _, _, hn⟩ := B.td
  refine U0 ?_
  clear U0
  have := nodup_len (k := ops.map fun op => Dat.tuple [.str op, .int 0]) hn fun x hx => by
    refine byC fun U0 => ?_
    obtain ⟨y, hy, rfl⟩ := List.mem_map.mp hx
    obtain ⟨op, ho, e⟩ := B.ks y hy
    refine U0 ?_
    clear U0
    rw [e]
    exact List.mem_map.mpr ⟨op, ho, rfl⟩
  simpa using this
theorem td_none {d : Addr} {o : Obj} (lo : (d == sysModules) = false) (hm : (d, o) ∈ nw) (h : o.IsDictOf (intKind prog w) []) : TD prog w nw d [] := by
  refine byC fun U0 => ?_
  obtain ⟨es, ep, hc, hd, hk, hp⟩ := h
  refine U0 ?_
  clear U0
  have := hp.1.length
  exact ⟨lo, o, es, ep, hm, hc, hd, by simpa using this, by simp, by simp⟩
theorem NB.none (T : TD prog w nw fd []) (h : ∀ p ∈ base, p.1 ≠ fd → p ∈ nw) (st : TupStay base nw) : NB P w base nw fd [] 0 := ⟨T, nofun, nofun, h, st⟩
theorem name_td (_T : TD prog w nw fd xs) : ∃ x, x = fd := ⟨_, rfl⟩
theorem NB.off {I : Addr} (B : NB P w base nw fd xs K) (h : ∀ p ∈ nw, p.1 ≠ I) : ∀ p ∈ base, p.1 ≠ I := fun p hp => by
  by_cases e : p.1 = fd
  · refine byC fun U0 => ?_
    obtain ⟨o, ho, _⟩ := B.td.obj
    refine U0 ?_
    clear U0
    rw [e]; exact h _ ho
  · exact h _ (B.keep p hp e)
theorem NB.fdne {I : Addr} (B : NB P w base nw fd xs K) (h : ∀ p ∈ nw, p.1 ≠ I) : fd ≠ I := by
  refine byC fun U0 => ?_
  obtain ⟨o, ho, _⟩ := B.td.obj
  refine U0 ?_
  clear U0
  exact h _ ho
theorem nb_isl (B : NB P w base nw fd xs K) (hl : ∃ x ∈ xs, x.2.2 = .ref l) : IsL nw l := by
  refine byC fun U0 => ?_
  obtain ⟨x, hx, el⟩ := hl
  obtain ⟨l', e', ⟨us, n, hm, _⟩, _⟩ := B.vs x hx
  refine U0 ?_
  clear U0
  rw [el] at e'; cases e'
  exact ⟨_, _, hm⟩
theorem name_nb (_B : NB P w base nw fd xs K) : ∃ x, x = base := ⟨_, rfl⟩
theorem name_xs (_B : NB P w base nw fd xs K) : ∃ x, x = xs := ⟨_, rfl⟩
theorem kin_si {op : Str} (h : KIn nw 7 (.ref a) (.tuple [.str op, .int 0])) : TupSI nw (.ref a) := by
  obtain ⟨_, a, us, e, hm, hv⟩ := KP.tup_inv h
  obtain ⟨_, us, rfl, h1, h2⟩ := KPs.cons_inv hv
  obtain ⟨t, rfl, ok⟩ := KP.str_inv h1
  obtain ⟨_, us, rfl, h3, h4⟩ := KPs.cons_inv h2
  obtain ⟨u, rfl⟩ := KP.int_inv h3
  rw [KPs.nil_inv h4] at hm
  exact ⟨_, _, _, _, _, e, hm, .cons _ _ .nil, ok⟩
theorem NB.key (B : NB P w base nw fd xs K) {x : Dat × Addr × Value} (hx : x ∈ xs) : KIn nw 7 (.ref x.2.1) x.1 := by
  refine byC fun U0 => ?_
  obtain ⟨_, _, _, _, _, _, _, _, hk, _⟩ := B.td
  refine U0 ?_
  clear U0
  exact hk x hx
theorem NB.si (B : NB P w base nw fd xs K) {x : Dat × Addr × Value} (hx : x ∈ xs) : TupSI nw (.ref x.2.1) := by
  have h := B.key hx
  refine byC fun U0 => ?_
  obtain ⟨op, _, e⟩ := B.ks x hx
  refine U0 ?_
  clear U0
  rw [e] at h
  exact kin_si h
theorem nb_item {value slice : Expr} {Q : Value → Shared → Prop} {x : Dat × Addr × Value} (N : News h₀ L s.heap nw) (B : NB P w base nw fd xs K) (hx : x ∈ xs) (hu : A.units + 17 < cLine)
    (h : ∀ l tk, PairL nw l K → Q (.ref l) { s with toks := tk }) (hs : subscripted slice false (.ref fd) (.ref x.2.1) = operate [.ref fd, .ref x.2.1] (getItem (.ref fd) (.ref x.2.1)) := by with_unfolding_all rfl) :
    wpAny (model prog w) A (subscriptTail value slice (.ref fd) (.ref x.2.1)) Q E s := by
  refine byC fun U0 => ?_
  obtain ⟨l, e, p, _⟩ := B.vs x hx
  obtain ⟨i, hi⟩ := List.mem_iff_getElem?.mp hx
  refine U0 ?_
  clear U0
  have hn : (xs.map (·.1)).Nodup := by obtain ⟨_, _, _, _, _, _, _, _, _, hn⟩ := B.td; exact hn
  exact td_item N B.td (B.key hx) (atKey_of_get hn (k := x.1) (p := x.2) hi) hu (fun tk => by rw [e]; exact h l tk p) hs
theorem nb_get {Q : Value → Shared → Prop} {dflt : Value} {k : Dat} (N : News h₀ L s.heap nw) (B : NB P w base nw fd xs K) (hk : KIn nw 7 (.ref a) k) (hno : ∀ x ∈ xs, x.1 ≠ k) (hu : A.units + 17 < cLine)
    (h : ∀ tk, Q dflt { s with toks := tk }) : wpAny (model prog w) A (call (.builtin "dict.get") [.ref fd, .ref a, dflt]) Q E s := by
  refine td_get N B.td hk hu fun tk => ?_
  rw [atKey_none_of_get fun j p q => hno _ (List.mem_of_getElem? q) rfl]
  exact h tk
theorem name_nw (_B : NB P w base nw fd xs K) : ∃ x, x = nw := ⟨_, rfl⟩
theorem name_fd (_B : NB P w base nw fd xs K) : ∃ x, x = fd := ⟨_, rfl⟩
theorem cont_ne {l : List Str} {z : Str} (h : l.contains z = false) : ∀ x ∈ l, z ≠ x := fun x hx e => by
  subst e
  have : l.contains z = true := by simpa using hx
  rw [h] at this
  cases this
theorem not_cont {l : List Str} {z : Str} (h : ∀ x ∈ l, z ≠ x) : ¬ l.contains z = true := fun q => h z (by simpa using q) rfl
theorem name_lt {l : List (Addr × Obj)} {D : Addr} (_h : ∀ p ∈ l, p.1 < D) : ∃ x, x = D := ⟨_, rfl⟩
end
end Mine
end

section
open PySem PySem.W PySem.Calls PyProof.Rows PySem.Spec PyProof.Rows.LCg PyProof.Rows.LCt
set_option maxRecDepth 100000
namespace Mine
section
variable {prog : Program} {w : World} {A : Around} {E : Value → Shared → Prop} {s : Shared} {h₀ : Heap} {L : Addr} {m : Str → Option Value} {env : Env}
noncomputable def LoopX (prog : Program) (w : World) (A : Around) (env : Env) (target : Expr) (body : List Stmt) (Q : Flow → Shared → Prop) (E : Value → Shared → Prop) (it : Value) (s₂ : Shared) : Prop :=
  codeAny (model prog w) A (.forLoop target it body [] env) (fun r s' => match r with | .ok f => Q f s' | .error e => cameBackBy (model prog w) A env E e s') s₂
theorem For_X {Q : Flow → Shared → Prop} {target iter : Expr} {pos : Pos} {body : List Stmt}
    (h : wpAny (model prog w) A (eval iter env) (fun xv s₁ => wpAny (model prog w) A (pyIter xv) (fun it s₂ => LoopX prog w A env target body Q E it s₂) E s₁) E s) (hs : ∀ x, foldedSetIterable iter env x = pure x) :
    wpAny (model prog w) A (exec (.For target iter body [] pos) env) Q E s :=
  wpAny_For h hs
inductive FoEndE {σ : Type} (h₀ : Heap) (L : Addr) (Led : σ → List (Addr × Obj)) (ps : σ → List (Str × Value)) (stored : List Str) (m₀ : Str → Option Value) (Inv : σ → Prop) (e it : Addr) (oe oi : Obj) (s₁ s₂ : Shared) : Prop
  | mk (c' : σ) (h' : Heap) (tk : Nat) (m' : Str → Option Value) (news' : List (Addr × Obj)) (q : s₂ = { s₁ with heap := h', toks := tk }) (F : Fr h₀ L h' m') (N : News h₀ L h' news') (hn : ∀ p ∈ Led c', p ∈ news') (h1 : (e, oe) ∈ news') (h2 : (it, oi) ∈ news') (off : ∀ p ∈ Led c', p.1 ≠ e ∧ p.1 ≠ it) (hk : ∀ p ∈ ps c', m' p.1 = some p.2)
    (hr : ∀ z, (∀ p ∈ ps c', z ≠ p.1) → stored.contains z = false → m' z = m₀ z) (hp : Inv c') : FoEndE h₀ L Led ps stored m₀ Inv e it oe oi s₁ s₂
inductive EnumSt {σ : Type} (h₀ : Heap) (L : Addr) (Led : σ → List (Addr × Obj)) (ps : σ → List (Str × Value)) (stored : List Str) (m₀ : Str → Option Value) (Inv : Nat → σ → Prop) (e it l : Addr) (us : List Value) (s : Shared) (k : Nat) (s' : Shared) : Prop
  | mk (i : Nat) (st : (∃ old, IsEnum s'.heap e it i old) ∧ s'.heap.IsListIter it l i ∧ s'.heap.IsList l us.toArray) (c : σ) (h1 : Heap) (tk : Nat) (m₁ : Str → Option Value) (q : s' = { s with heap := h1, toks := tk }) (F : Fr h₀ L h1 m₁) (N : News h₀ L h1 (Led c)) (off : ∀ p ∈ Led c, p.1 ≠ e ∧ p.1 ≠ it) (k1 : ∀ p ∈ ps c, m₁ p.1 = some p.2)
    (k2 : ∀ z, (∀ p ∈ ps c, z ≠ p.1) → stored.contains z = false → m₁ z = m₀ z) (hc : Inv i c) (hi : i ≤ us.length) (ek : k = us.length + 1 - i) : EnumSt h₀ L Led ps stored m₀ Inv e it l us s k s'
theorem FoEndE.intro {σ : Type} {Led : σ → List (Addr × Obj)} {ps : σ → List (Str × Value)} {stored : List Str} {m₀ m' : Str → Option Value} {Inv : σ → Prop} {e it : Addr} {oe oi : Obj} {s₁ : Shared} {h' : Heap} {tk : Nat} {news' : List (Addr × Obj)} (c' : σ)
    (F : Fr h₀ L h' m') (N : News h₀ L h' news') (hn : ∀ p ∈ Led c', p ∈ news') (h1 : (e, oe) ∈ news') (h2 : (it, oi) ∈ news') (off : ∀ p ∈ Led c', p.1 ≠ e ∧ p.1 ≠ it) (hk : ∀ p ∈ ps c', m' p.1 = some p.2) (hr : ∀ z, (∀ p ∈ ps c', z ≠ p.1) → stored.contains z = false → m' z = m₀ z) (hp : Inv c') :
    FoEndE h₀ L Led ps stored m₀ Inv e it oe oi s₁ { s₁ with heap := h', toks := tk } := ⟨c', h', tk, m', news', rfl, F, N, hn, h1, h2, off, hk, hr, hp⟩
theorem FoEndE.put {σ : Type} {Led : σ → List (Addr × Obj)} {ps : σ → List (Str × Value)} {stored : List Str} {m₀ m' : Str → Option Value} {Inv : σ → Prop} {e it : Addr} {oe oi : Obj} {s₁ : Shared} {h' : Heap} {tk : Nat} {news' : List (Addr × Obj)} (c' : σ)
    (F : Fr h₀ L h' m') (N : News h₀ L h' news') (hn : ∀ p ∈ Led c', p ∈ news') (h1 : (e, oe) ∈ news') (h2 : (it, oi) ∈ news') (off : ∀ p ∈ Led c', p.1 ≠ e ∧ p.1 ≠ it) (hk : Has m' (ps c')) (hr : Over (ps c') stored m' m₀) (hp : Inv c') :
    FoEndE h₀ L Led ps stored m₀ Inv e it oe oi s₁ { s₁ with heap := h', toks := tk } := ⟨c', h', tk, m', news', rfl, F, N, hn, h1, h2, off, hk.all, hr, hp⟩
theorem for_enum {σ : Type} {xi xc : Str} {pi pc : Pos} {x1 : Nat} {tp : Pos} {body : List Stmt} {m₀ : Str → Option Value} {Q : Flow → Shared → Prop} {e it l : Addr} {us : List Value} {cnt : Nat} (Led : σ → List (Addr × Obj)) (ps : σ → List (Str × Value)) (stored : List Str) (Inv : Nat → σ → Prop) (c₀ : σ)
    (hxi : env.kindOf xi = some .local) (hxc : env.kindOf xc = some .local) (hpl : (env.scope.kind == .class || (env.scope.kind == .module && env.locals != env.globals)) = false)
    (hh : A.handled = none) (hE : PassesOwn (model prog w) A env E) (he : IsEnum s.heap e it 0 .none) (hit : s.heap.IsListIter it l 0) (F : Fr h₀ env.locals s.heap m₀) (N : News h₀ env.locals s.heap (Led c₀)) (hLe : env.locals ≠ e) (hLi : env.locals ≠ it) (h0e : h₀.get? e = none) (h0i : h₀.get? it = none) (hei : e ≠ it)
    (off₀ : ∀ p ∈ Led c₀, p.1 ≠ e ∧ p.1 ≠ it) (hl : ∀ i c, Inv i c → (l, W.listOf us.toArray cnt) ∈ Led c) (hk : ∀ p ∈ ps c₀, m₀ p.1 = some p.2) (hp : Inv 0 c₀)
    (turn : ∀ (i : Nat) (x : Value) (t : Tok) (c : σ) (u : Str → Option Value) h tk oe oi, us[i]? = some x → Inv i c → (∀ p ∈ Led c, p.1 ≠ e ∧ p.1 ≠ it) → oe.cls ≠ .type "tuple" → oi.cls ≠ .type "tuple" → Fr h₀ env.locals h (fun y => if y = xc then some x else if y = xi then some (.int (i : Nat) t) else kstB (fun z => if stored.contains z then u z else m₀ z) (ps c) y) →
      News h₀ env.locals h ((e, oe) :: (it, oi) :: Led c) → wpAny (model prog w) A (execs body env) (fun f s₃ => match f with
        | .ret v => Q (.ret v) s₃
        | .brk => Q .next s₃
        | _ => FoEndE h₀ env.locals Led ps stored m₀ (Inv (i + 1)) e it oe oi { s with heap := h, toks := tk } s₃) E { s with heap := h, toks := tk })
    (done : ∀ (c : σ) (u : Str → Option Value) h tk, Inv us.length c → Fr h₀ env.locals h (kstB (fun z => if stored.contains z then u z else m₀ z) (ps c)) → News h₀ env.locals h (Led c) → Q .next { s with heap := h, toks := tk }) :
    wpAny (model prog w) A (pyIter (.ref e)) (fun it s₂ => LoopX prog w A env (.Tuple [.Name xi pi, .Name xc pc] x1 tp) body Q E it s₂) E s := by
  refine wpAny_pyIter_enum he ?_
  have hlN := hl 0 c₀ hp
  have hle : l ≠ e := (off₀ _ hlN).1
  have hli : l ≠ it := (off₀ _ hlN).2
  have W := WalksT.enumerate (prog := prog) (w := w) (A := A) hh e it l hei hle hli us.toArray
  unfold LoopX
  refine codeAny_forLoop_any (EnumSt h₀ env.locals Led ps stored m₀ Inv e it l us s) ?_ (us.length + 1) ⟨0, ⟨⟨_, he⟩, hit, isList_of N hlN⟩, c₀, s.heap, s.toks, m₀, rfl, F, N, off₀, hk, fun _ _ _ => rfl, hp, Nat.zero_le _, rfl⟩
  intro k s' P1
  refine byC fun U0 => ?_
  obtain ⟨i, st, c, h1, tk, m₁, rfl, F₁, N₁, off, k1, k2, hc, hi, rfl⟩ := P1
  refine U0 ?_
  clear U0
  have move : ∀ {h1 h2 : Heap} {m1 : Str → Option Value} {nw : List (Addr × Obj)}, Fr h₀ env.locals h1 m1 → News h₀ env.locals h1 nw → (∀ p ∈ nw, p.1 ≠ e ∧ p.1 ≠ it) → (∀ b o, b ∉ [e, it] → h1.get? b = some o → h2.get? b = some o) → Fr h₀ env.locals h2 m1 ∧ News h₀ env.locals h2 nw := fun F N off hk =>
    ⟨⟨F.ns.at' fun o q => hk _ o (by simp [hLe, hLi]) q, fun b o q => hk b o (fun z => by
      simp only [List.mem_cons, List.not_mem_nil, or_false] at z
      rcases z with rfl | rfl
      · rw [h0e] at q; cases q
      · rw [h0i] at q; cases q) (F.keep b o q), F.above⟩, fun p hp => ⟨hk _ _ (by have := off p hp; simp [this.1, this.2]) (N p hp).1, (N p hp).2⟩⟩
  have em := kst_all_eq k1 k2
  by_cases hlt : i < us.length
  · refine W.item i _ _ _ (by simpa using hlt) st fun T vals h₂ tk₂ hP hTs hT hM hk₂ => ?_
    refine byC fun U0 => ?_
    obtain ⟨t, x, hx, rfl⟩ := hP
    obtain ⟨F₂, N₂⟩ := move F₁ N₁ off hk₂
    refine U0 ?_
    clear U0
    have hTw := W.apart _ _ _ hM
    refine W.go _ _ _ _ _ _ _ _ hM fun h₃ st₃ hk₃ => ?_
    refine byC fun U0 => ?_
    obtain ⟨F₃, N₃⟩ := move F₂ N₂ off hk₃
    obtain ⟨⟨old, he₃⟩, hit₃, hl₃⟩ := st₃
    obtain ⟨oi, hoi, ci, di⟩ := hit₃
    obtain ⟨oT, hoT, cT, nT, dT⟩ := hT
    refine U0 ?_
    clear U0
    have ht₃ : h₃.IsTuple T #[.int i t, x] := ⟨oT, hk₃ T _ hTw hoT, cT, nT, dT⟩
    refine wpAny_assign_Tuple hh ht₃ rfl rfl fun h₄ hx₄ => ?_
    have up : ∀ b o, h₃.get? b = some o → h₄.get? b = some o := fun b o q => hx₄ b o (Nat.ne_of_lt (Heap.lt_size q)) q
    have NI : News h₀ env.locals h₃ ((e, _) :: (it, oi) :: Led c) := fun p hp => by
      rcases List.mem_cons.mp hp with rfl | hp
      · exact ⟨he₃, hLe.symm, h0e⟩
      rcases List.mem_cons.mp hp with rfl | hp
      · exact ⟨hoi, hLi.symm, h0i⟩
      · exact N₃ p hp
    have F₄ := F₃.keeps up
    refine (?_ : wpAny _ A (do holding [x] (assign (.Name xi pi) env (.int i t)); do holding [] (assign (.Name xc pc) env x); pure ()) _ _ _)
    refine wpAny_bind (wpAny_holding (wpAny_assign_Name (wpAny_storeName_local hxi F₄.ns (fun h₅ hn₅ hs₅ => ?_) hpl)))
    have F₅ := F₄.set hn₅ hs₅
    refine wpAny_bind (wpAny_holding (wpAny_assign_Name (wpAny_storeName_local hxc F₅.ns (fun h₆ hn₆ hs₆ => wpAny_pure ?_) hpl)))
    have F₆ := F₅.set hn₆ hs₆
    have N₆ := ((NI.grown up).set hs₅).set hs₆
    have F₆' : Fr h₀ env.locals h₆ (fun y => if y = xc then some x else if y = xi then some (.int (i : Nat) t) else kstB (fun z => if stored.contains z then m₁ z else m₀ z) (ps c) y) := by rw [← em]; exact F₆
    refine wpAny_passesOwn hE (wpAny_mono (turn i x t c m₁ h₆ _ _ _ (by simpa using hx) hc off (by simp) (by rw [ci]; simp) F₆' N₆) (fun f s₃ q => ?_) fun _ _ e => e)
    cases f with
    | ret v => exact q
    | brk => exact q
    | next =>
      refine byC fun U0 => ?_
      obtain ⟨c', h7, tk7, m', news', rfl, F', N', hn, hI', hJ', off', hk', hr', hp'⟩ := q
      refine U0 ?_
      clear U0
      exact ⟨us.length + 1 - (i + 1), by omega, ⟨i + 1, ⟨⟨_, (N' _ hI').1⟩, ⟨oi, (N' _ hJ').1, ci, di⟩, isList_of N' (hn _ (hl _ _ hp'))⟩, c', h7, tk7, m', rfl, F', fun p hp => N' _ (hn p hp), off', hk', hr', hp', hlt, rfl⟩⟩
    | cont =>
      refine byC fun U0 => ?_
      obtain ⟨c', h7, tk7, m', news', rfl, F', N', hn, hI', hJ', off', hk', hr', hp'⟩ := q
      refine U0 ?_
      clear U0
      exact ⟨us.length + 1 - (i + 1), by omega, ⟨i + 1, ⟨⟨_, (N' _ hI').1⟩, ⟨oi, (N' _ hJ').1, ci, di⟩, isList_of N' (hn _ (hl _ _ hp'))⟩, c', h7, tk7, m', rfl, F', fun p hp => N' _ (hn p hp), off', hk', hr', hp', hlt, rfl⟩⟩
  · have hin : i = us.length := by omega
    subst hin
    refine W.done _ _ _ (by simpa using st) fun h₂ tk₂ hk₂ => wpAny_execs_nil ?_
    obtain ⟨F₂, N₂⟩ := move F₁ N₁ off hk₂
    exact done c m₁ h₂ tk₂ hc (em ▸ F₂) N₂
end
section
variable {prog : Program} {w : World} {A : Around} {E : Value → Shared → Prop} {s : Shared} {h₀ : Heap} {L a : Addr} {m : Str → Option Value} {cn : Str} {cs : Scope} {ccd : Value} {cl : List (Str × Addr)} {x : Str} {v : Value} {news : List (Addr × Obj)} {c : Addr} {o : Obj} {v₀ : Option Value}
theorem storeX_M {Q : Unit → Shared → Prop} (F : Fr h₀ L s.heap m) (N : News h₀ L s.heap news) (hc : cl.lookup x = some c) (hm : (c, o) ∈ news) (hd : o.data = .cell v₀)
    (h : ∀ h' o', Fr h₀ L h' m → News h₀ L h' (put c o' news) → o'.data = .cell (some v) → Q () { s with heap := h' })
    (hk : cs.kind = .function := by rfl) (hx : (envX cn cs L a ccd cl).kindOf x = some .cell := by rfl) : wpAny (model prog w) A (storeName (envX cn cs L a ccd cl) x v) Q E s :=
  storeX_C (g := fun o' => put c o' news) F (news_front N hm) hc (.head fun p hp => by have := (List.mem_filter.mp hp).2; simpa using this) hd h hk hx
end
theorem name_gt {a b : Nat} (_h : a < b) : ∃ x : Nat, x = b := ⟨_, rfl⟩
section
variable {prog : Program} {w : World} {A : Around} {E : Value → Shared → Prop} {s : Shared} {h₀ : Heap} {L l : Addr} {m : Str → Option Value} {news : List (Addr × Obj)} {us : List Value} {n : Nat}
theorem list_B {Q : Value → Shared → Prop} (F : Fr h₀ L s.heap m) (N : News h₀ L s.heap news) (hm : (l, W.listOf us.toArray n) ∈ news) (hz : us.length ≤ 1000)
    (h : ∀ D c h', Fr h₀ L h' m → News h₀ L h' ((D, W.listOf us.toArray c) :: news) → (∀ q ∈ news, q.1 < D) → Q (.ref D) { s with heap := h' }) : wpAny (model prog w) A (call (.type "list") [.ref l]) Q E s :=
  list_copyK F N (isList_of N hm) h (by rw [List.size_toArray, sizeLine_eq]; omega)
theorem enum_B {Q : Value → Shared → Prop} (F : Fr h₀ L s.heap m) (N : News h₀ L s.heap news) (hm : (l, W.listOf us.toArray n) ∈ news)
    (h : ∀ h' e it, e ≠ it → Fr h₀ L h' m → News h₀ L h' news → IsEnum h' e it 0 .none → h'.IsListIter it l 0 → L ≠ e → L ≠ it → h₀.get? e = none → h₀.get? it = none → (∀ p ∈ news, p.1 ≠ e ∧ p.1 ≠ it) → Q (.ref e) { s with heap := h' }) : wpAny (model prog w) A (call (.type "enumerate") [.ref l]) Q E s := by
  refine call_enumerate_list (isList_of N hm) fun h' he hit hsz hk => ?_
  have lt : ∀ {b : Nat}, b < s.heap.objs.size → b ≠ s.heap.objs.size + 1 ∧ b ≠ s.heap.objs.size := fun q => ⟨Nat.ne_of_lt (Nat.lt_succ_of_lt q), Nat.ne_of_lt q⟩
  have hL := lt F.ns.lt
  have no : ∀ {b : Nat}, s.heap.objs.size ≤ b → h₀.get? b = none := fun q => Heap.get?_none_of_le (Nat.le_trans F.above (Nat.le_trans (Nat.le_of_lt F.ns.lt) q))
  exact h h' _ _ (Nat.succ_ne_self _) (F.keeps hk) (N.grown hk) he hit hL.1 hL.2 (no (Nat.le_succ _)) (no (Nat.le_refl _)) fun p hp => lt (Heap.lt_size (N p hp).1)
end
end Mine
end

section
set_option maxRecDepth 100000
namespace Mine
open PySem
noncomputable abbrev Row := Str × List Nat
noncomputable def Closed (rows : List Row) (told : List (Nat × Nat)) (f : Nat → Nat) : Prop :=
  (∀ p ∈ told, f p.1 = f p.2) ∧ ∀ (i j : Nat) (r s : Row), rows[i]? = some r → rows[j]? = some s → r.1 = s.1 → r.2.map f = s.2.map f → f i = f j
noncomputable def hat (hs : List Nat) (a : Nat) : Nat := hs.getD a a
structure Good (rows : List Row) (told : List (Nat × Nat)) (hs : List Nat) : Prop where
  len : hs.length = rows.length
  le : ∀ a, a < hs.length → hat hs a ≤ a
  id : ∀ a, a < hs.length → hat hs (hat hs a) = hat hs a
  snd : ∀ f, Closed rows told f → ∀ a, a < hs.length → f (hat hs a) = f a
structure Homes (rows : List Row) (told : List (Nat × Nat)) (hs : List Nat) : Prop extends Good rows told hs where
  cl : Closed rows told (hat hs)
structure InB (rows : List Row) (told : List (Nat × Nat)) : Prop where
  k : ∀ r ∈ rows, ∀ k ∈ r.2, k < rows.length
  t : ∀ p ∈ told, p.1 < rows.length ∧ p.2 < rows.length
noncomputable def mg (hs : List Nat) (p : Nat × Nat) : List Nat :=
  if min (hat hs p.1) (hat hs p.2) = max (hat hs p.1) (hat hs p.2) then hs else hs.map fun x => if max (hat hs p.1) (hat hs p.2) = x then min (hat hs p.1) (hat hs p.2) else x
theorem hat_get {hs : List Nat} {a x : Nat} (h : hs[a]? = some x) : hat hs a = x := by simp [hat, List.getD, h]
theorem hat_at {hs : List Nat} {a : Nat} (h : a < hs.length) : hs[a]? = some (hat hs a) := by simp [hat, List.getD, h]
theorem hat_map {hs : List Nat} {g : Nat → Nat} {a : Nat} (h : a < hs.length) : hat (hs.map g) a = g (hat hs a) := hat_get (by rw [List.getElem?_map, hat_at h]; rfl)
theorem sum_le_map {g : Nat → Nat} : ∀ {l : List Nat}, (∀ x ∈ l, g x ≤ x) → (l.map g).sum ≤ l.sum
  | [], _ => Nat.le_refl _
  | x :: l, h => Nat.add_le_add (h x (.head _)) (sum_le_map fun y hy => h y (.tail _ hy))
theorem sum_lt_map {g : Nat → Nat} {b : Nat} : ∀ {l : List Nat}, (∀ x ∈ l, g x ≤ x) → b ∈ l → g b < b → (l.map g).sum < l.sum
  | x :: l, h, hb, hg => by
    rcases List.mem_cons.mp hb with rfl | hb
    · exact Nat.add_lt_add_of_lt_of_le hg (sum_le_map fun y hy => h y (.tail _ hy))
    · exact Nat.add_lt_add_of_le_of_lt (h x (.head _)) (sum_lt_map (fun y hy => h y (.tail _ hy)) hb hg)
theorem good_start (rows : List Row) (told : List (Nat × Nat)) : Good rows told (List.range rows.length) := by
  have e : ∀ a, a < (List.range rows.length).length → hat (List.range rows.length) a = a := fun a h => hat_get (by rw [List.getElem?_range (by simpa using h)])
  exact ⟨by simp, fun a h => Nat.le_of_eq (e a h), fun a h => by rw [e a h, e a h], fun f _ a h => by rw [e a h]⟩
theorem Good.mg {rows : List Row} {told : List (Nat × Nat)} {hs : List Nat} (G : Good rows told hs) {p : Nat × Nat} (h1 : p.1 < hs.length) (h2 : p.2 < hs.length) (hf : ∀ f, Closed rows told f → f p.1 = f p.2) (hn : hat hs p.1 ≠ hat hs p.2) :
    Good rows told (Mine.mg hs p) ∧ (Mine.mg hs p).sum < hs.sum := by
  unfold Mine.mg
  refine byC fun U0 => ?_
  obtain ⟨l, el⟩ : ∃ l, l = min (hat hs p.1) (hat hs p.2) := ⟨_, rfl⟩
  obtain ⟨h, eh⟩ : ∃ h, h = max (hat hs p.1) (hat hs p.2) := ⟨_, rfl⟩
  refine U0 ?_
  clear U0
  rw [← el, ← eh]
  have hlh : l < h := by lia
  rw [if_neg (by lia)]
  have hmh : h = hat hs p.1 ∨ h = hat hs p.2 := by lia
  have hml : l = hat hs p.1 ∨ l = hat hs p.2 := by lia
  have il : hat hs l = l := by rcases hml with e | e <;> rw [e]; exact G.id _ h1; exact G.id _ h2
  have fl : ∀ f, Closed rows told f → f l = f h := fun f c => by
    have q1 := G.snd f c _ h1
    have q2 := G.snd f c _ h2
    have q := hf f c
    rcases hml with e | e <;> rcases hmh with e' | e' <;> rw [e, e'] <;> lia
  have gl : ∀ x ∈ hs, (if h = x then l else x) ≤ x := fun x _ => by split <;> lia
  have lm : ∀ a, a < (hs.map fun x => if h = x then l else x).length → a < hs.length := fun a q => by simpa using q
  refine ⟨⟨by simpa using G.len, fun a q => ?_, fun a q => ?_, fun f c a q => ?_⟩, sum_lt_map (b := h) gl ?_ (by rw [if_pos rfl]; exact hlh)⟩
  · rw [hat_map (lm a q)]
    have := G.le a (lm a q)
    split <;> lia
  · have q' := lm a q
    have la := G.le a q'
    rw [hat_map q']
    by_cases e : h = hat hs a
    · rw [if_pos e, hat_map (by lia), il, if_neg (by lia)]
    · rw [if_neg e, hat_map (by lia), G.id a q', if_neg e]
  · rw [hat_map (lm a q)]
    have := G.snd f c a (lm a q)
    split
    · rename_i e; rw [fl f c, e]; exact this
    · exact this
  · rcases hmh with e | e <;> rw [e]
    · exact List.mem_of_getElem? (hat_at h1)
    · exact List.mem_of_getElem? (hat_at h2)
structure Firsts (rows : List Row) (hs : List Nat) (n : Nat) (L : List Nat) : Prop where
  len : L.length = n
  le : ∀ (m : Nat) (x : Nat), L[m]? = some x → x ≤ m
  key : ∀ (m : Nat) (x : Nat) (r : Row), L[m]? = some x → rows[m]? = some r → ∃ s, rows[x]? = some s ∧ s.1 = r.1 ∧ s.2.map (hat hs) = r.2.map (hat hs)
  eq : ∀ (m k x y : Nat) (r s : Row), L[m]? = some x → L[k]? = some y → rows[m]? = some r → rows[k]? = some s → r.1 = s.1 → r.2.map (hat hs) = s.2.map (hat hs) → x = y
theorem firsts_sound {rows : List Row} {told : List (Nat × Nat)} {hs L : List Nat} {n m x : Nat} (G : Good rows told hs) (I : InB rows told) (Fs : Firsts rows hs n L) (hL : L[m]? = some x) (hm : m < rows.length) : ∀ f, Closed rows told f → f x = f m := fun f c => by
  refine byC fun U0 => ?_
  obtain ⟨r, er⟩ : ∃ r, rows[m]? = some r := ⟨_, List.getElem?_eq_getElem hm⟩
  obtain ⟨s, es, e1, e2⟩ := Fs.key m x r hL er
  refine U0 ?_
  clear U0
  have k : ∀ r ∈ rows, r.2.map f = (r.2.map (hat hs)).map f := fun r hr => by
    rw [List.map_map]
    exact List.map_congr_left fun k hk => (G.snd f c k (by rw [G.len]; exact I.k r hr k hk)).symm
  exact c.2 _ _ s r es er e1 (by rw [k s (List.mem_of_getElem? es), k r (List.mem_of_getElem? er), e2])
theorem homes_of {rows : List Row} {told : List (Nat × Nat)} {hs L : List Nat} (G : Good rows told hs) (Fs : Firsts rows hs rows.length L) (h1 : ∀ p ∈ told, hat hs p.1 = hat hs p.2) (h2 : ∀ (m x : Nat), L[m]? = some x → hat hs x = hat hs m) : Homes rows told hs :=
  { G with cl := ⟨h1, fun i j r s hi hj e1 e2 => by
      have li : i < L.length := by rw [Fs.len]; exact (List.getElem?_eq_some_iff.mp hi).1
      have lj : j < L.length := by rw [Fs.len]; exact (List.getElem?_eq_some_iff.mp hj).1
      have q := Fs.eq i j _ _ r s (List.getElem?_eq_getElem li) (List.getElem?_eq_getElem lj) hi hj e1 e2
      rw [← h2 i _ (List.getElem?_eq_getElem li), ← h2 j _ (List.getElem?_eq_getElem lj), q]⟩ }
end Mine
end

section
open PySem PySem.W PySem.Calls PyProof.Rows PySem.Spec
set_option maxRecDepth 100000
namespace Mine
noncomputable abbrev rdat (r : Row) : Dat := .tuple [.str r.1, .tuple (r.2.map datI)]
theorem datI_map : ∀ {a b : List Nat}, a.map datI = b.map datI → a = b
  | [], [], _ => rfl
  | [], _ :: _, h => by simp at h
  | _ :: _, [], h => by simp at h
  | x :: a, y :: b, h => by
    simp only [List.map_cons, List.cons.injEq] at h
    have e : x = y := by have := h.1; simp [datI] at this; lia
    rw [e, datI_map h.2]
theorem rdat_inj {r s : Row} (h : rdat r = rdat s) : r = s := by
  simp only [rdat, Dat.tuple.injEq, List.cons.injEq, Dat.str.injEq, and_true] at h
  exact Prod.ext h.1 (datI_map h.2)
structure FD (w : World) (rows : List Row) (told : List (Nat × Nat)) (hs : List Nat) (b nw : List (Addr × Obj)) (fd wd : Addr) (xs : List (Dat × Addr × Value)) (L M : List Nat) (n : Nat) : Prop where
  fs : Firsts rows hs n L
  td : TD prog w nw fd xs
  x1 : ∀ x ∈ xs, ∃ (m y : Nat) (r : Row) (t : Tok), L[m]? = some y ∧ rows[m]? = some r ∧ x.1 = rdat (r.1, r.2.map (hat hs)) ∧ x.2.2 = .int (y : Nat) t
  x2 : ∀ (m : Nat) (r : Row), m < n → rows[m]? = some r → ∃ x ∈ xs, x.1 = rdat (r.1, r.2.map (hat hs))
  xl : xs.length ≤ n
  w : ∃ wvs cnt, (wd, W.listOf (List.toArray wvs) cnt) ∈ nw ∧ KInAll nw 7 wvs ((told ++ M.zipIdx).map pdat)
  keep : ∀ p ∈ b, p.1 ≠ fd → p.1 ≠ wd → p ∈ nw
  st : TupStay b nw
  ne : wd ≠ fd
section
variable {w : World} {A : Around} {E : Value → Shared → Prop} {s : Shared} {h₀ h : Heap} {L fd wd a : Addr} {m : Str → Option Value} {rows : List Row} {told : List (Nat × Nat)} {hs Ls Ms : List Nat} {b nw nw' : List (Addr × Obj)} {xs : List (Dat × Addr × Value)} {n : Nat}
theorem FD.more (B : FD w rows told hs b nw fd wd xs Ls Ms n) (h : ∀ p ∈ nw, p ∈ nw') : FD w rows told hs b nw' fd wd xs Ls Ms n :=
  { B with td := B.td.move (fun _ _ q => h _ q) fun _ q => h _ q, w := let ⟨wvs, c, hm, hk⟩ := B.w; ⟨wvs, c, h _ hm, hk.move fun _ _ q => h _ q⟩, keep := fun p hp h1 h2 => h _ (B.keep p hp h1 h2), st := fun a us q => h _ (B.st a us q) }
theorem FD.off (B : FD w rows told hs b nw fd wd xs Ls Ms n) {I : Addr} {oI : Obj} (N : News h₀ L h nw) (hI : (I, oI) ∈ nw) (hc : oI.cls ≠ .type "tuple") (h1 : I ≠ fd) (h2 : I ≠ wd) (off : ∀ p ∈ b, p.1 ≠ I) : FD w rows told hs b (offI I nw) fd wd xs Ls Ms n := by
  have st := tup_offI N hI hc
  refine { B with td := B.td.move st fun o q => mem_offI.mpr ⟨q, h1.symm⟩, w := ?_, keep := fun p hp q1 q2 => mem_offI.mpr ⟨B.keep p hp q1 q2, off p hp⟩, st := fun a us q => st _ _ (B.st a us q) }
  refine byC fun U0 => ?_
  obtain ⟨wvs, c, hm, hk⟩ := B.w
  refine U0 ?_
  clear U0
  exact ⟨wvs, c, mem_offI.mpr ⟨hm, h2.symm⟩, hk.move st⟩
theorem fd_setdefault {Q : Value → Shared → Prop} {r : Row} {t : Tok} (F : Fr h₀ L s.heap m) (N : News h₀ L s.heap nw) (B : FD w rows told hs b nw fd wd xs Ls Ls n) (hk : KIn nw 7 (.ref a) (rdat (r.1, r.2.map (hat hs)))) (hr : rows[n]? = some r) (hu : A.units + 17 < cLine) (hn : n ≤ 1000)
    (h : ∀ h' nw' xs' (y : Nat) t' tk, Fr h₀ L h' m → News h₀ L h' nw' → FD w rows told hs b nw' fd wd xs' (Ls ++ [y]) Ls (n + 1) → (∀ p ∈ nw, p.1 ≠ fd → p ∈ nw') → TupStay nw nw' → Q (.int (y : Nat) t') { s with heap := h', toks := tk }) :
    wpAny (model prog w) A (call (.builtin "dict.setdefault") [.ref fd, .ref a, .int (n : Nat) t]) Q E s := by
  have hL := B.fs.len
  have hl : ∀ {y : Nat} {i : Nat}, i < n → (Ls ++ [y])[i]? = Ls[i]? := fun {y i} q => List.getElem?_append_left (by lia)
  have hz : ∀ {y : Nat}, (Ls ++ [y])[n]? = some y := fun {y} => by rw [List.getElem?_append_right (by lia), hL, Nat.sub_self]; rfl
  have hb : ∀ {y i x : Nat}, (Ls ++ [y])[i]? = some x → (i < n ∧ Ls[i]? = some x) ∨ (i = n ∧ x = y) := fun {y i x} q => by
    rcases Nat.lt_trichotomy i n with l | l | l
    · exact .inl ⟨l, by rw [← hl l]; exact q⟩
    · subst l; rw [hz] at q; exact .inr ⟨rfl, (Option.some.inj q).symm⟩
    · rw [List.getElem?_eq_none (by simp; lia)] at q; cases q
  refine td_setdefault F N B.td hk hu (fun p tk e => ?_) (fun e h' o' tk F' N' T' st => ?_) (by have := B.xl; rw [sizeLine_eq]; lia)
  · refine byC fun U0 => ?_
    obtain ⟨x, hx, ex, rfl⟩ : ∃ x ∈ xs, x.1 = rdat (r.1, r.2.map (hat hs)) ∧ x.2 = p := by
      unfold atKey at e
      obtain ⟨x, hx, e'⟩ := Option.map_eq_some_iff.mp e
      exact ⟨x, List.mem_of_find?_eq_some hx, by simpa using List.find?_some hx, e'⟩
    obtain ⟨k, y, r', t', hy, hr', e1, e2⟩ := B.x1 x hx
    have ek : (r.1, r.2.map (hat hs)) = (r'.1, r'.2.map (hat hs)) := rdat_inj (ex.symm.trans e1)
    obtain ⟨ek1, ek2⟩ := Prod.mk.inj ek
    refine U0 ?_
    clear U0
    have hkn : k < n := by have := (List.getElem?_eq_some_iff.mp hy).1; lia
    have hyk := B.fs.le k y hy
    rw [e2]
    refine h _ nw xs y t' tk F N ⟨⟨by simp [hL], fun i x q => ?_, fun i x q hq hi => ?_, fun i j x z q q' hi hj l1 l2 e3 e4 => ?_⟩, B.td, fun x hx => ?_, fun i q hi hq => ?_, Nat.le_succ_of_le B.xl, B.w, B.keep, B.st, B.ne⟩ (fun p hp _ => hp) .refl
    · rcases hb q with ⟨l, q⟩ | ⟨rfl, rfl⟩
      · exact B.fs.le _ _ q
      · lia
    · rcases hb hq with ⟨l, q'⟩ | ⟨rfl, rfl⟩
      · exact B.fs.key _ _ _ q' hi
      · rw [hr] at hi
        cases hi
        refine byC fun U0 => ?_
        obtain ⟨s', q1, q2, q3⟩ := B.fs.key k _ r' hy hr'
        refine U0 ?_
        clear U0
        exact ⟨s', q1, q2.trans ek1.symm, q3.trans ek2.symm⟩
    · rcases hb hi with ⟨la, qa⟩ | ⟨rfl, rfl⟩ <;> rcases hb hj with ⟨lb, qb⟩ | ⟨rfl, rfl⟩
      · exact B.fs.eq _ _ _ _ _ _ qa qb l1 l2 e3 e4
      · rw [hr] at l2; cases l2
        exact B.fs.eq _ _ _ _ _ _ qa hy l1 hr' (e3.trans ek1) (e4.trans ek2)
      · rw [hr] at l1; cases l1
        exact (B.fs.eq _ _ _ _ _ _ qb hy l2 hr' (e3.symm.trans ek1) (e4.symm.trans ek2)).symm
      · rfl
    · refine byC fun U0 => ?_
      obtain ⟨i, z, r2, t2, q1, q2, q3⟩ := B.x1 x hx
      refine U0 ?_
      clear U0
      exact ⟨i, z, r2, t2, by rw [hl (by have := (List.getElem?_eq_some_iff.mp q1).1; lia)]; exact q1, q2, q3⟩
    · rcases Nat.lt_or_ge i n with l | l
      · exact B.x2 i q l hq
      · obtain rfl : i = n := by lia
        rw [hr] at hq; cases hq
        exact ⟨x, hx, ex⟩
  · have hno : ∀ x ∈ xs, x.1 ≠ rdat (r.1, r.2.map (hat hs)) := fun x hx q => by
      unfold atKey at e
      rw [Option.map_eq_none_iff, List.find?_eq_none] at e
      exact e x hx (by simpa using q)
    have hnew : ∀ (i : Nat) (r2 : Row), i < n → rows[i]? = some r2 → r2.1 = r.1 → r2.2.map (hat hs) = r.2.map (hat hs) → False := fun i r2 l q e1 e2 => by
      refine byC fun U0 => ?_
      obtain ⟨x, hx, ex⟩ := B.x2 i r2 l q
      refine U0 ?_
      clear U0
      exact hno x hx (by rw [ex, e1, e2])
    have hwf : ∀ o, (wd, o) ∈ nw → (wd, o) ∈ put fd o' nw := fun o q => put_of q B.ne
    rw [storedH_new e] at T'
    refine h _ _ _ n t _ F' N' ⟨⟨by simp [hL], fun i x q => ?_, fun i x q hq hi => ?_, fun i j x z q q' hi hj l1 l2 e3 e4 => ?_⟩, T', fun x hx => ?_, fun i q hi hq => ?_, by simpa using B.xl, ?_, fun p hp q1 q2 => put_of (B.keep p hp q1 q2) q1, fun a us q => st _ _ (B.st a us q), B.ne⟩ (fun p hp hn => put_of hp hn) st
    · rcases hb q with ⟨l, q⟩ | ⟨rfl, rfl⟩
      · exact B.fs.le _ _ q
      · exact Nat.le_refl _
    · rcases hb hq with ⟨l, q'⟩ | ⟨rfl, rfl⟩
      · exact B.fs.key _ _ _ q' hi
      · exact ⟨q, hi, rfl, rfl⟩
    · rcases hb hi with ⟨la, qa⟩ | ⟨rfl, rfl⟩ <;> rcases hb hj with ⟨lb, qb⟩ | ⟨rfl, rfl⟩
      · exact B.fs.eq _ _ _ _ _ _ qa qb l1 l2 e3 e4
      · rw [hr] at l2; cases l2
        exact (hnew i q la l1 e3 e4).elim
      · rw [hr] at l1; cases l1
        exact (hnew j q' lb l2 e3.symm e4.symm).elim
      · rfl
    · rcases List.mem_append.mp hx with hx | hx
      · refine byC fun U0 => ?_
        obtain ⟨i, z, r2, t2, q1, q2, q3⟩ := B.x1 x hx
        refine U0 ?_
        clear U0
        exact ⟨i, z, r2, t2, by rw [hl (by have := (List.getElem?_eq_some_iff.mp q1).1; lia)]; exact q1, q2, q3⟩
      · rw [List.mem_singleton.mp hx]
        exact ⟨n, n, r, t, hz, hr, rfl, rfl⟩
    · rcases Nat.lt_or_ge i n with l | l
      · refine byC fun U0 => ?_
        obtain ⟨x, hx, ex⟩ := B.x2 i q l hq
        refine U0 ?_
        clear U0
        exact ⟨x, List.mem_append_left _ hx, ex⟩
      · obtain rfl : i = n := by lia
        rw [hr] at hq; cases hq
        exact ⟨_, List.mem_append_right _ (List.mem_singleton.mpr rfl), rfl⟩
    · refine byC fun U0 => ?_
      obtain ⟨wvs, c, hm, hkk⟩ := B.w
      refine U0 ?_
      clear U0
      exact ⟨wvs, c, hwf _ hm, hkk.move st⟩
theorem fd_append {Q : Value → Shared → Prop} {u : Value} {y k : Nat} (hl : Ms.length = k) (F : Fr h₀ L s.heap m) (N : News h₀ L s.heap nw) (B : FD w rows told hs b nw fd wd xs (Ms ++ [y]) Ms n) (hu : KIn nw 7 u (pdat (y, k))) (hz : told.length + Ms.length ≤ 1000)
    (h : ∀ h' nw', Fr h₀ L h' m → News h₀ L h' nw' → FD w rows told hs b nw' fd wd xs (Ms ++ [y]) (Ms ++ [y]) n → (∀ p ∈ nw, p.1 ≠ wd → p ∈ nw') → TupStay nw nw' → Q .none { s with heap := h' }) :
    wpAny (model prog w) A (call (.builtin "list.append") [.ref wd, u]) Q E s := by
  refine byC fun U0 => ?_
  subst hl
  obtain ⟨wvs, c, hm, hkk⟩ := B.w
  refine U0 ?_
  clear U0
  have hl := kinAll_len hkk
  refine append_B F N hm (by rw [hl]; simp; lia) fun h' F' N' => ?_
  have st : TupStay nw (put wd (W.listOf (wvs ++ [u]).toArray (c + 1)) nw) := TupStay.put N hm (by simp)
  refine h h' _ F' N' { B with td := B.td.move st fun o q => put_of q B.ne.symm, w := ⟨_, _, put_self, ?_⟩, keep := fun p hp q1 q2 => put_of (B.keep p hp q1 q2) q2, st := fun a us q => st _ _ (B.st a us q) } (fun p hp hn => put_of hp hn) st
  have e : (told ++ (Ms ++ [y]).zipIdx).map pdat = (told ++ Ms.zipIdx).map pdat ++ [pdat (y, Ms.length)] := by
    rw [List.zipIdx_append]
    simp
  rw [e]
  exact kinAll_snoc (hkk.move st) (hu.move st)
theorem FD.isl (B : FD w rows told hs b nw fd wd xs Ls Ms n) : IsL nw wd := let ⟨_, _, hm, _⟩ := B.w; ⟨_, _, hm⟩
theorem FD.method {name : Str} {id : String} {pl : Sem Bool} {Q : Value × List Value → Shared → Prop} (N : News h₀ L s.heap nw) (B : FD w rows told hs b nw fd wd xs Ls Ms n) (slot : Slot "dict" name id) (hty : typeOf (.builtin id) = pure (.type "method_descriptor"))
    (h : Q (.builtin id, [.ref fd]) s) : wpAny (model prog w) A (getMethod (.ref fd) name pl) Q E s := td_method N B.td slot hty h
theorem FD.ofd (B : FD w rows told hs b nw fd wd xs Ls Ms n) {I : Addr} (h : ∀ p ∈ nw, p.1 ≠ I) : I ≠ fd ∧ I ≠ wd := by
  refine byC fun U0 => ?_
  obtain ⟨o, ho, _⟩ := B.td.obj
  obtain ⟨_, _, hm, _⟩ := B.w
  refine U0 ?_
  clear U0
  exact ⟨(h _ ho).symm, (h _ hm).symm⟩
theorem item_ints {value slice : Expr} {Q : Value → Shared → Prop} {d : Addr} {l : List Nat} {k : Nat} {u : Tok} (N : News h₀ L s.heap nw) (x : IsInts nw d l) (hk : k < l.length) (hz : l.length ≤ 1000000) (h : ∀ t, Q (.int (hat l k : Nat) t) s)
    (hs : subscripted slice false (.ref d) (.int k u) = operate [.ref d, .int k u] (getItem (.ref d) (.int k u)) := by with_unfolding_all rfl) :
    wpAny (model prog w) A (subscriptTail value slice (.ref d) (.int k u)) Q E s := by
  refine byC fun U0 => ?_
  obtain ⟨vs, n, hm, hi⟩ := x
  obtain ⟨t, e⟩ := ints_get hi hk
  refine U0 ?_
  clear U0
  refine item_B N hm e (by lia) ?_ hs
  have q := h t
  rw [hat_get (List.getElem?_eq_getElem hk)] at q
  exact q
theorem name_en {h : Heap} {e it : Addr} {i : Int} {o : Value} (_h : IsEnum h e it i o) : (∃ x, x = e) ∧ ∃ x, x = it := ⟨⟨_, rfl⟩, ⟨_, rfl⟩⟩
theorem kinAll_ints' {n : Nat} : ∀ {vs : List Value} {ks : List Nat}, KInAll nw n vs (ks.map datI) → IntsAre vs (toZ ks) := kinAll_ints
theorem row_in {v : Value} {r : Row} (h : KIn nw 7 v (rdat r)) : ∃ a t kd ks, v = .ref a ∧ (a, tupObj [.str r.1 t, .ref kd]) ∈ nw ∧ (kd, tupObj ks) ∈ nw ∧ IntsAre ks (toZ r.2) ∧ PyData.strOk r.1 = true := by
  obtain ⟨_, a, us, rfl, hm, hv⟩ := KP.tup_inv h
  obtain ⟨_, us, rfl, h1, h2⟩ := KPs.cons_inv hv
  obtain ⟨t, rfl, ok⟩ := KP.str_inv h1
  obtain ⟨_, us, rfl, h3, h4⟩ := KPs.cons_inv h2
  rw [KPs.nil_inv h4] at hm
  obtain ⟨_, kd, ks, rfl, hm2, hv2⟩ := KP.tup_inv h3
  exact ⟨_, _, _, _, rfl, hm, hm2, kinAll_ints hv2, ok⟩
theorem pair_in {v : Value} {p : Nat × Nat} (h : KIn nw 7 v (pdat p)) : ∃ a t u, v = .ref a ∧ (a, tupObj [.int (p.1 : Nat) t, .int (p.2 : Nat) u]) ∈ nw := by
  obtain ⟨_, a, us, rfl, hm, hv⟩ := KP.tup_inv h
  obtain ⟨_, us, rfl, h1, h2⟩ := KPs.cons_inv hv
  obtain ⟨_, us, rfl, h3, h4⟩ := KPs.cons_inv h2
  obtain ⟨t, rfl⟩ := KP.int_inv h1
  obtain ⟨u, rfl⟩ := KP.int_inv h3
  rw [KPs.nil_inv h4] at hm
  exact ⟨_, _, _, rfl, hm⟩
theorem fd_start {fd wd : Addr} {o : Obj} {pvs : List Value} {c : Nat} (lo : (fd == sysModules) = false) (hm : (fd, o) ∈ nw) (hi : o.IsDictOf (intKind prog w) []) (hw : (wd, W.listOf pvs.toArray c) ∈ nw) (hk : KInAll nw 7 pvs (told.map pdat)) (hne : wd ≠ fd) : FD w rows told hs nw nw fd wd [] [] [] 0 :=
  ⟨⟨rfl, fun _ _ q => (nomatch q), fun _ _ _ q => (nomatch q), fun _ _ _ _ _ _ q => (nomatch q)⟩, td_none lo hm hi, nofun, fun _ _ q => absurd q (Nat.not_lt_zero _), Nat.le_refl _, ⟨pvs, c, hw, by simpa using hk⟩, fun p hp _ _ => hp, .refl, hne⟩
theorem name_fd2 (_B : FD w rows told hs b nw fd wd xs Ls Ms n) : (∃ x, x = xs) ∧ ∃ x, x = Ls := ⟨⟨_, rfl⟩, ⟨_, rfl⟩⟩
theorem wish_in {p : Nat × Nat} (G : Good rows told hs) (I : InB rows told) (Fs : Firsts rows hs rows.length Ls) (hp : p ∈ told ++ Ls.zipIdx) : p.1 < rows.length ∧ p.2 < rows.length ∧ ∀ f, Closed rows told f → f p.1 = f p.2 := by
  rcases List.mem_append.mp hp with hp | hp
  · exact ⟨(I.t p hp).1, (I.t p hp).2, fun f c => c.1 p hp⟩
  · obtain ⟨y, k⟩ := p
    have e := List.mem_zipIdx_iff_getElem?.mp hp
    dsimp only at e ⊢
    have hk : k < rows.length := by have := (List.getElem?_eq_some_iff.mp e).1; rw [Fs.len] at this; exact this
    exact ⟨Nat.lt_of_le_of_lt (Fs.le k y e) hk, hk, firsts_sound G I Fs e hk⟩
theorem min_nat {x y : Nat} {t u : Tok} {Q : Value → Shared → Prop} (hh : A.handled = none) (F : Fr h₀ L s.heap m) (N : News h₀ L s.heap nw) (h : ∀ h' tk t', Fr h₀ L h' m → News h₀ L h' nw → Q (.int (min x y : Nat) t') { s with heap := h', toks := tk }) :
    wpAny (model prog w) A (call (.builtin "min") [.int (x : Nat) t, .int (y : Nat) u]) Q E s := by
  refine min_two_N hh F N fun h' tk F' N' => ?_
  rw [show (if (y : Int) < (x : Int) then (y : Int) else (x : Int)) = ((min x y : Nat) : Int) by split <;> lia]
  exact h h' tk _ F' N'
theorem max_nat {x y : Nat} {t u : Tok} {Q : Value → Shared → Prop} (hh : A.handled = none) (F : Fr h₀ L s.heap m) (N : News h₀ L s.heap nw) (h : ∀ h' tk t', Fr h₀ L h' m → News h₀ L h' nw → Q (.int (max x y : Nat) t') { s with heap := h', toks := tk }) :
    wpAny (model prog w) A (call (.builtin "max") [.int (x : Nat) t, .int (y : Nat) u]) Q E s := by
  refine max_two_N hh F N fun h' tk F' N' => ?_
  rw [show (if (y : Int) > (x : Int) then (y : Int) else (x : Int)) = ((max x y : Nat) : Int) by split <;> lia]
  exact h h' tk _ F' N'
end
end Mine
end

section
open PySem PySem.W PySem.Calls PyProof.Rows PySem.Spec
open Mine
set_option maxHeartbeats 20000000 in
example : (PySem.Challenge.rw_rh0009_01 = PySem.Challenge.rw_rh0009_01) ∧ (Mine.hd.heap_1 = Mine.hd.heap_1) := by
  k_fill
  exact ⟨rfl, rfl⟩
local macro_rules | `(tactic| k_mem) => `(tactic| k_extra "k_mem")
local macro_rules | `(tactic| k_room) => `(tactic| k_extra "k_room")
local macro_rules | `(tactic| k_units) => `(tactic| k_extra "k_units")
local macro_rules | `(tactic| k_enter) => `(tactic| k_extra "k_enter")
local macro_rules | `(tactic| k_qdec) => `(tactic| decide +kernel)
example : True := by
  (k_with "?call" => with_reducible refine (?_ : wpAny _ _ (call _ _ _) _ _ _))
  (k_with "?callWith" => with_reducible refine (?_ : wpAny _ _ (callWith _ _ _ _ _) _ _ _))
  (k_with "?subscriptTail" => with_reducible refine (?_ : wpAny _ _ (subscriptTail _ _ _ _) _ _ _))
  (k_with "?getMethod" => with_reducible refine (?_ : wpAny _ _ (getMethod _ _ _) _ _ _))
  (k_with "?getAttr" => with_reducible refine (?_ : wpAny _ _ (getAttr _ _ _) _ _ _))
  (k_with "?setAttr" => with_reducible refine (?_ : wpAny _ _ (setAttr _ _ _) _ _ _))
  (k_with "?binaryOp" => with_reducible refine (?_ : wpAny _ _ (binaryOp _ _ _) _ _ _))
  (k_with "?setItem" => with_reducible refine (?_ : wpAny _ _ (setItem _ _ _) _ _ _))
  (k_with "?compareOp" => with_reducible refine (?_ : wpAny _ _ (compareOp _ _ _) _ _ _))
  (k_with "?eval" => with_reducible refine (?_ : wpAny _ _ (eval _ _) _ _ _))
  (k_with "?exec" => with_reducible refine (?_ : wpAny _ _ (exec _ _) _ _ _))
  (k_with "?execs" => with_reducible refine (?_ : wpAny _ _ (execs _ _) _ _ _))
  (k_with "?spliced" => with_reducible refine (?_ : wpAny _ _ (spliced _) _ _ _))
  (k_with "?newTuple" => with_reducible refine (?_ : wpAny _ _ (newTuple _) _ _ _))
  (k_with "?newList" => with_reducible refine (?_ : wpAny _ _ (newList _) _ _ _))
  (k_with "?storeName" => with_reducible refine (?_ : wpAny _ _ (storeName _ _ _) _ _ _))
  trivial

open PySem PySem.W PySem.Calls PyProof.Rows PySem.Spec
namespace Mine
section
set_option maxHeartbeats 20000000
example : True := by
  (k_with "k_room" => first | (first | (apply room2 hd; decide) | (apply room1 hd; decide) | exact room0 hd | exact Nat.le_of_ble_eq_true rfl | ((try simp only [depth_under_make, depth_under_kw, depth_in1, depth_deeper, depth_caller]); (try dsimp only [ktrTop]); (try simp only [recursionLimit] at *); (first | lia | omega))) | fail)
  (k_with "k_units" => first | (first | (apply room2 hu; decide) | (apply room1 hu; decide) | exact room0 hu | (apply unit2 hu; decide) | (apply unit1 hu; decide) | exact unit0 hu | (apply room3 hu; decide) | (apply unit3 hu; decide) | exact Nat.le_of_ble_eq_true rfl | ((try simp only [units_in1, units_deeper, Around.mark_units]); (try dsimp only [ktrTop]); (have hcL9k := cLine_is); (first | lia | omega))) | fail)
  (k_with "k_enter" => first | (first | (refine' code_def ?k1KK ?k2KK ?k3KK ?k4KK ?k5KK ?kAKK ?kFKK ?kKKK ?k6KK ?k7KK ?k8KK ?k9KK ?kBKK ?_ ?c2KK ?c3KK ?c4KK ?c5KK; (case kAKK => exact rfl); (case kFKK => exact rfl); (case kKKK => first | assumption | exact rfl); (case k1KK => k_asm); (case k2KK => k_asm); (case k3KK => k_asm); (case k4KK => k_asm); (case k5KK => k_asm); (case k6KK => k_is); (case k7KK => k_is); (case k8KK => k_room); (case k9KK => first | exact BindsTo.of_eq rfl | exact binds_K (by k_in) rfl (by k_is) rfl rfl rfl); (case c5KK => decide); (case kBKK => exact locs rfl); (case c2KK => exact rfl); (case c3KK => exact rfl); (case c4KK => exact rfl); k_whole; intro g'k L'k h'k FG'k F'k N'k B'k X'k T'k; (try k_fold); (try (refine hideA ?_; intro Akk)); (try (refine hideE ?_; intro eEk)); (try (refine nameM F'k ?_; clear F'k; intro mMk FMk))) | (refine' code_defC ?k1KK ?k2KK ?k3KK ?k4KK ?k5KK ?kAKK ?kFKK ?kKKK ?k6KK ?k7KK ?k8KK ?k9KK ?kBKK ?kDKK ?_ ?c2KK ?c3KK ?c4KK; (case kAKK => exact rfl); (case kFKK => exact rfl); (case kKKK => first | assumption | exact rfl); (case k1KK => k_asm); (case k2KK => k_asm); (case k3KK => k_asm); (case k4KK => k_asm); (case k5KK => k_asm); (case k6KK => k_is); (case k7KK => k_is); (case k8KK => k_room); (case k9KK => first | exact BindsTo.of_eq rfl | exact binds_K (by k_in) rfl (by k_is) rfl rfl rfl); (case kBKK => exact rfl); (case kDKK => decide +kernel); (case c2KK => exact rfl); (case c3KK => exact rfl); (case c4KK => exact rfl); k_whole; intro g'k L'k h'k tk'k cells'k FG'k F'k N'k Y'k B'k X'k T'k l1k; k_cells Y'k; (try simp only [List.cons_append, List.nil_append] at N'k); (try k_fold); (try (refine hideA ?_; intro Akk)); (try (refine hideE ?_; intro eEk)); (try (refine nameM F'k ?_; clear F'k; intro mMk FMk)))) | fail)
  (k_with "k_mem" => first | (with_reducible first | assumption | exact mem_hd | exact HRep.i1 (by assumption) | exact HRep.i2 (by assumption) | exact HRep.i3 (by assumption) | exact HRep.i4 (by assumption) | exact HRep.i5 (by assumption) | exact HRep.i6 (by assumption) | (refine' mem_tl ?_; k_mem) | exact List.mem_append_left _ (by assumption) | (refine' List.mem_append_right _ ?_; k_mem) | (refine' mem_sub (by assumption) ?_; k_mem) | (refine' mem_stay (by assumption) ?_; k_mem)) | fail)
  (k_with "insub" => first | (with_reducible first | assumption | (refine mem_tl ?_; k_extra "insub") | (refine List.mem_append_right _ ?_; k_extra "insub") | (refine mem_sub (by assumption) ?_; k_extra "insub")) | fail)
  (k_with "hrep" => first | (first | with_reducible assumption | exact HRep.sub (by assumption) (by intro p9k hp9k; k_extra "insub")) | fail)
  (k_with "kept" => first | (first | with_reducible assumption | exact Kept.more (by assumption) (by intro p9k hp9k; k_extra "insub")) | fail)
  (k_with "room" => first | (first | (apply room2 hd; decide) | (apply room1 hd; decide) | exact room0 hd | (apply room2 hu; decide) | (apply room1 hu; decide) | exact room0 hu | (apply room3 hd; decide) | (apply room3 hu; decide) | exact Nat.le_of_ble_eq_true rfl | ((try simp only [depth_deeper, units_deeper, depth_in1, units_in1]); (try dsimp only [ktrTop]); (first | lia | omega))) | fail)
  (k_with "unit" => first | (first | (apply room2 hu; decide) | (apply room1 hu; decide) | exact room0 hu | (apply unit2 hu; decide) | (apply unit1 hu; decide) | exact unit0 hu | (apply room3 hu; decide) | (apply unit3 hu; decide) | exact Nat.le_of_ble_eq_true rfl | ((try simp only [units_deeper, units_in1]); (try dsimp only [ktrTop]); (have hcL9k := cLine_is); (first | lia | omega))) | fail)
  (k_with "arith" => first | (first | with_reducible assumption | (first | lia | omega) | (dsimp only; first | assumption | (first | lia | omega)) | ((simp only [List.length_append, List.length_cons, List.length_nil, List.length_set, List.length_dropLast]); (first | lia | omega))) | fail)
  (k_with "len" => first | (first | (simp only [List.length_cons, List.length_nil]; (first | lia | omega)) | (first | lia | omega) | ((have e9k := ints_len (by assumption)); (first | lia | omega))) | fail)
  (k_with "ksubscriptTail|2" => first | ((k_here; (with_reducible refine (?_ : wpAny _ _ (subscriptTail _ _ (Value.ref _) (Value.int _ _)) _ _ _)); k_dflt (refine' item_B ?NKK ?mKK ?xKK ?zKK ?_; (case NKK => k_asm); (case mKK => k_mem); (case xKK => assumption); (case zKK => (first | lia | omega))))) | fail)
  (k_with "ksubscriptTail|2" => first | ((k_here; (with_reducible refine (?_ : wpAny _ _ (subscriptTail _ _ (Value.ref _) (Value.int 0 _)) _ _ _)); k_dflt (refine' tup_item0 ?NKK ?mKK ?_; (case NKK => k_asm); (case mKK => k_mem)))) | fail)
  (k_with "ksubscriptTail|2" => first | ((k_here; (with_reducible refine (?_ : wpAny _ _ (subscriptTail _ _ (Value.ref _) (Value.int 1 _)) _ _ _)); k_dflt (refine' tup_item1 ?NKK ?mKK ?_; (case NKK => k_asm); (case mKK => k_mem)))) | fail)
  (k_with "ksubscriptTail|2" => first | (((k_here; (with_reducible refine (?_ : wpAny _ _ (subscriptTail _ (PySem.Expr.Slice _ _ _ _) (Value.ref _) (Value.ref _)) _ _ _)); k_dflt (refine' slice1_B ?FKK ?NKK ?mKK ?zKK ?_ ?sKK ?tKK; (case FKK => k_asm); (case NKK => k_asm); (case mKK => k_mem); (case zKK => k_extra "len"); (case sKK => with_unfolding_all rfl); (case tKK => (intro _; with_unfolding_all rfl))); intro D'k h'k F'k N'k l1k; (try k_sweep)); k_extra "hs")) | fail)
  (k_with "ksubscriptTail|2" => first | ((k_here; (with_reducible refine (?_ : wpAny _ _ (subscriptTail _ _ (Value.ref (Lay.paL _)) (Value.int _ _)) _ _ _)); k_dflt (refine' item_par ?NKK ?HKK ?aKK ?zKK ?_; (case NKK => k_asm); (case HKK => k_extra "hrep"); (case aKK => k_extra "arith"); (case zKK => k_extra "arith")); intro t9k)) | fail)
  (k_with "ksubscriptTail|2" => first | ((k_here; (with_reducible refine (?_ : wpAny _ _ (subscriptTail _ _ (Value.ref (Lay.loL _)) (Value.int _ _)) _ _ _)); k_dflt (refine' item_lots ?NKK ?HKK ?aKK ?zKK ?_; (case NKK => k_asm); (case HKK => k_extra "hrep"); (case aKK => k_extra "arith"); (case zKK => k_extra "arith")); intro a9k e9k)) | fail)
  (k_with "ksubscriptTail|2" => first | ((k_here; (with_reducible refine (?_ : wpAny _ _ (subscriptTail _ _ (Value.ref (Lay.aD _)) (Value.int _ _)) _ _ _)); k_dflt (refine' item_above ?NKK ?HKK ?cKK ?_; (case NKK => k_asm); (case HKK => k_extra "hrep"); (case cKK => k_extra "arith")); intro tk9k)) | fail)
  (k_with "ksubscriptTail|2" => first | ((k_here; (with_reducible refine (?_ : wpAny _ _ (subscriptTail _ _ (Value.ref (Lay.nL _)) (Value.int _ _)) _ _ _)); k_dflt (refine' item_nodes ?NKK ?HKK ?nKK ?zKK ?_; (case NKK => k_asm); (case HKK => k_extra "hrep"); (case nKK => assumption); (case zKK => k_extra "arith")); intro tup9k t9k ks9k m9k i9k l9k ok9k)) | fail)
  (k_with "ksubscriptTail|2" => first | ((k_here; (with_reducible refine (?_ : wpAny _ _ (subscriptTail _ _ (Value.ref (Lay.wL _)) (Value.int _ _)) _ _ _)); k_dflt (refine' item_weights ?NKK ?HKK ?nKK ?zKK ?_; (case NKK => k_asm); (case HKK => k_extra "hrep"); (case nKK => k_extra "arith"); (case zKK => k_extra "arith")); intro k9k t9k)) | fail)
  (k_with "ksubscriptTail|2" => first | ((k_here; (with_reducible refine (?_ : wpAny _ _ (subscriptTail _ _ (Value.ref (Lay.dL _)) (Value.int _ _)) _ _ _)); k_dflt (refine' item_depths ?NKK ?HKK ?nKK ?zKK ?_; (case NKK => k_asm); (case HKK => k_extra "hrep"); (case nKK => k_extra "arith"); (case zKK => k_extra "arith")); intro k9k t9k)) | fail)
  (k_with "kcall|2" => first | (((with_reducible refine (?_ : wpAny _ _ (call (Value.builtin "len") _ _) _ _ _)); (k_here; (with_reducible refine (?_ : wpAny _ _ (call (Value.builtin _) [Value.ref _]) _ _ _)); k_dflt (refine' len_T ?NKK ?mKK ?zKK ?_; (case NKK => k_asm); (case mKK => k_mem); (case zKK => k_extra "len")); intro t9k tk9k))) | fail)
  (k_with "kcall|2" => first | (((with_reducible refine (?_ : wpAny _ _ (call (Value.builtin "len") _ _) _ _ _)); (k_here; (with_reducible refine (?_ : wpAny _ _ (call (Value.builtin _) [Value.ref _]) _ _ _)); k_dflt (refine' len_B ?NKK ?mKK ?zKK ?_; (case NKK => k_asm); (case mKK => k_mem); (case zKK => k_extra "len")); intro t9k tk9k))) | fail)
  (k_with "kcall|2" => first | (((with_reducible refine (?_ : wpAny _ _ (call (Value.builtin "len") _ _) _ _ _)); (k_here; (with_reducible refine (?_ : wpAny _ _ (call (Value.builtin _) [Value.ref (Lay.paL _)]) _ _ _)); k_dflt (refine' len_par ?NKK ?HKK ?zKK ?_; (case NKK => k_asm); (case HKK => k_extra "hrep"); (case zKK => k_extra "arith")); intro t9k tk9k))) | fail)
  (k_with "kcall|2" => first | (((with_reducible refine (?_ : wpAny _ _ (call (Value.builtin "len") _ _) _ _ _)); (k_here; (with_reducible refine (?_ : wpAny _ _ (call (Value.builtin _) [Value.ref (Lay.waL _)]) _ _ _)); k_dflt (refine' len_wait ?NKK ?HKK ?zKK ?_; (case NKK => k_asm); (case HKK => k_extra "hrep"); (case zKK => k_extra "arith")); intro t9k tk9k))) | fail)
  (k_with "kcall|2" => first | (((with_reducible refine (?_ : wpAny _ _ (call (Value.builtin "len") _ _) _ _ _)); (k_here; (with_reducible refine (?_ : wpAny _ _ (call (Value.builtin _) [Value.ref (Lay.nL _)]) _ _ _)); k_dflt (refine' len_nodes ?NKK ?HKK ?zKK ?_; (case NKK => k_asm); (case HKK => k_extra "hrep"); (case zKK => k_extra "arith")); intro t9k tk9k))) | fail)
  (k_with "kcall|2" => first | (((with_reducible refine (?_ : wpAny _ _ (call (Value.builtin "len") _ _) _ _ _)); (k_here; (with_reducible refine (?_ : wpAny _ _ (call (Value.builtin _) [Value.ref (Lay.loL _)]) _ _ _)); k_dflt (refine' len_lots ?NKK ?HKK ?zKK ?_; (case NKK => k_asm); (case HKK => k_extra "hrep"); (case zKK => k_extra "arith")); intro t9k tk9k))) | fail)
  (k_with "kcall|2" => first | (((with_reducible refine (?_ : wpAny _ _ (call (Value.builtin "len") _ _) _ _ _)); (k_here; (with_reducible refine (?_ : wpAny _ _ (call (Value.builtin _) [Value.ref (Lay.eL _)]) _ _ _)); k_dflt (refine' len_edges ?NKK ?HKK ?zKK ?_; (case NKK => k_asm); (case HKK => k_extra "hrep"); (case zKK => k_extra "arith")); intro k9k t9k tk9k))) | fail)
  (k_with "kcall|2" => first | (((with_reducible refine (?_ : wpAny _ _ (call (Value.builtin "list.append") _ _) _ _ _)); ((k_here; (with_reducible refine (?_ : wpAny _ _ (call (Value.builtin _) [Value.ref (Lay.eL _), _]) _ _ _)); k_dflt (refine' push_edges ?FKK ?NKK ?HKK ?KKK ?zKK ?_; (case FKK => k_asm); (case NKK => k_asm); (case HKK => k_extra "hrep"); (case KKK => k_extra "kept"); (case zKK => k_extra "arith")); intro h9k nw9k F9k N9k H9k K9k st9k; (try k_sweep)); k_extra "hs"))) | fail)
  (k_with "kcall|2" => first | (((with_reducible refine (?_ : wpAny _ _ (call (Value.builtin "list.append") _ _) _ _ _)); ((k_here; (with_reducible refine (?_ : wpAny _ _ (call (Value.builtin _) [Value.ref (Lay.fL _), _]) _ _ _)); k_dflt (refine' push_forest ?FKK ?NKK ?HKK ?KKK ?zKK ?_; (case FKK => k_asm); (case NKK => k_asm); (case HKK => k_extra "hrep"); (case KKK => k_extra "kept"); (case zKK => k_extra "arith")); intro h9k nw9k F9k N9k H9k K9k st9k; (try k_sweep)); k_extra "hs"))) | fail)
  (k_with "kcall|2" => first | (((with_reducible refine (?_ : wpAny _ _ (call (Value.builtin "list.append") _ _) _ _ _)); ((k_here; (with_reducible refine (?_ : wpAny _ _ (call (Value.builtin _) [Value.ref (Lay.mgL _), _]) _ _ _)); k_dflt (refine' push_merged ?FKK ?NKK ?HKK ?KKK ?zKK ?_; (case FKK => k_asm); (case NKK => k_asm); (case HKK => k_extra "hrep"); (case KKK => k_extra "kept"); (case zKK => k_extra "arith")); intro h9k nw9k F9k N9k H9k K9k st9k; (try k_sweep)); k_extra "hs"))) | fail)
  (k_with "kcall|2" => first | (((with_reducible refine (?_ : wpAny _ _ (call (Value.builtin "list.append") _ _) _ _ _)); ((k_here; (with_reducible refine (?_ : wpAny _ _ (call (Value.builtin _) [Value.ref (Lay.paL _), Value.int _ _]) _ _ _)); k_dflt (refine' push_par ?FKK ?NKK ?HKK ?KKK ?zKK ?_; (case FKK => k_asm); (case NKK => k_asm); (case HKK => k_extra "hrep"); (case KKK => k_extra "kept"); (case zKK => k_extra "arith")); intro h9k nw9k F9k N9k H9k K9k st9k; (try k_sweep)); k_extra "hs"))) | fail)
  (k_with "kcall|2" => first | (((with_reducible refine (?_ : wpAny _ _ (call (Value.builtin "list.append") _ _) _ _ _)); ((k_here; (with_reducible refine (?_ : wpAny _ _ (call (Value.builtin _) [Value.ref (Dy.ab _ _), Value.int _ _]) _ _ _)); k_dflt (refine' push_above ?FKK ?NKK ?HKK ?KKK ?cKK ?zKK ?_; (case FKK => k_asm); (case NKK => k_asm); (case HKK => k_extra "hrep"); (case KKK => k_extra "kept"); (case cKK => k_extra "arith"); (case zKK => k_extra "arith")); intro h9k nw9k F9k N9k H9k K9k st9k; (try k_sweep)); k_extra "hs"))) | fail)
  (k_with "kcall|2" => first | (((with_reducible refine (?_ : wpAny _ _ (call (Value.builtin "list.extend") _ _) _ _ _)); ((k_here; (with_reducible refine (?_ : wpAny _ _ (call (Value.builtin _) [Value.ref (Lay.waL _), Value.ref (Dy.ab _ _)]) _ _ _)); k_dflt (refine' ext_wait ?FKK ?NKK ?HKK ?KKK ?cKK ?zKK ?_; (case FKK => k_asm); (case NKK => k_asm); (case HKK => k_extra "hrep"); (case KKK => k_extra "kept"); (case cKK => k_extra "arith"); (case zKK => k_extra "arith")); intro h9k nw9k F9k N9k H9k K9k st9k; (try k_sweep)); k_extra "hs"))) | fail)
  (k_with "kcall|2" => first | (((with_reducible refine (?_ : wpAny _ _ (call (Value.builtin "list.extend") _ _) _ _ _)); ((k_here; (with_reducible refine (?_ : wpAny _ _ (call (Value.builtin _) [Value.ref _, Value.ref _]) _ _ _)); k_dflt (refine' ext_lot ?FKK ?NKK ?HKK ?KKK ?iKK ?jKK ?qKK ?zKK ?_; (case FKK => k_asm); (case NKK => k_asm); (case HKK => k_extra "hrep"); (case KKK => k_extra "kept"); (case iKK => assumption); (case jKK => assumption); (case qKK => k_extra "arith"); (case zKK => k_extra "arith")); intro h9k nw9k F9k N9k H9k K9k st9k; (try k_sweep)); k_extra "hs"))) | fail)
  (k_with "kcall|2" => first | (((with_reducible refine (?_ : wpAny _ _ (call (Value.builtin "list.pop") _ _) _ _ _)); ((k_here; (with_reducible refine (?_ : wpAny _ _ (call (Value.builtin _) [Value.ref (Lay.waL _)]) _ _ _)); k_dflt (refine' pop_wait ?FKK ?NKK ?HKK ?KKK ?nKK ?zKK ?_; (case FKK => k_asm); (case NKK => k_asm); (case HKK => k_extra "hrep"); (case KKK => k_extra "kept"); (case nKK => k_extra "arith"); (case zKK => k_extra "arith")); intro h9k nw9k t9k F9k N9k H9k K9k st9k; (try k_sweep)); k_extra "hs"))) | fail)
  (k_with "ksetItem|2" => first | (((k_here; (with_reducible refine (?_ : wpAny _ _ (setItem (Value.ref (Lay.paL _)) (Value.int _ _) (Value.int _ _)) _ _ _)); k_dflt (refine' set_par ?FKK ?NKK ?HKK ?KKK ?gKK ?zKK ?_; (case FKK => k_asm); (case NKK => k_asm); (case HKK => k_extra "hrep"); (case KKK => k_extra "kept"); (case gKK => k_extra "arith"); (case zKK => k_extra "arith")); intro h9k nw9k F9k N9k H9k K9k st9k; (try k_sweep)); k_extra "hs")) | fail)
  (k_with "kcall|2" => first | (((with_reducible refine (?_ : wpAny _ _ (call (Value.builtin "dict.pop") _ _) _ _ _)); ((k_here; (with_reducible refine (?_ : wpAny _ _ (call (Value.builtin _) [Value.ref (Lay.aD _), Value.int _ _]) _ _ _)); k_dflt (refine' pop_above ?FKK ?NKK ?HKK ?KKK ?gKK ?zKK ?_; (case FKK => k_asm); (case NKK => k_asm); (case HKK => k_extra "hrep"); (case KKK => k_extra "kept"); (case gKK => k_extra "arith"); (case zKK => k_extra "arith")); intro h9k nw9k tk9k F9k N9k H9k K9k st9k ia9k; (try k_sweep)); k_extra "hs"))) | fail)
  (k_with "kcall|2" => first | (((with_reducible refine (?_ : wpAny _ _ (call (Value.type "tuple") _ _) _ _ _)); ((k_here; (with_reducible refine (?_ : wpAny _ _ (call (Value.type _) [Value.ref _]) _ _ _)); k_dflt (refine' tupleOf_B ?FKK ?NKK ?mKK ?zKK ?_; (case FKK => k_asm); (case NKK => k_asm); (case mKK => k_mem); (case zKK => k_extra "len")); intro D'k h'k F'k N'k l1k; (try k_sweep)); k_extra "hs"))) | fail)
  (k_with "kbinaryOp|2" => first | (((with_reducible refine (?_ : wpAny _ _ (binaryOp Operator.Add _ _) _ _ _)); ((k_here; (with_reducible refine (?_ : wpAny _ _ (binaryOp _ (Value.ref _) (Value.ref _)) _ _ _)); k_dflt (refine' addT_B ?FKK ?NKK ?mKK ?bKK ?zKK ?_; (case FKK => k_asm); (case NKK => k_asm); (case mKK => k_mem); (case bKK => k_mem); (case zKK => k_extra "len")); intro D'k h'k nw'k F'k N'k sb'k dm'k; (try simp only [List.cons_append, List.nil_append] at dm'k); (try k_sweep)); k_extra "hs"))) | fail)
  (k_with "knewTuple|2" => first | (((k_here; k_dflt (refine' newTuple_B ?FKK ?NKK ?zKK ?_; (case FKK => k_asm); (case NKK => k_asm); (case zKK => (simp only [List.length_cons, List.length_nil]; (first | lia | omega)))); intro D'k h'k F'k N'k l1k; (try k_sweep)); k_extra "hs")) | fail)
  (k_with "knewList|2" => first | (((k_here; k_dflt (refine' newList_B ?FKK ?NKK ?zKK ?_; (case FKK => k_asm); (case NKK => k_asm); (case zKK => (simp only [List.length_cons, List.length_nil]; (first | lia | omega)))); intro D'k h'k F'k N'k l1k; (try k_sweep)); k_extra "hs")) | fail)
  (k_with "keval|2" => first | (((with_reducible refine (?_ : wpAny _ _ (eval (Expr.ListComp _ _ _ _) _) _ _ _)); (k_here; (with_reducible refine (?_ : wpAny _ _ (eval (Expr.ListComp _ [Comprehension.mk _ _ [] _] _ _) _) _ _ _)); k_dflt (refine listComp_B (by k_asm) (by with_unfolding_all rfl) (by decide) (by rfl) (by decide) (by rfl) ?_)))) | fail)
  (k_with "keval|2" => first | (((with_reducible refine (?_ : wpAny _ _ (eval (Expr.Name _ _) _) _ _ _)); (k_here; k_dflt (first | (refine' nameX_L ?FKK ?vKK ?_ ?aKK ?bKK; (case FKK => k_asm); (case aKK => rfl); (case bKK => rfl); (case vKK => exact @rfl _ (some _)); k_whole) | (refine' nameX_C ?NKK ?cKK ?mKK ?dKK ?_ ?aKK ?bKK; (case aKK => rfl); (case bKK => rfl); (case NKK => k_asm); (case cKK => rfl); (case mKK => k_mem); (case dKK => k_asm); k_whole))))) | fail)
  (k_with "kgetAttr|2" => first | (((with_reducible refine (?_ : wpAny _ _ (getAttr (Value.ref _) _ _) _ _ _)); (k_here; k_dflt (refine' get_own ?k1KK ?k2KK ?k3KK ?k4KK ?k5KK ?k6KK ?k7KK ?k8KK ?k9KK ?_; (case k1KK => k_asm); (case k2KK => k_asm); (case k3KK => k_inst); (case k4KK => k_is); (case k5KK => k_is); (case k6KK => k_is); (case k7KK => k_is); (case k8KK => k_get); (case k9KK => k_handed); k_whole)))) | fail)
  (k_with "kgetMethod|2" => first | (((with_reducible refine (?_ : wpAny _ _ (getMethod (Value.ref _) _ _) _ _ _)); (k_here; k_dflt (refine' method_inst ?k1KK ?k2KK ?k3KK ?k4KK ?k5KK ?k6KK ?k7KK ?_; (case k1KK => k_asm); (case k2KK => k_asm); (case k3KK => k_inst); (case k4KK => k_is); (case k5KK => k_is); (case k6KK => k_is); (case k7KK => k_get); k_whole)))) | fail)
  (k_with "kcallWith|2" => first | (((with_reducible refine (?_ : wpAny _ _ (callWith _ (Value.ref _) _ _ _) _ _ _)); (k_here; k_dflt (first | (refine' callWith_names1 ?FKK ?XKK ?cKK ?vKK ?_ ?aKK; (case aKK => rfl); (case FKK => k_asm); (case XKK => k_asm); (case cKK => k_is); (case vKK => exact @rfl _ (some _)); k_whole) | (refine' callWith_names0 ?FKK ?XKK ?cKK ?vKK ?_ ?aKK; (case aKK => rfl); (case FKK => k_asm); (case XKK => k_asm); (case cKK => k_is); (case vKK => exact @rfl _ (some _)); k_whole) | refine' callWith_K ?k1KK ?k2KK ?_; (case k1KK => k_asm); (case k2KK => k_is); k_whole | refine' callWith_K0 ?k1KK ?k2KK ?_; (case k1KK => k_in); (case k2KK => k_is); k_whole)))) | fail)
  (k_with "And|2" => first | (((with_reducible show Frag.In _ _ ∧ _); refine ⟨by k_in, ?_⟩; try dsimp only [List.nil_append, List.cons_append])) | fail)
  (k_with "walkin" => first | (first | ((with_reducible refine (?_ : wpAny _ _ (call (Value.ref 131) _) _ _ _)); refine wpAny_call ?_; k_enter) | ((with_reducible refine (?_ : wpAny _ _ (call (Value.ref 138) _) _ _ _)); refine wpAny_call ?_; k_enter) | ((with_reducible refine (?_ : wpAny _ _ (call (Value.ref 145) _) _ _ _)); refine wpAny_call ?_; k_enter) | ((with_reducible refine (?_ : wpAny _ _ (call (Value.ref 93) _) _ _ _)); refine wpAny_call ?_; k_enter) | ((with_reducible refine (?_ : wpAny _ _ (call (Value.ref 206) _) _ _ _)); refine wpAny_call ?_; k_enter) | ((with_reducible refine (?_ : wpAny _ _ (call (Value.ref 281) _) _ _ _)); refine wpAny_call ?_; k_enter)) | fail)
  (k_with "isints" => first | (first | with_reducible assumption | exact isInts_nil mem_hd | exact isInts_one mem_hd) | fail)
  (k_with "stay" => first | (first | with_reducible assumption | (intro a9k b9k c9k; k_mem)) | fail)
  (k_with "ksetItem|2" => first | (((k_here; (with_reducible refine (?_ : wpAny _ _ (setItem (Value.ref (Lay.aD _)) (Value.int _ _) (Value.ref _)) _ _ _)); k_dflt (first | (refine' lay_old ?FKK ?lKK ?NKK ?HKK ?KKK ?DKK ?cKK ?zKK ?_; (case FKK => k_asm); (case NKK => k_asm); (case lKK => assumption); (case HKK => k_extra "hrep"); (case KKK => k_extra "kept"); (case DKK => k_extra "isints"); (case cKK => k_extra "keyin"); (case zKK => k_extra "arith")) | (refine' lay_new ?FKK ?lKK ?NKK ?HKK ?KKK ?DKK ?cKK ?zKK ?_; (case FKK => k_asm); (case NKK => k_asm); (case lKK => assumption); (case HKK => k_extra "hrep"); (case KKK => k_extra "kept"); (case DKK => k_extra "isints"); (case cKK => k_extra "keyin"); (case zKK => k_extra "arith"))); intro h9k nw9k tk9k F9k N9k H9k K9k st9k; (try k_sweep)); k_extra "hs")) | fail)
  (k_with "kcall|2" => first | (((with_reducible refine (?_ : wpAny _ _ (call (Value.builtin "list.append") _ _) _ _ _)); ((k_here; (with_reducible refine (?_ : wpAny _ _ (call (Value.builtin _) [Value.ref (Lay.loL _), Value.ref _]) _ _ _)); k_dflt (refine' new_lot ?FKK ?lKK ?NKK ?HKK ?KKK ?DKK ?zKK ?_; (case FKK => k_asm); (case NKK => k_asm); (case lKK => assumption); (case HKK => k_extra "hrep"); (case KKK => k_extra "kept"); (case DKK => k_extra "isints"); (case zKK => k_extra "arith")); intro h9k nw9k F9k N9k H9k K9k st9k; (try k_sweep)); k_extra "hs"))) | fail)
  (k_with "kcall|2" => first | (((with_reducible refine (?_ : wpAny _ _ (call (Value.builtin "sorted") _ _) _ _ _)); ((k_here; (with_reducible refine (?_ : wpAny _ _ (call (Value.builtin _) [Value.ref _]) _ _ _)); k_dflt (refine' sorted2_B ?FKK ?NKK ?mKK ?_; (case FKK => k_asm); (case NKK => k_asm); (case mKK => k_mem)); intro D'k t'k u'k c'k h'k F'k N'k l1k; (try k_sweep)); k_extra "hs"))) | fail)
  (k_with "keyin" => first | (first | with_reducible assumption | (dsimp only; assumption)) | fail)
  (k_with "isl" => first | (first | exact isL_par (by k_extra "hrep") | exact isL_lots (by k_extra "hrep") | exact isL_merged (by k_extra "hrep") | exact isL_edges (by k_extra "hrep") | exact isL_forest (by k_extra "hrep") | exact isL_wait (by k_extra "hrep") | exact isL_nodes (by k_extra "hrep") | exact isL_weights (by k_extra "hrep") | exact isL_depths (by k_extra "hrep") | exact isL_ab (by k_extra "hrep") (by k_extra "keyin") | exact isL_las (by k_extra "hrep") (by assumption)) | fail)
  (k_with "kgetMethod|2" => first | (((with_reducible refine (?_ : wpAny _ _ (getMethod (Value.ref _) _ _) _ _ _)); (k_here; (with_reducible refine (?_ : wpAny _ _ (getMethod (Value.ref _) (PySem.Str.ofString "append") _) _ _ _)); k_dflt (refine' list_method ?NKK ?LKK PySem.F.slot_list_append PySem.F.type_list_append ?_; (case NKK => k_asm); (case LKK => k_extra "isl"))))) | fail)
  (k_with "kgetMethod|2" => first | (((with_reducible refine (?_ : wpAny _ _ (getMethod (Value.ref _) _ _) _ _ _)); (k_here; (with_reducible refine (?_ : wpAny _ _ (getMethod (Value.ref _) (PySem.Str.ofString "extend") _) _ _ _)); k_dflt (refine' list_method ?NKK ?LKK PySem.F.slot_list_extend PySem.F.type_list_extend ?_; (case NKK => k_asm); (case LKK => k_extra "isl"))))) | fail)
  (k_with "kgetMethod|2" => first | (((with_reducible refine (?_ : wpAny _ _ (getMethod (Value.ref _) _ _) _ _ _)); (k_here; (with_reducible refine (?_ : wpAny _ _ (getMethod (Value.ref (Lay.waL _)) (PySem.Str.ofString "pop") _) _ _ _)); k_dflt (refine' list_method ?NKK ?LKK PySem.F.slot_list_pop PySem.F.type_list_pop ?_; (case NKK => k_asm); (case LKK => k_extra "isl"))))) | fail)
  (k_with "kgetMethod|2" => first | (((with_reducible refine (?_ : wpAny _ _ (getMethod (Value.ref _) _ _) _ _ _)); (k_here; (with_reducible refine (?_ : wpAny _ _ (getMethod (Value.ref (Lay.aD _)) (PySem.Str.ofString "pop") _) _ _ _)); k_dflt (refine' id_method ?NKK (HRep.cm ?HKK .above) PySem.F.slot_dict_pop PySem.F.type_dict_pop ?_; (case NKK => k_asm); (case HKK => k_extra "hrep"))))) | fail)
  (k_with "kgetMethod|2" => first | (((with_reducible refine (?_ : wpAny _ _ (getMethod (Value.ref _) _ _) _ _ _)); (k_here; (with_reducible refine (?_ : wpAny _ _ (getMethod (Value.ref (Lay.kD _)) (PySem.Str.ofString "setdefault") _) _ _ _)); k_dflt (refine' kn_method ?NKK ?HKK PySem.F.slot_dict_setdefault PySem.F.type_dict_setdefault ?_; (case NKK => k_asm); (case HKK => k_extra "hrep"))))) | fail)
  (k_with "kbinaryOp|2" => first | (((with_reducible refine (?_ : wpAny _ _ (binaryOp Operator.Add _ _) _ _ _)); ((k_here; (with_reducible refine (?_ : wpAny _ _ (binaryOp _ (Value.ref (Dy.ab _ _)) (Value.ref (Dy.ab _ _))) _ _ _)); k_dflt (refine' add_ints ?FKK ?NKK (HRep.dy ?HKK |>.abl _ ?cKK) ?xKK ?zKK ?_; (case FKK => k_asm); (case NKK => k_asm); (case HKK => k_extra "hrep"); (case cKK => k_extra "keyin"); (case xKK => assumption); (case zKK => k_extra "arith")); intro D'k h'k F'k o'k N'k i'k l1k; (try k_sweep)); k_extra "hs"))) | fail)
  (k_with "keval|2" => first | (((with_reducible refine (?_ : wpAny _ _ (eval (Expr.ListComp _ _ _ _) _) _ _ _)); (k_here; (with_reducible refine (?_ : wpAny _ _ (eval (Expr.ListComp _ [Comprehension.mk _ _ [_] _] _ _) _) _ _ _)); k_dflt (refine listComp_T (by k_asm) (by with_unfolding_all rfl) (by decide) (by rfl) (by decide) (by rfl) ?_)))) | fail)
  (k_with "kexec|2" => first | (((with_reducible refine (?_ : wpAny _ _ (exec (Stmt.For _ _ _ _ _) _) _ _ _)); (k_here; (rename Fr _ _ _ _ => lF'k); (with_unfolding_all refine' For_invVF lF'k ?k1KK ?k2KK ?_; (case k1KK => exact rfl); (case k2KK => exact rfl))))) | fail)
  (k_with "kexecs|2" => first | (((with_reducible refine (?_ : wpAny _ _ (execs (_ :: _) _) _ _ _)); (k_here; (try k_gentoks); (with_reducible refine wpAny_execs_cons ?_); (try dsimp only); (try ((fail_if_success (fail_if_success k_fold)); refine hideQ ?_; intro qkk))))) | fail)
  (k_with "spliced" => first | ((k_here; k_dflt (first | (refine' args_names ?FKK ?vKK ?_ ?aKK; (case aKK => rfl); (case FKK => k_asm); (case vKK => exact @rfl _ (some _)); k_whole; (try dsimp only [List.cons_append, List.nil_append])) | (refine args_cons ?_)))) | fail)
  (k_with "keval|2" => first | (((with_reducible refine (?_ : wpAny _ _ (eval (Expr.Attribute (Expr.Name _ _) _ _) _) _ _ _)); (k_here; (fail_if_success (with_reducible show wpAny _ _ (eval _ (compEnvC _ _ _ _)) _ _ _)); k_dflt (first | (refine' attr_L ?FKK ?xKK ?k2KK ?k3KK ?k4KK ?k5KK ?k6KK ?k7KK ?k8KK ?k9KK ?_ ?aKK ?bKK; (case aKK => rfl); (case bKK => rfl); (case FKK => k_asm); (case xKK => exact @rfl _ (some _)); (case k2KK => k_asm); (case k3KK => k_inst); (case k4KK => k_is); (case k5KK => k_is); (case k6KK => k_is); (case k7KK => k_is); (case k8KK => k_get); (case k9KK => k_handed); k_whole) | (refine' attr_C ?NKK ?cKK ?mKK ?dKK ?FKK ?k2KK ?k3KK ?k4KK ?k5KK ?k6KK ?k7KK ?k8KK ?k9KK ?_ ?aKK ?bKK; (case aKK => rfl); (case bKK => rfl); (case NKK => k_asm); (case cKK => rfl); (case mKK => k_mem); (case dKK => k_asm); (case FKK => k_asm); (case k2KK => k_asm); (case k3KK => k_inst); (case k4KK => k_is); (case k5KK => k_is); (case k6KK => k_is); (case k7KK => k_is); (case k8KK => k_get); (case k9KK => k_handed); k_whole))))) | fail)
  (k_with "keval|2" => first | (((with_reducible refine (?_ : wpAny _ _ (eval (Expr.Call (Expr.Attribute _ _ _) _ _ _) _) _ _ _)); (k_here; (fail_if_success (with_reducible show wpAny _ _ (eval _ (compEnvC _ _ _ _)) _ _ _)); k_dflt (refine' meth_L ?FKK ?xKK ?k2KK ?k3KK ?k4KK ?k5KK ?k6KK ?k7KK ?k8KK ?vKK ?_ ?aKK ?bKK ?cKK (pl := _) ?heKK; (case aKK => rfl); (case bKK => rfl); (case FKK => k_asm); (case xKK => exact @rfl _ (some _)); (case vKK => exact @rfl _ (some _)); (case cKK => decide); (case heKK => rfl); (case k2KK => k_asm); (case k3KK => k_inst); (case k4KK => k_is); (case k5KK => k_is); (case k6KK => k_is); (case k7KK => k_get); (case k8KK => k_is); k_whole)))) | fail)
  (k_with "over" => first | ((refine (?_ : Over _ _ _ _); repeat (first | with_reducible exact over_refl | refine over_ite ?_ rfl | refine over_cont ?_ rfl | refine over_kstB ?_ rfl))) | fail)
  trivial
example : True := by
  (k_with "hs" => first | (try (refine hideS ?_; intro sSk)) | fail)
  (k_with "c|F1" => first | (first | (k_extra "?eval"; first | k_extra "keval|2") | (k_extra "?execs"; first | k_extra "kexecs|2") | (k_extra "?call"; first | k_extra "kcall|2") | (k_extra "?getMethod"; first | k_extra "kgetMethod|2") | (k_extra "?getAttr"; first | k_extra "kgetAttr|2") | (k_extra "?callWith"; first | k_extra "kcallWith|2") | (k_extra "?subscriptTail"; first | k_extra "ksubscriptTail|2") | (k_extra "?exec"; first | k_extra "kexec|2") | (k_extra "?newTuple"; first | k_extra "knewTuple|2") | (k_extra "?newList"; first | k_extra "knewList|2") | (k_extra "?binaryOp"; first | k_extra "kbinaryOp|2") | (k_extra "?setItem"; first | k_extra "ksetItem|2") | k_extra "And|2") | fail)
  (k_with "step|F1" => first | (first | k_extra "c|F1" | ((fail_if_success (with_reducible show wpAny _ _ (call (Value.ref _) _) _ _ _)); (fail_if_success (with_reducible show wpAny _ _ (pyIter (Value.ref _)) _ _ _)); (fail_if_success (with_reducible show wpAny _ _ (call (Value.builtin "sorted") _) _ _ _)); (fail_if_success (with_reducible show KswEnd _ _ _ _ _ _ _ _ _ _ _ _)); walk1) | (k_here; k_dflt k_extra "walkin")) | fail)
  (k_with "go|F1" => first | (repeat' k_extra "step|F1") | fail)
  trivial
variable {w : World} {A₀ : Around} {base h₀ : Heap} {outer : List Env} {cn : Str} {cs : Scope} {L fa : Addr} {ccd : Value} {cl : List (Str × Addr)} {m mg mb : Str → Option Value} {mean : ExcName → Option Value} {news : List (Addr × Obj)} {s : Shared} {Q : Value → Shared → Prop} {dp un : Nat} {gd : Option (List Code)}

theorem find_c {y : Lay} {v : Dy} {σ : HS} {a : Nat} {ta : Tok}
    (B : Below A₀ base outer h₀) (F : Fr h₀ L s.heap m) (X : (Mine.hd.heap_1 w.params).In h₀) (N : News h₀ L s.heap news) (T : Top Mine.hd.view_1 (looseW Mine.hd.view_1 []) mean mg mb h₀) (hk : cs.kind = .function) (hd : dp + 10 < 1000) (hu : un + 100 < 1000) (H : HRep w news y v σ) (hp : Par σ.par) (ha : a < σ.par.length) (hz : σ.par.length ≤ 1000000)
    (ret : ∀ t h' tk', Fr h₀ L h' m → News h₀ L h' news → Q (.int (root σ.par a : Nat) t) { s with heap := h', toks := tk' }) :
    wpAny (model prog w) (ktrTop dp un gd cn cs L fa ccd cl outer) (call (.ref 213) [.ref y.uI, .int a ta]) Q (fun _ _ => False) s := by
  refine wpAny_call ?_
  k_dflt k_enter
  refine wpAny_noRaise ?_
  k_dflt walk1
  k_dflt walk1
  refine ksw_while (σ := Nat × Tok) (fun _ => news) (fun c => [(Str.ofString "a", .int c.1 c.2)]) (fun _ => True) [] (fun c => c.1 < σ.par.length ∧ root σ.par c.1 = root σ.par a) (fun c => c.1) (a, ta) (by assumption) (by assumption) trivial (by kst_all) ⟨ha, rfl⟩ ?_ PassesOwn.never
  refine pr2 fun b tb => ?_
  intro fu h1 tk1 z1 P2 F1 N1
  clear z1
  refine byC fun U0 => ?_
  obtain ⟨hb, hr⟩ := P2
  refine U0 ?_
  clear U0
  simp only [kstB] at hb hr F1 N1 ⊢
  have hle := hp b hb
  k_extra "go|F1"
  · rename Fr _ _ _ _ => F2
    rename News _ _ _ _ => N2
    rename _ ≠ _ => hne
    have hlt : σ.par.getD b b < b := by lia
    exact ksw_end (σ.par.getD b b, _) F2 N2 (fun _ h => h) trivial (by kst_all) (by ksw_same) ⟨Nat.lt_trans hlt hb, by rw [← hr, root_step hlt]⟩ hlt
  · rename Fr h₀ L _ m => kF
    rename News h₀ L _ news => kN
    have e2 : root σ.par a = b := by rw [← hr, root_stop (by lia)]
    rw [← e2]
    exact ret _ _ _ kF kN

end
end Mine

open PySem PySem.W PySem.Calls PyProof.Rows PySem.Spec
namespace Mine
section
set_option maxHeartbeats 20000000
example : True := by
  (k_with "hs" => first | (try (refine hideS ?_; intro sSk)) | fail)
  (k_with "c|O2" => first | (first | (k_extra "?eval"; first | k_extra "keval|2") | (k_extra "?execs"; first | k_extra "kexecs|2") | (k_extra "?call"; first | k_extra "kcall|2") | (k_extra "?getMethod"; first | k_extra "kgetMethod|2") | (k_extra "?getAttr"; first | k_extra "kgetAttr|2") | (k_extra "?callWith"; first | k_extra "kcallWith|2") | (k_extra "?subscriptTail"; first | k_extra "ksubscriptTail|2") | (k_extra "?exec"; first | k_extra "kexec|2") | (k_extra "?newTuple"; first | k_extra "knewTuple|2") | (k_extra "?newList"; first | k_extra "knewList|2") | (k_extra "?binaryOp"; first | k_extra "kbinaryOp|2") | (k_extra "?setItem"; first | k_extra "ksetItem|2") | k_extra "And|2") | fail)
  (k_with "step|O2" => first | (first | k_extra "c|O2" | ((fail_if_success (with_reducible show wpAny _ _ (call (Value.ref _) _) _ _ _)); (fail_if_success (with_reducible show wpAny _ _ (pyIter (Value.ref _)) _ _ _)); (fail_if_success (with_reducible show wpAny _ _ (call (Value.builtin "sorted") _) _ _ _)); (fail_if_success (with_reducible show KswEnd _ _ _ _ _ _ _ _ _ _ _ _)); walk1) | (k_here; k_dflt k_extra "walkin")) | fail)
  (k_with "go|O2" => first | (repeat' k_extra "step|O2") | fail)
  trivial
variable {w : World} {A₀ : Around} {base h₀ : Heap} {outer : List Env} {cn : Str} {cs : Scope} {L fa : Addr} {ccd : Value} {cl : List (Str × Addr)} {m mg mb : Str → Option Value} {mean : ExcName → Option Value} {news : List (Addr × Obj)} {s : Shared} {Q : Value → Shared → Prop} {dp un : Nat} {gd : Option (List Code)}

noncomputable def plainSign (c : Nat) : Bool := !Txt.isspace { cps := #[c] } && (Builtin.Str.occurrences (Str.ofString "()[]{},:") { cps := #[c] } 0 (Str.ofString "()[]{},:").length 1).isEmpty
noncomputable def Plain (op : Str) : Prop := op ≠ Str.ofString "" ∧ op.cps.size ≤ 100 ∧ op.cps.toList.all plainSign = true
theorem Plain.at {op : Str} (h : Plain op) {i c : Nat} (e : op.cps[i]? = some c) : Txt.isspace { cps := #[c] } = false ∧ (Builtin.Str.occurrences (Str.ofString "()[]{},:") { cps := #[c] } 0 (Str.ofString "()[]{},:").length 1).isEmpty = true := by
  have := List.all_eq_true.mp h.2.2 c (List.mem_of_getElem? (by rw [Array.getElem?_toList]; exact e))
  unfold plainSign at this
  simpa using this
theorem isop_c {op : Str} {t : Tok} (hop : Plain op)
    (B : Below A₀ base outer h₀) (F : Fr h₀ L s.heap m) (X : (Mine.hd.heap_1 w.params).In h₀) (N : News h₀ L s.heap news) (T : Top Mine.hd.view_1 (looseW Mine.hd.view_1 []) mean mg mb h₀) (hk : cs.kind = .function) (hd : dp + 6 < 1000) (hu : un + 60 < 1000) (ret : ∀ h' tk', Fr h₀ L h' m → News h₀ L h' news → Q (.bool true) { s with heap := h', toks := tk' }) :
    wpAny (model prog w) (ktrTop dp un gd cn cs L fa ccd cl outer) (call (.ref 67) [.str op t]) Q (fun _ _ => False) s := by
  refine byC fun U0 => ?_
  obtain ⟨ho1, hz, -⟩ := id hop
  refine U0 ?_
  clear U0
  refine wpAny_call ?_
  k_dflt k_enter
  have hAu : Akk.units = un + _ := rfl
  refine wpAny_noRaise ?_
  k_extra "go|O2"
  · refine compPureT (fun _ => false) (fun _ _ => True) (iterable_str rfl (by assumption) (by assumption)) trivial (by lia) ?_ ?_
    · intro i v J C oC m₂ h9 tk9 hi hv hJ hC hx F9 N9
      refine byC fun U0 => ?_
      obtain ⟨c, u, ec, rfl⟩ := hv
      obtain ⟨q1, q2⟩ := hop.at ec
      refine U0 ?_
      clear U0
      k_extra "go|O2"
      all_goals first
        | exact NEnd.intro (by assumption) (by assumption)
        | (exfalso; rename _ = _ => q3; rw [q1] at q3; cases q3)
        | (exfalso; rename _ = _ => q3; rw [q2] at q3; cases q3)
    · intro D ys h9 tk9 hl hy F9 N9 hD
      have hn : ys = [] := by
        have : ((List.range op.cps.size).filter fun _ => false) = [] := by simp
        rw [this] at hl
        exact List.length_eq_zero_iff.mp hl
      subst hn
      k_extra "go|O2"
      rename Fr h₀ L _ m => kF
      rename News h₀ L _ _ => kN
      exact ret _ _ kF (fun p hp => kN p (by k_extra "insub"))
  · exfalso
    rename _ = _ => q3
    simp at q3
    exact ho1 q3

end
end Mine

open PySem PySem.W PySem.Calls PyProof.Rows PySem.Spec
namespace Mine
section
set_option maxHeartbeats 20000000
example : True := by
  (k_with "ccall|7" => first | (((k_here; (with_reducible refine (?_ : wpAny _ _ (call (Value.ref 67) _) _ _ _)); refine wpAny_noRaise ?_; k_dflt (refine' isop_c ?hopKK ?BKK ?FKK ?XKK ?NKK ?TKK ?hkKK ?hdKK ?huKK ?_; (case hopKK => assumption); (case BKK => k_asm); (case FKK => k_asm); (case XKK => k_asm); (case NKK => k_asm); (case TKK => k_asm); (case hkKK => first | assumption | exact rfl); (case hdKK => k_extra "room"); (case huKK => k_extra "room")); intro h9k tk9k F9k N9k; (try dsimp only)); k_extra "hs")) | fail)
  (k_with "ksubscriptTail|7" => first | ((k_here; (with_reducible refine (?_ : wpAny _ _ (subscriptTail _ _ (Value.str _ _) (Value.int _ _)) _ _ _)); (refine' KXi.item (n := _) rfl ?aKK ?bKK ?cKK ?_; (case aKK => (first | lia | omega)); (case bKK => (first | lia | omega)); (case cKK => (first | lia | omega))); intro kxiEk)) | fail)
  (k_with "ccall|7" => first | (((k_here; (with_reducible refine (?_ : wpAny _ _ (call (Value.ref 105) _) _ _ _)); refine wpAny_noRaise ?_; k_dflt (refine' require_c ?hopKK ?BKK ?FKK ?XKK ?NKK ?TKK ?hkKK ?hdKK ?huKK ?HKK ?_; (case hopKK => assumption); (case BKK => k_asm); (case FKK => k_asm); (case XKK => k_asm); (case NKK => k_asm); (case TKK => k_asm); (case hkKK => first | assumption | exact rfl); (case hdKK => k_extra "room"); (case huKK => k_extra "room"); (case HKK => k_extra "hrep")); intro h9k tk9k F9k N9k; (try dsimp only)); k_extra "hs")) | fail)
  trivial
example : True := by
  (k_with "hs" => first | (try (refine hideS ?_; intro sSk)) | fail)
  (k_with "c|O3" => first | (first | (k_extra "?eval"; first | k_extra "keval|2") | (k_extra "?execs"; first | k_extra "kexecs|2") | (k_extra "?call"; first | k_extra "ccall|7" | k_extra "kcall|2") | (k_extra "?getMethod"; first | k_extra "kgetMethod|2") | (k_extra "?getAttr"; first | k_extra "kgetAttr|2") | (k_extra "?callWith"; first | k_extra "kcallWith|2") | (k_extra "?subscriptTail"; first | k_extra "ksubscriptTail|7" | k_extra "ksubscriptTail|2") | (k_extra "?exec"; first | k_extra "kexec|2") | (k_extra "?newTuple"; first | k_extra "knewTuple|2") | (k_extra "?newList"; first | k_extra "knewList|2") | (k_extra "?binaryOp"; first | k_extra "kbinaryOp|2") | (k_extra "?setItem"; first | k_extra "ksetItem|2") | k_extra "And|2") | fail)
  (k_with "step|O3" => first | (first | k_extra "c|O3" | ((fail_if_success (with_reducible show wpAny _ _ (call (Value.ref _) _) _ _ _)); (fail_if_success (with_reducible show wpAny _ _ (pyIter (Value.ref _)) _ _ _)); (fail_if_success (with_reducible show wpAny _ _ (call (Value.builtin "sorted") _) _ _ _)); (fail_if_success (with_reducible show KswEnd _ _ _ _ _ _ _ _ _ _ _ _)); walk1) | (k_here; k_dflt k_extra "walkin")) | fail)
  (k_with "go|O3" => first | (repeat' k_extra "step|O3") | fail)
  trivial
variable {w : World} {A₀ : Around} {base h₀ : Heap} {outer : List Env} {cn : Str} {cs : Scope} {L fa : Addr} {ccd : Value} {cl : List (Str × Addr)} {m mg mb : Str → Option Value} {mean : ExcName → Option Value} {news : List (Addr × Obj)} {s : Shared} {Q : Value → Shared → Prop} {dp un : Nat} {gd : Option (List Code)}

noncomputable def OpOk (op : Str) : Prop := Plain op ∧ 0 < op.length ∧ op.length ≤ 100 ∧ Txt.item op 0 ≠ Str.ofString "?" ∧ PyData.strOk op = true
example : True := by
  (k_with "step|O3" => first | ((rename ((Txt.item _ _ == _) = true) => q3k; rename (Txt.item _ _ ≠ _) => q4k; exact absurd (eq_of_beq q3k) q4k)) | fail)
  trivial

theorem require_c {y : Lay} {v : Dy} {σ : HS} {op : Str} {t : Tok} (hok : OpOk op)
    (B : Below A₀ base outer h₀) (F : Fr h₀ L s.heap m) (X : (Mine.hd.heap_1 w.params).In h₀) (N : News h₀ L s.heap news) (T : Top Mine.hd.view_1 (looseW Mine.hd.view_1 []) mean mg mb h₀) (hk : cs.kind = .function) (hd : dp + 8 < 1000) (hu : un + 80 < 1000) (H : HRep w news y v σ) (ret : ∀ h' tk', Fr h₀ L h' m → News h₀ L h' news → Q .none { s with heap := h', toks := tk' }) :
    wpAny (model prog w) (ktrTop dp un gd cn cs L fa ccd cl outer) (call (.ref 105) [.ref y.bI, .str op t]) Q (fun _ _ => False) s := by
  refine byC fun U0 => ?_
  obtain ⟨hop, h1, h2, hq, -⟩ := hok
  refine U0 ?_
  clear U0
  refine wpAny_call ?_
  k_dflt k_enter
  refine wpAny_noRaise ?_
  k_extra "go|O3"
  rename Fr h₀ L _ m => kF
  rename News h₀ L _ news => kN
  exact ret _ _ kF kN

end
end Mine

open PySem PySem.W PySem.Calls PyProof.Rows PySem.Spec
namespace Mine
section
set_option maxHeartbeats 20000000
example : True := by
  (k_with "hs" => first | (try (refine hideS ?_; intro sSk)) | fail)
  (k_with "c|U1" => first | (first | (k_extra "?eval"; first | k_extra "keval|2") | (k_extra "?execs"; first | k_extra "kexecs|2") | (k_extra "?call"; first | k_extra "kcall|2") | (k_extra "?getMethod"; first | k_extra "kgetMethod|2") | (k_extra "?getAttr"; first | k_extra "kgetAttr|2") | (k_extra "?callWith"; first | k_extra "kcallWith|2") | (k_extra "?subscriptTail"; first | k_extra "ksubscriptTail|2") | (k_extra "?exec"; first | k_extra "kexec|2") | (k_extra "?newTuple"; first | k_extra "knewTuple|2") | (k_extra "?newList"; first | k_extra "knewList|2") | (k_extra "?binaryOp"; first | k_extra "kbinaryOp|2") | (k_extra "?setItem"; first | k_extra "ksetItem|2") | k_extra "And|2") | fail)
  (k_with "step|U1" => first | (first | k_extra "c|U1" | ((fail_if_success (with_reducible show wpAny _ _ (call (Value.ref _) _) _ _ _)); (fail_if_success (with_reducible show wpAny _ _ (pyIter (Value.ref _)) _ _ _)); (fail_if_success (with_reducible show wpAny _ _ (call (Value.builtin "sorted") _) _ _ _)); (fail_if_success (with_reducible show KswEnd _ _ _ _ _ _ _ _ _ _ _ _)); walk1) | (k_here; k_dflt k_extra "walkin")) | fail)
  (k_with "go|U1" => first | (repeat' k_extra "step|U1") | fail)
  trivial
variable {w : World} {A₀ : Around} {base h₀ : Heap} {outer : List Env} {cn : Str} {cs : Scope} {L fa : Addr} {ccd : Value} {cl : List (Str × Addr)} {m mg mb : Str → Option Value} {mean : ExcName → Option Value} {news : List (Addr × Obj)} {s : Shared} {Q : Value → Shared → Prop} {dp un : Nat} {gd : Option (List Code)}

variable {news₀ : List (Addr × Obj)} {v₀ : Dy} {σ₀ : HS}
theorem make_c {y : Lay} {v : Dy} {σ : HS}
    (B : Below A₀ base outer h₀) (F : Fr h₀ L s.heap m) (X : (Mine.hd.heap_1 w.params).In h₀) (N : News h₀ L s.heap news) (T : Top Mine.hd.view_1 (looseW Mine.hd.view_1 []) mean mg mb h₀) (hk : cs.kind = .function) (hd : dp + 10 < 1000) (hu : un + 100 < 1000) (H : HRep w news y v σ) (K : Kept y v₀ σ₀ v σ news₀ news) (hl : σ.lots.length = σ.par.length) (hz : σ.par.length ≤ 800000)
    (ret : ∀ t h' tk' v' news', Fr h₀ L h' m → News h₀ L h' news' → HRep w news' y v' (mkU σ) → Kept y v₀ σ₀ v' (mkU σ) news₀ news' → TupStay news news' → Q (.int (σ.par.length : Nat) t) { s with heap := h', toks := tk' }) :
    wpAny (model prog w) (ktrTop dp un gd cn cs L fa ccd cl outer) (call (.ref 199) [.ref y.uI]) Q (fun _ _ => False) s := by
  refine wpAny_call ?_
  k_dflt k_enter
  refine wpAny_noRaise ?_
  k_extra "go|U1"
  rename Fr h₀ L _ m => kF
  rename News h₀ L _ _ => kN
  have e9 : (((σ.par ++ [σ.par.length]).length : Nat) : Int) - 1 = (σ.par.length : Nat) := by rw [List.length_append]; simp
  rw [e9]
  exact ret _ _ _ _ _ kF kN (by assumption) (by assumption) (by k_extra "stay")

end
end Mine

open PySem PySem.W PySem.Calls PyProof.Rows PySem.Spec
namespace Mine
section
set_option maxHeartbeats 20000000
example : True := by
  (k_with "ccall|3a" => first | (((k_here; (with_reducible refine (?_ : wpAny _ _ (call (Value.ref 213) _) _ _ _)); refine wpAny_noRaise ?_; k_dflt (refine' find_c ?BKK ?FKK ?XKK ?NKK ?TKK ?hkKK ?hdKK ?huKK ?HKK ?hpKK ?haKK ?hzKK ?_; (case BKK => k_asm); (case FKK => k_asm); (case XKK => k_asm); (case NKK => k_asm); (case TKK => k_asm); (case hkKK => first | assumption | exact rfl); (case hdKK => k_extra "room"); (case huKK => k_extra "room"); (case HKK => k_extra "hrep"); (case hpKK => assumption); (case haKK => k_extra "arith"); (case hzKK => k_extra "arith")); intro t9k h9k tk9k F9k N9k; (try dsimp only)); k_extra "hs")) | fail)
  trivial
example : True := by
  (k_with "hs" => first | (try (refine hideS ?_; intro sSk)) | fail)
  (k_with "c|U2" => first | (first | (k_extra "?eval"; first | k_extra "keval|2") | (k_extra "?execs"; first | k_extra "kexecs|2") | (k_extra "?call"; first | k_extra "ccall|3a" | k_extra "kcall|2") | (k_extra "?getMethod"; first | k_extra "kgetMethod|2") | (k_extra "?getAttr"; first | k_extra "kgetAttr|2") | (k_extra "?callWith"; first | k_extra "kcallWith|2") | (k_extra "?subscriptTail"; first | k_extra "ksubscriptTail|2") | (k_extra "?exec"; first | k_extra "kexec|2") | (k_extra "?newTuple"; first | k_extra "knewTuple|2") | (k_extra "?newList"; first | k_extra "knewList|2") | (k_extra "?binaryOp"; first | k_extra "kbinaryOp|2") | (k_extra "?setItem"; first | k_extra "ksetItem|2") | k_extra "And|2") | fail)
  (k_with "step|U2" => first | (first | k_extra "c|U2" | ((fail_if_success (with_reducible show wpAny _ _ (call (Value.ref _) _) _ _ _)); (fail_if_success (with_reducible show wpAny _ _ (pyIter (Value.ref _)) _ _ _)); (fail_if_success (with_reducible show wpAny _ _ (call (Value.builtin "sorted") _) _ _ _)); (fail_if_success (with_reducible show KswEnd _ _ _ _ _ _ _ _ _ _ _ _)); walk1) | (k_here; k_dflt k_extra "walkin")) | fail)
  (k_with "go|U2" => first | (repeat' k_extra "step|U2") | fail)
  trivial
variable {w : World} {A₀ : Around} {base h₀ : Heap} {outer : List Env} {cn : Str} {cs : Scope} {L fa : Addr} {ccd : Value} {cl : List (Str × Addr)} {m mg mb : Str → Option Value} {mean : ExcName → Option Value} {news : List (Addr × Obj)} {s : Shared} {Q : Value → Shared → Prop} {dp un : Nat} {gd : Option (List Code)}

variable {news₀ : List (Addr × Obj)} {v₀ : Dy} {σ₀ : HS}
theorem merge_c {y : Lay} {v : Dy} {σ : HS} {a b : Nat} {ta tb : Tok}
    (B : Below A₀ base outer h₀) (F : Fr h₀ L s.heap m) (X : (Mine.hd.heap_1 w.params).In h₀) (N : News h₀ L s.heap news) (T : Top Mine.hd.view_1 (looseW Mine.hd.view_1 []) mean mg mb h₀) (hk : cs.kind = .function) (hd : dp + 12 < 1000) (hu : un + 110 < 1000) (H : HRep w news y v σ) (K : Kept y v₀ σ₀ v σ news₀ news) (hp : Par σ.par) (ha : a < σ.par.length) (hb : b < σ.par.length) (hz : σ.par.length ≤ 1000000) (hl : σ.lots.length = σ.par.length) (hq : ∀ i, (σ.lots.getD i []).length ≤ 100000) (hg : σ.big ≤ 800000)
    (ret1 : root σ.par a = root σ.par b → ∀ h' tk', Fr h₀ L h' m → News h₀ L h' news → Q .none { s with heap := h', toks := tk' })
    (ret2 : ∀ k g, root σ.par a ≠ root σ.par b → k = min (root σ.par a) (root σ.par b) → g = max (root σ.par a) (root σ.par b) → ∀ D t u h' tk' news', Fr h₀ L h' m → News h₀ L h' news' → (D, tupObj [.int (k : Nat) t, .int (g : Nat) u]) ∈ news' → HRep w news' y v (unite σ k g) → Kept y v₀ σ₀ v (unite σ k g) news₀ news' → TupStay news news' → Q (.ref D) { s with heap := h', toks := tk' }) :
    wpAny (model prog w) (ktrTop dp un gd cn cs L fa ccd cl outer) (call (.ref 220) [.ref y.uI, .int a ta, .int b tb]) Q (fun _ _ => False) s := by
  have hra := Nat.lt_of_le_of_lt (root_le (ps := σ.par) a) ha
  have hrb := Nat.lt_of_le_of_lt (root_le (ps := σ.par) b) hb
  have q1 := hq (min (root σ.par a) (root σ.par b))
  have q2 := hq (max (root σ.par a) (root σ.par b))
  refine wpAny_call ?_
  k_dflt k_enter
  refine wpAny_noRaise ?_
  k_extra "go|U2"
  · rename Fr h₀ L _ m => kF
    rename News h₀ L _ _ => kN
    exact ret1 (by lia) _ _ kF (fun p hp => kN p (by k_extra "insub"))
  · rename Fr h₀ L _ m => kF
    rename News h₀ L _ _ => kN
    exact ret2 _ _ (by lia) rfl rfl _ _ _ _ _ _ kF kN mem_hd (by k_extra "hrep") (by k_extra "kept") (by k_extra "stay")

end
end Mine

open PySem PySem.W PySem.Calls PyProof.Rows PySem.Spec
namespace Mine
section
set_option maxHeartbeats 20000000
example : True := by
  (k_with "ccall|8" => first | (((k_here; (with_reducible refine (?_ : wpAny _ _ (call (Value.ref 67) _) _ _ _)); refine wpAny_noRaise ?_; k_dflt (refine' isop_c ?hopKK ?BKK ?FKK ?XKK ?NKK ?TKK ?hkKK ?hdKK ?huKK ?_; (case hopKK => assumption); (case BKK => k_asm); (case FKK => k_asm); (case XKK => k_asm); (case NKK => k_asm); (case TKK => k_asm); (case hkKK => first | assumption | exact rfl); (case hdKK => k_extra "room"); (case huKK => k_extra "room")); intro h9k tk9k F9k N9k; (try dsimp only)); k_extra "hs")) | fail)
  (k_with "ksubscriptTail|8" => first | ((k_here; (with_reducible refine (?_ : wpAny _ _ (subscriptTail _ _ (Value.str _ _) (Value.int _ _)) _ _ _)); (refine' KXi.item (n := _) rfl ?aKK ?bKK ?cKK ?_; (case aKK => (first | lia | omega)); (case bKK => (first | lia | omega)); (case cKK => (first | lia | omega))); intro kxiEk)) | fail)
  (k_with "ccall|8" => first | (((k_here; (with_reducible refine (?_ : wpAny _ _ (call (Value.ref 105) _) _ _ _)); refine wpAny_noRaise ?_; k_dflt (refine' require_c ?hopKK ?BKK ?FKK ?XKK ?NKK ?TKK ?hkKK ?hdKK ?huKK ?HKK ?_; (case hopKK => assumption); (case BKK => k_asm); (case FKK => k_asm); (case XKK => k_asm); (case NKK => k_asm); (case TKK => k_asm); (case hkKK => first | assumption | exact rfl); (case hdKK => k_extra "room"); (case huKK => k_extra "room"); (case HKK => k_extra "hrep")); intro h9k tk9k F9k N9k; (try dsimp only)); k_extra "hs")) | fail)
  (k_with "kin" => first | (first | with_reducible assumption | (dsimp only; assumption) | exact KIn.move (by k_extra "stay") (by assumption)) | fail)
  (k_with "kcall|8" => first | (((with_reducible refine (?_ : wpAny _ _ (call (Value.type "tuple") _ _) _ _ _)); (k_here; (with_reducible refine (?_ : wpAny _ _ (call (Value.type _) [Value.ref _]) _ _ _)); k_dflt (refine' call_tuple_same (isTup_of ?NKK ?mKK) ?_; (case NKK => k_asm); (case mKK => k_mem))))) | fail)
  (k_with "kcompareOp|8" => first | (((with_reducible refine (?_ : wpAny _ _ (compareOp CmpOp.In _ _) _ _ _)); (k_here; (with_reducible refine (?_ : wpAny _ _ (compareOp _ (Value.ref _) (Value.ref (Lay.nD _))) _ _ _)); k_dflt (refine' num_in (nd := (_, _)) ?NKK ?HKK ?kKK ?uKK ?_ ?_; (case NKK => k_asm); (case HKK => k_extra "hrep"); (case kKK => k_extra "kin"); (case uKK => k_extra "unit")); all_goals (intro mem9k tk9k; (try dsimp only))))) | fail)
  (k_with "ksubscriptTail|8" => first | ((k_here; (with_reducible refine (?_ : wpAny _ _ (subscriptTail _ _ (Value.ref (Lay.nD _)) (Value.ref _)) _ _ _)); k_dflt (refine' num_item (nd := (_, _)) ?NKK ?HKK ?kKK ?mKK ?uKK ?_; (case NKK => k_asm); (case HKK => k_extra "hrep"); (case kKK => k_extra "kin"); (case mKK => assumption); (case uKK => k_extra "unit")); intro i9k t9k tk9k e9k; (try dsimp only))) | fail)
  (k_with "ksetItem|8" => first | (((k_here; (with_reducible refine (?_ : wpAny _ _ (setItem (Value.ref (Lay.nD _)) (Value.ref _) (Value.int _ _)) _ _ _)); k_dflt (refine' nums_setn (nd := (_, _)) ?FKK ?NKK ?HKK ?KKK ?kKK ?uKK ?zKK ?nKK ?eKK ?_; (case FKK => k_asm); (case NKK => k_asm); (case HKK => k_extra "hrep"); (case KKK => k_extra "kept"); (case kKK => k_extra "kin"); (case uKK => k_extra "unit"); (case zKK => k_extra "arith"); (case nKK => assumption); (case eKK => assumption)); intro h9k nw9k tk9k F9k N9k H9k K9k st9k; (try k_sweep)); k_extra "hs")) | fail)
  (k_with "kcall|8" => first | (((with_reducible refine (?_ : wpAny _ _ (call (Value.builtin "list.append") _ _) _ _ _)); ((k_here; (with_reducible refine (?_ : wpAny _ _ (call (Value.builtin _) [Value.ref (Lay.nL _), Value.ref _]) _ _ _)); k_dflt (refine' push_nodes (nd := (_, _)) ?FKK ?NKK ?HKK ?KKK ?kKK ?zKK ?_; (case FKK => k_asm); (case NKK => k_asm); (case HKK => k_extra "hrep"); (case KKK => k_extra "kept"); (case kKK => k_extra "kin"); (case zKK => k_extra "arith")); intro h9k nw9k F9k N9k H9k K9k st9k; (try k_sweep)); k_extra "hs"))) | fail)
  (k_with "kin" => first | (exact kin_node (by k_mem) (by assumption) (by assumption)) | fail)
  (k_with "k_mem" => first | (first | (with_reducible exact Kept.keep (by assumption) _ (by assumption) (by assumption)) | fail) | fail)
  (k_with "kcall|8" => first | (((with_reducible refine (?_ : wpAny _ _ (call (Value.builtin "list.append") _ _) _ _ _)); ((k_here; (with_reducible refine (?_ : wpAny _ _ (call (Value.builtin _) [Value.ref (Lay.wL _), _]) _ _ _)); k_dflt (refine' push_weights_z ?FKK ?NKK ?HKK ?KKK ?zKK ?qKK ?_; (case FKK => k_asm); (case NKK => k_asm); (case HKK => k_extra "hrep"); (case KKK => k_extra "kept"); (case zKK => k_extra "arith"); (case qKK => (first | lia | omega))); intro h9k nw9k F9k N9k H9k K9k st9k; (try k_sweep)); k_extra "hs"))) | fail)
  (k_with "kcall|8" => first | (((with_reducible refine (?_ : wpAny _ _ (call (Value.builtin "list.append") _ _) _ _ _)); ((k_here; (with_reducible refine (?_ : wpAny _ _ (call (Value.builtin _) [Value.ref (Lay.dL _), _]) _ _ _)); k_dflt (refine' push_depths_z ?FKK ?NKK ?HKK ?KKK ?zKK ?qKK ?_; (case FKK => k_asm); (case NKK => k_asm); (case HKK => k_extra "hrep"); (case KKK => k_extra "kept"); (case zKK => k_extra "arith"); (case qKK => (first | lia | omega))); intro h9k nw9k F9k N9k H9k K9k st9k; (try k_sweep)); k_extra "hs"))) | fail)
  (k_with "kcall|8" => first | (((with_reducible refine (?_ : wpAny _ _ (call (Value.builtin "sum") _ _) _ _ _)); ((k_here; (with_reducible refine (?_ : wpAny _ _ (call (Value.builtin _) [Value.ref _]) _ _ _)); k_dflt (refine' sumN ?hhKK ?FKK ?NKK ?mKK ?iKK ?_; (case hhKK => rfl); (case FKK => k_asm); (case NKK => k_asm); (case mKK => k_mem); (case iKK => assumption)); intro h9k tk9k t9k M9k F9k N9k z9k; (try dsimp only)); k_extra "hs"))) | fail)
  (k_with "kcall|8" => first | (((with_reducible refine (?_ : wpAny _ _ (call (Value.builtin "max") _ _) _ _ _)); ((k_here; (with_reducible refine (?_ : wpAny _ _ (call (Value.builtin _) [Value.ref _]) _ _ _)); k_dflt (refine' maxN ?hhKK ?FKK ?NKK ?mKK ?iKK ?_; (case hhKK => rfl); (case FKK => k_asm); (case NKK => k_asm); (case mKK => k_mem); (case iKK => assumption)); intro h9k tk9k t9k M9k F9k N9k z9k; (try dsimp only)); k_extra "hs"))) | fail)
  (k_with "kbinaryOp|8" => first | (((with_reducible refine (?_ : wpAny _ _ (binaryOp Operator.Add _ _) _ _ _)); ((k_here; (with_reducible refine (?_ : wpAny _ _ (binaryOp _ (Value.ref _) (Value.ref _)) _ _ _)); k_dflt (refine' addL_B ?FKK ?NKK ?mKK ?bKK ?zKK ?_; (case FKK => k_asm); (case NKK => k_asm); (case mKK => k_mem); (case bKK => k_mem); (case zKK => k_extra "len")); intro D'k h'k F'k N'k l1k; (try k_sweep)); k_extra "hs"))) | fail)
  trivial
example : True := by
  (k_with "hs" => first | (try (refine hideS ?_; intro sSk)) | fail)
  (k_with "c|T1" => first | (first | (k_extra "?eval"; first | k_extra "keval|2") | (k_extra "?execs"; first | k_extra "kexecs|2") | (k_extra "?call"; first | k_extra "ccall|8" | k_extra "kcall|8" | k_extra "kcall|2") | (k_extra "?getMethod"; first | k_extra "kgetMethod|2") | (k_extra "?getAttr"; first | k_extra "kgetAttr|2") | (k_extra "?callWith"; first | k_extra "kcallWith|2") | (k_extra "?subscriptTail"; first | k_extra "ksubscriptTail|8" | k_extra "ksubscriptTail|2") | (k_extra "?exec"; first | k_extra "kexec|2") | (k_extra "?newTuple"; first | k_extra "knewTuple|2") | (k_extra "?newList"; first | k_extra "knewList|2") | (k_extra "?binaryOp"; first | k_extra "kbinaryOp|8" | k_extra "kbinaryOp|2") | (k_extra "?setItem"; first | k_extra "ksetItem|8" | k_extra "ksetItem|2") | (k_extra "?compareOp"; first | k_extra "kcompareOp|8") | k_extra "And|2") | fail)
  (k_with "step|T1" => first | (first | k_extra "c|T1" | ((fail_if_success (with_reducible show wpAny _ _ (call (Value.ref _) _) _ _ _)); (fail_if_success (with_reducible show wpAny _ _ (pyIter (Value.ref _)) _ _ _)); (fail_if_success (with_reducible show wpAny _ _ (call (Value.builtin "sorted") _) _ _ _)); (fail_if_success (with_reducible show KswEnd _ _ _ _ _ _ _ _ _ _ _ _)); walk1) | (k_here; k_dflt k_extra "walkin")) | fail)
  (k_with "go|T1" => first | (repeat' k_extra "step|T1") | fail)
  trivial
variable {w : World} {A₀ : Around} {base h₀ : Heap} {outer : List Env} {cn : Str} {cs : Scope} {L fa : Addr} {ccd : Value} {cl : List (Str × Addr)} {m mg mb : Str → Option Value} {mean : ExcName → Option Value} {news : List (Addr × Obj)} {s : Shared} {Q : Value → Shared → Prop} {dp un : Nat} {gd : Option (List Code)}

variable {news₀ : List (Addr × Obj)} {v₀ : Dy} {σ₀ : HS}
theorem cell_of {D : Nat} {nws : List (Addr × Obj)} {o : Obj} {h : PySem.Heap} {news : List (Addr × Obj)} (_l : ∀ p ∈ news, p.1 < D) (_N : News h₀ L h nws) (hm : (D + 1, o) ∈ nws) : (D + 1, o) ∈ nws := hm
theorem take_c {y : Lay} {v : Dy} {σ : HS} {op : Str} {t : Tok} {kd : Addr} {vs : List Value} {kids : List Nat}
    (B : Below A₀ base outer h₀) (F : Fr h₀ L s.heap m) (X : (Mine.hd.heap_1 w.params).In h₀) (N : News h₀ L s.heap news) (T : Top Mine.hd.view_1 (looseW Mine.hd.view_1 []) mean mg mb h₀) (hk : cs.kind = .function) (hd : dp + 12 < 1000) (hu : un + 110 < 1000) (H : HRep w news y v σ) (K : Kept y v₀ σ₀ v σ news₀ news) (hop : OpOk op) (hkd : (kd, tupObj vs) ∈ news) (hvs : IntsAre vs (toZ kids)) (hkl : kids.length ≤ 2) (hkb : ∀ k ∈ kids, k < σ.nodes.length) (hz : σ.nodes.length ≤ 1000) (hn : σ.nums = σ.nodes) (hw : σ.wl = σ.nodes.length) (hdl : σ.dl = σ.nodes.length)
    (ret1 : ∀ i t h' tk' news', σ.nodes[i]? = some (op, kids) → Fr h₀ L h' m → News h₀ L h' news' → HRep w news' y v σ → Kept y v₀ σ₀ v σ news₀ news' → TupStay news news' → Q (.int (i : Nat) t) { s with heap := h', toks := tk' })
    (ret2 : (op, kids) ∉ σ.nodes → ∀ t h' tk' news', Fr h₀ L h' m → News h₀ L h' news' → HRep w news' y v { σ with nodes := σ.nodes ++ [(op, kids)], nums := σ.nums ++ [(op, kids)], wl := σ.wl + 1, dl := σ.dl + 1 } → Kept y v₀ σ₀ v { σ with nodes := σ.nodes ++ [(op, kids)], nums := σ.nums ++ [(op, kids)], wl := σ.wl + 1, dl := σ.dl + 1 } news₀ news' → TupStay news news' → Q (.int (σ.nodes.length : Nat) t) { s with heap := h', toks := tk' }) :
    wpAny (model prog w) (ktrTop dp un gd cn cs L fa ccd cl outer) (call (.ref 98) [.ref y.bI, .str op t, .ref kd]) Q (fun _ _ => False) s := by
  refine byC fun U0 => ?_
  obtain ⟨-, -, -, -, hso⟩ := id hop
  refine U0 ?_
  clear U0
  have hnl : σ.nums.length = σ.nodes.length := by rw [hn]
  have hvl := ints_len hvs
  refine wpAny_call ?_
  k_dflt k_enter
  refine wpAny_noRaise ?_
  k_extra "go|T1"
  · rename Fr h₀ L _ m => kF
    rename News h₀ L _ _ => kN
    rename _[_]? = some (op, kids) => e8
    exact ret1 _ _ _ _ _ (hn ▸ e8) kF kN (by k_extra "hrep") (by k_extra "kept") (by k_extra "stay")
  · rename Fr _ _ _ _ => FZ
    rename News _ _ _ _ => NZ
    k_dflt (refine' for_C ?It ?fix ?_ ?_)
    case It => exact iterF_tup rfl FZ NZ mem_hd
    case fix => intro p hp; rw [List.mem_singleton.mp hp]; exact mem_hd
    · intro i v h9 tk9 I oI hi hv off F9 N9
      refine byC fun U0 => ?_
      obtain ⟨k, tt, eK, rfl⟩ := ints_at hvs hv
      refine U0 ?_
      clear U0
      have hk9 := hkb k (List.mem_of_getElem? eK)
      k_extra "go|T1"
      exact fo_end (by assumption) (by assumption) (fun p hp => mem_tl hp) mem_hd off (fun z hz => if_neg hz)
    · intro u h9 tk9 F9 N9
      have K2 := kept_here (y := y) (v := v) (σ := σ) N9
      rename ∀ p ∈ news, p.1 < _ => lc
      have hnc := not_own_of H (d := _ + 1) (fun p hp => Nat.lt_succ_of_lt (lc p hp))
      rename ∀ p ∈ (_, tupObj [Value.str op t]) :: _, _ => sb0
      have hcell := cell_of lc N9 (mem_tl (sb0 _ (mem_tl mem_hd)))
      k_extra "go|T1"
      refine compPure (fun i y => ∃ (k : Nat) (t : Tok), y = .int (k : Int) t) rfl (by assumption) (by assumption) (.tup (by k_mem)) (by k_extra "len") ?_ ?_
      · intro i v J C oC m₂ h9 tk9 hv hJ hC hx F9 N9
        refine byC fun U0 => ?_
        obtain ⟨k, tt, eK, rfl⟩ := ints_at hvs hv
        refine U0 ?_
        clear U0
        have hk9 := hkb k (List.mem_of_getElem? eK)
        k_extra "go|T1"
        exact PEnd.intro (by assumption) (by assumption) ⟨_, _, rfl⟩
      intro D ys h9 tk9 hl hy F9 N9 hD
      refine byC fun U0 => ?_
      obtain ⟨ks, iks, lks⟩ := ints_ex (fun j y e => (hy j y e))
      refine U0 ?_
      clear U0
      clear hy
      k_extra "go|T1"
      refine compPure (fun i y => ∃ (k : Nat) (t : Tok), y = .int (k : Int) t) rfl (by assumption) (by assumption) (.tup (by k_mem)) (by k_extra "len") ?_ ?_
      · intro i v J C oC m₂ h9 tk9 hv hJ hC hx F9 N9
        refine byC fun U0 => ?_
        obtain ⟨k, tt, eK, rfl⟩ := ints_at hvs hv
        refine U0 ?_
        clear U0
        have hk9 := hkb k (List.mem_of_getElem? eK)
        k_extra "go|T1"
        exact PEnd.intro (by assumption) (by assumption) ⟨_, _, rfl⟩
      intro D2 ys2 h9 tk9 hl hy F9 N9 hD
      refine byC fun U0 => ?_
      obtain ⟨ks2, iks2, lks2⟩ := ints_ex (fun j y e => (hy j y e))
      refine U0 ?_
      clear U0
      clear hy
      k_extra "go|T1"
      k_extra "go|T1"
      rename Fr h₀ L _ m => kF
      rename (op, kids) ∉ σ.nums => mm9
      rename News h₀ L _ _ => kN
      rename Kept y v σ v { σ with nodes := _, nums := _, wl := _, dl := _ } _ _ => kK
      rename HRep w _ y v { σ with nodes := _, nums := _, wl := _, dl := _ } => kH
      have eN : ((σ.nodes ++ [(op, kids)]).length : Int) - 1 = (σ.nodes.length : Nat) := by simp
      try dsimp only
      rw [eN]
      exact ret2 (hn ▸ mm9) _ _ _ _ kF kN kH ((K.more (by intro p9 hp9; k_extra "insub")).trans kK) (TupStay.trans (fun a9 b9 c9 => by k_extra "insub") (kK.tups (H.sub (by intro p9 hp9; k_extra "insub")) NZ))

end
end Mine

open PySem PySem.W PySem.Calls PyProof.Rows PySem.Spec
namespace Mine
section
set_option maxHeartbeats 20000000
example : True := by
  (k_with "tube" => first | (first | assumption | exact Tube.sub (by assumption) (by intro p9k hp9k; k_extra "insub") | fail) | fail)
  (k_with "csubscriptTail|T" => first | ((k_here; (with_reducible refine (?_ : wpAny _ _ (subscriptTail _ _ (Value.ref _) (Value.str (PySem.Str.ofString "at") _)) _ _ _)); k_dflt (refine' tube_at ?NKK ?TKK ?_; (case NKK => k_asm); (case TKK => k_extra "tube")); intro t9k tk9k)) | fail)
  (k_with "csubscriptTail|T" => first | ((k_here; (with_reducible refine (?_ : wpAny _ _ (subscriptTail _ _ (Value.ref _) (Value.str (PySem.Str.ofString "cells") _)) _ _ _)); k_dflt (refine' tube_cells ?NKK ?TKK ?_; (case NKK => k_asm); (case TKK => k_extra "tube")); intro tk9k)) | fail)
  (k_with "csetItem|T" => first | (((k_here; (with_reducible refine (?_ : wpAny _ _ (setItem (Value.ref _) (Value.str (PySem.Str.ofString "at") _) (Value.int _ _)) _ _ _)); k_dflt (refine' tube_set (k := _) ?FKK ?NKK ?TKK ?_; (case FKK => k_asm); (case NKK => k_asm); (case TKK => k_extra "tube")); intro h9k nw9k tk9k F9k N9k T9k k9k a9k st9k; (try k_sweep)); k_extra "hs")) | fail)
  (k_with "ccall|T" => first | ((k_here; (with_reducible refine (?_ : wpAny _ _ (call (Value.builtin "len") [Value.ref _]) _ _ _)); k_dflt (refine' tube_len ?NKK ?TKK ?zKK ?_; (case NKK => k_asm); (case TKK => k_extra "tube"); (case zKK => assumption)); intro t9k tk9k)) | fail)
  (k_with "csubscriptTail|T" => first | ((k_here; (with_reducible refine (?_ : wpAny _ _ (subscriptTail _ _ (Value.ref _) (Value.int _ _)) _ _ _)); k_dflt (refine' tube_cell ?NKK ?TKK ?iKK ?zKK ?_; (case NKK => k_asm); (case TKK => k_extra "tube"); (case iKK => (first | lia | omega)); (case zKK => (first | lia | omega))); intro c9k t9k)) | fail)
  trivial
example : True := by
  (k_with "hs" => first | (skip) | fail)
  (k_with "c|W1" => first | (first | (k_extra "?eval"; first | k_extra "keval|2") | (k_extra "?execs"; first | k_extra "kexecs|2") | (k_extra "?call"; first | k_extra "ccall|T" | k_extra "kcall|2") | (k_extra "?getMethod"; first | k_extra "kgetMethod|2") | (k_extra "?getAttr"; first | k_extra "kgetAttr|2") | (k_extra "?callWith"; first | k_extra "kcallWith|2") | (k_extra "?subscriptTail"; first | k_extra "csubscriptTail|T" | k_extra "ksubscriptTail|2") | (k_extra "?exec"; first | k_extra "kexec|2") | (k_extra "?newTuple"; first | k_extra "knewTuple|2") | (k_extra "?newList"; first | k_extra "knewList|2") | (k_extra "?binaryOp"; first | k_extra "kbinaryOp|2") | (k_extra "?setItem"; first | k_extra "csetItem|T" | k_extra "ksetItem|2") | k_extra "And|2") | fail)
  (k_with "step|W1" => first | (first | k_extra "c|W1" | ((fail_if_success (with_reducible show wpAny _ _ (call (Value.ref _) _) _ _ _)); (fail_if_success (with_reducible show wpAny _ _ (pyIter (Value.ref _)) _ _ _)); (fail_if_success (with_reducible show wpAny _ _ (call (Value.builtin "sorted") _) _ _ _)); (fail_if_success (with_reducible show KswEnd _ _ _ _ _ _ _ _ _ _ _ _)); walk1) | (k_here; k_dflt k_extra "walkin")) | fail)
  (k_with "go|W1" => first | (repeat' k_extra "step|W1") | fail)
  trivial
theorem fmod_to (x : Int) {many : Nat} (hm : 0 < many) : x.fmod (many : Int) = ((x.fmod (many : Int)).toNat : Nat) ∧ (x.fmod (many : Int)).toNat < many := by
  have h1 := Int.fmod_nonneg_of_pos x (show (0 : Int) < many by omega)
  have h2 := Int.fmod_lt_of_pos x (show (0 : Int) < many by omega)
  exact ⟨by omega, by omega⟩
theorem fmod_nat (x : Int) {many : Nat} (hm : 0 < many) : ∃ r : Nat, x.fmod (many : Int) = (r : Int) ∧ r < many := by
  have h1 := Int.fmod_nonneg_of_pos x (show (0 : Int) < many by omega)
  have h2 := Int.fmod_lt_of_pos x (show (0 : Int) < many by omega)
  exact ⟨(x.fmod many).toNat, by omega, by omega⟩
variable {w : World} {A₀ : Around} {base h₀ : Heap} {outer : List Env} {cn : Str} {cs : Scope} {L fa : Addr} {ccd : Value} {cl : List (Str × Addr)} {m mg mb : Str → Option Value} {mean : ExcName → Option Value} {news : List (Addr × Obj)} {s : Shared} {Q : Value → Shared → Prop} {dp un : Nat} {gd : Option (List Code)}

theorem tap_c {tb tcl : Addr} {at' many : Nat} {tcs : List Nat} {tm : Tok}
    (B : Below A₀ base outer h₀) (F : Fr h₀ L s.heap m) (X : (Mine.hd.heap_1 w.params).In h₀) (N : News h₀ L s.heap news) (T : Top Mine.hd.view_1 (looseW Mine.hd.view_1 []) mean mg mb h₀) (hk : cs.kind = .function) (hd : dp + 6 < 1000) (hu : un + 60 < 1000) (T0 : Tube w news tb tcl at' tcs) (hz : tcs.length ≤ 1000) (ha : at' ≤ 500) (hm : 0 < many)
    (ret : ∀ r : Nat, r < many → ∀ t h' tk' news', Fr h₀ L h' m → News h₀ L h' news' → Tube w news' tb tcl (at' + 1) tcs → (∀ p ∈ news, p.1 ≠ tb → p ∈ news') → (∀ p ∈ news, ∃ o, (p.1, o) ∈ news') → TupStay news news' → Q (.int (r : Nat) t) { s with heap := h', toks := tk' }) :
    wpAny (model prog w) (ktrTop dp un gd cn cs L fa ccd cl outer) (call (.ref 444) [.ref tb, .int many tm]) Q (fun _ _ => False) s := by
  refine wpAny_call ?_
  k_dflt k_enter
  refine wpAny_noRaise ?_
  k_extra "go|W1"
  all_goals rename Fr h₀ L _ m => kF
  all_goals rename News h₀ L _ _ => kN
  all_goals rename Tube w _ tb tcl (at' + 1) tcs => kT
  all_goals rename ∀ p ∈ news, p.1 ≠ tb → _ => k1
  all_goals rename ∀ p ∈ news, ∃ o, _ => k2
  all_goals rename TupStay _ _ => k3
  all_goals
    rw [(fmod_to _ hm).1]
    exact ret _ (fmod_to _ hm).2 _ _ _ _ kF kN kT k1 k2 k3

end
end Mine

open PySem PySem.W PySem.Calls PyProof.Rows PySem.Spec
namespace Mine
section
set_option maxHeartbeats 20000000
example : True := by
  (k_with "ccall|3" => first | (((k_here; (with_reducible refine (?_ : wpAny _ _ (call (Value.ref 213) _) _ _ _)); refine wpAny_noRaise ?_; k_dflt (refine' find_c ?BKK ?FKK ?XKK ?NKK ?TKK ?hkKK ?hdKK ?huKK ?HKK ?hpKK ?haKK ?hzKK ?_; (case BKK => k_asm); (case FKK => k_asm); (case XKK => k_asm); (case NKK => k_asm); (case TKK => k_asm); (case hkKK => first | assumption | exact rfl); (case hdKK => k_extra "room"); (case huKK => k_extra "room"); (case HKK => k_extra "hrep"); (case hpKK => assumption); (case haKK => k_extra "arith"); (case hzKK => k_extra "arith")); intro t9k h9k tk9k F9k N9k; (try dsimp only)); k_extra "hs")) | fail)
  (k_with "ccall|3" => first | (((k_here; (with_reducible refine (?_ : wpAny _ _ (call (Value.ref 310) _) _ _ _)); refine wpAny_noRaise ?_; k_dflt (refine' hfind_c ?BKK ?FKK ?XKK ?NKK ?TKK ?hkKK ?hdKK ?huKK ?HKK ?hpKK ?haKK ?hzKK ?_; (case BKK => k_asm); (case FKK => k_asm); (case XKK => k_asm); (case NKK => k_asm); (case TKK => k_asm); (case hkKK => first | assumption | exact rfl); (case hdKK => k_extra "room"); (case huKK => k_extra "room"); (case HKK => k_extra "hrep"); (case hpKK => assumption); (case haKK => k_extra "arith"); (case hzKK => k_extra "arith")); intro t9k h9k tk9k F9k N9k; (try dsimp only)); k_extra "hs")) | fail)
  trivial
example : True := by
  (k_with "hs" => first | (try (refine hideS ?_; intro sSk)) | fail)
  (k_with "c|F2" => first | (first | (k_extra "?eval"; first | k_extra "keval|2") | (k_extra "?execs"; first | k_extra "kexecs|2") | (k_extra "?call"; first | k_extra "ccall|3" | k_extra "kcall|2") | (k_extra "?getMethod"; first | k_extra "kgetMethod|2") | (k_extra "?getAttr"; first | k_extra "kgetAttr|2") | (k_extra "?callWith"; first | k_extra "kcallWith|2") | (k_extra "?subscriptTail"; first | k_extra "ksubscriptTail|2") | (k_extra "?exec"; first | k_extra "kexec|2") | (k_extra "?newTuple"; first | k_extra "knewTuple|2") | (k_extra "?newList"; first | k_extra "knewList|2") | (k_extra "?binaryOp"; first | k_extra "kbinaryOp|2") | (k_extra "?setItem"; first | k_extra "ksetItem|2") | k_extra "And|2") | fail)
  (k_with "step|F2" => first | (first | k_extra "c|F2" | ((fail_if_success (with_reducible show wpAny _ _ (call (Value.ref _) _) _ _ _)); (fail_if_success (with_reducible show wpAny _ _ (pyIter (Value.ref _)) _ _ _)); (fail_if_success (with_reducible show wpAny _ _ (call (Value.builtin "sorted") _) _ _ _)); (fail_if_success (with_reducible show KswEnd _ _ _ _ _ _ _ _ _ _ _ _)); walk1) | (k_here; k_dflt k_extra "walkin")) | fail)
  (k_with "go|F2" => first | (repeat' k_extra "step|F2") | fail)
  trivial
variable {w : World} {A₀ : Around} {base h₀ : Heap} {outer : List Env} {cn : Str} {cs : Scope} {L fa : Addr} {ccd : Value} {cl : List (Str × Addr)} {m mg mb : Str → Option Value} {mean : ExcName → Option Value} {news : List (Addr × Obj)} {s : Shared} {Q : Value → Shared → Prop} {dp un : Nat} {gd : Option (List Code)}

theorem hfind_c {y : Lay} {v : Dy} {σ : HS} {a : Nat} {ta : Tok}
    (B : Below A₀ base outer h₀) (F : Fr h₀ L s.heap m) (X : (Mine.hd.heap_1 w.params).In h₀) (N : News h₀ L s.heap news) (T : Top Mine.hd.view_1 (looseW Mine.hd.view_1 []) mean mg mb h₀) (hk : cs.kind = .function) (hd : dp + 12 < 1000) (hu : un + 110 < 1000) (H : HRep w news y v σ) (hp : Par σ.par) (ha : a < σ.par.length) (hz : σ.par.length ≤ 1000000)
    (ret : ∀ t h' tk', Fr h₀ L h' m → News h₀ L h' news → Q (.int (root σ.par a : Nat) t) { s with heap := h', toks := tk' }) :
    wpAny (model prog w) (ktrTop dp un gd cn cs L fa ccd cl outer) (call (.ref 310) [.ref y.hI, .int a ta]) Q (fun _ _ => False) s := by
  refine wpAny_call ?_
  k_dflt k_enter
  refine wpAny_noRaise ?_
  k_extra "go|F2"
  exact ret _ _ _ (by assumption) (by assumption)

end
end Mine

open PySem PySem.W PySem.Calls PyProof.Rows PySem.Spec
namespace Mine
section
set_option maxHeartbeats 20000000
example : True := by
  (k_with "hs" => first | (try (refine hideS ?_; intro sSk)) | fail)
  (k_with "c|F3" => first | (first | (k_extra "?eval"; first | k_extra "keval|2") | (k_extra "?execs"; first | k_extra "kexecs|2") | (k_extra "?call"; first | k_extra "ccall|3" | k_extra "kcall|2") | (k_extra "?getMethod"; first | k_extra "kgetMethod|2") | (k_extra "?getAttr"; first | k_extra "kgetAttr|2") | (k_extra "?callWith"; first | k_extra "kcallWith|2") | (k_extra "?subscriptTail"; first | k_extra "ksubscriptTail|2") | (k_extra "?exec"; first | k_extra "kexec|2") | (k_extra "?newTuple"; first | k_extra "knewTuple|2") | (k_extra "?newList"; first | k_extra "knewList|2") | (k_extra "?binaryOp"; first | k_extra "kbinaryOp|2") | (k_extra "?setItem"; first | k_extra "ksetItem|2") | k_extra "And|2") | fail)
  (k_with "step|F3" => first | (first | k_extra "c|F3" | ((fail_if_success (with_reducible show wpAny _ _ (call (Value.ref _) _) _ _ _)); (fail_if_success (with_reducible show wpAny _ _ (pyIter (Value.ref _)) _ _ _)); (fail_if_success (with_reducible show wpAny _ _ (call (Value.builtin "sorted") _) _ _ _)); (fail_if_success (with_reducible show KswEnd _ _ _ _ _ _ _ _ _ _ _ _)); walk1) | (k_here; k_dflt k_extra "walkin")) | fail)
  (k_with "go|F3" => first | (repeat' k_extra "step|F3") | fail)
  trivial
theorem ne_lt_of {l : List (Addr × Obj)} {D : Addr} {p : Addr × Obj} (h : ∀ p ∈ l, p.1 < D) (m : p ∈ l) : p.1 ≠ D := Nat.ne_of_lt (h p m)
section
variable {w : World} {A : Around} {E : Value → Shared → Prop} {s : Shared} {h₀ h : Heap} {L : Addr} {m : Str → Option Value} {news : List (Addr × Obj)} {a b : Addr} {x : Value} {vs ws : List Value}
theorem addT_F {Q : Value → Shared → Prop} (F : Fr h₀ L s.heap m) (N : News h₀ L s.heap news) (hm : (a, tupObj (x :: vs)) ∈ news) (hb : (b, tupObj ws) ∈ news) (hz : vs.length + ws.length ≤ 16000)
    (h : ∀ D h' news', Fr h₀ L h' m → News h₀ L h' news' → (∀ p ∈ news, p ∈ news') → (D, tupObj (x :: vs ++ ws)) ∈ news' → ((∀ p ∈ news, p.1 < D) ∨ D = a) → Q (.ref D) { s with heap := h' }) : wpAny (model prog w) A (binaryOp .Add (.ref a) (.ref b)) Q E s := by
  by_cases hw : ws = []
  · subst hw
    exact kde_addT1 F N (isTup_of N hm) (isTup_of N hb) (by simp) (by simp) (by simp; lia) (h a _ news F N (fun _ h => h) (by simpa using hm) (.inr rfl))
  · exact kde_addT F N (isTup_of N hm) (isTup_of N hb) (by simp) (by simpa using hw) (by simp; lia) rfl fun D h' F' N' l => h D h' _ F' N' (fun _ h => List.mem_cons_of_mem _ h) (by simp) (.inl l)
end
example : True := by
  (k_with "c|F3" => first | ((with_reducible refine (?_ : wpAny _ _ (binaryOp Operator.Add _ _) _ _ _)); (k_here; (with_reducible refine (?_ : wpAny _ _ (binaryOp _ (Value.ref _) (Value.ref _)) _ _ _)); k_dflt (refine' addT_F ?FKK ?NKK ?mKK ?bKK ?zKK ?_; (case FKK => k_asm); (case NKK => k_asm); (case mKK => k_mem); (case bKK => k_mem); (case zKK => k_extra "len")); intro D'k h'k nw'k F'k N'k sb'k dm'k fr'k; (try simp only [List.cons_append, List.nil_append] at dm'k); (try k_sweep))) | fail)
  trivial

variable {w : World} {A₀ : Around} {base h₀ : Heap} {outer : List Env} {cn : Str} {cs : Scope} {L fa : Addr} {ccd : Value} {cl : List (Str × Addr)} {m mg mb : Str → Option Value} {mean : ExcName → Option Value} {news : List (Addr × Obj)} {s : Shared} {Q : Value → Shared → Prop} {dp un : Nat} {gd : Option (List Code)}

theorem node_c {y : Lay} {v : Dy} {σ : HS} {a : Nat} {ta : Tok} {op : Str} {kids : List Nat}
    (B : Below A₀ base outer h₀) (F : Fr h₀ L s.heap m) (X : (Mine.hd.heap_1 w.params).In h₀) (N : News h₀ L s.heap news) (T : Top Mine.hd.view_1 (looseW Mine.hd.view_1 []) mean mg mb h₀) (hk : cs.kind = .function) (hd : dp + 16 < 1000) (hu : un + 130 < 1000) (H : HRep w news y v σ) (hp : Par σ.par) (hz : σ.par.length ≤ 1000000) (ha : a < σ.par.length) (hn : σ.nodes[a]? = some (op, kids)) (hkd : ∀ k ∈ kids, k < σ.par.length) (hkz : kids.length ≤ 1000)
    (ret : ∀ D h' tk' t rs news', Fr h₀ L h' m → News h₀ L h' news' → (∀ p ∈ news, p ∈ news') → (∀ p ∈ news, p.1 ≠ D) → (D, tupObj (.str op t :: rs)) ∈ news' → IntsAre rs (toZ (kids.map (root σ.par))) → PyData.strOk op = true → Q (.ref D) { s with heap := h', toks := tk' }) :
    wpAny (model prog w) (ktrTop dp un gd cn cs L fa ccd cl outer) (call (.ref 286) [.ref y.hI, .int a ta]) Q (fun _ _ => False) s := by
  refine wpAny_call ?_
  k_dflt k_enter
  refine wpAny_noRaise ?_
  k_extra "go|F3"
  rename IntsAre _ (toZ kids) => i7
  rename PyData.strOk op = true => ok7
  refine compPure (fun i y => ∃ (k : Nat) (t : Tok), (kids.map (root σ.par))[i]? = some k ∧ y = .int (k : Int) t) rfl (by assumption) (by assumption) (.tup (by k_mem)) (by k_extra "len") ?_ ?_
  · intro i v J C oC m₂ h9 tk9 hv hJ hC hx F9 N9
    refine byC fun U0 => ?_
    obtain ⟨k, t, eK, rfl⟩ := ints_at i7 hv
    refine U0 ?_
    clear U0
    have hk9 := hkd k (List.mem_of_getElem? eK)
    k_extra "go|F3"
    exact PEnd.intro (by assumption) (by assumption) ⟨root σ.par k, _, by rw [List.getElem?_map, eK]; rfl, rfl⟩
  · intro D ys h9 tk9 hl hy F9 N9 hD
    have l7 := ints_len i7
    have iy : IntsAre ys (toZ (kids.map (root σ.par))) := ints_of_at (by rw [hl, l7, List.length_map]) hy
    have ly : ys.length ≤ 1000 := by lia
    k_extra "go|F3"
    rename (_, tupObj (Value.str op _ :: ys)) ∈ _ => dm
    rename (∀ p ∈ (_ : List (Addr × Obj)), Prod.fst p < _) ∨ _ => fr
    refine ret _ _ _ _ ys _ (by assumption) (by assumption) (by intro p hp; k_extra "insub") (fun p hp => ?_) dm iy ok7
    rcases fr with q | e
    · exact ne_lt_of q (by k_extra "insub")
    · rw [e]
      refine' ne_lt_of ?h ?m
      case h => assumption
      case m => k_extra "insub"

end
end Mine

open PySem PySem.W PySem.Calls PyProof.Rows PySem.Spec
namespace Mine
section
set_option maxHeartbeats 20000000
example : True := by
  (k_with "ccall|4" => first | (((k_here; (with_reducible refine (?_ : wpAny _ _ (call (Value.ref 220) _) _ _ _)); refine wpAny_noRaise ?_; k_dflt (refine' merge_c ?BKK ?FKK ?XKK ?NKK ?TKK ?hkKK ?hdKK ?huKK ?HKK ?KKK ?hpKK ?haKK ?hbKK ?hzKK ?hlKK ?hqKK ?hgKK ?_ ?_; (case BKK => k_asm); (case FKK => k_asm); (case XKK => k_asm); (case NKK => k_asm); (case TKK => k_asm); (case hkKK => first | assumption | exact rfl); (case hdKK => k_extra "room"); (case huKK => k_extra "room"); (case HKK => k_extra "hrep"); (case KKK => k_extra "kept"); (case hpKK => assumption); (case haKK => k_extra "arith"); (case hbKK => k_extra "arith"); (case hzKK => k_extra "arith"); (case hlKK => k_extra "arith"); (case hqKK => assumption); (case hgKK => k_extra "arith")); all_goals (first | (intro (e9k : _ = _) h9k tk9k F9k N9k; (try dsimp only)) | (intro k9k g9k ne9k ek9k eg9k D9k t9k u9k h9k tk9k nw9k F9k N9k dm9k H9k K9k st9k; subst ek9k eg9k; (try dsimp only); (try k_sweep)))); k_extra "hs")) | fail)
  (k_with "arith" => first | ((dsimp only [unite, mkU]; first | assumption | (first | lia | omega))) | fail)
  trivial
example : True := by
  (k_with "hs" => first | (try (refine hideS ?_; intro sSk)) | fail)
  (k_with "c|J1" => first | (first | (k_extra "?eval"; first | k_extra "keval|2") | (k_extra "?execs"; first | k_extra "kexecs|2") | (k_extra "?call"; first | k_extra "ccall|4" | k_extra "ccall|3" | k_extra "kcall|2") | (k_extra "?getMethod"; first | k_extra "kgetMethod|2") | (k_extra "?getAttr"; first | k_extra "kgetAttr|2") | (k_extra "?callWith"; first | k_extra "kcallWith|2") | (k_extra "?subscriptTail"; first | k_extra "ksubscriptTail|2") | (k_extra "?exec"; first | k_extra "kexec|2") | (k_extra "?newTuple"; first | k_extra "knewTuple|2") | (k_extra "?newList"; first | k_extra "knewList|2") | (k_extra "?binaryOp"; first | k_extra "kbinaryOp|2") | (k_extra "?setItem"; first | k_extra "ksetItem|2") | k_extra "And|2") | fail)
  (k_with "step|J1" => first | (first | k_extra "c|J1" | ((fail_if_success (with_reducible show wpAny _ _ (call (Value.ref _) _) _ _ _)); (fail_if_success (with_reducible show wpAny _ _ (pyIter (Value.ref _)) _ _ _)); (fail_if_success (with_reducible show wpAny _ _ (call (Value.builtin "sorted") _) _ _ _)); (fail_if_success (with_reducible show KswEnd _ _ _ _ _ _ _ _ _ _ _ _)); walk1) | (k_here; k_dflt k_extra "walkin")) | fail)
  (k_with "go|J1" => first | (repeat' k_extra "step|J1") | fail)
  trivial
variable {w : World} {A₀ : Around} {base h₀ : Heap} {outer : List Env} {cn : Str} {cs : Scope} {L fa : Addr} {ccd : Value} {cl : List (Str × Addr)} {m mg mb : Str → Option Value} {mean : ExcName → Option Value} {news : List (Addr × Obj)} {s : Shared} {Q : Value → Shared → Prop} {dp un : Nat} {gd : Option (List Code)}

variable {news₀ : List (Addr × Obj)} {v₀ : Dy} {σ₀ : HS}
example : True := by
  (k_with "keyin" => first | (first | with_reducible assumption | (dsimp only [unite]; assumption) | (dsimp only [unite]; rename (_ ≠ _ → _ ∈ List.filter _ _) => hf2k; exact hf2k (by assumption))) | fail)
  trivial

theorem join_c {y : Lay} {v : Dy} {σ : HS} {a b : Nat} {ta tb : Tok} {r : Value}
    (B : Below A₀ base outer h₀) (F : Fr h₀ L s.heap m) (X : (Mine.hd.heap_1 w.params).In h₀) (N : News h₀ L s.heap news) (T : Top Mine.hd.view_1 (looseW Mine.hd.view_1 []) mean mg mb h₀) (hk : cs.kind = .function) (hd : dp + 14 < 1000) (hu : un + 130 < 1000) (H : HRep w news y v σ) (K : Kept y v₀ σ₀ v σ news₀ news) (hp : Par σ.par) (ha : a < σ.par.length) (hb : b < σ.par.length) (S : Small σ) (hka : root σ.par a ∈ σ.keys) (hkb : root σ.par b ∈ σ.keys)
    (ret1 : root σ.par a = root σ.par b → ∀ h' tk' news', Fr h₀ L h' m → News h₀ L h' news' → HRep w news' y v (nojoin σ) → Kept y v₀ σ₀ v (nojoin σ) news₀ news' → TupStay news news' → Q (.bool false) { s with heap := h', toks := tk' })
    (ret2 : ∀ k g, root σ.par a ≠ root σ.par b → k = min (root σ.par a) (root σ.par b) → g = max (root σ.par a) (root σ.par b) → ∀ h' tk' v' news', Fr h₀ L h' m → News h₀ L h' news' → HRep w news' y v' (joined σ k g) → Kept y v₀ σ₀ v' (joined σ k g) news₀ news' → TupStay news news' → Q (.bool true) { s with heap := h', toks := tk' }) :
    wpAny (model prog w) (ktrTop dp un gd cn cs L fa ccd cl outer) (call (.ref 331) [.ref y.hI, .int a ta, .int b tb, r]) Q (fun _ _ => False) s := by
  refine byC fun U0 => ?_
  obtain ⟨z1, z2, z3, z4, z5, z6, z7, z8, z9⟩ := S
  refine U0 ?_
  clear U0
  have q1 := z7 (min (root σ.par a) (root σ.par b))
  have q2 := z7 (max (root σ.par a) (root σ.par b))
  have hk1 : min (root σ.par a) (root σ.par b) ∈ σ.keys := by
    rcases Nat.le_total (root σ.par a) (root σ.par b) with q | q
    · rw [Nat.min_eq_left q]; exact hka
    · rw [Nat.min_eq_right q]; exact hkb
  have hg1 : max (root σ.par a) (root σ.par b) ∈ σ.keys := by
    rcases Nat.le_total (root σ.par a) (root σ.par b) with q | q
    · rw [Nat.max_eq_right q]; exact hkb
    · rw [Nat.max_eq_left q]; exact hka
  have hf1 : root σ.par a ≠ root σ.par b → min (root σ.par a) (root σ.par b) ∈ σ.keys.filter fun c => decide (c ≠ max (root σ.par a) (root σ.par b)) := fun ne => by
    rw [List.mem_filter]; exact ⟨hk1, by rw [decide_eq_true_eq]; lia⟩
  have hf2 : (σ.keys.filter fun c => decide (c ≠ max (root σ.par a) (root σ.par b))).length ≤ 1000 := Nat.le_trans (List.length_filter_le _ _) z5
  refine wpAny_call ?_
  k_dflt k_enter
  refine wpAny_noRaise ?_
  k_extra "go|J1"
  · rename Fr h₀ L _ m => kF
    rename News h₀ L _ _ => kN
    exact ret1 (by assumption) _ _ _ kF kN (by assumption) (by assumption) (by k_extra "stay")
  · rename Fr h₀ L _ m => kF
    rename News h₀ L _ _ => kN
    exact ret2 _ _ (by assumption) rfl rfl _ _ _ _ kF kN (by assumption) (by assumption) (by k_extra "stay")

end
end Mine

open PySem PySem.W PySem.Calls PyProof.Rows PySem.Spec
namespace Mine
section
set_option maxHeartbeats 20000000
example : True := by
  (k_with "rootin" => first | (first | with_reducible assumption | (rename (∀ i, i < _ → root _ i ∈ _) => hkr2k; exact hkr2k _ (by k_extra "arith"))) | fail)
  (k_with "ccall|5" => first | (((k_here; (with_reducible refine (?_ : wpAny _ _ (call (Value.ref 331) _) _ _ _)); refine wpAny_noRaise ?_; k_dflt (refine' join_c ?BKK ?FKK ?XKK ?NKK ?TKK ?hkKK ?hdKK ?huKK ?HKK ?KKK ?hpKK ?haKK ?hbKK ?SKK ?kaKK ?kbKK ?_ ?_; (case BKK => k_asm); (case FKK => k_asm); (case XKK => k_asm); (case NKK => k_asm); (case TKK => k_asm); (case hkKK => first | assumption | exact rfl); (case hdKK => k_extra "room"); (case huKK => k_extra "room"); (case HKK => k_extra "hrep"); (case KKK => k_extra "kept"); (case hpKK => assumption); (case haKK => k_extra "arith"); (case hbKK => k_extra "arith"); (case SKK => assumption); (case kaKK => k_extra "rootin"); (case kbKK => k_extra "rootin")); all_goals (first | (intro (e9k : _ = _) h9k tk9k nw9k F9k N9k H9k K9k st9k; (try dsimp only)) | (intro k9k g9k ne9k ek9k eg9k h9k tk9k v9k nw9k F9k N9k H9k K9k st9k; subst ek9k eg9k; (try dsimp only); (try k_sweep)))); k_extra "hs")) | fail)
  (k_with "ccall|5" => first | (((k_here; (with_reducible refine (?_ : wpAny _ _ (call (Value.ref 286) _) _ _ _)); refine wpAny_noRaise ?_; k_dflt (refine' node_c ?BKK ?FKK ?XKK ?NKK ?TKK ?hkKK ?hdKK ?huKK ?HKK ?hpKK ?hzKK ?haKK ?hnKK ?hkdKK ?hkzKK ?_; (case BKK => k_asm); (case FKK => k_asm); (case XKK => k_asm); (case NKK => k_asm); (case TKK => k_asm); (case hkKK => first | assumption | exact rfl); (case hdKK => k_extra "room"); (case huKK => k_extra "room"); (case HKK => k_extra "hrep"); (case hpKK => assumption); (case hzKK => k_extra "arith"); (case haKK => k_extra "arith"); (case hnKK => assumption); (case hkdKK => assumption); (case hkzKK => k_extra "arith")); intro D9k h9k tk9k t9k rs9k nw9k F9k N9k sb9k fr9k dm9k i9k ok9k; have kin9k := (KIn.tuple (n := 6) dm9k (.cons (.str _ _ ok9k) (kinAll_of_ints i9k))); (try dsimp only); (try k_sweep)); k_extra "hs")) | fail)
  (k_with "kcall|5" => first | (((with_reducible refine (?_ : wpAny _ _ (call (Value.builtin "dict.setdefault") _ _) _ _ _)); (k_here; (with_reducible refine (?_ : wpAny _ _ (call (Value.builtin _) [Value.ref (Lay.kD _), Value.ref _, Value.int _ _]) _ _ _)); k_dflt (refine' known_set (nd := (_, _)) ?FKK ?NKK ?HKK ?KKK ?kKK ?uKK ?zKK ?_ ?_; (case FKK => k_asm); (case NKK => k_asm); (case HKK => k_extra "hrep"); (case KKK => k_extra "kept"); (case kKK => assumption); (case uKK => k_extra "unit"); (case zKK => k_extra "arith")); all_goals (first | (intro (e9k : _ = none) h9k nw9k tk9k F9k N9k H9k K9k st9k; (try dsimp only); (try k_sweep)) | (intro k9k t9k tk9k e9k; (try dsimp only)))))) | fail)
  trivial
example : True := by
  (k_with "hs" => first | (skip) | fail)
  (k_with "c|L1" => first | (first | (k_extra "?eval"; first | k_extra "keval|2") | (k_extra "?execs"; first | k_extra "kexecs|2") | (k_extra "?call"; first | k_extra "ccall|5" | k_extra "ccall|3" | k_extra "kcall|5" | k_extra "kcall|2") | (k_extra "?getMethod"; first | k_extra "kgetMethod|2") | (k_extra "?getAttr"; first | k_extra "kgetAttr|2") | (k_extra "?callWith"; first | k_extra "kcallWith|2") | (k_extra "?subscriptTail"; first | k_extra "ksubscriptTail|2") | (k_extra "?exec"; first | k_extra "kexec|2") | (k_extra "?newTuple"; first | k_extra "knewTuple|2") | (k_extra "?newList"; first | k_extra "knewList|2") | (k_extra "?binaryOp"; first | k_extra "kbinaryOp|2") | (k_extra "?setItem"; first | k_extra "ksetItem|2") | k_extra "And|2") | fail)
  (k_with "step|L1" => first | (first | k_extra "c|L1" | ((fail_if_success (with_reducible show wpAny _ _ (call (Value.ref _) _) _ _ _)); (fail_if_success (with_reducible show wpAny _ _ (pyIter (Value.ref _)) _ _ _)); (fail_if_success (with_reducible show wpAny _ _ (call (Value.builtin "sorted") _) _ _ _)); (fail_if_success (with_reducible show KswEnd _ _ _ _ _ _ _ _ _ _ _ _)); walk1) | (k_here; k_dflt k_extra "walkin")) | fail)
  (k_with "go|L1" => first | (repeat' k_extra "step|L1") | fail)
  trivial
variable {w : World} {A₀ : Around} {base h₀ : Heap} {outer : List Env} {cn : Str} {cs : Scope} {L fa : Addr} {ccd : Value} {cl : List (Str × Addr)} {m mg mb : Str → Option Value} {mean : ExcName → Option Value} {news : List (Addr × Obj)} {s : Shared} {Q : Value → Shared → Prop} {dp un : Nat} {gd : Option (List Code)}

variable {news₀ : List (Addr × Obj)} {v₀ : Dy} {σ₀ : HS}
example : True := by
  (k_with "arith" => first | ((rename (∀ k, kget _ _ = some k → k < _) => hkl2k; exact hkl2k _ (by assumption))) | fail)
  trivial

theorem look_c {y : Lay} {v : Dy} {σ : HS} {n : Nat} {tn : Tok} {op : Str} {kids : List Nat}
    (B : Below A₀ base outer h₀) (F : Fr h₀ L s.heap m) (X : (Mine.hd.heap_1 w.params).In h₀) (N : News h₀ L s.heap news) (T : Top Mine.hd.view_1 (looseW Mine.hd.view_1 []) mean mg mb h₀) (hk : cs.kind = .function) (hd : dp + 18 < 1000) (hu : un + 150 < 1000) (H : HRep w news y v σ) (K : Kept y v₀ σ₀ v σ news₀ news) (hp : Par σ.par) (S : Small σ) (hn : n < σ.par.length) (hnd : σ.nodes[n]? = some (op, kids)) (hkd : ∀ k ∈ kids, k < σ.par.length) (hkz : kids.length ≤ 1000)
    (hkr : ∀ i, i < σ.par.length → root σ.par i ∈ σ.keys) (hkn : ∀ x ∈ σ.known, x.2 < σ.par.length)
    (ret : ∀ h' tk' v' news', Fr h₀ L h' m → News h₀ L h' news' → HRep w news' y v' (lookS σ (canon σ.par (op, kids)) n) → Kept y v₀ σ₀ v' (lookS σ (canon σ.par (op, kids)) n) news₀ news' → TupStay news news' → Q .none { s with heap := h', toks := tk' }) :
    wpAny (model prog w) (ktrTop dp un gd cn cs L fa ccd cl outer) (call (.ref 303) [.ref y.hI, .int n tn]) Q (fun _ _ => False) s := by
  have S' := S
  obtain ⟨z1, z2, z3, z4, z5, z6, z7, z8, z9⟩ := S'
  have hkl : ∀ k, kget σ.known (canon σ.par (op, kids)) = some k → k < σ.par.length := fun k e => by
    rw [kget, Option.map_eq_some_iff] at e
    refine byC fun U0 => ?_
    obtain ⟨x, hx, rfl⟩ := e
    refine U0 ?_
    clear U0
    exact hkn x (List.mem_of_find?_eq_some hx)
  refine wpAny_call ?_
  k_dflt k_enter
  refine wpAny_noRaise ?_
  k_extra "go|L1"
  all_goals (try (exfalso; (first | lia | omega)))
  all_goals rename Fr h₀ L _ m => kF
  all_goals rename News h₀ L _ _ => kN
  all_goals rename kget _ _ = _ => eg
  · rw [lookS_join eg (by (first | lia | omega))] at ret
    exact ret _ _ _ _ kF kN (by assumption) (by assumption) (by k_extra "stay")
  · rw [lookS_same eg (by (first | lia | omega))] at ret
    exact ret _ _ _ _ kF kN (by k_extra "hrep") (by k_extra "kept") (by k_extra "stay")
  · rw [lookS_new eg] at ret
    exact ret _ _ _ _ kF kN (by assumption) (by assumption) (by k_extra "stay")

end
end Mine

open PySem PySem.W PySem.Calls PyProof.Rows PySem.Spec
namespace Mine
section
set_option maxHeartbeats 20000000
example : True := by
  (k_with "hs" => first | (try (refine hideS ?_; intro sSk)) | fail)
  (k_with "c|L2" => first | (first | (k_extra "?eval"; first | k_extra "keval|2") | (k_extra "?execs"; first | k_extra "kexecs|2") | (k_extra "?call"; first | k_extra "kcall|2") | (k_extra "?getMethod"; first | k_extra "kgetMethod|2") | (k_extra "?getAttr"; first | k_extra "kgetAttr|2") | (k_extra "?callWith"; first | k_extra "kcallWith|2") | (k_extra "?subscriptTail"; first | k_extra "ksubscriptTail|2") | (k_extra "?exec"; first | k_extra "kexec|2") | (k_extra "?newTuple"; first | k_extra "knewTuple|2") | (k_extra "?newList"; first | k_extra "knewList|2") | (k_extra "?binaryOp"; first | k_extra "kbinaryOp|2") | (k_extra "?setItem"; first | k_extra "ksetItem|2") | k_extra "And|2") | fail)
  (k_with "step|L2" => first | (first | k_extra "c|L2" | ((fail_if_success (with_reducible show wpAny _ _ (call (Value.ref _) _) _ _ _)); (fail_if_success (with_reducible show wpAny _ _ (pyIter (Value.ref _)) _ _ _)); (fail_if_success (with_reducible show wpAny _ _ (call (Value.builtin "sorted") _) _ _ _)); (fail_if_success (with_reducible show KswEnd _ _ _ _ _ _ _ _ _ _ _ _)); walk1) | (k_here; k_dflt k_extra "walkin")) | fail)
  (k_with "go|L2" => first | (repeat' k_extra "step|L2") | fail)
  trivial
variable {w : World} {A₀ : Around} {base h₀ : Heap} {outer : List Env} {cn : Str} {cs : Scope} {L fa : Addr} {ccd : Value} {cl : List (Str × Addr)} {m mg mb : Str → Option Value} {mean : ExcName → Option Value} {news : List (Addr × Obj)} {s : Shared} {Q : Value → Shared → Prop} {dp un : Nat} {gd : Option (List Code)}

variable {news₀ : List (Addr × Obj)} {v₀ : Dy} {σ₀ : HS}
theorem look_ok {y : Lay} {v : Dy} {σ : HS} {n b : Nat} {tn : Tok}
    (B : Below A₀ base outer h₀) (F : Fr h₀ L s.heap m) (X : (Mine.hd.heap_1 w.params).In h₀) (N : News h₀ L s.heap news) (T : Top Mine.hd.view_1 (looseW Mine.hd.view_1 []) mean mg mb h₀) (hk : cs.kind = .function) (hd : dp + 18 < 1000) (hu : un + 150 < 1000) (H : HRep w news y v σ) (K : Kept y v₀ σ₀ v σ news₀ news) (O : Ok b σ) (hb : b ≤ 1000) (hn : n < σ.par.length)
    (ret : ∀ h' tk' v' news', Fr h₀ L h' m → News h₀ L h' news' → HRep w news' y v' (lookS σ (canon σ.par (nodeAt σ n)) n) → Kept y v₀ σ₀ v' (lookS σ (canon σ.par (nodeAt σ n)) n) news₀ news' → TupStay news news' → Q .none { s with heap := h', toks := tk' }) :
    wpAny (model prog w) (ktrTop dp un gd cn cs L fa ccd cl outer) (call (.ref 303) [.ref y.hI, .int n tn]) Q (fun _ _ => False) s :=
  look_c B F X N T hk hd hu H K O.par (O.small hb) hn (nodeAt_get O hn) (fun k hk => Nat.lt_trans ((O.kids n _ (nodeAt_get O hn)).2 k hk) hn) (Nat.le_trans (O.kids n _ (nodeAt_get O hn)).1 (by lia)) O.roots O.known ret

end
end Mine

open PySem PySem.W PySem.Calls PyProof.Rows PySem.Spec
namespace Mine
section
set_option maxHeartbeats 20000000
example : True := by
  (k_with "ok" => first | (first | assumption | exact (Ok.popped (by assumption) (by (first | lia | omega))).1) | fail)
  (k_with "ccall|6" => first | (((k_here; (with_reducible refine (?_ : wpAny _ _ (call (Value.ref 303) _) _ _ _)); refine wpAny_noRaise ?_; k_dflt (refine' look_ok ?BKK ?FKK ?XKK ?NKK ?TKK ?hkKK ?hdKK ?huKK ?HKK ?KKK ?OKK ?hbKK ?hnKK ?_; (case BKK => k_asm); (case FKK => k_asm); (case XKK => k_asm); (case NKK => k_asm); (case TKK => k_asm); (case hkKK => first | assumption | exact rfl); (case hdKK => k_extra "room"); (case huKK => k_extra "room"); (case HKK => k_extra "hrep"); (case KKK => k_extra "kept"); (case OKK => k_extra "ok"); (case hbKK => (first | lia | omega)); (case hnKK => k_extra "arith")); intro h9k tk9k v9k nw9k F9k N9k H9k K9k st9k; (try dsimp only); (try k_sweep)); k_extra "hs")) | fail)
  trivial
example : True := by
  (k_with "hs" => first | (skip) | fail)
  (k_with "c|S1" => first | (first | (k_extra "?eval"; first | k_extra "keval|2") | (k_extra "?execs"; first | k_extra "kexecs|2") | (k_extra "?call"; first | k_extra "ccall|6" | k_extra "ccall|5" | k_extra "ccall|3" | k_extra "kcall|5" | k_extra "kcall|2") | (k_extra "?getMethod"; first | k_extra "kgetMethod|2") | (k_extra "?getAttr"; first | k_extra "kgetAttr|2") | (k_extra "?callWith"; first | k_extra "kcallWith|2") | (k_extra "?subscriptTail"; first | k_extra "ksubscriptTail|2") | (k_extra "?exec"; first | k_extra "kexec|2") | (k_extra "?newTuple"; first | k_extra "knewTuple|2") | (k_extra "?newList"; first | k_extra "knewList|2") | (k_extra "?binaryOp"; first | k_extra "kbinaryOp|2") | (k_extra "?setItem"; first | k_extra "ksetItem|2") | k_extra "And|2") | fail)
  (k_with "step|S1" => first | (first | k_extra "c|S1" | ((fail_if_success (with_reducible show wpAny _ _ (call (Value.ref _) _) _ _ _)); (fail_if_success (with_reducible show wpAny _ _ (pyIter (Value.ref _)) _ _ _)); (fail_if_success (with_reducible show wpAny _ _ (call (Value.builtin "sorted") _) _ _ _)); (fail_if_success (with_reducible show KswEnd _ _ _ _ _ _ _ _ _ _ _ _)); walk1) | (k_here; k_dflt k_extra "walkin")) | fail)
  (k_with "go|S1" => first | (repeat' k_extra "step|S1") | fail)
  trivial
variable {w : World} {A₀ : Around} {base h₀ : Heap} {outer : List Env} {cn : Str} {cs : Scope} {L fa : Addr} {ccd : Value} {cl : List (Str × Addr)} {m mg mb : Str → Option Value} {mean : ExcName → Option Value} {news : List (Addr × Obj)} {s : Shared} {Q : Value → Shared → Prop} {dp un : Nat} {gd : Option (List Code)}

variable {news₀ : List (Addr × Obj)} {v₀ : Dy} {σ₀ : HS}
example : True := by
  (k_with "arith" => first | ((rename (0 < _ → _ < _) => zl2k; exact zl2k (by (first | lia | omega)))) | fail)
  trivial

theorem settle_c {y : Lay} {v : Dy} {σ : HS} {b : Nat}
    (B : Below A₀ base outer h₀) (F : Fr h₀ L s.heap m) (X : (Mine.hd.heap_1 w.params).In h₀) (N : News h₀ L s.heap news) (T : Top Mine.hd.view_1 (looseW Mine.hd.view_1 []) mean mg mb h₀) (hk : cs.kind = .function) (hd : dp + 22 < 1000) (hu : un + 180 < 1000) (H : HRep w news y v σ) (K : Kept y v₀ σ₀ v σ news₀ news) (O : Ok b σ) (hb : b ≤ 1000)
    (ret : ∀ σ', Steps σ σ' → Ok b σ' → σ'.wait = [] → ∀ h' tk' v' news', Fr h₀ L h' m → News h₀ L h' news' → HRep w news' y v' σ' → Kept y v₀ σ₀ v' σ' news₀ news' → TupStay news news' → Q .none { s with heap := h', toks := tk' }) :
    wpAny (model prog w) (ktrTop dp un gd cn cs L fa ccd cl outer) (call (.ref 338) [.ref y.hI]) Q (fun _ _ => False) s := by
  refine wpAny_call ?_
  k_dflt k_enter
  refine wpAny_noRaise ?_
  k_dflt walk1
  k_dflt walk1
  rename Fr _ _ _ _ => FZ
  rename News _ _ _ _ => NZ
  refine ksw_while (σ := HS × Dy × List (Addr × Obj)) (fun c => c.2.2) (fun _ => []) (fun _ => True) [] (fun c => HRep w c.2.2 y c.2.1 c.1 ∧ Kept y v₀ σ₀ c.2.1 c.1 news₀ c.2.2 ∧ TupStay news c.2.2 ∧ Ok b c.1 ∧ Steps σ c.1) (fun c => mu c.1) (σ, v, news) FZ NZ trivial (by kst_all) ⟨H, K, fun _ _ h => h, O, .refl⟩ ?_ PassesOwn.never
  refine pr3 fun τ v1 nw1 => ?_
  intro fu h1 tk1 z1 P2 F1 N1
  clear z1
  refine byC fun U0 => ?_
  obtain ⟨H1, K1, st1, O1, P1⟩ := P2
  refine U0 ?_
  clear U0
  simp only [kstB] at H1 K1 st1 O1 P1 F1 N1 ⊢
  have S1 := O1.small hb
  refine byC fun U0 => ?_
  obtain ⟨z1, z2, z3, z4, z5, z6, z7, z8, z9⟩ := S1
  refine U0 ?_
  clear U0
  have zl : 0 < τ.wait.length → τ.wait.getLastD 0 < τ.par.length := O1.last
  k_extra "go|S1"
  · rename Fr _ _ _ _ => F2
    rename News _ _ _ _ => N2
    rename Kept _ _ _ _ _ _ _ => K2
    rename TupStay _ _ => T2
    rename Dy => v2
    rename HRep _ _ _ _ _ => H2
    have ha : 0 < τ.wait.length := by (first | lia | omega)
    exact ksw_end (popLook τ, v2, _) F2 N2 (fun _ h => h) trivial (by kst_all) (by ksw_same) ⟨H2, K2, by k_extra "stay", (O1.popLook ha).1, P1.snoc ha⟩ (O1.popLook ha).2
  · rename Fr h₀ L _ m => kF
    rename News h₀ L _ _ => kN
    have ha : τ.wait = [] := List.length_eq_zero_iff.mp (by (first | lia | omega))
    exact ret τ P1 O1 ha _ _ _ _ kF kN H1 K1 st1

end
end Mine

open PySem PySem.W PySem.Calls PyProof.Rows PySem.Spec
namespace Mine
section
set_option maxHeartbeats 20000000
example : True := by
  (k_with "k_mem" => first | (with_reducible first | exact MRep.i1 (by assumption) | exact MRep.i2 (by assumption) | fail) | fail)
  (k_with "hrep" => first | (first | with_reducible assumption | exact HRep.sub (by assumption) (by intro p9k hp9k; k_extra "insub") | exact (MRep.h (by assumption)) | exact HRep.sub (MRep.h (by assumption)) (by intro p9k hp9k; k_extra "insub") | fail) | fail)
  (k_with "kcompareOp|M" => first | (((with_reducible refine (?_ : wpAny _ _ (compareOp CmpOp.NotIn _ _) _ _ _)); (k_here; (with_reducible refine (?_ : wpAny _ _ (compareOp _ (Value.ref _) (Value.ref (ML.nu _))) _ _ _)); k_dflt (refine' pd_notin ?NKK ?PKK ?kKK ?uKK ?_ ?_; (case NKK => k_asm); (case PKK => k_extra "mrep"); (case kKK => k_extra "kin"); (case uKK => k_extra "unit")); all_goals (first | (intro (g9k : _ = _) tk9k) | (intro n9k g9k tk9k)); all_goals (try dsimp only)))) | fail)
  (k_with "mrep" => first | (first | exact MRep.nu (by assumption) | exact MRep.nu (MRep.sub (by assumption) (by intro p9k hp9k; k_extra "insub")) | fail) | fail)
  (k_with "ksubscriptTail|M" => first | ((k_here; (with_reducible refine (?_ : wpAny _ _ (subscriptTail _ _ (Value.ref (ML.nu _)) (Value.ref _)) _ _ _)); k_dflt (refine' pd_item ?NKK ?PKK ?kKK ?gKK ?uKK ?_; (case NKK => k_asm); (case PKK => k_extra "mrep"); (case kKK => k_extra "kin"); (case gKK => assumption); (case uKK => k_extra "unit")); intro t9k tk9k)) | fail)
  (k_with "kin" => first | (first | with_reducible assumption | (dsimp only; assumption) | (refine' KIn.move ?_ (by assumption); k_extra "stay") | fail) | fail)
  (k_with "kcompareOp|M" => first | (((with_reducible refine (?_ : wpAny _ _ (compareOp CmpOp.NotEq _ _) _ _ _)); (k_here; (with_reducible refine (?_ : wpAny _ _ (compareOp _ (Value.ref _) (Value.ref _)) _ _ _)); k_dflt (refine' lists_ne ?NKK ?m1KK ?m2KK ?K1KK ?K2KK ?uKK ?_ ?_; (case NKK => k_asm); (case m1KK => k_mem); (case m2KK => k_mem); (case K1KK => (refine' KInAll.move ?_ (by assumption); k_extra "stay")); (case K2KK => exact .nil); (case uKK => k_extra "unit")); all_goals (intro ne9k); all_goals (try dsimp only)))) | fail)
  (k_with "ccall|O" => first | ((k_here; (with_reducible refine (?_ : wpAny _ _ (call (Value.builtin "dict.get") [Value.ref (ML.nu _), Value.ref _, Value.int _ _]) _ _ _)); k_dflt (refine' pd_get ?NKK ?PKK ?kKK ?uKK ?_ ?_; (case NKK => k_asm); (case PKK => k_extra "mrep"); (case kKK => exact kin_pair (p := (_, _)) (by k_mem)); (case uKK => k_extra "unit")); all_goals (first | (intro (g9k : _ = _) tk9k) | (intro n9k g9k t9k tk9k; have lt9k := pget_lt (by assumption) g9k)); all_goals (try dsimp only))) | fail)
  (k_with "kgetMethod|O" => first | (((with_reducible refine (?_ : wpAny _ _ (getMethod (Value.ref _) _ _) _ _ _)); (k_here; (with_reducible refine (?_ : wpAny _ _ (getMethod (Value.ref (ML.nu _)) (PySem.Str.ofString "get") _) _ _ _)); k_dflt (refine' pd_method ?NKK ?PKK PySem.F.slot_dict_get PySem.F.type_dict_get ?_; (case NKK => k_asm); (case PKK => k_extra "mrep"))))) | fail)
  trivial
example : True := by
  (k_with "hs" => first | (skip) | fail)
  (k_with "c|M2" => first | (first | (k_extra "?eval"; first | k_extra "keval|2") | (k_extra "?execs"; first | k_extra "kexecs|2") | (k_extra "?call"; first | k_extra "ccall|O" | k_extra "ccall|3" | k_extra "kcall|2") | (k_extra "?getMethod"; first | k_extra "kgetMethod|O" | k_extra "kgetMethod|2") | (k_extra "?getAttr"; first | k_extra "kgetAttr|2") | (k_extra "?callWith"; first | k_extra "kcallWith|2") | (k_extra "?subscriptTail"; first | k_extra "ksubscriptTail|M" | k_extra "ksubscriptTail|2") | (k_extra "?exec"; first | k_extra "kexec|2") | (k_extra "?newTuple"; first | k_extra "knewTuple|2") | (k_extra "?newList"; first | k_extra "knewList|2") | (k_extra "?binaryOp"; first | k_extra "kbinaryOp|2") | (k_extra "?setItem"; first | k_extra "ksetItem|2") | (k_extra "?compareOp"; first | k_extra "kcompareOp|M") | k_extra "And|2") | fail)
  (k_with "step|M2" => first | (first | k_extra "c|M2" | ((fail_if_success (with_reducible show wpAny _ _ (call (Value.ref _) _) _ _ _)); (fail_if_success (with_reducible show wpAny _ _ (pyIter (Value.ref _)) _ _ _)); (fail_if_success (with_reducible show wpAny _ _ (call (Value.builtin "sorted") _) _ _ _)); (fail_if_success (with_reducible show KswEnd _ _ _ _ _ _ _ _ _ _ _ _)); walk1) | (k_here; k_dflt k_extra "walkin")) | fail)
  (k_with "go|M2" => first | (repeat' k_extra "step|M2") | fail)
  trivial
variable {w : World} {A₀ : Around} {base h₀ : Heap} {outer : List Env} {cn : Str} {cs : Scope} {L fa : Addr} {ccd : Value} {cl : List (Str × Addr)} {m mg mb : Str → Option Value} {mean : ExcName → Option Value} {news : List (Addr × Obj)} {s : Shared} {Q : Value → Shared → Prop} {dp un : Nat} {gd : Option (List Code)}

theorem class_of_c {M : ML} {v v1 v2 : Dy} {σ σ1 σ2 : HS} {ps : List ((Nat × Nat) × Nat)} {a b : Nat} {ta tb : Tok}
    (B : Below A₀ base outer h₀) (F : Fr h₀ L s.heap m) (X : (Mine.hd.heap_1 w.params).In h₀) (N : News h₀ L s.heap news) (T : Top Mine.hd.view_1 (looseW Mine.hd.view_1 []) mean mg mb h₀) (hk : cs.kind = .function) (hd : dp + 20 < 1000) (hu : un + 200 < 1000) (R : MRep w news M v σ ps) (H1 : HRep w news M.y1 v1 σ1) (H2 : HRep w news M.y2 v2 σ2) (hp : Par σ.par) (hp1 : Par σ1.par) (hp2 : Par σ2.par) (ha : a < σ1.par.length) (hb : b < σ2.par.length) (hz : σ.par.length ≤ 1000) (hz1 : σ1.par.length ≤ 1000) (hz2 : σ2.par.length ≤ 1000) (hps : ∀ x ∈ ps, x.2 < σ.par.length)
    (ret : ∀ t h' tk' news', Fr h₀ L h' m → News h₀ L h' news' → (∀ p ∈ news, p ∈ news') → Q (.int (match pget ps (root σ1.par a, root σ2.par b) with | some i => ((root σ.par i : Nat) : Int) | none => -1) t) { s with heap := h', toks := tk' }) :
    wpAny (model prog w) (ktrTop dp un gd cn cs L fa ccd cl outer) (call (.ref 430) [.ref M.mI, .int a ta, .int b tb]) Q (fun _ _ => False) s := by
  have H0 := R.h
  refine wpAny_call ?_
  k_dflt k_enter
  refine wpAny_noRaise ?_
  k_extra "go|M2"
  all_goals rename Fr h₀ L _ m => kF
  all_goals rename News h₀ L _ _ => kN
  all_goals rename pget ps _ = _ => eg
  all_goals rw [eg] at ret
  all_goals exact ret _ _ _ _ kF kN (by intro p9 hp9; k_extra "insub")

end
end Mine

open PySem PySem.W PySem.Calls PyProof.Rows PySem.Spec
namespace Mine
section
set_option maxHeartbeats 20000000
example : True := by
  (k_with "ccall|U" => first | (((k_here; (with_reducible refine (?_ : wpAny _ _ (call (Value.ref 444) _) _ _ _)); refine wpAny_noRaise ?_; k_dflt (refine' tap_c ?BKK ?FKK ?XKK ?NKK ?TKK ?hkKK ?hdKK ?huKK ?T0KK ?hzKK ?haKK ?hmKK ?_; (case BKK => k_asm); (case FKK => k_asm); (case XKK => k_asm); (case NKK => k_asm); (case TKK => k_asm); (case hkKK => first | assumption | exact rfl); (case hdKK => k_extra "room"); (case huKK => k_extra "room"); (case T0KK => k_extra "tube"); (case hzKK => assumption); (case haKK => (first | lia | omega)); (case hmKK => decide)); intro r9k lt9k t9k h9k tk9k nw9k F9k N9k T9k k9k a9k st9k; (try dsimp only); (try k_sweep)); k_extra "hs")) | fail)
  (k_with "hrep" => first | (first | with_reducible assumption | exact HRep.sub (by assumption) (by intro p9k hp9k; k_extra "insub") | (refine' HRep.tube ?hhKK ?kkKK ?ssKK ?nnKK; (case kkKK => assumption); (case ssKK => assumption); (case nnKK => assumption); (case hhKK => exact HRep.sub (by assumption) (by intro p9k hp9k; k_extra "insub"))) | fail) | fail)
  (k_with "kcompareOp|U" => first | (((with_reducible refine (?_ : wpAny _ _ (compareOp CmpOp.Eq _ _) _ _ _)); (k_here; (with_reducible refine (?_ : wpAny _ _ (compareOp _ (Value.ref _) (Value.ref _)) _ _ _)); k_dflt (refine' lists_nil ?NKK ?m1KK ?m2KK ?K1KK ?uKK ?_ ?_; (case NKK => k_asm); (case m1KK => k_mem); (case m2KK => k_mem); (case K1KK => (refine' KInAll.move ?_ (by assumption); k_extra "stay")); (case uKK => k_extra "unit")); all_goals (intro ne9k); all_goals (try dsimp only)))) | fail)
  trivial
example : True := by
  (k_with "hs" => first | (try (refine hideS ?_; intro sSk)) | fail)
  (k_with "c|W2" => first | (first | (k_extra "?eval"; first | k_extra "keval|2") | (k_extra "?execs"; first | k_extra "kexecs|2") | (k_extra "?call"; first | k_extra "ccall|U" | k_extra "ccall|T" | k_extra "ccall|3" | k_extra "kcall|2") | (k_extra "?getMethod"; first | k_extra "kgetMethod|2") | (k_extra "?getAttr"; first | k_extra "kgetAttr|2") | (k_extra "?callWith"; first | k_extra "kcallWith|2") | (k_extra "?subscriptTail"; first | k_extra "csubscriptTail|T" | k_extra "ksubscriptTail|2") | (k_extra "?exec"; first | k_extra "kexec|2") | (k_extra "?newTuple"; first | k_extra "knewTuple|2") | (k_extra "?newList"; first | k_extra "knewList|2") | (k_extra "?binaryOp"; first | k_extra "kbinaryOp|2") | (k_extra "?setItem"; first | k_extra "csetItem|T" | k_extra "ksetItem|2") | (k_extra "?compareOp"; first | k_extra "kcompareOp|U") | k_extra "And|2") | fail)
  (k_with "step|W2" => first | (first | k_extra "c|W2" | ((fail_if_success (with_reducible show wpAny _ _ (call (Value.ref _) _) _ _ _)); (fail_if_success (with_reducible show wpAny _ _ (pyIter (Value.ref _)) _ _ _)); (fail_if_success (with_reducible show wpAny _ _ (call (Value.builtin "sorted") _) _ _ _)); (fail_if_success (with_reducible show KswEnd _ _ _ _ _ _ _ _ _ _ _ _)); walk1) | (k_here; k_dflt k_extra "walkin")) | fail)
  (k_with "go|W2" => first | (repeat' k_extra "step|W2") | fail)
  trivial
structure TI (w : World) (n0 : List (Addr × Obj)) (tb tcl : Addr) (k : Nat) (tcs : List Nat) (nw : List (Addr × Obj)) : Prop where
  t : Tube w nw tb tcl k tcs
  k : ∀ p ∈ n0, p.1 ≠ tb → p ∈ nw
  a : ∀ p ∈ n0, ∃ o, (p.1, o) ∈ nw
  s : TupStay n0 nw
theorem TI.off {w : World} {n0 n1 n2 : List (Addr × Obj)} {tb tcl : Addr} {k k' : Nat} {tcs : List Nat} {I C D : Addr} {oI oC oD : Obj} (T : TI w n0 tb tcl k tcs n1) (T9 : TI w ((I, oI) :: (C, oC) :: (D, oD) :: n1) tb tcl k' tcs n2) (of : ∀ p ∈ n1, p.1 ≠ I ∧ p.1 ≠ C ∧ p.1 ≠ D) (ob : ∃ o, (tb, o) ∈ n1) (oc : ∃ o, (tcl, o) ∈ n1) :
    (∀ p ∈ (I, oI) :: (C, oC) :: (D, oD) :: off3 I C D n2, p ∈ n2) ∧ TI w n0 tb tcl k' tcs (off3 I C D n2) := by
  refine byC fun U0 => ?_
  obtain ⟨o1, h1⟩ := ob
  obtain ⟨o2, h2⟩ := oc
  refine U0 ?_
  clear U0
  have b1 := of _ h1
  have b2 := of _ h2
  refine ⟨?_, T9.t.move (fun o h => mem_off3.mpr ⟨h, b1⟩) (fun o h => mem_off3.mpr ⟨h, b2⟩), fun p hp hn => ?_, fun p hp => ?_, fun a vs h => ?_⟩
  · intro p hp
    rcases List.mem_cons.mp hp with rfl | hp
    · exact T9.k _ mem_hd (fun e => b1.1 e.symm)
    rcases List.mem_cons.mp hp with rfl | hp
    · exact T9.k _ (mem_tl mem_hd) (fun e => b1.2.1 e.symm)
    rcases List.mem_cons.mp hp with rfl | hp
    · exact T9.k _ (mem_tl (mem_tl mem_hd)) (fun e => b1.2.2 e.symm)
    · exact (mem_off3.mp hp).1
  · have h := T.k p hp hn
    exact mem_off3.mpr ⟨T9.k p (mem_tl (mem_tl (mem_tl h))) hn, of p h⟩
  · refine byC fun U0 => ?_
    obtain ⟨o, h⟩ := T.a p hp
    obtain ⟨o', h'⟩ := T9.a _ (mem_tl (mem_tl (mem_tl h)))
    refine U0 ?_
    clear U0
    have b := of _ h
    exact ⟨o', mem_off3.mpr ⟨h', b⟩⟩
  · have h' := T.s _ _ h
    exact mem_off3.mpr ⟨T9.s _ _ (mem_tl (mem_tl (mem_tl h'))), of _ h'⟩
theorem Tube.objs {w : World} {news : List (Addr × Obj)} {tb cl : Addr} {k : Nat} {cs : List Nat} (T : Tube w news tb cl k cs) : (∃ o, (tb, o) ∈ news) ∧ ∃ o, (cl, o) ∈ news := by
  refine byC fun U0 => ?_
  obtain ⟨_, D⟩ := T.d
  obtain ⟨o, h, _⟩ := D.obj
  obtain ⟨vs, n, h2, _⟩ := T.c
  refine U0 ?_
  clear U0
  exact ⟨⟨o, h⟩, ⟨_, h2⟩⟩
variable {w : World} {A₀ : Around} {base h₀ : Heap} {outer : List Env} {cn : Str} {cs : Scope} {L fa : Addr} {ccd : Value} {cl : List (Str × Addr)} {m mg mb : Str → Option Value} {mean : ExcName → Option Value} {news : List (Addr × Obj)} {s : Shared} {Q : Value → Shared → Prop} {dp un : Nat} {gd : Option (List Code)}

theorem pair_c {tb tcl hpA kn : Addr} {at' n : Nat} {tcs : List Nat} {y1 y2 : Lay} {v1 v2 : Dy} {σ1 σ2 : HS} {vs : List Value} {ks : List (Nat × Nat)}
    (B : Below A₀ base outer h₀) (F : Fr h₀ L s.heap m) (X : (Mine.hd.heap_1 w.params).In h₀) (N : News h₀ L s.heap news) (T : Top Mine.hd.view_1 (looseW Mine.hd.view_1 []) mean mg mb h₀) (hk : cs.kind = .function) (hd : dp + 20 < 1000) (hu : un + 200 < 1000) (T0 : Tube w news tb tcl at' tcs) (hz : tcs.length ≤ 1000) (ha : at' ≤ 400) (H1 : HRep w news y1 v1 σ1) (H2 : HRep w news y2 v2 σ2) (nt1 : ¬ y1.own v1 σ1 tb) (nt2 : ¬ y2.own v2 σ2 tb) (hp1 : Par σ1.par) (hp2 : Par σ2.par) (hl1 : σ1.par.length = 4) (hl2 : σ2.par.length = 4)
    (hhp : (hpA, tupObj [.ref y1.hI, .ref y2.hI]) ∈ news) (hkn : (kn, W.listOf vs.toArray n) ∈ news) (hvs : KInAll news 7 vs (ks.map pdat)) (hkz : ks.length ≤ 100) (hkt : kn ≠ tb)
    (ret : ∀ pd (k : Nat × Nat) h' tk' news', KIn news' 7 (.ref pd) (pdat k) → Fr h₀ L h' m → News h₀ L h' news' → Tube w news' tb tcl (at' + 3) tcs → (∀ p ∈ news, p.1 ≠ tb → p ∈ news') → (∀ p ∈ news, ∃ o, (p.1, o) ∈ news') → TupStay news news' → Q (.ref pd) { s with heap := h', toks := tk' }) :
    wpAny (model prog w) (ktrTop dp un gd cn cs L fa ccd cl outer) (call (.ref 454) [.ref tb, .ref hpA, .ref kn]) Q (fun _ _ => False) s := by
  refine wpAny_call ?_
  k_dflt k_enter
  refine wpAny_noRaise ?_
  rename News _ _ _ ((_, _) :: news) => NE
  rename ∀ p ∈ news, p.1 < _ => lc
  have hcell := cell_of lc NE mem_hd
  k_extra "go|W2"
  rename News _ _ _ _ => NX
  rename Tube w _ tb tcl (at' + 1) tcs => TX
  rename ∀ p ∈ (_, _) :: news, p.1 ≠ tb → _ => kX
  rename ∀ p ∈ (_, _) :: news, ∃ o, _ => aX
  rename TupStay _ _ => sX
  refine byC fun U0 => ?_
  obtain ⟨nwX, eX⟩ := name_news NX
  subst eX
  refine U0 ?_
  clear U0
  have hne := T0.cellne lc
  have hcX := kX _ hcell hne
  have H1X := H1.cons.tube kX sX nt1
  have H2X := H2.cons.tube kX sX nt2
  have hpX := sX _ _ (mem_tl hhp)
  refine compG (fun i ys nw => (ys.length = i ∧ ∃ rs, IntsAre ys (toZ rs)) ∧ TI w nwX tb tcl (at' + 1 + i) tcs nw) rfl (by assumption) NX (.tup (us := [.ref y1.hI, .ref y2.hI]) hpX) (by simp) ⟨⟨rfl, [], .nil⟩, TX, fun p hp _ => hp, fun p hp => ⟨_, hp⟩, .refl⟩ (fun i ys nw h => .tup (h.2.s _ _ hpX)) (fun i ys nw h => h.1.1) ?_ ?_
  · intro i x ys nw I oI C oC D m₂ h9 tk9 hv P1 hC hx F9 N9 off
    refine byC fun U0 => ?_
    obtain ⟨⟨hl, rs, irs⟩, TT⟩ := P1
    refine U0 ?_
    clear U0
    have hT := TT.t
    have hcn := TT.k _ hcX hne
    have hi : i < 2 := lt_get hv
    refine byC fun U0 => ?_
    obtain ⟨y, v, σ, rfl, Hn, hp, h4, h1000, nt⟩ : ∃ (y : Lay) (v : Dy) (σ : HS), x = .ref y.hI ∧ HRep w nw y v σ ∧ Par σ.par ∧ 4 ≤ σ.par.length ∧ σ.par.length ≤ 1000000 ∧ ¬ y.own v σ tb := by
      rcases i with _ | _ | i
      · simp at hv
        exact ⟨y1, v1, σ1, hv.symm, H1X.tube TT.k TT.s nt1, hp1, by (first | lia | omega), by (first | lia | omega), nt1⟩
      · simp at hv
        exact ⟨y2, v2, σ2, hv.symm, H2X.tube TT.k TT.s nt2, hp2, by (first | lia | omega), by (first | lia | omega), nt2⟩
      · (first | lia | omega)
    refine U0 ?_
    clear U0
    have hcn' := mem_tl (b := (I, oI)) (mem_tl (b := (C, oC)) (mem_tl (b := (D, LCg.lst ys)) hcn))
    k_extra "go|W2"
    rename Fr _ _ _ _ => F10
    rename News _ _ _ _ => N10
    rename Tube w _ tb tcl (at' + 1 + i + 1) tcs => T9
    rename ∀ p ∈ (I, oI) :: _, p.1 ≠ tb → _ => k9
    rename ∀ p ∈ (I, oI) :: _, ∃ o, _ => a9
    rename TupStay ((I, oI) :: _) _ => st9
    obtain ⟨of1, T10⟩ := TT.off ⟨T9, k9, a9, st9⟩ off hT.objs.1 hT.objs.2
    exact GEnd.intro F10 N10 _ of1 (fun p hp => (mem_off3.mp hp).2) ⟨⟨by simp [hl], rs ++ [_], ints_snoc irs _ _⟩, T10⟩
  · intro D ys nw h9 tk9 P2 F9 N9 off
    refine byC fun U0 => ?_
    obtain ⟨⟨hl, rs, irs⟩, TT⟩ := P2
    refine U0 ?_
    clear U0
    have hr := ints_len irs
    refine byC fun U0 => ?_
    obtain ⟨a, b, rfl⟩ : ∃ a b, rs = [a, b] := by
      have hr' : rs.length = 2 := hr ▸ hl
      match rs, hr' with
      | [a, b], _ => exact ⟨a, b, rfl⟩
    obtain ⟨t, u, rfl⟩ := ints_two irs
    refine U0 ?_
    clear U0
    have hkn' := TT.k _ (kX _ (mem_tl hkn) hkt) hkt
    have hst := TupStay.trans (TupStay.trans .cons sX) TT.s
    have hK : ∀ p ∈ news, p.1 ≠ tb → p ∈ nw := fun p hp hn => TT.k p (kX p (mem_tl hp) hn) hn
    have hA : ∀ p ∈ news, ∃ o, (p.1, o) ∈ nw := fun p hp => let ⟨o, ho⟩ := aX p (mem_tl hp); TT.a (p.1, o) ho
    k_extra "go|W2"
    all_goals (try rename Fr h₀ L _ m => kF)
    all_goals (try rename News h₀ L _ _ => kN)
    iterate 2 exact ret _ (a, b) _ _ _ (kin_pair (p := (a, b)) (by k_mem)) kF kN (TT.t.sub (by intro p9 hp9; k_extra "insub")) (fun p hp hn => by have hp9 := hK p hp hn; k_extra "insub") (fun p hp => let ⟨o, ho⟩ := hA p hp; ⟨o, by k_extra "insub"⟩) (fun q us hq => by have hp9 := hst _ _ hq; k_extra "insub")
    have hvl : vs.length = ks.length := by simpa using kinAll_len hvs
    have hvz : vs.length ≤ 100 := hvl ▸ hkz
    refine' len_B ?N ?m ?z ?_
    case N => k_asm
    case m => k_mem
    case z => k_extra "len"
    intro t9 tk9
    have hx0 : ((vs.length : Nat) : Int) ≠ 0 := by (first | lia | omega)
    generalize hN : vs.length = N at *
    refine byC fun U0 => ?_
    obtain ⟨r, er, lr⟩ := fmod_nat (a : Int) (many := N) (by (first | lia | omega))
    have hr2 : r < ks.length := by (first | lia | omega)
    obtain ⟨x, ex, kx⟩ := kinAll_get hvs r (pdat ks[r]) (by rw [List.getElem?_map, List.getElem?_eq_getElem hr2]; rfl)
    obtain ⟨pd, rfl⟩ : ∃ pd, x = .ref pd := by cases kx; exact ⟨_, rfl⟩
    refine U0 ?_
    clear U0
    k_extra "step|W2"
    rw [er]
    refine' item_B ?N ?m ex (by (first | lia | omega)) ?_
    case N => k_asm
    case m => k_mem
    k_extra "go|W2"
    rename Fr h₀ L _ m => kF
    rename News h₀ L _ _ => kN
    exact ret _ _ _ _ _ ((kx.move hst).move (by intro q us hq; k_extra "insub")) kF kN (TT.t.sub (by intro p9 hp9; k_extra "insub")) (fun p hp hn => by have hp9 := hK p hp hn; k_extra "insub") (fun p hp => let ⟨o, ho⟩ := hA p hp; ⟨o, by k_extra "insub"⟩) (fun q us hq => by have hp9 := hst _ _ hq; k_extra "insub")

end
end Mine

open PySem PySem.W PySem.Calls PyProof.Rows PySem.Spec
namespace Mine
section
set_option maxHeartbeats 20000000
example : True := by
  (k_with "hs" => first | (try (refine hideS ?_; intro sSk)) | fail)
  (k_with "c|G1" => first | (first | (k_extra "?eval"; first | k_extra "keval|2") | (k_extra "?execs"; first | k_extra "kexecs|2") | (k_extra "?call"; first | k_extra "ccall|3" | k_extra "kcall|2") | (k_extra "?getMethod"; first | k_extra "kgetMethod|2") | (k_extra "?getAttr"; first | k_extra "kgetAttr|2") | (k_extra "?callWith"; first | k_extra "kcallWith|2") | (k_extra "?subscriptTail"; first | k_extra "ksubscriptTail|2") | (k_extra "?exec"; first | k_extra "kexec|2") | (k_extra "?newTuple"; first | k_extra "knewTuple|2") | (k_extra "?newList"; first | k_extra "knewList|2") | (k_extra "?binaryOp"; first | k_extra "kbinaryOp|2") | (k_extra "?setItem"; first | k_extra "ksetItem|2") | k_extra "And|2") | fail)
  (k_with "step|G1" => first | (first | k_extra "c|G1" | ((fail_if_success (with_reducible show wpAny _ _ (call (Value.ref _) _) _ _ _)); (fail_if_success (with_reducible show wpAny _ _ (pyIter (Value.ref _)) _ _ _)); (fail_if_success (with_reducible show wpAny _ _ (call (Value.builtin "sorted") _) _ _ _)); (fail_if_success (with_reducible show KswEnd _ _ _ _ _ _ _ _ _ _ _ _)); walk1) | (k_here; k_dflt k_extra "walkin")) | fail)
  (k_with "go|G1" => first | (repeat' k_extra "step|G1") | fail)
  trivial
theorem perm_toZ {ns : List Int} {l : List Nat} (h : ns.Perm (toZ l)) : ∃ rs : List Nat, ns = toZ rs ∧ rs.Perm l := by
  have e : ∀ l : List Nat, (toZ l).map Int.toNat = l := fun l => by induction l <;> simp_all [toZ]
  refine ⟨ns.map Int.toNat, ?_, (e l) ▸ h.map Int.toNat⟩
  have : ∀ x ∈ ns, ((x.toNat : Nat) : Int) = x := fun x hx => by
    refine byC fun U0 => ?_
    obtain ⟨k, _, rfl⟩ := List.mem_map.mp (h.mem_iff.mp hx)
    refine U0 ?_
    clear U0
    rfl
  clear h
  induction ns with
  | nil => rfl
  | cons x r ih =>
    have q := ih fun y hy => this y (.tail _ hy)
    have q2 := this x (.head _)
    simp only [toZ, List.map_cons] at q ⊢
    rw [q2, ← q]
theorem range_size (n : Nat) : Builtin.Range.rangeSize 0 (n : Int) 1 = (n : Int) := by
  unfold Builtin.Range.rangeSize
  split <;> (try split) <;> lia
theorem range_small {n : Nat} (h : n ≤ 1000) : Builtin.Range.small 0 (n : Int) 1 = true := by
  have f : ∀ i : Int, 0 ≤ i → i ≤ 1001 → Builtin.Range.rangeFitsLong i = true := fun i h1 h2 => by
    unfold Builtin.Range.rangeFitsLong
    rw [Bool.and_eq_true, decide_eq_true_eq, decide_eq_true_eq]
    lia
  unfold Builtin.Range.small
  rw [range_size, f 0 (by decide) (by decide), f n (by lia) (by lia), f 1 (by decide) (by decide), if_pos (by decide), f (n + (1 - 1)) (by lia) (by lia), Bool.or_true]
  rfl
variable {w : World} {A₀ : Around} {base h₀ : Heap} {outer : List Env} {cn : Str} {cs : Scope} {L fa : Addr} {ccd : Value} {cl : List (Str × Addr)} {m mg mb : Str → Option Value} {mean : ExcName → Option Value} {news : List (Addr × Obj)} {s : Shared} {Q : Value → Shared → Prop} {dp un : Nat} {gd : Option (List Code)}

theorem uclasses_c {y : Lay} {v : Dy} {σ : HS}
    (B : Below A₀ base outer h₀) (F : Fr h₀ L s.heap m) (X : (Mine.hd.heap_1 w.params).In h₀) (N : News h₀ L s.heap news) (T : Top Mine.hd.view_1 (looseW Mine.hd.view_1 []) mean mg mb h₀) (hk : cs.kind = .function) (hd : dp + 10 < 1000) (hu : un + 60 < 1000) (H : HRep w news y v σ) (hz : σ.par.length ≤ 1000)
    (ret : ∀ D h' tk' ys c rs news', Fr h₀ L h' m → News h₀ L h' news' → (∀ p ∈ news, p ∈ news') → (D, W.listOf (List.toArray ys) c) ∈ news' → IntsAre ys (toZ rs) → (∀ r ∈ rs, r < σ.par.length) → ys.length ≤ σ.par.length → Q (.ref D) { s with heap := h', toks := tk' }) :
    wpAny (model prog w) (ktrTop dp un gd cn cs L fa ccd cl outer) (call (.ref 232) [.ref y.uI]) Q (fun _ _ => False) s := by
  refine wpAny_call ?_
  k_dflt k_enter
  refine wpAny_noRaise ?_
  k_extra "go|G1"
  refine compPureT (fun i => decide (σ.par.getD i i = i)) (fun i y => ∃ t, y = .int (i : Nat) t) (iterable_range (n := σ.par.length) rfl (by assumption) (by assumption) (by assumption) (range_small (by lia)) (range_size _)) trivial (by lia) ?_ ?_
  · intro i x J C oC m₂ h9 tk9 hi P1 hJ hC hx F9 N9
    refine byC fun U0 => ?_
    obtain ⟨t, rfl⟩ := P1
    refine U0 ?_
    clear U0
    rw [Int.zero_add] at hx
    k_extra "go|G1"
    all_goals first
      | exact PEnd.intro (by assumption) (by assumption) ⟨_, rfl⟩
      | exact NEnd.intro (by assumption) (by assumption)
      | exact decide_eq_true (Int.ofNat.inj (by assumption))
      | exact decide_eq_false (fun e => absurd (congrArg Int.ofNat e) (by assumption))
  · intro D ys h9 tk9 hl hy F9 N9 hD
    have iy : IntsAre ys (toZ ((List.range σ.par.length).filter fun i => decide (σ.par.getD i i = i))) := ints_of_at hl fun i v hv => by
      refine byC fun U0 => ?_
      obtain ⟨k, e, t, rfl⟩ := hy i v hv
      refine U0 ?_
      clear U0
      exact ⟨k, t, e, rfl⟩
    have ly : ys.length ≤ σ.par.length := by rw [hl]; exact Nat.le_trans (List.length_filter_le _ _) (by simp)
    k_extra "go|G1"
    rename Fr h₀ L _ m => kF
    rename News h₀ L _ _ => kN
    exact ret _ _ _ _ _ _ _ kF kN (by intro p hp; k_extra "insub") (by k_mem) iy (fun r hr => List.mem_range.mp (List.mem_filter.mp hr).1) ly
theorem hclasses_c {y : Lay} {v : Dy} {σ : HS}
    (B : Below A₀ base outer h₀) (F : Fr h₀ L s.heap m) (X : (Mine.hd.heap_1 w.params).In h₀) (N : News h₀ L s.heap news) (T : Top Mine.hd.view_1 (looseW Mine.hd.view_1 []) mean mg mb h₀) (hk : cs.kind = .function) (hd : dp + 12 < 1000) (hu : un + 80 < 1000) (H : HRep w news y v σ) (hz : σ.par.length ≤ 1000)
    (ret : ∀ D h' tk' ys c rs news', Fr h₀ L h' m → News h₀ L h' news' → (∀ p ∈ news, p ∈ news') → (D, W.listOf (List.toArray ys) c) ∈ news' → IntsAre ys (toZ rs) → (∀ r ∈ rs, r < σ.par.length) → ys.length ≤ σ.par.length → Q (.ref D) { s with heap := h', toks := tk' }) :
    wpAny (model prog w) (ktrTop dp un gd cn cs L fa ccd cl outer) (call (.ref 352) [.ref y.hI]) Q (fun _ _ => False) s := by
  refine wpAny_call ?_
  k_dflt k_enter
  refine wpAny_noRaise ?_
  k_extra "go|G1"
  refine wpAny_noRaise ?_
  refine' uclasses_c ?B ?F ?X ?N ?T ?hk ?hd ?hu ?H hz ?_
  case B => k_asm
  case F => k_asm
  case X => k_asm
  case N => k_asm
  case T => k_asm
  case hk => first | assumption | exact rfl
  case hd => k_extra "room"
  case hu => k_extra "room"
  case H => k_extra "hrep"
  intro D h' tk' ys c rs news' F9 N9 i9 m9 iy ir ly
  k_extra "go|G1"
  rename Fr h₀ L _ m => kF
  rename News h₀ L _ _ => kN
  exact ret _ _ _ _ _ _ _ kF kN (by intro p hp; k_extra "insub") m9 iy ir ly
theorem umembers_c {y : Lay} {v : Dy} {σ : HS} {a : Nat} {ta : Tok}
    (B : Below A₀ base outer h₀) (F : Fr h₀ L s.heap m) (X : (Mine.hd.heap_1 w.params).In h₀) (N : News h₀ L s.heap news) (T : Top Mine.hd.view_1 (looseW Mine.hd.view_1 []) mean mg mb h₀) (hk : cs.kind = .function) (hd : dp + 16 < 1000) (hu : un + 110 < 1000) (H : HRep w news y v σ) (hp : Par σ.par) (ha : a < σ.par.length) (hz : σ.par.length ≤ 1000000) (hll : σ.lots.length = σ.par.length) (hlo : ∀ (c : Nat) (l : List Nat), σ.lots[c]? = some l → l.length ≤ 2 ∧ ∀ x ∈ l, x < σ.par.length)
    (ret : ∀ D h' tk' ys c rs news', Fr h₀ L h' m → News h₀ L h' news' → (∀ p ∈ news, p ∈ news') → (D, W.listOf (List.toArray ys) c) ∈ news' → IntsAre ys (toZ rs) → rs.length ≤ 2 → (∀ r ∈ rs, r < σ.par.length) → Q (.ref D) { s with heap := h', toks := tk' }) :
    wpAny (model prog w) (ktrTop dp un gd cn cs L fa ccd cl outer) (call (.ref 227) [.ref y.uI, .int a ta]) Q (fun _ _ => False) s := by
  have hr : root σ.par a < σ.lots.length := by rw [hll]; exact Nat.lt_of_le_of_lt (root_le a) ha
  have hll' : σ.lots.length ≤ 1000000 := hll ▸ hz
  refine wpAny_call ?_
  k_dflt k_enter
  refine wpAny_noRaise ?_
  k_extra "go|G1"
  rename v.las[_]? = some _ => el
  have hI := H.dy.lot _ _ _ el (List.getElem?_eq_getElem hr)
  refine byC fun U0 => ?_
  obtain ⟨l2, lb⟩ := hlo _ _ (List.getElem?_eq_getElem hr)
  obtain ⟨vs, n, hm, iv⟩ := hI
  refine U0 ?_
  clear U0
  refine kso_sorted ‹_› (by assumption) (isList_of (by assumption) hm) iv (by simp only [toZ, List.length_map]; lia) ?_
  intro D vs' ns' c h9 F9 N9 lt9 iz9 le9 pe9 _ _
  refine byC fun U0 => ?_
  obtain ⟨rs, rfl, pr⟩ := perm_toZ pe9
  refine U0 ?_
  clear U0
  k_extra "go|G1"
  rename Fr h₀ L _ m => kF
  rename News h₀ L _ _ => kN
  exact ret _ _ _ _ _ _ _ kF kN (by intro p hp; k_extra "insub") (by k_mem) iz9 (by rw [pr.length_eq]; exact l2) fun r h => lb _ (pr.mem_iff.mp h)
theorem hmembers_c {y : Lay} {v : Dy} {σ : HS} {a : Nat} {ta : Tok}
    (B : Below A₀ base outer h₀) (F : Fr h₀ L s.heap m) (X : (Mine.hd.heap_1 w.params).In h₀) (N : News h₀ L s.heap news) (T : Top Mine.hd.view_1 (looseW Mine.hd.view_1 []) mean mg mb h₀) (hk : cs.kind = .function) (hd : dp + 20 < 1000) (hu : un + 140 < 1000) (H : HRep w news y v σ) (hp : Par σ.par) (ha : a < σ.par.length) (hz : σ.par.length ≤ 1000000) (hll : σ.lots.length = σ.par.length) (hlo : ∀ (c : Nat) (l : List Nat), σ.lots[c]? = some l → l.length ≤ 2 ∧ ∀ x ∈ l, x < σ.par.length)
    (ret : ∀ D h' tk' ys c rs news', Fr h₀ L h' m → News h₀ L h' news' → (∀ p ∈ news, p ∈ news') → (D, W.listOf (List.toArray ys) c) ∈ news' → IntsAre ys (toZ rs) → rs.length ≤ 2 → (∀ r ∈ rs, r < σ.par.length) → Q (.ref D) { s with heap := h', toks := tk' }) :
    wpAny (model prog w) (ktrTop dp un gd cn cs L fa ccd cl outer) (call (.ref 359) [.ref y.hI, .int a ta]) Q (fun _ _ => False) s := by
  refine wpAny_call ?_
  k_dflt k_enter
  refine wpAny_noRaise ?_
  k_extra "go|G1"
  refine wpAny_noRaise ?_
  refine' umembers_c ?B ?F ?X ?N ?T ?hk ?hd ?hu ?H hp ha hz hll hlo ?_
  case B => k_asm
  case F => k_asm
  case X => k_asm
  case N => k_asm
  case T => k_asm
  case hk => first | assumption | exact rfl
  case hd => k_extra "room"
  case hu => k_extra "room"
  case H => k_extra "hrep"
  intro D h' tk' ys c rs news' F9 N9 i9 m9 iy ir ly
  k_extra "go|G1"
  rename Fr h₀ L _ m => kF
  rename News h₀ L _ _ => kN
  exact ret _ _ _ _ _ _ _ kF kN (by intro p hp; k_extra "insub") m9 iy ir ly

end
end Mine

open PySem PySem.W PySem.Calls PyProof.Rows PySem.Spec
namespace Mine
section
set_option maxHeartbeats 20000000
example : True := by
  (k_with "ccall|V" => first | (((k_here; (with_reducible refine (?_ : wpAny _ _ (call (Value.ref 359) _) _ _ _)); refine wpAny_noRaise ?_; k_dflt (refine' hmembers_c ?BKK ?FKK ?XKK ?NKK ?TKK ?hkKK ?hdKK ?huKK ?HKK ?hpKK ?haKK ?hzKK ?hllKK ?hloKK ?_; (case BKK => k_asm); (case FKK => k_asm); (case XKK => k_asm); (case NKK => k_asm); (case TKK => k_asm); (case hkKK => first | assumption | exact rfl); (case hdKK => k_extra "room"); (case huKK => k_extra "room"); (case HKK => k_extra "hrep"); (case hpKK => assumption); (case haKK => k_extra "arith"); (case hzKK => k_extra "arith"); (case hllKK => assumption); (case hloKK => assumption)); intro D9k h9k tk9k ys9k c9k rs9k nw9k F9k N9k s9k m9k iy9k lr9k br9k; (try dsimp only)); k_extra "hs")) | fail)
  (k_with "ccall|V" => first | (((k_here; (with_reducible refine (?_ : wpAny _ _ (call (Value.ref 286) _) _ _ _)); refine wpAny_noRaise ?_; k_dflt (refine' node_c ?BKK ?FKK ?XKK ?NKK ?TKK ?hkKK ?hdKK ?huKK ?HKK ?hpKK ?hzKK ?haKK ?hnKK ?hkdKK ?hkzKK ?_; (case BKK => k_asm); (case FKK => k_asm); (case XKK => k_asm); (case NKK => k_asm); (case TKK => k_asm); (case hkKK => first | assumption | exact rfl); (case hdKK => k_extra "room"); (case huKK => k_extra "room"); (case HKK => k_extra "hrep"); (case hpKK => assumption); (case hzKK => k_extra "arith"); (case haKK => k_extra "arith"); (case hnKK => assumption); (case hkdKK => exact fun _ q => nomatch q); (case hkzKK => exact Nat.zero_le _)); intro D9k h9k tk9k t9k rs9k nw9k F9k N9k s9k fr9k m9k iy9k ok9k; (try dsimp only)); k_extra "hs")) | fail)
  trivial
example : True := by
  (k_with "hs" => first | (try (refine hideS ?_; intro sSk)) | fail)
  (k_with "c|G2" => first | (first | (k_extra "?eval"; first | k_extra "keval|2") | (k_extra "?execs"; first | k_extra "kexecs|2") | (k_extra "?call"; first | k_extra "ccall|V" | k_extra "ccall|3" | k_extra "kcall|2") | (k_extra "?getMethod"; first | k_extra "kgetMethod|2") | (k_extra "?getAttr"; first | k_extra "kgetAttr|2") | (k_extra "?callWith"; first | k_extra "kcallWith|2") | (k_extra "?subscriptTail"; first | k_extra "ksubscriptTail|2") | (k_extra "?exec"; first | k_extra "kexec|2") | (k_extra "?newTuple"; first | k_extra "knewTuple|2") | (k_extra "?newList"; first | k_extra "knewList|2") | (k_extra "?binaryOp"; first | k_extra "kbinaryOp|2") | (k_extra "?setItem"; first | k_extra "ksetItem|2") | k_extra "And|2") | fail)
  (k_with "step|G2" => first | (first | k_extra "c|G2" | ((fail_if_success (with_reducible show wpAny _ _ (call (Value.ref _) _) _ _ _)); (fail_if_success (with_reducible show wpAny _ _ (pyIter (Value.ref _)) _ _ _)); (fail_if_success (with_reducible show wpAny _ _ (call (Value.builtin "sorted") _) _ _ _)); (fail_if_success (with_reducible show KswEnd _ _ _ _ _ _ _ _ _ _ _ _)); walk1) | (k_here; k_dflt k_extra "walkin")) | fail)
  (k_with "go|G2" => first | (repeat' k_extra "step|G2") | fail)
  trivial
noncomputable def LeafT (P : Str → Prop) (news : List (Addr × Obj)) (v : Value) : Prop := ∃ a op t, v = .ref a ∧ (a, tupObj [.str op t]) ∈ news ∧ P op ∧ PyData.strOk op = true
theorem LeafT.move {P : Str → Prop} {news news' : List (Addr × Obj)} {v : Value} (x : LeafT P news v) (st : TupStay news news') : LeafT P news' v := let ⟨a, op, t, e, hm, r⟩ := x; ⟨a, op, t, e, st _ _ hm, r⟩
theorem LeafT.key {P : Str → Prop} {news : List (Addr × Obj)} {v : Value} (x : LeafT P news v) : TupKey news v := by
  refine byC fun U0 => ?_
  obtain ⟨a, op, t, rfl, hm, hp, ok⟩ := x
  refine U0 ?_
  clear U0
  exact ⟨a, _, rfl, .tuple (n := 6) hm (.cons (.str _ _ ok) .nil)⟩
theorem LeafT.si {P : Str → Prop} {news : List (Addr × Obj)} {v : Value} (x : LeafT P news v) : TupSI news v := by
  refine byC fun U0 => ?_
  obtain ⟨a, op, t, rfl, hm, hp, ok⟩ := x
  refine U0 ?_
  clear U0
  exact ⟨a, op, t, [], [], rfl, hm, .nil, ok⟩
structure Leafy (P : Str → Prop) (σ : HS) : Prop where
  p : Par σ.par
  n : σ.nodes.length = σ.par.length
  z : σ.par.length ≤ 4
  l : σ.lots.length = σ.par.length
  lo : ∀ (c : Nat) (l : List Nat), σ.lots[c]? = some l → l.length ≤ 2 ∧ ∀ x ∈ l, x < σ.par.length
  f : ∀ (n : Nat) (nd : Nd), σ.nodes[n]? = some nd → nd.2 = [] ∧ P nd.1
theorem srcB_lst {ax : Addr} {us : List Value} {n : Nat} {news : List (Addr × Obj)} (h : (ax, W.listOf us.toArray n) ∈ news) : SrcB ax us false news := ⟨n, h⟩
variable {w : World} {A₀ : Around} {base h₀ : Heap} {outer : List Env} {cn : Str} {cs : Scope} {L fa : Addr} {ccd : Value} {cl : List (Str × Addr)} {m mg mb : Str → Option Value} {mean : ExcName → Option Value} {news : List (Addr × Obj)} {s : Shared} {Q : Value → Shared → Prop} {dp un : Nat} {gd : Option (List Code)}

theorem nodesof_c {P : Str → Prop} {y : Lay} {v : Dy} {σ : HS} {a : Nat} {ta : Tok}
    (B : Below A₀ base outer h₀) (F : Fr h₀ L s.heap m) (X : (Mine.hd.heap_1 w.params).In h₀) (N : News h₀ L s.heap news) (T : Top Mine.hd.view_1 (looseW Mine.hd.view_1 []) mean mg mb h₀) (hk : cs.kind = .function) (hd : dp + 30 < 1000) (hu : un + 240 < 1000) (H : HRep w news y v σ) (Lf : Leafy P σ) (ha : a < σ.par.length)
    (ret : ∀ D h' tk' dr ys c news', Fr h₀ L h' m → News h₀ L h' news' → (∀ p ∈ news, p ∈ news') → (∀ p ∈ news, p.1 ≠ D) → (D, W.listOf (List.toArray ys) c) ∈ news' → (∀ v ∈ ys, LeafT P news' v) → ys.length ≤ 2 → Q (.ref D) { s with heap := h', toks := tk', drawn := dr }) :
    wpAny (model prog w) (ktrTop dp un gd cn cs L fa ccd cl outer) (call (.ref 364) [.ref y.hI, .int a ta]) Q (fun _ _ => False) s := by
  have hp := Lf.p
  have hz : σ.par.length ≤ 1000000 := Nat.le_trans Lf.z (by decide)
  have hll := Lf.l
  have hlo := Lf.lo
  refine wpAny_call ?_
  k_dflt k_enter
  refine wpAny_noRaise ?_
  k_extra "go|G2"
  rename News _ _ _ _ => NX
  rename ∀ p ∈ (_, _) :: news, p ∈ _ => sX
  refine byC fun U0 => ?_
  obtain ⟨nwX, eX⟩ := name_news NX
  subst eX
  refine U0 ?_
  clear U0
  rename (_, W.listOf _ _) ∈ nwX => mX
  rename IntsAre _ _ => iX
  rename ∀ r ∈ _, r < σ.par.length => bX
  have hcX := sX _ mem_hd
  have HX := H.sub (fun p hp => sX p (mem_tl hp))
  have lX := ints_len iX
  refine compG (fun i ys nw => (ys.length = i ∧ ∀ v ∈ ys, LeafT P nw v) ∧ ∀ p ∈ nwX, p ∈ nw) rfl (by assumption) NX (srcB_lst mX) (by lia) ⟨⟨rfl, nofun⟩, fun p hp => hp⟩ (fun i ys nw h => srcB_lst (h.2 _ mX)) (fun i ys nw h => h.1.1) ?_ ?_
  · intro i x ys nw I oI C oC D m₂ h9 tk9 hv P1 hC hx F9 N9 off
    refine byC fun U0 => ?_
    obtain ⟨⟨hl, hls⟩, hk⟩ := P1
    refine U0 ?_
    clear U0
    refine byC fun U0 => ?_
    obtain ⟨n, t, en, rfl⟩ := ints_at iX hv
    have hn := bX n (List.mem_of_getElem? en)
    have hcn := mem_tl (b := (I, oI)) (mem_tl (b := (C, oC)) (mem_tl (b := (D, LCg.lst ys)) (hk _ hcX)))
    have Hn := HX.sub (news' := (I, oI) :: (C, oC) :: (D, LCg.lst ys) :: nw) (fun p hp => mem_tl (mem_tl (mem_tl (hk p hp))))
    obtain ⟨nd, end'⟩ : ∃ nd, σ.nodes[n]? = some nd := ⟨_, List.getElem?_eq_getElem (by rw [Lf.n]; exact hn)⟩
    obtain ⟨ke, hP⟩ := Lf.f _ _ end'
    obtain ⟨op, kids⟩ := nd
    dsimp only at ke hP
    subst ke
    refine U0 ?_
    clear U0
    k_extra "go|G2"
    rename (_, tupObj (Value.str op _ :: _)) ∈ _ => m9
    rename IntsAre _ (toZ (List.map _ [])) => i9
    rename ∀ p ∈ (I, oI) :: _, p ∈ _ => s9
    rename ∀ p ∈ (I, oI) :: _, Prod.fst p ≠ _ => fr9
    rename PyData.strOk op = true => ok9
    rw [ints_zero i9] at m9
    have st : TupStay nw (off3 I C D _) := fun a us h => mem_off3.mpr ⟨s9 _ (mem_tl (mem_tl (mem_tl h))), off _ h⟩
    refine GEnd.intro (by assumption) (by assumption) (off3 I C D _) ?_ (fun p hp => (mem_off3.mp hp).2) ⟨⟨by simp [hl], ?_⟩, fun p hp => mem_off3.mpr ⟨s9 _ (mem_tl (mem_tl (mem_tl (hk p hp)))), off p (hk p hp)⟩⟩
    · intro p hp
      rcases List.mem_cons.mp hp with rfl | hp
      · exact s9 _ mem_hd
      rcases List.mem_cons.mp hp with rfl | hp
      · exact s9 _ (mem_tl mem_hd)
      rcases List.mem_cons.mp hp with rfl | hp
      · exact s9 _ (mem_tl (mem_tl mem_hd))
      · exact (mem_off3.mp hp).1
    · intro x hx
      rcases List.mem_append.mp hx with hx | hx
      · exact (hls x hx).move st
      · rw [List.mem_singleton.mp hx]
        exact ⟨_, op, _, rfl, mem_off3.mpr ⟨m9, fun e => fr9 _ mem_hd e.symm, fun e => fr9 _ (mem_tl mem_hd) e.symm, fun e => fr9 _ (mem_tl (mem_tl mem_hd)) e.symm⟩, hP, ok9⟩
  · intro D ys nw h9 tk9 P2 F9 N9 off
    refine byC fun U0 => ?_
    obtain ⟨⟨hl, hls⟩, hk⟩ := P2
    refine U0 ?_
    clear U0
    have hys : ys.length ≤ 2 := by lia
    have hkey : ∀ x ∈ ys, LeafT P ((D, W.listOf ys.toArray ys.length) :: nw) x := fun x hx => (hls x hx).move .cons
    k_extra "go|G2"
    refine' set_tups ?hh ?hu ?F ?N ?hm (fun x hx => (hkey x hx).key) hys ?_
    case hh => rfl
    case hu => k_extra "unit"
    case F => k_asm
    case N => k_asm
    case hm => exact mem_hd
    intro S h10 tk10 o es hS hes F10 N10 l10
    have hkey2 : ∀ x ∈ es.map (·.2), LeafT P ((S, o) :: (D, W.listOf ys.toArray ys.length) :: nw) x := fun x hx => (hkey x (hes x hx)).move .cons
    k_extra "go|G2"
    refine' sorted_sett ?hh ?hu ?F ?N mem_hd hS (fun x hx => (hkey2 x hx).si) ?_
    case hh => rfl
    case hu => k_extra "unit"
    case F => k_asm
    case N => k_asm
    intro D2 c2 h11 tk11 dr zs hz2 hzl F11 N11 l11
    k_extra "go|G2"
    rename Fr h₀ L _ m => kF
    rename News h₀ L _ _ => kN
    exact ret _ _ _ dr zs _ _ kF kN (fun p hp => by have hp9 := hk _ (sX _ (mem_tl hp)); k_extra "insub") (fun p hp => ne_lt_of l11 (mem_tl (mem_tl (hk _ (sX _ (mem_tl hp)))))) mem_hd (fun x hx => (hkey2 x (hz2 x hx)).move .cons) hzl

end
end Mine

open PySem PySem.W PySem.Calls PyProof.Rows PySem.Spec
namespace Mine
section
set_option maxHeartbeats 20000000
example : True := by
  (k_with "hs" => first | (try (refine hideS ?_; intro sSk)) | fail)
  (k_with "c|I1" => first | (first | (k_extra "?eval"; first | k_extra "keval|2") | (k_extra "?execs"; first | k_extra "kexecs|2") | (k_extra "?call"; first | k_extra "kcall|2") | (k_extra "?getMethod"; first | k_extra "kgetMethod|2") | (k_extra "?getAttr"; first | k_extra "kgetAttr|2") | (k_extra "?callWith"; first | k_extra "kcallWith|2") | (k_extra "?subscriptTail"; first | k_extra "ksubscriptTail|2") | (k_extra "?exec"; first | k_extra "kexec|2") | (k_extra "?newTuple"; first | k_extra "knewTuple|2") | (k_extra "?newList"; first | k_extra "knewList|2") | (k_extra "?binaryOp"; first | k_extra "kbinaryOp|2") | (k_extra "?setItem"; first | k_extra "ksetItem|2") | k_extra "And|2") | fail)
  (k_with "step|I1" => first | (first | k_extra "c|I1" | ((fail_if_success (with_reducible show wpAny _ _ (call (Value.ref _) _) _ _ _)); (fail_if_success (with_reducible show wpAny _ _ (pyIter (Value.ref _)) _ _ _)); (fail_if_success (with_reducible show wpAny _ _ (call (Value.builtin "sorted") _) _ _ _)); (fail_if_success (with_reducible show KswEnd _ _ _ _ _ _ _ _ _ _ _ _)); walk1) | (k_here; k_dflt k_extra "walkin")) | fail)
  (k_with "go|I1" => first | (repeat' k_extra "step|I1") | fail)
  trivial
noncomputable def tok8 (a0 a1 a2 a3 a4 a5 a6 a7 : Tok) (n : Nat) : Tok := match n with | 0 => a0 | 1 => a1 | 2 => a2 | 3 => a3 | 4 => a4 | 5 => a5 | 6 => a6 | _ => a7
noncomputable def emptyS : HS := { nodes := [], par := [], lots := [], known := [], keys := [], above := fun _ => [], wait := [], big := 0, nums := [], wl := 0, dl := 0 }
theorem td_empty {w : World} {news : List (Addr × Obj)} {d : Addr} {o : Obj} (lo : (d == sysModules) = false) (hm : (d, o) ∈ news) (h : o.IsDictOf (intKind prog w) []) : TDI w news d [] := by
  refine byC fun U0 => ?_
  obtain ⟨es, ep, hc, hd, hk, hp⟩ := h
  refine U0 ?_
  clear U0
  refine ⟨[], ⟨lo, o, es, ep, hm, hc, hd, ?_, by simp, by simp⟩, trivial⟩
  have := hp.1.length
  simpa using this
theorem ints_empty {news : List (Addr × Obj)} {a : Addr} {n : Nat} (hm : (a, W.listOf #[] n) ∈ news) : IsInts news a [] := ⟨[], n, hm, .nil⟩
theorem some_empty {news : List (Addr × Obj)} {a : Addr} {n : Nat} (hm : (a, W.listOf #[] n) ∈ news) : IsSome news a 0 := ⟨[], n, hm, by simp⟩
theorem hrep_empty {w : World} {news : List (Addr × Obj)} {y : Lay} {n1 n2 n3 n4 n5 n6 n7 n8 n9 : Nat} (f : Fixed w news y) (c : y.Chain) (m1 : (y.nL, W.listOf #[] n1) ∈ news) (m2 : TDI w news y.nD []) (m3 : (y.wL, W.listOf #[] n2) ∈ news) (m4 : (y.dL, W.listOf #[] n3) ∈ news)
    (m5 : (y.paL, W.listOf #[] n4) ∈ news) (m6 : (y.loL, W.listOf #[] n5) ∈ news) (m7 : (y.mgL, W.listOf #[] n6) ∈ news) (m8 : (y.eL, W.listOf #[] n7) ∈ news) (m9 : (y.fL, W.listOf #[] n8) ∈ news) (m10 : TDI w news y.kD []) (m11 : ID prog w news y.aD []) (m12 : (y.waL, W.listOf #[] n9) ∈ news) :
    HRep w news y ⟨[], fun _ => 0⟩ emptyS where
  fx := f
  cm := fun e => by
    cases e with
    | nodes => exact ⟨[], n1, m1, .nil⟩
    | numbers => exact m2
    | weights => exact ⟨[], ints_empty m3, rfl⟩
    | depths => exact ⟨[], ints_empty m4, rfl⟩
    | par => exact ints_empty m5
    | lots => exact ⟨n5, m6⟩
    | merged => exact some_empty m7
    | edges => exact some_empty m8
    | forest => exact some_empty m9
    | known => exact m10
    | above => exact m11
    | wait => exact ints_empty m12
  dy := ⟨fun i a l h => by simp at h, fun c h => by cases h⟩
  ap := ⟨c, rfl, by simp, by simp [emptyS], (by intro c h; cases h), (by intro c h; cases h), (by intro c h; cases h), (by intro c h; cases h)⟩
theorem own_empty {w : World} {news : List (Addr × Obj)} {y : Lay} {f : Nat → Nat} (H : HRep w news y ⟨[], f⟩ emptyS) (x : Nat) (h : y.own ⟨[], f⟩ emptyS x) : y.hD ≤ x := by
  rcases h with h | h | ⟨c, hc, -⟩
  · exact H.ap.chain.lo h
  · cases h
  · cases hc
section
variable {w : World} {A : Around} {E : Value → Shared → Prop} {s : Shared} {h₀ h : Heap} {L x : Addr} {m : Str → Option Value} {news : List (Addr × Obj)} {K : Frag} {C dx : Addr} {name : Str} {v : Value}
theorem set_dict_V {es es' : List DictEntry} {n n' : Nat} {Q : Unit → Shared → Prop} (F : Fr h₀ L s.heap m) (X₀ : K.In h₀) (N : News h₀ L s.heap news) (hx : dx < x) (h1 : (x, instObj C dx) ∈ news) (h2 : (dx, dictOf es n) ∈ news)
    (hs : findIn K (.ref C) "__setattr__" = some (some (.builtin "object.__setattr__"))) (hp : plainOver K C = true) (ht : takerIn K C name = some none) (hh : hasDictIn K C = true) (hl : (getL name es).isSome = true)
    (e : (putL name (PyData.keyHash w.params name) (.str name (s.toks + 1)) v es, putN name es n) = (es', n')) (hz : es'.length ≤ 1000)
    (h : ∀ h' tk nw', Fr h₀ L h' m → News h₀ L h' nw' → (x, instObj C dx) ∈ nw' → (dx, dictOf es' n') ∈ nw' → (∀ p ∈ news, p.1 ≠ dx → p ∈ nw') → Q () { s with heap := h', toks := tk }) :
    wpAny (model prog w) A (setAttr (.ref x) name v) Q E s :=
  have N2 := news_front N h2
  set_dict F X₀ N2 (InstAt.of_news N h1 h2) rfl hs hp ht hh hl e upd_front hz fun h' F' N' => h h' _ _ F' N' (put_of h1 (Nat.ne_of_gt hx)) put_self fun p hp q => put_of hp q
end
theorem memS {A B : List (Addr × Obj)} {d : Addr} {p : Addr × Obj} (s : ∀ p ∈ A, p.1 ≠ d → p ∈ B) (hn : p.1 ≠ d) (hm : p ∈ A) : p ∈ B := s p hm hn
theorem ltM {A : List (Addr × Obj)} {c d : Nat} (a : ∀ p ∈ A, p.1 < c) (hm : ∃ o, (d, o) ∈ A) : d < c := let ⟨_, hm⟩ := hm; a _ hm
theorem neM {A : List (Addr × Obj)} {c d : Nat} {ob : Obj} (a : ∀ p ∈ A, p.1 < c) (hm : ∃ o, (d, o) ∈ A) : ((c, ob) : Addr × Obj).1 ≠ d := let ⟨_, hm⟩ := hm; Nat.ne_of_gt (a _ hm)
noncomputable def SubOff (A : List (Addr × Obj)) (d : Nat) (B : List (Addr × Obj)) : Prop := ∀ p ∈ A, p.1 ≠ d → p ∈ B
theorem SubOff.cell {A B : List (Addr × Obj)} {d c : Nat} {ob : Obj} (S : SubOff A d B) (hm : (c, ob) ∈ A) (h : d < c) : (c, ob) ∈ B := S _ hm (Nat.ne_of_gt h)
theorem mkS {w : World} {h₀ h : Heap} {L : Addr} {A B : List (Addr × Obj)} {d : Addr} {x : Addr × Obj} {t : Nat → Tok} {b u e f k a wa : Addr} {tz : Tok} (_ : x ∈ A) (_ : News h₀ L h B) (_ : (d, heD w t b u e f k a wa tz) ∈ B) (h : ∀ p ∈ A, p.1 ≠ d → p ∈ B) : SubOff A d B := h
theorem neQ {c d : Nat} {ob : Obj} (h : d < c) : ((c, ob) : Addr × Obj).1 ≠ d := Nat.ne_of_gt h
theorem neP {A : List (Addr × Obj)} {d : Nat} {p : Addr × Obj} (a : ∀ p ∈ A, p.1 < d) (hm : p ∈ A) : p.1 ≠ d := Nat.ne_of_lt (a _ hm)
example : True := by
  (k_with "hm" => first | (with_reducible first | assumption | exact mem_hd | (refine mem_tl ?_; k_extra "hm") | (refine mem_sub (by assumption) ?_; k_extra "hm") | (refine' memS (by assumption) ?nnKK ?hhKK; (case nnKK => k_extra "nelt"); (case hhKK => k_extra "hm"))) | fail)
  (k_with "hm0" => first | (with_reducible first | assumption | exact mem_hd | (refine mem_tl ?_; k_extra "hm0")) | fail)
  (k_with "nelt" => first | (with_reducible first | assumption | exact neP (by assumption) (by assumption) | exact neQ (by assumption) | exact neM (by assumption) ⟨_, by k_extra "hm0"⟩) | fail)
  (k_with "c|I1" => first | ((k_here; (with_reducible refine (?_ : wpAny _ _ (setAttr (Value.ref _) _ _) _ _ _)); k_dflt (refine' set_dict_V ?k1KK ?k2KK ?k3KK ?kxKK ?k4KK ?k5KK ?k6KK ?k7KK ?k8KK ?k9KK ?k10KK ?k11KK ?k12KK ?_; (case k1KK => k_asm); (case k2KK => k_asm); (case k3KK => k_asm); (case k4KK => k_mem); (case k5KK => k_mem); (case kxKK => assumption); (case k6KK => k_is); (case k7KK => k_is); (case k8KK => k_is); (case k9KK => k_is); (case k10KK => k_get); (case k11KK => k_put); (case k12KK => exact Nat.le_of_ble_eq_true rfl)); intro h9k tk9k nw9k F9k N9k i9k d9k s9k; (try k_sweep))) | fail)
  trivial

variable {w : World} {A₀ : Around} {base h₀ : Heap} {outer : List Env} {cn : Str} {cs : Scope} {L fa : Addr} {ccd : Value} {cl : List (Str × Addr)} {m mg mb : Str → Option Value} {mean : ExcName → Option Value} {news : List (Addr × Obj)} {s : Shared} {Q : Value → Shared → Prop} {dp un : Nat} {gd : Option (List Code)}

theorem bank_new
    (B : Below A₀ base outer h₀) (F : Fr h₀ L s.heap m) (X : (Mine.hd.heap_1 w.params).In h₀) (N : News h₀ L s.heap news) (T : Top Mine.hd.view_1 (looseW Mine.hd.view_1 []) mean mg mb h₀) (hk : cs.kind = .function) (hd : dp + 8 < 1000) (hu : un + 80 < 1000) (ret : ∀ (bD bI nL nD wL dL : Nat) (t : Nat → Tok) (n1 n2 n3 : Nat) h' tk' nw', Fr h₀ L h' m → News h₀ L h' nw' → (bI, instObj 174 bD) ∈ nw' → (bD, baD w t nL nD wL dL) ∈ nw' → (nL, W.listOf #[] n1) ∈ nw' → ∀ oN, (nD, oN) ∈ nw' → (nD == sysModules) = false → oN.IsDictOf (intKind prog w) [] → (wL, W.listOf #[] n2) ∈ nw' → (dL, W.listOf #[] n3) ∈ nw' → (∀ p ∈ news, p ∈ nw') → (∀ p ∈ news, p.1 < bD) → bD < bI ∧ bI < nL ∧ nL < nD ∧ nD < wL ∧ wL < dL → Q (.ref bI) { s with heap := h', toks := tk' }) :
    wpAny (model prog w) (ktrTop dp un gd cn cs L fa ccd cl outer) (call (.ref 174) []) Q (fun _ _ => False) s := by
  k_dflt walk1
  k_extra "go|I1"
  rename Fr h₀ L _ m => kF
  rename News h₀ L _ _ => kN
  refine' ret _ _ _ _ _ _ (tok8 ?a0 ?a1 ?a2 ?a3 0 0 0 0) _ _ _ _ _ _ kF kN ?i3 ?i4 ?m1 _ ?m2 (by assumption) (by assumption) ?m3 ?m4 ?sub (by assumption) ⟨?l1, ?l2, ?l3, ?l4, ?l5⟩
  case i4 => assumption
  case i3 => assumption
  case m1 => k_extra "hm"
  case m2 => k_extra "hm"
  case m3 => k_extra "hm"
  case m4 => k_extra "hm"
  case sub => intro p hp; k_extra "hm"
  case l1 => assumption
  all_goals first | exact (0 : Tok) | (refine' ltM (by assumption) ⟨_, ?hm7⟩; (case hm7 => k_extra "hm"))
theorem unions_new
    (B : Below A₀ base outer h₀) (F : Fr h₀ L s.heap m) (X : (Mine.hd.heap_1 w.params).In h₀) (N : News h₀ L s.heap news) (T : Top Mine.hd.view_1 (looseW Mine.hd.view_1 []) mean mg mb h₀) (hk : cs.kind = .function) (hd : dp + 8 < 1000) (hu : un + 80 < 1000) (ret : ∀ (uD uI paL loL mgL : Nat) (t : Nat → Tok) (n1 n2 n3 : Nat) h' tk' nw', Fr h₀ L h' m → News h₀ L h' nw' → (uI, instObj 256 uD) ∈ nw' → (uD, unD w t paL loL mgL) ∈ nw' → (paL, W.listOf #[] n1) ∈ nw' → (loL, W.listOf #[] n2) ∈ nw' → (mgL, W.listOf #[] n3) ∈ nw' → (∀ p ∈ news, p ∈ nw') → (∀ p ∈ news, p.1 < uD) → uD < uI ∧ uI < paL ∧ paL < loL ∧ loL < mgL → Q (.ref uI) { s with heap := h', toks := tk' }) :
    wpAny (model prog w) (ktrTop dp un gd cn cs L fa ccd cl outer) (call (.ref 256) []) Q (fun _ _ => False) s := by
  k_dflt walk1
  k_extra "go|I1"
  rename Fr h₀ L _ m => kF
  rename News h₀ L _ _ => kN
  refine' ret _ _ _ _ _ (tok8 ?a0 ?a1 ?a2 0 0 0 0 0) _ _ _ _ _ _ kF kN ?i3 ?i4 ?m1 ?m3 ?m4 ?sub (by assumption) ⟨?l1, ?l2, ?l3, ?l4⟩
  case i4 => assumption
  case i3 => assumption
  case m1 => k_extra "hm"
  case m3 => k_extra "hm"
  case m4 => k_extra "hm"
  case sub => intro p hp; k_extra "hm"
  case l1 => assumption
  all_goals first | exact (0 : Tok) | (refine' ltM (by assumption) ⟨_, ?hm7⟩; (case hm7 => k_extra "hm"))
example : True := by
  (k_with "c|I1" => first | ((k_here; (with_reducible refine (?_ : wpAny _ _ (call (Value.ref 174) _) _ _ _)); refine wpAny_noRaise ?_; k_dflt (refine' bank_new ?BKK ?FKK ?XKK ?NKK ?TKK ?hkKK ?hdKK ?huKK ?_; (case BKK => k_asm); (case FKK => k_asm); (case XKK => k_asm); (case NKK => k_asm); (case TKK => k_asm); (case hkKK => first | assumption | exact rfl); (case hdKK => k_extra "room"); (case huKK => k_extra "room")); intro bD9k bI9k nL9k nD9k wL9k dL9k t9k n91k n92k n93k h9k tk9k nw9k F9k N9k i9k d9k m91k oN9k m92k lo9k id9k m93k m94k s9k a9k c9k; (try dsimp only); (try k_sweep))) | fail)
  (k_with "c|I1" => first | ((k_here; (with_reducible refine (?_ : wpAny _ _ (call (Value.ref 256) _) _ _ _)); refine wpAny_noRaise ?_; k_dflt (refine' unions_new ?BKK ?FKK ?XKK ?NKK ?TKK ?hkKK ?hdKK ?huKK ?_; (case BKK => k_asm); (case FKK => k_asm); (case XKK => k_asm); (case NKK => k_asm); (case TKK => k_asm); (case hkKK => first | assumption | exact rfl); (case hdKK => k_extra "room"); (case huKK => k_extra "room")); intro uD9k uI9k pa9k lo9k mg9k t9k n91k n92k n93k h9k tk9k nw9k F9k N9k i9k d9k m91k m92k m93k s9k a9k c9k; (try dsimp only); (try k_sweep))) | fail)
  trivial

theorem heap_new
    (B : Below A₀ base outer h₀) (F : Fr h₀ L s.heap m) (X : (Mine.hd.heap_1 w.params).In h₀) (N : News h₀ L s.heap news) (T : Top Mine.hd.view_1 (looseW Mine.hd.view_1 []) mean mg mb h₀) (hk : cs.kind = .function) (hd : dp + 20 < 1000) (hu : un + 200 < 1000) (ret : ∀ (y : Lay) (v : Dy) h' tk' news', Fr h₀ L h' m → News h₀ L h' news' → HRep w news' y v emptyS → (∀ p ∈ news, p ∈ news') → (∀ p ∈ news, p.1 < y.hD) → (∀ x : Nat, y.own v emptyS x → y.hD ≤ x) → Q (.ref y.hI) { s with heap := h', toks := tk' }) :
    wpAny (model prog w) (ktrTop dp un gd cn cs L fa ccd cl outer) (call (.ref 386) []) Q (fun _ _ => False) s := by
  k_dflt walk1
  refine wpAny_noRaise ?_
  k_extra "go|I1"
  rename Fr h₀ L _ m => kF
  rename News h₀ L _ _ => kN
  rename _ ∧ _ ∧ _ ∧ _ ∧ _ => cb
  refine byC fun U0 => ?_
  obtain ⟨b1, b2, b3, b4, b5⟩ := cb
  rename _ ∧ _ ∧ _ ∧ _ => cu
  obtain ⟨u1, u2, u3, u4⟩ := cu
  refine U0 ?_
  clear U0
  rename Obj.IsDictOf (intKind prog w) _ [] => iA
  revert iA
  rename Obj.IsDictOf (intKind prog w) _ [] => iK
  intro iA
  rename ∀ p ∈ (_, instObj 386 _) :: _, p.1 < _ => aB
  have e0 := ltM aB ⟨_, mem_tl mem_hd⟩
  have e1 := Nat.lt_trans e0 b1
  have e2 := Nat.lt_trans e1 b2
  have e3 := Nat.lt_trans e2 b3
  have e4 := Nat.lt_trans e3 b4
  have e5 := Nat.lt_trans e4 b5
  rename ∀ p : Addr × Obj, p ∈ _ → p.1 < uD9k => aU
  have f0 : _ < uD9k := ltM aU ⟨_, by assumption⟩
  have f1 := Nat.lt_trans f0 u1
  have f2 := Nat.lt_trans f1 u2
  have f3 := Nat.lt_trans f2 u3
  have f4 := Nat.lt_trans f3 u4
  rename (uI9k, instObj 256 uD9k) ∈ _ => iU
  rename (bI9k, instObj 174 bD9k) ∈ _ => iB
  have S6 := mkS (t := tok8 _ _ _ _ _ _ _ _) iU kN (by assumption) fun p hp hq => by k_extra "hm"
  have S8 := mkS (t := tok8 _ _ _ _ _ _ _ _) iB kN (by assumption) fun p hp hq => S6 p (by k_extra "hm") hq
  refine' ret (Lay.mk ?hD _ bD9k bI9k nL9k nD9k wL9k dL9k uD9k uI9k pa9k lo9k mg9k ?eL ?fL ?kD ?aD ?waL (tok8 ?c0 ?c1 ?c2 ?c3 ?c4 ?c5 ?c6 ?c7) ?tb ?tu ?tz) ⟨[], fun _ => 0⟩ _ _ _ kF kN ?H ?sub ?fr (own_empty ?H)
  case H =>
    refine' hrep_empty (f := ⟨?i1, ?i2, ?i3, ?i4, ?i5, ?i6⟩) ?c ?m1 ?m2 ?m3 ?m4 ?m5 ?m6 ?m7 ?m8 ?m9 ?m10 ?m11 ?m12
    case i2 => assumption
    case i1 => assumption
    case i3 => exact S8.cell iB (by assumption)
    case i4 => exact S8.cell (by assumption) (by assumption)
    case i5 => exact S6.cell iU (by assumption)
    case i6 => exact S6.cell (by assumption) (by assumption)
    case m1 => exact S8.cell (by assumption) (by assumption)
    case m2 =>
      refine' td_empty (o := oN9k) (by assumption) ?q1 (by assumption)
      exact S8.cell (by assumption) (by assumption)
    case m3 => exact S8.cell (by assumption) (by assumption)
    case m4 => exact S8.cell (by assumption) (by assumption)
    case m5 => exact S6.cell (by assumption) (by assumption)
    case m6 => exact S6.cell (by assumption) (by assumption)
    case m7 => exact S6.cell (by assumption) (by assumption)
    case m8 => k_extra "hm"
    case m9 => k_extra "hm"
    case m10 =>
      refine' td_empty (by assumption) ?q2 iK
      (try dsimp only)
      k_extra "hm"
    case m11 =>
      refine' ⟨by assumption, _, ?q5, iA⟩
      (try dsimp only)
      k_extra "hm"
    case m12 => k_extra "hm"
    case c => constructor <;> (dsimp only; first | assumption | (refine' ltM (by assumption) ⟨_, ?hm7⟩; (case hm7 => k_extra "hm")))
  case sub => intro p hp; k_extra "hm"
  case fr => assumption
  all_goals exact (0 : Tok)

end
end Mine

open PySem PySem.W PySem.Calls PyProof.Rows PySem.Spec
namespace Mine
section
set_option maxHeartbeats 20000000
example : True := by
  (k_with "k_mem" => first | (first | (with_reducible exact Kept.keep (by assumption) _ (by assumption) (by assumption)) | fail) | fail)
  (k_with "ccall|A" => first | (((k_here; (with_reducible refine (?_ : wpAny _ _ (call (Value.ref 98) _) _ _ _)); refine wpAny_noRaise ?_; k_dflt (refine' take_c ?BKK ?FKK ?XKK ?NKK ?TKK ?hkKK ?hdKK ?huKK ?HKK ?KKK ?hopKK ?hkdKK ?hvsKK ?hklKK ?hkbKK ?hzKK ?hnKK ?hwKK ?hdlKK ?_ ?_; (case BKK => k_asm); (case FKK => k_asm); (case XKK => k_asm); (case NKK => k_asm); (case TKK => k_asm); (case hkKK => first | assumption | exact rfl); (case hdKK => k_extra "room"); (case huKK => k_extra "room"); (case HKK => k_extra "hrep"); (case KKK => k_extra "kept"); (case hopKK => assumption); (case hkdKK => k_mem); (case hvsKK => assumption); (case hklKK => assumption); (case hkbKK => assumption); (case hzKK => k_extra "arith"); (case hnKK => assumption); (case hwKK => assumption); (case hdlKK => assumption)); all_goals (first | (intro (e9k : ¬ _) t9k h9k tk9k nw9k F9k N9k H9k K9k st9k) | (intro i9k t9k h9k tk9k nw9k e9k F9k N9k H9k K9k st9k; have lt9k := lt_get e9k)); all_goals (try dsimp only); all_goals (try k_sweep)); k_extra "hs")) | fail)
  (k_with "ccall|A" => first | (((k_here; (with_reducible refine (?_ : wpAny _ _ (call (Value.ref 199) _) _ _ _)); refine wpAny_noRaise ?_; k_dflt (refine' make_c ?BKK ?FKK ?XKK ?NKK ?TKK ?hkKK ?hdKK ?huKK ?HKK ?KKK ?hlKK ?hzKK ?_; (case BKK => k_asm); (case FKK => k_asm); (case XKK => k_asm); (case NKK => k_asm); (case TKK => k_asm); (case hkKK => first | assumption | exact rfl); (case hdKK => k_extra "room"); (case huKK => k_extra "room"); (case HKK => k_extra "hrep"); (case KKK => k_extra "kept"); (case hlKK => assumption); (case hzKK => k_extra "arith")); intro t9k h9k tk9k v9k nw9k F9k N9k H9k K9k st9k; (try dsimp only); (try k_sweep)); k_extra "hs")) | fail)
  (k_with "kcall|A" => first | (((with_reducible refine (?_ : wpAny _ _ (call (Value.type "set") _ _) _ _ _)); ((k_here; (with_reducible refine (?_ : wpAny _ _ (call (Value.type _) [Value.ref _]) _ _ _)); k_dflt (refine' set_ints ?hhKK ?huKK ?FKK ?NKK ?hmKK ?hIKK ?h2KK ?_; (case hhKK => rfl); (case huKK => k_extra "unit"); (case FKK => k_asm); (case NKK => k_asm); (case hmKK => k_mem); (case hIKK => assumption); (case h2KK => assumption)); intro S9k h9k tk9k o9k es9k ds9k hS9k iS9k nS9k mS9k F9k N9k l1k; (try dsimp only)); k_extra "hs"))) | fail)
  (k_with "kcall|A" => first | (((with_reducible refine (?_ : wpAny _ _ (call (Value.type "set") _ _) _ _ _)); ((k_here; (with_reducible refine (?_ : wpAny _ _ (call (Value.type _) [Value.ref _]) _ _ _)); k_dflt (refine' set_ints ?hhKK ?huKK ?FKK ?NKK ?hmKK ?hIKK ?h2KK ?_; (case hhKK => rfl); (case huKK => k_extra "unit"); (case FKK => k_asm); (case NKK => k_asm); (case hmKK => k_mem); (case hIKK => assumption); (case h2KK => assumption)); intro S9k h9k tk9k o9k es9k ds9k hS9k iS9k nS9k mS9k F9k N9k l1k; (try dsimp only)); k_extra "hs"))) | fail)
  (k_with "kcall|A" => first | (((with_reducible refine (?_ : wpAny _ _ (call (Value.builtin "sorted") _ _) _ _ _)); ((k_here; (with_reducible refine (?_ : wpAny _ _ (call (Value.builtin _) [Value.ref _]) _ _ _)); k_dflt (refine' sorted_seti ?hhKK ?FKK ?NKK ?hSKK ?hOKK ?hIKK ?_; (case hhKK => rfl); (case FKK => k_asm); (case NKK => k_asm); (case hSKK => exact mem_hd); (case hOKK => assumption); (case hIKK => assumption)); intro D9k c9k h9k tk9k vs9k ds9k iv9k pv9k F9k N9k l1k; (try dsimp only)); k_extra "hs"))) | fail)
  (k_with "keyin" => first | (assumption) | fail)
  (k_with "arith" => first | ((dsimp only [unite, mkU]; first | assumption | (first | lia | omega))) | fail)
  (k_with "kexec|D" => first | (((with_reducible refine (?_ : wpAny _ _ (exec (Stmt.For _ _ _ _ _) _) _ _ _)); (k_here; (with_unfolding_all refine' For_D ?_ ?s9KK ?e9KK; (case s9KK => (intro _; rfl)); (case e9KK => exact PassesOwn.never))))) | fail)
  (k_with "cexec|D" => first | ((k_here; (with_reducible refine (?_ : wpAny _ _ (exec (Stmt.For _ _ _ _ _) _) _ _ _)); (with_unfolding_all refine' For_D ?_ ?s9KK ?e9KK; (case s9KK => (intro _; rfl)); (case e9KK => exact PassesOwn.never)))) | fail)
  trivial
example : True := by
  (k_with "hs" => first | (skip) | fail)
  (k_with "c|A1" => first | (first | (k_extra "?eval"; first | k_extra "keval|2") | (k_extra "?execs"; first | k_extra "kexecs|2") | (k_extra "?call"; first | k_extra "ccall|A" | k_extra "ccall|6" | k_extra "ccall|5" | k_extra "ccall|3" | k_extra "kcall|A" | k_extra "kcall|5" | k_extra "kcall|2") | (k_extra "?getMethod"; first | k_extra "kgetMethod|2") | (k_extra "?getAttr"; first | k_extra "kgetAttr|2") | (k_extra "?callWith"; first | k_extra "kcallWith|2") | (k_extra "?subscriptTail"; first | k_extra "ksubscriptTail|2") | (k_extra "?exec"; first | k_extra "cexec|D" | k_extra "kexec|D" | k_extra "kexec|2") | (k_extra "?newTuple"; first | k_extra "knewTuple|2") | (k_extra "?newList"; first | k_extra "knewList|2") | (k_extra "?binaryOp"; first | k_extra "kbinaryOp|2") | (k_extra "?setItem"; first | k_extra "ksetItem|2") | k_extra "And|2") | fail)
  (k_with "step|A1" => first | (first | k_extra "c|A1" | ((fail_if_success (with_reducible show wpAny _ _ (call (Value.ref _) _) _ _ _)); (fail_if_success (with_reducible show wpAny _ _ (pyIter (Value.ref _)) _ _ _)); (fail_if_success (with_reducible show wpAny _ _ (call (Value.builtin "sorted") _) _ _ _)); (fail_if_success (with_reducible show KswEnd _ _ _ _ _ _ _ _ _ _ _ _)); walk1) | (k_here; k_dflt k_extra "walkin")) | fail)
  (k_with "go|A1" => first | (repeat' k_extra "step|A1") | fail)
  trivial
variable {w : World} {A₀ : Around} {base h₀ : Heap} {outer : List Env} {cn : Str} {cs : Scope} {L fa : Addr} {ccd : Value} {cl : List (Str × Addr)} {m mg mb : Str → Option Value} {mean : ExcName → Option Value} {news : List (Addr × Obj)} {s : Shared} {Q : Value → Shared → Prop} {dp un : Nat} {gd : Option (List Code)}

variable {news₀ : List (Addr × Obj)} {v₀ : Dy} {σ₀ : HS}
theorem add_c {y : Lay} {v : Dy} {σ : HS} {op : Str} {t : Tok} {kd : Addr} {vs : List Value} {kids : List Nat} {b : Nat}
    (B : Below A₀ base outer h₀) (F : Fr h₀ L s.heap m) (X : (Mine.hd.heap_1 w.params).In h₀) (N : News h₀ L s.heap news) (T : Top Mine.hd.view_1 (looseW Mine.hd.view_1 []) mean mg mb h₀) (hk : cs.kind = .function) (hd : dp + 30 < 1000) (hu : un + 300 < 1000) (H : HRep w news y v σ) (K : Kept y v₀ σ₀ v σ news₀ news) (O : Ok b σ) (hb : b ≤ 900) (hlen : σ.par.length ≤ 11) (hop : OpOk op) (hkd : (kd, tupObj vs) ∈ news) (hvs : IntsAre vs (toZ kids)) (hkl : kids.length ≤ 2) (hkb : ∀ k ∈ kids, k < σ.nodes.length)
    (ret1 : ∀ i t h' tk' news', σ.nodes[i]? = some (op, kids) → Fr h₀ L h' m → News h₀ L h' news' → HRep w news' y v σ → Kept y v₀ σ₀ v σ news₀ news' → TupStay news news' → Q (.int (i : Nat) t) { s with heap := h', toks := tk' })
    (ret2 : (op, kids) ∉ σ.nodes → ∀ t h' tk' v' news', Fr h₀ L h' m → News h₀ L h' news' → HRep w news' y v' (addS σ (op, kids)) → Kept y v₀ σ₀ v' (addS σ (op, kids)) news₀ news' → TupStay news news' → Q (.int (σ.par.length : Nat) t) { s with heap := h', toks := tk' }) :
    wpAny (model prog w) (ktrTop dp un gd cn cs L fa ccd cl outer) (call (.ref 291) [.ref y.hI, .str op t, .ref kd]) Q (fun _ _ => False) s := by
  have hz : σ.nodes.length ≤ 1000 := by have := O.nodes; lia
  have on := O.nums
  have ow := O.wl
  have od := O.dl
  have onl := O.nodes
  have olt := O.lots
  refine wpAny_call ?_
  k_dflt k_enter
  refine wpAny_noRaise ?_
  rename News _ _ _ ((_, _) :: news) => NE
  rename ∀ p ∈ news, p.1 < _ => lc
  have K2 := kept_here (y := y) (v := v) (σ := σ) NE
  have hnc := not_own_of H (d := _ + 1) (fun p hp => Nat.lt_succ_of_lt (lc p hp))
  have hcell := cell_of lc NE mem_hd
  have hnk : σ.par.length ∉ σ.keys := fun q => Nat.lt_irrefl _ (O.keys _ q).1
  have hnk2 : σ.nodes.length ∉ σ.keys := onl ▸ hnk
  have hkz : σ.keys.length ≤ 900000 := by have := (O.small (by lia)).keys; lia
  have hpp := par_app O.par
  k_extra "go|A1"
  · rename _[_]? = some (op, kids) => eg
    rename Fr h₀ L _ m => kF
    rename News h₀ L _ _ => kN
    rename HRep w _ y v σ => kH
    rename Kept y v σ v σ _ _ => kK
    rename TupStay _ _ => kT
    exact ret1 _ _ _ _ _ eg kF kN kH ((K.more (by intro p9 hp9; k_extra "insub")).trans kK) (TupStay.trans (fun a9 b9 c9 => by k_extra "insub") kT)
  have hvl := ints_len hvs
  refine compPure (fun i y => ∃ (k : Nat) (t : Tok), (kids.map (root σ.par))[i]? = some k ∧ y = .int (k : Int) t) rfl (by assumption) (by assumption) (.tup (us := vs) (by k_mem)) (by lia) ?_ ?_
  · intro i v J C oC m₂ h9 tk9 hv hJ hC hx F9 N9
    refine byC fun U0 => ?_
    obtain ⟨k, tt, eK, rfl⟩ := ints_at hvs hv
    refine U0 ?_
    clear U0
    have hk9 := hkb k (List.mem_of_getElem? eK)
    have hk10 : k < (σ.par ++ [σ.par.length]).length := by simp; lia
    have hl10 : (σ.par ++ [σ.par.length]).length ≤ 1000000 := by simp; lia
    k_extra "go|A1"
    exact PEnd.intro (by assumption) (by assumption) ⟨root σ.par k, _, by rw [List.getElem?_map, eK]; rfl, by first | rfl | (show Value.int ((root (σ.par ++ [σ.par.length]) k : Nat) : Int) _ = _; rw [root_app])⟩
  intro D ys h9 tk9 hl hy F9 N9 hD
  have iy : IntsAre ys (toZ (kids.map (root σ.par))) := ints_of_at (by rw [hl, hvl, List.length_map]) hy
  clear hy
  have ikl : (kids.map (root σ.par)).length ≤ 2 := by rw [List.length_map]; exact hkl
  k_extra "go|A1"
  rename Dy => v1
  rename HRep w _ y { las := v1.las, ab := _ } _ => H1
  rename Kept y v σ { las := v1.las, ab := _ } _ _ _ => K1
  rename Fr _ _ _ _ => FZ
  rename News _ _ _ _ => NZ
  rename IntsAre _ (toZ _) => iz
  rename List.Perm _ _ => pz
  rename List.Nodup _ => nz
  rename ∀ x, x ∈ _ ↔ x ∈ List.map (root σ.par) kids => mz
  rename ∀ p ∈ (_, _) :: (_, _) :: _, Prod.fst p < _ => lz
  rw [onl] at H1 K1
  generalize ({ las := v1.las, ab := _ } : Dy) = v2 at H1 K1
  have H2 := up_H (σ := σ) (nd := (op, kids)) H1
  have K3 := up_K (σ := σ) (nd := (op, kids)) K1
  clear H1 K1
  refine byC fun U0 => ?_
  obtain ⟨hc1, hnc1⟩ := K3.cell hcell hnc
  have hnD := not_own_of H2.cons.cons lz
  have hcs := fun (c : Nat) hc => show c ∈ σ.keys from by
    obtain ⟨k, hk, rfl⟩ := List.mem_map.mp ((mz c).mp (pz.mem_iff.mp hc))
    exact O.roots k (by have := hkb k hk; lia)
  have hnd := pz.nodup_iff.mpr nz
  have hZ : ∀ c, (σ.above c).length ≤ 24 := O.ab
  have il := ints_len iz
  have hcL := mem_of_news NZ (.tail _ (.tail _ (.tail _ hc1)))
  have hmD := mem_of_news NZ (.head _)
  obtain ⟨nwL, eL⟩ := name_news NZ
  obtain ⟨ds, eds⟩ := name_ints iz
  refine U0 ?_
  clear U0
  rw [← eL] at NZ hcL hmD
  rw [← eds] at iz
  have HL : HRep w nwL y v2 (upS σ (op, kids) []) := by rw [eL]; exact H2.cons.cons.cons
  have KL := kept_here (y := y) (v := v2) (σ := upS σ (op, kids) []) NZ
  have tX : TupStay news nwL := by intro a9 b9 c9; rw [eL]; k_mem
  have KX : Kept y v σ v2 (upS σ (op, kids) []) news nwL := (K3.more (news' := nwL) (by intro p hp; rw [eL]; exact .tail _ (.tail _ (.tail _ hp)))).cons
  rw [← eds] at hnd
  k_dflt (refine' for_F (σ := HS × List (Addr × Obj)) (fun c => c.2) (fun _ => s.drawn) (fun i c => c.1 = upS σ (op, kids) (List.take i ds) ∧ HRep w c.2 y v2 c.1 ∧ Kept y v2 (upS σ (op, kids) []) v2 c.1 nwL c.2 ∧ TupStay nwL c.2) (upS σ (op, kids) [], nwL) rfl ?hx ?hpl ?It ?fix ?i0 ?_ ?_)
  case hx => rfl
  case hpl => rfl
  case It => exact iterG_list rfl FZ NZ hmD
  case fix => intro i c hc p hp; rw [List.mem_singleton.mp hp]; exact (hc.2.2.1.cell hmD hnD).1
  case i0 => exact ⟨by rw [List.take_zero], HL, KL, fun _ _ h => h⟩
  · intro i v
    refine pr2 fun τ nw1 => ?_
    intro h9 tk9 I oI hi hv P1 off hcl F9 N9
    refine byC fun U0 => ?_
    obtain ⟨e1, hH, hK, hT⟩ := P1
    refine U0 ?_
    clear U0
    dsimp only at e1 hH hK hT off N9
    refine byC fun U0 => ?_
    subst e1
    obtain ⟨k, tt, eK, rfl⟩ := ints_at iz hv
    refine U0 ?_
    clear U0
    have hks : k ∈ σ.keys := hcs k (by rw [← eds]; exact List.mem_of_getElem? eK)
    have hne : k ≠ σ.par.length := fun e => hnk (e ▸ hks)
    have hnt := not_in_take hnd eK
    have htk : ds.take (i + 1) = ds.take i ++ [k] := by rw [List.take_add_one, eK]; rfl
    have hkk : k ∈ (upS σ (op, kids) (ds.take i)).keys := List.mem_append_left _ hks
    have hab : ((upS σ (op, kids) (ds.take i)).above k).length ≤ 900000 := by
      show (if k = σ.par.length then [] else if k ∈ ds.take i then σ.above k ++ [σ.par.length] else σ.above k).length ≤ _
      rw [if_neg hne, if_neg hnt]
      have := hZ k
      lia
    have hcc := mem_of_news N9 (.tail _ (hK.cell hcL hnc1).1)
    have hncc := (hK.cell hcL hnc1).2
    have hnI := not_own_off hH off
    have KI := kept_here (y := y) (v := v2) (σ := upS σ (op, kids) (ds.take i)) N9
    k_extra "go|A1"
    rename Fr _ _ _ _ => FE
    rename News _ _ _ _ => NE2
    rename HRep w _ y v2 { upS σ (op, kids) (List.take i ds) with above := _ } => HE
    rename Kept y v2 (upS σ (op, kids) (List.take i ds)) v2 { upS σ (op, kids) (List.take i ds) with above := _ } _ _ => KE
    rename TupStay ((I, oI) :: nw1) _ => TE
    rw [onl] at HE KE
    rw [upS_snoc hne hnt, ← htk] at HE KE
    obtain ⟨hI2, hnI2⟩ := KE.cell (.head _) hnI
    refine fo_endF (Led := fun c => c.2) (drOf := fun _ => s.drawn) (upS σ (op, kids) (ds.take (i + 1)), offI I _) FE NE2 offI_sub hI2 offI_ne (fun z hz => if_neg hz) ?_
    exact ⟨rfl, HE.offI NE2 hI2 hcl hnI2, hK.trans (KE.offI off), fun a vs ha => tup_offI NE2 hI2 hcl a vs (TE a vs (.tail _ (hT a vs ha)))⟩
  · refine pr2 fun τ nw1 => ?_
    intro u h9 tk9 P2 F9 N9
    refine byC fun U0 => ?_
    obtain ⟨e1, hH, hK, hT⟩ := P2
    refine U0 ?_
    clear U0
    dsimp only at e1 hH hK hT N9 ⊢
    subst e1
    have eN := upS_new (σ := σ) (nd := (op, kids)) (cs := ds) (fun x => by rw [eds, pz.mem_iff]; exact mz x)
    rw [show List.take _ ds = ds from List.take_of_length_le (by rw [eds]; lia), eN] at hH hK
    have hcc := mem_of_news N9 (hK.cell hcL hnc1).1
    have hncc := (hK.cell hcL hnc1).2
    have ON := O.new (nd := (op, kids)) hlen hkl (fun k hk => by have := hkb k hk; lia)
    have hnn : σ.nodes.length < (newS σ (op, kids)).par.length := by show _ < (σ.par ++ [σ.par.length]).length; simp; lia
    k_extra "go|A1"
    rename Fr h₀ L _ m => kF
    rename News h₀ L _ _ => kN
    rename HRep w _ y _ (lookS _ _ _) => kH
    rename Kept y v2 _ _ (lookS _ _ _) _ _ => kK
    rename TupStay nw1 _ => kT
    rename (op, kids) ∉ σ.nodes => mm9
    rw [onl, nodeAt_new O] at kH kK
    rw [onl]
    exact ret2 mm9 _ _ _ _ _ kF kN kH ((K.trans KX).trans kK) (tX.trans (TupStay.trans hT kT))

end
end Mine

open PySem PySem.W PySem.Calls PyProof.Rows PySem.Spec
namespace Mine
section
set_option maxHeartbeats 20000000
example : True := by
  (k_with "ccall|B" => first | (((k_here; (with_reducible refine (?_ : wpAny _ _ (call (Value.ref 291) _) _ _ _)); refine wpAny_noRaise ?_; k_dflt (refine' add_c ?BKK ?FKK ?XKK ?NKK ?TKK ?hkKK ?hdKK ?huKK ?HKK ?KKK ?OKK ?hbKK ?hlenKK ?hopKK ?hkdKK ?hvsKK ?hklKK ?hkbKK ?_ ?_; (case BKK => k_asm); (case FKK => k_asm); (case XKK => k_asm); (case NKK => k_asm); (case TKK => k_asm); (case hkKK => first | assumption | exact rfl); (case hdKK => k_extra "room"); (case huKK => k_extra "room"); (case HKK => k_extra "hrep"); (case KKK => k_extra "kept"); (case OKK => assumption); (case hbKK => (first | lia | omega)); (case hlenKK => k_extra "arith"); (case hopKK => assumption); (case hkdKK => k_mem); (case hvsKK => assumption); (case hklKK => assumption); (case hkbKK => assumption)); all_goals (first | (intro (e9k : ¬ _) t9k h9k tk9k v9k nw9k F9k N9k H9k K9k st9k) | (intro i9k t9k h9k tk9k nw9k e9k F9k N9k H9k K9k st9k; have lt9k := lt_get e9k)); all_goals (try dsimp only); all_goals (try k_sweep)); k_extra "hs")) | fail)
  trivial
example : True := by
  (k_with "hs" => first | (skip) | fail)
  (k_with "c|P1" => first | (first | (k_extra "?eval"; first | k_extra "keval|2") | (k_extra "?execs"; first | k_extra "kexecs|2") | (k_extra "?call"; first | k_extra "ccall|B" | k_extra "ccall|A" | k_extra "ccall|5" | k_extra "ccall|3" | k_extra "kcall|A" | k_extra "kcall|5" | k_extra "kcall|2") | (k_extra "?getMethod"; first | k_extra "kgetMethod|2") | (k_extra "?getAttr"; first | k_extra "kgetAttr|2") | (k_extra "?callWith"; first | k_extra "kcallWith|2") | (k_extra "?subscriptTail"; first | k_extra "ksubscriptTail|2") | (k_extra "?exec"; first | k_extra "cexec|D" | k_extra "kexec|D" | k_extra "kexec|2") | (k_extra "?newTuple"; first | k_extra "knewTuple|2") | (k_extra "?newList"; first | k_extra "knewList|2") | (k_extra "?binaryOp"; first | k_extra "kbinaryOp|2") | (k_extra "?setItem"; first | k_extra "ksetItem|2") | k_extra "And|2") | fail)
  (k_with "step|P1" => first | (first | k_extra "c|P1" | ((fail_if_success (with_reducible show wpAny _ _ (call (Value.ref _) _) _ _ _)); (fail_if_success (with_reducible show wpAny _ _ (pyIter (Value.ref _)) _ _ _)); (fail_if_success (with_reducible show wpAny _ _ (call (Value.builtin "sorted") _) _ _ _)); (fail_if_success (with_reducible show KswEnd _ _ _ _ _ _ _ _ _ _ _ _)); walk1) | (k_here; k_dflt k_extra "walkin")) | fail)
  (k_with "go|P1" => first | (repeat' k_extra "step|P1") | fail)
  trivial
variable {w : World} {A₀ : Around} {base h₀ : Heap} {outer : List Env} {cn : Str} {cs : Scope} {L fa : Addr} {ccd : Value} {cl : List (Str × Addr)} {m mg mb : Str → Option Value} {mean : ExcName → Option Value} {news : List (Addr × Obj)} {s : Shared} {Q : Value → Shared → Prop} {dp un : Nat} {gd : Option (List Code)}

variable {news₀ : List (Addr × Obj)} {v₀ : Dy} {σ₀ : HS}
theorem put_c {y : Lay} {v : Dy} {σ : HS} {op : Str} {t : Tok} {td : Addr} {b : Nat}
    (B : Below A₀ base outer h₀) (F : Fr h₀ L s.heap m) (X : (Mine.hd.heap_1 w.params).In h₀) (N : News h₀ L s.heap news) (T : Top Mine.hd.view_1 (looseW Mine.hd.view_1 []) mean mg mb h₀) (hk : cs.kind = .function) (hd : dp + 34 < 1000) (hu : un + 340 < 1000) (H : HRep w news y v σ) (K : Kept y v₀ σ₀ v σ news₀ news) (O : Ok b σ) (hb : b ≤ 900) (hlen : σ.par.length ≤ 11) (hop : OpOk op) (hkd : (td, tupObj [.str op t]) ∈ news) (hnew : (op, []) ∉ σ.nodes)
    (ret : ∀ t h' tk' v' news', Fr h₀ L h' m → News h₀ L h' news' → HRep w news' y v' (addS σ (op, [])) → Kept y v₀ σ₀ v' (addS σ (op, [])) news₀ news' → TupStay news news' → Q (.int (σ.par.length : Nat) t) { s with heap := h', toks := tk' }) :
    wpAny (model prog w) (ktrTop dp un gd cn cs L fa ccd cl outer) (call (.ref 296) [.ref y.hI, .ref td]) Q (fun _ _ => False) s := by
  have i0 : IntsAre [] (toZ []) := .nil
  have l0 : ([] : List Nat).length ≤ 2 := by simp
  have b0 : ∀ k ∈ ([] : List Nat), k < σ.nodes.length := by simp
  refine wpAny_call ?_
  k_dflt k_enter
  refine wpAny_noRaise ?_
  k_extra "go|P1"
  refine compPure (fun i y => False) rfl (by assumption) (by assumption) (.tup (us := []) (by k_mem)) (by simp) ?_ ?_
  · intro i v J C oC m₂ h9 tk9 hv; simp at hv
  intro D ys h9 tk9 hl hy F9 N9 hD
  obtain rfl : ys = [] := List.length_eq_zero_iff.mp hl
  k_extra "go|P1"
  · rename _[_]? = some (op, []) => eg
    exact absurd (List.mem_of_getElem? eg) hnew
  rename Fr h₀ L _ m => kF
  rename News h₀ L _ _ => kN
  rename HRep w _ y _ (addS σ (op, [])) => kH
  rename Kept y _ _ _ (addS σ (op, [])) _ _ => kK
  rename TupStay _ _ => kT
  exact ret _ _ _ _ _ kF kN kH kK (TupStay.trans (fun a9 b9 c9 => by k_mem) kT)
theorem hmerge_c {y : Lay} {v : Dy} {σ : HS} {a b : Nat} {ta tb : Tok} {r : Value} {bd : Nat}
    (B : Below A₀ base outer h₀) (F : Fr h₀ L s.heap m) (X : (Mine.hd.heap_1 w.params).In h₀) (N : News h₀ L s.heap news) (T : Top Mine.hd.view_1 (looseW Mine.hd.view_1 []) mean mg mb h₀) (hk : cs.kind = .function) (hd : dp + 16 < 1000) (hu : un + 150 < 1000) (H : HRep w news y v σ) (K : Kept y v₀ σ₀ v σ news₀ news) (O : Ok bd σ) (hbd : bd ≤ 1000) (ha : a < σ.par.length) (hb : b < σ.par.length)
    (ret1 : root σ.par a = root σ.par b → ∀ h' tk' news', Fr h₀ L h' m → News h₀ L h' news' → HRep w news' y v (nojoin σ) → Kept y v₀ σ₀ v (nojoin σ) news₀ news' → TupStay news news' → Q (.bool false) { s with heap := h', toks := tk' })
    (ret2 : root σ.par a ≠ root σ.par b → ∀ h' tk' v' news', Fr h₀ L h' m → News h₀ L h' news' → HRep w news' y v' (joined σ (min (root σ.par a) (root σ.par b)) (max (root σ.par a) (root σ.par b))) → Kept y v₀ σ₀ v' (joined σ (min (root σ.par a) (root σ.par b)) (max (root σ.par a) (root σ.par b))) news₀ news' → TupStay news news' → Q (.bool true) { s with heap := h', toks := tk' }) :
    wpAny (model prog w) (ktrTop dp un gd cn cs L fa ccd cl outer) (call (.ref 324) [.ref y.hI, .int a ta, .int b tb, r]) Q (fun _ _ => False) s := by
  have S := O.small hbd
  have hp := O.par
  have hka := O.roots a ha
  have hkb := O.roots b hb
  refine wpAny_call ?_
  k_dflt k_enter
  refine wpAny_noRaise ?_
  k_extra "go|P1"
  all_goals rename Fr h₀ L _ m => kF
  all_goals rename News h₀ L _ _ => kN
  · exact ret1 (by assumption) _ _ _ kF kN (by assumption) (by assumption) (by assumption)
  · exact ret2 (by assumption) _ _ _ _ kF kN (by assumption) (by assumption) (by assumption)

end
end Mine

open PySem PySem.W PySem.Calls PyProof.Rows PySem.Spec
namespace Mine
section
set_option maxHeartbeats 20000000
example : True := by
  (k_with "ccall|N" => first | (((k_here; (with_reducible refine (?_ : wpAny _ _ (call (Value.ref 291) _) _ _ _)); refine wpAny_noRaise ?_; k_dflt (refine' add_c ?BKK ?FKK ?XKK ?NKK ?TKK ?hkKK ?hdKK ?huKK ?HKK ?KKK ?OKK ?hbKK ?hlenKK ?hopKK ?hkdKK ?hvsKK ?hklKK ?hkbKK ?_ ?_; (case BKK => k_asm); (case FKK => k_asm); (case XKK => k_asm); (case NKK => k_asm); (case TKK => k_asm); (case hkKK => first | assumption | exact rfl); (case hdKK => k_extra "room"); (case huKK => k_extra "room"); (case HKK => k_extra "hrep"); (case KKK => k_extra "kept"); (case OKK => assumption); (case hbKK => (first | lia | omega)); (case hlenKK => k_extra "arith"); (case hopKK => assumption); (case hkdKK => k_mem); (case hvsKK => assumption); (case hklKK => assumption); (case hkbKK => assumption)); all_goals (first | (intro (e9k : ¬ _) t9k h9k tk9k v9k nw9k F9k N9k H9k K9k st9k; have R9k := MRep.heap (by assumption) K9k (fun a9 b9 c9 => st9k _ _ (by k_extra "insub")) H9k) | (intro i9k t9k h9k tk9k nw9k e9k F9k N9k H9k K9k st9k; have lt9k := lt_get e9k; have R9k := MRep.heap (by assumption) K9k (fun a9 b9 c9 => st9k _ _ (by k_extra "insub")) H9k)); all_goals (try dsimp only); all_goals (try k_sweep)); k_extra "hs")) | fail)
  (k_with "ccall|N" => first | (((k_here; (with_reducible refine (?_ : wpAny _ _ (call (Value.builtin _) [Value.ref (ML.nu _), Value.ref _, Value.int _ _]) _ _ _)); k_dflt (refine' meet_setd ?FKK ?NKK ?RKK ?kKK ?uKK ?zKK ?_ ?_; (case FKK => k_asm); (case NKK => k_asm); (case RKK => assumption); (case kKK => k_extra "kin"); (case uKK => k_extra "unit"); (case zKK => k_extra "arith")); all_goals (first | (intro (g9k : _ = _) h9k nw9k tk9k F9k N9k R9k MK9k st9k; have K9k := kept_of R9k; have H9k := MRep.h R9k) | (intro i9k g9k t9k tk9k)); all_goals (try dsimp only); all_goals (try k_sweep)); k_extra "hs")) | fail)
  (k_with "kgetMethod|N" => first | (((with_reducible refine (?_ : wpAny _ _ (getMethod (Value.ref _) _ _) _ _ _)); (k_here; (with_reducible refine (?_ : wpAny _ _ (getMethod (Value.ref (ML.nu _)) (PySem.Str.ofString "setdefault") _) _ _ _)); k_dflt (refine' pd_method ?NKK ?PKK PySem.F.slot_dict_setdefault PySem.F.type_dict_setdefault ?_; (case NKK => k_asm); (case PKK => k_extra "mrep"))))) | fail)
  (k_with "kgetMethod|N" => first | (((with_reducible refine (?_ : wpAny _ _ (getMethod (Value.ref _) _ _) _ _ _)); (k_here; (with_reducible refine (?_ : wpAny _ _ (getMethod (Value.ref (ML.nu _)) (PySem.Str.ofString "get") _) _ _ _)); k_dflt (refine' pd_method ?NKK ?PKK PySem.F.slot_dict_get PySem.F.type_dict_get ?_; (case NKK => k_asm); (case PKK => k_extra "mrep"))))) | fail)
  (k_with "ccall|N" => first | (((k_here; (with_reducible refine (?_ : wpAny _ _ (call (Value.ref 324) _) _ _ _)); refine wpAny_noRaise ?_; k_dflt (refine' hmerge_c ?BKK ?FKK ?XKK ?NKK ?TKK ?hkKK ?hdKK ?huKK ?HKK ?KKK ?OKK ?hbdKK ?haKK ?hbKK ?_ ?_; (case BKK => k_asm); (case FKK => k_asm); (case XKK => k_asm); (case NKK => k_asm); (case TKK => k_asm); (case hkKK => first | assumption | exact rfl); (case hdKK => k_extra "room"); (case huKK => k_extra "room"); (case HKK => k_extra "hrep"); (case KKK => k_extra "kept"); (case OKK => k_extra "ok"); (case hbdKK => (first | lia | omega)); (case haKK => k_extra "arith"); (case hbKK => k_extra "arith")); all_goals (first | (intro (e9k : _ = _) h9k tk9k nw9k F9k N9k H9k K9k st9k) | (intro ne9k h9k tk9k v9k nw9k F9k N9k H9k K9k st9k)); all_goals (try dsimp only); all_goals (try k_sweep)); k_extra "hs")) | fail)
  (k_with "ok" => first | (first | assumption | exact Ok.add (nd := (_, _)) (by assumption) (by assumption) (by assumption) (by assumption) | fail) | fail)
  (k_with "arith" => first | (first | (simp only [add_nodes_len, add_par_len]; (first | lia | omega)) | (have q9k := pget_lt (by assumption) (by assumption); simp only [add_par_len]; (first | lia | omega)) | fail) | fail)
  trivial
example : True := by
  (k_with "hs" => first | (try (refine hideS ?_; intro sSk)) | fail)
  (k_with "c|M1" => first | (first | (k_extra "?eval"; first | k_extra "keval|2") | (k_extra "?execs"; first | k_extra "kexecs|2") | (k_extra "?call"; first | k_extra "ccall|N" | k_extra "ccall|A" | k_extra "kcall|A" | k_extra "kcall|2") | (k_extra "?getMethod"; first | k_extra "kgetMethod|N" | k_extra "kgetMethod|2") | (k_extra "?getAttr"; first | k_extra "kgetAttr|2") | (k_extra "?callWith"; first | k_extra "kcallWith|2") | (k_extra "?subscriptTail"; first | k_extra "ksubscriptTail|M" | k_extra "ksubscriptTail|2") | (k_extra "?exec"; first | k_extra "cexec|D" | k_extra "kexec|D" | k_extra "kexec|2") | (k_extra "?newTuple"; first | k_extra "knewTuple|2") | (k_extra "?newList"; first | k_extra "knewList|2") | (k_extra "?binaryOp"; first | k_extra "kbinaryOp|2") | (k_extra "?setItem"; first | k_extra "ksetItem|2") | (k_extra "?compareOp"; first | k_extra "kcompareOp|M") | k_extra "And|2") | fail)
  (k_with "step|M1" => first | (first | k_extra "c|M1" | ((fail_if_success (with_reducible show wpAny _ _ (call (Value.ref _) _) _ _ _)); (fail_if_success (with_reducible show wpAny _ _ (pyIter (Value.ref _)) _ _ _)); (fail_if_success (with_reducible show wpAny _ _ (call (Value.builtin "sorted") _) _ _ _)); (fail_if_success (with_reducible show KswEnd _ _ _ _ _ _ _ _ _ _ _ _)); walk1) | (k_here; k_dflt k_extra "walkin")) | fail)
  (k_with "go|M1" => first | (repeat' k_extra "step|M1") | fail)
  trivial
noncomputable def meetS (σ : HS) (ps : List ((Nat × Nat) × Nat)) (pair : Nat × Nat) (nd : Nd) : HS × List ((Nat × Nat) × Nat) := match pget ps pair with
  | some i => (mergeS (addS σ nd) i σ.par.length, ps)
  | none => (mergeS (addS σ nd) σ.par.length σ.par.length, ps ++ [(pair, σ.par.length)])
noncomputable def numsOf (ps : List ((Nat × Nat) × Nat)) (ks : List (Nat × Nat)) : List Nat := ks.map fun k => (pget ps k).getD 0
theorem kin_ref {news : List (Addr × Obj)} {n : Nat} {v : Value} {p : Nat × Nat} (h : KIn news n v (pdat p)) : ∃ a, v = .ref a := by
  cases h with
  | tuple _ _ => exact ⟨_, rfl⟩
variable {w : World} {A₀ : Around} {base h₀ : Heap} {outer : List Env} {cn : Str} {cs : Scope} {L fa : Addr} {ccd : Value} {cl : List (Str × Addr)} {m mg mb : Str → Option Value} {mean : ExcName → Option Value} {news : List (Addr × Obj)} {s : Shared} {Q : Value → Shared → Prop} {dp un : Nat} {gd : Option (List Code)}

theorem mput_c {M : ML} {v : Dy} {σ : HS} {ps : List ((Nat × Nat) × Nat)} {pair : Nat × Nat} {op : Str} {t : Tok} {pd kd : Addr} {vs : List Value} {ks : List (Nat × Nat)} {b : Nat}
    (B : Below A₀ base outer h₀) (F : Fr h₀ L s.heap m) (X : (Mine.hd.heap_1 w.params).In h₀) (N : News h₀ L s.heap news) (T : Top Mine.hd.view_1 (looseW Mine.hd.view_1 []) mean mg mb h₀) (hk : cs.kind = .function) (hd : dp + 36 < 1000) (hu : un + 380 < 1000) (R : MRep w news M v σ ps) (O : Ok b σ) (hb : b ≤ 800) (hlen : σ.par.length ≤ 11) (hop : OpOk op) (hpd : KIn news 7 (.ref pd) (pdat pair)) (hkd : (kd, tupObj vs) ∈ news) (hvs : KInAll news 7 vs (ks.map pdat)) (hkl : ks.length ≤ 2) (hps : ∀ x ∈ ps, x.2 < σ.par.length) (hpz : ps.length ≤ 100)
    (ret0 : ((∃ k ∈ ks, pget ps k = none) ∨ ((∀ k ∈ ks, pget ps k ≠ none) ∧ (op, numsOf ps ks) ∈ σ.nodes)) → ∀ h' tk' news', Fr h₀ L h' m → News h₀ L h' news' → MRep w news' M v σ ps → MKept M v σ v σ news news' → TupStay news news' → Q (.bool false) { s with heap := h', toks := tk' })
    (ret1 : (∀ k ∈ ks, pget ps k ≠ none) → (op, numsOf ps ks) ∉ σ.nodes → ∀ h' tk' v' news', Fr h₀ L h' m → News h₀ L h' news' → MRep w news' M v' (meetS σ ps pair (op, numsOf ps ks)).1 (meetS σ ps pair (op, numsOf ps ks)).2 → MKept M v σ v' (meetS σ ps pair (op, numsOf ps ks)).1 news news' → TupStay news news' → Q (.bool true) { s with heap := h', toks := tk' }) :
    wpAny (model prog w) (ktrTop dp un gd cn cs L fa ccd cl outer) (call (.ref 423) [.ref M.mI, .ref pd, .str op t, .ref kd]) Q (fun _ _ => False) s := by
  have hvl := kinAll_len hvs
  rw [List.length_map] at hvl
  refine wpAny_call ?_
  k_dflt k_enter
  refine wpAny_noRaise ?_
  rename News _ _ _ ((_, _) :: news) => NE
  rename ∀ p ∈ news, p.1 < _ => lc
  have RX := R.consN NE
  have HX := RX.h
  have onl := O.nodes
  have hz : σ.nodes.length ≤ 1000 := by (first | lia | omega)
  have KX := kept_here (y := M.y) (v := v) (σ := σ) NE
  have hnc := not_own_of R.h (d := _ + 1) (fun p hp => Nat.lt_succ_of_lt (lc p hp))
  have hcell := cell_of lc NE mem_hd
  k_extra "go|M1"
  refine compPureT (fun i => ((ks[i]?).map fun k => (pget ps k).isNone).getD false) (fun _ y => ∃ k : Nat × Nat, KIn news 7 y (pdat k)) (iterable_B rfl (by assumption) (by assumption) (.tup (us := vs) (by k_mem))) (.tup (us := vs) (by k_mem)) (by (first | lia | omega)) ?_ ?_
  · intro i v1 J C oC m₂ h9 tk9 hi hv hJ hC hx F9 N9
    have hki : i < ks.length := by (first | lia | omega)
    refine byC fun U0 => ?_
    obtain ⟨v2, ev2, kv⟩ := kinAll_get hvs i (pdat ks[i]) (by simp [hki])
    refine U0 ?_
    clear U0
    rw [hv] at ev2
    cases ev2
    refine byC fun U0 => ?_
    obtain ⟨ka, rfl⟩ := kin_ref kv
    refine U0 ?_
    clear U0
    have esel : ∀ b, (pget ps ks[i]).isNone = b → ((ks[i]?).map fun k => (pget ps k).isNone).getD false = b := fun b e => by simp [hki, e]
    k_extra "go|M1"
    · rename pget ps _ = none => eg
      exact esel true (by rw [eg]; rfl)
    · exact PEnd.intro (by assumption) (by assumption) ⟨_, kv⟩
    · rename pget ps _ = some _ => eg
      exact esel false (by rw [eg]; rfl)
    · exact NEnd.intro (by assumption) (by assumption)
  intro D ys h9 tk9 hl hy F9 N9 hD
  have hsl : ∀ {k}, k ∈ ks → pget ps k = none → 0 < ys.length := fun {k} hk e => by
    obtain ⟨i, hi⟩ := List.mem_iff_getElem?.mp hk
    have hil := lt_get hi
    have hm : i ∈ (List.range vs.length).filter fun i => ((ks[i]?).map fun k => (pget ps k).isNone).getD false := List.mem_filter.mpr ⟨List.mem_range.mpr (by (first | lia | omega)), by simp [hi, e]⟩
    rw [hl]
    exact List.length_pos_of_mem hm
  have hex : 0 < ys.length → ∃ k ∈ ks, pget ps k = none := fun hp => by
    refine byC fun U0 => ?_
    obtain ⟨i, hi, -⟩ := hy 0 ys[0] (by simp [hp])
    refine U0 ?_
    clear U0
    have hm := List.mem_filter.mp (List.mem_of_getElem? hi)
    have hil : i < ks.length := by have := List.mem_range.mp hm.1; (first | lia | omega)
    refine ⟨ks[i], List.getElem_mem hil, ?_⟩
    have := hm.2
    simp only [hil, List.getElem?_eq_getElem, Option.map_some, Option.getD_some] at this
    simpa using this
  refine byC fun U0 => ?_
  obtain ⟨kys, Kys, lys⟩ := kinAll_ex fun j y h => (hy j y h).elim fun _ q => q.2
  refine U0 ?_
  clear U0
  have hyz : ys.length ≤ 1000 := by
    have := List.length_filter_le (fun i => ((ks[i]?).map fun k => (pget ps k).isNone).getD false) (List.range vs.length)
    rw [List.length_range] at this
    (first | lia | omega)
  clear hl hy
  k_extra "go|M1"
  rotate_left
  · rename List.map pdat kys ≠ [] => ne
    rename Fr h₀ L _ m => kF
    rename News h₀ L _ _ => kN
    exact ret0 (.inl (hex (by rw [← lys]; exact List.length_pos_iff.mpr fun e => ne (by rw [e]; rfl)))) _ _ _ kF kN (R.sub (by intro p9 hp9; k_extra "insub")) (MKept.refl.more (by intro p9 hp9; k_extra "insub")) (by k_extra "stay")
  rename List.map pdat kys = [] => ee
  have hall : ∀ k ∈ ks, pget ps k ≠ none := fun k hk e => by
    have := hsl hk e
    rw [← lys, List.map_eq_nil_iff.mp ee] at this
    simp at this
  refine compPure (fun i y => ∃ (k : Nat) (t : Tok), (numsOf ps ks)[i]? = some k ∧ y = .int (k : Int) t) rfl (by assumption) (by assumption) (.tup (us := vs) (by k_mem)) (by (first | lia | omega)) ?_ ?_
  · intro i v1 J C oC m₂ h9 tk9 hv hJ hC hx F9 N9
    have hki : i < ks.length := by have := lt_get hv; (first | lia | omega)
    refine byC fun U0 => ?_
    obtain ⟨v2, ev2, kv⟩ := kinAll_get hvs i (pdat ks[i]) (by simp [hki])
    refine U0 ?_
    clear U0
    rw [hv] at ev2
    cases ev2
    refine byC fun U0 => ?_
    obtain ⟨ka, rfl⟩ := kin_ref kv
    obtain ⟨n, en⟩ := Option.ne_none_iff_exists'.mp (hall ks[i] (List.getElem_mem hki))
    refine U0 ?_
    clear U0
    k_extra "go|M1"
    exact PEnd.intro (by assumption) (by assumption) ⟨n, _, by simp [numsOf, hki, en], rfl⟩
  intro D2 ys2 h9 tk9 hl2 hy2 F9 N9 hD2
  have iy : IntsAre ys2 (toZ (numsOf ps ks)) := ints_of_at (by rw [hl2, hvl]; simp [numsOf]) hy2
  clear hy2
  have hkl2 : (numsOf ps ks).length ≤ 2 := by simp [numsOf]; exact hkl
  have hkb2 : ∀ k ∈ numsOf ps ks, k < σ.nodes.length := fun k hk => by
    refine byC fun U0 => ?_
    obtain ⟨q, hq, rfl⟩ := List.mem_map.mp hk
    obtain ⟨n, en⟩ := Option.ne_none_iff_exists'.mp (hall q hq)
    refine U0 ?_
    clear U0
    rw [en, onl]
    exact hps _ (pget_mem en)
  have hkb3 : ∀ k ∈ numsOf ps ks, k < σ.par.length := fun k hk => by have := hkb2 k hk; (first | lia | omega)
  k_extra "go|M1"
  all_goals (try (exfalso; (first | lia | omega)))
  all_goals rename Fr h₀ L _ m => kF
  all_goals rename News h₀ L _ _ => kN
  · rename _[_]? = some (op, numsOf ps ks) => eg
    rename MRep w _ M v σ ps => kR
    rename Kept M.y v σ v σ _ _ => kK
    exact ret0 (.inr ⟨hall, List.mem_of_getElem? eg⟩) _ _ _ kF kN kR (MKept.of kK).cons (by k_extra "stay")
  · exfalso
    rename ((addS σ (op, numsOf ps ks)).nodes.length : Int) = _ => aa
    rw [add_nodes_len] at aa
    (first | lia | omega)
  · rename pget ps pair = some _ => eg
    rename root _ _ = root _ _ => er
    rename (op, numsOf ps ks) ∉ σ.nodes => mm9
    rename Kept M.y v σ _ (nojoin _) _ _ => kK
    rename HRep w _ M.y _ (nojoin _) => kH
    have eM : meetS σ ps pair (op, numsOf ps ks) = (nojoin (addS σ (op, numsOf ps ks)), ps) := by simp only [meetS, eg, mergeS, er, if_true]
    rw [eM] at ret1
    exact ret1 hall mm9 _ _ _ _ kF kN (RX.heap kK (by k_extra "stay") kH) (MKept.of kK).cons (by k_extra "stay")
  · rename pget ps pair = some _ => eg
    rename root _ _ ≠ root _ _ => er
    rename (op, numsOf ps ks) ∉ σ.nodes => mm9
    rename Kept M.y v σ _ (joined _ _ _) _ _ => kK
    rename HRep w _ M.y _ (joined _ _ _) => kH
    have eM : ∀ i, pget ps pair = some i → meetS σ ps pair (op, numsOf ps ks) = (mergeS (addS σ (op, numsOf ps ks)) i σ.par.length, ps) := fun i e => by simp only [meetS, e]
    rw [eM _ eg, mergeS, if_neg er] at ret1
    exact ret1 hall mm9 _ _ _ _ kF kN (RX.heap kK (by k_extra "stay") kH) (MKept.of kK).cons (by k_extra "stay")
  · rename pget ps pair = none => eg
    rename (op, numsOf ps ks) ∉ σ.nodes => mm9
    rename Kept M.y _ (addS _ _) _ (nojoin _) _ _ => kK
    rename Kept M.y v σ _ (addS _ _) _ _ => kA
    rename MKept M _ (addS _ _) _ (addS _ _) _ _ => kM
    rename MRep w _ M _ (addS _ _) (ps ++ _) => kR
    rename HRep w _ M.y _ (nojoin _) => kH
    have eM : meetS σ ps pair (op, numsOf ps ks) = (nojoin (addS σ (op, numsOf ps ks)), ps ++ [(pair, σ.par.length)]) := by
      unfold meetS
      rw [eg]
      simp [mergeS]
    rw [eM] at ret1
    exact ret1 hall mm9 _ _ _ _ kF kN (kR.heap kK (by k_extra "stay") kH) (((MKept.of kA).cons.trans kM).trans (MKept.of kK)) (by k_extra "stay")

end
end Mine

open PySem PySem.W PySem.Calls PyProof.Rows PySem.Spec
namespace Mine
section
set_option maxHeartbeats 20000000
example : True := by
  (k_with "cexec|E" => first | ((k_here; (with_reducible refine (?_ : wpAny _ _ (exec (Stmt.For (Expr.Tuple _ _ _) (Expr.Call (Expr.Name (PySem.Str.ofString "enumerate") _) _ _ _) _ _ _) _) _ _ _)); (with_unfolding_all refine' For_X ?_ ?s9KK; (case s9KK => (intro _; rfl))))) | fail)
  (k_with "cstoreName|E" => first | (((k_here; (with_reducible refine (?_ : wpAny _ _ (storeName _ (PySem.Str.ofString "homes") _) _ _ _)); k_dflt (refine' storeX_M ?FKK ?NKK ?cKK ?mKK ?dKK ?_ ?aKK ?bKK; (case aKK => rfl); (case bKK => rfl); (case FKK => k_asm); (case NKK => k_asm); (case cKK => rfl); (case mKK => k_mem); (case dKK => k_asm)); intro h'k o'k F'k N'k d'k); k_extra "hs")) | fail)
  (k_with "cstoreName|E" => first | (((k_here; (with_reducible refine (?_ : wpAny _ _ (storeName _ (PySem.Str.ofString "low") _) _ _ _)); k_dflt (refine' storeX_M ?FKK ?NKK ?cKK ?mKK ?dKK ?_ ?aKK ?bKK; (case aKK => rfl); (case bKK => rfl); (case FKK => k_asm); (case NKK => k_asm); (case cKK => rfl); (case mKK => k_mem); (case dKK => k_asm)); intro h'k o'k F'k N'k d'k); k_extra "hs")) | fail)
  (k_with "cstoreName|E" => first | (((k_here; (with_reducible refine (?_ : wpAny _ _ (storeName _ (PySem.Str.ofString "high") _) _ _ _)); k_dflt (refine' storeX_M ?FKK ?NKK ?cKK ?mKK ?dKK ?_ ?aKK ?bKK; (case aKK => rfl); (case bKK => rfl); (case FKK => k_asm); (case NKK => k_asm); (case cKK => rfl); (case mKK => k_mem); (case dKK => k_asm)); intro h'k o'k F'k N'k d'k); k_extra "hs")) | fail)
  (k_with "ccall|E" => first | (((k_here; (with_reducible refine (?_ : wpAny _ _ (call (Value.type "list") [Value.ref _]) _ _ _)); k_dflt (refine' list_B ?FKK ?NKK ?mKK ?zKK ?_; (case FKK => k_asm); (case NKK => k_asm); (case mKK => k_mem); (case zKK => (first | lia | omega))); intro D'k c'k h'k F'k N'k l1k); k_extra "hs")) | fail)
  (k_with "ccall|E" => first | (((k_here; (with_reducible refine (?_ : wpAny _ _ (call (Value.type "enumerate") [Value.ref _]) _ _ _)); k_dflt (refine' enum_B ?FKK ?NKK ?mKK ?_; (case FKK => k_asm); (case NKK => k_asm); (case mKK => k_mem)); intro h'k e9k it9k ne9k F'k N'k he9k hit9k Le9k Li9k ze9k zi9k of9k); k_extra "hs")) | fail)
  (k_with "fd" => first | (first | with_reducible assumption | exact FD.more (by assumption) (by intro p9k hp9k; k_extra "insub") | fail) | fail)
  (k_with "isl" => first | (first | exact FD.isl (by k_extra "fd") | fail) | fail)
  (k_with "ccall|E" => first | (((k_here; (with_reducible refine (?_ : wpAny _ _ (call (Value.builtin "dict.setdefault") [Value.ref _, Value.ref _, Value.int _ _]) _ _ _)); k_dflt (refine' fd_setdefault ?FKK ?NKK ?BKK ?hkKK ?hrKK ?huKK ?hnKK ?_; (case FKK => k_asm); (case NKK => k_asm); (case BKK => k_extra "fd"); (case hrKK => assumption); (case hkKK => exact .tuple (n := 6) (by k_mem) (.cons (.str _ _ (by assumption)) (.cons (.tuple (by k_mem) (kinAll_of_ints (by assumption))) .nil))); (case huKK => k_extra "unit"); (case hnKK => (first | lia | omega))); intro h9k nw9k xs9k y9k t9k tk9k F9k N9k B9k k9k st9k; (try dsimp only)); k_extra "hs")) | fail)
  (k_with "ccall|E" => first | (((k_here; (with_reducible refine (?_ : wpAny _ _ (call (Value.builtin "list.append") [Value.ref _, Value.ref _]) _ _ _)); k_dflt (refine' fd_append ?hlKK ?FKK ?NKK ?BKK ?huKK ?hzKK ?_; (case FKK => k_asm); (case NKK => k_asm); (case BKK => k_extra "fd"); (case hlKK => assumption); (case huKK => exact kin_pair (p := (_, _)) (by k_mem)); (case hzKK => (first | lia | omega))); intro h9k nw9k F9k N9k B9k k9k st9k; (try dsimp only)); k_extra "hs")) | fail)
  (k_with "kgetMethod|E" => first | (((with_reducible refine (?_ : wpAny _ _ (getMethod (Value.ref _) _ _) _ _ _)); (k_here; (with_reducible refine (?_ : wpAny _ _ (getMethod (Value.ref _) (PySem.Str.ofString "setdefault") _) _ _ _)); k_dflt (refine' FD.method ?NKK ?BKK PySem.F.slot_dict_setdefault PySem.F.type_dict_setdefault ?_; (case NKK => k_asm); (case BKK => k_extra "fd"))))) | fail)
  (k_with "isi9" => first | (first | with_reducible assumption | exact IsInts.move (by assumption) (by intro o9k hp9k; k_extra "insub") | fail) | fail)
  (k_with "csubscriptTail|E" => first | ((k_here; (with_reducible refine (?_ : wpAny _ _ (subscriptTail _ _ (Value.ref _) (Value.int _ _)) _ _ _)); k_dflt (refine' item_ints ?NKK ?xKK ?kKK ?zKK ?_; (case NKK => k_asm); (case xKK => k_extra "isi9"); (case kKK => assumption); (case zKK => assumption)); intro t9k)) | fail)
  (k_with "ccall|E" => first | (((k_here; (with_reducible refine (?_ : wpAny _ _ (call (Value.builtin "min") [Value.int _ _, Value.int _ _]) _ _ _)); k_dflt (refine' min_nat ?hhKK ?FKK ?NKK ?_; (case hhKK => rfl); (case FKK => k_asm); (case NKK => k_asm)); intro h9k tk9k t9k F9k N9k); k_extra "hs")) | fail)
  (k_with "ccall|E" => first | (((k_here; (with_reducible refine (?_ : wpAny _ _ (call (Value.builtin "max") [Value.int _ _, Value.int _ _]) _ _ _)); k_dflt (refine' max_nat ?hhKK ?FKK ?NKK ?_; (case hhKK => rfl); (case FKK => k_asm); (case NKK => k_asm)); intro h9k tk9k t9k F9k N9k); k_extra "hs")) | fail)
  (k_with "k_mem" => first | (with_reducible first | exact put_self | (refine' put_of ?_ ?ne9KK; (case ne9KK => k_dflt (first | assumption | (show @Ne Nat _ _; (first | lia | omega)))); k_mem) | fail) | fail)
  trivial
example : True := by
  (k_with "hs" => first | (try (refine hideS ?_; intro sSk)) | fail)
  (k_with "c|W3" => first | (first | (k_extra "?eval"; first | k_extra "keval|2") | (k_extra "?execs"; first | k_extra "kexecs|2") | (k_extra "?call"; first | k_extra "ccall|E" | k_extra "kcall|2") | (k_extra "?getMethod"; first | k_extra "kgetMethod|E" | k_extra "kgetMethod|2") | (k_extra "?getAttr"; first | k_extra "kgetAttr|2") | (k_extra "?callWith"; first | k_extra "kcallWith|2") | (k_extra "?subscriptTail"; first | k_extra "csubscriptTail|E" | k_extra "ksubscriptTail|2") | (k_extra "?exec"; first | k_extra "cexec|E" | k_extra "cexec|D" | k_extra "kexec|D" | k_extra "kexec|2") | (k_extra "?newTuple"; first | k_extra "knewTuple|2") | (k_extra "?newList"; first | k_extra "knewList|2") | (k_extra "?storeName"; first | k_extra "cstoreName|E") | (k_extra "?binaryOp"; first | k_extra "kbinaryOp|2") | (k_extra "?setItem"; first | k_extra "ksetItem|2") | k_extra "And|2") | fail)
  (k_with "step|W3" => first | (first | k_extra "c|W3" | ((fail_if_success (with_reducible show wpAny _ _ (call (Value.ref _) _) _ _ _)); (fail_if_success (with_reducible show wpAny _ _ (pyIter (Value.ref _)) _ _ _)); (fail_if_success (with_reducible show wpAny _ _ (call (Value.builtin "sorted") _) _ _ _)); (fail_if_success (with_reducible show KswEnd _ _ _ _ _ _ _ _ _ _ _ _)); walk1) | (k_here; k_dflt k_extra "walkin")) | fail)
  (k_with "go|W3" => first | (repeat' k_extra "step|W3") | fail)
  (k_with "go2|W3" => first | (repeat' ((fail_if_success (with_reducible show wpAny _ _ (exec (Stmt.While _ _ _ _) _) _ _ _)); (fail_if_success (with_reducible show wpAny _ _ (pyIter _) _ _ _)); k_extra "step|W3")) | fail)
  trivial
structure HL (base nw : List (Addr × Obj)) (c1 c2 c3 D : Addr) (hs : List Nat) : Prop where
  sub : ∀ p ∈ base, p ∈ nw
  h1 : ∃ o, (c1, o) ∈ nw ∧ o.data = .cell (some (.ref D))
  h2 : ∃ o v, (c2, o) ∈ nw ∧ o.data = .cell v
  h3 : ∃ o v, (c3, o) ∈ nw ∧ o.data = .cell v
  d : IsInts nw D hs
  d1 : D ≠ c1
  d2 : D ≠ c2
  d3 : D ≠ c3
theorem HL.more {base nw nw' : List (Addr × Obj)} {c1 c2 c3 D : Addr} {hs : List Nat} (H : HL base nw c1 c2 c3 D hs) (h : ∀ p ∈ nw, p ∈ nw') : HL base nw' c1 c2 c3 D hs :=
  ⟨fun p hp => h p (H.sub p hp), let ⟨o, m, e⟩ := H.h1; ⟨o, h _ m, e⟩, let ⟨o, v, m, e⟩ := H.h2; ⟨o, v, h _ m, e⟩, let ⟨o, v, m, e⟩ := H.h3; ⟨o, v, h _ m, e⟩, H.d.move fun _ q => h _ q, H.d1, H.d2, H.d3⟩
theorem HL.low {base nw : List (Addr × Obj)} {c1 c2 c3 D : Addr} {o' : Obj} {hs : List Nat} {v : Option Value} (H : HL base nw c1 c2 c3 D hs) (hb : ∀ p ∈ base, p.1 ≠ c2) (n1 : c1 ≠ c2) (n3 : c3 ≠ c2) (hd : o'.data = .cell v) : HL base (Mine.put c2 o' nw) c1 c2 c3 D hs :=
  ⟨fun p hp => put_of (H.sub p hp) (hb p hp), let ⟨o, m, e⟩ := H.h1; ⟨o, put_of m n1, e⟩, ⟨o', v, put_self, hd⟩, let ⟨o, v, m, e⟩ := H.h3; ⟨o, v, put_of m n3, e⟩, H.d.move fun _ q => put_of q H.d2, H.d1, H.d2, H.d3⟩
theorem HL.high {base nw : List (Addr × Obj)} {c1 c2 c3 D : Addr} {o' : Obj} {hs : List Nat} {v : Option Value} (H : HL base nw c1 c2 c3 D hs) (hb : ∀ p ∈ base, p.1 ≠ c3) (n1 : c1 ≠ c3) (n2 : c2 ≠ c3) (hd : o'.data = .cell v) : HL base (Mine.put c3 o' nw) c1 c2 c3 D hs :=
  ⟨fun p hp => put_of (H.sub p hp) (hb p hp), let ⟨o, m, e⟩ := H.h1; ⟨o, put_of m n1, e⟩, let ⟨o, v, m, e⟩ := H.h2; ⟨o, v, put_of m n2, e⟩, ⟨o', v, put_self, hd⟩, H.d.move fun _ q => put_of q H.d3, H.d1, H.d2, H.d3⟩
theorem HL.homes {base nw : List (Addr × Obj)} {c1 c2 c3 D D' : Addr} {o' : Obj} {hs hs' : List Nat} (H : HL base nw c1 c2 c3 D hs) (hb : ∀ p ∈ base, p.1 ≠ c1) (n2 : c2 ≠ c1) (n3 : c3 ≠ c1) (hd : o'.data = .cell (some (.ref D'))) (hD : IsInts nw D' hs') (d1 : D' ≠ c1) (d2 : D' ≠ c2) (d3 : D' ≠ c3) : HL base (Mine.put c1 o' nw) c1 c2 c3 D' hs' :=
  ⟨fun p hp => put_of (H.sub p hp) (hb p hp), ⟨o', put_self, hd⟩, let ⟨o, v, m, e⟩ := H.h2; ⟨o, v, put_of m n2, e⟩, let ⟨o, v, m, e⟩ := H.h3; ⟨o, v, put_of m n3, e⟩, hD.move fun _ q => put_of q d1, d1, d2, d3⟩
theorem HL.offI {base nw nw3 : List (Addr × Obj)} {c1 c2 c3 D D3 I : Addr} {hs hs3 : List Nat} (H : HL base nw c1 c2 c3 D hs) (H3 : HL base nw3 c1 c2 c3 D3 hs3) (off : ∀ p ∈ nw3, p.1 ≠ I) (nD : D ≠ I) : HL base (Mine.offI I nw) c1 c2 c3 D hs := by
  have n1 : c1 ≠ I := by obtain ⟨_, m', _⟩ := H3.h1; exact off _ m'
  have n2 : c2 ≠ I := by obtain ⟨_, _, m', _⟩ := H3.h2; exact off _ m'
  have n3 : c3 ≠ I := by obtain ⟨_, _, m', _⟩ := H3.h3; exact off _ m'
  exact ⟨fun p hp => mem_offI.mpr ⟨H.sub p hp, off p (H3.sub p hp)⟩, let ⟨o, m, e⟩ := H.h1; ⟨o, mem_offI.mpr ⟨m, n1⟩, e⟩, let ⟨o, v, m, e⟩ := H.h2; ⟨o, v, mem_offI.mpr ⟨m, n2⟩, e⟩, let ⟨o, v, m, e⟩ := H.h3; ⟨o, v, mem_offI.mpr ⟨m, n3⟩, e⟩, H.d.move fun _ q => mem_offI.mpr ⟨q, nD⟩, H.d1, H.d2, H.d3⟩
theorem tup_cell {h₀ h : Heap} {L c : Addr} {nw : List (Addr × Obj)} {o o' : Obj} {v : Option Value} (N : News h₀ L h nw) (hm : (c, o) ∈ nw) (hd : o.data = .cell v) : TupStay nw (Mine.put c o' nw) := fun a us q => put_of q fun e => by
  subst e
  rw [news_fn N hm q] at hd
  cases hd
theorem rangeKs_nat (n : Nat) : rangeKs 0 n = toZ (List.range n) := by
  unfold rangeKs toZ
  simp
variable {w : World} {A₀ : Around} {base h₀ : Heap} {outer : List Env} {cn : Str} {cs : Scope} {L fa : Addr} {ccd : Value} {cl : List (Str × Addr)} {m mg mb : Str → Option Value} {mean : ExcName → Option Value} {news : List (Addr × Obj)} {s : Shared} {Q : Value → Shared → Prop} {dp un : Nat} {gd : Option (List Code)}

theorem homes_c {rw pl : Addr} {rows : List Row} {told : List (Nat × Nat)} {rvs pvs : List Value} {n1 n2 : Nat}
    (B : Below A₀ base outer h₀) (F : Fr h₀ L s.heap m) (X : (Mine.hd.heap_1 w.params).In h₀) (N : News h₀ L s.heap news) (T : Top Mine.hd.view_1 (looseW Mine.hd.view_1 []) mean mg mb h₀) (hk : cs.kind = .function) (hd : dp + 20 < 1000) (hu : un + 200 < 1000) (hr : (rw, W.listOf rvs.toArray n1) ∈ news) (hrv : KInAll news 7 rvs (rows.map rdat)) (ht : (pl, W.listOf pvs.toArray n2) ∈ news) (htv : KInAll news 7 pvs (told.map pdat)) (IB : InB rows told) (hrz : rows.length ≤ 20) (htz : told.length ≤ 20) (hk2 : ∀ r ∈ rows, r.2.length ≤ 2)
    (ret : ∀ hs D h' tk' news', Homes rows told hs → Fr h₀ L h' m → News h₀ L h' news' → (∀ p ∈ news, p ∈ news') → IsInts news' D hs → Q (.ref D) { s with heap := h', toks := tk' }) :
    wpAny (model prog w) (ktrTop dp un gd cn cs L fa ccd cl outer) (call (.ref 449) [.ref rw, .ref pl]) Q (fun _ _ => False) s := by
  have hrl : rvs.length = rows.length := by simpa using kinAll_len hrv
  have htl : pvs.length = told.length := by simpa using kinAll_len htv
  have hrz' : rvs.length ≤ 1000000 := by lia
  refine wpAny_call ?_
  k_dflt k_enter
  refine wpAny_noRaise ?_
  k_extra "go2|W3"
  rename Fr _ _ _ _ => FX
  rename News _ _ _ _ => NX
  rename IntsAre _ _ => iX
  rename (_ < _) ∧ (_ < _) ∧ (_ < _) ∧ _ => al
  rename Obj.data _ = Data.cell (some (Value.ref _)) => dX
  rename ∀ p ∈ news, p.1 < _ => lc
  rename ∀ p ∈ (_, W.listOf _ _) :: _, Prod.fst p < _ => lt
  rw [show ((rvs.length : Int) - 0).toNat = rows.length by lia, rangeKs_nat] at iX
  refine byC fun U0 => ?_
  obtain ⟨al1, al2, al3, al4⟩ := al
  obtain ⟨D0, eD⟩ := name_gt al3
  subst eD
  obtain ⟨c0, ec⟩ := name_lt lc
  subst ec
  obtain ⟨nwX, eX⟩ := name_news NX
  refine U0 ?_
  clear U0
  rw [← eX] at NX
  have H0 : HL news nwX (c0 + 1) (c0 + 1 + 1) (c0 + 1 + 1 + 1) D0 (List.range rows.length) := by
    rw [eX]
    refine ⟨fun p hp => put_of (mem_tl (mem_tl (mem_tl (mem_tl (mem_tl hp))))) (Nat.ne_of_lt (Nat.lt_succ_of_lt (lc p hp))), ⟨_, put_self, dX⟩, ⟨_, _, put_of (mem_tl (mem_tl (mem_tl mem_hd))) (by show (_ : Nat) ≠ _; lia), by assumption⟩, ⟨_, _, put_of (mem_tl (mem_tl mem_hd)) (by show (_ : Nat) ≠ _; lia), by assumption⟩,
      ⟨_, _, put_of (mem_tl mem_hd) (Nat.ne_of_gt al3), iX⟩, Nat.ne_of_gt al3, Nat.ne_of_gt al2, Nat.ne_of_gt al1⟩
  refine ksw_while (σ := List Nat × Addr × List (Addr × Obj) × Bool) (fun c => c.2.2.1) (fun c => [(Str.ofString "is_open", .bool c.2.2.2)]) (fun _ => True) [Str.ofString "firsts", Str.ofString "wish", Str.ofString "n", Str.ofString "row", Str.ofString "one", Str.ofString "other"] (fun c => HL news c.2.2.1 (c0 + 1) (c0 + 1 + 1) (c0 + 1 + 1 + 1) c.2.1 c.1 ∧ Good rows told c.1 ∧ (c.2.2.2 = false → Homes rows told c.1))
    (fun c => 2 * c.1.sum + (if c.2.2.2 = true then 1 else 0)) (List.range rows.length, D0, nwX, true) FX NX trivial (by kst_all) ⟨H0, good_start _ _, nofun⟩ ?_ PassesOwn.never
  refine pr4 fun hs D nw op => ?_
  intro fu h1 tk1 z1 P2 F1 N1
  clear z1
  refine byC fun U0 => ?_
  obtain ⟨HH, G, hcl⟩ := P2
  refine U0 ?_
  clear U0
  dsimp only at HH G hcl F1 N1 ⊢
  refine nameM F1 ?_
  clear F1
  intro mM F1
  refine byC fun U0 => ?_
  obtain ⟨o1, hm1, hd1⟩ := HH.h1
  refine U0 ?_
  clear U0
  have hpl := HH.sub _ ht
  have hrw := HH.sub _ hr
  have hpz : pvs.length ≤ 20 := by lia
  cases op with
  | false =>
    k_extra "go2|W3"
    rename Fr h₀ L _ m => kF
    rename News h₀ L _ _ => kN
    exact ret hs D _ _ _ (hcl rfl) kF kN HH.sub HH.d
  | true =>
    k_extra "go2|W3"
    rename Fr _ _ _ _ => FY
    rename News _ _ _ _ => NY
    rename IsEnum _ _ _ _ _ => he
    rename Heap.IsListIter _ _ _ _ => hit
    rename ∀ p ∈ nw, p.1 < _ => lfd
    rename ∀ q ∈ (_, _) :: nw, Prod.fst q < _ => lwd
    rename Obj.IsDictOf (intKind prog w) _ [] => hi
    rename (_ == sysModules) = false => lo
    rename ∀ p ∈ (_ : List (Addr × Obj)), Prod.fst p ≠ _ ∧ Prod.fst p ≠ _ => of9
    refine byC fun U0 => ?_
    obtain ⟨⟨e0, ee⟩, ⟨i0, ei⟩⟩ := name_en he
    subst ee
    subst ei
    have ne9 : e0 ≠ i0 := by assumption
    obtain ⟨fd, e1⟩ := name_lt lfd
    subst e1
    obtain ⟨wd, e2⟩ := name_lt lwd
    subst e2
    obtain ⟨nwY, eY⟩ := name_news NY
    refine U0 ?_
    clear U0
    rw [← eY] at NY of9
    have sY : ∀ p ∈ nw, p ∈ nwY := fun p hp => by rw [eY]; exact mem_tl (mem_tl (mem_tl hp))
    have fw : ∀ {p : Addr × Obj}, p ∈ nw → p.1 ≠ fd ∧ p.1 ≠ wd := fun hp => ⟨Nat.ne_of_lt (lfd _ hp), Nat.ne_of_lt (lwd _ (mem_tl hp))⟩
    have B0 : FD w rows told hs nwY nwY fd wd [] [] [] 0 := fd_start lo (by rw [eY]; exact mem_tl (mem_tl mem_hd)) hi (by rw [eY]; exact mem_tl mem_hd) (htv.move fun a us q => sY _ (HH.sub _ q)) (Nat.ne_of_gt (lwd _ mem_hd))
    have HY := HH.more sY
    have lh := G.len
    have lhz : hs.length ≤ 1000000 := by lia
    clear hi lo
    refine' for_enum (σ := List (Addr × Obj) × List (Dat × Addr × Value) × List Nat) (fun c => c.1) (fun _ => []) [Str.ofString "n", Str.ofString "row"] (fun i c => FD w rows told hs nwY c.1 fd wd c.2.1 c.2.2 c.2.2 i) (nwY, [], []) ?x1 ?x2 ?x3 rfl PassesOwn.never he hit FY NY (by assumption) (by assumption) (by assumption) (by assumption) (by assumption) of9 ?hl ?hk ?hp ?_ ?_
    case x1 => rfl
    case x2 => rfl
    case x3 => rfl
    case hl => exact fun i c hc => hc.keep _ (sY _ hrw) (fw hrw).1 (fw hrw).2
    case hk => exact fun p hp => nomatch hp
    case hp => exact B0
    · intro i x t
      refine pr3 fun nw2 xs2 L2 => ?_
      intro u h2 tk2 oe oi hx hB off ce ci F2 N2
      dsimp only at hB off N2 F2 ⊢
      have hir : i < rows.length := by have := (List.getElem?_eq_some_iff.mp hx).1; lia
      refine byC fun U0 => ?_
      obtain ⟨r, er⟩ : ∃ r, rows[i]? = some r := ⟨_, List.getElem?_eq_getElem hir⟩
      obtain ⟨x', ex', kx⟩ := kinAll_get hrv i (rdat r) (by rw [List.getElem?_map, er]; rfl)
      refine U0 ?_
      clear U0
      rw [hx] at ex'
      cases ex'
      refine byC fun U0 => ?_
      obtain ⟨a, t1, kd, ks, rfl, ha, hkd, hks, hok⟩ := row_in kx
      refine U0 ?_
      clear U0
      have stn : ∀ (a : Addr) (us : List Value), (a, tupObj us) ∈ news → (a, tupObj us) ∈ (e0, oe) :: (i0, oi) :: nw2 := fun a us q => mem_tl (mem_tl (hB.st _ _ (sY _ (HH.sub _ q))))
      have ha' := stn _ _ ha
      have hkd' := stn _ _ hkd
      have hDI : IsInts ((e0, oe) :: (i0, oi) :: nw2) D hs := HH.d.move fun o q => mem_tl (mem_tl (hB.keep _ (sY _ q) (fw q).1 (fw q).2))
      have hcc : (c0 + 1, o1) ∈ (e0, oe) :: (i0, oi) :: nw2 := mem_tl (mem_tl (hB.keep _ (sY _ hm1) (fw hm1).1 (fw hm1).2))
      have hB' := hB.more (nw' := (e0, oe) :: (i0, oi) :: nw2) (fun p hp => mem_tl (mem_tl hp))
      have hkb := IB.k r (List.mem_of_getElem? er)
      have hk3 := hk2 r (List.mem_of_getElem? er)
      have hkl := ints_len hks
      k_extra "go|W3"
      refine compPure (fun i y => ∃ (k : Nat) (t : Tok), (r.2.map (hat hs))[i]? = some k ∧ y = .int (k : Int) t) rfl (by assumption) (by assumption) (.tup hkd') (by lia) ?_ ?_
      · intro j v J C oC m₂ h9 tk9 hv hJ hC hx' F9 N9
        refine byC fun U0 => ?_
        obtain ⟨k, tt, eK, rfl⟩ := ints_at hks hv
        refine U0 ?_
        clear U0
        have hk9 : k < hs.length := by rw [lh]; exact hkb k (List.mem_of_getElem? eK)
        k_extra "go|W3"
        exact PEnd.intro (by assumption) (by assumption) ⟨hat hs k, _, by rw [List.getElem?_map, eK]; rfl, rfl⟩
      · intro D9 ys h9 tk9 hl9 hy F9 N9 hD9
        have iy : IntsAre ys (toZ (r.2.map (hat hs))) := ints_of_at (by rw [hl9, hkl, List.length_map]) hy
        have ly : ys.length ≤ 2 := by lia
        have hLl := hB.fs.len
        k_extra "go|W3"
        rename Fr _ _ _ _ => FZ
        rename News _ _ _ _ => NZ
        rename FD w rows told hs nwY _ fd wd _ _ _ (i + 1) => BZ
        rename ∀ p ∈ (_ : List (Addr × Obj)), Prod.fst p ≠ wd → p ∈ _ => kB
        rename ∀ p ∈ (_ : List (Addr × Obj)), Prod.fst p ≠ fd → p ∈ _ => kA
        have q1 := hB.ofd (fun p hp => (off p hp).1)
        have q2 := hB.ofd (fun p hp => (off p hp).2)
        refine byC fun U0 => ?_
        obtain ⟨nwZ, eZ⟩ := name_news NZ
        subst eZ
        have me : (e0, oe) ∈ nwZ := kB _ (mem_tl (kA _ (mem_tl (mem_tl (mem_tl mem_hd))) q1.1)) q1.2
        have mi : (i0, oi) ∈ nwZ := kB _ (mem_tl (kA _ (mem_tl (mem_tl (mem_tl (mem_tl mem_hd)))) q2.1)) q2.2
        have B4 := BZ.off NZ mi ci q2.1 q2.2 (fun p hp => (of9 p hp).2)
        have N4 : News _ _ _ (offI i0 nwZ) := fun p hp => NZ p (offI_sub p hp)
        have B5 := B4.off N4 (mem_offI.mpr ⟨me, ne9⟩) ce q1.1 q1.2 (fun p hp => (of9 p hp).1)
        obtain ⟨⟨xs3, e3⟩, ⟨L3, e4⟩⟩ := name_fd2 BZ
        subst e3
        refine U0 ?_
        clear U0
        rw [← e4] at B5
        refine FoEndE.put (σ := List (Addr × Obj) × List (Dat × Addr × Value) × List Nat) (Led := fun c => c.1) (ps := fun _ => []) (offI e0 (offI i0 nwZ), xs3, L3) FZ NZ (fun p hp => offI_sub _ (offI_sub _ hp)) me mi (fun p hp => ⟨offI_ne _ hp, offI_ne _ (offI_sub _ hp)⟩) rfl ?_ B5
        k_extra "over"
    · refine pr3 fun nw2 xs2 L2 => ?_
      intro u h2 tk2 hB F2 N2
      dsimp only at hB N2 F2 ⊢
      refine nameM F2 ?_
      clear F2
      intro mM F2
      k_extra "go2|W3"
      rename Fr _ _ _ _ => FV
      rename News _ _ _ nw2 => NV
      rw [hrl] at hB
      refine byC fun U0 => ?_
      obtain ⟨wvs, wc, hwm, hwk⟩ := hB.w
      refine U0 ?_
      clear U0
      have hwl : wvs.length = (told ++ L2.zipIdx).length := by simpa using kinAll_len hwk
      have HV := HH.more (nw' := nw2) (fun p hp => hB.keep _ (sY _ hp) (fw hp).1 (fw hp).2)
      k_dflt (refine' for_T (σ := List (Addr × Obj) × List Nat × Addr × Bool) (fun c => c.1) (fun _ => s.drawn) (fun c => [(Str.ofString "is_open", .bool c.2.2.2)]) [Str.ofString "one", Str.ofString "other"] (fun j c => (HL news c.1 (c0 + 1) (c0 + 1 + 1) (c0 + 1 + 1 + 1) c.2.2.1 c.2.1 ∧ Good rows told c.2.1) ∧ (c.2.2.2 = false → c.2.1 = hs ∧ ∀ p ∈ (told ++ L2.zipIdx).take j, hat hs p.1 = hat hs p.2) ∧ (c.2.2.2 = true → c.2.1.sum < hs.sum) ∧ (wd, W.listOf wvs.toArray wc) ∈ c.1 ∧ TupStay nw2 c.1) (nw2, hs, D, false) ?hd0 ?It ?fix ?hk0 ?i0 ?tg ?_ ?_)
      case hd0 => rfl
      case It => exact iterG_list rfl FV NV hwm
      case fix => intro j c hc p hp; rw [List.mem_singleton.mp hp]; exact hc.2.2.2.1
      case hk0 => intro p hp; rw [List.mem_singleton.mp hp]; rfl
      case i0 => exact ⟨⟨HV, G⟩, fun _ => ⟨rfl, fun p hp => by simp at hp⟩, nofun, hwm, .refl⟩
      case tg => exact .inl ⟨_, _, _, rfl⟩
      · intro j v
        refine pr4 fun nw3 hs3 D3 op3 => ?_
        intro u3 h3 tk3 I oI hj hv P3 offI hclI F3 N3
        refine byC fun U0 => ?_
        obtain ⟨⟨HH3, G3⟩, hc3, hlt3, hwm3, st3⟩ := P3
        refine U0 ?_
        clear U0
        dsimp only at HH3 G3 hc3 hlt3 hwm3 st3 offI N3 F3 ⊢
        refine nameM F3 ?_
        clear F3
        intro mM F3
        refine byC fun U0 => ?_
        obtain ⟨p, ep⟩ : ∃ p, (told ++ L2.zipIdx)[j]? = some p := ⟨_, List.getElem?_eq_getElem (by lia)⟩
        obtain ⟨v', ev, kp⟩ := kinAll_get hwk j (pdat p) (by rw [List.getElem?_map, ep]; rfl)
        refine U0 ?_
        clear U0
        rw [hv] at ev
        cases ev
        refine byC fun U0 => ?_
        obtain ⟨a, t1, t2, rfl, ha⟩ := pair_in kp
        obtain ⟨b1, b2, sn⟩ := wish_in G IB hB.fs (List.mem_of_getElem? ep)
        have ha' := mem_tl (b := (I, oI)) (st3 _ _ ha)
        have H4 := HH3.more (nw' := (I, oI) :: nw3) (fun p hp => mem_tl hp)
        obtain ⟨q1, qm1, qd1⟩ := H4.h1
        obtain ⟨q2, qv2, qm2, qd2⟩ := H4.h2
        obtain ⟨q3, qv3, qm3, qd3⟩ := H4.h3
        refine U0 ?_
        clear U0
        have hD3 := H4.d
        have l3 := G3.len
        have lz3 : hs3.length ≤ 1000000 := by lia
        have k1 : p.1 < hs3.length := by lia
        have k2 : p.2 < hs3.length := by lia
        repeat' ((fail_if_success (with_reducible show wpAny _ _ (ite _ _ _) _ _ _)); (fail_if_success (with_reducible show wpAny _ _ (compareOp _ _ _) _ _ _)); k_extra "step|W3")
        rename News _ _ _ (put _ _ _) => N7
        rename Obj.data _ = Data.cell (some (Value.int ((min _ _ : Nat) : Int) _)) => d7
        have hcb : ∀ p ∈ news, p.1 ≠ c0 + 1 ∧ p.1 ≠ c0 + 1 + 1 ∧ p.1 ≠ c0 + 1 + 1 + 1 := fun p hp => by
          have q : @LT.lt Nat _ p.1 c0 := lc p hp
          refine ⟨?_, ?_, ?_⟩ <;> (show @Ne Nat _ _; lia)
        have x12 : @Ne Addr (c0 + 1) (c0 + 1 + 1) := by show @Ne Nat _ _; lia
        have x13 : @Ne Addr (c0 + 1) (c0 + 1 + 1 + 1) := by show @Ne Nat _ _; lia
        have x23 : @Ne Addr (c0 + 1 + 1) (c0 + 1 + 1 + 1) := by show @Ne Nat _ _; lia
        rename News _ _ _ ((_, tupObj [_, _]) :: (I, oI) :: nw3) => N6
        refine byC fun U0 => ?_
        obtain ⟨nw7, e7⟩ := name_news N7
        have wI := offI _ hwm3
        obtain ⟨_, y1m, _⟩ := HH.h1
        obtain ⟨_, _, y2m, _⟩ := HH.h2
        obtain ⟨_, _, y3m, _⟩ := HH.h3
        have wc1 := Nat.ne_of_gt (lwd _ (mem_tl y1m))
        have wc2 := Nat.ne_of_gt (lwd _ (mem_tl y2m))
        have wc3 := Nat.ne_of_gt (lwd _ (mem_tl y3m))
        obtain ⟨_, z1m, _⟩ := HH3.h1
        obtain ⟨_, _, z2m, _⟩ := HH3.h2
        obtain ⟨_, _, z3m, _⟩ := HH3.h3
        have H7 : HL news nw7 (c0 + 1) (c0 + 1 + 1) (c0 + 1 + 1 + 1) D3 hs3 := by rw [e7]; exact (H4.more (fun p hp => mem_tl hp)).low (fun p hp => (hcb p hp).2.1) x12 x23.symm d7
        have M2 : ∃ o t, (c0 + 1 + 1, o) ∈ nw7 ∧ o.data = .cell (some (.int ((min (hat hs3 p.1) (hat hs3 p.2) : Nat) : Int) t)) := ⟨_, _, by rw [e7]; exact put_self, d7⟩
        have T7 : TupStay ((I, oI) :: nw3) nw7 := fun a us q => by rw [e7]; exact tup_cell N6 (mem_tl qm2) qd2 a us (mem_tl q)
        have W7 : (wd, W.listOf wvs.toArray wc) ∈ nw7 := by rw [e7]; exact put_of (mem_tl (mem_tl hwm3)) wc2
        have I7 : (I, oI) ∈ nw7 := by rw [e7]; exact put_of (mem_tl mem_hd) (offI _ z2m).symm
        rw [← e7] at N7
        obtain ⟨oL, tL, mL, dL⟩ := M2
        obtain ⟨q4, qv4, qm4, qd4⟩ := H7.h3
        refine U0 ?_
        clear U0
        refine' storeX_M (o := q4) ?F N7 ?c qm4 qd4 ?_ ?a ?b
        case a => rfl
        case b => rfl
        case F => k_asm
        case c => rfl
        intro h8 o8 F8 N8 d8
        refine byC fun U0 => ?_
        obtain ⟨nw8, e8⟩ := name_news N8
        have H8 : HL news nw8 (c0 + 1) (c0 + 1 + 1) (c0 + 1 + 1 + 1) D3 hs3 := by rw [e8]; exact H7.high (fun p hp => (hcb p hp).2.2) x13 x23 d8
        have mL8 : (c0 + 1 + 1, oL) ∈ nw8 := by rw [e8]; exact put_of mL x23
        have mH8 : (c0 + 1 + 1 + 1, o8) ∈ nw8 := by rw [e8]; exact put_self
        have T8 : TupStay nw7 nw8 := by rw [e8]; exact tup_cell N7 qm4 qd4
        have W8 : (wd, W.listOf wvs.toArray wc) ∈ nw8 := by rw [e8]; exact put_of W7 wc3
        have I8 : (I, oI) ∈ nw8 := by rw [e8]; exact put_of I7 (offI _ z3m).symm
        rw [← e8] at N8
        have D3I : D3 ≠ I := by obtain ⟨_, _, hm, _⟩ := HH3.d; exact offI _ hm
        obtain ⟨q5, qm5, qd5⟩ := H8.h1
        refine U0 ?_
        clear U0
        have hD8 := H8.d
        have cell8 : ∀ us, (c0 + 1, tupObj us) ∈ nw8 → False := fun us q => by
          rw [news_fn N8 qm5 q] at qd5
          cases qd5
        have T38 : TupStay nw2 nw8 := fun a us q => T8 _ _ (T7 _ _ (mem_tl (st3 _ _ q)))
        clear H4 H7 N6 N7 e7 e8 T7 T8 W7 I7 mL qm4 qd4 y1m y2m y3m qm1 qm2 qm3 qd1 qd2 qd3 hD3
        k_extra "go|W3"
        · rename ((min _ _ : Nat) : Int) ≠ _ => hne
          have hn' : hat hs3 p.1 ≠ hat hs3 p.2 := fun e => hne (by rw [e]; simp)
          refine byC fun U0 => ?_
          obtain ⟨G', lt'⟩ := G3.mg k1 k2 sn hn'
          have emg : Mine.mg hs3 p = hs3.map fun x => if max (hat hs3 p.1) (hat hs3 p.2) = x then min (hat hs3 p.1) (hat hs3 p.2) else x := if_neg (by lia)
          obtain ⟨vs8, n8, hm8, iv8⟩ := hD8
          refine U0 ?_
          clear U0
          have lv8 := ints_len iv8
          refine compPure (fun i y => ∃ (k : Nat) (t : Tok), (Mine.mg hs3 p)[i]? = some k ∧ y = .int (k : Int) t) rfl (by assumption) (by assumption) (.list hm8) (by lia) ?_ ?_
          · intro i v J C oC m₂ h9 tk9 hv9 hJ hC hx' F9 N9
            refine byC fun U0 => ?_
            obtain ⟨k, tt, eK, rfl⟩ := ints_at iv8 hv9
            refine U0 ?_
            clear U0
            k_extra "go|W3"
            · refine PEnd.intro (by assumption) (by assumption) ⟨min (hat hs3 p.1) (hat hs3 p.2), _, ?_, rfl⟩
              rw [emg, List.getElem?_map, eK, Option.map_some, if_pos (by lia)]
            · refine PEnd.intro (by assumption) (by assumption) ⟨k, _, ?_, rfl⟩
              rw [emg, List.getElem?_map, eK, Option.map_some, if_neg (by lia)]
          · intro D9 ys h9 tk9 hl9 hy F9 N9 hD9
            have iy : IntsAre ys (toZ (Mine.mg hs3 p)) := ints_of_at (by rw [hl9, lv8, emg, List.length_map]) hy
            k_extra "go|W3"
            rename News _ _ _ (put _ _ _) => NN
            rename Obj.data _ = Data.cell (some (Value.ref D9)) => dN
            obtain ⟨nw9, e9⟩ := name_news NN
            have H9 : HL news nw9 (c0 + 1) (c0 + 1 + 1) (c0 + 1 + 1 + 1) D9 (Mine.mg hs3 p) := by rw [e9]; exact (H8.more (fun p hp => mem_tl (mem_tl hp))).homes (fun p hp => (hcb p hp).1) x12.symm x13.symm dN ⟨ys, _, mem_tl mem_hd, iy⟩ (hD9 _ qm5).symm (hD9 _ mL8).symm (hD9 _ mH8).symm
            have T9 : TupStay nw8 nw9 := fun a us q => by
              rw [e9]
              refine put_of (mem_tl (mem_tl q)) fun e => ?_
              subst e
              exact cell8 us q
            have W9 : (wd, W.listOf wvs.toArray wc) ∈ nw9 := by rw [e9]; exact put_of (mem_tl (mem_tl W8)) wc1
            have I9 : (I, oI) ∈ nw9 := by rw [e9]; exact put_of (mem_tl (mem_tl I8)) (offI _ z1m).symm
            rw [← e9] at NN
            refine FoEndD.put (σ := List (Addr × Obj) × List Nat × Addr × Bool) (Led := fun c => c.1) (drOf := fun _ => s.drawn) (ps := fun c => [(Str.ofString "is_open", .bool c.2.2.2)]) (Mine.offI I nw9, Mine.mg hs3 p, D9, true) (by assumption) NN offI_sub I9 offI_ne (by exact rfl) ?_ ⟨⟨H9.offI HH3 offI (hD9 _ I8).symm, G'⟩, nofun, fun _ => ?_, mem_offI.mpr ⟨W9, wI⟩, fun a us q => tup_offI NN I9 hclI _ _ (T9 _ _ (T38 _ _ q))⟩
            · k_extra "over"
            · cases op3 with
              | false => rw [← (hc3 rfl).1]; exact lt'
              | true => exact Nat.lt_trans lt' (hlt3 rfl)
        · rename ((min _ _ : Nat) : Int) = _ => heq
          have he' : hat hs3 p.1 = hat hs3 p.2 := by lia
          refine FoEndD.put (σ := List (Addr × Obj) × List Nat × Addr × Bool) (Led := fun c => c.1) (drOf := fun _ => s.drawn) (ps := fun c => [(Str.ofString "is_open", .bool c.2.2.2)]) (Mine.offI I nw8, hs3, D3, op3) (by assumption) N8 offI_sub I8 offI_ne (by exact rfl) ?_ ⟨⟨H8.offI HH3 offI D3I, G3⟩, fun e => ?_, hlt3, mem_offI.mpr ⟨W8, wI⟩, fun a us q => tup_offI N8 I8 hclI _ _ (T38 _ _ q)⟩
          · k_extra "over"
          · obtain ⟨e1, e2⟩ := hc3 e
            refine ⟨e1, fun q hq => ?_⟩
            rw [List.take_add_one, ep] at hq
            rcases List.mem_append.mp hq with hq | hq
            · exact e2 q hq
            · simp at hq
              rw [hq, ← e1]
              exact he'
      · refine pr4 fun nw3 hs3 D3 op3 => ?_
        intro u3 h3 tk3 P4 F3 N3
        refine byC fun U0 => ?_
        obtain ⟨⟨HH3, G3⟩, hc3, hlt3, hwm3, st3⟩ := P4
        refine U0 ?_
        clear U0
        dsimp only at HH3 G3 hc3 hlt3 hwm3 st3 N3 F3 ⊢
        refine nameM F3 ?_
        clear F3
        intro mM F3
        k_extra "go2|W3"
        refine ksw_end (hs3, D3, nw3, op3) F3 N3 (fun _ h => h) trivial (all_of F3 rfl) ?_ ⟨HH3, G3, fun e => ?_⟩ ?_
        · k_extra "over"
        · refine byC fun U0 => ?_
          obtain ⟨e1, e2⟩ := hc3 e
          subst e1
          refine U0 ?_
          clear U0
          rw [hwl, List.take_of_length_le (Nat.le_refl _)] at e2
          refine homes_of G3 hB.fs (fun q hq => e2 q (List.mem_append_left _ hq)) (fun k x hx => e2 (x, k) (List.mem_append_right _ (List.mem_zipIdx_iff_getElem?.mpr hx)))
        · cases op3 with
          | false => rw [(hc3 rfl).1]; simp
          | true =>
            have := hlt3 rfl
            simp
            lia

end
end Mine

open PySem PySem.W PySem.Calls PyProof.Rows PySem.Spec
namespace Mine
section
set_option maxHeartbeats 20000000
example : True := by
  (k_with "ccall|W" => first | (((k_here; (with_reducible refine (?_ : wpAny _ _ (call (Value.ref 352) _) _ _ _)); refine wpAny_noRaise ?_; k_dflt (refine' hclasses_c ?BKK ?FKK ?XKK ?NKK ?TKK ?hkKK ?hdKK ?huKK ?HKK ?hzKK ?_; (case BKK => k_asm); (case FKK => k_asm); (case XKK => k_asm); (case NKK => k_asm); (case TKK => k_asm); (case hkKK => first | assumption | exact rfl); (case hdKK => k_extra "room"); (case huKK => k_extra "room"); (case HKK => k_extra "hrep"); (case hzKK => assumption)); intro D9k h9k tk9k ys9k c9k rs9k nw9k F9k N9k s9k m9k iy9k br9k lr9k; (try dsimp only)); k_extra "hs")) | fail)
  (k_with "ccall|W" => first | (((k_here; (with_reducible refine (?_ : wpAny _ _ (call (Value.ref 364) _) _ _ _)); refine wpAny_noRaise ?_; k_dflt (refine' nodesof_c ?BKK ?FKK ?XKK ?NKK ?TKK ?hkKK ?hdKK ?huKK ?HKK ?LfKK ?haKK ?_; (case BKK => k_asm); (case FKK => k_asm); (case XKK => k_asm); (case NKK => k_asm); (case TKK => k_asm); (case hkKK => first | assumption | exact rfl); (case hdKK => k_extra "room"); (case huKK => k_extra "room"); (case HKK => k_extra "hrep"); (case LfKK => assumption); (case haKK => assumption)); intro D9k h9k tk9k dr9k ys9k c9k nw9k F9k N9k s9k f9k m9k lt9k lr9k; (try dsimp only)); k_extra "hs")) | fail)
  (k_with "nb" => first | (first | with_reducible assumption | exact NB.sub (by assumption) (by intro p9k hp9k; k_extra "insub") | fail) | fail)
  (k_with "isl" => first | (first | exact nb_isl (by k_extra "nb") (by assumption) | fail) | fail)
  (k_with "ccall|W" => first | (((k_here; (with_reducible refine (?_ : wpAny _ _ (call (Value.builtin "dict.setdefault") [Value.ref _, Value.ref _, Value.ref _]) _ _ _)); k_dflt (refine' nb_setdefault ?FKK ?NKK ?BKK ?hkKK ?hPKK ?huKK ?hDKK ?frKK ?hzKK ?_; (case FKK => k_asm); (case NKK => k_asm); (case BKK => k_extra "nb"); (case hkKK => exact .tuple (n := 6) (by k_mem) (.cons (.str _ _ (by assumption)) (.cons (.int _ _) .nil))); (case hPKK => assumption); (case huKK => k_extra "unit"); (case hDKK => k_mem); (case frKK => (refine' NB.off ?b9KK (fun p9 hp9 => ne_lt_of ?l9KK hp9); (case l9KK => assumption); (case b9KK => k_extra "nb"))); (case hzKK => (first | lia | omega))); intro h9k nw9k xs9k l9k tk9k F9k N9k B9k e9k k9k st9k lx9k; (try dsimp only)); k_extra "hs")) | fail)
  (k_with "ccall|W" => first | (((k_here; (with_reducible refine (?_ : wpAny _ _ (call (Value.builtin "list.append") [Value.ref _, Value.ref _]) _ _ _)); k_dflt (refine' nb_append ?FKK ?NKK ?BKK ?hlKK ?huKK ?hKKK ?_; (case FKK => k_asm); (case NKK => k_asm); (case BKK => k_extra "nb"); (case hlKK => assumption); (case huKK => exact ⟨_, _, _, rfl, by k_mem⟩); (case hKKK => (first | lia | omega))); intro h9k nw9k F9k N9k B9k st9k; (try dsimp only)); k_extra "hs")) | fail)
  (k_with "kgetMethod|W" => first | (((with_reducible refine (?_ : wpAny _ _ (getMethod (Value.ref _) _ _) _ _ _)); (k_here; (with_reducible refine (?_ : wpAny _ _ (getMethod (Value.ref _) (PySem.Str.ofString "setdefault") _) _ _ _)); k_dflt (refine' NB.method ?NKK ?BKK PySem.F.slot_dict_setdefault PySem.F.type_dict_setdefault ?_; (case NKK => k_asm); (case BKK => k_extra "nb"))))) | fail)
  trivial
example : True := by
  (k_with "hs" => first | (skip) | fail)
  (k_with "c|G3" => first | (first | (k_extra "?eval"; first | k_extra "keval|2") | (k_extra "?execs"; first | k_extra "kexecs|2") | (k_extra "?call"; first | k_extra "ccall|W" | k_extra "ccall|3" | k_extra "kcall|2") | (k_extra "?getMethod"; first | k_extra "kgetMethod|W" | k_extra "kgetMethod|2") | (k_extra "?getAttr"; first | k_extra "kgetAttr|2") | (k_extra "?callWith"; first | k_extra "kcallWith|2") | (k_extra "?subscriptTail"; first | k_extra "ksubscriptTail|2") | (k_extra "?exec"; first | k_extra "cexec|D" | k_extra "kexec|D" | k_extra "kexec|2") | (k_extra "?newTuple"; first | k_extra "knewTuple|2") | (k_extra "?newList"; first | k_extra "knewList|2") | (k_extra "?binaryOp"; first | k_extra "kbinaryOp|2") | (k_extra "?setItem"; first | k_extra "ksetItem|2") | k_extra "And|2") | fail)
  (k_with "step|G3" => first | (first | k_extra "c|G3" | ((fail_if_success (with_reducible show wpAny _ _ (call (Value.ref _) _) _ _ _)); (fail_if_success (with_reducible show wpAny _ _ (pyIter (Value.ref _)) _ _ _)); (fail_if_success (with_reducible show wpAny _ _ (call (Value.builtin "sorted") _) _ _ _)); (fail_if_success (with_reducible show KswEnd _ _ _ _ _ _ _ _ _ _ _ _)); walk1) | (k_here; k_dflt k_extra "walkin")) | fail)
  (k_with "go|G3" => first | (repeat' k_extra "step|G3") | fail)
  trivial
variable {w : World} {A₀ : Around} {base h₀ : Heap} {outer : List Env} {cn : Str} {cs : Scope} {L fa : Addr} {ccd : Value} {cl : List (Str × Addr)} {m mg mb : Str → Option Value} {mean : ExcName → Option Value} {news : List (Addr × Obj)} {s : Shared} {Q : Value → Shared → Prop} {dp un : Nat} {gd : Option (List Code)}

theorem byop_c {ops : List Str} {mI : Addr} {y : Lay} {v : Dy} {σ : HS}
    (B : Below A₀ base outer h₀) (F : Fr h₀ L s.heap m) (X : (Mine.hd.heap_1 w.params).In h₀) (N : News h₀ L s.heap news) (T : Top Mine.hd.view_1 (looseW Mine.hd.view_1 []) mean mg mb h₀) (hk : cs.kind = .function) (hd : dp + 40 < 1000) (hu : un + 300 < 1000) (H : HRep w news y v σ) (Lf : Leafy (fun x => x ∈ ops) σ) (hops : ops.length ≤ 4)
    (ret : ∀ fd xs h' tk' dr news', Fr h₀ L h' m → News h₀ L h' news' → (∀ p ∈ news, p ∈ news') → (∀ p ∈ news, p.1 ≠ fd) → NB (fun x => x ∈ ops) w news news' fd xs 8 → Q (.ref fd) { s with heap := h', toks := tk', drawn := dr }) :
    wpAny (model prog w) (ktrTop dp un gd cn cs L fa ccd cl outer) (call (.ref 411) [.ref mI, .ref y.hI]) Q (fun _ _ => False) s := by
  have hp := Lf.p
  have hz : σ.par.length ≤ 1000 := Nat.le_trans Lf.z (by decide)
  refine wpAny_call ?_
  k_dflt k_enter
  refine wpAny_noRaise ?_
  k_extra "go|G3"
  rename Fr _ _ _ _ => FX
  rename News _ _ _ _ => NX
  rename ∀ p ∈ (_, _) :: news, p ∈ _ => sX
  refine byC fun U0 => ?_
  obtain ⟨nwX, eX⟩ := name_news NX
  rw [← eX] at NX sX
  rename Obj.IsDictOf (intKind prog w) _ [] => hi
  rename (_ == sysModules) = false => lo
  rename ∀ p ∈ news, p.1 < _ => lf
  rename IntsAre _ (toZ _) => iX
  rename ∀ r ∈ _, r < σ.par.length => bX
  rename List.length _ ≤ σ.par.length => lX
  rename (_, W.listOf _ _) ∈ _ => mX
  rw [← eX] at mX
  have TX := td_none lo (sX _ mem_hd) hi
  obtain ⟨fd, efd⟩ := name_td TX
  subst efd
  refine U0 ?_
  clear U0
  have HX := H.sub (fun p hp => sX p (mem_tl hp))
  have nfd := not_own_of H lf
  have B0 : NB (fun x => x ∈ ops) w nwX nwX fd [] 0 := NB.none TX (fun p hp _ => hp) .refl
  have hfL : ∀ {c : Nat} {D : Addr} {us : List Value}, (D, W.listOf (List.toArray us) c) ∈ nwX → D ≠ fd := fun {c D us} hm e => by
    refine byC fun U0 => ?_
    obtain ⟨o, ho, hc⟩ := TX.obj
    refine U0 ?_
    clear U0
    rw [news_fn NX ho (e ▸ hm)] at hc
    simp at hc
  have lo' := lo
  k_dflt (refine' for_E (σ := List (Addr × Obj) × Drawn × List (Dat × Addr × Value)) (fun c => c.1) (fun c => c.2.1) (fun _ => []) [Str.ofString "c", Str.ofString "node"] (fun i c => NB (fun x => x ∈ ops) w nwX c.1 fd c.2.2 (2 * i) ∧ c.2.2.length ≤ 2 * i) (nwX, s.drawn, []) rfl ?hx ?hpl ?It ?fix ?hk0 ?i0 ?_ ?_)
  case hx => rfl
  case hpl => rfl
  case It => exact iterG_list rfl FX NX mX
  case fix => intro i c hc p hp; rw [List.mem_singleton.mp hp]; exact hc.1.keep _ mX (hfL mX)
  case hk0 => exact fun p hp => nomatch hp
  case i0 => exact ⟨B0, Nat.le_refl _⟩
  · intro i x
    refine pr3 fun nw1 dr1 xs1 => ?_
    intro u h9 tk9 I oI hi hv P1 off hcl F9 N9
    refine byC fun U0 => ?_
    obtain ⟨hB, hl⟩ := P1
    refine U0 ?_
    clear U0
    dsimp only at hB hl off N9 F9 ⊢
    refine byC fun U0 => ?_
    obtain ⟨k, tt, eK, rfl⟩ := ints_at iX hv
    refine U0 ?_
    clear U0
    have hks : k < σ.par.length := bX k (List.mem_of_getElem? eK)
    have H1 := HX.tube hB.keep hB.st nfd
    have HI : HRep w ((I, oI) :: nw1) y v σ := H1.cons
    k_extra "go|G3"
    rename Fr _ _ _ _ => FY
    rename News _ _ _ _ => NY
    rename ∀ p ∈ (I, oI) :: nw1, p ∈ _ => sY
    rename ∀ p ∈ (I, oI) :: nw1, Prod.fst p ≠ _ => fY
    rename Drawn => drY
    refine byC fun U0 => ?_
    obtain ⟨nwY, eY⟩ := name_news NY
    subst eY
    rename (_, W.listOf _ _) ∈ nwY => mY
    rename ∀ v ∈ _, LeafT _ nwY v => tY
    rename List.length _ ≤ 2 => lY
    have hIf := hB.fdne off
    have B2 := (hB.add (q := (I, oI)) (nw' := (I, oI) :: nw1) (fun p hp => mem_tl hp) mem_hd off).add sY mY fY
    obtain ⟨b2, eb⟩ := name_nb B2
    refine U0 ?_
    clear U0
    rw [← eb] at B2
    have hDf := hB.fdne (fun p hp => fY p (mem_tl hp))
    have hi4 : i ≤ 3 := by have := Lf.z; lia
    k_dflt (refine' for_F (σ := List (Addr × Obj) × List (Dat × Addr × Value)) (fun c => c.1) (fun _ => drY) (fun j c => NB (fun x => x ∈ ops) w b2 c.1 fd c.2 (2 * i + j) ∧ TupStay nwY c.1 ∧ c.2.length ≤ 2 * i + j) (nwY, xs1) ?hd0 ?hx ?hpl ?It ?fix ?i0 ?_ ?_)
    case hd0 => rfl
    case hx => rfl
    case hpl => rfl
    case It => exact iterG_list rfl FY NY mY
    case i0 => exact ⟨B2, .refl, hl⟩
    case fix => intro j c hc p hp; rw [List.mem_singleton.mp hp]; exact hc.1.keep _ (by rw [eb]; exact mem_hd) hDf.symm
    · intro j x
      refine pr2 fun nw2 xs2 => ?_
      intro h10 tk10 J oJ hj hvj P2 offJ hclJ F10 N10
      refine byC fun U0 => ?_
      obtain ⟨hB2, hT2, hl2⟩ := P2
      refine U0 ?_
      clear U0
      dsimp only at hB2 hT2 hl2 offJ N10 F10 ⊢
      refine byC fun U0 => ?_
      obtain ⟨a, op, t, rfl, ha, hop, hok⟩ := (tY _ (List.mem_of_getElem? hvj)).move hT2
      refine U0 ?_
      clear U0
      have hJf := hB2.fdne offJ
      have hj2 : j < 2 := by lia
      have hle : xs2.length ≤ 8 := by lia
      have B3 := hB2.add (q := (J, oJ)) (nw' := (J, oJ) :: nw2) (fun p hp => mem_tl hp) mem_hd offJ
      k_extra "go|G3"
      rename Fr _ _ _ _ => FZ
      rename News _ _ _ _ => NZ
      rename NB _ w _ _ fd _ (2 * i + j + 1) => BZ
      rename TupStay ((_, tupObj _) :: _) _ => sZ
      rename TupStay ((_, W.listOf _ _) :: _) _ => sZ1
      rename List.length _ ≤ xs2.length + 1 => lZ
      refine byC fun U0 => ?_
      obtain ⟨xs3, ex⟩ := name_xs BZ
      subst ex
      refine U0 ?_
      clear U0
      have hJ := BZ.keep _ mem_hd hJf.symm
      have sT : TupStay nwY (offI J _) := fun a us q => tup_offI NZ hJ hclJ _ _ (sZ _ _ (mem_tl (sZ1 _ _ (mem_tl (mem_tl (mem_tl (hT2 _ _ q)))))))
      refine fo_endF (σ := List (Addr × Obj) × List (Dat × Addr × Value)) (Led := fun c => c.1) (drOf := fun _ => drY) (offI J _, xs3) FZ NZ offI_sub hJ offI_ne (fun z hz => if_neg hz) ⟨BZ.offI NZ hJf.symm hclJ (hB2.off offJ), sT, Nat.le_trans lZ (Nat.succ_le_succ hl2)⟩
    · refine pr2 fun nw2 xs2 => ?_
      intro u2 h10 tk10 P3 F10 N10
      refine byC fun U0 => ?_
      obtain ⟨hB2, hT2, hl2⟩ := P3
      refine U0 ?_
      clear U0
      dsimp only at hB2 hT2 hl2 N10 F10 ⊢
      rw [eb] at hB2
      have B4 := hB2.less (base' := (I, oI) :: nwX) (fun p hp => mem_tl hp)
      have hI := B4.keep _ mem_hd hIf.symm
      k_extra "go|G3"
      refine FoEndD.intro (σ := List (Addr × Obj) × Drawn × List (Dat × Addr × Value)) (Led := fun c => c.1) (drOf := fun c => c.2.1) (ps := fun _ => []) (offI I nw2, drY, xs2) F10 N10 offI_sub hI offI_ne (fun p hp => nomatch hp) (fun z _ hz => ?_) ⟨(B4.offI N10 hIf.symm hcl (hB.off off)).mono (by lia), by show xs2.length ≤ _; lia⟩
      have hz2 : z ≠ Str.ofString "node" ∧ z ≠ Str.ofString "c" := ⟨fun e => by rw [e] at hz; exact absurd hz (by decide), fun e => by rw [e] at hz; exact absurd hz (by decide)⟩
      show (if z = _ then _ else if z = _ then _ else (if _ then _ else _)) = _
      rw [if_neg hz2.1, if_neg hz2.2, hz]
      rfl
  · refine pr3 fun nw1 dr1 xs1 => ?_
    intro u h9 tk9 P4 F9 N9
    refine byC fun U0 => ?_
    obtain ⟨hB, hl⟩ := P4
    refine U0 ?_
    clear U0
    dsimp only at hB hl N9 F9 ⊢
    k_extra "go|G3"
    rename Fr h₀ L _ m => kF
    rename News h₀ L _ _ => kN
    have B5 : NB (fun x => x ∈ ops) w news nw1 fd xs1 8 := (hB.less fun p hp => sX p (mem_tl hp)).mono (by have := Lf.z; lia)
    exact ret fd xs1 _ _ dr1 _ kF kN (fun p hp => B5.keep p hp (ne_lt_of lf hp)) (fun p hp => ne_lt_of lf hp) B5

end
end Mine

open PySem PySem.W PySem.Calls PyProof.Rows PySem.Spec
namespace Mine
section
set_option maxHeartbeats 20000000
example : True := by
  (k_with "ccall|X" => first | (((k_here; (with_reducible refine (?_ : wpAny _ _ (call (Value.ref 411) _) _ _ _)); refine wpAny_noRaise ?_; k_dflt (refine' byop_c ?BKK ?FKK ?XKK ?NKK ?TKK ?hkKK ?hdKK ?huKK ?HKK ?LfKK ?hopsKK ?_; (case BKK => k_asm); (case FKK => k_asm); (case XKK => k_asm); (case NKK => k_asm); (case TKK => k_asm); (case hkKK => first | assumption | exact rfl); (case hdKK => k_extra "room"); (case huKK => k_extra "room"); (case HKK => k_extra "hrep"); (case LfKK => assumption); (case hopsKK => assumption)); intro fd9k xs9k h9k tk9k dr9k nw9k F9k N9k s9k f9k B9k; (try dsimp only)); k_extra "hs")) | fail)
  (k_with "k_mem" => first | (with_reducible first | exact MRep.i1 (by assumption) | exact MRep.i2 (by assumption) | fail) | fail)
  (k_with "csubscriptTail|X" => first | ((k_here; (with_reducible refine (?_ : wpAny _ _ (subscriptTail _ _ (Value.ref _) (Value.ref (Prod.fst (Prod.snd _)))) _ _ _)); k_dflt (refine' nb_item ?NKK ?BKK ?hxKK ?huKK ?_; (case NKK => k_asm); (case hxKK => assumption); (case BKK => k_extra "nb"); (case huKK => k_extra "unit")); intro l9k tk9k pl9k; (try dsimp only))) | fail)
  (k_with "ccall|X" => first | ((k_here; (with_reducible refine (?_ : wpAny _ _ (call (Value.builtin "dict.get") [Value.ref _, Value.ref (Prod.fst (Prod.snd _)), Value.ref _]) _ _ _)); k_dflt (refine' nb_get ?NKK ?BKK ?hkKK ?hnoKK ?huKK ?_; (case NKK => k_asm); (case hnoKK => assumption); (case BKK => k_extra "nb"); (case hkKK => (refine' KIn.move ?_ (by assumption); k_extra "stay")); (case huKK => k_extra "unit")); intro tk9k; (try dsimp only))) | fail)
  (k_with "kgetMethod|X" => first | (((with_reducible refine (?_ : wpAny _ _ (getMethod (Value.ref _) _ _) _ _ _)); (k_here; (with_reducible refine (?_ : wpAny _ _ (getMethod (Value.ref _) (PySem.Str.ofString "get") _) _ _ _)); k_dflt (refine' NB.method ?NKK ?BKK PySem.F.slot_dict_get PySem.F.type_dict_get ?_; (case NKK => k_asm); (case BKK => k_extra "nb"))))) | fail)
  trivial
example : True := by
  (k_with "hs" => first | (try (refine hideS ?_; intro sSk)) | fail)
  (k_with "c|G4" => first | (first | (k_extra "?eval"; first | k_extra "keval|2") | (k_extra "?execs"; first | k_extra "kexecs|2") | (k_extra "?call"; first | k_extra "ccall|X" | k_extra "ccall|W" | k_extra "kcall|2") | (k_extra "?getMethod"; first | k_extra "kgetMethod|X" | k_extra "kgetMethod|W" | k_extra "kgetMethod|2") | (k_extra "?getAttr"; first | k_extra "kgetAttr|2") | (k_extra "?callWith"; first | k_extra "kcallWith|2") | (k_extra "?subscriptTail"; first | k_extra "csubscriptTail|X" | k_extra "ksubscriptTail|2") | (k_extra "?exec"; first | k_extra "cexec|D" | k_extra "kexec|D" | k_extra "kexec|2") | (k_extra "?newTuple"; first | k_extra "knewTuple|2") | (k_extra "?newList"; first | k_extra "knewList|2") | (k_extra "?binaryOp"; first | k_extra "kbinaryOp|2") | (k_extra "?setItem"; first | k_extra "ksetItem|2") | k_extra "And|2") | fail)
  (k_with "step|G4" => first | (first | k_extra "c|G4" | ((fail_if_success (with_reducible show wpAny _ _ (call (Value.ref _) _) _ _ _)); (fail_if_success (with_reducible show wpAny _ _ (pyIter (Value.ref _)) _ _ _)); (fail_if_success (with_reducible show wpAny _ _ (call (Value.builtin "sorted") _) _ _ _)); (fail_if_success (with_reducible show KswEnd _ _ _ _ _ _ _ _ _ _ _ _)); walk1) | (k_here; k_dflt k_extra "walkin")) | fail)
  (k_with "go|G4" => first | (repeat' k_extra "step|G4") | fail)
  trivial
variable {w : World} {A₀ : Around} {base h₀ : Heap} {outer : List Env} {cn : Str} {cs : Scope} {L fa : Addr} {ccd : Value} {cl : List (Str × Addr)} {m mg mb : Str → Option Value} {mean : ExcName → Option Value} {news : List (Addr × Obj)} {s : Shared} {Q : Value → Shared → Prop} {dp un : Nat} {gd : Option (List Code)}

theorem goup_c {M : ML} {v1 v2 : Dy} {σ1 σ2 : HS} {ops1 ops2 : List Str}
    (B : Below A₀ base outer h₀) (F : Fr h₀ L s.heap m) (X : (Mine.hd.heap_1 w.params).In h₀) (N : News h₀ L s.heap news) (T : Top Mine.hd.view_1 (looseW Mine.hd.view_1 []) mean mg mb h₀) (hk : cs.kind = .function) (hd : dp + 50 < 1000) (hu : un + 400 < 1000) (m1 : (M.mI, instObj 433 M.mD) ∈ news) (m2 : (M.mD, meD w M.t M.y1.hI M.y2.hI M.y.hI M.nu) ∈ news) (H1 : HRep w news M.y1 v1 σ1) (H2 : HRep w news M.y2 v2 σ2) (Lf1 : Leafy (fun x => x ∈ ops1) σ1) (Lf2 : Leafy (fun x => x ∈ ops2) σ2) (hops1 : ops1.length ≤ 4) (hops2 : ops2.length ≤ 4) (hdis : ∀ x ∈ ops1, x ∉ ops2)
    (ret : ∀ h' tk' dr news', Fr h₀ L h' m → News h₀ L h' news' → (∀ p ∈ news, p ∈ news') → Q (.bool false) { s with heap := h', toks := tk', drawn := dr }) :
    wpAny (model prog w) (ktrTop dp un gd cn cs L fa ccd cl outer) (call (.ref 418) [.ref M.mI]) Q (fun _ _ => False) s := by
  refine wpAny_call ?_
  k_dflt k_enter
  refine wpAny_noRaise ?_
  k_extra "go|G4"
  rename Fr _ _ _ _ => FX
  rename News _ _ _ (_ :: _) => NX
  refine byC fun U0 => ?_
  obtain ⟨nwS, eS⟩ := name_news NX
  rw [← eS] at NX
  rename NB (fun x => x ∈ ops2) w _ _ _ _ 8 => B2
  rename NB (fun x => x ∈ ops1) w _ _ _ _ 8 => B1
  obtain ⟨nwA, eA⟩ := name_nw B1
  subst eA
  obtain ⟨nwB, eB⟩ := name_nw B2
  subst eB
  obtain ⟨fd1, e1⟩ := name_fd B1
  subst e1
  obtain ⟨fd2, e2⟩ := name_fd B2
  subst e2
  obtain ⟨xs1, e3⟩ := name_xs B1
  subst e3
  obtain ⟨xs2, e4⟩ := name_xs B2
  subst e4
  refine U0 ?_
  clear U0
  rename ∀ p ∈ nwA, p ∈ nwB => sB
  rename ∀ p ∈ news, p ∈ nwA => sA
  have sS : ∀ p ∈ nwB, p ∈ nwS := fun p hp => by rw [eS]; exact mem_tl hp
  have C1 := (B1.sub sB).sub sS
  have C2 := B2.sub sS
  have sN : ∀ p ∈ news, p ∈ nwS := fun p hp => sS p (sB p (sA p hp))
  have hx1 := Nat.le_trans B1.len hops1
  clear B1 B2
  refine' td_sorted ?hh ?hu ?F ?N C1.td hx1 (fun x hx => C1.si hx) ?_
  case hh => rfl
  case hu => k_extra "unit"
  case F => k_asm
  case N => k_asm
  intro D c h9 tk9 zs FS NS lS hlz hzs
  have hno : ∀ x ∈ xs1, ∀ z ∈ xs2, z.1 ≠ x.1 := fun x hx z hz e => by
    refine byC fun U0 => ?_
    obtain ⟨op1, o1, q1⟩ := C1.ks x hx
    obtain ⟨op2, o2, q2⟩ := C2.ks z hz
    refine U0 ?_
    clear U0
    rw [q1, q2] at e
    simp only [Dat.tuple.injEq, List.cons.injEq, Dat.str.injEq, and_true] at e
    exact hdis _ o1 (e ▸ o2)
  have D1 := C1.sub (nw' := (D, W.listOf zs.toArray c) :: nwS) (fun p hp => mem_tl hp)
  have D2 := C2.sub (nw' := (D, W.listOf zs.toArray c) :: nwS) (fun p hp => mem_tl hp)
  obtain ⟨dr, edr⟩ : ∃ dr : Drawn, dr = _ := ⟨_, rfl⟩
  k_extra "go|G4"
  k_dflt (refine' for_E (σ := Unit) (fun _ => (D, W.listOf zs.toArray c) :: nwS) (fun _ => dr) (fun _ => []) [Str.ofString "head", Str.ofString "c", Str.ofString "node", Str.ofString "d", Str.ofString "late"] (fun i _ => True) () ?hd0 ?hx ?hpl ?It ?fix ?hk0 ?i0 ?_ ?_)
  case hd0 => exact edr
  case hx => rfl
  case hpl => rfl
  case It => exact iterG_list rfl FS NS mem_hd
  case fix => intro i c hc p hp; rw [List.mem_singleton.mp hp]; exact mem_hd
  case hk0 => exact fun p hp => nomatch hp
  case i0 => trivial
  · intro i q z1 u h9 tk9 I oI hi hv z2 off hcl F9 N9
    clear z2
    refine byC fun U0 => ?_
    obtain ⟨x, hx, rfl⟩ := hzs _ (List.mem_of_getElem? hv)
    refine U0 ?_
    clear U0
    have hnx := hno x hx
    have kx := D1.key hx
    have hkx := kx.move (news' := (I, oI) :: (D, W.listOf zs.toArray c) :: nwS) .cons
    dsimp only at F9 N9 off ⊢
    k_extra "go|G4"
    rename PairL _ _ 8 => pl
    refine byC fun U0 => ?_
    obtain ⟨us, n, hm, hus, hz⟩ := pl
    refine U0 ?_
    clear U0
    k_dflt (refine' for_T (σ := Unit) (fun _ => (I, oI) :: (D, W.listOf zs.toArray c) :: nwS) (fun _ => dr) (fun _ => []) [Str.ofString "c", Str.ofString "node", Str.ofString "d", Str.ofString "late"] (fun i _ => True) () ?hd0 ?It ?fix ?hk0 ?i0 ?tg ?_ ?_)
    case hd0 => rfl
    case It => exact iterG_list rfl (by assumption) (by assumption) hm
    case fix => intro i c hc p hp; rw [List.mem_singleton.mp hp]; exact hm
    case hk0 => exact fun p hp => nomatch hp
    case i0 => trivial
    case tg => exact .inl ⟨_, _, _, rfl⟩
    · intro j q z3 u2 h10 tk10 J oJ hj hvj z4 offJ hclJ F10 N10
      clear z4
      refine byC fun U0 => ?_
      obtain ⟨pa, px, pz, rfl, hpa⟩ := hus _ (List.mem_of_getElem? hvj)
      refine U0 ?_
      clear U0
      have hpa' := mem_tl (b := (J, oJ)) hpa
      dsimp only at F10 N10 offJ ⊢
      k_extra "go|G4"
      rename News _ _ _ ((_, W.listOf #[] 0) :: _) => N11
      rename ∀ p ∈ (J, oJ) :: _, Prod.fst p < _ => l11
      refine byC fun U0 => ?_
      obtain ⟨D', eD⟩ := name_lt l11
      subst eD
      refine U0 ?_
      clear U0
      k_dflt (refine' for_T (σ := Unit) (fun _ => (D', W.listOf #[] 0) :: (J, oJ) :: (I, oI) :: (D, W.listOf zs.toArray c) :: nwS) (fun _ => dr) (fun _ => []) [Str.ofString "d", Str.ofString "late"] (fun i _ => True) () ?hd0 ?It ?fix ?hk0 ?i0 ?tg ?_ ?_)
      case hd0 => rfl
      case It => exact iterG_list (us := []) rfl (by assumption) (by assumption) mem_hd
      case fix => intro i c hc p hp; rw [List.mem_singleton.mp hp]; exact mem_hd
      case hk0 => exact fun p hp => nomatch hp
      case i0 => trivial
      case tg => exact .inl ⟨_, _, _, rfl⟩
      · exact fun _ _ _ _ _ _ _ _ h => absurd h (Nat.not_lt_zero _)
      · intro z5 u3 h11 tk11 z6 F11 N11
        clear z6
        dsimp only at F11 N11 ⊢
        k_extra "go|G4"
        refine FoEndD.intro (σ := Unit) (Led := fun _ => _) (drOf := fun _ => dr) (ps := fun _ => []) () F11 N11 (fun p hp => mem_tl (mem_tl hp)) (mem_tl mem_hd) offJ (fun p hp => nomatch hp) (fun z _ hz => ?_) trivial
        have hn := cont_ne hz
        show (if _ then _ else if z = _ then _ else if z = _ then _ else (if _ then _ else _)) = _
        rw [if_neg (not_cont (l := [Str.ofString "d", Str.ofString "late"]) fun x hx => hn x (.tail _ (.tail _ hx))), if_neg (hn _ (.tail _ (.head _))), if_neg (hn _ (.head _)), if_neg (not_cont hn)]
    · intro z7 u2 h10 tk10 z8 F10 N10
      clear z8
      dsimp only at F10 N10 ⊢
      k_extra "go|G4"
      refine FoEndD.intro (σ := Unit) (Led := fun _ => _) (drOf := fun _ => dr) (ps := fun _ => []) () F10 N10 (fun p hp => mem_tl hp) mem_hd off (fun p hp => nomatch hp) (fun z _ hz => ?_) trivial
      have hn := cont_ne hz
      show (if _ then _ else if z = _ then _ else (if _ then _ else _)) = _
      rw [if_neg (not_cont (l := [Str.ofString "c", Str.ofString "node", Str.ofString "d", Str.ofString "late"]) fun x hx => hn x (.tail _ hx)), if_neg (hn _ (.head _)), if_neg (not_cont hn)]
  · intro z9 u h9 tk9 z10 F9 N9
    clear z10
    dsimp only at F9 N9 ⊢
    k_extra "go|G4"
    rename Fr h₀ L _ m => kF
    rename News h₀ L _ _ => kN
    exact ret _ _ _ _ kF kN (fun p hp => mem_tl (sN p hp))

end
end Mine

open PySem PySem.W PySem.Calls PyProof.Rows PySem.Spec
namespace Mine
section
set_option maxHeartbeats 20000000
example : True := by
  (k_with "k_room" => first | (first | (apply room2 hd; decide) | (apply room1 hd; decide) | exact room0 hd | exact Nat.le_of_ble_eq_true rfl | ((try simp only [depth_under_make, depth_under_kw, depth_in1, depth_deeper, depth_caller]); (try dsimp only [ktrTop]); (try simp only [recursionLimit] at *); (first | lia | omega))) | fail)
  (k_with "k_units" => first | (first | (apply room2 hu; decide) | (apply room1 hu; decide) | exact room0 hu | (apply unit2 hu; decide) | (apply unit1 hu; decide) | exact unit0 hu | (apply room3 hu; decide) | (apply unit3 hu; decide) | exact Nat.le_of_ble_eq_true rfl | ((try simp only [units_in1, units_deeper, Around.mark_units]); (try dsimp only [ktrTop]); (have hcL9k := cLine_is); (first | lia | omega))) | fail)
  (k_with "k_enter" => first | (first | (refine' code_def ?k1KK ?k2KK ?k3KK ?k4KK ?k5KK ?kAKK ?kFKK ?kKKK ?k6KK ?k7KK ?k8KK ?k9KK ?kBKK ?_ ?c2KK ?c3KK ?c4KK ?c5KK; (case kAKK => exact rfl); (case kFKK => exact rfl); (case kKKK => first | assumption | exact rfl); (case k1KK => k_asm); (case k2KK => k_asm); (case k3KK => k_asm); (case k4KK => k_asm); (case k5KK => k_asm); (case k6KK => k_is); (case k7KK => k_is); (case k8KK => k_room); (case k9KK => first | exact BindsTo.of_eq rfl | exact binds_K (by k_in) rfl (by k_is) rfl rfl rfl); (case c5KK => decide); (case kBKK => exact locs rfl); (case c2KK => exact rfl); (case c3KK => exact rfl); (case c4KK => exact rfl); k_whole; intro g'k L'k h'k FG'k F'k N'k B'k X'k T'k; (try k_fold); (try (refine hideA ?_; intro Akk)); (try (refine hideE ?_; intro eEk)); (try (refine nameM F'k ?_; clear F'k; intro mMk FMk))) | (refine' code_defC ?k1KK ?k2KK ?k3KK ?k4KK ?k5KK ?kAKK ?kFKK ?kKKK ?k6KK ?k7KK ?k8KK ?k9KK ?kBKK ?kDKK ?_ ?c2KK ?c3KK ?c4KK; (case kAKK => exact rfl); (case kFKK => exact rfl); (case kKKK => first | assumption | exact rfl); (case k1KK => k_asm); (case k2KK => k_asm); (case k3KK => k_asm); (case k4KK => k_asm); (case k5KK => k_asm); (case k6KK => k_is); (case k7KK => k_is); (case k8KK => k_room); (case k9KK => first | exact BindsTo.of_eq rfl | exact binds_K (by k_in) rfl (by k_is) rfl rfl rfl); (case kBKK => exact rfl); (case kDKK => decide +kernel); (case c2KK => exact rfl); (case c3KK => exact rfl); (case c4KK => exact rfl); k_whole; intro g'k L'k h'k tk'k cells'k FG'k F'k N'k Y'k B'k X'k T'k l1k; k_cells Y'k; (try simp only [List.cons_append, List.nil_append] at N'k); (try k_fold); (try (refine hideA ?_; intro Akk)); (try (refine hideE ?_; intro eEk)); (try (refine nameM F'k ?_; clear F'k; intro mMk FMk)))) | fail)
  (k_with "kexecs|2n" => first | (((with_reducible refine (?_ : wpAny _ _ (execs (_ :: _) _) _ _ _)); (k_here; (try k_gentoks); (with_reducible refine wpAny_execs_cons ?_); (try dsimp only); (try ((fail_if_success (fail_if_success k_fold)); refine hideQ ?_; intro qkk))))) | fail)
  trivial
example : True := by
  (k_with "hs" => first | (try (refine hideS ?_; intro sSk)) | fail)
  (k_with "c|I2" => first | (first | (k_extra "?execs"; first | k_extra "kexecs|2n")) | fail)
  trivial

theorem news_uniq {h₀ h : Heap} {L : Addr} {nw : List (Addr × Obj)} (N : News h₀ L h nw) : ∀ a x y, (a, x) ∈ nw → (a, y) ∈ nw → x = y := fun _ _ _ => news_fn N
theorem ok_empty : Ok 0 emptyS where
  len := Nat.zero_le _
  par := by intro i h; simp [emptyS] at h
  nodes := rfl
  nums := rfl
  wl := rfl
  dl := rfl
  lots := rfl
  kids := fun n nd h => by simp [emptyS] at h
  roots := fun i h => by simp [emptyS] at h
  keys := fun c h => by simp [emptyS] at h
  keysN := .nil
  known := fun x h => by simp [emptyS] at h
  above := fun c h => by simp [emptyS] at h
  wait := fun n h => by simp [emptyS] at h
  ab := fun _ => Nat.zero_le _
  lot := fun i => by simp [emptyS]
  abs := Nat.zero_le _
  los := Nat.zero_le _
  pot := Nat.zero_le _
theorem steps_still {σ τ : HS} (h : Steps σ τ) (hw : σ.wait = []) : τ = σ := by
  induction h with
  | refl => rfl
  | snoc h1 h2 ih => rw [ih, hw] at h2; exact absurd h2 (Nat.lt_irrefl _)
theorem allLt_mem {D : Addr} {l : List (Addr × Obj)} (h : AllLt D l) : ∀ p ∈ l, p.1 < D := by
  induction l with
  | nil => intro p hp; cases hp
  | cons q r ih =>
    unfold AllLt at h
    intro p hp
    rcases List.mem_cons.mp hp with e | hp
    · rw [e]; exact h.1
    · exact ih h.2 p hp
theorem meet_made {w : World} {news nw9 : List (Addr × Obj)} {x d nd : Addr} {o D2 D3 : Obj} {y9 y1 y2 : Lay} {v9 : Dy} {t : Nat → Tok} {g h : Heap} {L : Addr} (H9 : HRep w nw9 y9 v9 emptyS) (s9 : ∀ p ∈ (x, instObj 433 d) :: (d, D2) :: news, p ∈ nw9) (f9 : ∀ p ∈ (x, instObj 433 d) :: (d, D2) :: news, p.1 < y9.hD) (o9 : ∀ a : Nat, y9.own v9 emptyS a → y9.hD ≤ a)
    (un : ∀ a x y, (a, x) ∈ nw9 → (a, y) ∈ nw9 → x = y) (lf : ∀ p ∈ news, p.1 < d) (l2 : @LT.lt Nat _ d x) (al : AllLt nd (put d D3 nw9)) (hi : o.IsDictOf (intKind prog w) []) (lo : (nd == sysModules) = false) (hc : D2.cls ≠ .type "tuple")
    (N : News g L h (put d (meD w t y1.hI y2.hI y9.hI nd) ((nd, o) :: put d D3 nw9))) : ∃ (M : ML) (nwW : List (Addr × Obj)), M.mI = x ∧ M.nu = nd ∧ M.y = y9 ∧ M.y1 = y1 ∧ M.y2 = y2 ∧ News g L h nwW ∧ MRep w nwW M v9 emptyS [] ∧ (∀ p ∈ news, p ∈ nwW) ∧ (∀ p ∈ news, ¬ y9.own v9 emptyS p.1) ∧ (∀ p ∈ news, p.1 ≠ nd) ∧ (∀ p ∈ news, p.1 ≠ M.mI) ∧ ∀ p ∈ news, p.1 ≠ M.mD := by
  have la := allLt_mem al
  have hdm := s9 _ (mem_tl mem_hd)
  have hdn : d ≠ nd := Nat.ne_of_lt (la _ (by exact put_self))
  have hxd : x ≠ d := Nat.ne_of_gt l2
  have kd : ∀ p ∈ nw9, p.1 ≠ d → p ∈ put d (meD w t y1.hI y2.hI y9.hI nd) ((nd, o) :: put d D3 nw9) := fun p hp hn => put_of (mem_tl (put_of hp hn)) hn
  have st : TupStay nw9 (put d (meD w t y1.hI y2.hI y9.hI nd) ((nd, o) :: put d D3 nw9)) := fun a vs q => kd _ q fun e => hc (by
    dsimp only at e
    subst e
    rw [un _ _ _ hdm q])
  have lt9 : ∀ {a : Nat}, (∃ ob, (a, ob) ∈ (x, instObj 433 d) :: (d, D2) :: news) → ¬ y9.own v9 emptyS a := fun {a} ⟨ob, hm⟩ q => Nat.lt_irrefl _ (Nat.lt_of_lt_of_le (f9 _ hm) (o9 a q))
  have nd9 := lt9 ⟨_, mem_tl mem_hd⟩
  have nn9 : ¬ y9.own v9 emptyS nd := fun q => by
    refine byC fun U0 => ?_
    obtain ⟨ob, hm, _⟩ := own_obj H9 q
    refine U0 ?_
    clear U0
    exact Nat.lt_irrefl _ (la _ (put_of hm fun (e : nd = d) => hdn e.symm))
  have hxn : x ≠ nd := Nat.ne_of_lt (la _ (put_of (s9 _ mem_hd) hxd))
  have sN : ∀ p ∈ news, p.1 ≠ d := fun p hp => Nat.ne_of_lt (lf p hp)
  exact ⟨⟨x, d, nd, t, y9, y1, y2⟩, _, rfl, rfl, rfl, rfl, rfl, N, ⟨kd _ (s9 _ mem_hd) hxd, put_self, td_empty lo (put_of mem_hd hdn.symm) hi, H9.move st fun a ha ob hm => kd _ hm fun e => nd9 (by dsimp only at e; exact e ▸ ha), lt9 ⟨_, mem_hd⟩, nd9, nn9, hxn, hdn⟩,
    fun p hp => kd p (s9 p (mem_tl (mem_tl hp))) (sN p hp), fun p hp => lt9 ⟨p.2, mem_tl (mem_tl hp)⟩, fun p hp => Nat.ne_of_lt (la _ (put_of (s9 p (mem_tl (mem_tl hp))) (sN p hp))), fun p hp => Nat.ne_of_lt (Nat.lt_trans (lf p hp) l2), sN⟩
theorem units_under_make (A : Around) (C : Addr) (vals : List Value) : (A.under (.builtin "type.__call__" ⟨.ref C :: vals, []⟩)).units = A.units + 1 := rfl
section
variable {w : World} {A : Around} {E : Value → Shared → Prop} {s : Shared} {h₀ h : Heap} {L x : Addr} {m : Str → Option Value} {news : List (Addr × Obj)} {K : Frag} {C dx : Addr} {name : Str} {v : Value}
theorem set_dict_M {es es' : List DictEntry} {n n' : Nat} {Q : Unit → Shared → Prop} (F : Fr h₀ L s.heap m) (X₀ : K.In h₀) (N : News h₀ L s.heap news) (h1 : (x, instObj C dx) ∈ news) (h2 : (dx, dictOf es n) ∈ news)
    (hs : findIn K (.ref C) "__setattr__" = some (some (.builtin "object.__setattr__"))) (hp : plainOver K C = true) (ht : takerIn K C name = some none) (hh : hasDictIn K C = true) (hl : (getL name es).isSome = true)
    (e : (putL name (PyData.keyHash w.params name) (.str name (s.toks + 1)) v es, putN name es n) = (es', n')) (hz : es'.length ≤ 1000)
    (h : ∀ h', Fr h₀ L h' m → News h₀ L h' (put dx (dictOf es' n') news) → Q () { s with heap := h', toks := s.toks + 2 }) :
    wpAny (model prog w) A (setAttr (.ref x) name v) Q E s := by
  have N2 := news_front N h2
  exact set_dict F X₀ N2 (InstAt.of_news N h1 h2) rfl hs hp ht hh hl e upd_front hz h
end
example : True := by
  (k_with "insub" => first | (with_reducible first | assumption | (refine mem_tl ?_; k_extra "insub") | (refine mem_sub (by assumption) ?_; k_extra "insub") | fail) | fail)
  (k_with "hrep" => first | (first | with_reducible assumption | exact HRep.sub (by assumption) (by intro p9k hp9k; k_extra "insub") | exact MRep.h (by assumption) | exact HRep.sub (MRep.h (by assumption)) (by intro p9k hp9k; k_extra "insub") | fail) | fail)
  (k_with "room" => first | (((try simp only [depth_under_make, units_under_make, depth_under_kw, depth_deeper, units_deeper, depth_in1, units_in1, Around.mark_units, depth_caller]); (try dsimp only [ktrTop]); first | lia | (trace_state; fail))) | fail)
  (k_with "k_mem" => first | (with_reducible first | assumption | exact mem_hd | exact MRep.i1 (by assumption) | exact MRep.i2 (by assumption) | exact HRep.i1 (MRep.h (by assumption)) | exact HRep.i2 (MRep.h (by assumption)) | exact put_self | (refine' put_of ?_ (Nat.ne_of_gt (by assumption)); k_mem) | (refine' mem_tl ?_; k_mem) | (refine' mem_sub (by assumption) ?_; k_mem)) | fail)
  (k_with "c|I2" => first | ((k_here; (with_reducible refine (?_ : wpAny _ _ (call (Value.ref 386) _) _ _ _)); refine wpAny_noRaise ?_; k_dflt (refine' heap_new ?BKK ?FKK ?XKK ?NKK ?TKK ?hkKK ?hdKK ?huKK ?_; (case BKK => k_asm); (case FKK => k_asm); (case XKK => k_asm); (case NKK => k_asm); (case TKK => k_asm); (case hkKK => first | assumption | exact rfl); (case hdKK => k_extra "room"); (case huKK => k_extra "room")); intro y9k v9k h9k tk9k nw9k F9k N9k H9k s9k f9k o9k; have un9k := news_uniq N9k; (try dsimp only))) | fail)
  (k_with "c|I2" => first | ((k_here; (with_reducible refine (?_ : wpAny _ _ (call (Value.ref 418) _) _ _ _)); refine wpAny_noRaise ?_; k_dflt (refine' goup_c ?BKK ?FKK ?XKK ?NKK ?TKK ?hkKK ?hdKK ?huKK ?m1KK ?m2KK ?H1KK ?H2KK ?L1KK ?L2KK ?o1KK ?o2KK ?diKK ?_; (case BKK => k_asm); (case FKK => k_asm); (case XKK => k_asm); (case NKK => k_asm); (case TKK => k_asm); (case hkKK => first | assumption | exact rfl); (case hdKK => k_extra "room"); (case huKK => k_extra "room"); (case m1KK => k_mem); (case m2KK => first | k_mem | exact MRep.i2 (by assumption)); (case H1KK => k_extra "hrep"); (case H2KK => k_extra "hrep"); (case L1KK => assumption); (case L2KK => assumption); (case o1KK => assumption); (case o2KK => assumption); (case diKK => assumption)); intro h9k tk9k dr9k nw9k F9k N9k s9k; (try dsimp only))) | fail)
  (k_with "c|I2" => first | ((k_here; (with_reducible refine (?_ : wpAny _ _ (call (Value.ref 338) _) _ _ _)); refine wpAny_noRaise ?_; k_dflt (refine' settle_c (b := 0) ?BKK ?FKK ?XKK ?NKK ?TKK ?hkKK ?hdKK ?huKK ?HKK ?KKK ?OKK ?hbKK ?_; (case BKK => k_asm); (case FKK => k_asm); (case XKK => k_asm); (case NKK => k_asm); (case TKK => k_asm); (case hkKK => first | assumption | exact rfl); (case hdKK => k_extra "room"); (case huKK => k_extra "room"); (case HKK => k_extra "hrep"); (case KKK => exact kept_here (by assumption)); (case OKK => exact ok_empty); (case hbKK => decide)); intro σ9k S9k O9k w9k h9k tk9k v9k nw9k F9k N9k H9k K9k st9k; (try dsimp only))) | fail)
  (k_with "c|I2" => first | ((k_here; (with_reducible refine (?_ : wpAny _ _ (setAttr (Value.ref _) (PySem.Str.ofString "heap") _) _ _ _)); k_dflt (refine' set_dict_M ?k1KK ?k2KK ?k3KK ?k4KK ?k5KK ?k6KK ?k7KK ?k8KK ?k9KK ?k10KK ?k11KK ?k12KK ?_; (case k1KK => k_asm); (case k2KK => k_asm); (case k3KK => k_asm); (case k4KK => k_mem); (case k5KK => k_mem); (case k6KK => k_is); (case k7KK => k_is); (case k8KK => k_is); (case k9KK => k_is); (case k10KK => k_get); (case k11KK => k_put); (case k12KK => exact Nat.le_of_ble_eq_true rfl)); intro h'k F'k N'k)) | fail)
  (k_with "c|I2" => first | ((k_here; (with_reducible refine (?_ : wpAny _ _ (setAttr (Value.ref _) (PySem.Str.ofString "numbers") _) _ _ _)); k_dflt (refine' set_dict_M ?k1KK ?k2KK ?k3KK ?k4KK ?k5KK ?k6KK ?k7KK ?k8KK ?k9KK ?k10KK ?k11KK ?k12KK ?_; (case k1KK => k_asm); (case k2KK => k_asm); (case k3KK => k_asm); (case k4KK => k_mem); (case k5KK => k_mem); (case k6KK => k_is); (case k7KK => k_is); (case k8KK => k_is); (case k9KK => k_is); (case k10KK => k_get); (case k11KK => k_put); (case k12KK => exact Nat.le_of_ble_eq_true rfl)); intro h'k F'k N'k)) | fail)
  (k_with "step|I2" => first | (first | k_extra "c|I2" | ((fail_if_success (with_reducible show wpAny _ _ (setAttr (Value.ref _) (PySem.Str.ofString "heap") _) _ _ _)); (fail_if_success (with_reducible show wpAny _ _ (setAttr (Value.ref _) (PySem.Str.ofString "numbers") _) _ _ _)); (fail_if_success (with_reducible show wpAny _ _ (call (Value.ref 386) _) _ _ _)); (fail_if_success (with_reducible show wpAny _ _ (exec (Stmt.While _ _ _ _) _) _ _ _)); k_dflt walk1)) | fail)
  trivial

variable {w : World} {A₀ : Around} {base h₀ : Heap} {outer : List Env} {cn : Str} {cs : Scope} {L fa : Addr} {ccd : Value} {cl : List (Str × Addr)} {m mg mb : Str → Option Value} {mean : ExcName → Option Value} {news : List (Addr × Obj)} {s : Shared} {Q : Value → Shared → Prop} {dp un : Nat} {gd : Option (List Code)}

theorem meet_new {v1 v2 : Dy} {σ1 σ2 : HS} {ops1 ops2 : List Str} {y1 y2 : Lay}
    (B : Below A₀ base outer h₀) (F : Fr h₀ L s.heap m) (X : (Mine.hd.heap_1 w.params).In h₀) (N : News h₀ L s.heap news) (T : Top Mine.hd.view_1 (looseW Mine.hd.view_1 []) mean mg mb h₀) (hk : cs.kind = .function) (hd : dp + 80 < 1000) (hu : un + 600 < 1000) (H1 : HRep w news y1 v1 σ1) (H2 : HRep w news y2 v2 σ2) (Lf1 : Leafy (fun x => x ∈ ops1) σ1) (Lf2 : Leafy (fun x => x ∈ ops2) σ2) (hops1 : ops1.length ≤ 4) (hops2 : ops2.length ≤ 4) (hdis : ∀ x ∈ ops1, x ∉ ops2)
    (ret : ∀ (M : ML) (v : Dy) h' tk' dr news', M.y1 = y1 → M.y2 = y2 → Fr h₀ L h' m → News h₀ L h' news' → MRep w news' M v emptyS [] → (∀ p ∈ news, p ∈ news') → (∀ p ∈ news, ¬ M.y.own v emptyS p.1) → (∀ p ∈ news, p.1 ≠ M.nu) → (∀ p ∈ news, p.1 ≠ M.mI) → (∀ p ∈ news, p.1 ≠ M.mD) → Q (.ref M.mI) { s with heap := h', toks := tk', drawn := dr }) :
    wpAny (model prog w) (ktrTop dp un gd cn cs L fa ccd cl outer) (call (.ref 433) [.ref y1.hI, .ref y2.hI]) Q (fun _ _ => False) s := by
  repeat' k_extra "step|I2"
  rename Fr _ _ _ _ => FW
  rename News _ _ _ (put _ _ _) => NW
  rename AllLt _ _ => al
  rename HRep w _ _ _ emptyS => H9
  rename ∀ a x y, _ → _ → x = y => un
  rename ∀ p ∈ (_, instObj 433 _) :: _, p ∈ _ => s9
  rename ∀ p ∈ (_, instObj 433 _) :: _, p.1 < _ => f9
  rename ∀ x : Nat, _ → _ ≤ x => o9
  rename ∀ p ∈ news, p.1 < _ => lf
  rename @LT.lt Nat _ _ _ => l2
  rename Obj.IsDictOf (intKind prog w) _ [] => hi
  rename (_ == sysModules) = false => lo
  refine byC fun U0 => ?_
  obtain ⟨M, nwW, rfl, rfl, rfl, rfl, rfl, NZ, RW, sN, nN, dN, eN, fN⟩ := meet_made (t := tok8 _ _ _ _ 0 0 0 0) H9 s9 f9 o9 un lf l2 al hi lo (by simp) NW
  refine U0 ?_
  clear U0
  have H1W := H1.sub sN
  have H2W := H2.sub sN
  clear NW H9 s9 f9 o9 un al hi lo H1 H2 lf
  refine ksw_while (σ := Unit) (fun _ => nwW) (fun _ => []) (fun _ => True) [] (fun _ => True) (fun _ => 0) () FW NZ trivial (by kst_all) trivial ?_
  intro z1 fu h1 tk1 z2 z3 F1 N1
  clear z2 z3
  simp only [kstB] at F1 N1 ⊢
  repeat' k_extra "step|I2"
  rename Steps _ _ => hS
  rename Fr h₀ L _ m => kF
  rename News h₀ L _ _ => kN
  rename HRep w _ M.y _ _ => kH
  rename Kept M.y _ emptyS _ _ _ _ => kK
  rename TupStay _ _ => kT
  rename ∀ p ∈ nwW, p ∈ _ => s9
  rw [steps_still hS rfl] at kH kK
  exact ret M _ _ _ _ _ rfl rfl kF kN ((RW.sub s9).heap kK kT kH) (fun p hp => kK.keep p (s9 p (sN p hp)) (nN p hp)) (fun p hp q => (kK.own _ q).elim (nN p hp) fun z => z p (s9 p (sN p hp)) rfl) dN eN fN

end
end Mine

section
open PySem PySem.W PySem.Calls PyProof.Rows PySem.Spec
set_option maxRecDepth 100000
namespace Mine
structure LS (w : World) (nw : List (Addr × Obj)) (tb tcl : Addr) (at' : Nat) (tcs : List Nat) (y1 : Lay) (v1 : Dy) (σ1 : HS) (y2 : Lay) (v2 : Dy) (σ2 : HS) : Prop where
  t : Tube w nw tb tcl at' tcs
  h1 : HRep w nw y1 v1 σ1
  h2 : HRep w nw y2 v2 σ2
  n1 : ¬ y1.own v1 σ1 tb ∧ ¬ y1.own v1 σ1 tcl
  n2 : ¬ y2.own v2 σ2 tb ∧ ¬ y2.own v2 σ2 tcl
  dj : ∀ x : Nat, y1.own v1 σ1 x → ¬ y2.own v2 σ2 x
section
variable {w : World} {nw nw' : List (Addr × Obj)} {tb tcl : Addr} {k k' : Nat} {tcs : List Nat} {y1 y2 : Lay} {v1 v1' v2 v2' : Dy} {σ1 σ1' σ2 σ2' : HS} {h₀ h : Heap} {L : Addr}
theorem Tube.both (T : Tube w nw tb tcl k tcs) : (∃ o, (tb, o) ∈ nw) ∧ ∃ o, (tcl, o) ∈ nw := by
  refine byC fun U0 => ?_
  obtain ⟨_, D⟩ := T.d
  obtain ⟨o, h, _⟩ := D.obj
  obtain ⟨vs, n, h2, _⟩ := T.c
  refine U0 ?_
  clear U0
  exact ⟨⟨o, h⟩, ⟨_, h2⟩⟩
theorem kept_not {y : Lay} {v v' : Dy} {σ σ' : HS} {a : Nat} (K : Kept y v σ v' σ' nw nw') (ha : ∃ o, (a, o) ∈ nw) (hn : ¬ y.own v σ a) : ¬ y.own v' σ' a := fun q => by
  obtain ⟨o, ho⟩ := ha
  rcases K.own _ q with q | q
  · exact hn q
  · exact q _ ho rfl
theorem LS.op1 (S : LS w nw tb tcl k tcs y1 v1 σ1 y2 v2 σ2) (H : HRep w nw' y1 v1' σ1') (K : Kept y1 v1 σ1 v1' σ1' nw nw') (st : TupStay nw nw') : LS w nw' tb tcl k tcs y1 v1' σ1' y2 v2 σ2 := by
  obtain ⟨b1, b2⟩ := S.t.both
  refine ⟨S.t.move (fun o q => K.keep _ q S.n1.1) (fun o q => K.keep _ q S.n1.2), H, S.h2.move st fun a ha o hm => K.keep _ hm fun q => S.dj _ q ha, ⟨kept_not K b1 S.n1.1, kept_not K b2 S.n1.2⟩, S.n2, fun x q q2 => ?_⟩
  refine byC fun U0 => ?_
  obtain ⟨o, ho, _⟩ := own_obj S.h2 q2
  refine U0 ?_
  clear U0
  rcases K.own x q with z | z
  · exact S.dj x z q2
  · exact z _ ho rfl
theorem LS.op2 (S : LS w nw tb tcl k tcs y1 v1 σ1 y2 v2 σ2) (H : HRep w nw' y2 v2' σ2') (K : Kept y2 v2 σ2 v2' σ2' nw nw') (st : TupStay nw nw') : LS w nw' tb tcl k tcs y1 v1 σ1 y2 v2' σ2' := by
  obtain ⟨b1, b2⟩ := S.t.both
  refine ⟨S.t.move (fun o q => K.keep _ q S.n2.1) (fun o q => K.keep _ q S.n2.2), S.h1.move st fun a ha o hm => K.keep _ hm fun q => S.dj _ ha q, H, S.n1, ⟨kept_not K b1 S.n2.1, kept_not K b2 S.n2.2⟩, fun x q1 q => ?_⟩
  refine byC fun U0 => ?_
  obtain ⟨o, ho, _⟩ := own_obj S.h1 q1
  refine U0 ?_
  clear U0
  rcases K.own x q with z | z
  · exact S.dj x q1 z
  · exact z _ ho rfl
theorem LS.sub (S : LS w nw tb tcl k tcs y1 v1 σ1 y2 v2 σ2) (h : ∀ p ∈ nw, p ∈ nw') : LS w nw' tb tcl k tcs y1 v1 σ1 y2 v2 σ2 :=
  { S with t := S.t.sub h, h1 := S.h1.sub h, h2 := S.h2.sub h }
theorem LS.tap (S : LS w nw tb tcl k tcs y1 v1 σ1 y2 v2 σ2) (T : Tube w nw' tb tcl k' tcs) (hk : ∀ p ∈ nw, p.1 ≠ tb → p ∈ nw') (st : TupStay nw nw') : LS w nw' tb tcl k' tcs y1 v1 σ1 y2 v2 σ2 :=
  { S with t := T, h1 := S.h1.tube hk st S.n1.1, h2 := S.h2.tube hk st S.n2.1 }
theorem LS.off {I : Addr} {oI : Obj} (S : LS w nw tb tcl k tcs y1 v1 σ1 y2 v2 σ2) (N : News h₀ L h nw) (hI : (I, oI) ∈ nw) (hc : oI.cls ≠ .type "tuple") (i1 : tb ≠ I) (i2 : tcl ≠ I) (i3 : ¬ y1.own v1 σ1 I) (i4 : ¬ y2.own v2 σ2 I) : LS w (offI I nw) tb tcl k tcs y1 v1 σ1 y2 v2 σ2 :=
  { S with t := S.t.move (fun o q => mem_offI.mpr ⟨q, i1⟩) (fun o q => mem_offI.mpr ⟨q, i2⟩), h1 := S.h1.offI N hI hc i3, h2 := S.h2.offI N hI hc i4 }
theorem LS.offs {I : Addr} (S : LS w nw tb tcl k tcs y1 v1 σ1 y2 v2 σ2) (off : ∀ p ∈ nw, p.1 ≠ I) : tb ≠ I ∧ tcl ≠ I ∧ ¬ y1.own v1 σ1 I ∧ ¬ y2.own v2 σ2 I := by
  refine byC fun U0 => ?_
  obtain ⟨⟨_, b1⟩, ⟨_, b2⟩⟩ := S.t.both
  refine U0 ?_
  clear U0
  exact ⟨off _ b1, off _ b2, not_own_off S.h1 off, not_own_off S.h2 off⟩
theorem name_hrep {y : Lay} {v : Dy} {σ : HS} (_H : HRep w nw y v σ) : (∃ x, x = nw) ∧ (∃ x, x = y) ∧ ∃ x, x = v := ⟨⟨_, rfl⟩, ⟨_, rfl⟩, ⟨_, rfl⟩⟩
end
noncomputable def leafS (ops : List Str) : HS := ops.foldl (fun σ op => addS σ (op, [])) { nodes := [], par := [], lots := [], known := [], keys := [], above := fun _ => [], wait := [], big := 0, nums := [], wl := 0, dl := 0 }
noncomputable def opsX : List Str := [Str.ofString "x0", Str.ofString "x1", Str.ofString "x2", Str.ofString "x3"]
noncomputable def opsY : List Str := [Str.ofString "y0", Str.ofString "y1", Str.ofString "y2", Str.ofString "y3"]
theorem leafS_snoc (ops : List Str) (op : Str) : leafS (ops ++ [op]) = addS (leafS ops) (op, []) := by
  unfold leafS
  rw [List.foldl_append]
  rfl
theorem name_beq {a b : Addr} (_h : (a == b) = false) : ∃ x, x = a := ⟨_, rfl⟩
theorem tube_start {w : World} {nw : List (Addr × Obj)} {tb tcl : Addr} {o : Obj} {t1 t2 ta : Tok} {tcs : List Nat} {vs : List Value} {c : Nat} (lo : (tb == sysModules) = false) (hm : (tb, o) ∈ nw) (hd : o.IsDictOf (PySem.strKind prog w) (strPairs [(.str (Str.ofString "cells") t1, .ref tcl), (.str (Str.ofString "at") t2, .int 0 ta)])) (hc : (tcl, W.listOf vs.toArray c) ∈ nw) (hi : IntsAre vs (toZ tcs)) : Tube w nw tb tcl 0 tcs :=
  ⟨⟨ta, lo, o, hm, hd⟩, ⟨vs, c, hc, hi⟩⟩
theorem ls_start {w : World} {nwA nwB : List (Addr × Obj)} {tb tcl : Addr} {tcs : List Nat} {y1 y2 : Lay} {v1 v2 : Dy} {σ : HS} {o1 o2 : Obj} (T : Tube w nwB tb tcl 0 tcs) (H1 : HRep w nwA y1 v1 σ) (H2 : HRep w nwB y2 v2 σ) (sB : ∀ p ∈ nwA, p ∈ nwB) (fB : ∀ p ∈ nwA, p.1 < y2.hD) (oB : ∀ x : Nat, y2.own v2 σ x → y2.hD ≤ x) (oA : ∀ x : Nat, y1.own v1 σ x → y1.hD ≤ x)
    (m1 : (tb, o1) ∈ nwA) (l1 : @LT.lt Nat _ tb y1.hD) (m2 : (tcl, o2) ∈ nwA) (l2 : @LT.lt Nat _ tcl y1.hD) : LS w nwB tb tcl 0 tcs y1 v1 σ y2 v2 σ := by
  refine ⟨T, H1.sub sB, H2, ⟨fun q => ?_, fun q => ?_⟩, ⟨fun q => ?_, fun q => ?_⟩, fun x q1 q2 => ?_⟩
  · exact Nat.lt_irrefl _ (Nat.lt_of_lt_of_le l1 (oA _ q))
  · exact Nat.lt_irrefl _ (Nat.lt_of_lt_of_le l2 (oA _ q))
  · exact Nat.lt_irrefl _ (Nat.lt_of_lt_of_le (fB _ m1) (oB _ q))
  · exact Nat.lt_irrefl _ (Nat.lt_of_lt_of_le (fB _ m2) (oB _ q))
  · refine byC fun U0 => ?_
    obtain ⟨o, ho, _⟩ := own_obj H1 q1
    refine U0 ?_
    clear U0
    exact Nat.lt_irrefl _ (Nat.lt_of_lt_of_le (fB _ ho) (oB _ q2))
end Mine
end

section
open PySem PySem.W PySem.Calls PyProof.Rows PySem.Spec
set_option maxRecDepth 100000
namespace Mine
structure LeafH (ops : List Str) (σ : HS) : Prop where
  par : σ.par = List.range ops.length
  nodes : σ.nodes = ops.map fun op => (op, [])
  lots : σ.lots = (List.range ops.length).map fun i => [i]
  known : ∀ x ∈ σ.known, x.1.1 ∈ ops
  wait : σ.wait = []
  ab : ∀ c, σ.above c = []
theorem leafH_nil : LeafH [] emptyS := ⟨rfl, rfl, rfl, nofun, rfl, fun _ => rfl⟩
theorem leafH_add {ops : List Str} {σ : HS} {op : Str} (H : LeafH ops σ) (h : op ∉ ops) : LeafH (ops ++ [op]) (addS σ (op, [])) := by
  have hl : σ.par.length = ops.length := by rw [H.par, List.length_range]
  have hll : σ.lots.length = ops.length := by rw [H.lots, List.length_map, List.length_range]
  have e : addS σ (op, []) = { newS σ (op, []) with known := σ.known ++ [((op, []), σ.par.length)] } := by
    unfold addS lookS
    have q : kget (newS σ (op, [])).known (canon (newS σ (op, [])).par (op, [])) = none := by
      unfold kget
      rw [Option.map_eq_none_iff, List.find?_eq_none]
      intro x hx z
      have z' := of_decide_eq_true z
      exact h (by have := H.known x hx; rw [z'] at this; exact this)
    rw [q]
    rfl
  rw [e]
  refine ⟨?_, ?_, ?_, fun x hx => ?_, H.wait, fun c => ?_⟩
  · show σ.par ++ [σ.par.length] = _
    rw [hl, H.par, List.length_append, List.length_singleton, List.range_succ]
  · show σ.nodes ++ [_] = _
    rw [H.nodes, List.map_append]; rfl
  · show σ.lots ++ [[σ.lots.length]] = _
    rw [hll, H.lots, List.length_append, List.length_singleton, List.range_succ, List.map_append]; rfl
  · rcases List.mem_append.mp hx with q | q
    · exact List.mem_append_left _ (H.known x q)
    · rw [List.mem_singleton.mp q]; exact List.mem_append_right _ (List.mem_singleton.mpr rfl)
  · show (if c = σ.par.length then [] else if c ∈ ([] : List Nat).map _ then _ else σ.above c) = []
    split
    · rfl
    · rw [List.map_nil, if_neg (by simp), H.ab]
theorem root_range {n a : Nat} : root (List.range n) a = a := by
  refine root_stop fun q => ?_
  rcases Nat.lt_or_ge a n with l | l
  · rw [getD_lt (by simpa using l)] at q
    simp at q
  · simp [List.getD, List.getElem?_eq_none (show (List.range n).length ≤ a by simpa using l)] at q
theorem LeafH.leafy {P : Str → Prop} {ops : List Str} {σ : HS} (H : LeafH ops σ) (hP : ∀ op ∈ ops, P op) (h4 : ops.length ≤ 4) : Leafy P σ where
  p := fun i hi => by rw [H.par] at hi ⊢; rw [getD_lt hi]; simp
  n := by rw [H.nodes, H.par]; simp
  z := by rw [H.par]; simpa using h4
  l := by rw [H.lots, H.par]; simp
  lo := fun c l h => by
    rw [H.lots, List.getElem?_map] at h
    refine byC fun U0 => ?_
    obtain ⟨x, hx, rfl⟩ := Option.map_eq_some_iff.mp h
    refine U0 ?_
    clear U0
    have := List.mem_range.mp (List.mem_of_getElem? hx)
    rw [H.par]
    simpa using this
  f := fun n nd h => by
    rw [H.nodes, List.getElem?_map] at h
    refine byC fun U0 => ?_
    obtain ⟨x, hx, rfl⟩ := Option.map_eq_some_iff.mp h
    refine U0 ?_
    clear U0
    exact ⟨rfl, hP _ (List.mem_of_getElem? hx)⟩
theorem LeafH.merged {P : Str → Prop} {ops : List Str} {σ : HS} (H : LeafH ops σ) (hP : ∀ op ∈ ops, P op) (h4 : ops.length ≤ 4) {a b : Nat} (ha : a < ops.length) (hb : b < ops.length) : Leafy P (mergeS σ a b) ∧ (mergeS σ a b).wait = [] := by
  have L := H.leafy hP h4
  unfold mergeS
  rw [H.par, root_range, root_range]
  by_cases e : a = b
  · rw [if_pos e]
    exact ⟨⟨L.p, L.n, L.z, L.l, L.lo, L.f⟩, H.wait⟩
  · rw [if_neg e]
    refine byC fun U0 => ?_
    obtain ⟨k, ek⟩ : ∃ k, k = min a b := ⟨_, rfl⟩
    obtain ⟨g, eg⟩ : ∃ g, g = max a b := ⟨_, rfl⟩
    refine U0 ?_
    clear U0
    rw [← ek, ← eg]
    have hkg : k < g := by lia
    have hg : g < ops.length := by lia
    have hl : σ.par.length = ops.length := by rw [H.par, List.length_range]
    have lt : ∀ i, i < ops.length → σ.lots.getD i [] = [i] := fun i hi => by
      rw [H.lots]
      simp [List.getD, hi]
    refine ⟨⟨fun i hi => ?_, ?_, ?_, ?_, fun c l h => ?_, L.f⟩, ?_⟩
    · show (σ.par.set g k).getD i i ≤ i
      have hi' : i < σ.par.length := by simpa [joined] using hi
      rw [getD_lt (by simpa using hi'), List.getElem_set]
      split
      · lia
      · have := L.p i hi'; rwa [getD_lt hi'] at this
    · show σ.nodes.length = (σ.par.set g k).length
      rw [List.length_set]; exact L.n
    · show (σ.par.set g k).length ≤ 4
      rw [List.length_set]; exact L.z
    · show (σ.lots.set k _).length = (σ.par.set g k).length
      rw [List.length_set, List.length_set]; exact L.l
    · have h' : (σ.lots.set k (σ.lots.getD k [] ++ σ.lots.getD g []))[c]? = some l := h
      have el : (joined σ k g).par.length = ops.length := by show (σ.par.set g k).length = _; rw [List.length_set, hl]
      rw [el]
      by_cases q : c = k
      · subst q
        rw [List.getElem?_set_self (by rw [L.l, hl]; lia)] at h'
        rw [← Option.some.inj h', lt c (by lia), lt g hg]
        refine ⟨by simp, fun x hx => ?_⟩
        simp at hx
        lia
      · rw [List.getElem?_set_ne (fun e => q e.symm)] at h'
        have := L.lo c l h'
        rwa [hl] at this
    · show σ.wait ++ σ.above g = []
      rw [H.wait, H.ab]; rfl
end Mine
end

section
open PySem PySem.W PySem.Calls PyProof.Rows PySem.Spec
set_option maxRecDepth 100000
namespace Mine
theorem opOk_of {op : Str} (h : (decide (op ≠ Str.ofString "") && decide (op.cps.size ≤ 100) && op.cps.toList.all plainSign && decide (0 < op.length) && decide (op.length ≤ 100) && decide (Txt.item op 0 ≠ Str.ofString "?") && PyData.strOk op) = true) : OpOk op := by
  simp only [Bool.and_eq_true, decide_eq_true_eq] at h
  refine byC fun U0 => ?_
  obtain ⟨⟨⟨⟨⟨⟨h1, h2⟩, h3⟩, h4⟩, h5⟩, h6⟩, h7⟩ := h
  refine U0 ?_
  clear U0
  exact ⟨⟨h1, h2, h3⟩, h4, h5, h6, h7⟩
theorem opsX_ok : ∀ op ∈ opsX, OpOk op := by
  intro op h
  simp only [opsX, List.mem_cons, List.not_mem_nil, or_false] at h
  rcases h with rfl | rfl | rfl | rfl <;> exact opOk_of (by decide +kernel)
theorem opsY_ok : ∀ op ∈ opsY, OpOk op := by
  intro op h
  simp only [opsY, List.mem_cons, List.not_mem_nil, or_false] at h
  rcases h with rfl | rfl | rfl | rfl <;> exact opOk_of (by decide +kernel)
theorem ops_apart : ∀ x ∈ opsX, x ∉ opsY := by decide +kernel
structure LeafO (ops : List Str) (σ : HS) : Prop extends LeafH ops σ where
  ok : Ok (31 * ops.length) σ
theorem leafO_nil : LeafO [] emptyS := ⟨leafH_nil, ok_empty⟩
theorem LeafO.add {ops : List Str} {σ : HS} {op : Str} (H : LeafO ops σ) (h : op ∉ ops) (hz : ops.length ≤ 11) : LeafO (ops ++ [op]) (addS σ (op, [])) := by
  have hl : σ.par.length = ops.length := by rw [H.par, List.length_range]
  refine ⟨leafH_add H.toLeafH h, ?_⟩
  have := H.ok.add (nd := (op, [])) (by lia) (Nat.zero_le _) nofun
  rw [List.length_append, List.length_singleton, show 31 * (ops.length + 1) = 31 * ops.length + 31 by lia]
  exact this
theorem LeafO.new {ops : List Str} {σ : HS} {op : Str} (H : LeafO ops σ) (h : op ∉ ops) : (op, []) ∉ σ.nodes := by
  rw [H.nodes]
  intro q
  refine byC fun U0 => ?_
  obtain ⟨x, hx, e⟩ := List.mem_map.mp q
  refine U0 ?_
  clear U0
  exact h (by cases e; exact hx)
end Mine
end

section
open PySem PySem.W PySem.Calls PyProof.Rows PySem.Spec
set_option maxRecDepth 100000
namespace Mine
structure SemD (rows : List Row) (told done : List (Nat × Nat)) (σ : HS) (bad : Nat → Prop) : Prop where
  rw : σ.nodes = rows
  snd : ∀ f, Closed rows told f → ∀ a, f (root σ.par a) = f a
  tld : ∀ p ∈ done, root σ.par p.1 = root σ.par p.2
  kn : ∀ x ∈ σ.known, ∃ r, rows[x.2]? = some r ∧ r.1 = x.1.1 ∧ ∀ f, Closed rows told f → x.1.2.map f = r.2.map f
  ab : ∀ (n : Nat) (r : Row), rows[n]? = some r → ∀ k ∈ r.2, n ∈ σ.above (root σ.par k)
  cp : ∀ (n : Nat) (r : Row), rows[n]? = some r → bad n ∨ n ∈ σ.wait ∨ ∃ m, kget σ.known (canon σ.par r) = some m ∧ root σ.par m = root σ.par n
noncomputable abbrev Sem (rows : List Row) (told : List (Nat × Nat)) (σ : HS) (bad : Nat → Prop) : Prop := SemD rows told told σ bad
theorem Closed.less {rows : List Row} {told more : List (Nat × Nat)} {r : List Row} {f : Nat → Nat} (h : Closed (rows ++ r) (told ++ more) f) : Closed rows told f :=
  ⟨fun p hp => h.1 p (List.mem_append_left _ hp), fun i j x y hi hj => h.2 i j x y (by rw [List.getElem?_append_left (lt_get hi)]; exact hi) (by rw [List.getElem?_append_left (lt_get hj)]; exact hj)⟩
theorem Closed.lessR {rows : List Row} {told : List (Nat × Nat)} {r : List Row} {f : Nat → Nat} (h : Closed (rows ++ r) told f) : Closed rows told f :=
  Closed.less (r := r) (more := []) (by rw [List.append_nil]; exact h)
theorem Closed.lessT {rows : List Row} {told more : List (Nat × Nat)} {f : Nat → Nat} (h : Closed rows (told ++ more) f) : Closed rows told f :=
  Closed.less (r := []) (more := more) (by rw [List.append_nil]; exact h)
theorem kget_app {known more : List (Nd × Nat)} {nd : Nd} {o : Nat} (e : kget known nd = some o) : kget (known ++ more) nd = some o := by
  unfold kget at e ⊢
  rw [List.find?_append]
  refine byC fun U0 => ?_
  obtain ⟨x, hx, rfl⟩ := Option.map_eq_some_iff.mp e
  refine U0 ?_
  clear U0
  rw [hx]; rfl
theorem kget_new {known : List (Nd × Nat)} {nd : Nd} {n : Nat} (e : kget known nd = none) : kget (known ++ [(nd, n)]) nd = some n := by
  unfold kget at e ⊢
  rw [List.find?_append, Option.map_eq_none_iff.mp e]
  simp
section
variable {rows : List Row} {told done : List (Nat × Nat)} {σ : HS} {bad : Nat → Prop} {B : Nat}
theorem SemD.joined (S : SemD rows told done σ bad) (O : Ok B σ) {k g : Nat} (hk : k ∈ σ.keys) (hg : g ∈ σ.keys) (hkg : k < g) (hf : ∀ f, Closed rows told f → f k = f g) :
    SemD rows told done (joined σ k g) bad ∧ (∀ i, root (joined σ k g).par i = if root σ.par i = g then k else root σ.par i) ∧
    (∀ (n : Nat) (r : Row), rows[n]? = some r → n ∈ (Mine.joined σ k g).wait ∨ canon (Mine.joined σ k g).par r = canon σ.par r) := by
  refine byC fun U0 => ?_
  obtain ⟨gl, rg⟩ := O.keys g hg
  obtain ⟨kl, rk⟩ := O.keys k hk
  refine U0 ?_
  clear U0
  have rs : ∀ i, root (Mine.joined σ k g).par i = if root σ.par i = g then k else root σ.par i := root_set gl hkg rk rg
  have same : ∀ a b, root σ.par a = root σ.par b → root (Mine.joined σ k g).par a = root (Mine.joined σ k g).par b := fun a b e => by rw [rs, rs, e]
  have cn : ∀ (n : Nat) (r : Row), rows[n]? = some r → n ∈ (Mine.joined σ k g).wait ∨ canon (Mine.joined σ k g).par r = canon σ.par r := fun n r h => by
    by_cases q : ∃ c ∈ r.2, root σ.par c = g
    · refine byC fun U0 => ?_
      obtain ⟨c, hc, e⟩ := q
      refine U0 ?_
      clear U0
      have := S.ab n r h c hc
      rw [e] at this
      exact .inl (List.mem_append_right _ this)
    · refine .inr (Prod.ext rfl (List.map_congr_left fun c hc => ?_))
      rw [rs, if_neg fun e => q ⟨c, hc, e⟩]
  refine ⟨⟨S.rw, fun f c a => ?_, fun p hp => same _ _ (S.tld p hp), S.kn, fun n r h c hc => ?_, fun n r h => ?_⟩, rs, cn⟩
  · rw [rs]
    have := S.snd f c a
    split
    · rename_i e; rw [e] at this; rw [hf f c]; exact this
    · exact this
  · have := S.ab n r h c hc
    show n ∈ (if _ = k then σ.above k ++ σ.above g else σ.above _)
    rw [rs]
    by_cases e : root σ.par c = g
    · rw [if_pos e, if_pos rfl]
      rw [e] at this
      exact List.mem_append_right _ this
    · rw [if_neg e]
      split
      · rename_i e2; rw [e2] at this; exact List.mem_append_left _ this
      · exact this
  · rcases S.cp n r h with q | q | ⟨m, e1, e2⟩
    · exact .inl q
    · exact .inr (.inl (List.mem_append_left _ q))
    · rcases cn n r h with z | z
      · exact .inr (.inl z)
      · exact .inr (.inr ⟨m, by rw [z]; exact e1, same _ _ e2⟩)
theorem join_pair (O : Ok B σ) {a b : Nat} (ha : a < σ.par.length) (hb : b < σ.par.length) (hne : root σ.par a ≠ root σ.par b) (S : SemD rows told done σ bad) (hf : ∀ f, Closed rows told f → f a = f b) :
    SemD rows told done (joined σ (min (root σ.par a) (root σ.par b)) (max (root σ.par a) (root σ.par b))) bad ∧ root (joined σ (min (root σ.par a) (root σ.par b)) (max (root σ.par a) (root σ.par b))).par a = root (joined σ (min (root σ.par a) (root σ.par b)) (max (root σ.par a) (root σ.par b))).par b ∧
    (∀ (n : Nat) (r : Row), rows[n]? = some r → n ∈ (joined σ (min (root σ.par a) (root σ.par b)) (max (root σ.par a) (root σ.par b))).wait ∨ canon (joined σ (min (root σ.par a) (root σ.par b)) (max (root σ.par a) (root σ.par b))).par r = canon σ.par r) := by
  refine byC fun U0 => ?_
  obtain ⟨h1, h2, h3⟩ := minmax_keys O ha hb hne
  obtain ⟨l, el⟩ : ∃ l, l = min (root σ.par a) (root σ.par b) := ⟨_, rfl⟩
  obtain ⟨h, eh⟩ : ∃ h, h = max (root σ.par a) (root σ.par b) := ⟨_, rfl⟩
  refine U0 ?_
  clear U0
  simp only [← el, ← eh] at h1 h2 h3 ⊢
  have fe : ∀ f, Closed rows told f → f l = f h := fun f c => by
    have q1 := S.snd f c a
    have q2 := S.snd f c b
    have q3 := hf f c
    rcases Nat.le_total (root σ.par a) (root σ.par b) with q | q
    · rw [Nat.min_eq_left q] at el; rw [Nat.max_eq_right q] at eh; rw [el, eh, q1, q2, q3]
    · rw [Nat.min_eq_right q] at el; rw [Nat.max_eq_left q] at eh; rw [el, eh, q1, q2, q3]
  refine byC fun U0 => ?_
  obtain ⟨S', rs, cn⟩ := S.joined O h1 h2 h3 fe
  refine U0 ?_
  clear U0
  refine ⟨S', ?_, cn⟩
  rw [rs, rs]
  rcases Nat.lt_or_ge (root σ.par a) (root σ.par b) with q | q
  · rw [Nat.min_eq_left (Nat.le_of_lt q)] at el; rw [Nat.max_eq_right (Nat.le_of_lt q)] at eh
    rw [if_neg (by lia), if_pos (by lia)]; exact el.symm
  · rw [Nat.min_eq_right q] at el; rw [Nat.max_eq_left q] at eh
    rw [if_pos (by lia), if_neg (by lia)]; exact el
theorem SemD.look {n : Nat} {r : Row} (S : SemD rows told done σ fun x => x = n) (O : Ok B σ) (hn : rows[n]? = some r) : SemD rows told done (lookS σ (canon σ.par r) n) fun _ => False := by
  have hnl : n < σ.par.length := by rw [← O.nodes, S.rw]; exact lt_get hn
  have fk : ∀ f, Closed rows told f → (canon σ.par r).2.map f = r.2.map f := fun f c => by
    rw [List.map_map]
    exact List.map_congr_left fun k _ => S.snd f c k
  cases e : kget σ.known (canon σ.par r) with
  | none =>
    rw [lookS_new e]
    refine ⟨S.rw, S.snd, S.tld, fun x hx => ?_, S.ab, fun m q hm => ?_⟩
    · rcases List.mem_append.mp hx with z | z
      · exact S.kn x z
      · rw [List.mem_singleton.mp z]
        exact ⟨r, hn, rfl, fk⟩
    · by_cases z : m = n
      · subst z
        rw [hn] at hm
        cases hm
        exact .inr (.inr ⟨m, kget_new e, rfl⟩)
      · rcases S.cp m q hm with y | y | ⟨o, e1, e2⟩
        · exact absurd y z
        · exact .inr (.inl y)
        · exact .inr (.inr ⟨o, kget_app e1, e2⟩)
  | some o =>
    have ho := O.known _ (kget_mem e)
    refine byC fun U0 => ?_
    obtain ⟨s, es, e1, e2⟩ := S.kn _ (kget_mem e)
    refine U0 ?_
    clear U0
    by_cases h : root σ.par o = root σ.par n
    · rw [lookS_same e h]
      refine ⟨S.rw, S.snd, S.tld, S.kn, S.ab, fun m q hm => ?_⟩
      rcases S.cp m q hm with y | y
      · have y' : m = n := y
        subst y'
        rw [hn] at hm
        cases hm
        exact .inr (.inr ⟨o, e, h⟩)
      · exact .inr y
    · rw [lookS_join e h]
      refine byC fun U0 => ?_
      obtain ⟨S', er, cn⟩ := join_pair O ho hnl h S fun f c => c.2 o n s r es hn e1 (by rw [← e2 f c]; exact fk f c)
      refine U0 ?_
      clear U0
      refine ⟨S'.rw, S'.snd, S'.tld, S'.kn, S'.ab, fun m q hm => ?_⟩
      rcases S'.cp m q hm with y | y
      · have y' : m = n := y
        subst y'
        rw [hn] at hm
        cases hm
        rcases cn m r hn with z | z
        · exact .inr (.inl z)
        · exact .inr (.inr ⟨o, by rw [z]; exact e, er⟩)
      · exact .inr y
theorem dropLast_or {l : List Nat} {n : Nat} (h : n ∈ l) : n = l.getLastD 0 ∨ n ∈ l.dropLast := by
  have hne : l ≠ [] := fun e => by rw [e] at h; cases h
  rw [← List.dropLast_concat_getLast hne] at h
  rcases List.mem_append.mp h with q | q
  · exact .inr q
  · refine .inl ?_
    rw [List.mem_singleton.mp q, List.getLastD_eq_getLast?, List.getLast?_eq_some_getLast hne]; rfl
theorem SemD.popLook (S : SemD rows told done σ fun _ => False) (O : Ok B σ) (h : 0 < σ.wait.length) : SemD rows told done (popLook σ) fun _ => False := by
  refine byC fun U0 => ?_
  obtain ⟨O1, -, -⟩ := O.popped h
  refine U0 ?_
  clear U0
  have hl := O.last h
  have hr : rows[σ.wait.getLastD 0]? = some (nodeAt σ (σ.wait.getLastD 0)) := by rw [← S.rw]; exact nodeAt_get O hl
  refine SemD.look (σ := popped σ) ⟨S.rw, S.snd, S.tld, S.kn, S.ab, fun m q hm => ?_⟩ O1 hr
  rcases S.cp m q hm with y | y | y
  · exact y.elim
  · rcases dropLast_or y with z | z
    · exact .inl z
    · exact .inr (.inl z)
  · exact .inr (.inr y)
theorem SemD.steps {τ : HS} (h : Steps σ τ) (S : SemD rows told done σ fun _ => False) (O : Ok B σ) : SemD rows told done τ (fun _ => False) ∧ Ok B τ := by
  induction h with
  | refl => exact ⟨S, O⟩
  | snoc h1 h2 ih => exact ⟨ih.1.popLook ih.2 h2, (ih.2.popLook h2).1⟩
theorem SemD.add (S : SemD rows told done σ fun _ => False) (O : Ok B σ) {nd : Nd} (hl : σ.par.length ≤ 11) (hk : nd.2.length ≤ 2) (hb : ∀ k ∈ nd.2, k < σ.par.length) : SemD (rows ++ [nd]) told done (addS σ nd) fun _ => False := by
  have O1 := O.new hl hk hb
  have hrl : rows.length = σ.par.length := by rw [← S.rw, O.nodes]
  have rr : ∀ i, root (newS σ nd).par i = root σ.par i := fun i => root_app i
  have hn : (rows ++ [nd])[σ.par.length]? = some nd := by rw [← hrl]; simp
  have split : ∀ {m : Nat} {q : Row}, (rows ++ [nd])[m]? = some q → rows[m]? = some q ∨ (m = σ.par.length ∧ q = nd) := fun {m q} h => by
    rcases Nat.lt_or_ge m rows.length with l | l
    · rw [List.getElem?_append_left l] at h; exact .inl h
    · have hm := lt_get h
      rw [List.length_append, List.length_singleton] at hm
      have em : m = σ.par.length := by lia
      subst em
      rw [hn] at h
      exact .inr ⟨rfl, (Option.some.inj h).symm⟩
  have key : ∀ x, canon (newS σ nd).par x = canon σ.par x := fun x => Prod.ext rfl (List.map_congr_left fun c _ => rr c)
  refine SemD.look (σ := newS σ nd) ⟨?_, fun f c a => ?_, fun p hp => ?_, fun x hx => ?_, fun m q hm c hc => ?_, fun m q hm => ?_⟩ O1 hn
  · show σ.nodes ++ [nd] = rows ++ [nd]; rw [S.rw]
  · rw [rr]; exact S.snd f c.lessR a
  · rw [rr, rr]; exact S.tld p hp
  · refine byC fun U0 => ?_
    obtain ⟨r, e1, e2, e3⟩ := S.kn x hx
    refine U0 ?_
    clear U0
    exact ⟨r, by rw [List.getElem?_append_left (lt_get e1)]; exact e1, e2, fun f c => e3 f c.lessR⟩
  · rw [rr]
    show m ∈ (if root σ.par c = σ.par.length then [] else if root σ.par c ∈ nd.2.map (root σ.par) then σ.above (root σ.par c) ++ [σ.par.length] else σ.above (root σ.par c))
    have hcl : c < σ.par.length := by
      rcases split hm with e | ⟨-, rfl⟩
      · have := (O.kids m q (by rw [S.rw]; exact e)).2 c hc
        have := lt_get e
        lia
      · exact hb c hc
    have := root_le (ps := σ.par) c
    rw [if_neg (by lia)]
    rcases split hm with e | ⟨rfl, rfl⟩
    · have := S.ab m q e c hc
      split
      · exact List.mem_append_left _ this
      · exact this
    · rw [if_pos (List.mem_map_of_mem hc)]
      exact List.mem_append_right _ (List.mem_singleton.mpr rfl)
  · rcases split hm with e | ⟨rfl, -⟩
    · rcases S.cp m q e with y | y | ⟨o, e1, e2⟩
      · exact y.elim
      · exact .inr (.inl y)
      · exact .inr (.inr ⟨o, by rw [key]; exact e1, by rw [rr, rr]; exact e2⟩)
    · exact .inl rfl
theorem SemD.tell (S : SemD rows told done σ bad) (p : Nat × Nat) : SemD rows (told ++ [p]) done σ bad :=
  ⟨S.rw, fun f c => S.snd f c.lessT, S.tld, fun x hx => by
      refine byC fun U0 => ?_
      obtain ⟨r, e1, e2, e3⟩ := S.kn x hx
      refine U0 ?_
      clear U0
      exact ⟨r, e1, e2, fun f c => e3 f c.lessT⟩, S.ab, S.cp⟩
theorem SemD.did (S : SemD rows told done σ bad) (p : Nat × Nat) (h : root σ.par p.1 = root σ.par p.2) : SemD rows told (done ++ [p]) σ bad :=
  ⟨S.rw, S.snd, fun q hq => by
    rcases List.mem_append.mp hq with z | z
    · exact S.tld q z
    · rw [List.mem_singleton.mp z]; exact h, S.kn, S.ab, S.cp⟩
theorem SemD.merge (S : Sem rows told σ fun _ => False) (O : Ok B σ) {a b : Nat} (ha : a < σ.par.length) (hb : b < σ.par.length) : Sem rows (told ++ [(a, b)]) (mergeS σ a b) fun _ => False := by
  have S1 := S.tell (a, b)
  unfold mergeS
  by_cases h : root σ.par a = root σ.par b
  · rw [if_pos h]
    have := S1.did (a, b) h
    exact ⟨this.rw, this.snd, this.tld, this.kn, this.ab, this.cp⟩
  · rw [if_neg h]
    refine byC fun U0 => ?_
    obtain ⟨S2, e, -⟩ := join_pair O ha hb h S1 fun f c => c.1 (a, b) (List.mem_append_right _ (List.mem_singleton.mpr rfl))
    refine U0 ?_
    clear U0
    exact S2.did (a, b) e
theorem sem_start : Sem [] [] emptyS fun _ => False :=
  ⟨rfl, (fun f _ a => by rw [show emptyS.par = [] from rfl, root_ge (Nat.zero_le _)]), (fun p h => by cases h), (fun x h => by simp [emptyS] at h), (fun n r h => by simp at h), (fun n r h => by simp at h)⟩
theorem Sem.homes {hs : List Nat} (S : Sem rows told σ fun _ => False) (O : Ok B σ) (w : σ.wait = []) (H : Homes rows told hs) {a : Nat} (ha : a < rows.length) : root σ.par a = hat hs a := by
  have cl : Closed rows told (root σ.par) := ⟨S.tld, fun i j r s hi hj e1 e2 => by
    have get : ∀ (n : Nat) (r : Row), rows[n]? = some r → ∃ m, kget σ.known (canon σ.par r) = some m ∧ root σ.par m = root σ.par n := fun n r h => by
      rcases S.cp n r h with q | q | q
      · exact q.elim
      · rw [w] at q; cases q
      · exact q
    refine byC fun U0 => ?_
    obtain ⟨m, m1, m2⟩ := get i r hi
    obtain ⟨k, k1, k2⟩ := get j s hj
    refine U0 ?_
    clear U0
    have ec : canon σ.par r = canon σ.par s := Prod.ext e1 e2
    rw [ec, k1] at m1
    rw [← m2, ← k2, Option.some.inj m1]⟩
  have hl : a < hs.length := by rw [H.len]; exact ha
  have h1 := S.snd (hat hs) H.cl a
  have h2 := H.snd (root σ.par) cl a hl
  have r1 := root_le (ps := σ.par) a
  have r2 := root_le (ps := σ.par) (hat hs a)
  have r3 := H.le (root σ.par a) (by lia)
  lia
end
end Mine
end

section
open PySem PySem.W PySem.Calls PyProof.Rows PySem.Spec
set_option maxRecDepth 100000
namespace Mine
structure LG where
  (tb tcl fD rA tA : Addr)
  tcs : List Nat
  M : ML
  (v1 v2 : Dy)
  (σ1 σ2 : HS)
structure Cols (G : LG) (v : Dy) (σ : HS) (col : Nat → Nat) : Prop where
  tb : col G.tb = 1
  tcl : col G.tcl = 2
  o1 : ∀ x : Nat, G.M.y1.own G.v1 G.σ1 x → col x = 3
  o2 : ∀ x : Nat, G.M.y2.own G.v2 G.σ2 x → col x = 4
  om : ∀ x : Nat, G.M.y.own v σ x → col x = 5
  mI : col G.M.mI = 6
  mD : col G.M.mD = 7
  nu : col G.M.nu = 8
  fD : col G.fD = 9
  rA : col G.rA = 10
  tA : col G.tA = 11
noncomputable def XIn (col : Nat → Nat) (nw : List (Addr × Obj)) : List (Addr × Obj) → Prop
  | [] => True
  | p :: X => p ∈ nw ∧ col p.1 = 20 + X.length ∧ XIn col nw X
noncomputable def KList (nw : List (Addr × Obj)) (a : Addr) (ds : List Dat) : Prop := ∃ vs n, (a, W.listOf (List.toArray vs) n) ∈ nw ∧ KInAll nw 7 vs ds
structure LM (w : World) (nw : List (Addr × Obj)) (G : LG) (k : Nat) (v : Dy) (σ : HS) (ps pf : List ((Nat × Nat) × Nat)) (rows : List Row) (told : List (Nat × Nat)) (X : List (Addr × Obj)) : Prop where
  t : Tube w nw G.tb G.tcl k G.tcs
  h1 : HRep w nw G.M.y1 G.v1 G.σ1
  h2 : HRep w nw G.M.y2 G.v2 G.σ2
  m : MRep w nw G.M v σ ps
  f : PD w nw G.fD pf
  r : KList nw G.rA (rows.map rdat)
  o : KList nw G.tA (told.map pdat)
  ap : ∃ col : Nat → Nat, Cols G v σ col ∧ XIn col nw X
section
variable {w : World} {nw nw' : List (Addr × Obj)} {G : LG} {k k' : Nat} {v v' : Dy} {σ σ' : HS} {ps ps' pf pf' : List ((Nat × Nat) × Nat)} {rows rows' : List Row} {told told' : List (Nat × Nat)} {X : List (Addr × Obj)} {h₀ h : Heap} {L a : Addr} {o : Obj} {col : Nat → Nat}
theorem KList.move {ds : List Dat} (K : KList nw a ds) (st : TupStay nw nw') (hk : ∀ o, (a, o) ∈ nw → (a, o) ∈ nw') : KList nw' a ds := let ⟨vs, n, hm, hi⟩ := K; ⟨vs, n, hk _ hm, hi.move st⟩
theorem XIn.mono (x : XIn col nw X) (hk : ∀ p ∈ nw, 20 ≤ col p.1 → p ∈ nw') : XIn col nw' X := by
  induction X with
  | nil => trivial
  | cons p X ih => exact ⟨hk p x.1 (by rw [x.2.1]; lia), x.2.1, ih x.2.2⟩
theorem XIn.mem (x : XIn col nw X) {p : Addr × Obj} (h : p ∈ X) : p ∈ nw ∧ 20 ≤ col p.1 ∧ col p.1 < 20 + X.length := by
  induction X with
  | nil => cases h
  | cons q X ih =>
    rcases List.mem_cons.mp h with rfl | h
    · exact ⟨x.1, by rw [x.2.1]; lia, by rw [x.2.1, List.length_cons]; lia⟩
    · have := ih x.2.2 h
      exact ⟨this.1, this.2.1, by rw [List.length_cons]; lia⟩
theorem XIn.recol {col' : Nat → Nat} (x : XIn col nw X) (hk : ∀ p ∈ nw, col' p.1 = col p.1) : XIn col' nw X := by
  induction X with
  | nil => trivial
  | cons p X ih => exact ⟨x.1, by rw [hk p x.1]; exact x.2.1, ih x.2.2⟩
theorem LM.mem (S : LM w nw G k v σ ps pf rows told X) {p : Addr × Obj} (h : p ∈ X) : p ∈ nw := let ⟨_, _, x⟩ := S.ap; (x.mem h).1
theorem LM.x0 {p : Addr × Obj} (S : LM w nw G k v σ ps pf rows told (p :: X)) : p ∈ nw := S.mem (.head _)
theorem LM.x1 {p q : Addr × Obj} (S : LM w nw G k v σ ps pf rows told (p :: q :: X)) : q ∈ nw := S.mem (.tail _ (.head _))
theorem LM.x2 {p q r : Addr × Obj} (S : LM w nw G k v σ ps pf rows told (p :: q :: r :: X)) : r ∈ nw := S.mem (.tail _ (.tail _ (.head _)))
theorem LM.x3 {p q r u : Addr × Obj} (S : LM w nw G k v σ ps pf rows told (p :: q :: r :: u :: X)) : u ∈ nw := S.mem (.tail _ (.tail _ (.tail _ (.head _))))
theorem LM.x4 {p q r u t : Addr × Obj} (S : LM w nw G k v σ ps pf rows told (p :: q :: r :: u :: t :: X)) : t ∈ nw := S.mem (.tail _ (.tail _ (.tail _ (.tail _ (.head _)))))
theorem LM.sub (S : LM w nw G k v σ ps pf rows told X) (h : ∀ p ∈ nw, p ∈ nw') : LM w nw' G k v σ ps pf rows told X :=
  have st : TupStay nw nw' := fun _ _ q => h _ q
  ⟨S.t.sub h, S.h1.sub h, S.h2.sub h, S.m.sub h, S.f.move st fun _ q => h _ q, S.r.move st fun _ q => h _ q, S.o.move st fun _ q => h _ q, let ⟨col, C, x⟩ := S.ap; ⟨col, C, x.mono fun p hp _ => h p hp⟩⟩
theorem KList.obj {ds : List Dat} (K : KList nw a ds) : ∃ o, (a, o) ∈ nw := let ⟨_, _, hm, _⟩ := K; ⟨_, hm⟩
theorem LM.objs (S : LM w nw G k v σ ps pf rows told X) (C : Cols G v σ col) {x : Nat} (h : x = G.tb ∨ x = G.tcl ∨ G.M.y1.own G.v1 G.σ1 x ∨ G.M.y2.own G.v2 G.σ2 x ∨ G.M.y.own v σ x ∨ x = G.M.mI ∨ x = G.M.mD ∨ x = G.M.nu ∨ x = G.fD ∨ x = G.rA ∨ x = G.tA) : ∃ o, ((x : Addr), o) ∈ nw := by
  rcases h with rfl | rfl | h | h | h | rfl | rfl | rfl | rfl | rfl | rfl
  · obtain ⟨_, D⟩ := S.t.d; obtain ⟨o, h, _⟩ := D.obj; exact ⟨o, h⟩
  · obtain ⟨vs, n, h2, _⟩ := S.t.c; exact ⟨_, h2⟩
  · obtain ⟨o, h, _⟩ := own_obj S.h1 h; exact ⟨o, h⟩
  · obtain ⟨o, h, _⟩ := own_obj S.h2 h; exact ⟨o, h⟩
  · obtain ⟨o, h, _⟩ := own_obj S.m.h h; exact ⟨o, h⟩
  · exact ⟨_, S.m.i1⟩
  · exact ⟨_, S.m.i2⟩
  · obtain ⟨o, h, _⟩ := pd_obj S.m.nu; exact ⟨o, h⟩
  · obtain ⟨o, h, _⟩ := pd_obj S.f; exact ⟨o, h⟩
  · exact S.r.obj
  · exact S.o.obj
theorem Cols.re {col' : Nat → Nat} (S : LM w nw G k v σ ps pf rows told X) (C : Cols G v σ col) (hk : ∀ (x : Nat) (o : Obj), ((x : Addr), o) ∈ nw → col' x = col x) : Cols G v σ col' := by
  have e : ∀ {x : Nat}, (x = G.tb ∨ x = G.tcl ∨ G.M.y1.own G.v1 G.σ1 x ∨ G.M.y2.own G.v2 G.σ2 x ∨ G.M.y.own v σ x ∨ x = G.M.mI ∨ x = G.M.mD ∨ x = G.M.nu ∨ x = G.fD ∨ x = G.rA ∨ x = G.tA) → col' x = col x := fun {x} h => by
    obtain ⟨o, ho⟩ := S.objs C h
    exact hk x o ho
  exact ⟨(e (by simp)).trans C.tb, (e (by simp)).trans C.tcl, fun x h => (e (by simp [h])).trans (C.o1 x h), fun x h => (e (by simp [h])).trans (C.o2 x h), fun x h => (e (by simp [h])).trans (C.om x h), (e (by simp)).trans C.mI, (e (by simp)).trans C.mD, (e (by simp)).trans C.nu, (e (by simp)).trans C.fD, (e (by simp)).trans C.rA, (e (by simp)).trans C.tA⟩
theorem LM.nt1 (S : LM w nw G k v σ ps pf rows told X) : ¬ G.M.y1.own G.v1 G.σ1 G.tb := fun q => by
  obtain ⟨col, C, -⟩ := S.ap
  have := C.o1 _ q
  rw [C.tb] at this
  lia
theorem LM.nt2 (S : LM w nw G k v σ ps pf rows told X) : ¬ G.M.y2.own G.v2 G.σ2 G.tb := fun q => by
  obtain ⟨col, C, -⟩ := S.ap
  have := C.o2 _ q
  rw [C.tb] at this
  lia
theorem LM.tne (S : LM w nw G k v σ ps pf rows told X) (hl : ∀ p ∈ nw', p.1 < a) (h : ∀ p ∈ nw, p ∈ nw') : a ≠ G.tb := fun e => by
  obtain ⟨⟨o, ho⟩, -⟩ := S.t.both
  subst e
  exact Nat.lt_irrefl _ (hl _ (h _ ho))
theorem MRep.go {M : ML} (R : MRep w nw M v σ ps) (st : TupStay nw nw') (h1 : ∀ o, (M.mI, o) ∈ nw → (M.mI, o) ∈ nw') (h2 : ∀ o, (M.mD, o) ∈ nw → (M.mD, o) ∈ nw') (h3 : ∀ o, (M.nu, o) ∈ nw → (M.nu, o) ∈ nw') (h4 : ∀ a : Nat, M.y.own v σ a → ∀ o, ((a : Addr), o) ∈ nw → ((a : Addr), o) ∈ nw') : MRep w nw' M v σ ps :=
  ⟨h1 _ R.i1, h2 _ R.i2, R.nu.move st h3, R.h.move st h4, R.a1, R.a2, R.a3, R.a4, R.a5⟩
structure Rest (w : World) (nw' : List (Addr × Obj)) (G : LG) (k : Nat) (v : Dy) (σ : HS) (ps pf : List ((Nat × Nat) × Nat)) (rows : List Row) (told : List (Nat × Nat)) (X : List (Addr × Obj)) (col : Nat → Nat) (bad : Nat → Bool) : Prop where
  t : bad 1 = false → bad 2 = false → Tube w nw' G.tb G.tcl k G.tcs
  h1 : bad 3 = false → HRep w nw' G.M.y1 G.v1 G.σ1
  h2 : bad 4 = false → HRep w nw' G.M.y2 G.v2 G.σ2
  m : bad 5 = false → bad 6 = false → bad 7 = false → bad 8 = false → MRep w nw' G.M v σ ps
  f : bad 9 = false → PD w nw' G.fD pf
  r : bad 10 = false → KList nw' G.rA (rows.map rdat)
  o : bad 11 = false → KList nw' G.tA (told.map pdat)
  x : (∀ n, 20 ≤ n → bad n = false) → XIn col nw' X
theorem LM.rest (S : LM w nw G k v σ ps pf rows told X) (C : Cols G v σ col) (x : XIn col nw X) (bad : Nat → Bool) (hk : ∀ p ∈ nw, bad (col p.1) = false → p ∈ nw') (st : TupStay nw nw') : Rest w nw' G k v σ ps pf rows told X col bad where
  t := fun b1 b2 => S.t.move (fun o q => hk _ q (by rw [C.tb]; exact b1)) fun o q => hk _ q (by rw [C.tcl]; exact b2)
  h1 := fun b => S.h1.move st fun a ha o q => hk _ q (by rw [C.o1 a ha]; exact b)
  h2 := fun b => S.h2.move st fun a ha o q => hk _ q (by rw [C.o2 a ha]; exact b)
  m := fun b5 b6 b7 b8 => S.m.go st (fun o q => hk _ q (by rw [C.mI]; exact b6)) (fun o q => hk _ q (by rw [C.mD]; exact b7)) (fun o q => hk _ q (by rw [C.nu]; exact b8)) fun a ha o q => hk _ q (by rw [C.om a ha]; exact b5)
  f := fun b => S.f.move st fun o q => hk _ q (by rw [C.fD]; exact b)
  r := fun b => S.r.move st fun o q => hk _ q (by rw [C.rA]; exact b)
  o := fun b => S.o.move st fun o q => hk _ q (by rw [C.tA]; exact b)
  x := fun b => x.mono fun p hp l => hk p hp (b _ l)
theorem LM.tap (S : LM w nw G k v σ ps pf rows told X) (T : Tube w nw' G.tb G.tcl k' G.tcs) (hk : ∀ p ∈ nw, p.1 ≠ G.tb → p ∈ nw') (st : TupStay nw nw') : LM w nw' G k' v σ ps pf rows told X := by
  obtain ⟨col, C, x⟩ := S.ap
  have R := S.rest C x (fun n => n == 1) (fun p hp b => hk p hp fun e => by rw [e, C.tb] at b; cases b) st
  exact ⟨T, R.h1 rfl, R.h2 rfl, R.m rfl rfl rfl rfl, R.f rfl, R.r rfl, R.o rfl, col, C, R.x fun n l => by simp; lia⟩
theorem LM.meet (S : LM w nw G k v σ ps pf rows told X) (R' : MRep w nw' G.M v' σ' ps') (K : MKept G.M v σ v' σ' nw nw') (st : TupStay nw nw') : LM w nw' G k v' σ' ps' pf rows told X := by
  obtain ⟨col, C, x⟩ := S.ap
  have R := S.rest C x (fun n => n == 5 || n == 8) (fun p hp b => K.keep p hp (fun e => by rw [C.om _ e] at b; cases b) fun e => by rw [e, C.nu] at b; cases b) st
  let col' : Nat → Nat := fun y => open Classical in if ∃ o, ((y : Addr), o) ∈ nw then col y else 5
  have e : ∀ (y : Nat) (o : Obj), ((y : Addr), o) ∈ nw → col' y = col y := fun y o ho => if_pos ⟨o, ho⟩
  have C' := C.re (col' := col') S e
  refine ⟨R.t rfl rfl, R.h1 rfl, R.h2 rfl, R', R.f rfl, R.r rfl, R.o rfl, col', ⟨C'.tb, C'.tcl, C'.o1, C'.o2, fun y hy => ?_, C'.mI, C'.mD, C'.nu, C'.fD, C'.rA, C'.tA⟩, ?_⟩
  · rcases K.own y hy with q | q
    · exact C'.om y q
    · exact if_neg fun ⟨o, ho⟩ => q _ ho rfl
  · exact (x.recol fun p hp => e p.1 p.2 hp).mono fun p hp l => K.keep p hp (fun q => by rw [C'.om _ q] at l; lia) fun q => by rw [q, C'.nu] at l; lia
theorem LM.push (S : LM w nw G k v σ ps pf rows told X) (hf : ∀ p ∈ nw, p.1 ≠ a) : LM w ((a, o) :: nw) G k v σ ps pf rows told ((a, o) :: X) := by
  obtain ⟨col, C, x⟩ := S.ap
  let col' : Nat → Nat := fun y => if y = a then 20 + X.length else col y
  have e : ∀ (y : Nat) (o : Obj), ((y : Addr), o) ∈ nw → col' y = col y := fun y o ho => if_neg fun q => hf _ ho q
  have S' := S.sub (nw' := (a, o) :: nw) fun p hp => .tail _ hp
  exact { S' with ap := ⟨col', C.re S e, .head _, if_pos rfl, (x.recol fun p hp => e p.1 p.2 hp).mono fun p hp _ => .tail _ hp⟩ }
theorem LM.pop (S : LM w nw G k v σ ps pf rows told ((a, o) :: X)) (N : News h₀ L h nw) (hc : o.cls ≠ .type "tuple") : LM w (offI a nw) G k v σ ps pf rows told X := by
  obtain ⟨col, C, x⟩ := S.ap
  have st := tup_offI N x.1 hc
  have R := S.rest C x (fun n => n == 20 + X.length) (nw' := offI a nw) (fun p hp b => mem_offI.mpr ⟨hp, fun e => by
    have e' : col p.1 = col a := congrArg col e
    rw [e', x.2.1] at b; simp at b⟩) st
  have hb : ∀ n, n < 20 → (n == 20 + X.length) = false := fun n l => by simp; lia
  refine ⟨R.t (hb _ (by decide)) (hb _ (by decide)), R.h1 (hb _ (by decide)), R.h2 (hb _ (by decide)), R.m (hb _ (by decide)) (hb _ (by decide)) (hb _ (by decide)) (hb _ (by decide)), R.f (hb _ (by decide)), R.r (hb _ (by decide)), R.o (hb _ (by decide)), col, C, ?_⟩
  have x2 := x.2.2
  have al : ∀ q ∈ X, q.1 ≠ a := fun q hq e => by
    have := (x2.mem hq).2.2
    have e' : col q.1 = col a := congrArg col e
    rw [e', x.2.1] at this
    lia
  clear R S C x st hb
  induction X with
  | nil => trivial
  | cons q X ih => exact ⟨mem_offI.mpr ⟨x2.1, al q (.head _)⟩, x2.2.1, ih x2.2.2 fun r hr => al r (.tail _ hr)⟩
theorem LM.drop {p : Addr × Obj} (S : LM w nw G k v σ ps pf rows told (p :: X)) : LM w nw G k v σ ps pf rows told X := { S with ap := let ⟨col, C, x⟩ := S.ap; ⟨col, C, x.2.2⟩ }
theorem put_x {o' : Obj} {n : Nat} (x : XIn col nw X) (hX : ∀ q ∈ X, q.1 ≠ a) : XIn col (put a o' nw) X := by
  induction X with
  | nil => trivial
  | cons q X ih => exact ⟨put_of x.1 (hX q (.head _)), x.2.1, ih x.2.2 fun r hr => hX r (.tail _ hr)⟩
theorem LM.set1 {p : Addr × Obj} (S : LM w nw G k v σ ps pf rows told (p :: (a, o) :: X)) (N : News h₀ L h nw) (hc : o.cls ≠ .type "tuple") {o' : Obj} : LM w (put a o' nw) G k v σ ps pf rows told (p :: (a, o') :: X) := by
  obtain ⟨col, C, x⟩ := S.ap
  have st := TupStay.put (o' := o') N x.2.2.1 hc
  have ca := x.2.2.2.1
  have R := S.rest C x (fun n => n == 20 + X.length) (nw' := put a o' nw) (fun q hq b => put_of hq fun e => by
    have e' : col q.1 = col a := congrArg col e
    rw [e', ca] at b; simp at b) st
  have hb : ∀ n, n < 20 → (n == 20 + X.length) = false := fun n l => by simp; lia
  refine ⟨R.t (hb _ (by decide)) (hb _ (by decide)), R.h1 (hb _ (by decide)), R.h2 (hb _ (by decide)), R.m (hb _ (by decide)) (hb _ (by decide)) (hb _ (by decide)) (hb _ (by decide)), R.f (hb _ (by decide)), R.r (hb _ (by decide)), R.o (hb _ (by decide)), col, C, put_of x.1 fun e => ?_, x.2.1, put_self, ca, put_x (n := 0) x.2.2.2.2 fun q hq e => ?_⟩
  · have e' : col p.1 = col a := congrArg col e
    rw [x.2.1, ca, List.length_cons] at e'
    lia
  · have e' : col q.1 = col a := congrArg col e
    have := (XIn.mem x.2.2.2.2 hq).2.2
    rw [e', ca] at this
    lia
theorem LM.setF (S : LM w nw G k v σ ps pf rows told X) (N : News h₀ L h nw) {o' : Obj} (P : PD w (put G.fD o' nw) G.fD pf') : LM w (put G.fD o' nw) G k v σ ps pf' rows told X := by
  obtain ⟨col, C, x⟩ := S.ap
  obtain ⟨o, hm, hc⟩ := pd_obj S.f
  have st := TupStay.put (o' := o') N hm (by rw [hc]; decide)
  have R := S.rest C x (fun n => n == 9) (nw' := put G.fD o' nw) (fun q hq b => put_of hq fun e => by rw [e, C.fD] at b; cases b) st
  exact ⟨R.t rfl rfl, R.h1 rfl, R.h2 rfl, R.m rfl rfl rfl rfl, P, R.r rfl, R.o rfl, col, C, R.x fun n l => by simp; lia⟩
theorem LM.setR (S : LM w nw G k v σ ps pf rows told X) (N : News h₀ L h nw) {o' : Obj} {vs : List Value} {n : Nat} (hm : (G.rA, W.listOf vs.toArray n) ∈ nw) (K : KList (put G.rA o' nw) G.rA (rows'.map rdat)) : LM w (put G.rA o' nw) G k v σ ps pf rows' told X ∧ TupStay nw (put G.rA o' nw) := by
  obtain ⟨col, C, x⟩ := S.ap
  have st := TupStay.put (o' := o') N hm (by simp)
  have R := S.rest C x (fun n => n == 10) (nw' := put G.rA o' nw) (fun q hq b => put_of hq fun e => by rw [e, C.rA] at b; cases b) st
  exact ⟨⟨R.t rfl rfl, R.h1 rfl, R.h2 rfl, R.m rfl rfl rfl rfl, R.f rfl, K, R.o rfl, col, C, R.x fun n l => by simp; lia⟩, st⟩
theorem LM.setT (S : LM w nw G k v σ ps pf rows told X) (N : News h₀ L h nw) {o' : Obj} {vs : List Value} {n : Nat} (hm : (G.tA, W.listOf vs.toArray n) ∈ nw) (K : KList (put G.tA o' nw) G.tA (told'.map pdat)) : LM w (put G.tA o' nw) G k v σ ps pf rows told' X ∧ TupStay nw (put G.tA o' nw) := by
  obtain ⟨col, C, x⟩ := S.ap
  have st := TupStay.put (o' := o') N hm (by simp)
  have R := S.rest C x (fun n => n == 11) (nw' := put G.tA o' nw) (fun q hq b => put_of hq fun e => by rw [e, C.tA] at b; cases b) st
  exact ⟨⟨R.t rfl rfl, R.h1 rfl, R.h2 rfl, R.m rfl rfl rfl rfl, R.f rfl, R.r rfl, K, col, C, R.x fun n l => by simp; lia⟩, st⟩
end
section
variable {w : World} {A : Around} {E : Value → Shared → Prop} {s : Shared} {h₀ : Heap} {L d a : Addr} {m : Str → Option Value} {news : List (Addr × Obj)} {ps : List ((Nat × Nat) × Nat)} {vs : List Value} {ds : List Dat} {n : Nat} {Q : Value → Shared → Prop}
theorem vals_key : ∀ {xs : List (Dat × Addr × Value)} {ys : List (Dat × Nat)}, ValsAre xs ys → xs.map (·.1) = ys.map (·.1)
  | [], [], _ => rfl
  | x :: xs, y :: ys, h => by
    obtain ⟨⟨e1, _⟩, h2⟩ := h
    rw [List.map_cons, List.map_cons, e1, vals_key h2]
  | [], _ :: _, h => h.elim
  | _ :: _, [], h => h.elim
theorem kinAll_of {nw : List (Addr × Obj)} {j : Nat} : ∀ {vs : List Value} {ds : List Dat}, vs.length = ds.length → (∀ (i : Nat) (v : Value), vs[i]? = some v → ∃ d, ds[i]? = some d ∧ KIn nw j v d) → KInAll nw j vs ds
  | [], [], _, _ => .nil
  | v :: vs, d :: ds, hl, h => by
    obtain ⟨d', e, k⟩ := h 0 v rfl
    cases e
    exact .cons k (kinAll_of (by simpa using hl) fun i x hx => h (i + 1) x (by simpa using hx))
  | [], _ :: _, hl, _ => by simp at hl
  | _ :: _, [], hl, _ => by simp at hl
theorem pd_list (hh : A.handled = none) (F : Fr h₀ L s.heap m) (N : News h₀ L s.heap news) (P : PD w news d ps) (hz : ps.length ≤ 1000)
    (h : ∀ (D : Addr) c h' tk (vs : List Value), Fr h₀ L h' m → News h₀ L h' ((D, W.listOf vs.toArray c) :: news) → (∀ q ∈ news, q.1 < D) → KInAll news 7 vs ((ps.map (·.1)).map pdat) → Q (.ref D) { s with heap := h', toks := tk }) :
    wpAny (model prog w) A (call (.type "list") [.ref d]) Q E s := by
  obtain ⟨xs, T, V⟩ := P
  have hl := V.length
  rw [pairsOf', List.length_map] at hl
  have hk := vals_key V
  have hin := T.2
  refine td_list hh F N T (by lia) fun D c h' tk vs F' N' lt hv hx => h D c h' tk vs F' N' lt (kinAll_of (by simp; lia) fun i v hi => ?_)
  obtain ⟨x, ex, rfl⟩ := hx i v hi
  obtain ⟨o, es, ep, _, _, _, _, hks, _⟩ := hin
  refine ⟨x.1, ?_, hks x (List.mem_of_getElem? ex)⟩
  have q : (xs.map (·.1))[i]? = some x.1 := by rw [List.getElem?_map, ex]; rfl
  rw [hk, pairsOf', List.map_map] at q
  rw [List.map_map]
  exact q
open Classical in
theorem any_iff {ds : List Dat} {d : Dat} (ha : ∀ d ∈ ds, kqdOk 8 d = true) (hd : kqdOk 8 d = true) : ((kqdPs ds).any fun y => PyData.eqv y (kqdP d)) = decide (d ∈ ds) := by
  by_cases hq : d ∈ ds
  · rw [decide_eq_true hq]; exact (kqd_any ds d ha hd).mpr hq
  · rw [decide_eq_false hq]; exact Bool.eq_false_iff.mpr fun z => hq ((kqd_any ds d ha hd).mp z)
theorem K_up {nw : List (Addr × Obj)} : (∀ {n : Nat} {v : Value} {d : Dat}, KIn nw n v d → KIn nw (n + 1) v d) ∧ ∀ {n : Nat} {vs : List Value} {ds : List Dat}, KInAll nw n vs ds → KInAll nw (n + 1) vs ds :=
  KP.both (M1 := fun n v d => KIn nw (n + 1) v d) (M2 := fun n vs ds => KInAll nw (n + 1) vs ds) (fun _ i t => .int i t) (fun _ x t k => .str x t k) (fun _ _ _ _ p ih => .tuple p ih) (fun _ => .nil) fun _ _ _ _ _ a r => .cons a r
theorem KIn.up {nw : List (Addr × Obj)} {n : Nat} {v : Value} {d : Dat} (a : KIn nw n v d) : KIn nw (n + 1) v d := K_up.1 a
theorem KInAll.up {nw : List (Addr × Obj)} {n : Nat} {vs : List Value} {ds : List Dat} (a : KInAll nw n vs ds) : KInAll nw (n + 1) vs ds := K_up.2 a
open Classical in
theorem list_notin {x : Value} {dx : Dat} (N : News h₀ L s.heap news) (K : KList news a ds) (hx : KIn news 7 x dx) (hu : A.units + 64 < cLine)
    (h1 : dx ∉ ds → Q (.bool true) s) (h2 : dx ∈ ds → Q (.bool false) s) : wpAny (model prog w) A (compareOp .NotIn x (.ref a)) Q E s := by
  obtain ⟨vs, n, hm, K⟩ := K
  obtain ⟨as, ra⟩ := (K.kat N).reads
  obtain ⟨bs, rx⟩ := (hx.kat N).reads
  have oa := ((K_up.2 K).kat N).ok
  have ox := ((K_up.1 hx).kat N).ok
  have l := kqd_layL oa
  have ld := kqd_lay 8 dx ox
  have l2 := ld.2
  refine SeqAt.notIn_list_reads (reads_list_at (N _ hm).1 rfl rfl (by simpa using ra)) rx l.1 ld.1 ?_ (by
    rw [any_iff oa ox]
    by_cases e : dx ∈ ds
    · rw [decide_eq_true e]; exact h2 e
    · rw [decide_eq_false e]; exact h1 e)
  have := Nat.min_le_right (PyData.depthAll (kqdPs ds)) (kqdP dx).depth
  lia
open Classical in
theorem tup_notin {x : Value} {dx : Dat} (N : News h₀ L s.heap news) (hm : (a, tupObj vs) ∈ news) (K : KInAll news 7 vs ds) (hx : KIn news 7 x dx) (hu : A.units + 64 < cLine)
    (h1 : dx ∉ ds → Q (.bool true) s) (h2 : dx ∈ ds → Q (.bool false) s) : wpAny (model prog w) A (compareOp .NotIn x (.ref a)) Q E s := by
  obtain ⟨as, ra⟩ := (K.kat N).reads
  obtain ⟨bs, rx⟩ := (hx.kat N).reads
  have oa := ((K_up.2 K).kat N).ok
  have ox := ((K_up.1 hx).kat N).ok
  have l := kqd_layL oa
  have ld := kqd_lay 8 dx ox
  have l2 := ld.2
  refine SeqAt.notIn_tuple_reads (reads_tuple_at (N _ hm).1 rfl rfl (by simpa using ra)) rx l.1 ld.1 ?_ (by
    rw [any_iff oa ox]
    by_cases e : dx ∈ ds
    · rw [decide_eq_true e]; exact h2 e
    · rw [decide_eq_false e]; exact h1 e)
  have := Nat.min_le_right (PyData.depthAll (kqdPs ds)) (kqdP dx).depth
  lia
end
section
variable {w : World} {A : Around} {E : Value → Shared → Prop} {s : Shared} {h₀ : Heap} {L : Addr} {m : Str → Option Value} {nw : List (Addr × Obj)} {G : LG} {k : Nat} {v : Dy} {σ : HS} {ps pf : List ((Nat × Nat) × Nat)} {rows : List Row} {told : List (Nat × Nat)} {X : List (Addr × Obj)} {Q : Value → Shared → Prop} {x : Value}
theorem lm_rows {r : Row} (F : Fr h₀ L s.heap m) (N : News h₀ L s.heap nw) (S : LM w nw G k v σ ps pf rows told X) (hx : KIn nw 7 x (rdat r)) (hz : rows.length ≤ 1000)
    (h : ∀ h' nw', Fr h₀ L h' m → News h₀ L h' nw' → LM w nw' G k v σ ps pf (rows ++ [r]) told X → TupStay nw nw' → Q .none { s with heap := h' }) :
    wpAny (model prog w) A (call (.builtin "list.append") [.ref G.rA, x]) Q E s := by
  obtain ⟨vs, n, hm, K⟩ := S.r
  have hl := kinAll_len K
  refine append_B F N hm (by rw [hl]; simp; lia) fun h' F' N' => ?_
  have st : TupStay nw (put G.rA (W.listOf (vs ++ [x]).toArray (n + 1)) nw) := TupStay.put N hm (by simp)
  exact h h' _ F' N' (S.setR (rows' := rows ++ [r]) N hm ⟨_, _, put_self, by rw [List.map_append]; exact kinAll_snoc (K.move st) (hx.move st)⟩).1 st
theorem lm_told {p : Nat × Nat} (F : Fr h₀ L s.heap m) (N : News h₀ L s.heap nw) (S : LM w nw G k v σ ps pf rows told X) (hx : KIn nw 7 x (pdat p)) (hz : told.length ≤ 1000)
    (h : ∀ h' nw', Fr h₀ L h' m → News h₀ L h' nw' → LM w nw' G k v σ ps pf rows (told ++ [p]) X → TupStay nw nw' → Q .none { s with heap := h' }) :
    wpAny (model prog w) A (call (.builtin "list.append") [.ref G.tA, x]) Q E s := by
  obtain ⟨vs, n, hm, K⟩ := S.o
  have hl := kinAll_len K
  refine append_B F N hm (by rw [hl]; simp; lia) fun h' F' N' => ?_
  have st : TupStay nw (put G.tA (W.listOf (vs ++ [x]).toArray (n + 1)) nw) := TupStay.put N hm (by simp)
  exact h h' _ F' N' (S.setT (told' := told ++ [p]) N hm ⟨_, _, put_self, by rw [List.map_append]; exact kinAll_snoc (K.move st) (hx.move st)⟩).1 st
theorem lm_firsts {p : Nat × Nat} {n : Nat} {a : Addr} {t : Tok} (F : Fr h₀ L s.heap m) (N : News h₀ L s.heap nw) (S : LM w nw G k v σ ps pf rows told X) (hk : KIn nw 7 (.ref a) (pdat p)) (hu : A.units + 17 < cLine) (hz : pf.length ≤ 1000000)
    (h1 : ∀ i, pget pf p = some i → ∀ t tk, Q (.int (i : Nat) t) { s with toks := tk })
    (h2 : pget pf p = none → ∀ h' nw' tk, Fr h₀ L h' m → News h₀ L h' nw' → LM w nw' G k v σ ps (pf ++ [(p, n)]) rows told X → TupStay nw nw' → Q (.int (n : Nat) t) { s with heap := h', toks := tk }) :
    wpAny (model prog w) A (call (.builtin "dict.setdefault") [.ref G.fD, .ref a, .int (n : Nat) t]) Q E s :=
  pd_setdefault F N S.f hk hu hz h1 fun e h' o' tk F' N' P' st => h2 e h' _ tk F' N' (S.setF N P') st
theorem lm_kids {q : Addr × Obj} {a : Addr} {vs : List Value} {n : Nat} (F : Fr h₀ L s.heap m) (N : News h₀ L s.heap nw) (S : LM w nw G k v σ ps pf rows told (q :: (a, W.listOf vs.toArray n) :: X)) (hz : vs.length ≤ 1000)
    (h : ∀ h' nw', Fr h₀ L h' m → News h₀ L h' nw' → LM w nw' G k v σ ps pf rows told (q :: (a, W.listOf (vs ++ [x]).toArray (n + 1)) :: X) → TupStay nw nw' → Q .none { s with heap := h' }) :
    wpAny (model prog w) A (call (.builtin "list.append") [.ref a, x]) Q E s := by
  refine append_B F N S.x1 (by lia) fun h' F' N' => ?_
  exact h h' _ F' N' (S.set1 N (by simp)) (TupStay.put N S.x1 (by simp))
end
end Mine
end

section
open PySem PySem.W PySem.Calls PyProof.Rows PySem.Spec
set_option maxRecDepth 100000
namespace Mine
noncomputable def lawB : List Stmt := match PySem.Challenge.pw_rh0009_01.main.body.getLast? with
  | some (.FunctionDef _ _ b _ _ _ _ _ _ _) => b
  | _ => []
noncomputable def lawS : Scope := match PySem.Challenge.pw_rh0009_01.main.body.getLast? with
  | some (.FunctionDef _ _ _ _ _ _ s _ _ _) => s
  | _ => default
example : lawB.length = 11 := by rfl
structure HG (ops : List Str) (σ : HS) : Prop where
  l : Leafy (fun x => x ∈ ops) σ
  w : σ.wait = []
  o : Ok 130 σ
  n : σ.par.length = 4
theorem LeafO.hg {ops : List Str} {σ : HS} (H : LeafO ops σ) (h4 : ops.length = 4) : HG ops σ :=
  ⟨H.leafy (fun _ h => h) (by lia), H.wait, H.ok.mono (by lia), by rw [H.par, List.length_range, h4]⟩
theorem LeafO.hgm {ops : List Str} {σ : HS} (H : LeafO ops σ) (h4 : ops.length = 4) {a b : Nat} (ha : a < 4) (hb : b < 4) : HG ops (mergeS σ a b) := by
  have hl : σ.par.length = 4 := by rw [H.par, List.length_range, h4]
  obtain ⟨q1, q2⟩ := H.merged (P := fun x => x ∈ ops) (fun _ h => h) (by lia) (a := a) (b := b) (by lia) (by lia)
  refine ⟨q1, q2, (H.ok.merge (by lia) (by lia)).mono (by lia), ?_⟩
  unfold mergeS
  split
  · exact hl
  · show (σ.par.set _ _).length = 4
    rw [List.length_set, hl]
theorem fr_kstB {h₀ h : Heap} {L : Addr} {m : Str → Option Value} (ps : List (Str × Value)) (F : Fr h₀ L h m) (hp : ∀ p ∈ ps, m p.1 = some p.2) : Fr h₀ L h (kstB m ps) := by
  have e : m = kstB m ps := funext fun y => (kstB_eq hp fun _ => rfl).symm
  exact e ▸ F
end Mine
end

section
open PySem PySem.W PySem.Calls PyProof.Rows PySem.Spec
set_option maxRecDepth 100000
namespace Mine
noncomputable def lapB : List Stmt := match lawB.drop 6 with
  | .For _ _ b _ _ :: _ => b
  | _ => []
noncomputable def endB : List Stmt := match lawB.drop 9 with
  | .For _ _ b _ _ :: _ => b
  | _ => []
structure LI (i : Nat) (σ : HS) (ps : List ((Nat × Nat) × Nat)) (rows : List Row) (told : List (Nat × Nat)) (k : Nat) : Prop where
  sem : Sem rows told σ fun _ => False
  ok : Ok (32 * i) σ
  len : rows.length ≤ i
  tl : told.length ≤ i
  pb : ∀ x ∈ ps, x.2 < σ.par.length
  pz : ps.length ≤ i
  tb : ∀ p ∈ told, p.1 < rows.length ∧ p.2 < rows.length
  k : k ≤ 10 + 11 * i
noncomputable abbrev lawV (G : LG) : List (Str × Value) := [(Str.ofString "one", .ref G.M.y1.hI), (Str.ofString "other", .ref G.M.y2.hI), (Str.ofString "tube", .ref G.tb), (Str.ofString "rows", .ref G.rA), (Str.ofString "told", .ref G.tA)]
inductive CutP (w : World) (h₀ : Heap) (L : Addr) (m : Str → Option Value) (G : LG) (v : Dy) (σ : HS) (ps pf : List ((Nat × Nat) × Nat)) (rows : List Row) (told : List (Nat × Nat)) (X : List (Addr × Obj)) (s : Shared) (R : Value → Nat → List (Addr × Obj) → Prop) (x : Value) (s' : Shared) : Prop
  | mk (h' : Heap) (tk' : Nat) (nw' : List (Addr × Obj)) (k' : Nat) (e : s' = { s with heap := h', toks := tk' }) (F : Fr h₀ L h' m) (N : News h₀ L h' nw') (S : LM w nw' G k' v σ ps pf rows told X) (r : R x k' nw') : CutP w h₀ L m G v σ ps pf rows told X s R x s'
theorem CutP.intro {w : World} {h₀ : Heap} {L : Addr} {m : Str → Option Value} {G : LG} {v : Dy} {σ : HS} {ps pf : List ((Nat × Nat) × Nat)} {rows : List Row} {told : List (Nat × Nat)} {X : List (Addr × Obj)} {s : Shared} {R : Value → Nat → List (Addr × Obj) → Prop} {x : Value} {h' : Heap} {tk' k' : Nat} {nw' : List (Addr × Obj)}
    (F : Fr h₀ L h' m) (N : News h₀ L h' nw') (S : LM w nw' G k' v σ ps pf rows told X) (r : R x k' nw') : CutP w h₀ L m G v σ ps pf rows told X s R x { s with heap := h', toks := tk' } := ⟨h', tk', nw', k', rfl, F, N, S, r⟩
theorem name_two {h₀ h : Heap} {L a b : Addr} {o o' : Obj} {nw : List (Addr × Obj)} (_N : News h₀ L h ((a, o) :: (b, o') :: nw)) : (∃ x, x = b) ∧ ∃ x, x = nw := ⟨⟨_, rfl⟩, ⟨_, rfl⟩⟩
theorem name_kin {nw : List (Addr × Obj)} {a : Addr} {q : Nat × Nat} (_K : KIn nw 7 (.ref a) (pdat q)) : (∃ x, x = a) ∧ ∃ x, x = q := ⟨⟨_, rfl⟩, ⟨_, rfl⟩⟩
theorem li_start : LI 0 emptyS [] [] [] 10 := ⟨sem_start, ok_empty, Nat.le_refl _, Nat.le_refl _, nofun, Nat.le_refl _, nofun, Nat.le_refl _⟩
theorem LI.same {i k k' : Nat} {σ : HS} {ps : List ((Nat × Nat) × Nat)} {rows : List Row} {told : List (Nat × Nat)} (J : LI i σ ps rows told k) (hk : k' ≤ 10 + 11 * (i + 1)) : LI (i + 1) σ ps rows told k' :=
  ⟨J.sem, J.ok.mono (by lia), Nat.le_succ_of_le J.len, Nat.le_succ_of_le J.tl, J.pb, Nat.le_succ_of_le J.pz, J.tb, hk⟩
theorem LI.put {i k k' : Nat} {σ : HS} {ps : List ((Nat × Nat) × Nat)} {rows : List Row} {told : List (Nat × Nat)} {pair : Nat × Nat} {nd : Nd} (J : LI i σ ps rows told k) (hi : i < 10) (hk : k' ≤ 10 + 11 * (i + 1)) (hl : nd.2.length ≤ 2) (hb : ∀ x ∈ nd.2, x < σ.par.length) :
    (∀ n, pget ps pair = some n → LI (i + 1) (meetS σ ps pair nd).1 ps (rows ++ [nd]) (told ++ [(n, rows.length)]) k' ∧ (meetS σ ps pair nd).2 = ps) ∧
    (pget ps pair = none → LI (i + 1) (meetS σ ps pair nd).1 (ps ++ [(pair, rows.length)]) (rows ++ [nd]) (told ++ [(rows.length, rows.length)]) k' ∧ (meetS σ ps pair nd).2 = ps ++ [(pair, rows.length)]) := by
  have hlen : σ.par.length = rows.length := by rw [← J.sem.rw, J.ok.nodes]
  have h10 : σ.par.length ≤ 11 := by have := J.len; lia
  have SA := J.sem.add J.ok h10 hl hb
  have OA := J.ok.add h10 hl hb
  have la : (addS σ nd).par.length = rows.length + 1 := by rw [add_par_len, hlen]
  have hm : ∀ {a b : Nat}, (mergeS (addS σ nd) a b).par.length = rows.length + 1 := fun {a b} => by
    rw [← la]
    unfold mergeS
    split
    · rfl
    · show (List.set _ _ _).length = _
      rw [List.length_set]
  have pl : ∀ (x : (Nat × Nat) × Nat), x ∈ ps → x.2 < rows.length := fun x hx => by have := J.pb x hx; lia
  have core : ∀ n, n ≤ rows.length → ∀ ps' : List ((Nat × Nat) × Nat), (∀ x ∈ ps', x.2 < rows.length + 1) → ps'.length ≤ i + 1 → LI (i + 1) (mergeS (addS σ nd) n σ.par.length) ps' (rows ++ [nd]) (told ++ [(n, rows.length)]) k' := fun n hn ps' h1 h2 => by
    have S2 := SA.merge OA (a := n) (b := σ.par.length) (by lia) (by lia)
    have O2 := OA.merge (a := n) (b := σ.par.length) (by lia) (by lia)
    refine ⟨hlen ▸ S2, O2.mono (by lia), ?_, ?_, fun x hx => ?_, h2, fun p hp => ?_, hk⟩
    · have := J.len; rw [List.length_append, List.length_singleton]; lia
    · have := J.tl; rw [List.length_append, List.length_singleton]; lia
    · rw [hm]; exact h1 x hx
    · rw [List.length_append, List.length_singleton]
      rcases List.mem_append.mp hp with q | q
      · have := J.tb p q; lia
      · rw [List.mem_singleton.mp q]; dsimp only; lia
  refine ⟨fun n e => ?_, fun e => ?_⟩
  · have e1 : meetS σ ps pair nd = (mergeS (addS σ nd) n σ.par.length, ps) := by simp only [meetS, e]
    rw [e1]
    exact ⟨core n (Nat.le_of_lt (pl _ (pget_mem e))) ps (fun x hx => by have := pl x hx; lia) (by have := J.pz; lia), rfl⟩
  · have e1 : meetS σ ps pair nd = (mergeS (addS σ nd) σ.par.length σ.par.length, ps ++ [(pair, σ.par.length)]) := by simp only [meetS, e]
    rw [e1, hlen]
    refine ⟨hlen ▸ core rows.length (Nat.le_refl _) (ps ++ [(pair, rows.length)]) (fun x hx => ?_) ?_, rfl⟩
    · rcases List.mem_append.mp hx with q | q
      · have := pl x q; lia
      · rw [List.mem_singleton.mp q]; exact Nat.lt_succ_self _
    · have := J.pz; rw [List.length_append, List.length_singleton]; lia
end Mine
end

section
open PySem PySem.W PySem.Calls PyProof.Rows PySem.Spec
set_option maxRecDepth 100000
namespace Mine
structure LX (nw : List (Addr × Obj)) (tb : Addr) (y1 : Lay) (v1 : Dy) (σ1 : HS) (y2 : Lay) (v2 : Dy) (σ2 : HS) (c : Addr) (o : Obj) : Prop where
  m : (c, o) ∈ nw
  n1 : ¬ y1.own v1 σ1 c
  n2 : ¬ y2.own v2 σ2 c
  nt : c ≠ tb
section
variable {nw nw' : List (Addr × Obj)} {tb c : Addr} {y1 y2 : Lay} {v1 v1' v2 v2' : Dy} {σ1 σ1' σ2 σ2' : HS} {o : Obj}
theorem LX.sub (S : LX nw tb y1 v1 σ1 y2 v2 σ2 c o) (h : ∀ p ∈ nw, p ∈ nw') : LX nw' tb y1 v1 σ1 y2 v2 σ2 c o := { S with m := h _ S.m }
theorem LX.op1 (S : LX nw tb y1 v1 σ1 y2 v2 σ2 c o) (K : Kept y1 v1 σ1 v1' σ1' nw nw') : LX nw' tb y1 v1' σ1' y2 v2 σ2 c o := ⟨K.keep _ S.m S.n1, kept_not K ⟨_, S.m⟩ S.n1, S.n2, S.nt⟩
theorem LX.op2 (S : LX nw tb y1 v1 σ1 y2 v2 σ2 c o) (K : Kept y2 v2 σ2 v2' σ2' nw nw') : LX nw' tb y1 v1 σ1 y2 v2' σ2' c o := ⟨K.keep _ S.m S.n2, S.n1, kept_not K ⟨_, S.m⟩ S.n2, S.nt⟩
theorem LX.tap (S : LX nw tb y1 v1 σ1 y2 v2 σ2 c o) (hk : ∀ p ∈ nw, p.1 ≠ tb → p ∈ nw') : LX nw' tb y1 v1 σ1 y2 v2 σ2 c o := { S with m := hk _ S.m S.nt }
end
structure LZ (w : World) (nw : List (Addr × Obj)) (tb tcl : Addr) (k : Nat) (tcs : List Nat) (y1 : Lay) (v1 : Dy) (σ1 : HS) (y2 : Lay) (v2 : Dy) (σ2 : HS) (Xs : List (Addr × Obj)) : Prop where
  s : LS w nw tb tcl k tcs y1 v1 σ1 y2 v2 σ2
  x : ∀ p ∈ Xs, LX nw tb y1 v1 σ1 y2 v2 σ2 p.1 p.2
section
variable {w : World} {nw nw' Xs : List (Addr × Obj)} {tb tcl L' : Addr} {k k' : Nat} {tcs : List Nat} {y1 y2 : Lay} {v1 v1' v2 v2' : Dy} {σ1 σ1' σ2 σ2' : HS} {h₀ h : Heap}
theorem LZ.sub (S : LZ w nw tb tcl k tcs y1 v1 σ1 y2 v2 σ2 Xs) (h : ∀ p ∈ nw, p ∈ nw') : LZ w nw' tb tcl k tcs y1 v1 σ1 y2 v2 σ2 Xs := ⟨S.s.sub h, fun p hp => (S.x p hp).sub h⟩
theorem LZ.op1 (S : LZ w nw tb tcl k tcs y1 v1 σ1 y2 v2 σ2 Xs) (H : HRep w nw' y1 v1' σ1') (K : Kept y1 v1 σ1 v1' σ1' nw nw') (st : TupStay nw nw') : LZ w nw' tb tcl k tcs y1 v1' σ1' y2 v2 σ2 Xs := ⟨S.s.op1 H K st, fun p hp => (S.x p hp).op1 K⟩
theorem LZ.op2 (S : LZ w nw tb tcl k tcs y1 v1 σ1 y2 v2 σ2 Xs) (H : HRep w nw' y2 v2' σ2') (K : Kept y2 v2 σ2 v2' σ2' nw nw') (st : TupStay nw nw') : LZ w nw' tb tcl k tcs y1 v1 σ1 y2 v2' σ2' Xs := ⟨S.s.op2 H K st, fun p hp => (S.x p hp).op2 K⟩
theorem LZ.tap (S : LZ w nw tb tcl k tcs y1 v1 σ1 y2 v2 σ2 Xs) (T : Tube w nw' tb tcl k' tcs) (hk : ∀ p ∈ nw, p.1 ≠ tb → p ∈ nw') (st : TupStay nw nw') : LZ w nw' tb tcl k' tcs y1 v1 σ1 y2 v2 σ2 Xs := ⟨S.s.tap T hk st, fun p hp => (S.x p hp).tap hk⟩
theorem LZ.push {I : Addr} {oI : Obj} (S : LZ w nw tb tcl k tcs y1 v1 σ1 y2 v2 σ2 Xs) (off : ∀ p ∈ nw, p.1 ≠ I) : LZ w ((I, oI) :: nw) tb tcl k tcs y1 v1 σ1 y2 v2 σ2 ((I, oI) :: Xs) := by
  have of := S.s.offs off
  have S' := S.sub (nw' := (I, oI) :: nw) fun p hp => .tail _ hp
  refine ⟨S'.s, fun p hp => ?_⟩
  rcases List.mem_cons.mp hp with rfl | hp
  · exact ⟨.head _, of.2.2.1, of.2.2.2, of.1.symm⟩
  · exact S'.x p hp
theorem LZ.pop {I : Addr} {oI : Obj} (S : LZ w nw tb tcl k tcs y1 v1 σ1 y2 v2 σ2 ((I, oI) :: Xs)) (N : News h₀ L' h nw) (hc : oI.cls ≠ .type "tuple") (i0 : tcl ≠ I) (iX : ∀ p ∈ Xs, p.1 ≠ I) : LZ w (offI I nw) tb tcl k tcs y1 v1 σ1 y2 v2 σ2 Xs := by
  have x0 := S.x _ (.head _)
  exact ⟨S.s.off N x0.m hc x0.nt.symm i0 x0.n1 x0.n2, fun p hp => { S.x p (.tail _ hp) with m := mem_offI.mpr ⟨(S.x p (.tail _ hp)).m, iX p hp⟩ }⟩
end
open Classical in
theorem lm_start {w : World} {nw0 nwM nwF Xs : List (Addr × Obj)} {tb tcl rA tA fD c1 c2 : Addr} {k n1 n2 : Nat} {tcs : List Nat} {M : ML} {v v1 v2 : Dy} {σ1 σ2 : HS} {o1 o2 o1' o2' : Obj} {z1 z2 : Option Value} {h₀ h : Heap} {L : Addr}
    (S : LZ w nw0 tb tcl k tcs M.y1 v1 σ1 M.y2 v2 σ2 Xs) (x1 : (c1, o1) ∈ Xs) (x2 : (c2, o2) ∈ Xs) (hc : c1 ≠ c2) (d1 : o1.data = .cell z1) (d2 : o2.data = .cell z2) (N : News h₀ L h nwM) (R : MRep w nwM M v emptyS []) (sM : ∀ p ∈ nw0, p ∈ nwM) (nM : ∀ p ∈ nw0, ¬ M.y.own v emptyS p.1) (dN : ∀ p ∈ nw0, p.1 ≠ M.nu) (eN : ∀ p ∈ nw0, p.1 ≠ M.mI) (fN : ∀ p ∈ nw0, p.1 ≠ M.mD)
    (lr : ∀ p ∈ nwM, p.1 < rA) (lt : ∀ p ∈ nwM, p.1 < tA) (lf : ∀ p ∈ nwM, p.1 < fD) (q1 : rA ≠ tA) (q2 : rA ≠ fD) (q3 : tA ≠ fD) (keep : ∀ p ∈ nwM, p.1 ≠ c1 → p.1 ≠ c2 → p ∈ nwF) (f1 : (c1, o1') ∈ nwF) (f2 : (c2, o2') ∈ nwF) (r : (rA, W.listOf (List.toArray []) n1) ∈ nwF) (t : (tA, W.listOf (List.toArray []) n2) ∈ nwF) (f : PD w nwF fD []) :
    LM w nwF ⟨tb, tcl, fD, rA, tA, tcs, M, v1, v2, σ1, σ2⟩ k v emptyS [] [] [] [] [(c1, o1'), (c2, o2')] := by
  have X1 : LX nw0 tb M.y1 v1 σ1 M.y2 v2 σ2 c1 o1 := S.x _ x1
  have X2 : LX nw0 tb M.y1 v1 σ1 M.y2 v2 σ2 c2 o2 := S.x _ x2
  refine byC fun U0 => ?_
  obtain ⟨⟨ot, ht⟩, ⟨oc, hcl⟩⟩ := S.s.t.both
  refine U0 ?_
  clear U0
  have m1 := sM _ X1.m
  have m2 := sM _ X2.m
  have tc : ∀ {c : Addr} {o : Obj} {z : Option Value}, (c, o) ∈ nwM → o.data = .cell z → tcl ≠ c := fun {c o z} hm hd e => by
    refine byC fun U0 => ?_
    obtain ⟨vs, n, hl, _⟩ := S.s.t.c
    subst e
    refine U0 ?_
    clear U0
    rw [news_fn N hm (sM _ hl)] at hd
    cases hd
  have tt : tcl ≠ tb := fun e => by
    refine byC fun U0 => ?_
    obtain ⟨vs, n, hl, _⟩ := S.s.t.c
    obtain ⟨_, D⟩ := S.s.t.d
    obtain ⟨o, ho, hcc⟩ := D.obj
    subst e
    refine U0 ?_
    clear U0
    rw [news_fn N (sM _ ho) (sM _ hl)] at hcc
    simp at hcc
  have mm : M.mI ≠ M.mD := fun e => by
    have i1 := R.i1
    rw [e] at i1
    have := news_fn N i1 R.i2
    simp at this
  have l0 : ∀ {a : Nat}, (∃ o, ((a : Addr), o) ∈ nw0) → a ≠ rA ∧ a ≠ tA ∧ a ≠ fD := fun {a} ⟨o, ho⟩ => ⟨Nat.ne_of_lt (lr _ (sM _ ho)), Nat.ne_of_lt (lt _ (sM _ ho)), Nat.ne_of_lt (lf _ (sM _ ho))⟩
  have lM : ∀ {a : Nat}, (∃ o, ((a : Addr), o) ∈ nwM) → a ≠ rA ∧ a ≠ tA ∧ a ≠ fD := fun {a} ⟨o, ho⟩ => ⟨Nat.ne_of_lt (lr _ ho), Nat.ne_of_lt (lt _ ho), Nat.ne_of_lt (lf _ ho)⟩
  have st : TupStay nwM nwF := fun a vs hm => keep _ hm (fun e => by
    dsimp only at e; subst e
    rw [news_fn N m1 hm] at d1; cases d1) fun e => by
    dsimp only at e; subst e
    rw [news_fn N m2 hm] at d2; cases d2
  have k0 : ∀ {a : Nat} {o : Obj}, ((a : Addr), o) ∈ nw0 → a ≠ c1 → a ≠ c2 → ((a : Addr), o) ∈ nwF := fun hm h1 h2 => keep _ (sM _ hm) h1 h2
  have st0 : TupStay nw0 nwF := fun a vs hm => st a vs (sM _ hm)
  have nM' : ∀ {a : Nat}, M.y.own v emptyS a → ¬ ∃ o, ((a : Addr), o) ∈ nw0 := fun q ⟨o, ho⟩ => nM _ ho q
  let col : Nat → Nat := fun x => if ∃ o, ((x : Addr), o) ∈ nw0 then (if x = tb then 1 else if x = tcl then 2 else if M.y1.own v1 σ1 x then 3 else if M.y2.own v2 σ2 x then 4 else if x = c1 then 21 else if x = c2 then 20 else 0)
    else (if M.y.own v emptyS x then 5 else if x = M.mI then 6 else if x = M.mD then 7 else if x = M.nu then 8 else if x = fD then 9 else if x = rA then 10 else if x = tA then 11 else 0)
  have cIn : ∀ {x : Nat}, (∃ o, ((x : Addr), o) ∈ nw0) → col x = (if x = tb then 1 else if x = tcl then 2 else if M.y1.own v1 σ1 x then 3 else if M.y2.own v2 σ2 x then 4 else if x = c1 then 21 else if x = c2 then 20 else 0) := fun h => if_pos h
  have cOut : ∀ {x : Nat}, (¬ ∃ o, ((x : Addr), o) ∈ nw0) → col x = (if M.y.own v emptyS x then 5 else if x = M.mI then 6 else if x = M.mD then 7 else if x = M.nu then 8 else if x = fD then 9 else if x = rA then 10 else if x = tA then 11 else 0) := fun h => if_neg h
  have nf : ∀ {a : Nat}, (¬ (a ≠ rA ∧ a ≠ tA ∧ a ≠ fD)) → (¬ ∃ o, ((a : Addr), o) ∈ nw0) ∧ ¬ M.y.own v emptyS a ∧ a ≠ M.mI ∧ a ≠ M.mD ∧ a ≠ M.nu := fun {a} h => ⟨fun q => h (l0 q), fun q => h (lM (let ⟨o, ho, _⟩ := own_obj R.h q; ⟨o, ho⟩)), fun e => h (e ▸ lM ⟨_, R.i1⟩), fun e => h (e ▸ lM ⟨_, R.i2⟩), fun e => h (by
    refine byC fun U0 => ?_
    obtain ⟨o, ho, _⟩ := pd_obj R.nu
    refine U0 ?_
    clear U0
    exact e ▸ lM ⟨o, ho⟩)⟩
  have gR := nf (a := rA) (by simp)
  have gT := nf (a := tA) (by simp)
  have gF := nf (a := fD) (by simp)
  refine byC fun U0 => ?_
  obtain ⟨on, hn, _⟩ := pd_obj R.nu
  refine U0 ?_
  clear U0
  refine ⟨S.s.t.move (fun o hm => k0 hm X1.nt.symm X2.nt.symm) (fun o hm => k0 hm (tc m1 d1) (tc m2 d2)), S.s.h1.move st0 fun a ha o hm => k0 hm (fun e => X1.n1 (e ▸ ha)) fun e => X2.n1 (e ▸ ha), S.s.h2.move st0 fun a ha o hm => k0 hm (fun e => X1.n2 (e ▸ ha)) fun e => X2.n2 (e ▸ ha),
    R.go st (fun o hm => keep _ hm (eN _ X1.m).symm (eN _ X2.m).symm) (fun o hm => keep _ hm (fN _ X1.m).symm (fN _ X2.m).symm) (fun o hm => keep _ hm (dN _ X1.m).symm (dN _ X2.m).symm) (fun a ha o hm => keep _ hm (fun e => nM _ X1.m (e ▸ ha)) fun e => nM _ X2.m (e ▸ ha)), f, ⟨_, _, r, .nil⟩, ⟨_, _, t, .nil⟩, col,
    ⟨?_, ?_, fun x hx => ?_, fun x hx => ?_, fun x hx => ?_, ?_, ?_, ?_, ?_, ?_, ?_⟩, f1, ?_, f2, ?_, trivial⟩
  · exact (cIn ⟨_, ht⟩).trans (if_pos rfl)
  · exact (cIn ⟨_, hcl⟩).trans ((if_neg tt).trans (if_pos rfl))
  · refine byC fun U0 => ?_
    obtain ⟨o, ho, _⟩ := own_obj S.s.h1 hx
    refine U0 ?_
    clear U0
    exact (cIn ⟨_, ho⟩).trans ((if_neg fun e : x = tb => S.s.n1.1 (e ▸ hx)).trans ((if_neg fun e : x = tcl => S.s.n1.2 (e ▸ hx)).trans (if_pos hx)))
  · refine byC fun U0 => ?_
    obtain ⟨o, ho, _⟩ := own_obj S.s.h2 hx
    refine U0 ?_
    clear U0
    exact (cIn ⟨_, ho⟩).trans ((if_neg fun e : x = tb => S.s.n2.1 (e ▸ hx)).trans ((if_neg fun e : x = tcl => S.s.n2.2 (e ▸ hx)).trans ((if_neg fun q => S.s.dj _ q hx).trans (if_pos hx))))
  · exact (cOut (nM' hx)).trans (if_pos hx)
  · exact (cOut fun ⟨o, ho⟩ => eN _ ho rfl).trans ((if_neg R.a1).trans (if_pos rfl))
  · exact (cOut fun ⟨o, ho⟩ => fN _ ho rfl).trans ((if_neg R.a2).trans ((if_neg mm.symm).trans (if_pos rfl)))
  · exact (cOut fun ⟨o, ho⟩ => dN _ ho rfl).trans ((if_neg R.a3).trans ((if_neg R.a4.symm).trans ((if_neg R.a5.symm).trans (if_pos rfl))))
  · exact (cOut gF.1).trans ((if_neg gF.2.1).trans ((if_neg gF.2.2.1).trans ((if_neg gF.2.2.2.1).trans ((if_neg gF.2.2.2.2).trans (if_pos rfl)))))
  · exact (cOut gR.1).trans ((if_neg gR.2.1).trans ((if_neg gR.2.2.1).trans ((if_neg gR.2.2.2.1).trans ((if_neg gR.2.2.2.2).trans ((if_neg q2).trans (if_pos rfl))))))
  · exact (cOut gT.1).trans ((if_neg gT.2.1).trans ((if_neg gT.2.2.1).trans ((if_neg gT.2.2.2.1).trans ((if_neg gT.2.2.2.2).trans ((if_neg q3).trans ((if_neg q1.symm).trans (if_pos rfl)))))))
  · exact (cIn ⟨_, X1.m⟩).trans ((if_neg X1.nt).trans ((if_neg (tc m1 d1).symm).trans ((if_neg X1.n1).trans ((if_neg X1.n2).trans (if_pos rfl)))))
  · exact (cIn ⟨_, X2.m⟩).trans ((if_neg X2.nt).trans ((if_neg (tc m2 d2).symm).trans ((if_neg X2.n1).trans ((if_neg X2.n2).trans ((if_neg hc.symm).trans (if_pos rfl))))))
end Mine
end

open PySem PySem.W PySem.Calls PyProof.Rows PySem.Spec
namespace Mine
section
set_option maxHeartbeats 20000000
example : True := by
  (k_with "room" => first | (first | (first | lia | omega) | ((try simp only [depth_deeper, units_deeper, depth_in1, units_in1, depth_caller, Around.mark_units]); first | (first | lia | omega) | decide | (dsimp only [ktrTop, callerA]; first | (first | lia | omega) | decide))) | fail)
  (k_with "hr" => first | ((intro zk h2k h3k; (simp only [List.contains_cons, List.contains_nil, Bool.or_false, Bool.or_eq_false_iff, beq_eq_false_iff_ne, ne_eq] at h3k); (try simp only [List.forall_mem_cons, List.not_mem_nil, false_implies, implies_true, and_true, ne_eq] at h2k); (simp only [h2k, h3k, if_false, List.contains_cons, List.contains_nil, Bool.or_false, Bool.or_eq_true, beq_iff_eq, or_self, false_or, or_false]))) | fail)
  (k_with "lmf" => first | (((rename LM _ _ _ _ _ _ _ _ _ _ _ => lS9k); have hA9k := LM.h1 lS9k; have hB9k := LM.h2 lS9k; have hC9k := LM.m lS9k; (try have xA9k := LM.x1 lS9k); (try have xB9k := LM.x2 lS9k); (try have xC9k := LM.x3 lS9k); (try have xD9k := LM.x4 lS9k))) | fail)
  (k_with "ccall|L" => first | (((k_here; (with_reducible refine (?_ : wpAny _ _ (call (Value.ref 444) _) _ _ _)); refine wpAny_noRaise ?_; (rename LM _ _ _ _ _ _ _ _ _ _ _ => lS9k); k_dflt (refine' tap_c ?BKK ?FKK ?XKK ?NKK ?TKK ?hkKK ?hdKK ?huKK ?T0KK ?hzKK ?haKK ?hmKK ?_; (case BKK => k_asm); (case FKK => k_asm); (case XKK => k_asm); (case NKK => k_asm); (case TKK => k_asm); (case hkKK => first | assumption | exact rfl); (case hdKK => k_extra "room"); (case huKK => k_extra "room"); (case T0KK => exact Tube.sub (LM.t lS9k) (by intro p9k hp9k; k_extra "insub")); (case hzKK => assumption); (case haKK => (first | lia | omega)); (case hmKK => decide)); intro r9k lt9k t9k h9k tk9k nw9k F9k N9k T9k k9k a9k st9k; replace lS9k := LM.tap (LM.sub lS9k (by intro p9k hp9k; k_extra "insub")) T9k k9k st9k; k_extra "lmf"; (try dsimp only); (try k_sweep)); k_extra "hs")) | fail)
  (k_with "ccall|L" => first | (((k_here; (with_reducible refine (?_ : wpAny _ _ (call (Value.type "list") [Value.ref (LG.fD _)]) _ _ _)); k_dflt (refine' pd_list ?hhKK ?FKK ?NKK ?PKK ?hzKK ?_; (case hhKK => exact rfl); (case FKK => k_asm); (case NKK => k_asm); (case PKK => exact LM.f (LM.sub (by assumption) (by intro p9k hp9k; k_extra "insub"))); (case hzKK => (first | lia | omega))); intro D9k c9k h9k tk9k vs9k F9k N9k l9k K9k; (try dsimp only)); k_extra "hs")) | fail)
  (k_with "ccall|L" => first | (((k_here; (with_reducible refine (?_ : wpAny _ _ (call (Value.ref 454) _) _ _ _)); refine wpAny_noRaise ?_; (rename LM _ _ _ _ _ _ _ _ _ _ _ => lS9k); k_dflt (refine' pair_c ?BKK ?FKK ?XKK ?NKK ?TKK ?hkKK ?hdKK ?huKK ?T0KK ?hzKK ?haKK ?H1KK ?H2KK ?nt1KK ?nt2KK ?hp1KK ?hp2KK ?hl1KK ?hl2KK ?hhpKK ?hknKK ?hvsKK ?hkzKK ?hktKK ?_; (case BKK => k_asm); (case FKK => k_asm); (case XKK => k_asm); (case NKK => k_asm); (case TKK => k_asm); (case hkKK => first | assumption | exact rfl); (case hdKK => k_extra "room"); (case huKK => k_extra "room"); (case T0KK => exact Tube.sub (LM.t lS9k) (by intro p9k hp9k; k_extra "insub")); (case hzKK => assumption); (case haKK => (first | lia | omega)); (case H1KK => exact HRep.sub (LM.h1 lS9k) (by intro p9k hp9k; k_extra "insub")); (case H2KK => exact HRep.sub (LM.h2 lS9k) (by intro p9k hp9k; k_extra "insub")); (case nt1KK => exact LM.nt1 lS9k); (case nt2KK => exact LM.nt2 lS9k); (case hp1KK => assumption); (case hp2KK => assumption); (case hl1KK => assumption); (case hl2KK => assumption); (case hhpKK => k_mem); (case hknKK => exact mem_hd); (case hvsKK => (refine' KInAll.move ?_ (by assumption); k_extra "stay")); (case hkzKK => (rw [List.length_map]; (first | lia | omega))); (case hktKK => exact LM.tne lS9k (by assumption) (by intro p9k hp9k; k_extra "insub"))); intro pd9k q9k h9k tk9k nw9k Kp9k F9k N9k T9k k9k a9k st9k; replace lS9k := LM.tap (LM.sub lS9k (by intro p9k hp9k; k_extra "insub")) T9k k9k st9k; k_extra "lmf"; (try dsimp only); (try k_sweep)); k_extra "hs")) | fail)
  (k_with "isl" => first | (first | exact ⟨_, _, by k_mem⟩ | fail) | fail)
  (k_with "kgetMethod|L" => first | (((with_reducible refine (?_ : wpAny _ _ (getMethod (Value.ref _) _ _) _ _ _)); (k_here; (with_reducible refine (?_ : wpAny _ _ (getMethod (Value.ref (LG.fD _)) (PySem.Str.ofString "get") _) _ _ _)); k_dflt (refine' pd_method ?NKK ?PKK PySem.F.slot_dict_get PySem.F.type_dict_get ?_; (case NKK => k_asm); (case PKK => exact LM.f (LM.sub (by assumption) (by intro p9k hp9k; k_extra "insub"))))))) | fail)
  (k_with "kgetMethod|L" => first | (((with_reducible refine (?_ : wpAny _ _ (getMethod (Value.ref _) _ _) _ _ _)); (k_here; (with_reducible refine (?_ : wpAny _ _ (getMethod (Value.ref (LG.fD _)) (PySem.Str.ofString "setdefault") _) _ _ _)); k_dflt (refine' pd_method ?NKK ?PKK PySem.F.slot_dict_setdefault PySem.F.type_dict_setdefault ?_; (case NKK => k_asm); (case PKK => exact LM.f (LM.sub (by assumption) (by intro p9k hp9k; k_extra "insub"))))))) | fail)
  (k_with "ccall|L" => first | ((k_here; (with_reducible refine (?_ : wpAny _ _ (call (Value.builtin "dict.get") [Value.ref (LG.fD _), Value.ref _, Value.int _ _]) _ _ _)); k_dflt (refine' pd_get ?NKK ?PKK ?kKK ?uKK ?_ ?_; (case NKK => k_asm); (case PKK => exact LM.f (LM.sub (by assumption) (by intro p9k hp9k; k_extra "insub"))); (case kKK => k_extra "kin"); (case uKK => k_extra "unit")); all_goals (first | (intro (g9k : _ = _) tk9k) | (intro n9k g9k t9k tk9k)); all_goals (try dsimp only))) | fail)
  trivial
example : True := by
  (k_with "hs" => first | (skip) | fail)
  (k_with "c|Lu" => first | (first | (k_extra "?eval"; first | k_extra "keval|2") | (k_extra "?execs"; first | k_extra "kexecs|2") | (k_extra "?call"; first | k_extra "ccall|L" | k_extra "kcall|2") | (k_extra "?getMethod"; first | k_extra "kgetMethod|L" | k_extra "kgetMethod|2") | (k_extra "?getAttr"; first | k_extra "kgetAttr|2") | (k_extra "?callWith"; first | k_extra "kcallWith|2") | (k_extra "?subscriptTail"; first | k_extra "ksubscriptTail|M" | k_extra "ksubscriptTail|2") | (k_extra "?exec"; first | k_extra "cexec|D" | k_extra "kexec|D" | k_extra "kexec|2") | (k_extra "?newTuple"; first | k_extra "knewTuple|2") | (k_extra "?newList"; first | k_extra "knewList|2") | (k_extra "?binaryOp"; first | k_extra "kbinaryOp|2") | (k_extra "?setItem"; first | k_extra "ksetItem|2") | (k_extra "?compareOp"; first | k_extra "kcompareOp|M") | k_extra "And|2") | fail)
  (k_with "step|Lu" => first | (first | k_extra "c|Lu" | ((fail_if_success (with_reducible show wpAny _ _ (call (Value.ref _) _) _ _ _)); (fail_if_success (with_reducible show wpAny _ _ (pyIter (Value.ref _)) _ _ _)); (fail_if_success (with_reducible show wpAny _ _ (call (Value.builtin "sorted") _) _ _ _)); (fail_if_success (with_reducible show KswEnd _ _ _ _ _ _ _ _ _ _ _ _)); walk1) | (k_here; k_dflt k_extra "walkin")) | fail)
  (k_with "go|Lu" => first | (repeat' k_extra "step|Lu") | fail)
  (k_with "goT|Lu" => first | (repeat' ((fail_if_success (with_reducible show wpAny _ _ (eval (Expr.IfExp _ _ _ _) _) _ _ _)); (fail_if_success (with_reducible show wpAny _ _ (pyIter _) _ _ _)); (fail_if_success (with_reducible show wpAny _ _ (eval (Expr.Subscript _ _ _) _) _ _ _)); (fail_if_success (with_reducible show wpAny _ _ (call (Value.builtin "list.append") _) _ _ _)); (fail_if_success (with_reducible show wpAny _ _ (call (Value.builtin "dict.setdefault") _) _ _ _)); (fail_if_success (with_reducible show wpAny _ _ (eval (Expr.BoolOp _ _ _) _) _ _ _)); (fail_if_success (with_reducible show wpAny _ _ (call (Value.ref 423) _) _ _ _)); k_extra "step|Lu")) | fail)
  trivial
example : True := by
  (k_with "goW|Lu" => first | (repeat' ((fail_if_success (with_reducible show wpAny _ _ (compareOp CmpOp.NotIn _ _) _ _ _)); (fail_if_success (with_reducible show wpAny _ _ (call (Value.builtin "list.append") _) _ _ _)); (fail_if_success (with_reducible show wpAny _ _ (call (Value.builtin "dict.setdefault") _) _ _ _)); (fail_if_success (with_reducible show wpAny _ _ (call (Value.ref 423) _) _ _ _)); k_extra "step|Lu")) | fail)
  (k_with "goU|Lu" => first | (repeat' ((fail_if_success (with_reducible show wpAny _ _ (compareOp CmpOp.NotIn _ _) _ _ _)); (fail_if_success (with_reducible show wpAny _ _ (eval (Expr.BoolOp _ _ _) _) _ _ _)); (fail_if_success (with_reducible show wpAny _ _ (call (Value.builtin "list.append") _) _ _ _)); (fail_if_success (with_reducible show wpAny _ _ (call (Value.builtin "dict.setdefault") _) _ _ _)); (fail_if_success (with_reducible show wpAny _ _ (call (Value.ref 423) _) _ _ _)); k_extra "step|Lu")) | fail)
  (k_with "len" => first | (first | assumption | fail) | fail)
  trivial

variable {w : World} {A₀ : Around} {base h₀ : Heap} {L fa : Addr} {ccd : Value} {m mg mb : Str → Option Value} {mean : ExcName → Option Value} {nw : List (Addr × Obj)} {s : Shared} {Q : Flow → Shared → Prop}
noncomputable abbrev tailV (G : LG) (wd : Nat) (tw : Tok) (pd Dk : Addr) : List (Str × Value) := [(Str.ofString "one", .ref G.M.y1.hI), (Str.ofString "other", .ref G.M.y2.hI), (Str.ofString "tube", .ref G.tb), (Str.ofString "rows", .ref G.rA), (Str.ofString "told", .ref G.tA), (Str.ofString "wide", .int (wd : Nat) tw), (Str.ofString "pair", .ref pd), (Str.ofString "kids", .ref Dk)]
example : True := by
  (k_with "hu" => first | ((refine over3 ?_; k_extra "over")) | fail)
  trivial

noncomputable abbrev kdat (ps : List ((Nat × Nat) × Nat)) (q : Nat × Nat) : Dat := .int (((pget ps q).map Int.ofNat).getD (-1))
section
variable {ps : List ((Nat × Nat) × Nat)} {ks : List (Nat × Nat)}
theorem kdat_neg (h : Dat.int (-1) ∉ ks.map (kdat ps)) : ∀ k ∈ ks, pget ps k ≠ none := fun k hk e => h (List.mem_map.mpr ⟨k, hk, by simp [kdat, e]⟩)
theorem kdat_pos (h : Dat.int (-1) ∈ ks.map (kdat ps)) : ∃ k ∈ ks, pget ps k = none := by
  refine byC fun U0 => ?_
  obtain ⟨k, hk, e⟩ := List.mem_map.mp h
  refine U0 ?_
  clear U0
  refine ⟨k, hk, ?_⟩
  cases q : pget ps k with
  | none => rfl
  | some n =>
    rw [kdat, q] at e
    injection e with e
    have e : ((n : Nat) : Int) = -1 := e
    lia
theorem kdat_all (h : ∀ k ∈ ks, pget ps k ≠ none) : ks.map (kdat ps) = (numsOf ps ks).map datI := by
  unfold numsOf
  rw [List.map_map]
  refine List.map_congr_left fun k hk => ?_
  obtain ⟨n, e⟩ := Option.ne_none_iff_exists'.mp (h k hk)
  simp [kdat, e]
theorem rdat_mem {r : Row} {rows : List Row} (h : rdat r ∈ rows.map rdat) : r ∈ rows := by
  refine byC fun U0 => ?_
  obtain ⟨x, hx, e⟩ := List.mem_map.mp h
  refine U0 ?_
  clear U0
  exact rdat_inj e ▸ hx
end
theorem name_fr {h₀ h : Heap} {L : Addr} {m : Str → Option Value} (_F : Fr h₀ L h m) : ∃ x, x = m := ⟨_, rfl⟩
theorem name_one {h₀ h : Heap} {L a : Addr} {o : Obj} {nw : List (Addr × Obj)} (_N : News h₀ L h ((a, o) :: nw)) : ∃ x, x = a := ⟨_, rfl⟩
theorem name_three {h₀ h : Heap} {L a b : Addr} {o o' : Obj} {nw : List (Addr × Obj)} (_N : News h₀ L h ((a, o) :: (b, o') :: nw)) : (∃ x, x = a) ∧ ∃ x, x = b := ⟨⟨_, rfl⟩, ⟨_, rfl⟩⟩
theorem item_ok {r : Nat} (h : r < 2) : OpOk (Txt.item (Str.ofString "ab") (r : Nat)) ∧ OpOk (Txt.item (Str.ofString "fh") (r : Nat)) ∧ OpOk (Txt.item (Str.ofString "gk") (r : Nat)) := by
  have e : r = 0 ∨ r = 1 := by lia
  rcases e with rfl | rfl
  · exact ⟨opOk_of (by decide +kernel), opOk_of (by decide +kernel), opOk_of (by decide +kernel)⟩
  · exact ⟨opOk_of (by decide +kernel), opOk_of (by decide +kernel), opOk_of (by decide +kernel)⟩
theorem law_u {G : LG} {i k k0 wd : Nat} {tw : Tok} {v : Dy} {σ : HS} {ps : List ((Nat × Nat) × Nat)} {rows : List Row} {told : List (Nat × Nat)} {I pd Dk : Addr} {oI oM oF : Obj} {us : List Value} {un : Nat} {pr : Nat × Nat} {ks : List (Nat × Nat)}
    (B : Below A₀ base [] h₀) (F : Fr h₀ L s.heap (kstB m (tailV G wd tw pd Dk))) (X : (Mine.hd.heap_1 w.params).In h₀) (N : News h₀ L s.heap nw) (T : Top Mine.hd.view_1 (looseW Mine.hd.view_1 []) mean mg mb h₀)
    (S : LM w nw G k v σ ps ps rows told [(Dk, W.listOf us.toArray un), (I, oI), (L + 1, oM), (L + 2, oF)]) (J : LI i σ ps rows told k0) (hz : G.tcs.length ≤ 1000) (hi : i < 10) (hk : k ≤ 20 + 11 * i) (hwd : wd < 3) (KP : KIn nw 7 (.ref pd) (pdat pr)) (Kus : KInAll nw 7 us (ks.map pdat)) (hks : ks.length = wd) (dM : oM.data = .cell (some (.ref G.M.mI))) (dF : oF.data = .cell (some (.ref G.fD)))
    (ret : ∀ h' tk' m' nw' v' σ' ps' rows' told' k', Fr h₀ L h' m' → (∀ z, z ≠ Str.ofString "op" → z ≠ Str.ofString "row" → z ≠ Str.ofString "is_due" → m' z = kstB m (tailV G wd tw pd Dk) z) → News h₀ L h' nw' → LM w nw' G k' v' σ' ps' ps' rows' told' [(I, oI), (L + 1, oM), (L + 2, oF)] → LI (i + 1) σ' ps' rows' told' k' → Q .next { s with heap := h', toks := tk' }) :
    wpAny (model prog w) (ktrTop 302 7 (some []) (Str.ofString "law") lawS L fa ccd (cellsFrom (L + 1) lawS.names []) []) (execs (lapB.drop 3) (envOfC (Str.ofString "law") lawS L fa ccd)) Q (fun _ _ => False) s := by
  with_unfolding_all refine (?_ : wpAny (model prog w) (ktrTop _ _ _ _ ⟨_, _, _, _, _⟩ _ _ _ (cellsFrom _ (_ :: _) _) _) (execs [_, _, _, _, _] (envOfC _ ⟨_, _, _, _, _⟩ _ _ _)) _ _ _)
  refine hideA ?_
  intro Ak
  have hAu : Ak.units = 7 := rfl
  have hAd : Ak.depth = 302 := rfl
  have hk0 := J.k
  have hpz := J.pz
  have hA9 := S.h1
  have hB9 := S.h2
  have hC9 := S.m
  have xA9 := S.x2
  have xB9 := S.x3
  k_extra "goT|Lu"
  refine wpAny_mono (Q := CutP w h₀ L (kstB m (tailV G wd tw pd Dk)) G v σ ps ps rows told [(Dk, W.listOf us.toArray un), (I, oI), (L + 1, oM), (L + 2, oF)] s fun x k' nw' => ∃ (op : Str) (t : Tok), x = .str op t ∧ OpOk op ∧ k' ≤ k + 1 ∧ KIn nw' 7 (.ref pd) (pdat pr) ∧ KInAll nw' 7 us (ks.map pdat)) (E := fun _ _ => False) ?_ ?_ (fun _ _ e => e)
  · obtain e | e | e : wd = 0 ∨ wd = 1 ∨ wd = 2 := by lia
    all_goals subst e
    all_goals k_extra "go|Lu"
    all_goals (have st0 : TupStay nw _ := TupStay.trans (fun a9 b9 c9 => mem_tl c9) (by assumption))
    · exact CutP.intro (by assumption) (by assumption) (by assumption) ⟨_, _, rfl, (item_ok (by assumption)).1, by lia, KP.move st0, Kus.move st0⟩
    · exact CutP.intro (by assumption) (by assumption) (by assumption) ⟨_, _, rfl, (item_ok (by assumption)).2.1, by lia, KP.move st0, Kus.move st0⟩
    · exact CutP.intro (by assumption) (by assumption) (by assumption) ⟨_, _, rfl, (item_ok (by assumption)).2.2, by lia, KP.move st0, Kus.move st0⟩
  intro x s' P1
  refine byC fun U0 => ?_
  obtain ⟨h1, tk1, nw1, k1, rfl, F1, N1, S1, op, t, rfl, hop, hk1, KP1, Kus1⟩ := P1
  refine U0 ?_
  clear U0
  clear S hA9 hB9 hC9 xA9 xB9 N F KP Kus
  have xE9 := S1.x0
  k_extra "lmf"
  k_extra "goT|Lu"
  refine compPure (fun i y => ∃ (z : Int) (t : Tok), ((ks.map fun q => ((pget ps q).map Int.ofNat).getD (-1))[i]? = some z) ∧ y = .int z t) rfl (by assumption) (by assumption) (.list xE9) (by have := kinAll_len Kus1; rw [List.length_map] at this; lia) ?_ ?_
  · intro i' v1 J' C oC m₂ h9 tk9 hv hJ hC hx F9 N9
    have hul := kinAll_len Kus1
    rw [List.length_map] at hul
    have hki : i' < ks.length := by have := lt_get hv; lia
    refine byC fun U0 => ?_
    obtain ⟨v2, ev2, kv⟩ := kinAll_get Kus1 i' (pdat ks[i']) (by simp [hki])
    refine U0 ?_
    clear U0
    rw [hv] at ev2
    cases ev2
    refine byC fun U0 => ?_
    obtain ⟨ka, rfl⟩ := kin_ref kv
    refine U0 ?_
    clear U0
    k_extra "go|Lu"
    all_goals rename pget ps _ = _ => eg
    all_goals exact PEnd.intro (by assumption) (by assumption) ⟨_, _, by simp only [List.getElem?_map, List.getElem?_eq_getElem hki, Option.map_some, eg]; rfl, rfl⟩
  intro D2 ys2 h9 tk9 hl2 hy2 F9 N9 hD2
  have hul := kinAll_len Kus1
  rw [List.length_map] at hul
  have hyl : ys2.length = ks.length := by lia
  have ky : ∀ nwX n, KInAll nwX n ys2 (ks.map (kdat ps)) := fun nwX n => kinAll_of (by rw [List.length_map]; exact hyl) fun i y hi => by
    refine byC fun U0 => ?_
    obtain ⟨z, t, e1, rfl⟩ := hy2 i y hi
    refine U0 ?_
    clear U0
    refine ⟨.int z, ?_, .int _ _⟩
    rw [List.getElem?_map] at e1 ⊢
    refine byC fun U0 => ?_
    obtain ⟨q, hq, rfl⟩ := Option.map_eq_some_iff.mp e1
    refine U0 ?_
    clear U0
    rw [hq]; rfl
  clear hy2
  have hy16 : ys2.length ≤ 16384 := by lia
  k_extra "goU|Lu"
  rename News h₀ L _ ((_, tupObj [Value.str _ _, Value.ref _]) :: _) => NR
  rename LM _ _ _ _ _ _ _ _ _ _ _ => SL
  refine byC fun U0 => ?_
  obtain ⟨⟨ra, e1⟩, ⟨D3, e2⟩⟩ := name_three NR
  subst e1 e2
  obtain ⟨nwR, eR⟩ := name_news NR
  have sR : ∀ p ∈ nw1, p ∈ nwR := fun p hp => by rw [eR]; exact mem_tl (mem_tl (mem_tl hp))
  have hRow : (ra, tupObj [.str op t, .ref D3]) ∈ nwR := by rw [eR]; exact mem_hd
  have hD3 : (D3, tupObj ys2) ∈ nwR := by rw [eR]; exact mem_tl mem_hd
  have SR := SL.sub sR
  have KPR := KP1.move (news' := nwR) fun a us q => sR _ q
  have KUR := Kus1.move (news' := nwR) fun a us q => sR _ q
  have kRow : KIn nwR 7 (.ref ra) (.tuple [.str op, .tuple (ks.map (kdat ps))]) := .tuple (n := 6) hRow (.cons (.str op t hop.2.2.2.2) (.cons (.tuple (n := 5) hD3 (ky _ _)) .nil))
  rw [← eR] at NR
  rename Fr h₀ L _ _ => FR
  rename HRep w nw1 G.M.y1 _ _ => hA8
  rename HRep w nw1 G.M.y2 _ _ => hB8
  rename MRep w nw1 _ _ _ _ => hC8
  rename (I, oI) ∈ nw1 => xA8
  rename (L + 1, oM) ∈ nw1 => xB8
  rename (L + 2, oF) ∈ nw1 => xC8
  clear hA8 hB8 hC8 xA8 xB8 xC8
  clear SL KP1 Kus1 xE9 hD2 sR
  obtain ⟨nd, end'⟩ : ∃ nd : Nd, nd = (op, numsOf ps ks) := ⟨_, rfl⟩
  obtain ⟨mR, em⟩ := name_fr FR
  refine U0 ?_
  clear U0
  refine wpAny_mono (Q := CutP w h₀ L mR G v σ ps ps rows told [(Dk, W.listOf us.toArray un), (I, oI), (L + 1, oM), (L + 2, oF)] s fun x k' nw' => ∃ b : Bool, x = .bool b ∧ (b = true ↔ (∀ k ∈ ks, pget ps k ≠ none) ∧ nd ∉ rows) ∧ k' = k1 ∧ nw' = nwR) (E := fun _ _ => False) ?_ ?_ (fun _ _ e => e)
  · k_extra "goW|Lu"
    refine' tup_notin ?N hD3 (ky _ _) (.int (-1) _) ?hu (fun n1 => ?_) fun n1 => ?_
    case N => k_asm
    case hu => k_extra "unit"
    · have al := kdat_neg n1
      k_extra "goW|Lu"
      rw [kdat_all al] at kRow
      refine' list_notin ?N SR.r kRow ?hu (fun n2 => ?_) fun n2 => ?_
      case N => k_asm
      case hu => k_extra "unit"
      · k_extra "go|Lu"
        exact CutP.intro (em ▸ FR) NR SR ⟨true, rfl, iff_of_true rfl ⟨al, fun q => n2 (by rw [end'] at q; exact List.mem_map_of_mem q)⟩, rfl, rfl⟩
      · k_extra "go|Lu"
        exact CutP.intro (em ▸ FR) NR SR ⟨false, rfl, iff_of_false (by decide) fun q => q.2 (by rw [end']; exact rdat_mem n2), rfl, rfl⟩
    · refine byC fun U0 => ?_
      obtain ⟨k, hk, e⟩ := kdat_pos n1
      refine U0 ?_
      clear U0
      k_extra "go|Lu"
      exact CutP.intro (em ▸ FR) NR SR ⟨false, rfl, iff_of_false (by decide) fun q => q.1 k hk e, rfl, rfl⟩
  intro x s' P2
  refine byC fun U0 => ?_
  obtain ⟨h1, tk1, nw2, k2, rfl, F1, N1, S1, b, rfl, hb, rfl, rfl⟩ := P2
  refine U0 ?_
  clear U0
  subst em
  clear NR SR FR hRow
  have xD9 := S1.x0
  have hC9 := S1.m
  have xA9 := S1.x2
  have xB9 := S1.x3
  have hu16 : us.length ≤ 16384 := by lia
  k_extra "goU|Lu"
  rename News h₀ L _ ((_, tupObj us) :: nw2) => NS
  rename Fr h₀ L _ _ => FS
  refine byC fun U0 => ?_
  obtain ⟨Dt, eD⟩ := name_one NS
  subst eD
  refine U0 ?_
  clear U0
  have S2 := S1.sub (nw' := (Dt, tupObj us) :: nw2) fun p hp => mem_tl hp
  have hsl : σ.par.length = rows.length := by rw [← J.sem.rw, J.ok.nodes]
  have hrl := J.len
  have htl := J.tl
  clear hC9 xD9 xA9 xB9 hD3 ky
  refine wpAny_noRaise ?_
  refine mput_c B FS X NS T rfl (by k_extra "room") (by k_extra "room") S2.m J.ok (by lia) (by lia) hop (KPR.move .cons) mem_hd (KUR.move .cons) (by lia) J.pb (by lia) ?r0 ?r1
  case r0 =>
    intro hc h' tk' nw' F' N' R' K' st'
    have S3 := S2.meet R' K' st'
    have hbF : b = false := by
      cases b with
      | false => rfl
      | true =>
        obtain ⟨a1, a2⟩ := hb.mp rfl
        rcases hc with ⟨k, hk, e⟩ | ⟨-, e⟩
        · exact absurd e (a1 k hk)
        · rw [J.sem.rw, ← end'] at e
          exact absurd e a2
    subst hbF
    clear NS FS S1 S2 R'
    k_extra "goU|Lu"
    exact ret _ _ _ _ _ _ _ _ _ _ (by assumption) (by k_extra "hu") (by assumption) S3.drop (J.same (by lia))
  case r1 =>
    intro hall hnew h' tk' v' nw' F' N' R' K' st'
    rw [← end'] at R' K'
    have S3 := S2.meet R' K' st'
    have hbT : b = true := hb.mpr ⟨hall, by rw [end', ← J.sem.rw]; exact hnew⟩
    refine byC fun U0 => ?_
    subst hbT
    rw [kdat_all hall] at kRow
    have kRow' : KIn nw' 7 (.ref ra) (rdat nd) := by rw [end']; exact (kRow.move .cons).move st'
    have KP3 := (KPR.move (news' := (Dt, tupObj us) :: nw2) .cons).move st'
    clear NS FS S1 S2 R' kRow
    have hC9 := S3.m
    have xA9 := S3.x2
    have xB9 := S3.x3
    obtain ⟨rvs, rn, hrA, hrv⟩ := S3.r
    refine U0 ?_
    clear U0
    k_extra "goU|Lu"
    refine lm_rows (r := nd) (by assumption) (by assumption) S3 kRow' (by lia) ?_
    intro h2 nw3 F3 N3 S4 st4
    have KP4 := KP3.move st4
    clear S3 hC9 xA9 xB9 hrA hrv KP3 kRow'
    have hC9 := S4.m
    have xA9 := S4.x2
    have xB9 := S4.x3
    refine byC fun U0 => ?_
    obtain ⟨rvs, rn, hrA, hrv⟩ := S4.r
    obtain ⟨pvs, pn, htA, htv⟩ := S4.o
    refine U0 ?_
    clear U0
    have hrvl := kinAll_len hrv
    rw [List.length_map, List.length_append, List.length_singleton] at hrvl
    have hl2 : nd.2.length ≤ 2 := by
      rw [end']
      show (List.map _ _).length ≤ 2
      rw [List.length_map]
      lia
    have hb2 : ∀ x ∈ nd.2, x < σ.par.length := fun x hx => by
      rw [end'] at hx
      refine byC fun U0 => ?_
      obtain ⟨q, hq, rfl⟩ := List.mem_map.mp hx
      obtain ⟨n, en⟩ := Option.ne_none_iff_exists'.mp (hall q hq)
      refine U0 ?_
      clear U0
      rw [en]
      exact J.pb _ (pget_mem en)
    have JP := J.put (k' := k2) (nd := nd) (pair := pr) hi (by lia) hl2 hb2
    have e9 : ((rvs.length : Nat) : Int) - 1 = (rows.length : Nat) := by lia
    k_extra "goU|Lu"
    rw [e9]
    refine' lm_firsts (p := pr) ?F ?N S4 KP4 ?hu ?z ?s1 ?s2
    case F => k_asm
    case N => k_asm
    case hu => k_extra "unit"
    case z => lia
    case s1 =>
      intro i1 ei t1 tk2
      obtain ⟨JI, e2⟩ := JP.1 i1 ei
      k_extra "goU|Lu"
      rename News h₀ L _ ((_, tupObj [_, _]) :: _) => NT
      rename Fr h₀ L _ _ => FT
      rw [e9] at NT
      refine lm_told (p := (i1, rows.length)) FT NT (S4.sub fun p hp => mem_tl hp) (kin_pair (p := (i1, rows.length)) mem_hd) (by lia) ?_
      intro h4 nw5 F5 N5 S6 st6
      rw [e2] at S6
      clear S4 hC9 xA9 xB9 hrA htA NT FT
      k_extra "goU|Lu"
      exact ret _ _ _ _ _ _ _ _ _ _ F5 (by k_extra "hu") N5 S6.drop JI
    case s2 =>
      intro en h3 nw4 tk3 F4 N4 S5 st5
      refine byC fun U0 => ?_
      obtain ⟨JI, e2⟩ := JP.2 en
      clear S4 hC9 xA9 xB9 hrA hrv htA htv hrvl e9
      have hC9 := S5.m
      have xA9 := S5.x2
      have xB9 := S5.x3
      obtain ⟨rvs, rn, hrA, hrv⟩ := S5.r
      obtain ⟨pvs, pn, htA, htv⟩ := S5.o
      refine U0 ?_
      clear U0
      have hrvl := kinAll_len hrv
      rw [List.length_map, List.length_append, List.length_singleton] at hrvl
      have e9 : ((rvs.length : Nat) : Int) - 1 = (rows.length : Nat) := by lia
      k_extra "goU|Lu"
      rename News h₀ L _ ((_, tupObj [_, _]) :: _) => NT
      rename Fr h₀ L _ _ => FT
      rw [e9] at NT
      refine lm_told (p := (rows.length, rows.length)) FT NT (S5.sub fun p hp => mem_tl hp) (kin_pair (p := (rows.length, rows.length)) mem_hd) (by lia) ?_
      intro h4 nw5 F5 N5 S7 st6
      rw [e2] at S7
      clear S5 hC9 xA9 xB9 hrA htA NT FT
      k_extra "goU|Lu"
      exact ret _ _ _ _ _ _ _ _ _ _ F5 (by k_extra "hu") N5 S7.drop JI

end
end Mine

open PySem PySem.W PySem.Calls PyProof.Rows PySem.Spec
namespace Mine
section
set_option maxHeartbeats 20000000
example : True := by
  (k_with "hs" => first | (skip) | fail)
  (k_with "c|LT" => first | (first | (k_extra "?eval"; first | k_extra "keval|2") | (k_extra "?execs"; first | k_extra "kexecs|2") | (k_extra "?call"; first | k_extra "ccall|L" | k_extra "kcall|2") | (k_extra "?getMethod"; first | k_extra "kgetMethod|L" | k_extra "kgetMethod|2") | (k_extra "?getAttr"; first | k_extra "kgetAttr|2") | (k_extra "?callWith"; first | k_extra "kcallWith|2") | (k_extra "?subscriptTail"; first | k_extra "ksubscriptTail|M" | k_extra "ksubscriptTail|2") | (k_extra "?exec"; first | k_extra "cexec|D" | k_extra "kexec|D" | k_extra "kexec|2") | (k_extra "?newTuple"; first | k_extra "knewTuple|2") | (k_extra "?newList"; first | k_extra "knewList|2") | (k_extra "?binaryOp"; first | k_extra "kbinaryOp|2") | (k_extra "?setItem"; first | k_extra "ksetItem|2") | (k_extra "?compareOp"; first | k_extra "kcompareOp|M") | k_extra "And|2") | fail)
  (k_with "step|LT" => first | (first | k_extra "c|LT" | ((fail_if_success (with_reducible show wpAny _ _ (call (Value.ref _) _) _ _ _)); (fail_if_success (with_reducible show wpAny _ _ (pyIter (Value.ref _)) _ _ _)); (fail_if_success (with_reducible show wpAny _ _ (call (Value.builtin "sorted") _) _ _ _)); (fail_if_success (with_reducible show KswEnd _ _ _ _ _ _ _ _ _ _ _ _)); walk1) | (k_here; k_dflt k_extra "walkin")) | fail)
  (k_with "go|LT" => first | (repeat' k_extra "step|LT") | fail)
  (k_with "goT|LT" => first | (repeat' ((fail_if_success (with_reducible show wpAny _ _ (eval (Expr.IfExp _ _ _ _) _) _ _ _)); (fail_if_success (with_reducible show wpAny _ _ (pyIter _) _ _ _)); (fail_if_success (with_reducible show wpAny _ _ (eval (Expr.Subscript _ _ _) _) _ _ _)); (fail_if_success (with_reducible show wpAny _ _ (call (Value.builtin "list.append") _) _ _ _)); (fail_if_success (with_reducible show wpAny _ _ (call (Value.builtin "dict.setdefault") _) _ _ _)); (fail_if_success (with_reducible show wpAny _ _ (eval (Expr.BoolOp _ _ _) _) _ _ _)); (fail_if_success (with_reducible show wpAny _ _ (call (Value.ref 423) _) _ _ _)); k_extra "step|LT")) | fail)
  trivial
variable {w : World} {A₀ : Around} {base h₀ : Heap} {L fa : Addr} {ccd : Value} {m mg mb : Str → Option Value} {mean : ExcName → Option Value} {nw : List (Addr × Obj)} {s : Shared} {Q : Flow → Shared → Prop}
theorem law_t {G : LG} {i k : Nat} {tl : Tok} {v : Dy} {σ : HS} {ps : List ((Nat × Nat) × Nat)} {rows : List Row} {told : List (Nat × Nat)} {I : Addr} {oI oM oF : Obj}
    (B : Below A₀ base [] h₀) (F : Fr h₀ L s.heap (fun y => if y = Str.ofString "lap" then some (.int (i : Nat) tl) else kstB m (lawV G) y)) (X : (Mine.hd.heap_1 w.params).In h₀) (N : News h₀ L s.heap nw) (T : Top Mine.hd.view_1 (looseW Mine.hd.view_1 []) mean mg mb h₀)
    (S : LM w nw G k v σ ps ps rows told [(I, oI), (L + 1, oM), (L + 2, oF)]) (J : LI i σ ps rows told k) (hz : G.tcs.length ≤ 1000) (HX : HG opsX G.σ1) (HY : HG opsY G.σ2) (hi : i < 10) (dM : oM.data = .cell (some (.ref G.M.mI))) (dF : oF.data = .cell (some (.ref G.fD)))
    (ret : ∀ h' tk' m' nw' v' σ' ps' rows' told' k', Fr h₀ L h' m' → (∀ p ∈ lawV G, m' p.1 = some p.2) → (∀ z, (∀ p ∈ lawV G, z ≠ p.1) → [Str.ofString "lap", Str.ofString "wide", Str.ofString "pair", Str.ofString "kids", Str.ofString "k", Str.ofString "op", Str.ofString "row", Str.ofString "is_due"].contains z = false → m' z = kstB m (lawV G) z) → News h₀ L h' nw' → LM w nw' G k' v' σ' ps' ps' rows' told' [(I, oI), (L + 1, oM), (L + 2, oF)] → LI (i + 1) σ' ps' rows' told' k' → Q .next { s with heap := h', toks := tk' }) :
    wpAny (model prog w) (ktrTop 302 7 (some []) (Str.ofString "law") lawS L fa ccd (cellsFrom (L + 1) lawS.names []) []) (execs lapB (envOfC (Str.ofString "law") lawS L fa ccd)) Q (fun _ _ => False) s := by
  with_unfolding_all refine (?_ : wpAny (model prog w) (ktrTop _ _ _ _ ⟨_, _, _, _, _⟩ _ _ _ (cellsFrom _ (_ :: _) _) _) (execs [_, _, _, _, _, _, _, _] (envOfC _ ⟨_, _, _, _, _⟩ _ _ _)) _ _ _)
  refine hideA ?_
  intro Ak
  have hAu : Ak.units = 7 := rfl
  have hAd : Ak.depth = 302 := rfl
  have hk0 := J.k
  have hpz := J.pz
  have hp1 := HX.o.par
  have hp2 := HY.o.par
  have hl1 := HX.n
  have hl2 := HY.n
  have hA9 := S.h1
  have hB9 := S.h2
  have hC9 := S.m
  have xA9 := S.x1
  have xB9 := S.x2
  k_extra "goT|LT"
  refine wpAny_mono (Q := CutP w h₀ L (fun y => if y = Str.ofString "lap" then some (.int (i : Nat) tl) else kstB m (lawV G) y) G v σ ps ps rows told [(I, oI), (L + 1, oM), (L + 2, oF)] s fun x k' _ => ∃ (wd : Nat) (t : Tok), x = .int (wd : Nat) t ∧ wd < 3 ∧ k' ≤ k + 1) (E := fun _ _ => False) ?_ ?_ (fun _ _ e => e)
  · k_extra "go|LT"
    · exact CutP.intro F N (by assumption) ⟨0, _, rfl, by decide, by lia⟩
    · exact CutP.intro (by assumption) (by assumption) (by assumption) ⟨_, _, rfl, by assumption, Nat.le_refl _⟩
  intro x s' P1
  refine byC fun U0 => ?_
  obtain ⟨h1, tk1, nw1, k1, rfl, F1, N1, S1, wd, t, rfl, hwd, hk1⟩ := P1
  refine U0 ?_
  clear U0
  clear S hA9 hB9 hC9 xA9 xB9 N F
  k_extra "lmf"
  k_extra "goT|LT"
  rename KIn _ 7 (Value.ref _) (pdat _) => KP
  rename IsRange _ _ 0 _ 1 _ _ _ => rgX
  rename Fr h₀ L _ _ => FX
  rename News h₀ L _ ((_, tupObj _) :: (_, W.listOf #[] 0) :: _) => NX
  rename LM _ _ _ _ _ _ _ _ _ _ _ => lS9
  refine byC fun U0 => ?_
  obtain ⟨⟨Dk, eD⟩, ⟨nw9, e9⟩⟩ := name_two NX
  subst eD e9
  have lK : ∀ p ∈ nw9, p.1 < Dk := by assumption
  obtain ⟨nwK, eK⟩ := name_news NX
  have sK : ∀ p ∈ (Dk, W.listOf #[] 0) :: nw9, p ∈ nwK := fun p hp => by rw [eK]; exact mem_tl hp
  have SK := (lS9.push (a := Dk) (o := W.listOf (List.toArray []) 0) (fun p hp => Nat.ne_of_lt (lK p hp))).sub (nw' := nwK) sK
  obtain ⟨⟨pd, ep⟩, ⟨pr, eq⟩⟩ := name_kin KP
  subst ep eq
  refine U0 ?_
  clear U0
  have KP' := KP.move (news' := nwK) (fun a us q => sK _ (mem_tl q))
  rw [← eK] at NX
  k_dflt (refine' for_E (σ := List (Addr × Obj) × (List Value × Nat) × List (Nat × Nat) × Nat) (fun c => c.1) (fun _ => s.drawn) (fun _ => []) [Str.ofString "k"] (fun j c => LM w c.1 G c.2.2.2 v σ ps ps rows told [(Dk, W.listOf c.2.1.1.toArray c.2.1.2), (I, oI), (L + 1, oM), (L + 2, oF)] ∧ KInAll c.1 7 c.2.1.1 (c.2.2.1.map pdat) ∧ c.2.2.1.length = j ∧ c.2.2.2 ≤ k1 + 3 + 3 * j ∧ KIn c.1 7 (.ref pd) (pdat pr)) (nwK, ([], 0), [], k1 + 3) ?hd0 ?hx ?hpl ?It ?fix ?hk0 ?i0 ?_ ?_)
  case hd0 => rfl
  case hx => rfl
  case hpl => rfl
  case It => exact iterG_range (n := wd) rfl FX NX rgX (range_small (n := wd) (by lia)) (range_size wd)
  case fix => exact fun _ _ _ _ hp => nomatch hp
  case hk0 => exact fun _ hp => nomatch hp
  case i0 => exact ⟨SK, .nil, rfl, Nat.le_refl _, KP'⟩
  · intro j x
    refine pr4 fun nw2 z2 ks k2 => ?_
    revert z2
    refine pr2 fun us un => ?_
    intro u h9 tk9 J2 oJ hj P3 P4 off hcl F9 N9
    refine byC fun U0 => ?_
    obtain ⟨t2, rfl⟩ := P3
    refine byC fun U0 => ?_
    obtain ⟨S2, Kus, hks, hk2, KP2⟩ := P4
    refine U0 ?_
    clear U0
    refine U0 ?_
    clear U0
    dsimp only at S2 Kus hks hk2 KP2 off N9 F9 ⊢
    refine nameM (g := h₀) (L' := L) F9 ?_
    clear F9
    intro mM F9
    have N9 : News h₀ L _ _ := N9
    have S3 := S2.push (a := J2) (o := oJ) off
    have KP3 := KP2.move (news' := (J2, oJ) :: nw2) .cons
    clear KP2 KP KP' S2 lS9 SK
    k_extra "lmf"
    k_extra "goT|LT"
    rename LM _ _ _ _ _ _ _ _ _ _ _ => S4
    rename KIn _ 7 (Value.ref _) (pdat _) => KQ
    refine byC fun U0 => ?_
    obtain ⟨⟨pd2, e2⟩, ⟨q2, e3⟩⟩ := name_kin KQ
    subst e2 e3
    refine U0 ?_
    clear U0
    have hul := kinAll_len Kus
    rw [List.length_map] at hul
    refine lm_kids (q := (J2, oJ)) (by assumption) (by assumption) S4 (by lia) ?_
    intro h' nw' F' N' S5 st5
    have KU : KInAll nw' 7 us (ks.map pdat) := by
      refine' KInAll.move ?stA Kus
      k_extra "stay"
    have KR : KIn nw' 7 (.ref pd) (pdat pr) := by
      refine' KIn.move ?stB KP3
      k_extra "stay"
    have KQ' := KQ.move st5
    k_extra "goT|LT"
    have stO := tup_offI N' S5.x0 hcl
    refine FoEndD.put (σ := List (Addr × Obj) × (List Value × Nat) × List (Nat × Nat) × Nat) (Led := fun c => c.1) (drOf := fun _ => s.drawn) (ps := fun _ => []) (offI J2 nw', (us ++ [.ref pd2], un + 1), ks ++ [q2], _) F' N' (fun p hp => (mem_offI.mp hp).1) S5.x0 (fun p hp => (mem_offI.mp hp).2) rfl ?_ ⟨S5.pop N' hcl, ?_, ?_, ?_, KR.move stO⟩
    · k_extra "over"
    · rw [List.map_append]
      exact kinAll_snoc (KU.move stO) (KQ'.move stO)
    · rw [List.length_append, List.length_singleton, hks]
    · dsimp only; lia
  · refine pr4 fun nw2 z5 ks k2 => ?_
    revert z5
    refine pr2 fun us un => ?_
    intro u h9 tk9 P6 F9 N9
    refine byC fun U0 => ?_
    obtain ⟨S2, Kus, hks, hk2, KP2⟩ := P6
    refine U0 ?_
    clear U0
    dsimp only at S2 Kus hks hk2 KP2 N9 F9 ⊢
    refine law_u B (fr_kstB (tailV G wd t pd Dk) F9 (all_of F9 rfl)) X N9 T S2 J hz hi (by lia) hwd KP2 Kus hks dM dF ?_
    intro h' tk' m' nw' v' σ' ps' rows' told' k' F' hm N' S' J'
    refine ret h' tk' m' nw' v' σ' ps' rows' told' k' F' ?pk ?hr N' S' J'
    case pk => exact over_has (of3 hm) rfl rfl
    case hr =>
      refine over_of (of3 hm) rfl ?_
      k_extra "over"

end
end Mine

open PySem PySem.W PySem.Calls PyProof.Rows PySem.Spec
namespace Mine
section
set_option maxHeartbeats 20000000
example : True := by
  (k_with "keval|F" => first | (((with_reducible refine (?_ : wpAny _ _ (eval (Expr.ListComp _ _ _ _) _) _ _ _)); (k_here; (with_reducible refine (?_ : wpAny _ _ (eval (Expr.ListComp _ [Comprehension.mk _ _ [] _] _ _) _) _ _ _)); k_dflt (refine listComp_I (by k_asm) (by with_unfolding_all rfl) (by decide) (by rfl) (by decide) (by rfl) ?_)))) | fail)
  trivial
example : True := by
  (k_with "hs" => first | (try (refine hideS ?_; intro sSk)) | fail)
  (k_with "c|LF" => first | (first | (k_extra "?eval"; first | k_extra "keval|F" | k_extra "keval|2") | (k_extra "?execs"; first | k_extra "kexecs|2") | (k_extra "?call"; first | k_extra "ccall|3" | k_extra "kcall|2") | (k_extra "?getMethod"; first | k_extra "kgetMethod|2") | (k_extra "?getAttr"; first | k_extra "kgetAttr|2") | (k_extra "?callWith"; first | k_extra "kcallWith|2") | (k_extra "?subscriptTail"; first | k_extra "ksubscriptTail|M" | k_extra "ksubscriptTail|2") | (k_extra "?exec"; first | k_extra "cexec|D" | k_extra "kexec|D" | k_extra "kexec|2") | (k_extra "?newTuple"; first | k_extra "knewTuple|2") | (k_extra "?newList"; first | k_extra "knewList|2") | (k_extra "?binaryOp"; first | k_extra "kbinaryOp|2") | (k_extra "?setItem"; first | k_extra "ksetItem|2") | (k_extra "?compareOp"; first | k_extra "kcompareOp|M") | k_extra "And|2") | fail)
  (k_with "step|LF" => first | (first | k_extra "c|LF" | ((fail_if_success (with_reducible show wpAny _ _ (call (Value.ref _) _) _ _ _)); (fail_if_success (with_reducible show wpAny _ _ (pyIter (Value.ref _)) _ _ _)); (fail_if_success (with_reducible show wpAny _ _ (call (Value.builtin "sorted") _) _ _ _)); (fail_if_success (with_reducible show KswEnd _ _ _ _ _ _ _ _ _ _ _ _)); walk1) | (k_here; k_dflt k_extra "walkin")) | fail)
  (k_with "go|LF" => first | (repeat' k_extra "step|LF") | fail)
  (k_with "goF|LF" => first | (repeat' ((fail_if_success (with_reducible show wpAny _ _ (pyIter _) _ _ _)); (fail_if_success (with_reducible show wpAny _ _ (call (Value.ref 430) _) _ _ _)); (fail_if_success (with_reducible show wpAny _ _ (call (Value.ref 418) _) _ _ _)); (fail_if_success (with_reducible show wpAny _ _ (compareOp _ (Value.ref _) (Value.ref _)) _ _ _)); (fail_if_success (with_reducible show wpAny _ _ (subscriptTail _ _ (Value.ref _) _) _ _ _)); k_extra "step|LF")) | fail)
  trivial
variable {w : World} {A₀ : Around} {base h₀ : Heap} {L fa : Addr} {ccd : Value} {m mg mb : Str → Option Value} {mean : ExcName → Option Value} {nw : List (Addr × Obj)} {s : Shared} {Q : Flow → Shared → Prop}
noncomputable abbrev endV (G : LG) (D : Addr) : List (Str × Value) := [(Str.ofString "one", .ref G.M.y1.hI), (Str.ofString "other", .ref G.M.y2.hI), (Str.ofString "tube", .ref G.tb), (Str.ofString "rows", .ref G.rA), (Str.ofString "told", .ref G.tA), (Str.ofString "homes", .ref D)]
theorem name_fr5 {h₀ h : Heap} {L : Addr} {m : Str → Option Value} (_F : Fr h₀ L h m) : ∃ x, x = m := ⟨_, rfl⟩
theorem kst_rest {m m' : Str → Option Value} {ps : List (Str × Value)} {z : Str} (h1 : ∀ p ∈ ps, m' p.1 = some p.2) (h2 : (∀ p ∈ ps, z ≠ p.1) → m z = m' z) : m' z = kstB m ps z := (kstB_eq h1 h2).symm
theorem law_f {G : LG} {k : Nat} {v : Dy} {σ : HS} {ps : List ((Nat × Nat) × Nat)} {rows : List Row} {told : List (Nat × Nat)} {D : Addr} {oM oF : Obj} {hs : List Nat}
    (B : Below A₀ base [] h₀) (F : Fr h₀ L s.heap (kstB m (endV G D))) (X : (Mine.hd.heap_1 w.params).In h₀) (N : News h₀ L s.heap nw) (T : Top Mine.hd.view_1 (looseW Mine.hd.view_1 []) mean mg mb h₀)
    (S : LM w nw G k v σ ps ps rows told [(L + 1, oM), (L + 2, oF)]) (O : Ok 400 σ) (hrl : σ.par.length = rows.length) (h10 : rows.length ≤ 10) (pb : ∀ x ∈ ps, x.2 < σ.par.length) (HX : HG opsX G.σ1) (HY : HG opsY G.σ2) (IH : IsInts nw D hs) (hhl : hs.length = rows.length) (hhs : ∀ a, a < rows.length → hs[a]? = some (root σ.par a)) (dM : oM.data = .cell (some (.ref G.M.mI))) (dF : oF.data = .cell (some (.ref G.fD)))
    (ret : ∀ h' tk' dr m' nw', Fr h₀ L h' m' → (∀ z, [Str.ofString "a", Str.ofString "b", Str.ofString "pair", Str.ofString "due"].contains z = false → m' z = kstB m (endV G D) z) → News h₀ L h' nw' → (∀ p ∈ nw, p ∈ nw') → Q .next { s with heap := h', toks := tk', drawn := dr }) :
    wpAny (model prog w) (ktrTop 302 7 (some []) (Str.ofString "law") lawS L fa ccd (cellsFrom (L + 1) lawS.names []) []) (execs endB (envOfC (Str.ofString "law") lawS L fa ccd)) Q (fun _ _ => False) s := by
  with_unfolding_all refine (?_ : wpAny (model prog w) (ktrTop _ _ _ _ ⟨_, _, _, _, _⟩ _ _ _ (cellsFrom _ (_ :: _) _) _) (execs [_, _, _] (envOfC _ ⟨_, _, _, _, _⟩ _ _ _)) _ _ _)
  have hA9 := S.h1
  have hB9 := S.h2
  have hC9 := S.m
  have hD9 := hC9.h
  have xA9 := S.x0
  have xB9 := S.x1
  refine byC fun U0 => ?_
  obtain ⟨rvs, rn, hrA, hrv⟩ := S.r
  refine U0 ?_
  clear U0
  have p1 := HX.o.par
  have p2 := HY.o.par
  have p0 := O.par
  have l1 := HX.n
  have l2 := HY.n
  have n1 := HX.o.nodes
  have n2 := HY.o.nodes
  have n0 := O.nodes
  have hrvl := kinAll_len hrv
  rw [List.length_map] at hrvl
  have hP := S.f
  clear S
  k_extra "goF|LF"
  all_goals (try (exfalso; (first | lia | omega)))
  rename Fr h₀ L _ _ => FX
  rename News h₀ L _ _ => NX
  rename IsRange _ _ 0 4 1 _ _ _ => rgX
  k_dflt (refine' for_E (σ := Unit) (fun _ => nw) (fun _ => s.drawn) (fun _ => endV G D) [Str.ofString "a", Str.ofString "b", Str.ofString "pair", Str.ofString "due"] (fun i c => True) () ?hd0 ?hx ?hpl ?It ?fix ?hk0 ?i0 ?_ ?_)
  case hd0 => rfl
  case hx => rfl
  case hpl => rfl
  case It => exact iterG_range (n := 4) rfl FX NX rgX (range_small (n := 4) (by (first | lia | omega))) (range_size 4)
  case fix => exact fun _ _ _ _ hp => nomatch hp
  case hk0 => exact all_of FX rfl
  case i0 => trivial
  · intro ja xa z1 u h9 tk9 I oI hja P2 z3 off hcl F9 N9
    clear z3
    refine byC fun U0 => ?_
    obtain ⟨ta, rfl⟩ := P2
    refine U0 ?_
    clear U0
    dsimp only at off N9 F9 ⊢
    have F9 : Fr h₀ L _ _ := F9
    have N9 : News h₀ L _ _ := N9
    rw [Int.zero_add] at F9
    refine nameM F9 ?_
    clear F9
    intro mM F9
    have hja' : ja < G.σ1.par.length := by (first | lia | omega)
    have hA9 := hA9.sub (news' := (I, oI) :: nw) fun p hp => mem_tl hp
    have hB9 := hB9.sub (news' := (I, oI) :: nw) fun p hp => mem_tl hp
    have hC9 := hC9.sub (news' := (I, oI) :: nw) fun p hp => mem_tl hp
    k_extra "goF|LF"
    clear F N
    rename Fr h₀ L _ _ => FX
    rename News h₀ L _ _ => NX
    rename IsRange _ _ 0 4 1 _ _ _ => rgX
    k_dflt (refine' for_E (σ := Unit) (fun _ => (I, oI) :: nw) (fun _ => s.drawn) (fun _ => (Str.ofString "a", .int (ja : Nat) ta) :: endV G D) [Str.ofString "b", Str.ofString "pair", Str.ofString "due"] (fun i c => True) () ?hd0 ?hx ?hpl ?It ?fix ?hk0 ?i0 ?_ ?_)
    case hd0 => rfl
    case hx => rfl
    case hpl => rfl
    case It => exact iterG_range (n := 4) rfl FX NX rgX (range_small (n := 4) (by (first | lia | omega))) (range_size 4)
    case fix => exact fun _ _ _ _ hp => nomatch hp
    case hk0 => exact all_of FX rfl
    case i0 => trivial
    · intro jb xb z4 u h9 tk9 I2 oI2 hjb P5 z6 off2 hcl2 F9 N9
      clear z6
      refine byC fun U0 => ?_
      obtain ⟨tb, rfl⟩ := P5
      refine U0 ?_
      clear U0
      dsimp only at off2 N9 F9 ⊢
      have F9 : Fr h₀ L _ _ := F9
      have N9 : News h₀ L _ _ := N9
      rw [Int.zero_add] at F9
      refine nameM F9 ?_
      clear F9
      intro mM F9
      have hjb' : jb < G.σ2.par.length := by (first | lia | omega)
      k_extra "goF|LF"
      refine' pd_in (k := (root G.σ1.par ja, root G.σ2.par jb)) ?N ?P ?K ?hu ?s1 ?s2
      case N => k_asm
      case P => exact hP.move (fun a us q => by k_extra "insub") fun o q => by k_extra "insub"
      case K => exact kin_pair (by k_mem)
      case hu => k_extra "unit"
      case s1 =>
        intro n en tk2
        have hn := pb _ (pget_mem en)
        have eh : hat hs n = root σ.par n := hat_get (hhs n (by (first | lia | omega)))
        k_extra "goF|LF"
        refine' pd_item ?N ?P ?K en ?hu ?_
        case N => k_asm
        case P => exact hP.move (fun a us q => by k_extra "insub") fun o q => by k_extra "insub"
        case K => exact kin_pair (by k_mem)
        case hu => k_extra "unit"
        intro t3 tk3
        k_extra "goF|LF"
        refine' item_ints ?N ?x ?k ?z ?_
        case N => k_asm
        case x => exact IH.move fun o q => by k_extra "insub"
        case k => (first | lia | omega)
        case z => (first | lia | omega)
        intro t4
        rw [eh]
        k_extra "goF|LF"
        refine wpAny_noRaise ?_
        refine' class_of_c B ?F X ?N T rfl ?hd ?hu ?R ?H1 ?H2 p0 p1 p2 hja' hjb' (by (first | lia | omega)) (by (first | lia | omega)) (by (first | lia | omega)) pb ?_
        case F => k_asm
        case N => k_asm
        case hd => k_extra "room"
        case hu => k_extra "room"
        case R => exact hC9.sub fun p hp => by k_extra "insub"
        case H1 => exact hA9.sub fun p hp => by k_extra "insub"
        case H2 => exact hB9.sub fun p hp => by k_extra "insub"
        intro t5 h5 tk5 nw5 F5 N5 s5
        simp only [en]
        k_extra "goF|LF"
        all_goals (try (rename _ ≠ _ => ne9; exact absurd rfl ne9))
        rename Fr h₀ L _ _ => FT
        refine FoEndD.put (σ := Unit) (Inv := fun _ => True) (Led := fun _ => (I, oI) :: nw) (drOf := fun _ => s.drawn) (ps := fun _ => (Str.ofString "a", .int (ja : Nat) ta) :: endV G D) () FT N5 (fun p hp => s5 p (mem_tl (mem_tl hp))) (s5 _ (mem_tl mem_hd)) off2 rfl ?_ trivial
        k_extra "over"
      case s2 =>
        intro en tk2
        k_extra "goF|LF"
        refine wpAny_noRaise ?_
        refine' class_of_c B ?F X ?N T rfl ?hd ?hu ?R ?H1 ?H2 p0 p1 p2 hja' hjb' (by (first | lia | omega)) (by (first | lia | omega)) (by (first | lia | omega)) pb ?_
        case F => k_asm
        case N => k_asm
        case hd => k_extra "room"
        case hu => k_extra "room"
        case R => exact hC9.sub fun p hp => by k_extra "insub"
        case H1 => exact hA9.sub fun p hp => by k_extra "insub"
        case H2 => exact hB9.sub fun p hp => by k_extra "insub"
        intro t5 h5 tk5 nw5 F5 N5 s5
        simp only [en]
        k_extra "goF|LF"
        all_goals (try (rename _ ≠ _ => ne9; exact absurd rfl ne9))
        rename Fr h₀ L _ _ => FT
        refine FoEndD.put (σ := Unit) (Inv := fun _ => True) (Led := fun _ => (I, oI) :: nw) (drOf := fun _ => s.drawn) (ps := fun _ => (Str.ofString "a", .int (ja : Nat) ta) :: endV G D) () FT N5 (fun p hp => s5 p (mem_tl (mem_tl hp))) (s5 _ (mem_tl mem_hd)) off2 rfl ?_ trivial
        k_extra "over"
    · intro z7 u h9 tk9 z8 F9 N9
      clear z8
      dsimp only at N9 F9 ⊢
      refine nameM (g := h₀) (L' := L) F9 ?_
      clear F9
      intro mM F9
      have N9 : News h₀ L _ _ := N9
      k_extra "goF|LF"
      refine FoEndD.put (σ := Unit) (Inv := fun _ => True) (Led := fun _ => nw) (drOf := fun _ => s.drawn) (ps := fun _ => endV G D) () F9 N9 (fun p hp => mem_tl hp) mem_hd off rfl ?_ trivial
      k_extra "over"
  · intro z9 u h9 tk9 z10 F9 N9
    clear z10
    dsimp only at N9 F9 ⊢
    refine nameM (g := h₀) (L' := L) F9 ?_
    clear F9
    intro mM F9
    have N9 : News h₀ L _ _ := N9
    clear F N
    k_extra "goF|LF"
    rename Fr h₀ L _ _ => FX
    rename News h₀ L _ _ => NX
    rename IsRange _ _ 0 _ 1 _ _ _ => rgX
    refine compPureI (fun i y => ∃ t, y = .int (root σ.par i : Nat) t) (iterable_range (n := rvs.length) rfl FX NX rgX (range_small (by (first | lia | omega))) (range_size _)) trivial (by (first | lia | omega)) ?_ ?_
    · intro i v1 J' C oC m₂ h9 tk9 hi P11 hJ hC hx F9 N9
      refine byC fun U0 => ?_
      obtain ⟨t, rfl⟩ := P11
      refine U0 ?_
      clear U0
      rw [Int.zero_add] at hx
      have hi' : i < σ.par.length := by (first | lia | omega)
      k_extra "goF|LF"
      exact PEnd.intro (by assumption) (by assumption) ⟨_, rfl⟩
    intro D2 ys h9 tk9 hyl hy F9 N9 hD2
    have iy : IntsAre ys (toZ hs) := ints_of_at (by (first | lia | omega)) fun i y q => by
      refine byC fun U0 => ?_
      obtain ⟨t, rfl⟩ := hy i y q
      refine U0 ?_
      clear U0
      exact ⟨_, t, hhs i (by have := lt_get q; (first | lia | omega)), rfl⟩
    refine byC fun U0 => ?_
    obtain ⟨hvs, hn, hmI, hiI⟩ := IH
    refine U0 ?_
    clear U0
    k_extra "goF|LF"
    refine' lists_ne ?N mem_hd (mem_tl hmI) (kinAll_of_ints iy) (kinAll_of_ints hiI) ?hu (fun _ => ?_) fun q => absurd rfl q
    case N => k_asm
    case hu => k_extra "unit"
    k_extra "goF|LF"
    refine wpAny_noRaise ?_
    refine' goup_c B ?F X ?N T rfl ?hd ?hu ?m1 ?m2 ?H1 ?H2 HX.l HY.l (by decide) (by decide) ops_apart ?_
    case F => k_asm
    case N => k_asm
    case hd => k_extra "room"
    case hu => k_extra "room"
    case m1 => exact mem_tl hC9.i1
    case m2 => exact mem_tl hC9.i2
    case H1 => exact hA9.sub fun p hp => mem_tl hp
    case H2 => exact hB9.sub fun p hp => mem_tl hp
    intro h5 tk5 dr5 nw5 F5 N5 s5
    k_extra "goF|LF"
    obtain ⟨m5, em⟩ := name_fr5 F5
    rw [← em] at F5
    refine ret _ _ _ m5 _ F5 (fun z h3 => kst_rest (m := m) (ps := endV G D) ?h1 fun hn => ?h2) N5 (fun p hp => s5 p (mem_tl hp))
    case h1 =>
      rw [em]
      exact Has.all rfl
    case h2 =>
      rw [em]
      refine Eq.symm ((?_ : Over (endV G D) [Str.ofString "a", Str.ofString "b", Str.ofString "pair", Str.ofString "due"] _ m) z hn h3)
      k_extra "over"

end
end Mine

open PySem PySem.W PySem.Calls PyProof.Rows PySem.Spec
namespace Mine
section
set_option maxHeartbeats 20000000
example : True := by
  (k_with "hs" => first | (try (refine hideS ?_; intro sSk)) | fail)
  (k_with "c|LE" => first | (first | (k_extra "?eval"; first | k_extra "keval|2") | (k_extra "?execs"; first | k_extra "kexecs|2") | (k_extra "?call"; first | k_extra "kcall|2") | (k_extra "?getMethod"; first | k_extra "kgetMethod|2") | (k_extra "?getAttr"; first | k_extra "kgetAttr|2") | (k_extra "?callWith"; first | k_extra "kcallWith|2") | (k_extra "?subscriptTail"; first | k_extra "ksubscriptTail|M" | k_extra "ksubscriptTail|2") | (k_extra "?exec"; first | k_extra "cexec|D" | k_extra "kexec|D" | k_extra "kexec|2") | (k_extra "?newTuple"; first | k_extra "knewTuple|2") | (k_extra "?newList"; first | k_extra "knewList|2") | (k_extra "?binaryOp"; first | k_extra "kbinaryOp|2") | (k_extra "?setItem"; first | k_extra "ksetItem|2") | (k_extra "?compareOp"; first | k_extra "kcompareOp|M") | k_extra "And|2") | fail)
  (k_with "step|LE" => first | (first | k_extra "c|LE" | ((fail_if_success (with_reducible show wpAny _ _ (call (Value.ref _) _) _ _ _)); (fail_if_success (with_reducible show wpAny _ _ (pyIter (Value.ref _)) _ _ _)); (fail_if_success (with_reducible show wpAny _ _ (call (Value.builtin "sorted") _) _ _ _)); (fail_if_success (with_reducible show KswEnd _ _ _ _ _ _ _ _ _ _ _ _)); walk1) | (k_here; k_dflt k_extra "walkin")) | fail)
  (k_with "go|LE" => first | (repeat' k_extra "step|LE") | fail)
  trivial
example : True := by
  (k_with "goE|LE" => first | (repeat' ((fail_if_success (with_reducible show wpAny _ _ (call (Value.ref 338) _) _ _ _)); (fail_if_success (with_reducible show wpAny _ _ (call (Value.ref 449) _) _ _ _)); (fail_if_success (with_reducible show wpAny _ _ (pyIter _) _ _ _)); k_extra "step|LE")) | fail)
  trivial

variable {w : World} {A₀ : Around} {base h₀ : Heap} {L fa : Addr} {ccd : Value} {m mg mb : Str → Option Value} {mean : ExcName → Option Value} {nw : List (Addr × Obj)} {s : Shared} {Q : Flow → Shared → Prop}
theorem law_e {G : LG} {i k : Nat} {v : Dy} {σ : HS} {ps : List ((Nat × Nat) × Nat)} {rows : List Row} {told : List (Nat × Nat)} {oM oF : Obj}
    (B : Below A₀ base [] h₀) (F : Fr h₀ L s.heap (kstB m (lawV G))) (X : (Mine.hd.heap_1 w.params).In h₀) (N : News h₀ L s.heap nw) (T : Top Mine.hd.view_1 (looseW Mine.hd.view_1 []) mean mg mb h₀)
    (S : LM w nw G k v σ ps ps rows told [(L + 1, oM), (L + 2, oF)]) (J : LI i σ ps rows told k) (hi : i ≤ 10) (HX : HG opsX G.σ1) (HY : HG opsY G.σ2) (dM : oM.data = .cell (some (.ref G.M.mI))) (dF : oF.data = .cell (some (.ref G.fD)))
    (ret : ∀ h' tk' dr m', Fr h₀ L h' m' → Q (.ret (.bool true)) { s with heap := h', toks := tk', drawn := dr }) :
    wpAny (model prog w) (ktrTop 302 7 (some []) (Str.ofString "law") lawS L fa ccd (cellsFrom (L + 1) lawS.names []) []) (execs (lawB.drop 7) (envOfC (Str.ofString "law") lawS L fa ccd)) Q (fun _ _ => False) s := by
  with_unfolding_all refine (?_ : wpAny (model prog w) (ktrTop _ _ _ _ ⟨_, _, _, _, _⟩ _ _ _ (cellsFrom _ (_ :: _) _) _) (execs [_, _, _, _] (envOfC _ ⟨_, _, _, _, _⟩ _ _ _)) _ _ _)
  refine hideA ?_
  intro Ak
  have hAu : Ak.units = 7 := rfl
  have hAd : Ak.depth = 302 := rfl
  have hC9 := S.m
  have hD9 := hC9.h
  have xA9 := S.x0
  have xB9 := S.x1
  k_extra "goE|LE"
  refine wpAny_noRaise ?_
  refine settle_c B (by assumption) X (by assumption) T rfl (by k_extra "room") (by k_extra "room") hD9 (kept_here N) J.ok (by lia) ?_
  intro σ' SS O' w' h1 tk1 v' nw1 F1 N1 H1 K1 st1
  have S1 := S.meet (hC9.heap K1 st1 H1) (MKept.of K1) st1
  obtain ⟨SE, -⟩ := J.sem.steps SS J.ok
  clear hC9 hD9 xA9 xB9 H1 K1 S
  have hC9 := S1.m
  have xA9 := S1.x0
  have xB9 := S1.x1
  k_extra "goE|LE"
  refine byC fun U0 => ?_
  obtain ⟨rvs, rn, hr, hrv⟩ := S1.r
  obtain ⟨pvs, pn, ht, htv⟩ := S1.o
  refine U0 ?_
  clear U0
  have hrl : σ'.par.length = rows.length := by rw [← SE.rw, O'.nodes]
  have hlen := J.len
  have htl := J.tl
  refine wpAny_noRaise ?_
  refine homes_c B (by assumption) X (by assumption) T rfl (by k_extra "room") (by k_extra "room") hr hrv ht htv ⟨fun r hr k hk => ?ib, J.tb⟩ (by lia) (by lia) (fun r hr => ?k2) ?_
  case ib =>
    obtain ⟨n, hn⟩ := List.mem_iff_getElem?.mp hr
    have := (O'.kids n r (by rw [SE.rw]; exact hn)).2 k hk
    have := lt_get hn
    lia
  case k2 =>
    obtain ⟨n, hn⟩ := List.mem_iff_getElem?.mp hr
    exact (O'.kids n r (by rw [SE.rw]; exact hn)).1
  intro hs D h2 tk2 nw2 HM F2 N2 s2 IH2
  have S2 := S1.sub s2
  clear hr hrv ht htv S1 hC9 xA9 xB9
  have hhs : ∀ a, a < rows.length → hs[a]? = some (root σ'.par a) := fun a ha => by
    rw [Sem.homes SE O' w' HM ha]
    exact hat_at (by rw [HM.len]; exact ha)
  have hC9 := S2.m
  have xA9 := S2.x0
  have xB9 := S2.x1
  k_extra "goE|LE"
  rename Fr h₀ L _ _ => FX
  rename News h₀ L _ _ => NX
  rename IsRange _ _ 0 2 1 _ _ _ => rgX
  have S2' : LM w nw2 G k v' σ' ps ps rows told [(L + 1, oM), (L + 2, oF)] := S2
  clear S2 hC9 xA9 xB9
  k_dflt (refine' for_E (σ := Unit × Drawn) (fun _ => nw2) (fun c => c.2) (fun _ => endV G D) [Str.ofString "lap", Str.ofString "a", Str.ofString "b", Str.ofString "pair", Str.ofString "due"] (fun i c => True) ((), s.drawn) ?hd0 ?hx ?hpl ?It ?fix ?hk0 ?i0 ?_ ?_)
  case hd0 => rfl
  case hx => rfl
  case hpl => rfl
  case It => exact iterG_range (n := 2) rfl FX NX rgX (range_small (n := 2) (by lia)) (range_size 2)
  case fix => exact fun _ _ _ _ hp => nomatch hp
  case hk0 => exact all_of FX rfl
  case i0 => trivial
  · intro j x
    refine pr2 fun z1 dr => ?_
    intro u h9 tk9 I oI hj P2 z3 off hcl F9 N9
    clear z3
    refine byC fun U0 => ?_
    obtain ⟨t, rfl⟩ := P2
    refine U0 ?_
    clear U0
    dsimp only at off N9 F9 ⊢
    refine law_f B (fr_kstB (endV G D) F9 (all_of F9 rfl)) X N9 T (S2'.sub fun p hp => mem_tl hp) (O'.mono (by lia)) hrl (by lia) ?pb HX HY (IH2.move fun o hp => mem_tl hp) HM.len hhs dM dF ?_
    case pb =>
      intro x hx
      have h1 := J.pb x hx
      have h2 : σ.par.length = rows.length := by rw [← J.sem.rw, J.ok.nodes]
      lia
    intro h' tk' dr' m' nw' F' hm N' hk'
    refine FoEndD.intro (σ := Unit × Drawn) (Led := fun _ => nw2) (drOf := fun c => c.2) (ps := fun _ => endV G D) ((), dr') F' N' (fun p hp => hk' p (mem_tl hp)) (hk' _ mem_hd) off ?pk ?hr trivial
    case pk => exact over_has hm rfl rfl
    case hr =>
      refine over_of hm rfl ?_
      k_extra "over"
  · refine pr2 fun z4 dr => ?_
    intro u h9 tk9 z5 F9 N9
    clear z5
    dsimp only at N9 F9 ⊢
    k_extra "go|LE"
    exact ret _ _ _ _ F9

end
end Mine

open PySem PySem.W PySem.Calls PyProof.Rows PySem.Spec
namespace Mine
section
set_option maxHeartbeats 20000000
example : True := by
  (k_with "hs" => first | (try (refine hideS ?_; intro sSk)) | fail)
  (k_with "c|LC" => first | (first | (k_extra "?eval"; first | k_extra "keval|2") | (k_extra "?execs"; first | k_extra "kexecs|2") | (k_extra "?call"; first | k_extra "kcall|2") | (k_extra "?getMethod"; first | k_extra "kgetMethod|2") | (k_extra "?getAttr"; first | k_extra "kgetAttr|2") | (k_extra "?callWith"; first | k_extra "kcallWith|2") | (k_extra "?subscriptTail"; first | k_extra "ksubscriptTail|M" | k_extra "ksubscriptTail|2") | (k_extra "?exec"; first | k_extra "cexec|D" | k_extra "kexec|D" | k_extra "kexec|2") | (k_extra "?newTuple"; first | k_extra "knewTuple|2") | (k_extra "?newList"; first | k_extra "knewList|2") | (k_extra "?binaryOp"; first | k_extra "kbinaryOp|2") | (k_extra "?setItem"; first | k_extra "ksetItem|2") | (k_extra "?compareOp"; first | k_extra "kcompareOp|M") | k_extra "And|2") | fail)
  (k_with "step|LC" => first | (first | k_extra "c|LC" | ((fail_if_success (with_reducible show wpAny _ _ (call (Value.ref _) _) _ _ _)); (fail_if_success (with_reducible show wpAny _ _ (pyIter (Value.ref _)) _ _ _)); (fail_if_success (with_reducible show wpAny _ _ (call (Value.builtin "sorted") _) _ _ _)); (fail_if_success (with_reducible show KswEnd _ _ _ _ _ _ _ _ _ _ _ _)); walk1) | (k_here; k_dflt k_extra "walkin")) | fail)
  (k_with "go|LC" => first | (repeat' k_extra "step|LC") | fail)
  trivial
example : True := by
  (k_with "k_mem" => first | (with_reducible first | exact put_self | (refine' put_of ?_ ?ne9KK; (case ne9KK => k_dflt (first | assumption | (show @Ne Nat _ _; lia))); k_mem) | fail) | fail)
  (k_with "c|LC" => first | ((k_here; (with_reducible refine (?_ : wpAny _ _ (call (Value.ref 444) _) _ _ _)); refine wpAny_noRaise ?_; (rename LM _ _ _ _ _ _ _ _ _ _ _ => lS9k); k_dflt (refine' tap_c ?BKK ?FKK ?XKK ?NKK ?TKK ?hkKK ?hdKK ?huKK ?T0KK ?hzKK ?haKK ?hmKK ?_; (case BKK => k_asm); (case FKK => k_asm); (case XKK => k_asm); (case NKK => k_asm); (case TKK => k_asm); (case hkKK => first | assumption | exact rfl); (case hdKK => k_extra "room"); (case huKK => k_extra "room"); (case T0KK => exact Tube.sub (LM.t lS9k) (by intro p9k hp9k; k_extra "insub")); (case hzKK => assumption); (case haKK => lia); (case hmKK => decide)); intro r9k lt9k t9k h9k tk9k nw9k F9k N9k T9k k9k a9k st9k; replace lS9k := LM.tap (LM.sub lS9k (by intro p9k hp9k; k_extra "insub")) T9k k9k st9k; (try dsimp only); (try k_sweep))) | fail)
  (k_with "c|LC" => first | ((k_here; (with_reducible refine (?_ : wpAny _ _ (storeName _ (PySem.Str.ofString "meet") _) _ _ _)); k_dflt (refine' storeX_M ?FKK ?NKK ?cKK ?mKK ?dKK ?_ ?aKK ?bKK; (case aKK => rfl); (case bKK => rfl); (case FKK => k_asm); (case NKK => k_asm); (case cKK => rfl); (case mKK => k_mem); (case dKK => k_asm)); intro h'k o'k F'k N'k d'k)) | fail)
  (k_with "c|LC" => first | ((k_here; (with_reducible refine (?_ : wpAny _ _ (storeName _ (PySem.Str.ofString "firsts") _) _ _ _)); k_dflt (refine' storeX_M ?FKK ?NKK ?cKK ?mKK ?dKK ?_ ?aKK ?bKK; (case aKK => rfl); (case bKK => rfl); (case FKK => k_asm); (case NKK => k_asm); (case cKK => rfl); (case mKK => k_mem); (case dKK => k_asm)); intro h'k o'k F'k N'k d'k)) | fail)
  (k_with "goM|LC" => first | (repeat' ((fail_if_success (with_reducible show wpAny _ _ (call (Value.ref 433) _) _ _ _)); (fail_if_success (with_reducible show wpAny _ _ (exec (Stmt.If _ _ _ _) _) _ _ _)); (fail_if_success (with_reducible show wpAny _ _ (pyIter _) _ _ _)); k_extra "step|LC")) | fail)
  (k_with "goN|LC" => first | (repeat' ((fail_if_success (with_reducible show wpAny _ _ (pyIter _) _ _ _)); k_extra "step|LC")) | fail)
  trivial

variable {w : World} {A₀ : Around} {base h₀ : Heap} {L fa : Addr} {ccd : Value} {m mg mb : Str → Option Value} {mean : ExcName → Option Value} {news : List (Addr × Obj)} {s : Shared} {Q : Flow → Shared → Prop}
theorem name_all {d : Addr} {l : List (Addr × Obj)} (_h : AllLt d l) : ∃ x, x = d := ⟨_, rfl⟩
theorem name_cell {o : Obj} {c : Option Value} (_h : o.data = .cell c) : ∃ x, x = o := ⟨_, rfl⟩
theorem name_nlt {a b : Nat} (_h : a < b) : ∃ x, x = a := ⟨_, rfl⟩
theorem name_frB {h₀ h : Heap} {L : Addr} {m : Str → Option Value} {ps : List (Str × Value)} (_F : Fr h₀ L h (kstB m ps)) : ∃ x, x = m := ⟨_, rfl⟩
theorem law_m {tb tcl D : Addr} {k : Nat} {tcs : List Nat} {y1 y2 : Lay} {v1 v2 : Dy} {σ1 σ2 : HS} {oM oF : Obj} {cM cF : Option Value}
    (B : Below A₀ base [] h₀) (F : Fr h₀ L s.heap (kstB m [(Str.ofString "one", .ref y1.hI), (Str.ofString "other", .ref y2.hI), (Str.ofString "tube", .ref tb)])) (X : (Mine.hd.heap_1 w.params).In h₀) (N : News h₀ L s.heap news) (T : Top Mine.hd.view_1 (looseW Mine.hd.view_1 []) mean mg mb h₀)
    (S : LZ w news tb tcl k tcs y1 v1 σ1 y2 v2 σ2 [(D, tupObj [.ref y1.hI, .ref y2.hI]), (L + 1, oM), (L + 2, oF)]) (hz : tcs.length ≤ 1000) (hk : k ≤ 6) (HX : HG opsX σ1) (HY : HG opsY σ2) (dM : oM.data = .cell cM) (dF : oF.data = .cell cF)
    (ret : ∀ h' tk' dr m', Fr h₀ L h' m' → Q (.ret (.bool true)) { s with heap := h', toks := tk', drawn := dr }) :
    wpAny (model prog w) (ktrTop 302 7 (some []) (Str.ofString "law") lawS L fa ccd (cellsFrom (L + 1) lawS.names []) []) (execs (lawB.drop 4) (envOfC (Str.ofString "law") lawS L fa ccd)) Q (fun _ _ => False) s := by
  with_unfolding_all refine (?_ : wpAny (model prog w) (ktrTop _ _ _ _ ⟨_, _, _, _, _⟩ _ _ _ (cellsFrom _ (_ :: _) _) _) (execs [_, _, _, _, _, _, _] (envOfC _ ⟨_, _, _, _, _⟩ _ _ _)) _ _ _)
  have S1 := S.s.h1
  have S2 := S.s.h2
  k_extra "goM|LC"
  refine wpAny_noRaise ?_
  refine meet_new B (by assumption) X (by assumption) T rfl (by k_extra "room") (by k_extra "room") S1 S2 HX.l HY.l (by decide) (by decide) ops_apart ?_
  intro M v h1 tk1 dr nwM e1 e2 F1 N1 R1 sM nM dN eN fN
  subst e1 e2
  have NK : ∃ h, News h₀ L h nwM := ⟨_, N1⟩
  have cM : (L + 1, oM) ∈ nwM := sM _ (S.x _ (.tail _ (.head _))).m
  have cF : (L + 1 + 1, oF) ∈ nwM := sM _ (S.x _ (.tail _ (.tail _ (.head _)))).m
  k_extra "goM|LC"
  rename Fr h₀ L _ _ => FP
  rename News h₀ L _ _ => NP
  refine storeX_M FP NP (by rfl) (o := oF) ?m dF ?_ (by rfl) (by rfl)
  case m => k_mem
  clear FP NP
  intro h3 oF' F3 N3 dF'
  k_extra "goM|LC"
  rename ∀ p ∈ nwM, p.1 < _ => lr
  refine byC fun U0 => ?_
  obtain ⟨rA, er⟩ := name_lt lr
  subst er
  rename ∀ p ∈ (rA, W.listOf #[] 0) :: nwM, p.1 < _ => lt
  obtain ⟨tA, et⟩ := name_lt lt
  subst et
  rename _ ∧ _ ∧ AllLt _ nwM => lf
  obtain ⟨lf1, lf2, lf⟩ := lf
  obtain ⟨fD, ef⟩ := name_all lf
  subst ef
  rename Obj.IsDictOf (intKind prog w) _ [] => hid
  rename (_ == sysModules) = false => los
  rename Obj.data _ = Data.cell (some (Value.ref M.mI)) => dM'
  obtain ⟨oM', eo⟩ := name_cell dM'
  subst eo
  rename News h₀ L _ _ => NP
  obtain ⟨nwF, eF⟩ := name_news NP
  obtain ⟨hK, NK⟩ := NK
  have ltM : @LT.lt Nat _ (L + 1) rA := lr _ cM
  have ltF : @LT.lt Nat _ (L + 1 + 1) rA := lr _ cF
  have ltA : @LT.lt Nat _ rA tA := lt _ mem_hd
  have lf1' : @LT.lt Nat _ tA fD := lf1
  have SM : LM w nwF ⟨tb, tcl, fD, rA, tA, tcs, M, v1, v2, σ1, σ2⟩ k v emptyS [] [] [] [] [(L + 1, oM'), (L + 2, oF')] := lm_start S (.tail _ (.head _)) (.tail _ (.tail _ (.head _))) (by show @Ne Nat _ _; lia) dM dF NK R1 sM nM dN eN fN lr (fun p hp => lt p (mem_tl hp)) (allLt_mem lf) (Nat.ne_of_lt ltA) (Nat.ne_of_lt lf2) (Nat.ne_of_lt lf1) (fun p hp h1 h2 => by rw [eF]; exact put_of (put_of (mem_tl (mem_tl (mem_tl (mem_tl hp)))) h1) h2) (by rw [eF]; exact put_of put_self (by show @Ne Nat _ _; lia)) (by rw [eF]; exact put_self) (by rw [eF]; exact put_of (put_of (mem_tl (mem_tl (mem_tl mem_hd))) (by show @Ne Nat _ _; lia)) (by show @Ne Nat _ _; lia)) (by rw [eF]; exact put_of (put_of (mem_tl (mem_tl mem_hd)) (by show @Ne Nat _ _; lia)) (by show @Ne Nat _ _; lia)) (td_empty los (by rw [eF]; exact put_of (put_of (mem_tl mem_hd) (by show @Ne Nat _ _; lia)) (by show @Ne Nat _ _; lia)) hid)
  rw [← eF] at NP
  obtain ⟨G, eG⟩ : ∃ G : LG, G = ⟨tb, tcl, fD, rA, tA, tcs, M, v1, v2, σ1, σ2⟩ := ⟨_, rfl⟩
  refine U0 ?_
  clear U0
  rw [← eG] at SM
  have F4 : Fr h₀ L h3 (kstB (fun y => if y = Str.ofString "told" then some (Value.ref tA) else if y = Str.ofString "rows" then some (Value.ref rA) else if y = Str.ofString "one" then some (Value.ref M.y1.hI) else if y = Str.ofString "other" then some (Value.ref M.y2.hI) else if y = Str.ofString "tube" then some (Value.ref tb) else m y) (lawV G)) := fr_kstB _ F3 (all_of F3 (by rw [eG]; exact rfl))
  have dM2 : Obj.data oM' = Data.cell (some (Value.ref G.M.mI)) := by rw [eG]; exact dM'
  have dF2 : oF'.data = Data.cell (some (Value.ref G.fD)) := by rw [eG]; exact dF'
  have HX2 : HG opsX G.σ1 := by rw [eG]; exact HX
  have HY2 : HG opsY G.σ2 := by rw [eG]; exact HY
  have hz2 : G.tcs.length ≤ 1000 := by rw [eG]; exact hz
  clear S NK R1 sM nM dN eN fN lr lt lf lf1 lf2 eF hid los dM' dF' S1 S2 dM dF cM cF eG F3 HX HY hz ltM ltF ltA lf1'
  obtain ⟨m4, e4⟩ := name_frB F4
  rw [← e4] at F4
  clear e4
  have hA9 := SM.h1
  have hB9 := SM.h2
  have hC9 := SM.m
  have hD9 := hC9.h
  have xA9 := SM.x0
  have xB9 := SM.x1
  have n0 : emptyS.nodes.length = 0 := rfl
  k_extra "goN|LC"
  all_goals (try (exfalso; lia))
  rename Fr h₀ L _ _ => FX
  rename News h₀ L _ _ => NX
  rename IsRange _ _ 0 _ 1 _ _ _ => rgX
  rename LM _ _ _ _ _ _ _ _ _ _ _ => SL
  rename _ < 9 => lt9
  refine byC fun U0 => ?_
  obtain ⟨nwL, eL⟩ := name_news NX
  obtain ⟨r, er⟩ := name_nlt lt9
  subst eL er
  refine U0 ?_
  clear U0
  have lt9 : r < 9 := lt9
  clear hA9 hB9 hC9 hD9 xA9 xB9 n0
  k_dflt (refine' for_E (σ := List (Addr × Obj) × Nat × Dy × HS × List ((Nat × Nat) × Nat) × List Row × List (Nat × Nat)) (fun c => c.1) (fun _ => dr) (fun _ => lawV G) [Str.ofString "lap", Str.ofString "wide", Str.ofString "pair", Str.ofString "kids", Str.ofString "k", Str.ofString "op", Str.ofString "row", Str.ofString "is_due"] (fun i c => LM w c.1 G c.2.1 c.2.2.1 c.2.2.2.1 c.2.2.2.2.1 c.2.2.2.2.1 c.2.2.2.2.2.1 c.2.2.2.2.2.2 [(L + 1, oM'), (L + 2, oF')] ∧ LI i c.2.2.2.1 c.2.2.2.2.1 c.2.2.2.2.2.1 c.2.2.2.2.2.2 c.2.1) (nwL, k + 1, v, emptyS, [], [], []) ?hd0 ?hx ?hpl ?It ?fix ?hk0 ?i0 ?_ ?_)
  case hd0 => rfl
  case hx => rfl
  case hpl => rfl
  case It => exact iterG_range (n := 2 + r) rfl FX NX rgX (range_small (n := 2 + r) (by lia)) (range_size (2 + r))
  case fix => exact fun _ _ _ _ hp => nomatch hp
  case hk0 => exact all_of FX rfl
  case i0 => exact ⟨SL, { li_start with k := by dsimp only; lia }⟩
  · intro i x
    refine pr7 fun nw1 k1 v' σ' ps' rows' told' => ?_
    intro u h9 tk9 I oI hi P1 P2 off hcl F9 N9
    refine byC fun U0 => ?_
    obtain ⟨t, rfl⟩ := P1
    obtain ⟨S, J⟩ := P2
    refine U0 ?_
    clear U0
    rw [Int.zero_add] at F9
    dsimp only at S J off N9 F9 ⊢
    refine law_t B F9 X N9 T (S.push off) J hz2 HX2 HY2 (by lia) dM2 dF2 ?_
    intro h' tk' m' nw' v'' σ'' ps'' rows'' told'' k'' F' hk' hr' N' S' J'
    refine FoEndD.intro (σ := List (Addr × Obj) × Nat × Dy × HS × List ((Nat × Nat) × Nat) × List Row × List (Nat × Nat)) (Led := fun c => c.1) (drOf := fun _ => dr) (ps := fun _ => lawV G) (offI I nw', k'', v'', σ'', ps'', rows'', told'') F' N' (fun p hp => (mem_offI.mp hp).1) S'.x0 (fun p hp => (mem_offI.mp hp).2) hk' ?hr ⟨S'.pop N' hcl, J'⟩
    case hr =>
      refine over_trans hr' ?_
      k_extra "over"
  · refine pr7 fun nw1 k1 v' σ' ps' rows' told' => ?_
    intro u h9 tk9 P3 F9 N9
    refine byC fun U0 => ?_
    obtain ⟨S, J⟩ := P3
    refine U0 ?_
    clear U0
    dsimp only at S J N9 F9 ⊢
    exact law_e B F9 X N9 T S J (by lia) HX2 HY2 dM2 dF2 fun h' tk' dr m' F' => ret h' tk' dr m' F'

end
end Mine

open PySem PySem.W PySem.Calls PyProof.Rows PySem.Spec
namespace Mine
section
set_option maxHeartbeats 20000000
example : True := by
  (k_with "hs" => first | (try (refine hideS ?_; intro sSk)) | fail)
  (k_with "c|LB" => first | (first | (k_extra "?eval"; first | k_extra "keval|2") | (k_extra "?execs"; first | k_extra "kexecs|2") | (k_extra "?call"; first | k_extra "kcall|2") | (k_extra "?getMethod"; first | k_extra "kgetMethod|2") | (k_extra "?getAttr"; first | k_extra "kgetAttr|2") | (k_extra "?callWith"; first | k_extra "kcallWith|2") | (k_extra "?subscriptTail"; first | k_extra "ksubscriptTail|2") | (k_extra "?exec"; first | k_extra "cexec|D" | k_extra "kexec|D" | k_extra "kexec|2") | (k_extra "?newTuple"; first | k_extra "knewTuple|2") | (k_extra "?newList"; first | k_extra "knewList|2") | (k_extra "?binaryOp"; first | k_extra "kbinaryOp|2") | (k_extra "?setItem"; first | k_extra "ksetItem|2") | k_extra "And|2") | fail)
  (k_with "step|LB" => first | (first | k_extra "c|LB" | ((fail_if_success (with_reducible show wpAny _ _ (call (Value.ref _) _) _ _ _)); (fail_if_success (with_reducible show wpAny _ _ (pyIter (Value.ref _)) _ _ _)); (fail_if_success (with_reducible show wpAny _ _ (call (Value.builtin "sorted") _) _ _ _)); (fail_if_success (with_reducible show KswEnd _ _ _ _ _ _ _ _ _ _ _ _)); walk1) | (k_here; k_dflt k_extra "walkin")) | fail)
  (k_with "go|LB" => first | (repeat' k_extra "step|LB") | fail)
  trivial
section
variable {w : World} {A₀ : Around} {base h₀ : Heap} {outer : List Env} {cn : Str} {cs : Scope} {L fa : Addr} {ccd : Value} {cl : List (Str × Addr)} {m mg mb : Str → Option Value} {mean : ExcName → Option Value} {news : List (Addr × Obj)} {s : Shared} {Q : Value → Shared → Prop} {dp un : Nat} {gd : Option (List Code)}

variable {news₀ : List (Addr × Obj)} {v₀ : Dy} {σ₀ : HS}
theorem hmerge_m {y : Lay} {v : Dy} {σ : HS} {a b : Nat} {ta tb : Tok} {r : Value} {bd : Nat}
    (B : Below A₀ base outer h₀) (F : Fr h₀ L s.heap m) (X : (Mine.hd.heap_1 w.params).In h₀) (N : News h₀ L s.heap news) (T : Top Mine.hd.view_1 (looseW Mine.hd.view_1 []) mean mg mb h₀) (hk : cs.kind = .function) (hd : dp + 16 < 1000) (hu : un + 150 < 1000) (H : HRep w news y v σ) (K : Kept y v₀ σ₀ v σ news₀ news) (O : Ok bd σ) (hbd : bd ≤ 1000) (ha : a < σ.par.length) (hb : b < σ.par.length)
    (ret : ∀ c h' tk' v' news', Fr h₀ L h' m → News h₀ L h' news' → HRep w news' y v' (mergeS σ a b) → Kept y v₀ σ₀ v' (mergeS σ a b) news₀ news' → TupStay news news' → Q (.bool c) { s with heap := h', toks := tk' }) :
    wpAny (model prog w) (ktrTop dp un gd cn cs L fa ccd cl outer) (call (.ref 324) [.ref y.hI, .int a ta, .int b tb, r]) Q (fun _ _ => False) s := by
  refine hmerge_c B F X N T hk hd hu H K O hbd ha hb (fun e h' tk' nw' F' N' H' K' st => ?_) (fun e h' tk' v' nw' F' N' H' K' st => ?_)
  · have e' : mergeS σ a b = nojoin σ := if_pos e
    rw [e'] at ret
    exact ret _ _ _ _ _ F' N' H' K' st
  · have e' : mergeS σ a b = joined σ (min (root σ.par a) (root σ.par b)) (max (root σ.par a) (root σ.par b)) := if_neg e
    rw [e'] at ret
    exact ret _ _ _ _ _ F' N' H' K' st
theorem settle_still {y : Lay} {v : Dy} {σ : HS} {b : Nat}
    (B : Below A₀ base outer h₀) (F : Fr h₀ L s.heap m) (X : (Mine.hd.heap_1 w.params).In h₀) (N : News h₀ L s.heap news) (T : Top Mine.hd.view_1 (looseW Mine.hd.view_1 []) mean mg mb h₀) (hk : cs.kind = .function) (hd : dp + 22 < 1000) (hu : un + 180 < 1000) (H : HRep w news y v σ) (K : Kept y v₀ σ₀ v σ news₀ news) (O : Ok b σ) (hb : b ≤ 1000) (hw : σ.wait = [])
    (ret : ∀ h' tk' v' news', Fr h₀ L h' m → News h₀ L h' news' → HRep w news' y v' σ → Kept y v₀ σ₀ v' σ news₀ news' → TupStay news news' → Q .none { s with heap := h', toks := tk' }) :
    wpAny (model prog w) (ktrTop dp un gd cn cs L fa ccd cl outer) (call (.ref 338) [.ref y.hI]) Q (fun _ _ => False) s :=
  settle_c B F X N T hk hd hu H K O hb fun σ' S O' w' h' tk' v' nw' F' N' H' K' st => by
    obtain rfl := steps_still S hw
    exact ret _ _ _ _ F' N' H' K' st
end
example : True := by
  (k_with "c|LB" => first | ((k_here; (with_reducible refine (?_ : wpAny _ _ (call (Value.ref 444) _) _ _ _)); refine wpAny_noRaise ?_; (rename LZ _ _ _ _ _ _ _ _ _ _ _ _ _ => lS9k); k_dflt (refine' tap_c ?BKK ?FKK ?XKK ?NKK ?TKK ?hkKK ?hdKK ?huKK ?T0KK ?hzKK ?haKK ?hmKK ?_; (case BKK => k_asm); (case FKK => k_asm); (case XKK => k_asm); (case NKK => k_asm); (case TKK => k_asm); (case hkKK => first | assumption | exact rfl); (case hdKK => k_extra "room"); (case huKK => k_extra "room"); (case T0KK => exact Tube.sub (LS.t (LZ.s lS9k)) (by intro p9k hp9k; k_extra "insub")); (case hzKK => assumption); (case haKK => lia); (case hmKK => decide)); intro r9k lt9k t9k h9k tk9k nw9k F9k N9k T9k k9k a9k st9k; replace lS9k := LZ.tap (LZ.sub lS9k (by intro p9k hp9k; k_extra "insub")) T9k k9k st9k; have hA9k := LS.h1 (LZ.s lS9k); have hB9k := LS.h2 (LZ.s lS9k); (try dsimp only); (try k_sweep))) | fail)
  (k_with "goS|LB" => first | (repeat' ((fail_if_success (with_reducible show wpAny _ _ (call (Value.ref 324) _) _ _ _)); (fail_if_success (with_reducible show wpAny _ _ (call (Value.ref 338) _) _ _ _)); k_extra "step|LB")) | fail)
  trivial

variable {w : World} {A₀ : Around} {base h₀ : Heap} {L fa : Addr} {ccd : Value} {m mg mb : Str → Option Value} {mean : ExcName → Option Value} {news : List (Addr × Obj)} {s : Shared} {Q : Flow → Shared → Prop}
theorem law_b {tb tcl : Addr} {tcs : List Nat} {y1 y2 : Lay} {v1 v2 : Dy} {oM oF : Obj} {cM cF : Option Value}
    (B : Below A₀ base [] h₀) (F : Fr h₀ L s.heap (kstB m [(Str.ofString "one", .ref y1.hI), (Str.ofString "other", .ref y2.hI), (Str.ofString "tube", .ref tb)])) (X : (Mine.hd.heap_1 w.params).In h₀) (N : News h₀ L s.heap news) (T : Top Mine.hd.view_1 (looseW Mine.hd.view_1 []) mean mg mb h₀)
    (S : LZ w news tb tcl 0 tcs y1 v1 (leafS opsX) y2 v2 (leafS opsY) [(L + 1, oM), (L + 2, oF)]) (hz : tcs.length ≤ 1000) (OX : LeafO opsX (leafS opsX)) (OY : LeafO opsY (leafS opsY)) (dM : oM.data = .cell cM) (dF : oF.data = .cell cF)
    (ret : ∀ h' tk' dr m', Fr h₀ L h' m' → Q (.ret (.bool true)) { s with heap := h', toks := tk', drawn := dr }) :
    wpAny (model prog w) (ktrTop 302 7 (some []) (Str.ofString "law") lawS L fa ccd (cellsFrom (L + 1) lawS.names []) []) (execs (lawB.drop 3) (envOfC (Str.ofString "law") lawS L fa ccd)) Q (fun _ _ => False) s := by
  with_unfolding_all refine (?_ : wpAny (model prog w) (ktrTop _ _ _ _ ⟨_, _, _, _, _⟩ _ _ _ (cellsFrom _ (_ :: _) _) _) (execs [_, _, _, _, _, _, _, _] (envOfC _ ⟨_, _, _, _, _⟩ _ _ _)) _ _ _)
  refine hideA ?_
  intro Ak
  have hAu : Ak.units = 7 := rfl
  have hAd : Ak.depth = 302 := rfl
  have S1 := S.s.h1
  have S2 := S.s.h2
  k_extra "go|LB"
  rename Fr _ _ _ _ => FX
  rename News _ _ _ ((_, tupObj _) :: news) => NX
  refine byC fun U0 => ?_
  obtain ⟨nwC, eC⟩ := name_news NX
  have sC : ∀ p ∈ news, p ∈ nwC := fun p hp => by rw [eC]; exact mem_tl hp
  rename ∀ p ∈ news, p.1 < _ => lc
  obtain ⟨D', eD⟩ := name_lt lc
  subst eD
  refine U0 ?_
  clear U0
  have hT : (D', tupObj [.ref y1.hI, .ref y2.hI]) ∈ nwC := by rw [eC]; exact mem_hd
  rw [← eC] at NX
  k_dflt (refine' for_E (σ := List (Addr × Obj) × (Dy × HS) × (Dy × HS) × Nat) (fun c => c.1) (fun _ => s.drawn) (fun _ => [(Str.ofString "one", .ref y1.hI), (Str.ofString "other", .ref y2.hI), (Str.ofString "tube", .ref tb)]) [Str.ofString "heap", Str.ofString "n"] (fun i c => LZ w c.1 tb tcl c.2.2.2 tcs y1 c.2.1.1 c.2.1.2 y2 c.2.2.1.1 c.2.2.1.2 [(D', tupObj [.ref y1.hI, .ref y2.hI]), (L + 1, oM), (L + 2, oF)] ∧ c.2.2.2 ≤ 3 * i ∧ HG opsX c.2.1.2 ∧ HG opsY c.2.2.1.2 ∧ (0 < i ∨ c.2.1.2 = leafS opsX) ∧ (1 < i ∨ c.2.2.1.2 = leafS opsY)) (nwC, (v1, leafS opsX), (v2, leafS opsY), 0) ?hd0 ?hx ?hpl ?It ?fix ?hk0 ?i0 ?_ ?_)
  case hd0 => rfl
  case hx => rfl
  case hpl => rfl
  case It => exact iterG_tup rfl FX NX hT
  case fix => intro i c hc p hp; rw [List.mem_singleton.mp hp]; exact (hc.1.x _ (.head _)).m
  case hk0 => exact all_of FX rfl
  case i0 => exact ⟨eC ▸ S.push (fun p hp => Nat.ne_of_lt (lc p hp)), Nat.zero_le _, OX.hg rfl, OY.hg rfl, .inr rfl, .inr rfl⟩
  · intro i x
    refine pr4 fun nw1 z1 z2 at1 => ?_
    revert z1
    refine pr2 fun u1 τ1 => ?_
    revert z2
    refine pr2 fun u2 τ2 => ?_
    intro u h9 tk9 I oI hi hv P3 off hcl F9 N9
    refine byC fun U0 => ?_
    obtain ⟨S, ha, G1, G2, q1, q2⟩ := P3
    refine U0 ?_
    clear U0
    dsimp only at S ha G1 G2 q1 q2 off N9 F9 ⊢
    refine nameM (g := h₀) (L' := L) F9 ?_
    clear F9
    intro mM F9
    have N9 : News h₀ L _ _ := N9
    have i0 := (S.s.offs off).2.1
    have iX : ∀ p ∈ [(D', tupObj [.ref y1.hI, .ref y2.hI]), (L + 1, oM), (L + 2, oF)], p.1 ≠ I := fun p hp => off p (S.x p hp).m
    have S := S.push (I := I) (oI := oI) off
    have SI1 := S.s.h1
    have SI2 := S.s.h2
    have hi' : i < 2 := hi
    rcases i with _ | _ | i
    · refine byC fun U0 => ?_
      obtain rfl : x = .ref y1.hI := by simpa using hv.symm
      obtain rfl : τ1 = leafS opsX := q1.resolve_left (by lia)
      refine U0 ?_
      clear U0
      k_extra "goS|LB"
      · (rename LZ _ _ _ _ _ _ _ _ _ _ _ _ _ => SZ)
        rename News h₀ L _ ((_, tupObj _) :: _) => NM
        obtain ⟨nwM, eM⟩ := name_news NM
        have SM := SZ.sub (nw' := nwM) (fun p hp => by rw [eM]; exact mem_tl hp)
        rw [← eM] at NM
        refine wpAny_noRaise ?_
        refine hmerge_m B (by assumption) X NM T rfl (by k_extra "room") (by k_extra "room") SM.s.h1 (kept_here NM) OX.ok (by decide) (by rw [OX.par]; assumption) (by rw [OX.par]; assumption) ?_
        intro c h1 tk1 v' nw' F' N' H' K' st'
        k_extra "goS|LB"
        refine wpAny_noRaise ?_
        refine settle_still (b := 130) B (by assumption) X (by assumption) T rfl (by k_extra "room") (by k_extra "room") H' K' (HG.o (OX.hgm rfl (by assumption) (by assumption))) (by decide) (HG.w (OX.hgm rfl (by assumption) (by assumption))) ?_
        intro h2 tk2 v'' nw'' F'' N'' H'' K'' st''
        k_extra "goS|LB"
        have SE := SM.op1 H'' K'' (TupStay.trans st' st'')
        refine FoEndD.put (σ := List (Addr × Obj) × (Dy × HS) × (Dy × HS) × Nat) (Led := fun c => c.1) (drOf := fun _ => s.drawn) (ps := fun _ => [(Str.ofString "one", .ref y1.hI), (Str.ofString "other", .ref y2.hI), (Str.ofString "tube", .ref tb)]) (offI I nw'', (v'', mergeS (leafS opsX) _ _), (u2, τ2), at1 + 1 + 1 + 1) F'' N'' (fun p hp => (mem_offI.mp hp).1) (SE.x _ (.head _)).m (fun p hp => (mem_offI.mp hp).2) rfl ?_ ⟨SE.pop N'' hcl i0 iX, by dsimp only; lia, OX.hgm rfl (by assumption) (by assumption), G2, .inl (Nat.succ_pos _), .inr (q2.resolve_left (by lia))⟩
        k_extra "over"
      · rename Fr h₀ L _ _ => kF
        rename News h₀ L _ _ => kN
        (rename LZ _ _ _ _ _ _ _ _ _ _ _ _ _ => SE)
        refine FoEndD.put (σ := List (Addr × Obj) × (Dy × HS) × (Dy × HS) × Nat) (Led := fun c => c.1) (drOf := fun _ => s.drawn) (ps := fun _ => [(Str.ofString "one", .ref y1.hI), (Str.ofString "other", .ref y2.hI), (Str.ofString "tube", .ref tb)]) (offI I _, (u1, leafS opsX), (u2, τ2), at1 + 1) kF kN (fun p hp => (mem_offI.mp hp).1) (SE.x _ (.head _)).m (fun p hp => (mem_offI.mp hp).2) rfl ?_ ⟨SE.pop kN hcl i0 iX, by dsimp only; lia, OX.hg rfl, G2, .inl (Nat.succ_pos _), .inr (q2.resolve_left (by lia))⟩
        k_extra "over"
    · refine byC fun U0 => ?_
      obtain rfl : x = .ref y2.hI := by simpa using hv.symm
      obtain rfl : τ2 = leafS opsY := q2.resolve_left (by lia)
      refine U0 ?_
      clear U0
      k_extra "goS|LB"
      · (rename LZ _ _ _ _ _ _ _ _ _ _ _ _ _ => SZ)
        rename News h₀ L _ ((_, tupObj _) :: _) => NM
        obtain ⟨nwM, eM⟩ := name_news NM
        have SM := SZ.sub (nw' := nwM) (fun p hp => by rw [eM]; exact mem_tl hp)
        rw [← eM] at NM
        refine wpAny_noRaise ?_
        refine hmerge_m B (by assumption) X NM T rfl (by k_extra "room") (by k_extra "room") SM.s.h2 (kept_here NM) OY.ok (by decide) (by rw [OY.par]; assumption) (by rw [OY.par]; assumption) ?_
        intro c h1 tk1 v' nw' F' N' H' K' st'
        k_extra "goS|LB"
        refine wpAny_noRaise ?_
        refine settle_still (b := 130) B (by assumption) X (by assumption) T rfl (by k_extra "room") (by k_extra "room") H' K' (HG.o (OY.hgm rfl (by assumption) (by assumption))) (by decide) (HG.w (OY.hgm rfl (by assumption) (by assumption))) ?_
        intro h2 tk2 v'' nw'' F'' N'' H'' K'' st''
        k_extra "goS|LB"
        have SE := SM.op2 H'' K'' (TupStay.trans st' st'')
        refine FoEndD.put (σ := List (Addr × Obj) × (Dy × HS) × (Dy × HS) × Nat) (Led := fun c => c.1) (drOf := fun _ => s.drawn) (ps := fun _ => [(Str.ofString "one", .ref y1.hI), (Str.ofString "other", .ref y2.hI), (Str.ofString "tube", .ref tb)]) (offI I nw'', (u1, τ1), (v'', mergeS (leafS opsY) _ _), at1 + 1 + 1 + 1) F'' N'' (fun p hp => (mem_offI.mp hp).1) (SE.x _ (.head _)).m (fun p hp => (mem_offI.mp hp).2) rfl ?_ ⟨SE.pop N'' hcl i0 iX, by dsimp only; lia, G1, OY.hgm rfl (by assumption) (by assumption), .inl (Nat.succ_pos _), .inl (by decide)⟩
        k_extra "over"
      · rename Fr h₀ L _ _ => kF
        rename News h₀ L _ _ => kN
        (rename LZ _ _ _ _ _ _ _ _ _ _ _ _ _ => SE)
        refine FoEndD.put (σ := List (Addr × Obj) × (Dy × HS) × (Dy × HS) × Nat) (Led := fun c => c.1) (drOf := fun _ => s.drawn) (ps := fun _ => [(Str.ofString "one", .ref y1.hI), (Str.ofString "other", .ref y2.hI), (Str.ofString "tube", .ref tb)]) (offI I _, (u1, τ1), (u2, leafS opsY), at1 + 1) kF kN (fun p hp => (mem_offI.mp hp).1) (SE.x _ (.head _)).m (fun p hp => (mem_offI.mp hp).2) rfl ?_ ⟨SE.pop kN hcl i0 iX, by dsimp only; lia, G1, OY.hg rfl, .inl (Nat.succ_pos _), .inl (by decide)⟩
        k_extra "over"
    · lia
  · refine pr4 fun nw1 z4 z5 at1 => ?_
    revert z4
    refine pr2 fun u1 τ1 => ?_
    revert z5
    refine pr2 fun u2 τ2 => ?_
    intro u h9 tk9 P6 F9 N9
    refine byC fun U0 => ?_
    obtain ⟨S, ha, G1, G2, q1, q2⟩ := P6
    refine U0 ?_
    clear U0
    dsimp only at S ha G1 G2 q1 q2 N9 F9 ⊢
    exact law_m B F9 X N9 T S hz (by omega) G1 G2 dM dF fun h' tk' dr m' F' => ret h' tk' dr m' F'

end
end Mine

open PySem PySem.W PySem.Calls PyProof.Rows PySem.Spec
namespace Mine
section
set_option maxHeartbeats 20000000
set_option tactic.hygienic true
example : True := by
  (k_with "room" => first | (first | (first | lia | omega) | ((try simp only [depth_deeper, units_deeper, depth_in1, units_in1, depth_caller, Around.mark_units]); first | (first | lia | omega) | decide | (dsimp only [ktrTop, callerA]; first | (first | lia | omega) | decide)) | (trace_state; fail)) | fail)
  (k_with "ccall|I" => first | (((k_here; (with_reducible refine (?_ : wpAny _ _ (call (Value.ref 386) _) _ _ _)); refine wpAny_noRaise ?_; k_dflt (refine' heap_new ?BKK ?FKK ?XKK ?NKK ?TKK ?hkKK ?hdKK ?huKK ?_; (case BKK => k_asm); (case FKK => k_asm); (case XKK => k_asm); (case NKK => k_asm); (case TKK => k_asm); (case hkKK => first | assumption | exact rfl); (case hdKK => k_extra "room"); (case huKK => k_extra "room")); intro y9k v9k h9k tk9k nw9k F9k N9k H9k s9k f9k o9k; (try dsimp only)); k_extra "hs")) | fail)
  trivial
example : True := by
  (k_with "hs" => first | (skip) | fail)
  (k_with "c|LA" => first | (first | (k_extra "?eval"; first | k_extra "keval|2") | (k_extra "?execs"; first | k_extra "kexecs|2") | (k_extra "?call"; first | k_extra "ccall|I" | k_extra "kcall|2") | (k_extra "?getMethod"; first | k_extra "kgetMethod|2") | (k_extra "?getAttr"; first | k_extra "kgetAttr|2") | (k_extra "?callWith"; first | k_extra "kcallWith|2") | (k_extra "?subscriptTail"; first | k_extra "ksubscriptTail|2") | (k_extra "?exec"; first | k_extra "cexec|D" | k_extra "kexec|D" | k_extra "kexec|2") | (k_extra "?newTuple"; first | k_extra "knewTuple|2") | (k_extra "?newList"; first | k_extra "knewList|2") | (k_extra "?binaryOp"; first | k_extra "kbinaryOp|2") | (k_extra "?setItem"; first | k_extra "ksetItem|2") | k_extra "And|2") | fail)
  (k_with "step|LA" => first | (first | k_extra "c|LA" | ((fail_if_success (with_reducible show wpAny _ _ (call (Value.ref _) _) _ _ _)); (fail_if_success (with_reducible show wpAny _ _ (pyIter (Value.ref _)) _ _ _)); (fail_if_success (with_reducible show wpAny _ _ (call (Value.builtin "sorted") _) _ _ _)); (fail_if_success (with_reducible show KswEnd _ _ _ _ _ _ _ _ _ _ _ _)); walk1) | (k_here; k_dflt k_extra "walkin")) | fail)
  (k_with "go|LA" => first | (repeat' k_extra "step|LA") | fail)
  (k_with "goP|LA" => first | (repeat' ((fail_if_success (with_reducible show wpAny _ _ (call (Value.ref 296) _) _ _ _)); k_extra "step|LA")) | fail)
  trivial
theorem ints_any : ∀ {vs : List Value} {ns : List Int}, IntsAre vs ns → ∀ {i : Nat} {v : Value}, vs[i]? = some v → ∃ (z : Int) (t : Tok), v = .int z t
  | _, _, .nil, i, v, h => by simp at h
  | _, _, .cons z t r, 0, v, h => by
    simp at h
    exact ⟨z, t, h.symm⟩
  | _, _, .cons z t r, i + 1, v, h => ints_any r (by simpa using h)
theorem kdn_M {w : World} {s : Shared} {h₀ : Heap} {L d : Addr} {m : Str → Option Value} {news : List (Addr × Obj)} {o : Obj} {vs : List (Value × Value)} {Q : Value → Shared → Prop} (F : Fr h₀ L s.heap m) (N : News h₀ L s.heap news) (hm : (d, o) ∈ news) (hd : o.IsDictOf (PySem.strKind prog w) []) (hk : allStrKeys vs = true) (hn : ((strPairs vs).map (·.1)).Nodup)
    (h : ∀ h' o', Fr h₀ L h' m → News h₀ L h' (put d o' news) → o'.IsDictOf (PySem.strKind prog w) (strPairs vs) → Q (.ref d) { s with heap := h', toks := s.toks + vs.length }) : KdnMade prog w (PySem.strKind prog w) d Q vs s :=
  kdn_made_str (g := fun o' => put d o' news) F (news_front N hm) (.head fun p hp => by have := (List.mem_filter.mp hp).2; simpa using this) hd hk hn h
section
variable {w : World} {nw nwA nwB : List (Addr × Obj)} {tb tcl c c' : Addr} {k : Nat} {tcs : List Nat} {y1 y2 : Lay} {v1 v2 : Dy} {σ1 σ2 : HS} {o o' : Obj}
theorem lx_cell (m1 : (c, o) ∈ nwA) (sB : ∀ p ∈ nwA, p ∈ nwB) (fB : ∀ p ∈ nwA, p.1 < y2.hD) (oB : ∀ x : Nat, y2.own v2 σ2 x → y2.hD ≤ x) (oA : ∀ x : Nat, y1.own v1 σ1 x → y1.hD ≤ x) (l1 : @LT.lt Nat _ c y1.hD) (nt : c ≠ tb) : LX nwB tb y1 v1 σ1 y2 v2 σ2 c o :=
  ⟨sB _ m1, fun q => Nat.lt_irrefl _ (Nat.lt_of_lt_of_le l1 (oA _ q)), fun q => Nat.lt_irrefl _ (Nat.lt_of_lt_of_le (fB _ m1) (oB _ q)), nt⟩
theorem lz_two (S : LS w nw tb tcl k tcs y1 v1 σ1 y2 v2 σ2) (x : LX nw tb y1 v1 σ1 y2 v2 σ2 c o) (x' : LX nw tb y1 v1 σ1 y2 v2 σ2 c' o') : LZ w nw tb tcl k tcs y1 v1 σ1 y2 v2 σ2 [(c, o), (c', o')] := ⟨S, fun p hp => by
  rcases List.mem_cons.mp hp with rfl | hp
  · exact x
  · rw [List.mem_singleton.mp hp]; exact x'⟩
theorem name_lz {Xs : List (Addr × Obj)} (_S : LZ w nw tb tcl k tcs y1 v1 σ1 y2 v2 σ2 Xs) : ∃ x, x = Xs := ⟨_, rfl⟩
end
theorem op_x {i : Nat} (hi : i < 4) : ∃ op, Str.ofString "x" ++ Str.ofString (toString (i : Int)) = op ∧ opsX.take (i + 1) = opsX.take i ++ [op] ∧ op ∈ opsX ∧ op ∉ opsX.take i := by
  rcases i with _ | _ | _ | _ | i
  · exact ⟨Str.ofString "x0", by decide +kernel, by decide +kernel, by decide +kernel, by decide +kernel⟩
  · exact ⟨Str.ofString "x1", by decide +kernel, by decide +kernel, by decide +kernel, by decide +kernel⟩
  · exact ⟨Str.ofString "x2", by decide +kernel, by decide +kernel, by decide +kernel, by decide +kernel⟩
  · exact ⟨Str.ofString "x3", by decide +kernel, by decide +kernel, by decide +kernel, by decide +kernel⟩
  · lia
theorem op_y {i : Nat} (hi : i < 4) : ∃ op, Str.ofString "y" ++ Str.ofString (toString (i : Int)) = op ∧ opsY.take (i + 1) = opsY.take i ++ [op] ∧ op ∈ opsY ∧ op ∉ opsY.take i := by
  rcases i with _ | _ | _ | _ | i
  · exact ⟨Str.ofString "y0", by decide +kernel, by decide +kernel, by decide +kernel, by decide +kernel⟩
  · exact ⟨Str.ofString "y1", by decide +kernel, by decide +kernel, by decide +kernel, by decide +kernel⟩
  · exact ⟨Str.ofString "y2", by decide +kernel, by decide +kernel, by decide +kernel, by decide +kernel⟩
  · exact ⟨Str.ofString "y3", by decide +kernel, by decide +kernel, by decide +kernel, by decide +kernel⟩
  · lia
theorem law_start : PySem.Challenge.rw_rh0009_01.Holds := by
  refine fin fun d kwd hdef => ?_
  have hdef2 : some (_, _) = some (d, kwd) := hdef
  refine byC fun U0 => ?_
  obtain ⟨rfl, rfl⟩ := Prod.mk.inj (Option.some.inj hdef2)
  refine U0 ?_
  clear U0
  clear hdef hdef2
  k_go0
  have eA : ∀ env : Env, callerA.deeper env = { handled := none, depth := 302, frames := some [env], guards := some [], units := 7 } := fun _ => rfl
  rw [eA]
  refine (?_ : wpAny (model prog _) (ktrTop _ _ _ _ _ _ _ _ _ _) _ _ _ _)
  clear eA
  refine wpAny_noRaise ?_
  k_extra "go|LA"
  rename Fr _ _ _ _ => FX
  rename News _ _ _ _ => NX
  rename IntsAre _ (List.take _ _) => iX
  refine compPure (fun i y => ∃ (k : Nat) (t : Tok), y = .int (k : Int) t) rfl (by assumption) (by assumption) (.list mem_hd) (by have e1 := IntsAre.length iX; rw [List.length_take] at e1; lia) ?_ ?_
  · intro i v J C oC m₂ h9 tk9 hv9 hJ hC hx' F9 N9
    refine byC fun U0 => ?_
    obtain ⟨z, tt, rfl⟩ := ints_any iX hv9
    refine U0 ?_
    clear U0
    k_extra "go|LA"
    exact PEnd.intro (by assumption) (by assumption) ⟨(z.fmod 1000003).toNat, _, congrArg (fun q => Value.int q _) (fmod_to z (many := 1000003) (by decide)).1⟩
  · intro D9 ys h9 tk9 hl9 hy F9 N9 hD9
    k_extra "go|LA"
    refine kdn_M (by assumption) N9 (mem_tl (mem_tl mem_hd)) (by assumption) rfl (of_decide_eq_true (by rfl)) ?_
    intro h10 o10 F10 N10 d10
    k_extra "go|LA"
    rename World => w
    rename HRep w _ _ _ emptyS => H2
    refine byC fun U0 => ?_
    obtain ⟨⟨nwB, eB⟩, ⟨y2, ey2⟩, ⟨v2, ev2⟩⟩ := name_hrep H2
    subst eB ey2 ev2
    refine U0 ?_
    clear U0
    revert H2
    rename HRep w _ _ _ emptyS => H1
    refine byC fun U0 => ?_
    obtain ⟨⟨nwA, eA⟩, ⟨y1, ey1⟩, ⟨v1, ev1⟩⟩ := name_hrep H1
    subst eA ey1 ev1
    refine U0 ?_
    clear U0
    intro H2
    rename ∀ p ∈ nwA, p ∈ nwB => sB
    rename ∀ p ∈ nwA, p.1 < y2.hD => fB
    rename ∀ x : Nat, y2.own v2 emptyS x → y2.hD ≤ x => oB
    rename ∀ x : Nat, y1.own v1 emptyS x → y1.hD ≤ x => oA
    rename ∀ p ∈ put _ _ _, p ∈ nwA => sA
    rename ∀ p ∈ put _ _ _, p.1 < y1.hD => fA
    rename (_ == sysModules) = false => lo
    refine byC fun U0 => ?_
    obtain ⟨tb, et⟩ := name_beq lo
    subst et
    obtain ⟨tcs, itc, ltc⟩ := ints_ex fun j y hj => let ⟨k, t, e⟩ := hy j y hj; ⟨k, t, e⟩
    have hDt : D9 ≠ tb := (hD9 _ (mem_tl mem_hd)).symm
    have a1 : (tb, o10) ∈ nwA := sA _ put_self
    have a2 : (D9, W.listOf ys.toArray ys.length) ∈ nwA := sA _ (put_of mem_hd hDt)
    have b1 : @LT.lt Nat _ tb y1.hD := fA (tb, o10) put_self
    have b2 : @LT.lt Nat _ D9 y1.hD := fA (D9, W.listOf ys.toArray ys.length) (put_of mem_hd hDt)
    have S0 := ls_start (tube_start lo (sB _ a1) d10 (sB _ a2) itc) H1 H2 sB fB oB oA a1 b1 a2 b2
    rename _ < tb ∧ _ < tb => lc9
    obtain ⟨lcF, lcM⟩ := lc9
    have Z0 := lz_two S0 (lx_cell (sA _ (put_of (mem_tl (mem_tl (mem_tl (mem_tl mem_hd)))) (Nat.ne_of_lt lcM))) sB fB oB oA (fA _ (put_of (mem_tl (mem_tl (mem_tl (mem_tl mem_hd)))) (Nat.ne_of_lt lcM))) (Nat.ne_of_lt lcM)) (lx_cell (sA _ (put_of (mem_tl (mem_tl (mem_tl mem_hd))) (Nat.ne_of_lt lcF))) sB fB oB oA (fA _ (put_of (mem_tl (mem_tl (mem_tl mem_hd))) (Nat.ne_of_lt lcF))) (Nat.ne_of_lt lcF))
    clear H1 H2 fB oB oA fA a1 a2 b1 b2 itc hy d10 S0 sA hD9 lcF lcM
    rename IsRange _ _ 0 4 1 _ _ _ => rgX
    rename Fr _ _ _ _ => FX
    rename News _ _ _ ((_, tupObj _) :: nwB) => NX
    rename Shared => s1
    obtain ⟨nwC, eC⟩ := name_news NX
    have Z1 := Z0.sub (nw' := nwC) (fun p hp => by rw [eC]; exact mem_tl hp)
    rw [← eC] at NX
    obtain ⟨Xs, eXs⟩ := name_lz Z1
    refine U0 ?_
    clear U0
    rw [← eXs] at Z1
    k_dflt (refine' for_E (σ := List (Addr × Obj) × Dy × Dy) (fun c => c.1) (fun _ => s1.drawn) (fun _ => []) [Str.ofString "k"] (fun i c => LZ w c.1 tb D9 0 tcs y1 c.2.1 (leafS (opsX.take i)) y2 c.2.2 (leafS (opsY.take i)) Xs ∧ LeafO (opsX.take i) (leafS (opsX.take i)) ∧ LeafO (opsY.take i) (leafS (opsY.take i))) (nwC, v1, v2) ?hd0 ?hx ?hpl ?It ?fix ?hk0 ?i0 ?_ ?_)
    case hd0 => rfl
    case hx => rfl
    case hpl => rfl
    case It => exact iterG_range (n := 4) rfl FX NX rgX (range_small (n := 4) (by lia)) (range_size 4)
    case fix => exact fun _ _ _ _ hp => nomatch hp
    case hk0 => exact fun _ hp => nomatch hp
    case i0 => exact ⟨Z1, leafO_nil, leafO_nil⟩
    · intro i x
      refine pr3 fun nw1 u1 u2 => ?_
      intro u h9 tk9 I oI hi P1 P2 off hcl F9 N9
      refine byC fun U0 => ?_
      obtain ⟨t, rfl⟩ := P1
      refine byC fun U0 => ?_
      obtain ⟨S, OX, OY⟩ := P2
      refine U0 ?_
      clear U0
      refine U0 ?_
      clear U0
      rw [Int.zero_add] at F9
      dsimp only at S OX OY off N9 F9 ⊢
      refine byC fun U0 => ?_
      obtain ⟨ox, ex, tx, mx, nx⟩ := op_x hi
      obtain ⟨oy, ey, ty, my, ny⟩ := op_y hi
      refine U0 ?_
      clear U0
      have SI := S.push (I := I) (oI := oI) off
      have SI1 := SI.s.h1
      have SI2 := SI.s.h2
      k_extra "goP|LA"
      rename News _ _ _ ((_, tupObj [Value.str _ _]) :: _) => NP
      rename Fr _ _ _ _ => FP
      rw [ex] at NP
      refine wpAny_noRaise ?_
      refine' put_c ?B FP ?X NP ?T rfl ?hd ?hu (HRep.sub (LS.h1 (LZ.s SI)) fun p hp => mem_tl hp) (kept_here NP) OX.ok ?hb ?hlen (opsX_ok _ mx) mem_hd (OX.new nx) ?_
      case B => k_asm
      case X => k_asm
      case T => k_asm
      case hd => k_extra "room"
      case hu => k_extra "room"
      case hb => rw [List.length_take]; lia
      case hlen => rw [OX.par, List.length_range, List.length_take]; lia
      intro t1 h1 tk1 v1' nw1 F1 N1 H1 K1 st1
      have SX := (LZ.sub SI fun p hp => mem_tl hp).op1 H1 K1 st1
      rw [← leafS_snoc, ← tx] at SX
      clear SI SI1 SI2 H1 K1 st1 NP FP
      have SI1 := SX.s.h1
      have SI2 := SX.s.h2
      k_extra "goP|LA"
      rename News _ _ _ ((_, tupObj [Value.str _ _]) :: _) => NP
      rename Fr _ _ _ _ => FP
      rw [ey] at NP
      refine wpAny_noRaise ?_
      refine' put_c ?B FP ?X NP ?T rfl ?hd ?hu (HRep.sub (LS.h2 (LZ.s SX)) fun p hp => mem_tl hp) (kept_here NP) OY.ok ?hb ?hlen (opsY_ok _ my) mem_hd (OY.new ny) ?_
      case B => k_asm
      case X => k_asm
      case T => k_asm
      case hd => k_extra "room"
      case hu => k_extra "room"
      case hb => rw [List.length_take]; lia
      case hlen => rw [OY.par, List.length_range, List.length_take]; lia
      intro t2 h2 tk2 v2' nw2 F2 N2 H2 K2 st2
      have SY := (LZ.sub SX fun p hp => mem_tl hp).op2 H2 K2 st2
      rw [← leafS_snoc, ← ty] at SY
      clear SX SI1 SI2 H2 K2 st2 NP FP
      k_extra "goP|LA"
      refine FoEndD.put (σ := List (Addr × Obj) × Dy × Dy) (Led := fun c => c.1) (drOf := fun _ => s1.drawn) (ps := fun _ => []) (offI I nw2, v1', v2') F2 N2 (fun p hp => (mem_offI.mp hp).1) (SY.x _ (.head _)).m (fun p hp => (mem_offI.mp hp).2) rfl ?_ ⟨SY.pop N2 hcl (S.s.offs off).2.1 fun p hp => off p (S.x p hp).m, ?_, ?_⟩
      · k_extra "over"
      · rw [tx, leafS_snoc]
        exact OX.add nx (by rw [List.length_take]; lia)
      · rw [ty, leafS_snoc]
        exact OY.add ny (by rw [List.length_take]; lia)
    · refine pr3 fun nw1 u1 u2 => ?_
      intro u h9 tk9 P3 F9 N9
      refine byC fun U0 => ?_
      obtain ⟨S, OX, OY⟩ := P3
      refine U0 ?_
      clear U0
      dsimp only at S OX OY N9 F9 ⊢
      subst eXs
      refine' law_b (y1 := y1) (y2 := y2) (tb := tb) ?B (fr_kstB [(Str.ofString "one", .ref y1.hI), (Str.ofString "other", .ref y2.hI), (Str.ofString "tube", .ref tb)] F9 (all_of F9 rfl)) ?X N9 ?T S ?hz OX OY ?dM ?dF ?_
      case B => k_asm
      case X => k_asm
      case T => k_asm
      case hz =>
        have e1 := IntsAre.length iX
        rw [List.length_take] at e1
        lia
      case dM => assumption
      case dF => assumption
      intro h' tk' dr m' F'
      rename Shared.gens s1 = #[] => hg
      exact goodW_bool F' hg (fun _ => rfl) (by with_unfolding_all rfl)

end
end Mine

end

theorem PySem.Challenge.cw_rh0009_01_holds : PySem.Challenge.rw_rh0009_01.Holds := by
  exact Mine.law_start
