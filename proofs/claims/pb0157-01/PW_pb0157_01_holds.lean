import PyProof.Rows.All
import Wide.All
import OpenK.AllK
import Wide.FinOn
import PySem.Challenge.RW_pb0157_01
open PySem PySem.W PyProof.Rows
set_option Elab.async false
set_option compiler.extract_closed false
set_option linter.all false
set_option maxRecDepth 100000
set_option maxHeartbeats 8000000
namespace Mine
theorem skol {T : Type} {i : Nonempty T} {P : T → Prop} {c : T} (e : c = @Classical.epsilon T i fun p => ¬ P p) (h : P c) (t : T) : P t :=
  Classical.byContradiction fun n => (@Classical.epsilon_spec T (fun p => ¬ P p) ⟨t, n⟩) (e ▸ h)
theorem some_world : Nonempty World := ⟨aWorld 0⟩
theorem some_around : Nonempty Around := ⟨callerA⟩
theorem some_shared : Nonempty Shared := ⟨{}⟩
theorem some_model : Nonempty Model := ⟨model default (aWorld 0)⟩
theorem some_drawn : Nonempty Drawn := ⟨{}⟩
theorem some_pair {A B : Type} (a : Nonempty A) (b : Nonempty B) : Nonempty (A × B) := a.elim fun a => b.elim fun b => ⟨(a, b)⟩

end Mine
namespace Mine
/-! The head. The kit's own pieces make 15 MB of twins; here one check of the kernel takes their place: from the booted heap through the top to the looks. -/
noncomputable def hd.view : Program := PySem.W.view PySem.Challenge.pw_pb0157_01 [0, 2, 3, 5, 6, 7, 9, 10, 11, 12, 13, 14, 15, 16, 17, 19, 20, 21, 22, 23, 24]
theorem left_of_boot {p q : Program} {loose : List Str} {Xt : Shared → Bool} {α : Type} {Yf : Shared → α} {Ya : World → α} {N : Nat} {g0 : Bool}
    (e : opening p = plainProg p.main.scope.names) (hN : Nat.ble 600 N = true) (f : ∀ s, fenceModules? p s = some s)
    (h : ∀ w : World, (fun os => (topFrom treeTable p w N ⟨boot_heap w.params, Array.mk [], boot_drawn, boot_toks, os⟩).map (fun s => (openSeen q loose (importedModules p.main.body) Xt g0 s, Yf s))) = fun _ => some (openGood q loose, Ya w)) :
    LeftO p q loose Xt Yf Ya N g0 := fun w => by
  obtain ⟨⟨hh, gs, d, k, os⟩, e1, e'⟩ := Option.map_eq_some_iff.mp (boot_open e hN f w)
  obtain ⟨rfl, rfl, rfl, rfl⟩ : hh = boot_heap w.params ∧ gs = Array.mk [] ∧ d = boot_drawn ∧ k = boot_toks := by simpa using e'
  unfold openEnds
  rw [e1]
  exact congrFun (h w) os
theorem said0 : OpenLaw.wellSaid PySem.Challenge.rw_pb0157_01 = true := by kernel_rfl
theorem opening0 : opening PySem.Challenge.rw_pb0157_01.row.toRowW.prog = plainProg PySem.Challenge.rw_pb0157_01.row.toRowW.prog.main.scope.names := by kernel_rfl
theorem fence0 : ∀ s, fenceModules? PySem.Challenge.rw_pb0157_01.row.toRowW.prog s = some s := fun s => by kernel_rfl
theorem ok0 : (chainsOk hd.view && opensWell PySem.Challenge.rw_pb0157_01.row.toRowW.prog && (frees PySem.Challenge.rw_pb0157_01.row.toRowW && PySem.Challenge.rw_pb0157_01.row.toRowW.within.isEmpty)) = true := by kernel_rfl
local macro_rules | `(tactic| o_law) => `(tactic| (refine holds_law said0 fun said => ?_))
local macro_rules | `(tactic| o_head $H) => `(tactic| (
  apply holds_open (q := hd.view) (loose := [Str.ofString "ShapeError"]) (Xt := fun s => xlAt hd.view [] s && recOk (RowW.records (OpenRow.toRowW (OpenLaw.row PySem.Challenge.rw_pb0157_01))) s) (XP := XL hd.view []) (Yf := Hook.obs $H) (Ya := Hook.val $H) (YP := Hook.says $H) (N := 3022)
    (hY := Hook.of $H) (hYk := Hook.keeps $H) (hX := fun s e => xl_of s (Bool.and_eq_true_iff.mp e).1) (hXk := XL.keeps) (hdef := by rfl) (hp := by rfl) (hk := by rfl) (hRf := fun s e => recFacts_of (Bool.and_eq_true_iff.mp e).2) (hwr := by rfl) (k1 := by assumption) (ok := ok0) (hb := ⟨rfl, rfl, rfl, rfl, rfl, by decide +kernel⟩)
  case left => exact left_of_boot opening0 (by rfl) fence0 (by intro w; kernel_rfl)))
set_option maxRecDepth 100000 in
set_option maxHeartbeats 8000000 in
open_top hd for PySem.Challenge.rw_pb0157_01

end Mine
namespace Mine
theorem fillK : (fun (_ : OpenLaw) (_ : Params → Frag) => True) PySem.Challenge.rw_pb0157_01 hd.heap_1 := by
  k_fill
  trivial

abbrev PG : Program := PySem.Challenge.rw_pb0157_01.row.prog
abbrev Led := List (Addr × Obj)

/-- what a call of one of the text's defs gives back, told of the ledger alone; it asks room for k frames -/
abbrev SpecN (k : Nat) (w : World) (f : Addr) (args : List Value) (news : Led) (Post : Value → Led → Prop) : Prop :=
  ∀ (dp un : Nat) (gd : Option (List Code)) (cn : Str) (cs : Scope) (L a : Addr) (ccd : Value) (cl : List (Str × Addr)) (outer : List Env) (A₀ : Around) (base h₀ : Heap) (m : Str → Option Value) (s : Shared) (Q E : Value → Shared → Prop)
    (loose : List Str) (mean : ExcName → Option Value) (mg mb : Str → Option Value),
    Below A₀ base outer h₀ → Fr h₀ L s.heap m → (hd.heap_1 w.params).In h₀ → News h₀ L s.heap news → Top hd.view loose mean mg mb h₀ → cs.kind = .function →
    dp + k < recursionLimit → un + 10 * k < cLine →
    (∀ r h' tk' news', Fr h₀ L h' m → News h₀ L h' news' → Post r news' → Q r { s with heap := h', toks := tk' }) →
    wpAny (model PG w) (ktrTop dp un gd cn cs L a ccd cl outer) (call (.ref f) args) Q E s
abbrev Spec := SpecN 10
theorem Spec.use {k : Nat} {w : World} {f : Addr} {args : List Value} {news : Led} {Post : Value → Led → Prop} (S : SpecN k w f args news Post)
    {dp un : Nat} {gd : Option (List Code)} {cn : Str} {cs : Scope} {L a : Addr} {ccd : Value} {cl : List (Str × Addr)} {outer : List Env} {A₀ : Around} {base h₀ : Heap} {m : Str → Option Value} {s : Shared} {Q E : Value → Shared → Prop}
    {loose : List Str} {mean : ExcName → Option Value} {mg mb : Str → Option Value}
    (B : Below A₀ base outer h₀) (F : Fr h₀ L s.heap m) (X : (hd.heap_1 w.params).In h₀) (N : News h₀ L s.heap news) (T : Top hd.view loose mean mg mb h₀) (hk : cs.kind = .function) (hd : dp + k < recursionLimit) (hu : un + 10 * k < cLine)
    (hQ : ∀ r h' tk' news', Fr h₀ L h' m → News h₀ L h' news' → Post r news' → Q r { s with heap := h', toks := tk' }) :
    wpAny (model PG w) (ktrTop dp un gd cn cs L a ccd cl outer) (call (.ref f) args) Q E s :=
  S dp un gd cn cs L a ccd cl outer A₀ base h₀ m s Q E loose mean mg mb B F X N T hk hd hu hQ

local macro_rules | `(tactic| k_all) => `(tactic| assumption)
local macro_rules | `(tactic| k_mem) => `(tactic| assumption)
local macro_rules | `(tactic| ktr_room) => `(tactic| ((try simp only [depth_under_make, depth_under_kw, depth_in1, depth_deeper, depth_caller] at *); (try dsimp only [ktrTop] at *); omega))

theorem len_ints {prog : Program} {w : World} {A : Around} {E : Value → Shared → Prop} {s : Shared} {h₀ : Heap} {L D : Addr} {news : Led} {vs : List Value} {ns : List Int} {c : Nat} {Q : Value → Shared → Prop}
    (N : News h₀ L s.heap news) (hi : IntsAre vs ns) (hm : (D, PySem.W.listOf vs.toArray c) ∈ news) (hf : ns.length < 2 ^ 62) (h : Q (.int (ns.length : Nat) (s.toks + 1)) { s with toks := s.toks + 1 + 1 }) :
    wpAny (model prog w) A (call (.builtin "len") [.ref D]) Q E s :=
  PySem.W.KM.len_K N hm (by rw [List.size_toArray]; exact hi.length) hf h

local macro_rules | `(tactic| walk_at "call builtin:len") => `(tactic| (k_here; (with_reducible show wpAny _ _ (call (Value.builtin "len") [Value.ref _]) _ _ _); k_dflt (refine' len_ints (by k_asm) (by with_reducible assumption) (by k_mem) (by omega) ?_; k_whole)))

theorem draw_ok {w : World} {news : Led} {c p : Addr} {vs : List Value} {ks : List Int} {g st pl most : Int} {tg ts tp tm : Tok} {n nc : Nat}
    (hc : (c, PySem.W.listOf vs.toArray nc) ∈ news) (hi : IntsAre vs ks) (hlen : ks.length ≤ 63) (hoff : ∀ q ∈ news, q.1 ≠ p)
    (hg : 0 ≤ g) (hs0 : 0 ≤ st) (hs1 : st < 2147483647) (hp0 : 0 ≤ pl) (hp1 : pl < 1000) (hm0 : 0 < most) (hm1 : most ≤ 10) :
    Spec w 166 [.ref p, .int most tm] ((p, PySem.W.listOf #[.ref c, .int g tg, .int st ts, .int pl tp] n) :: news)
      (fun v news' => ∃ r t g' st' tg' ts' tp' n', v = .int r t ∧ news' = (p, PySem.W.listOf #[.ref c, .int g' tg', .int st' ts', .int (pl + 1) tp'] n') :: news ∧ 0 ≤ r ∧ r < most ∧ 0 ≤ g' ∧ 0 ≤ st' ∧ st' < 2147483647) := by
  w_top off
  intro dp un gd cn cs L a ccd cl outer A₀ base h₀ m s Q E loose mean mg mb B F X N T hk hd hu hret
  refine wpAny_call ?_
  k_dflt cell_enter
  k_steps
  all_goals
    refine hret _ _ _ _ (by k_asm) (by k_asm) ⟨_, _, _, _, _, _, _, _, rfl, rfl, ?_, ?_, ?_, ?_, ?_⟩
  all_goals first
    | assumption
    | exact fmod_lo _ (by omega)
    | exact fmod_hi _ (by omega)
    | exact Int.fdiv_nonneg hg (by omega)

end Mine
namespace Mine
local macro_rules | `(tactic| k_all) => `(tactic| assumption)
local macro_rules | `(tactic| k_mem) => `(tactic| assumption)
local macro_rules | `(tactic| ktr_room) => `(tactic| ((try simp only [depth_under_make, depth_under_kw, depth_in1, depth_deeper, depth_caller] at *); (try dsimp only [ktrTop] at *); omega))
def Stop (P : Prop) : Prop := P
theorem Stop.on {P : Prop} (h : Stop P) : P := h
theorem Stop.off {P : Prop} (h : P) : Stop P := h
local macro_rules | `(tactic| walk_at "InvEndN") => `(tactic| k_dflt kst_close)
local macro_rules | `(tactic| walk_at "exec Assign cons ListComp") => `(tactic| refine Stop.on ?_)
local macro_rules | `(tactic| walk_at "eval ListComp") => `(tactic| refine Stop.on ?_)

theorem allLt_ne {d : Addr} {l : Led} (h : AllLt d l) : ∀ q ∈ l, q.1 ≠ d := by
  induction l with
  | nil => intro q hq; cases hq
  | cons p r ih =>
    have h1 : p.1 < d := h.1
    have h2 : AllLt d r := h.2
    intro q hq
    cases hq with
    | head => exact Nat.ne_of_lt h1
    | tail _ hq => exact ih h2 q hq

theorem off1_ne {D : Addr} {l : Led} (h : LCg.Off1 D l) : ∀ q ∈ l, q.1 ≠ D := by
  induction l with
  | nil => intro q hq; cases hq
  | cons p r ih =>
    have h1 : @Ne Nat p.1 D := h.1
    have h2 : LCg.Off1 D r := h.2
    intro q hq
    cases hq with
    | head => exact h1
    | tail _ hq => exact ih h2 q hq
theorem pow_some {prog : Program} {w : World} {A : Around} {E : Value → Shared → Prop} {s : Shared} {a n : Int} {t u : Tok} {Q : Value → Shared → Prop} (h0 : 0 ≤ n) (ha : 0 < a) (hb : (Builtin.Int.intBits a : Int) * n ≤ 2 ^ 27)
    (h : ∀ q, 0 < q → Q (.int q s.toks) { s with toks := s.toks + 1 }) : wpAny (model prog w) A (binaryOp .Pow (.int a t) (.int n u)) Q E s :=
  pow_int h0 hb (h _ (Int.pow_pos ha))
local macro_rules | `(tactic| walk_at "binaryOp Pow int int") => `(tactic| (k_here; (refine pow_some (by decide) (by decide) (by decide +kernel) ?_); intro qP hqP))

theorem box_ok {w : World} {news : Led} {l : Addr} {vs : List Value} {ks : List Int} 
    (hi : IntsAre vs ks) (hlen : ks.length ≤ 63) 
    (dp un : Nat) (gd : Option (List Code)) (cn : Str) (cs : Scope) (L a : Addr) (ccd : Value) (cl : List (Str × Addr)) (outer : List Env) (A₀ : Around) (base h₀ : Heap) (m : Str → Option Value) (s : Shared) (Q E : Value → Shared → Prop)
    (loose : List Str) (mean : ExcName → Option Value) (mg mb : Str → Option Value) (hl : base.IsList l vs.toArray)
    (B : Below A₀ base outer h₀) (F : Fr h₀ L s.heap m) (X : (hd.heap_1 w.params).In h₀) (N : News h₀ L s.heap news) (T : Top hd.view loose mean mg mb h₀) (hk : cs.kind = .function)
    (hd : dp + 10 < recursionLimit) (hu : un + 100 < cLine)
    (hret : ∀ r h' tk' p c j wj vs' ks' nc nj g tg st ts tp n, Fr h₀ L h' m → News h₀ L h' ((p, PySem.W.listOf #[.ref c, .int g tg, .int st ts, .int 0 tp] n) :: (c, PySem.W.listOf vs'.toArray nc) :: (j, PySem.W.listOf wj nj) :: news) → r = .ref p →
      IntsAre vs' ks' → ks'.length ≤ 63 → 0 ≤ g → 0 ≤ st → st < 2147483647 → (∀ q ∈ (c, PySem.W.listOf vs'.toArray nc) :: (j, PySem.W.listOf wj nj) :: news, q.1 ≠ p) → (∀ q ∈ news, q.1 ≠ c) → (∀ q ∈ news, q.1 ≠ j) → Q r { s with heap := h', toks := tk' }) :
    wpAny (model PG w) (ktrTop dp un gd cn cs L a ccd cl outer) (call (.ref 159) [.ref l]) Q E s := by
  w_top off
  (k_with "state" => first | exact ⟨by decide, by decide⟩ | exact ⟨fmod_lo _ (by decide), fmod_hi _ (by decide)⟩)
  (k_with "pyIter ref" => k_state (fun pre st => 0 ≤ st ∧ st < 2147483647) "state")
  refine wpAny_call ?_
  k_dflt cell_enter
  k_steps
  refine Stop.off ?_
  k_dflt (refine LCg.Assign_ListComp_U (F₀ := by k_asm) (by rfl) (by with_unfolding_all rfl) (by rfl) (by decide) (by rfl) (by decide) (by rfl) (by rfl) (by rfl) ?_)
  k_steps
  k_dflt (refine LCg.CompSrc.ledger (by rfl) (by k_asm) (by k_asm) (by k_mem) (by rw [PySem.sizeLine_eq]; simp only [List.size_toArray]; have := IntsAre.length ‹IntsAre _ (List.take 40 ks)›; omega) ?_; intro g'; refine kcf_list (fun x => x) (by assumption) (fun k' t' I' oI' C' oC' D' m' ys' h' tk' E' hk' hC' hx' F' N' off' ne' hMark' => ?_) ?_)
  · k_steps
  · k_steps
    all_goals
      refine hret _ _ _ _ _ _ _ _ _ _ _ _ _ _ _ _ _ (by k_asm) (by k_asm) rfl (by assumption) ?_ ?_ (by omega) (by omega) ?_ ?_ ?_
    all_goals first
      | (simp only [List.length_map, List.length_take]; omega)
      | exact Int.le_refl _
      | (rename _ ∧ LCg.Off1 _ _ => ho1; exact off1_ne ho1.2)
      | (intro q hq; exact Nat.ne_of_lt ((by assumption : ∀ p ∈ news, p.1 < _) q hq))
      | exact fmod_lo _ (by assumption)
      | (rename _ ∧ _ ∧ AllLt _ _ => hlt; intro q hq; rcases List.mem_cons.mp hq with rfl | hq; exact Nat.ne_of_lt hlt.1; rcases List.mem_cons.mp hq with rfl | hq; exact Nat.ne_of_lt hlt.2.1; exact allLt_ne hlt.2.2 q hq)

end Mine
namespace Mine
local macro_rules | `(tactic| k_all) => `(tactic| assumption)
local macro_rules | `(tactic| k_mem) => `(tactic| assumption)
local macro_rules | `(tactic| ktr_room) => `(tactic| ((try simp only [depth_under_make, depth_under_kw, depth_in1, depth_deeper, depth_caller] at *); (try dsimp only [ktrTop] at *); omega))

structure Wi where
  tag : Str
  val : Int
  whole : Bool
def WishAt (P : Params) (R : Led) (x : Value) (wi : Wi) : Prop :=
  ∃ a dx t1 t2 t3 t4 u1 u2 u3 u4, x = .ref a ∧ (a, instObj 100 dx) ∈ R ∧
    (dx, PySem.W.dictOf [⟨PyData.keyHash P (Str.ofString "tag"), .str (Str.ofString "tag") t1, .str wi.tag u1⟩, ⟨PyData.keyHash P (Str.ofString "value"), .str (Str.ofString "value") t2, .int wi.val u2⟩,
      ⟨PyData.keyHash P (Str.ofString "begin"), .str (Str.ofString "begin") t3, .int (if wi.whole then 0 else 1) u3⟩, ⟨PyData.keyHash P (Str.ofString "end"), .str (Str.ofString "end") t4, .int (if wi.whole then -1 else 4) u4⟩] 4) ∈ R
def Wi.ok (wi : Wi) : Prop := wi.tag.length = 4 ∧ 0 ≤ wi.val ∧ wi.val ≤ 255

theorem check_ok {w : World} {R : Led} {x : Value} {wi : Wi} (hx : WishAt w.params R x wi) (ho : wi.ok) : Spec w 111 [x] R (fun v R' => v = .none ∧ R' = R) := by
  w_top off
  intro dp un gd cn cs L a ccd cl outer A₀ base h₀ m s Q E loose mean mg mb B F X N T hk hd hu hret
  obtain ⟨a, dx, t1, t2, t3, t4, u1, u2, u3, u4, rfl, ha, hdx⟩ := hx
  obtain ⟨o1, o2, o3⟩ := ho
  refine wpAny_call ?_
  k_dflt cell_enter
  k_steps
  · exfalso; omega
  · exact hret _ _ _ _ (by k_asm) (by k_asm) ⟨rfl, rfl⟩
theorem whole_ok {w : World} {R : Led} {x : Value} {wi : Wi} (hx : WishAt w.params R x wi) : Spec w 97 [x] R (fun v R' => v = .bool wi.whole ∧ R' = R) := by
  w_top off
  intro dp un gd cn cs L a ccd cl outer A₀ base h₀ m s Q E loose mean mg mb B F X N T hk hd hu hret
  obtain ⟨a, dx, t1, t2, t3, t4, u1, u2, u3, u4, rfl, ha, hdx⟩ := hx
  obtain ⟨tag, val, whole⟩ := wi
  cases whole <;> simp only [if_true, if_false, Bool.false_eq_true] at hdx
  all_goals
    refine wpAny_call ?_
    k_dflt cell_enter
    k_steps
    all_goals exact hret _ _ _ _ (by k_asm) (by k_asm) ⟨rfl, rfl⟩

end Mine
namespace Mine
/-! tools: ledgers -/
def but (R : Led) (a : Addr) : Led := R.filter fun p => decide (p.1 ≠ a)
theorem mem_but {R : Led} {a : Addr} {p : Addr × Obj} : p ∈ but R a ↔ p ∈ R ∧ p.1 ≠ a := by
  unfold but; rw [List.mem_filter]; simp
theorem but_off {R : Led} {a : Addr} : ∀ p ∈ but R a, p.1 ≠ a := fun _ h => (mem_but.mp h).2
theorem but_sub {R : Led} {a : Addr} : ∀ p ∈ but R a, p ∈ R := fun _ h => (mem_but.mp h).1
theorem news_sub {h₀ h : Heap} {L : Addr} {R R' : Led} (N : News h₀ L h R) (hs : ∀ p ∈ R', p ∈ R) : News h₀ L h R' := fun p hp => N p (hs p hp)

/-! a loop over the items of a made object -/
def TurnB (h₀ : Heap) (L : Addr) (J : (Str → Option Value) → Led → Prop) (I : Addr) (oI : Obj) (s₁ : Shared) (Q : Flow → Shared → Prop) (f : Flow) (s₂ : Shared) : Prop :=
  match f with
  | .ret v => Q (.ret v) s₂
  | .brk => Q .next s₂
  | _ => ∃ h' tk m' R', s₂ = { s₁ with heap := h', toks := tk } ∧ Fr h₀ L h' m' ∧ News h₀ L h' ((I, oI) :: R') ∧ (∀ p ∈ R', p.1 ≠ I) ∧ J m' R'

theorem loop_led {prog : Program} {w : World} {A : Around} {E : Value → Shared → Prop} {s : Shared} {env : Env} {h₀ : Heap} {x : Str} {body : List Stmt} {Q : Flow → Shared → Prop}
    {I src : Addr} {oI oS : Obj} {its : Array Value} {St : Nat → Heap → Prop} {m₀ : Str → Option Value} {R₀ : Led} (J : Nat → (Str → Option Value) → Led → Prop)
    (W : Walks prog w A I [I, src] [I] its.size (fun i v => its[i]? = some v) St) (hIo : ∀ i h, St i h → ∃ o, h.get? I = some o)
    (F : Fr h₀ env.locals s.heap m₀) (N : News h₀ env.locals s.heap ((I, oI) :: R₀)) (off : ∀ p ∈ R₀, p.1 ≠ I) (hst : St 0 s.heap) (hsrc : (src, oS) ∈ R₀) (hj : J 0 m₀ R₀)
    (turn : ∀ i v m₁ R₁ oI h tk, its[i]? = some v → (src, oS) ∈ R₁ → (∀ p ∈ R₁, p.1 ≠ I) → J i m₁ R₁ → Fr h₀ env.locals h (fun y => if y = x then some v else m₁ y) → News h₀ env.locals h ((I, oI) :: R₁) →
      wpAny (model prog w) A (execs body env) (TurnB h₀ env.locals (fun m R => (src, oS) ∈ R ∧ J (i + 1) m R) I oI { s with heap := h, toks := tk } Q) E { s with heap := h, toks := tk })
    (done : ∀ m₁ R₁ h tk, J its.size m₁ R₁ → Fr h₀ env.locals h m₁ → News h₀ env.locals h R₁ → Q .next { s with heap := h, toks := tk }) :
    LoopAtV prog w A h₀ env x body Q E (.ref I) s := by
  have nI := N (I, oI) List.mem_cons_self
  have nS := N (src, oS) (List.mem_cons_of_mem _ hsrc)
  refine ⟨I, [I, src], [I], its.size, _, St, m₀, R₀, fun i m R => (src, oS) ∈ R ∧ J i m R, rfl, W, ?_, ?_, ?_, hst, F, news_sub N fun p hp => List.mem_cons_of_mem _ hp, ⟨hsrc, hj⟩, ?_, ?_⟩
  · intro hm
    rcases List.mem_cons.mp hm with e | hm
    · exact nI.2.1 e.symm
    · exact nS.2.1 (List.mem_singleton.mp hm).symm
  · intro b hb
    rw [List.mem_singleton.mp hb]; exact nI.2.2
  · intro p hp hq
    exact off p hp (List.mem_singleton.mp hq)
  · rintro i v m₁ R₁ s₁ own ⟨hh, tk, rfl⟩ hi hP ⟨hs₁, hJ⟩ hoff hown hget hfp hst' F₁ N₁
    obtain ⟨oJ, hoJ⟩ := hIo _ _ hst'
    have mI : (I, oJ) ∈ own := hfp I List.mem_cons_self nI.2.2 oJ hoJ
    have off₁ : ∀ p ∈ R₁, p.1 ≠ I := fun p hp hq => hoff p hp (List.mem_singleton.mpr hq)
    have N₂ : News h₀ env.locals hh ((I, oJ) :: R₁) := news_sub N₁ fun p hp => by
      rcases List.mem_cons.mp hp with rfl | hp
      · exact List.mem_append_left _ mI
      · exact List.mem_append_right _ hp
    refine wpAny_mono (turn i v m₁ R₁ oJ hh tk hP hs₁ off₁ hJ F₁ N₂) (fun f s₂ p => ?_) fun _ _ e => e
    have fin : (∃ h' tk' m' R', s₂ = { s with heap := h', toks := tk' } ∧ Fr h₀ env.locals h' m' ∧ News h₀ env.locals h' ((I, oJ) :: R') ∧ (∀ p ∈ R', p.1 ≠ I) ∧ ((src, oS) ∈ R' ∧ J (i + 1) m' R')) →
        LoopStepU h₀ env.locals [I] own (fun m R => (src, oS) ∈ R ∧ J (i + 1) m R) { s with heap := hh, toks := tk } .next s₂ := by
      rintro ⟨h', tk', m', R', e, F', N', o', hs', hJ'⟩
      refine ⟨rfl, h', tk', m', R', e, F', fun p hp => ?_, fun p hp hq => o' p hp (List.mem_singleton.mp hq), hs', hJ'⟩
      rcases List.mem_append.mp hp with hp | hp
      · have hg : hh.get? p.1 = some p.2 := hget p hp
        rcases List.mem_cons.mp (hown p hp) with e1 | e1
        · have hoJ' : hh.get? I = some oJ := hoJ
          rw [e1, hoJ'] at hg
          have e2 : p = (I, oJ) := Prod.ext e1 (Option.some.inj hg).symm
          rw [e2]; exact N' _ List.mem_cons_self
        · have e1 : p.1 = src := List.mem_singleton.mp e1
          have hgs : hh.get? src = some oS := (N₁ (src, oS) (List.mem_append_right _ hs₁)).1
          rw [e1, hgs] at hg
          have e2 : p = (src, oS) := Prod.ext e1 (Option.some.inj hg).symm
          rw [e2]; exact N' _ (List.mem_cons_of_mem _ hs')
      · exact N' p (List.mem_cons_of_mem _ hp)
    cases f with
    | ret v => exact .ret p
    | brk => exact .brk p
    | next => exact .next (fin p)
    | cont => exact .cont (fin p)
  · rintro h' tk m' R' F' N' _ ⟨_, hJ⟩
    exact done m' R' h' tk hJ F' N'

section
variable {prog : Program} {w : World} {A : Around} {E : Value → Shared → Prop} {s : Shared} {env : Env} {h₀ : Heap} {x : Str} {body : List Stmt} {Q : Flow → Shared → Prop} {src : Addr} {m₀ : Str → Option Value} {R₀ : Led}
theorem for_tup {its : Array Value} {n : Nat} (J : Nat → (Str → Option Value) → Led → Prop) (hh : A.handled = none)
    (F : Fr h₀ env.locals s.heap m₀) (N : News h₀ env.locals s.heap R₀) (hsrc : (src, ({ cls := .type "tuple", data := .seq its n } : Obj)) ∈ R₀) (hj : J 0 m₀ R₀)
    (turn : ∀ I i v m₁ R₁ oI h tk, its[i]? = some v → (src, ({ cls := .type "tuple", data := .seq its n } : Obj)) ∈ R₁ → (∀ p ∈ R₁, p.1 ≠ I) → J i m₁ R₁ → Fr h₀ env.locals h (fun y => if y = x then some v else m₁ y) → News h₀ env.locals h ((I, oI) :: R₁) →
      wpAny (model prog w) A (execs body env) (TurnB h₀ env.locals (fun m R => (src, ({ cls := .type "tuple", data := .seq its n } : Obj)) ∈ R ∧ J (i + 1) m R) I oI { s with heap := h, toks := tk } Q) E { s with heap := h, toks := tk })
    (done : ∀ m₁ R₁ h tk, J its.size m₁ R₁ → Fr h₀ env.locals h m₁ → News h₀ env.locals h R₁ → Q .next { s with heap := h, toks := tk }) :
    wpAny (model prog w) A (pyIter (.ref src)) (fun it s₂ => LoopAtV prog w A h₀ env x body Q E it s₂) E s := by
  have ho := (N _ hsrc).1
  have ht : s.heap.IsTuple src its := ⟨_, ho, rfl, n, rfl⟩
  have hne : src ≠ s.heap.objs.size := Nat.ne_of_lt (Heap.lt_size ho)
  refine wpAny_pyIter_tuple ht ?_
  exact loop_led (oI := { cls := .type "tuple_iterator", data := .fields #[.ref src, .int 0 0] }) J (Walks.tuple hh _ src hne its) (fun i h st => by obtain ⟨o, e, _⟩ := st.1; exact ⟨o, e⟩) (F.push _) (N.push F _) (fun p hp => Nat.ne_of_lt (Heap.lt_size (N p hp).1))
    ⟨⟨_, Heap.get?_push_size _ rfl, rfl, rfl⟩, ht.at fun o e => Heap.get?_push_of_some _ e⟩ hsrc hj (turn _) done
theorem for_list {its : Array Value} {n : Nat} (J : Nat → (Str → Option Value) → Led → Prop) (hh : A.handled = none)
    (F : Fr h₀ env.locals s.heap m₀) (N : News h₀ env.locals s.heap R₀) (hsrc : (src, PySem.W.listOf its n) ∈ R₀) (hj : J 0 m₀ R₀)
    (turn : ∀ I i v m₁ R₁ oI h tk, its[i]? = some v → (src, PySem.W.listOf its n) ∈ R₁ → (∀ p ∈ R₁, p.1 ≠ I) → J i m₁ R₁ → Fr h₀ env.locals h (fun y => if y = x then some v else m₁ y) → News h₀ env.locals h ((I, oI) :: R₁) →
      wpAny (model prog w) A (execs body env) (TurnB h₀ env.locals (fun m R => (src, PySem.W.listOf its n) ∈ R ∧ J (i + 1) m R) I oI { s with heap := h, toks := tk } Q) E { s with heap := h, toks := tk })
    (done : ∀ m₁ R₁ h tk, J its.size m₁ R₁ → Fr h₀ env.locals h m₁ → News h₀ env.locals h R₁ → Q .next { s with heap := h, toks := tk }) :
    wpAny (model prog w) A (pyIter (.ref src)) (fun it s₂ => LoopAtV prog w A h₀ env x body Q E it s₂) E s := by
  have ho := (N _ hsrc).1
  have ht : s.heap.IsList src its := ⟨_, ho, rfl, n, rfl⟩
  have hne : src ≠ s.heap.objs.size := Nat.ne_of_lt (Heap.lt_size ho)
  refine wpAny_pyIter_list ht ?_
  exact loop_led (oI := { cls := .type "list_iterator", data := .fields #[.ref src, .int 0 0] }) J (Walks.list hh _ src hne its) (fun i h st => by obtain ⟨o, e, _⟩ := st.1; exact ⟨o, e⟩) (F.push _) (N.push F _) (fun p hp => Nat.ne_of_lt (Heap.lt_size (N p hp).1))
    ⟨⟨_, Heap.get?_push_size _ rfl, rfl, rfl⟩, ht.at fun o e => Heap.get?_push_of_some _ e⟩ hsrc hj (turn _) done
end

theorem loop_base {prog : Program} {w : World} {A : Around} {E : Value → Shared → Prop} {s : Shared} {env : Env} {h₀ : Heap} {x : Str} {body : List Stmt} {Q : Flow → Shared → Prop}
    {I src : Addr} {oI oS : Obj} {its : Array Value} {St : Nat → Heap → Prop} {m₀ : Str → Option Value} {R₀ : Led} (J : Nat → (Str → Option Value) → Led → Prop)
    (W : Walks prog w A I [I, src] [I] its.size (fun i v => its[i]? = some v) St) (hIo : ∀ i h, St i h → ∃ o, h.get? I = some o)
    (F : Fr h₀ env.locals s.heap m₀) (N : News h₀ env.locals s.heap ((I, oI) :: R₀)) (off : ∀ p ∈ R₀, p.1 ≠ I) (hst : St 0 s.heap) (hsrc : h₀.get? src = some oS) (hj : J 0 m₀ R₀)
    (turn : ∀ i v m₁ R₁ oI h tk, its[i]? = some v → (∀ p ∈ R₁, p.1 ≠ I) → J i m₁ R₁ → Fr h₀ env.locals h (fun y => if y = x then some v else m₁ y) → News h₀ env.locals h ((I, oI) :: R₁) →
      wpAny (model prog w) A (execs body env) (TurnB h₀ env.locals (J (i + 1)) I oI { s with heap := h, toks := tk } Q) E { s with heap := h, toks := tk })
    (done : ∀ m₁ R₁ h tk, J its.size m₁ R₁ → Fr h₀ env.locals h m₁ → News h₀ env.locals h R₁ → Q .next { s with heap := h, toks := tk }) :
    LoopAtV prog w A h₀ env x body Q E (.ref I) s := by
  have nI := N (I, oI) List.mem_cons_self
  refine ⟨I, [I, src], [I], its.size, _, St, m₀, R₀, J, rfl, W, ?_, ?_, ?_, hst, F, news_sub N fun p hp => List.mem_cons_of_mem _ hp, hj, ?_, ?_⟩
  · intro hm
    rcases List.mem_cons.mp hm with e | hm
    · exact nI.2.1 e.symm
    · have e := List.mem_singleton.mp hm
      have h1 := Heap.get?_none_of_le F.above
      rw [e, hsrc] at h1; cases h1
  · intro b hb
    rw [List.mem_singleton.mp hb]; exact nI.2.2
  · intro p hp hq
    exact off p hp (List.mem_singleton.mp hq)
  · rintro i v m₁ R₁ s₁ own ⟨hh, tk, rfl⟩ hi hP hJ hoff hown hget hfp hst' F₁ N₁
    obtain ⟨oJ, hoJ⟩ := hIo _ _ hst'
    have mI : (I, oJ) ∈ own := hfp I List.mem_cons_self nI.2.2 oJ hoJ
    have off₁ : ∀ p ∈ R₁, p.1 ≠ I := fun p hp hq => hoff p hp (List.mem_singleton.mpr hq)
    have N₂ : News h₀ env.locals hh ((I, oJ) :: R₁) := news_sub N₁ fun p hp => by
      rcases List.mem_cons.mp hp with rfl | hp
      · exact List.mem_append_left _ mI
      · exact List.mem_append_right _ hp
    refine wpAny_mono (turn i v m₁ R₁ oJ hh tk hP off₁ hJ F₁ N₂) (fun f s₂ p => ?_) fun _ _ e => e
    have fin : (∃ h' tk' m' R', s₂ = { s with heap := h', toks := tk' } ∧ Fr h₀ env.locals h' m' ∧ News h₀ env.locals h' ((I, oJ) :: R') ∧ (∀ p ∈ R', p.1 ≠ I) ∧ J (i + 1) m' R') →
        LoopStepU h₀ env.locals [I] own (J (i + 1)) { s with heap := hh, toks := tk } .next s₂ := by
      rintro ⟨h', tk', m', R', e, F', N', o', hJ'⟩
      refine ⟨rfl, h', tk', m', R', e, F', fun p hp => ?_, fun p hp hq => o' p hp (List.mem_singleton.mp hq), hJ'⟩
      rcases List.mem_append.mp hp with hp | hp
      · have hg : hh.get? p.1 = some p.2 := hget p hp
        rcases List.mem_cons.mp (hown p hp) with e1 | e1
        · have hoJ' : hh.get? I = some oJ := hoJ
          rw [e1, hoJ'] at hg
          have e2 : p = (I, oJ) := Prod.ext e1 (Option.some.inj hg).symm
          rw [e2]; exact N' _ List.mem_cons_self
        · have e1 : p.1 = src := List.mem_singleton.mp e1
          have h1 := (N₁ p (List.mem_append_left _ hp)).2.2
          rw [e1, hsrc] at h1; cases h1
      · exact N' p (List.mem_cons_of_mem _ hp)
    cases f with
    | ret v => exact .ret p
    | brk => exact .brk p
    | next => exact .next (fin p)
    | cont => exact .cont (fin p)
  · rintro h' tk m' R' F' N' _ hJ
    exact done m' R' h' tk hJ F' N'

/-- the same, the frame told by the names that the body stores -/
def frS (x : Str) (v : Option Value) (st : List Str) (u m₀ : Str → Option Value) : Str → Option Value := fun y => if y = x then v else if st.contains y then u y else m₀ y
theorem frS_of {x : Str} {v : Option Value} {st : List Str} {m₁ m₀ : Str → Option Value} (h : ∀ y, y ≠ x → st.contains y = false → m₁ y = m₀ y) :
    (fun y => if y = x then v else m₁ y) = fun y => if y = x then v else if st.contains y then m₁ y else m₀ y := by
  funext y
  by_cases e : y = x
  · rw [if_pos e, if_pos e]
  · rw [if_neg e, if_neg e]
    cases hs : st.contains y with
    | true => simp
    | false => simp only [Bool.false_eq_true, if_false]; exact h y e hs
theorem frS_done {x : Str} {st : List Str} {m₁ m₀ : Str → Option Value} (h : ∀ y, y ≠ x → st.contains y = false → m₁ y = m₀ y) :
    m₁ = fun y => if y = x then m₁ y else if st.contains y then m₁ y else m₀ y := by
  funext y
  by_cases e : y = x
  · rw [if_pos e]
  · rw [if_neg e]
    cases hs : st.contains y with
    | true => simp
    | false => simp only [Bool.false_eq_true, if_false]; exact h y e hs
def SameS (x : Str) (st : List Str) (m₀ m : Str → Option Value) : Prop := ∀ y, y ≠ x → st.contains y = false → m y = m₀ y
section
variable {prog : Program} {w : World} {A : Around} {E : Value → Shared → Prop} {s : Shared} {env : Env} {h₀ : Heap} {x : Str} {body : List Stmt} {Q : Flow → Shared → Prop} {src : Addr} {m₀ : Str → Option Value} {R₀ : Led}
theorem for_tupS {its : Array Value} {n : Nat} (st : List Str) (J : Nat → Led → Prop) (hh : A.handled = none)
    (F : Fr h₀ env.locals s.heap m₀) (N : News h₀ env.locals s.heap R₀) (hsrc : (src, ({ cls := .type "tuple", data := .seq its n } : Obj)) ∈ R₀) (hj : J 0 R₀)
    (turn : ∀ I i v (u : Str → Option Value) R₁ oI h tk, its[i]? = some v → (src, ({ cls := .type "tuple", data := .seq its n } : Obj)) ∈ R₁ → (∀ p ∈ R₁, p.1 ≠ I) → J i R₁ → Fr h₀ env.locals h (fun y => if y = x then some v else if st.contains y then u y else m₀ y) → News h₀ env.locals h ((I, oI) :: R₁) →
      wpAny (model prog w) A (execs body env) (TurnB h₀ env.locals (fun m R => (src, ({ cls := .type "tuple", data := .seq its n } : Obj)) ∈ R ∧ J (i + 1) R ∧ SameS x st m₀ m) I oI { s with heap := h, toks := tk } Q) E { s with heap := h, toks := tk })
    (done : ∀ (u : Str → Option Value) R₁ h tk, J its.size R₁ → Fr h₀ env.locals h (fun y => if y = x then u y else if st.contains y then u y else m₀ y) → News h₀ env.locals h R₁ → Q .next { s with heap := h, toks := tk }) :
    wpAny (model prog w) A (pyIter (.ref src)) (fun it s₂ => LoopAtV prog w A h₀ env x body Q E it s₂) E s := by
  refine for_tup (fun i m R => J i R ∧ SameS x st m₀ m) hh F N hsrc ⟨hj, fun _ _ _ => rfl⟩ ?_ ?_
  · intro I i v m₁ R₁ oI h tk hv hs off hJ F₁ N₁
    rw [frS_of hJ.2] at F₁
    exact turn I i v m₁ R₁ oI h tk hv hs off hJ.1 F₁ N₁
  · intro m₁ R₁ h tk hJ F₁ N₁
    rw [frS_done hJ.2] at F₁
    exact done m₁ R₁ h tk hJ.1 F₁ N₁
theorem for_listS {its : Array Value} {n : Nat} (st : List Str) (J : Nat → Led → Prop) (hh : A.handled = none)
    (F : Fr h₀ env.locals s.heap m₀) (N : News h₀ env.locals s.heap R₀) (hsrc : (src, PySem.W.listOf its n) ∈ R₀) (hj : J 0 R₀)
    (turn : ∀ I i v (u : Str → Option Value) R₁ oI h tk, its[i]? = some v → (src, PySem.W.listOf its n) ∈ R₁ → (∀ p ∈ R₁, p.1 ≠ I) → J i R₁ → Fr h₀ env.locals h (fun y => if y = x then some v else if st.contains y then u y else m₀ y) → News h₀ env.locals h ((I, oI) :: R₁) →
      wpAny (model prog w) A (execs body env) (TurnB h₀ env.locals (fun m R => (src, PySem.W.listOf its n) ∈ R ∧ J (i + 1) R ∧ SameS x st m₀ m) I oI { s with heap := h, toks := tk } Q) E { s with heap := h, toks := tk })
    (done : ∀ (u : Str → Option Value) R₁ h tk, J its.size R₁ → Fr h₀ env.locals h (fun y => if y = x then u y else if st.contains y then u y else m₀ y) → News h₀ env.locals h R₁ → Q .next { s with heap := h, toks := tk }) :
    wpAny (model prog w) A (pyIter (.ref src)) (fun it s₂ => LoopAtV prog w A h₀ env x body Q E it s₂) E s := by
  refine for_list (fun i m R => J i R ∧ SameS x st m₀ m) hh F N hsrc ⟨hj, fun _ _ _ => rfl⟩ ?_ ?_
  · intro I i v m₁ R₁ oI h tk hv hs off hJ F₁ N₁
    rw [frS_of hJ.2] at F₁
    exact turn I i v m₁ R₁ oI h tk hv hs off hJ.1 F₁ N₁
  · intro m₁ R₁ h tk hJ F₁ N₁
    rw [frS_done hJ.2] at F₁
    exact done m₁ R₁ h tk hJ.1 F₁ N₁
end
section
variable {prog : Program} {w : World} {A : Around} {E : Value → Shared → Prop} {s : Shared} {env : Env} {h₀ : Heap} {x : Str} {body : List Stmt} {Q : Flow → Shared → Prop} {src : Addr} {m₀ : Str → Option Value} {R₀ : Led}
theorem for_tupK {its : Array Value} {n : Nat} {dd : Option Addr} {sl : Array (Option Value)} (st : List Str) (J : Nat → Led → Prop) (hh : A.handled = none)
    (F : Fr h₀ env.locals s.heap m₀) (N : News h₀ env.locals s.heap R₀) (hsrc : h₀.get? src = some ⟨.type "tuple", dd, .seq its n, sl⟩) (hj : J 0 R₀)
    (turn : ∀ I i v (u : Str → Option Value) R₁ oI h tk, its[i]? = some v → (∀ p ∈ R₁, p.1 ≠ I) → J i R₁ → Fr h₀ env.locals h (fun y => if y = x then some v else if st.contains y then u y else m₀ y) → News h₀ env.locals h ((I, oI) :: R₁) →
      wpAny (model prog w) A (execs body env) (TurnB h₀ env.locals (fun m R => J (i + 1) R ∧ SameS x st m₀ m) I oI { s with heap := h, toks := tk } Q) E { s with heap := h, toks := tk })
    (done : ∀ (u : Str → Option Value) R₁ h tk, J its.size R₁ → Fr h₀ env.locals h (fun y => if y = x then u y else if st.contains y then u y else m₀ y) → News h₀ env.locals h R₁ → Q .next { s with heap := h, toks := tk }) :
    wpAny (model prog w) A (pyIter (.ref src)) (fun it s₂ => LoopAtV prog w A h₀ env x body Q E it s₂) E s := by
  have ho := F.keep _ _ hsrc
  have ht : s.heap.IsTuple src its := ⟨_, ho, rfl, n, rfl⟩
  have hne : src ≠ s.heap.objs.size := Nat.ne_of_lt (Heap.lt_size ho)
  refine wpAny_pyIter_tuple ht ?_
  refine loop_base (oI := { cls := .type "tuple_iterator", data := .fields #[.ref src, .int 0 0] }) (fun i m R => J i R ∧ SameS x st m₀ m) (Walks.tuple hh _ src hne its) (fun i h st => by obtain ⟨o, e, _⟩ := st.1; exact ⟨o, e⟩) (F.push _) (N.push F _) (fun p hp => Nat.ne_of_lt (Heap.lt_size (N p hp).1))
    ⟨⟨_, Heap.get?_push_size _ rfl, rfl, rfl⟩, ht.at fun o e => Heap.get?_push_of_some _ e⟩ hsrc ⟨hj, fun _ _ _ => rfl⟩ ?_ ?_
  · intro i v m₁ R₁ oI h tk hv off hJ F₁ N₁
    rw [frS_of hJ.2] at F₁
    exact turn _ i v m₁ R₁ oI h tk hv off hJ.1 F₁ N₁
  · intro m₁ R₁ h tk hJ F₁ N₁
    rw [frS_done hJ.2] at F₁
    exact done m₁ R₁ h tk hJ.1 F₁ N₁
end
structure Go (n : Nat) : Prop where
theorem strs_at {vs : List Value} {ts : List Str} (h : StrsAre vs ts) : ∀ {i : Nat} {v : Value}, vs[i]? = some v → ∃ t tok, ts[i]? = some t ∧ v = .str t tok := by
  induction h with
  | nil => intro i v e; simp at e
  | cons x t _ ih =>
    intro i v e
    cases i with
    | zero => exact ⟨x, t, rfl, (Option.some.inj (by simpa using e)).symm⟩
    | succ i => exact ih (by simpa using e)
theorem take_next {α : Type} {l : List α} {i : Nat} {a : α} (h : l[i]? = some a) : l.take (i + 1) = l.take i ++ [a] := by
  rw [List.take_add_one, h]; rfl
theorem not_in_take {l : List Str} (hn : l.Nodup) {i : Nat} {a : Str} (h : l[i]? = some a) : a ∉ l.take i := by
  intro hm
  have e : l.take (i + 1) = l.take i ++ [a] := take_next h
  have hs : (l.take (i + 1)).Nodup := List.Sublist.nodup (List.take_sublist _ _) hn
  rw [e, List.nodup_append] at hs
  exact hs.2.2 a hm a (List.mem_singleton.mpr rfl) rfl

theorem not_in_take2 {l₁ l : List Str} (hn : (l₁ ++ l).Nodup) {i : Nat} {a : Str} (h : l[i]? = some a) : a ∉ l₁ ++ l.take i := by
  intro hm
  rw [List.nodup_append] at hn
  rcases List.mem_append.mp hm with hm | hm
  · exact hn.2.2 a hm a (List.mem_of_getElem? h) rfl
  · exact not_in_take hn.2.1 h hm

/-! the wants' tables -/
structure WantD where
  val : Int
  most : Int
  isSet : Bool
  isPart : Bool
structure Cell where
  key : Str
  x : Addr
  dx : Addr
  v : WantD
def IsWant (P : Params) (o : Obj) (v : WantD) : Prop :=
  ∃ t1 t2 t3 t4 u1 u2, o = PySem.W.dictOf [⟨PyData.keyHash P (Str.ofString "value"), .str (Str.ofString "value") t1, .int v.val u1⟩, ⟨PyData.keyHash P (Str.ofString "most"), .str (Str.ofString "most") t2, .int v.most u2⟩,
    ⟨PyData.keyHash P (Str.ofString "is_set"), .str (Str.ofString "is_set") t3, .bool v.isSet⟩, ⟨PyData.keyHash P (Str.ofString "is_part"), .str (Str.ofString "is_part") t4, .bool v.isPart⟩] 4
def Cell.In (P : Params) (T : Led) (c : Cell) : Prop := (c.x, instObj 136 c.dx) ∈ T ∧ ∃ o, IsWant P o c.v ∧ (c.dx, o) ∈ T
def kvsOf (cs : List Cell) : List (Str × Value) := cs.map fun c => (c.key, Value.ref c.x)
structure TabC (w : World) (T : Led) (d : Addr) (cs : List Cell) : Prop where
  od : ∃ o, (d, o) ∈ T ∧ o.IsDictOf (PySem.strKind PG w) (kvsOf cs)
  lo : (d == sysModules) = false
  cells : ∀ c ∈ cs, c.In w.params T
  nd : (cs.map (·.dx)).Nodup
  ne : ∀ c ∈ cs, c.x ≠ d ∧ c.dx ≠ d ∧ ∀ c' ∈ cs, c.x ≠ c'.dx
  small : cs.length ≤ 100
def Off (T R : Led) : Prop := ∀ p ∈ T, ∀ q ∈ R, q.1 ≠ p.1
theorem kvs_size {cs : List Cell} (h : cs.length ≤ 100) : (kvsOf cs).length ≤ sizeLine := by
  rw [PySem.sizeLine_eq]; unfold kvsOf; rw [List.length_map]; omega
theorem stored_new {K : Type} [DecidableEq K] {kvs : List (K × Value)} {k : K} {v : Value} (h : k ∉ kvs.map (·.1)) : stored kvs k v = kvs ++ [(k, v)] := by
  unfold stored
  rw [if_neg]
  rw [List.any_eq_true]
  rintro ⟨q, hq, e⟩
  exact h (List.mem_map.mpr ⟨q, hq, of_decide_eq_true e⟩)
theorem kvs_keys (cs : List Cell) : (kvsOf cs).map (·.1) = cs.map (·.key) := by
  unfold kvsOf; rw [List.map_map]; rfl
theorem TabC.mono {w : World} {T T' : Led} {d : Addr} {cs : List Cell} (h : TabC w T d cs) (hs : ∀ p ∈ T, p ∈ T') : TabC w T' d cs := by
  obtain ⟨o, hm, ho⟩ := h.od
  refine ⟨⟨o, hs _ hm, ho⟩, h.lo, fun c hc => ?_, h.nd, h.ne, h.small⟩
  obtain ⟨a, o₁, b1, b2⟩ := h.cells c hc
  exact ⟨hs _ a, o₁, b1, hs _ b2⟩
theorem TabC.snoc {w : World} {T : Led} {d x dx : Addr} {cs : List Cell} {o' ox : Obj} {k : Str} {v : WantD} (h : TabC w T d cs) (hd : o'.IsDictOf (PySem.strKind PG w) (stored (kvsOf cs) k (.ref x))) (hk : k ∉ cs.map (·.key))
    (hw : IsWant w.params ox v) (hx : ∀ p ∈ T, p.1 ≠ x) (hdx : ∀ p ∈ T, p.1 ≠ dx) (hne : x ≠ dx) (hs : cs.length < 100) :
    TabC w ((x, instObj 136 dx) :: (dx, ox) :: (d, o') :: but T d) d (cs ++ [⟨k, x, dx, v⟩]) := by
  obtain ⟨o, hm, ho⟩ := h.od
  have dx0 : d ≠ x := hx _ hm
  have dx1 : d ≠ dx := hdx _ hm
  have old : ∀ c ∈ cs, c.x ≠ x ∧ c.x ≠ dx ∧ c.dx ≠ x ∧ c.dx ≠ dx := fun c hc => by
    obtain ⟨a, o₁, _, b⟩ := h.cells c hc
    exact ⟨hx _ a, hdx _ a, hx _ b, hdx _ b⟩
  refine ⟨⟨o', ?_, ?_⟩, h.lo, ?_, ?_, ?_, ?_⟩
  · exact List.mem_cons_of_mem _ (List.mem_cons_of_mem _ List.mem_cons_self)
  · rw [stored_new (by rw [kvs_keys]; exact hk)] at hd
    have e : kvsOf (cs ++ [⟨k, x, dx, v⟩]) = kvsOf cs ++ [(k, .ref x)] := by unfold kvsOf; rw [List.map_append]; rfl
    rw [e]; exact hd
  · intro c hc
    rcases List.mem_append.mp hc with hc | hc
    · obtain ⟨a, o₁, b1, b2⟩ := h.cells c hc
      have n := h.ne c hc
      exact ⟨List.mem_cons_of_mem _ (List.mem_cons_of_mem _ (List.mem_cons_of_mem _ (mem_but.mpr ⟨a, n.1⟩))), o₁, b1, List.mem_cons_of_mem _ (List.mem_cons_of_mem _ (List.mem_cons_of_mem _ (mem_but.mpr ⟨b2, n.2.1⟩)))⟩
    · rw [List.mem_singleton.mp hc]
      exact ⟨List.mem_cons_self, ox, hw, List.mem_cons_of_mem _ List.mem_cons_self⟩
  · rw [List.map_append, List.nodup_append]
    refine ⟨h.nd, by simp, ?_⟩
    intro a ha b hb
    obtain ⟨c, hc, rfl⟩ := List.mem_map.mp ha
    simp only [List.map_cons, List.map_nil, List.mem_singleton] at hb
    rw [hb]; exact (old c hc).2.2.2
  · intro c hc
    rcases List.mem_append.mp hc with hc | hc
    · have n := h.ne c hc
      refine ⟨n.1, n.2.1, fun c' hc' => ?_⟩
      rcases List.mem_append.mp hc' with hc' | hc'
      · exact n.2.2 c' hc'
      · rw [List.mem_singleton.mp hc']; exact (old c hc).2.1
    · rw [List.mem_singleton.mp hc]
      refine ⟨dx0.symm, dx1.symm, fun c' hc' => ?_⟩
      rcases List.mem_append.mp hc' with hc' | hc'
      · exact ((old c' hc').2.2.1).symm
      · rw [List.mem_singleton.mp hc']; exact hne
  · rw [List.length_append]; simp only [List.length_cons, List.length_nil]; omega
theorem allLt_lt {d : Addr} {l : Led} (h : AllLt d l) : ∀ q ∈ l, q.1 < d := by
  induction l with
  | nil => intro q hq; cases hq
  | cons p r ih =>
    have h1 : p.1 < d := h.1
    have h2 : AllLt d r := h.2
    intro q hq
    cases hq with
    | head => exact h1
    | tail _ hq => exact ih h2 q hq
def datOf (cs : List Cell) : List (Str × WantD) := cs.map fun c => (c.key, c.v)
theorem keys_dat (cs : List Cell) : cs.map (·.key) = (datOf cs).map (·.1) := by unfold datOf; rw [List.map_map]; rfl
theorem keys_of {cs : List Cell} {l : List Str} {v : WantD} (h : datOf cs = l.map fun t => (t, v)) : cs.map (·.key) = l := by
  rw [keys_dat, h, List.map_map]
  exact List.map_id' _
theorem len_of {cs : List Cell} {l : List (Str × WantD)} (h : datOf cs = l) : cs.length = l.length := by
  rw [← h]; unfold datOf; rw [List.length_map]
/-- a new want under a new key -/
theorem add_cell {w : World} {g h : Heap} {L x dx d : Addr} {ox o' : Obj} {T rest R3 : Led} {cs : List Cell} {k : Str} {v : WantD}
    (N5 : News g L h ((x, instObj 136 dx) :: (dx, ox) :: (d, o') :: R3)) (h3 : ∀ p ∈ but T d ++ rest, p ∈ R3) (lt3 : ∀ p ∈ R3, p.1 < dx) (ld : d < dx) (ly : dx < x)
    (tc : TabC w T d cs) (ot : Off T rest) (hd5 : o'.IsDictOf (PySem.strKind PG w) (stored (kvsOf cs) k (.ref x))) (hk : k ∉ cs.map (·.key)) (hw : IsWant w.params ox v) (hs : cs.length < 100) :
    ∃ T' cs', News g L h (T' ++ rest) ∧ TabC w T' d cs' ∧ Off T' rest ∧ datOf cs' = datOf cs ++ [(k, v)] := by
  have ltT : ∀ p ∈ T, p.1 < dx := fun p hp => by
    by_cases e : p.1 = d
    · rw [e]; exact ld
    · exact lt3 p (h3 p (List.mem_append_left _ (mem_but.mpr ⟨hp, e⟩)))
  have ltR : ∀ p ∈ rest, p.1 < dx := fun p hp => lt3 p (h3 p (List.mem_append_right _ hp))
  obtain ⟨oD, hoD, _⟩ := tc.od
  refine ⟨(x, instObj 136 dx) :: (dx, ox) :: (d, o') :: but T d, _, ?_, tc.snoc hd5 hk hw (fun p hp => Nat.ne_of_lt (Nat.lt_trans (ltT p hp) ly)) (fun p hp => Nat.ne_of_lt (ltT p hp)) (Nat.ne_of_gt ly) hs, ?_, by unfold datOf; rw [List.map_append]; rfl⟩
  · refine news_sub N5 fun p hp => ?_
    rcases List.mem_append.mp hp with hp | hp
    · rcases List.mem_cons.mp hp with rfl | hp
      · exact List.mem_cons_self
      · rcases List.mem_cons.mp hp with rfl | hp
        · exact List.mem_cons_of_mem _ List.mem_cons_self
        · rcases List.mem_cons.mp hp with rfl | hp
          · exact List.mem_cons_of_mem _ (List.mem_cons_of_mem _ List.mem_cons_self)
          · exact List.mem_cons_of_mem _ (List.mem_cons_of_mem _ (List.mem_cons_of_mem _ (h3 p (List.mem_append_left _ hp))))
    · exact List.mem_cons_of_mem _ (List.mem_cons_of_mem _ (List.mem_cons_of_mem _ (h3 p (List.mem_append_right _ hp))))
  · intro p hp q hq
    rcases List.mem_cons.mp hp with rfl | hp
    · exact Nat.ne_of_lt (Nat.lt_trans (ltR q hq) ly)
    · rcases List.mem_cons.mp hp with rfl | hp
      · exact Nat.ne_of_lt (ltR q hq)
      · rcases List.mem_cons.mp hp with rfl | hp
        · exact ot (d, oD) hoD q hq
        · exact ot p (but_sub p hp) q hq
/-- the ledger with the table's dict ahead -/
theorem tab_front {w : World} {g h : Heap} {L d : Addr} {T rest : Led} {cs : List Cell} (N : News g L h (T ++ rest)) (tc : TabC w T d cs) (ot : Off T rest) :
    ∃ oD R3, oD.IsDictOf (PySem.strKind PG w) (kvsOf cs) ∧ News g L h ((d, oD) :: R3) ∧ (∀ p ∈ R3, p.1 ≠ d) ∧ (∀ p ∈ but T d ++ rest, p ∈ R3) ∧ (∀ p ∈ R3, p ∈ but T d ++ rest) := by
  obtain ⟨oD, hoD, hdD⟩ := tc.od
  refine ⟨oD, but T d ++ rest, hdD, news_sub N fun p hp => ?_, fun p hp => ?_, fun _ h => h, fun _ h => h⟩
  · rcases List.mem_cons.mp hp with rfl | hp
    · exact List.mem_append_left _ hoD
    · rcases List.mem_append.mp hp with hp | hp
      · exact List.mem_append_left _ (but_sub p hp)
      · exact List.mem_append_right _ hp
  · rcases List.mem_append.mp hp with hp | hp
    · exact but_off p hp
    · exact ot (d, oD) hoD p hp
/-- the loop's own object among the rest -/
theorem it_in {g h : Heap} {L I : Addr} {oI : Obj} {T rest : Led} (N : News g L h ((I, oI) :: (T ++ rest))) : News g L h (T ++ (I, oI) :: rest) := news_sub N fun p hp => by
  rcases List.mem_append.mp hp with hp | hp
  · exact List.mem_cons_of_mem _ (List.mem_append_left _ hp)
  · rcases List.mem_cons.mp hp with rfl | hp
    · exact List.mem_cons_self
    · exact List.mem_cons_of_mem _ (List.mem_append_right _ hp)
theorem it_out {g h : Heap} {L I : Addr} {oI : Obj} {T rest : Led} (N : News g L h (T ++ (I, oI) :: rest)) : News g L h ((I, oI) :: (T ++ rest)) := news_sub N fun p hp => by
  rcases List.mem_cons.mp hp with rfl | hp
  · exact List.mem_append_right _ List.mem_cons_self
  · rcases List.mem_append.mp hp with hp | hp
    · exact List.mem_append_left _ hp
    · exact List.mem_append_right _ (List.mem_cons_of_mem _ hp)
theorem off_it {I : Addr} {oI : Obj} {T rest : Led} (ot : Off T rest) (off : ∀ p ∈ T ++ rest, p.1 ≠ I) : Off T ((I, oI) :: rest) := by
  intro p hp q hq
  rcases List.mem_cons.mp hq with rfl | hq
  · exact (off p (List.mem_append_left _ hp)).symm
  · exact ot p hp q hq
theorem off_out {I : Addr} {oI : Obj} {T T' rest : Led} (ot : Off T' ((I, oI) :: rest)) (off : ∀ p ∈ T ++ rest, p.1 ≠ I) : Off T' rest ∧ ∀ p ∈ T' ++ rest, p.1 ≠ I := by
  refine ⟨fun p hp q hq => ot p hp q (List.mem_cons_of_mem _ hq), fun p hp => ?_⟩
  rcases List.mem_append.mp hp with hp | hp
  · exact (ot p hp _ List.mem_cons_self).symm
  · exact off p (List.mem_append_right _ hp)

end Mine
namespace Mine
local macro_rules | `(tactic| walk_at "none") => `(tactic| skip)
local macro_rules | `(tactic| k_all) => `(tactic| assumption)
local macro_rules | `(tactic| k_mem) => `(tactic| assumption)
local macro_rules | `(tactic| ktr_room) => `(tactic| ((try simp only [depth_under_make, depth_under_kw, depth_in1, depth_deeper, depth_caller] at *); (try dsimp only [ktrTop] at *); omega))
local macro_rules | `(tactic| k_room) => `(tactic| ktr_room)
abbrev NewWant (P : Params) (R : Led) (wd : WantD) (v : Value) (R' : Led) : Prop :=
  ∃ x d ox, v = .ref x ∧ R' = (x, instObj 136 d) :: (d, ox) :: R ∧ IsWant P ox wd ∧ @LT.lt Nat _ d x ∧ AllLt d R
theorem want3_ok {w : World} {R : Led} {val most : Int} {b : Bool} {u1 u2 : Tok} :
    SpecN 5 w 136 [.int val u1, .int most u2, .bool b] R (NewWant w.params R ⟨val, most, b, false⟩) := by
  w_top off
  intro dp un gd cn cs L a ccd cl outer A₀ base h₀ m s Q E loose mean mg mb B F X N T hk hd hu hret
  k_dflt (refine' call_cls ?k1 ?k2 ?k3 ?k4 ?k5 ?k6 ?_; (case k1 => k_asm); (case k2 => k_asm); (case k3 => k_asm); (case k4 => k_is); (case k5 => k_is); (case k6 => k_is))
  intro x d h1 F1 N1 l1 l2
  have l1' := allLt_of l1
  have l2' : @LT.lt Nat _ d x := l2
  replace l1 := l1'
  k_dflt (refine' code_def ?k1 ?k2 ?k3 ?k4 ?k5 ?kA ?kF ?kK ?k6 ?k7 ?k8 ?k9 ?kB ?_ ?c2 ?c3 ?c4 ?c5; (case kA => exact rfl); (case kF => exact rfl); (case kK => assumption); (case k1 => k_asm); (case k2 => k_asm); (case k3 => k_asm); (case k4 => k_asm); (case k5 => k_asm); (case k6 => k_is); (case k7 => k_is); (case k8 => ktr_room); (case k9 => exact binds_K (by k_in) rfl (by k_is) rfl rfl rfl); (case c5 => decide); (case kB => exact locs rfl); (case c2 => exact rfl); (case c3 => exact rfl); (case c4 => exact rfl); k_whole; intro g' L' h' FG' F' N' B' X' T'; (try dsimp only); (try k_lift B'); (try k_fold))
  k_steps
  exact hret _ _ _ _ (by k_asm) (by k_asm) ⟨x, d, _, rfl, rfl, ⟨_, _, _, _, _, _, rfl⟩, l2', l1'⟩
theorem want2_ok {w : World} {R : Led} {val most : Int} {u1 u2 : Tok} :
    SpecN 5 w 136 [.int val u1, .int most u2] R (NewWant w.params R ⟨val, most, false, false⟩) := by
  w_top off
  intro dp un gd cn cs L a ccd cl outer A₀ base h₀ m s Q E loose mean mg mb B F X N T hk hd hu hret
  k_dflt (refine' call_cls ?k1 ?k2 ?k3 ?k4 ?k5 ?k6 ?_; (case k1 => k_asm); (case k2 => k_asm); (case k3 => k_asm); (case k4 => k_is); (case k5 => k_is); (case k6 => k_is))
  intro x d h1 F1 N1 l1 l2
  have l1' := allLt_of l1
  have l2' : @LT.lt Nat _ d x := l2
  replace l1 := l1'
  k_dflt (refine' code_def ?k1 ?k2 ?k3 ?k4 ?k5 ?kA ?kF ?kK ?k6 ?k7 ?k8 ?k9 ?kB ?_ ?c2 ?c3 ?c4 ?c5; (case kA => exact rfl); (case kF => exact rfl); (case kK => assumption); (case k1 => k_asm); (case k2 => k_asm); (case k3 => k_asm); (case k4 => k_asm); (case k5 => k_asm); (case k6 => k_is); (case k7 => k_is); (case k8 => ktr_room); (case k9 => exact binds_K (by k_in) rfl (by k_is) rfl rfl rfl); (case c5 => decide); (case kB => exact locs rfl); (case c2 => exact rfl); (case c3 => exact rfl); (case c4 => exact rfl); k_whole; intro g' L' h' FG' F' N' B' X' T'; (try dsimp only); (try k_lift B'); (try k_fold))
  k_steps
  exact hret _ _ _ _ (by k_asm) (by k_asm) ⟨x, d, _, rfl, rfl, ⟨_, _, _, _, _, _, rfl⟩, l2', l1'⟩

end Mine
namespace Mine
local macro_rules | `(tactic| k_all) => `(tactic| assumption)
local macro_rules | `(tactic| k_mem) => `(tactic| assumption)
local macro_rules | `(tactic| ktr_room) => `(tactic| ((try simp only [depth_under_make, depth_under_kw, depth_in1, depth_deeper, depth_caller] at *); (try dsimp only [ktrTop] at *); omega))
local macro_rules | `(tactic| k_room) => `(tactic| ktr_room)
local macro_rules | `(tactic| walk_at "pyIter ref") => `(tactic| refine Stop.on ?_)
local macro_rules | `(tactic| walk_at "exec For") => `(tactic| (k_here; k_dflt (refine For_invVF (by k_asm) (by rfl) (by rfl) ?_)))
local macro_rules | `(tactic| walk_at "exec For Name Name") => `(tactic| (k_here; k_dflt (refine For_invVF (by k_asm) (by rfl) (by rfl) ?_)))
local macro_rules | `(tactic| walk_at "exec For Name Name cons nil") => `(tactic| (k_here; k_dflt (refine For_invVF (by k_asm) (by rfl) (by rfl) ?_)))
local macro_rules | `(tactic| walk_at "binaryOp Add ref ref") => `(tactic| (k_here; (with_reducible show wpAny _ _ (binaryOp _ (Value.ref 73) (Value.ref _)) _ _ _); k_dflt (refine' kde_addT (by k_asm) (by k_asm) (by kun_tup) (by kun_tup) (by exact List.cons_ne_nil _ _) (by exact List.cons_ne_nil _ _) (by exact Nat.le_of_ble_eq_true rfl) (by kun_lit) ?_; k_whole); intro D' h' F' N' l1; (try k_lt l1); (try k_sweep)))
local macro_rules | `(tactic| walk_at "setItem ref str") => `(tactic| (k_here; (with_reducible show wpAny _ _ (setItem (Value.ref _) (Value.str _ _) (Value.ref _)) _ _ _); k_dflt (refine' kda_set (knd := PySem.strKind _ _) (by k_asm) (by k_asm) (by k_updF) (by k_asm) (strKind_is _ _ _ _) (by assumption) ?_); intro h' o' F' N' hd'))

local macro_rules | `(tactic| walk_at "exec If") => `(tactic| (k_here; (with_reducible show wpAny _ _ (exec (Stmt.If (PySem.Expr.Call _ _ _ _) _ _ _) _) _ _ _); (fail_if_success (with_reducible rename Go 1 => hGo9)); refine Stop.on ?_))

local macro_rules | `(tactic| walk_at "compareOp In str ref") => `(tactic| (k_here; (with_reducible show wpAny _ _ (compareOp CmpOp.In (Value.str _ _) (Value.ref 65)) _ _ _); (with_unfolding_all refine' in_tuple_strs (by exact kun_topT (by k_asm) (by k_asm) (by k_is)) (by kde_strs) ?_; k_whole)))

local macro_rules | `(tactic| walk_at "call ref") => `(tactic| (k_here; (with_reducible show wpAny _ _ (call (Value.ref 136) _) _ _ _); k_dflt (refine' Spec.use ?S ?k1 ?k2 ?k3 ?k4 ?k5 ?kK ?kd ?ku ?_; (case k1 => k_asm); (case k2 => k_asm); (case k3 => k_asm); (case k4 => k_asm); (case k5 => k_asm); (case kK => exact rfl); (case S => first | exact want2_ok | exact want3_ok); (case kd => ktr_room); (case ku => ktr_units); k_whole); intro r9 h9 tk9 n9 F9 N9 P9; obtain ⟨x9, d9, o9, e91, e92, w9, l9, l8⟩ := P9; subst e91; subst e92; simp only [AllLt, and_true] at l8; (try dsimp only)))

def commonT : List Str := [Str.ofString "abvm", Str.ofString "blwm", Str.ofString "ccmp", Str.ofString "locl", Str.ofString "mark", Str.ofString "mkmk", Str.ofString "rlig", Str.ofString "calt", Str.ofString "clig", Str.ofString "curs", Str.ofString "dist", Str.ofString "kern", Str.ofString "liga", Str.ofString "rclt"]
def dirT (b : Bool) : List Str := if b then [Str.ofString "rtla"] else [Str.ofString "ltra", Str.ofString "ltrm"]
def formT : List Str := [Str.ofString "isol", Str.ofString "fina", Str.ofString "medi", Str.ofString "init"]
def wOn : WantD := ⟨1, 1, false, false⟩
def wForm : WantD := ⟨0, 1, true, false⟩
def baseT (b : Bool) : List (Str × WantD) := (commonT ++ dirT b).map (fun t => (t, wOn)) ++ (if b then [(Str.ofString "rtlm", wForm)] else [])
def firstT (ar b : Bool) : List (Str × WantD) :=
  baseT b ++ (if ar then formT.map (fun t => (t, wForm)) else [])

theorem first_arab_true {w : World} {R : Led} {t : Tok} : Spec w 147 [.str (Str.ofString "arab") t, .bool true] R (fun v R' => ∃ d T cs, v = .ref d ∧ R' = T ++ R ∧ TabC w T d cs ∧ Off T R ∧ datOf cs = firstT true true) := by
  w_top off
  intro dp un gd cn cs L a ccd cl outer A₀ base h₀ m s Q E loose mean mg mb B F X N T hk hd hu hret
  refine wpAny_call ?_
  k_dflt cell_enter
  k_steps
  rename_i g L' _ FG B' X' T' d _ o ld lo hs fs hI fI _ D h F2 N2 l2
  refine Stop.off ?_
  obtain ⟨vs, n, hvs, N2⟩ : ∃ vs n, StrsAre vs (commonT ++ dirT true) ∧ News g L' h ((D, ({ cls := .type "tuple", data := .seq vs.toArray n } : Obj)) :: (d, o) :: R) := by
    refine ⟨_, _, ?_, N2⟩
    repeat constructor
  refine for_tupS [] (fun i R₁ => ∃ T cs, R₁ = T ++ (D, ({ cls := .type "tuple", data := .seq vs.toArray n } : Obj)) :: R ∧ TabC w T d cs ∧ Off T ((D, ({ cls := .type "tuple", data := .seq vs.toArray n } : Obj)) :: R) ∧ datOf cs = ((commonT ++ dirT true).take i).map (fun t => (t, wOn))) rfl F2 (news_sub (R' := (d, o) :: (D, ({ cls := .type "tuple", data := .seq vs.toArray n } : Obj)) :: R) N2 ?_) (List.mem_cons_of_mem _ List.mem_cons_self) ⟨[(d, o)], [], rfl, ?_, ?_, rfl⟩ ?_ ?_
  · intro p hp
    rcases List.mem_cons.mp hp with rfl | hp
    · exact List.mem_cons_of_mem _ List.mem_cons_self
    · rcases List.mem_cons.mp hp with rfl | hp
      · exact List.mem_cons_self
      · exact List.mem_cons_of_mem _ (List.mem_cons_of_mem _ hp)
  · exact ⟨⟨o, List.mem_singleton.mpr rfl, hs⟩, lo, (fun _ h => nomatch h), List.nodup_nil, (fun _ h => nomatch h), Nat.zero_le _⟩
  · intro p hp q hq
    rw [List.mem_singleton.mp hp]
    rcases List.mem_cons.mp hq with rfl | hq
    · exact Nat.ne_of_gt l2.1
    · exact Nat.ne_of_lt (ld q hq)
  · intro I i v u R₁ oI h' tk hv hsrc off hJ F3 N3
    obtain ⟨T, cs, rfl, tc, ot, dt⟩ := hJ
    obtain ⟨t', tok, ht, rfl⟩ := strs_at hvs (by simpa using hv)
    have ot' := off_it (oI := oI) ot off
    obtain ⟨oD, R3, hdD, N4, hoff, h3, h3'⟩ := tab_front (it_in N3) tc ot'
    have hz : (kvsOf cs).length ≤ sizeLine := kvs_size tc.small
    have hlen := len_of dt
    have hkey := keys_of dt
    clear N3 N2 F2
    k_steps
    rename News _ _ _ _ => N5
    rename Fr _ _ _ _ => F5
    rename Obj.IsDictOf _ _ (stored _ _ _) => hd5
    rename _ ∧ AllLt _ _ => lt5
    rename (_ : Nat) < _ => ly
    obtain ⟨T', cs', a1, a2, a3, a4⟩ := add_cell (v := wOn) N5 h3 (allLt_lt lt5.2) lt5.1 ly tc ot' hd5 (by rw [hkey]; exact not_in_take (by decide) ht) (by assumption) (by rw [hlen, List.length_map, List.length_take]; exact Nat.lt_of_le_of_lt (Nat.min_le_right _ _) (by decide))
    obtain ⟨b1, b2⟩ := off_out a3 off
    refine ⟨_, _, _, _, rfl, F5, it_out a1, b2, List.mem_append_right _ List.mem_cons_self, ⟨T', _, rfl, a2, b1, ?_⟩, ?_⟩
    · rw [a4, dt, take_next ht, List.map_append]
      rfl
    · intro y h1 h2
      simp only [h1, h2, if_false, Bool.false_eq_true]
  · intro u R₁ h' tk hJ F3 N3
    obtain ⟨T, cs, rfl, tc, ot, dt⟩ := hJ
    rw [List.size_toArray, hvs.length, List.take_length] at dt
    clear N2 F2
    obtain ⟨oD, R3, hdD, N4, hoff, h3, h3'⟩ := tab_front N3 tc ot
    have hz : (kvsOf cs).length ≤ sizeLine := kvs_size tc.small
    have hlen := len_of dt
    have hkey := keys_of dt
    clear N3
    k_steps
    rename News _ _ _ _ => N5
    rename Obj.IsDictOf _ _ (stored _ _ _) => hd5
    rename _ ∧ AllLt _ _ => lt5
    rename (_ : Nat) < _ => ly
    obtain ⟨T1, cs1, a1, a2, a3, a4⟩ := add_cell (v := wForm) N5 h3 (allLt_lt lt5.2) lt5.1 ly tc ot hd5 (by rw [hkey]; decide) (by assumption) (by rw [hlen]; decide)
    have dt1 : datOf cs1 = baseT true := by
      rw [a4, dt]
      rfl
    clear N5
    have go1 : Go 1 := ⟨⟩
    refine Stop.off ?_
    k_steps
    refine Stop.off ?_
    obtain ⟨us, hus, hK⟩ : ∃ us, StrsAre us formT ∧ g.get? 64 = some ⟨.type "tuple", none, .seq us.toArray 0, #[]⟩ := by
      refine ⟨_, ?_, X' 64 _ rfl⟩
      repeat constructor
    refine for_tupK [] (fun i R₁ => ∃ T cs, R₁ = T ++ (D, ({ cls := .type "tuple", data := .seq vs.toArray n } : Obj)) :: R ∧ TabC w T d cs ∧ Off T ((D, ({ cls := .type "tuple", data := .seq vs.toArray n } : Obj)) :: R) ∧ datOf cs = baseT true ++ (formT.take i).map (fun t => (t, wForm))) rfl (by k_asm) (R₀ := T1 ++ (D, ({ cls := .type "tuple", data := .seq vs.toArray n } : Obj)) :: R) (by k_asm) hK ⟨T1, cs1, rfl, a2, a3, by rw [dt1, List.take_zero, List.map_nil, List.append_nil]⟩ ?_ ?_
    · intro I i v u R₁ oI h' tk hv off hJ F3 N3
      obtain ⟨T, cs, rfl, tc, ot, dt⟩ := hJ
      obtain ⟨t', tok, ht, rfl⟩ := strs_at hus (by simpa using hv)
      have ot' := off_it (oI := oI) ot off
      obtain ⟨oD, R3, hdD, N4, hoff, h3, h3'⟩ := tab_front (it_in N3) tc ot'
      have hz : (kvsOf cs).length ≤ sizeLine := kvs_size tc.small
      have hlen := len_of dt
      have hkey : cs.map (·.key) = (baseT true).map (·.1) ++ formT.take i := by
        rw [keys_dat, dt, List.map_append, List.map_map]
        exact congrArg _ (List.map_id' _)
      clear N3 a1
      k_steps
      rename News _ _ _ _ => N5
      rename Fr _ _ _ _ => F5
      rename Obj.IsDictOf _ _ (stored _ _ _) => hd5
      rename _ ∧ AllLt _ _ => lt5
      rename (_ : Nat) < _ => ly
      obtain ⟨T', cs', a1, a2, a3, a4⟩ := add_cell (v := wForm) N5 h3 (allLt_lt lt5.2) lt5.1 ly tc ot' hd5 (by rw [hkey]; exact not_in_take2 (by decide) ht) (by assumption) (by rw [hlen, List.length_append, List.length_map, List.length_take]; exact Nat.lt_of_le_of_lt (Nat.add_le_add_left (Nat.min_le_right _ _) _) (by decide))
      obtain ⟨b1, b2⟩ := off_out a3 off
      refine ⟨_, _, _, _, rfl, F5, it_out a1, b2, ⟨T', _, rfl, a2, b1, ?_⟩, ?_⟩
      · rw [a4, dt, take_next ht, List.map_append, List.append_assoc]
        rfl
      · intro y h1 h2
        simp only [h1, h2, if_false, Bool.false_eq_true]
    · intro u R₁ h' tk hJ F3 N3
      obtain ⟨T, cs, rfl, tc, ot, dt⟩ := hJ
      rw [List.size_toArray, hus.length, List.take_length] at dt
      clear a1
      k_steps
      refine hret _ _ _ _ (by k_asm) (by k_asm) ⟨d, T ++ [(D, ({ cls := .type "tuple", data := .seq vs.toArray n } : Obj))], cs, rfl, by rw [List.append_assoc]; rfl, tc.mono (fun p hp => List.mem_append_left _ hp), ?_, dt⟩
      intro p hp q hq
      rcases List.mem_append.mp hp with hp | hp
      · exact ot p hp q (List.mem_cons_of_mem _ hq)
      · rw [List.mem_singleton.mp hp]; exact Nat.ne_of_lt (allLt_lt l2.2 q hq)
theorem first_arab_false {w : World} {R : Led} {t : Tok} : Spec w 147 [.str (Str.ofString "arab") t, .bool false] R (fun v R' => ∃ d T cs, v = .ref d ∧ R' = T ++ R ∧ TabC w T d cs ∧ Off T R ∧ datOf cs = firstT true false) := by
  w_top off
  intro dp un gd cn cs L a ccd cl outer A₀ base h₀ m s Q E loose mean mg mb B F X N T hk hd hu hret
  refine wpAny_call ?_
  k_dflt cell_enter
  k_steps
  rename_i g L' _ FG B' X' T' d _ o ld lo hs fs hI fI _ D h F2 N2 l2
  refine Stop.off ?_
  obtain ⟨vs, n, hvs, N2⟩ : ∃ vs n, StrsAre vs (commonT ++ dirT false) ∧ News g L' h ((D, ({ cls := .type "tuple", data := .seq vs.toArray n } : Obj)) :: (d, o) :: R) := by
    refine ⟨_, _, ?_, N2⟩
    repeat constructor
  refine for_tupS [] (fun i R₁ => ∃ T cs, R₁ = T ++ (D, ({ cls := .type "tuple", data := .seq vs.toArray n } : Obj)) :: R ∧ TabC w T d cs ∧ Off T ((D, ({ cls := .type "tuple", data := .seq vs.toArray n } : Obj)) :: R) ∧ datOf cs = ((commonT ++ dirT false).take i).map (fun t => (t, wOn))) rfl F2 (news_sub (R' := (d, o) :: (D, ({ cls := .type "tuple", data := .seq vs.toArray n } : Obj)) :: R) N2 ?_) (List.mem_cons_of_mem _ List.mem_cons_self) ⟨[(d, o)], [], rfl, ?_, ?_, rfl⟩ ?_ ?_
  · intro p hp
    rcases List.mem_cons.mp hp with rfl | hp
    · exact List.mem_cons_of_mem _ List.mem_cons_self
    · rcases List.mem_cons.mp hp with rfl | hp
      · exact List.mem_cons_self
      · exact List.mem_cons_of_mem _ (List.mem_cons_of_mem _ hp)
  · exact ⟨⟨o, List.mem_singleton.mpr rfl, hs⟩, lo, (fun _ h => nomatch h), List.nodup_nil, (fun _ h => nomatch h), Nat.zero_le _⟩
  · intro p hp q hq
    rw [List.mem_singleton.mp hp]
    rcases List.mem_cons.mp hq with rfl | hq
    · exact Nat.ne_of_gt l2.1
    · exact Nat.ne_of_lt (ld q hq)
  · intro I i v u R₁ oI h' tk hv hsrc off hJ F3 N3
    obtain ⟨T, cs, rfl, tc, ot, dt⟩ := hJ
    obtain ⟨t', tok, ht, rfl⟩ := strs_at hvs (by simpa using hv)
    have ot' := off_it (oI := oI) ot off
    obtain ⟨oD, R3, hdD, N4, hoff, h3, h3'⟩ := tab_front (it_in N3) tc ot'
    have hz : (kvsOf cs).length ≤ sizeLine := kvs_size tc.small
    have hlen := len_of dt
    have hkey := keys_of dt
    clear N3 N2 F2
    k_steps
    rename News _ _ _ _ => N5
    rename Fr _ _ _ _ => F5
    rename Obj.IsDictOf _ _ (stored _ _ _) => hd5
    rename _ ∧ AllLt _ _ => lt5
    rename (_ : Nat) < _ => ly
    obtain ⟨T', cs', a1, a2, a3, a4⟩ := add_cell (v := wOn) N5 h3 (allLt_lt lt5.2) lt5.1 ly tc ot' hd5 (by rw [hkey]; exact not_in_take (by decide) ht) (by assumption) (by rw [hlen, List.length_map, List.length_take]; exact Nat.lt_of_le_of_lt (Nat.min_le_right _ _) (by decide))
    obtain ⟨b1, b2⟩ := off_out a3 off
    refine ⟨_, _, _, _, rfl, F5, it_out a1, b2, List.mem_append_right _ List.mem_cons_self, ⟨T', _, rfl, a2, b1, ?_⟩, ?_⟩
    · rw [a4, dt, take_next ht, List.map_append]
      rfl
    · intro y h1 h2
      simp only [h1, h2, if_false, Bool.false_eq_true]
  · intro u R₁ h' tk hJ F3 N3
    obtain ⟨T, cs, rfl, tc, ot, dt⟩ := hJ
    rw [List.size_toArray, hvs.length, List.take_length] at dt
    clear N2 F2
    k_steps
    have a1 := N3
    have a2 := tc
    have a3 := ot
    have dt1 : datOf cs = baseT false := by rw [dt]; unfold baseT; simp
    obtain ⟨T1, e0⟩ : ∃ T1, T1 = T := ⟨_, rfl⟩
    obtain ⟨cs1, e1⟩ : ∃ cs1, cs1 = cs := ⟨_, rfl⟩
    rw [← e0] at a1 a2 a3
    rw [← e1] at a2 dt1
    clear N3
    have go1 : Go 1 := ⟨⟩
    refine Stop.off ?_
    k_steps
    refine Stop.off ?_
    obtain ⟨us, hus, hK⟩ : ∃ us, StrsAre us formT ∧ g.get? 64 = some ⟨.type "tuple", none, .seq us.toArray 0, #[]⟩ := by
      refine ⟨_, ?_, X' 64 _ rfl⟩
      repeat constructor
    refine for_tupK [] (fun i R₁ => ∃ T cs, R₁ = T ++ (D, ({ cls := .type "tuple", data := .seq vs.toArray n } : Obj)) :: R ∧ TabC w T d cs ∧ Off T ((D, ({ cls := .type "tuple", data := .seq vs.toArray n } : Obj)) :: R) ∧ datOf cs = baseT false ++ (formT.take i).map (fun t => (t, wForm))) rfl (by k_asm) (R₀ := T1 ++ (D, ({ cls := .type "tuple", data := .seq vs.toArray n } : Obj)) :: R) (by k_asm) hK ⟨T1, cs1, rfl, a2, a3, by rw [dt1, List.take_zero, List.map_nil, List.append_nil]⟩ ?_ ?_
    · intro I i v u R₁ oI h' tk hv off hJ F3 N3
      obtain ⟨T, cs, rfl, tc, ot, dt⟩ := hJ
      obtain ⟨t', tok, ht, rfl⟩ := strs_at hus (by simpa using hv)
      have ot' := off_it (oI := oI) ot off
      obtain ⟨oD, R3, hdD, N4, hoff, h3, h3'⟩ := tab_front (it_in N3) tc ot'
      have hz : (kvsOf cs).length ≤ sizeLine := kvs_size tc.small
      have hlen := len_of dt
      have hkey : cs.map (·.key) = (baseT false).map (·.1) ++ formT.take i := by
        rw [keys_dat, dt, List.map_append, List.map_map]
        exact congrArg _ (List.map_id' _)
      clear N3 a1
      k_steps
      rename News _ _ _ _ => N5
      rename Fr _ _ _ _ => F5
      rename Obj.IsDictOf _ _ (stored _ _ _) => hd5
      rename _ ∧ AllLt _ _ => lt5
      rename (_ : Nat) < _ => ly
      obtain ⟨T', cs', a1, a2, a3, a4⟩ := add_cell (v := wForm) N5 h3 (allLt_lt lt5.2) lt5.1 ly tc ot' hd5 (by rw [hkey]; exact not_in_take2 (by decide) ht) (by assumption) (by rw [hlen, List.length_append, List.length_map, List.length_take]; exact Nat.lt_of_le_of_lt (Nat.add_le_add_left (Nat.min_le_right _ _) _) (by decide))
      obtain ⟨b1, b2⟩ := off_out a3 off
      refine ⟨_, _, _, _, rfl, F5, it_out a1, b2, ⟨T', _, rfl, a2, b1, ?_⟩, ?_⟩
      · rw [a4, dt, take_next ht, List.map_append, List.append_assoc]
        rfl
      · intro y h1 h2
        simp only [h1, h2, if_false, Bool.false_eq_true]
    · intro u R₁ h' tk hJ F3 N3
      obtain ⟨T, cs, rfl, tc, ot, dt⟩ := hJ
      rw [List.size_toArray, hus.length, List.take_length] at dt
      clear a1
      k_steps
      refine hret _ _ _ _ (by k_asm) (by k_asm) ⟨d, T ++ [(D, ({ cls := .type "tuple", data := .seq vs.toArray n } : Obj))], cs, rfl, by rw [List.append_assoc]; rfl, tc.mono (fun p hp => List.mem_append_left _ hp), ?_, dt⟩
      intro p hp q hq
      rcases List.mem_append.mp hp with hp | hp
      · exact ot p hp q (List.mem_cons_of_mem _ hq)
      · rw [List.mem_singleton.mp hp]; exact Nat.ne_of_lt (allLt_lt l2.2 q hq)
theorem first_latn_true {w : World} {R : Led} {t : Tok} : Spec w 147 [.str (Str.ofString "latn") t, .bool true] R (fun v R' => ∃ d T cs, v = .ref d ∧ R' = T ++ R ∧ TabC w T d cs ∧ Off T R ∧ datOf cs = firstT false true) := by
  w_top off
  intro dp un gd cn cs L a ccd cl outer A₀ base h₀ m s Q E loose mean mg mb B F X N T hk hd hu hret
  refine wpAny_call ?_
  k_dflt cell_enter
  k_steps
  rename_i g L' _ FG B' X' T' d _ o ld lo hs fs hI fI _ D h F2 N2 l2
  refine Stop.off ?_
  obtain ⟨vs, n, hvs, N2⟩ : ∃ vs n, StrsAre vs (commonT ++ dirT true) ∧ News g L' h ((D, ({ cls := .type "tuple", data := .seq vs.toArray n } : Obj)) :: (d, o) :: R) := by
    refine ⟨_, _, ?_, N2⟩
    repeat constructor
  refine for_tupS [] (fun i R₁ => ∃ T cs, R₁ = T ++ (D, ({ cls := .type "tuple", data := .seq vs.toArray n } : Obj)) :: R ∧ TabC w T d cs ∧ Off T ((D, ({ cls := .type "tuple", data := .seq vs.toArray n } : Obj)) :: R) ∧ datOf cs = ((commonT ++ dirT true).take i).map (fun t => (t, wOn))) rfl F2 (news_sub (R' := (d, o) :: (D, ({ cls := .type "tuple", data := .seq vs.toArray n } : Obj)) :: R) N2 ?_) (List.mem_cons_of_mem _ List.mem_cons_self) ⟨[(d, o)], [], rfl, ?_, ?_, rfl⟩ ?_ ?_
  · intro p hp
    rcases List.mem_cons.mp hp with rfl | hp
    · exact List.mem_cons_of_mem _ List.mem_cons_self
    · rcases List.mem_cons.mp hp with rfl | hp
      · exact List.mem_cons_self
      · exact List.mem_cons_of_mem _ (List.mem_cons_of_mem _ hp)
  · exact ⟨⟨o, List.mem_singleton.mpr rfl, hs⟩, lo, (fun _ h => nomatch h), List.nodup_nil, (fun _ h => nomatch h), Nat.zero_le _⟩
  · intro p hp q hq
    rw [List.mem_singleton.mp hp]
    rcases List.mem_cons.mp hq with rfl | hq
    · exact Nat.ne_of_gt l2.1
    · exact Nat.ne_of_lt (ld q hq)
  · intro I i v u R₁ oI h' tk hv hsrc off hJ F3 N3
    obtain ⟨T, cs, rfl, tc, ot, dt⟩ := hJ
    obtain ⟨t', tok, ht, rfl⟩ := strs_at hvs (by simpa using hv)
    have ot' := off_it (oI := oI) ot off
    obtain ⟨oD, R3, hdD, N4, hoff, h3, h3'⟩ := tab_front (it_in N3) tc ot'
    have hz : (kvsOf cs).length ≤ sizeLine := kvs_size tc.small
    have hlen := len_of dt
    have hkey := keys_of dt
    clear N3 N2 F2
    k_steps
    rename News _ _ _ _ => N5
    rename Fr _ _ _ _ => F5
    rename Obj.IsDictOf _ _ (stored _ _ _) => hd5
    rename _ ∧ AllLt _ _ => lt5
    rename (_ : Nat) < _ => ly
    obtain ⟨T', cs', a1, a2, a3, a4⟩ := add_cell (v := wOn) N5 h3 (allLt_lt lt5.2) lt5.1 ly tc ot' hd5 (by rw [hkey]; exact not_in_take (by decide) ht) (by assumption) (by rw [hlen, List.length_map, List.length_take]; exact Nat.lt_of_le_of_lt (Nat.min_le_right _ _) (by decide))
    obtain ⟨b1, b2⟩ := off_out a3 off
    refine ⟨_, _, _, _, rfl, F5, it_out a1, b2, List.mem_append_right _ List.mem_cons_self, ⟨T', _, rfl, a2, b1, ?_⟩, ?_⟩
    · rw [a4, dt, take_next ht, List.map_append]
      rfl
    · intro y h1 h2
      simp only [h1, h2, if_false, Bool.false_eq_true]
  · intro u R₁ h' tk hJ F3 N3
    obtain ⟨T, cs, rfl, tc, ot, dt⟩ := hJ
    rw [List.size_toArray, hvs.length, List.take_length] at dt
    clear N2 F2
    obtain ⟨oD, R3, hdD, N4, hoff, h3, h3'⟩ := tab_front N3 tc ot
    have hz : (kvsOf cs).length ≤ sizeLine := kvs_size tc.small
    have hlen := len_of dt
    have hkey := keys_of dt
    clear N3
    k_steps
    rename News _ _ _ _ => N5
    rename Obj.IsDictOf _ _ (stored _ _ _) => hd5
    rename _ ∧ AllLt _ _ => lt5
    rename (_ : Nat) < _ => ly
    obtain ⟨T1, cs1, a1, a2, a3, a4⟩ := add_cell (v := wForm) N5 h3 (allLt_lt lt5.2) lt5.1 ly tc ot hd5 (by rw [hkey]; decide) (by assumption) (by rw [hlen]; decide)
    have dt1 : datOf cs1 = baseT true := by
      rw [a4, dt]
      rfl
    clear N5
    have go1 : Go 1 := ⟨⟩
    refine Stop.off ?_
    k_steps
    refine hret _ _ _ _ (by k_asm) (by k_asm) ⟨d, T1 ++ [(D, ({ cls := .type "tuple", data := .seq vs.toArray n } : Obj))], cs1, rfl, by rw [List.append_assoc]; rfl, a2.mono (fun p hp => List.mem_append_left _ hp), ?_, dt1.trans rfl⟩
    intro p hp q hq
    rcases List.mem_append.mp hp with hp | hp
    · exact a3 p hp q (List.mem_cons_of_mem _ hq)
    · rw [List.mem_singleton.mp hp]; exact Nat.ne_of_lt (allLt_lt l2.2 q hq)
theorem first_latn_false {w : World} {R : Led} {t : Tok} : Spec w 147 [.str (Str.ofString "latn") t, .bool false] R (fun v R' => ∃ d T cs, v = .ref d ∧ R' = T ++ R ∧ TabC w T d cs ∧ Off T R ∧ datOf cs = firstT false false) := by
  w_top off
  intro dp un gd cn cs L a ccd cl outer A₀ base h₀ m s Q E loose mean mg mb B F X N T hk hd hu hret
  refine wpAny_call ?_
  k_dflt cell_enter
  k_steps
  rename_i g L' _ FG B' X' T' d _ o ld lo hs fs hI fI _ D h F2 N2 l2
  refine Stop.off ?_
  obtain ⟨vs, n, hvs, N2⟩ : ∃ vs n, StrsAre vs (commonT ++ dirT false) ∧ News g L' h ((D, ({ cls := .type "tuple", data := .seq vs.toArray n } : Obj)) :: (d, o) :: R) := by
    refine ⟨_, _, ?_, N2⟩
    repeat constructor
  refine for_tupS [] (fun i R₁ => ∃ T cs, R₁ = T ++ (D, ({ cls := .type "tuple", data := .seq vs.toArray n } : Obj)) :: R ∧ TabC w T d cs ∧ Off T ((D, ({ cls := .type "tuple", data := .seq vs.toArray n } : Obj)) :: R) ∧ datOf cs = ((commonT ++ dirT false).take i).map (fun t => (t, wOn))) rfl F2 (news_sub (R' := (d, o) :: (D, ({ cls := .type "tuple", data := .seq vs.toArray n } : Obj)) :: R) N2 ?_) (List.mem_cons_of_mem _ List.mem_cons_self) ⟨[(d, o)], [], rfl, ?_, ?_, rfl⟩ ?_ ?_
  · intro p hp
    rcases List.mem_cons.mp hp with rfl | hp
    · exact List.mem_cons_of_mem _ List.mem_cons_self
    · rcases List.mem_cons.mp hp with rfl | hp
      · exact List.mem_cons_self
      · exact List.mem_cons_of_mem _ (List.mem_cons_of_mem _ hp)
  · exact ⟨⟨o, List.mem_singleton.mpr rfl, hs⟩, lo, (fun _ h => nomatch h), List.nodup_nil, (fun _ h => nomatch h), Nat.zero_le _⟩
  · intro p hp q hq
    rw [List.mem_singleton.mp hp]
    rcases List.mem_cons.mp hq with rfl | hq
    · exact Nat.ne_of_gt l2.1
    · exact Nat.ne_of_lt (ld q hq)
  · intro I i v u R₁ oI h' tk hv hsrc off hJ F3 N3
    obtain ⟨T, cs, rfl, tc, ot, dt⟩ := hJ
    obtain ⟨t', tok, ht, rfl⟩ := strs_at hvs (by simpa using hv)
    have ot' := off_it (oI := oI) ot off
    obtain ⟨oD, R3, hdD, N4, hoff, h3, h3'⟩ := tab_front (it_in N3) tc ot'
    have hz : (kvsOf cs).length ≤ sizeLine := kvs_size tc.small
    have hlen := len_of dt
    have hkey := keys_of dt
    clear N3 N2 F2
    k_steps
    rename News _ _ _ _ => N5
    rename Fr _ _ _ _ => F5
    rename Obj.IsDictOf _ _ (stored _ _ _) => hd5
    rename _ ∧ AllLt _ _ => lt5
    rename (_ : Nat) < _ => ly
    obtain ⟨T', cs', a1, a2, a3, a4⟩ := add_cell (v := wOn) N5 h3 (allLt_lt lt5.2) lt5.1 ly tc ot' hd5 (by rw [hkey]; exact not_in_take (by decide) ht) (by assumption) (by rw [hlen, List.length_map, List.length_take]; exact Nat.lt_of_le_of_lt (Nat.min_le_right _ _) (by decide))
    obtain ⟨b1, b2⟩ := off_out a3 off
    refine ⟨_, _, _, _, rfl, F5, it_out a1, b2, List.mem_append_right _ List.mem_cons_self, ⟨T', _, rfl, a2, b1, ?_⟩, ?_⟩
    · rw [a4, dt, take_next ht, List.map_append]
      rfl
    · intro y h1 h2
      simp only [h1, h2, if_false, Bool.false_eq_true]
  · intro u R₁ h' tk hJ F3 N3
    obtain ⟨T, cs, rfl, tc, ot, dt⟩ := hJ
    rw [List.size_toArray, hvs.length, List.take_length] at dt
    clear N2 F2
    k_steps
    have a1 := N3
    have a2 := tc
    have a3 := ot
    have dt1 : datOf cs = baseT false := by rw [dt]; unfold baseT; simp
    obtain ⟨T1, e0⟩ : ∃ T1, T1 = T := ⟨_, rfl⟩
    obtain ⟨cs1, e1⟩ : ∃ cs1, cs1 = cs := ⟨_, rfl⟩
    rw [← e0] at a1 a2 a3
    rw [← e1] at a2 dt1
    clear N3
    have go1 : Go 1 := ⟨⟩
    refine Stop.off ?_
    k_steps
    refine hret _ _ _ _ (by k_asm) (by k_asm) ⟨d, T1 ++ [(D, ({ cls := .type "tuple", data := .seq vs.toArray n } : Obj))], cs1, rfl, by rw [List.append_assoc]; rfl, a2.mono (fun p hp => List.mem_append_left _ hp), ?_, dt1.trans rfl⟩
    intro p hp q hq
    rcases List.mem_append.mp hp with hp | hp
    · exact a3 p hp q (List.mem_cons_of_mem _ hq)
    · rw [List.mem_singleton.mp hp]; exact Nat.ne_of_lt (allLt_lt l2.2 q hq)

end Mine
namespace Mine
local macro_rules | `(tactic| k_all) => `(tactic| assumption)
local macro_rules | `(tactic| k_mem) => `(tactic| assumption)
local macro_rules | `(tactic| ktr_room) => `(tactic| ((try simp only [depth_under_make, depth_under_kw, depth_in1, depth_deeper, depth_caller] at *); (try dsimp only [ktrTop] at *); omega))
local macro_rules | `(tactic| k_room) => `(tactic| ktr_room)
local macro_rules | `(tactic| walk_at "pyIter ref") => `(tactic| refine Stop.on ?_)
local macro_rules | `(tactic| walk_at "exec For") => `(tactic| (k_here; k_dflt (refine For_invVF (by k_asm) (by rfl) (by rfl) ?_)))
local macro_rules | `(tactic| walk_at "exec For Name Name") => `(tactic| (k_here; k_dflt (refine For_invVF (by k_asm) (by rfl) (by rfl) ?_)))
local macro_rules | `(tactic| walk_at "exec For Name Name cons nil") => `(tactic| (k_here; k_dflt (refine For_invVF (by k_asm) (by rfl) (by rfl) ?_)))
local macro_rules | `(tactic| walk_at "setItem ref str") => `(tactic| (k_here; (with_reducible show wpAny _ _ (setItem (Value.ref _) (Value.str _ _) (Value.ref _)) _ _ _); k_dflt (refine' kda_set (knd := PySem.strKind _ _) (by k_asm) (by k_asm) (by k_updF) (by k_asm) (strKind_is _ _ _ _) (by assumption) ?_); intro h' o' F' N' hd'))


def scr (ar : Bool) : Str := if ar then Str.ofString "arab" else Str.ofString "latn"
theorem first_ok {w : World} {R : Led} {t : Tok} (ar b : Bool) : Spec w 147 [.str (scr ar) t, .bool b] R (fun v R' => ∃ d T cs, v = .ref d ∧ R' = T ++ R ∧ TabC w T d cs ∧ Off T R ∧ datOf cs = firstT ar b) := by
  cases ar <;> cases b
  · exact first_latn_false
  · exact first_latn_true
  · exact first_arab_false
  · exact first_arab_true

def v0 : WantD := ⟨0, 0, false, false⟩
def updW (v : WantD) (wi : Wi) : WantD := if wi.whole then ⟨wi.val, if wi.val > v.most then wi.val else v.most, false, v.isPart⟩ else ⟨v.val, if wi.val > v.most then wi.val else v.most, v.isSet, true⟩
theorem updW_whole {v : WantD} {wi : Wi} (h : wi.whole = true) : updW v wi = ⟨wi.val, if wi.val > v.most then wi.val else v.most, false, v.isPart⟩ := by unfold updW; rw [if_pos h]
theorem updW_part {v : WantD} {wi : Wi} (h : wi.whole = false) : updW v wi = ⟨v.val, if wi.val > v.most then wi.val else v.most, v.isSet, true⟩ := by unfold updW; rw [h]; rfl
def stepT (T : List (Str × WantD)) (wi : Wi) : List (Str × WantD) :=
  (if wi.tag ∈ T.map (·.1) then T else T ++ [(wi.tag, v0)]).map fun p => if p.1 = wi.tag then (p.1, updW p.2 wi) else p
def allT (ar b : Bool) (ws : List Wi) : List (Str × WantD) := ws.foldl stepT (firstT ar b)

inductive WishL (P : Params) (R : Led) : List Value → List Wi → Prop
  | nil : WishL P R [] []
  | cons {x : Value} {xs : List Value} {wi : Wi} {ws : List Wi} : WishAt P R x wi → WishL P R xs ws → WishL P R (x :: xs) (wi :: ws)

theorem WishL.at {P : Params} {R : Led} {xs : List Value} {ws : List Wi} (h : WishL P R xs ws) : ∀ {i : Nat} {v : Value}, xs[i]? = some v → ∃ wi, ws[i]? = some wi ∧ WishAt P R v wi := by
  induction h with
  | nil => intro i v e; simp at e
  | cons hx _ ih =>
    intro i v e
    cases i with
    | zero =>
      have e' := Option.some.inj (by simpa using e)
      exact ⟨_, rfl, e' ▸ hx⟩
    | succ i => exact ih (by simpa using e)
theorem WishL.length {P : Params} {R : Led} {xs : List Value} {ws : List Wi} (h : WishL P R xs ws) : xs.length = ws.length := by
  induction h with
  | nil => rfl
  | cons _ _ ih => simp [ih]
theorem WishAt.mono {P : Params} {R R' : Led} {x : Value} {wi : Wi} (h : WishAt P R x wi) (hs : ∀ p ∈ R, p ∈ R') : WishAt P R' x wi := by
  obtain ⟨a, dx, t1, t2, t3, t4, u1, u2, u3, u4, e, ha, hdx⟩ := h
  exact ⟨a, dx, t1, t2, t3, t4, u1, u2, u3, u4, e, hs _ ha, hs _ hdx⟩
theorem WishL.mono {P : Params} {R R' : Led} {xs : List Value} {ws : List Wi} (h : WishL P R xs ws) (hs : ∀ p ∈ R, p ∈ R') : WishL P R' xs ws := by
  induction h with
  | nil => exact .nil
  | cons hx _ ih => exact .cons (hx.mono hs) ih

local macro_rules | `(tactic| walk_at "call ref") => `(tactic| (k_here; k_dflt (refine' Spec.use ?S ?k1 ?k2 ?k3 ?k4 ?k5 ?kK ?kd ?ku ?_; (case k1 => k_asm); (case k2 => k_asm); (case k3 => k_asm); (case k4 => k_asm); (case k5 => k_asm); (case kK => exact rfl); (case S => first | exact check_ok (WishAt.mono (by assumption) (fun p hp => by k_mem)) (by assumption) | exact whole_ok (WishAt.mono (by assumption) (fun p hp => by k_mem))); (case kd => ktr_room); (case ku => ktr_units); k_whole); intro r9 h9 tk9 n9 F9 N9 P9; obtain ⟨e91, e92⟩ := P9; subst e91; subst e92; (try dsimp only)))
local macro_rules | `(tactic| walk_at "call ref") => `(tactic| (k_here; (with_reducible show wpAny _ _ (call (Value.ref 147) _) _ _ _); k_dflt (refine' Spec.use (first_ok _ _) (by k_asm) (by k_asm) (by k_asm) (by k_asm) (by k_asm) (by exact rfl) (by ktr_room) (by ktr_units) ?_; k_whole); intro r9 h9 tk9 n9 F9 N9 P9; obtain ⟨dF, TF, cF, e91, e92, tcF, otF, dtF⟩ := P9; subst e91; subst e92; (try dsimp only)))

/-- a want under an old key, turned -/
theorem upd_cell {w : World} {g h : Heap} {L d : Addr} {o' : Obj} {T rest R3 : Led} {pre post : List Cell} {c : Cell} {v : WantD}
    (N5 : News g L h ((c.dx, o') :: R3)) (h3 : ∀ p ∈ but T c.dx ++ rest, p ∈ R3) (tc : TabC w T d (pre ++ c :: post)) (ot : Off T rest) (hw : IsWant w.params o' v) :
    ∃ T' cs', News g L h (T' ++ rest) ∧ TabC w T' d cs' ∧ Off T' rest ∧ datOf cs' = datOf pre ++ (c.key, v) :: datOf post := by
  obtain ⟨oD, hoD, hdD⟩ := tc.od
  have hc : c ∈ pre ++ c :: post := List.mem_append_right _ List.mem_cons_self
  have nc := tc.ne c hc
  obtain ⟨cx, oc, _, cd⟩ := tc.cells c hc
  have nd := tc.nd
  rw [List.map_append, List.map_cons, List.nodup_append, List.nodup_cons] at nd
  have mem : ∀ c' ∈ pre ++ ⟨c.key, c.x, c.dx, v⟩ :: post, (c' ∈ pre ++ c :: post ∧ c'.dx ≠ c.dx) ∨ c' = ⟨c.key, c.x, c.dx, v⟩ := by
    intro c' h'
    rcases List.mem_append.mp h' with h' | h'
    · refine .inl ⟨List.mem_append_left _ h', fun e => ?_⟩
      exact nd.2.2 c'.dx (List.mem_map_of_mem h') c.dx List.mem_cons_self e
    · rcases List.mem_cons.mp h' with h' | h'
      · exact .inr h'
      · refine .inl ⟨List.mem_append_right _ (List.mem_cons_of_mem _ h'), fun e => ?_⟩
        exact nd.2.1.1 (e ▸ List.mem_map_of_mem h')
  refine ⟨(c.dx, o') :: but T c.dx, pre ++ ⟨c.key, c.x, c.dx, v⟩ :: post, ?_, ?_, ?_, ?_⟩
  · refine news_sub N5 fun p hp => ?_
    rcases List.mem_append.mp hp with hp | hp
    · rcases List.mem_cons.mp hp with rfl | hp
      · exact List.mem_cons_self
      · exact List.mem_cons_of_mem _ (h3 p (List.mem_append_left _ hp))
    · exact List.mem_cons_of_mem _ (h3 p (List.mem_append_right _ hp))
  · refine ⟨⟨oD, List.mem_cons_of_mem _ (mem_but.mpr ⟨hoD, nc.2.1.symm⟩), ?_⟩, tc.lo, ?_, ?_, ?_, ?_⟩
    · have e : kvsOf (pre ++ ⟨c.key, c.x, c.dx, v⟩ :: post) = kvsOf (pre ++ c :: post) := by unfold kvsOf; simp only [List.map_append, List.map_cons]
      rw [e]; exact hdD
    · intro c' h'
      rcases mem c' h' with ⟨h1, h2⟩ | rfl
      · obtain ⟨a, o₁, b1, b2⟩ := tc.cells c' h1
        exact ⟨List.mem_cons_of_mem _ (mem_but.mpr ⟨a, (tc.ne c' h1).2.2 c hc⟩), o₁, b1, List.mem_cons_of_mem _ (mem_but.mpr ⟨b2, h2⟩)⟩
      · exact ⟨List.mem_cons_of_mem _ (mem_but.mpr ⟨cx, nc.2.2 c hc⟩), o', hw, List.mem_cons_self⟩
    · have e : (pre ++ (⟨c.key, c.x, c.dx, v⟩ : Cell) :: post).map (·.dx) = (pre ++ c :: post).map (·.dx) := by simp only [List.map_append, List.map_cons]
      rw [e]; exact tc.nd
    · have old : ∀ c' ∈ pre ++ (⟨c.key, c.x, c.dx, v⟩ : Cell) :: post, ∃ c'' ∈ pre ++ c :: post, c'.x = c''.x ∧ c'.dx = c''.dx := fun c' h' => by
        rcases mem c' h' with ⟨h1, _⟩ | rfl
        · exact ⟨c', h1, rfl, rfl⟩
        · exact ⟨c, hc, rfl, rfl⟩
      intro c' h'
      obtain ⟨c'', m'', e1, e2⟩ := old c' h'
      have n'' := tc.ne c'' m''
      refine ⟨e1 ▸ n''.1, e2 ▸ n''.2.1, fun c3 h3 => ?_⟩
      obtain ⟨c4, m4, _, e4⟩ := old c3 h3
      rw [e1, e4]; exact n''.2.2 c4 m4
    · have := tc.small
      rw [List.length_append, List.length_cons] at this ⊢
      exact this
  · intro p hp q hq
    rcases List.mem_cons.mp hp with rfl | hp
    · exact ot (c.dx, oc) cd q hq
    · exact ot p (but_sub p hp) q hq
  · unfold datOf; rw [List.map_append, List.map_cons]
/-- the ledger with a want's dict ahead -/
theorem cell_front {w : World} {g h : Heap} {L d : Addr} {T rest : Led} {pre post : List Cell} {c : Cell} (N : News g L h (T ++ rest)) (tc : TabC w T d (pre ++ c :: post)) (ot : Off T rest) :
    ∃ oc oD R3, IsWant w.params oc c.v ∧ oD.IsDictOf (PySem.strKind PG w) (kvsOf (pre ++ c :: post)) ∧ News g L h ((c.dx, oc) :: R3) ∧ (∀ p ∈ R3, p.1 ≠ c.dx) ∧ (∀ p ∈ but T c.dx ++ rest, p ∈ R3) ∧ (d, oD) ∈ R3 ∧ (c.x, instObj 136 c.dx) ∈ R3 := by
  obtain ⟨oD, hoD, hdD⟩ := tc.od
  have hc : c ∈ pre ++ c :: post := List.mem_append_right _ List.mem_cons_self
  have nc := tc.ne c hc
  obtain ⟨cx, oc, hw, cd⟩ := tc.cells c hc
  refine ⟨oc, oD, but T c.dx ++ rest, hw, hdD, news_sub N fun p hp => ?_, fun p hp => ?_, fun _ h => h, List.mem_append_left _ (mem_but.mpr ⟨hoD, nc.2.1.symm⟩), List.mem_append_left _ (mem_but.mpr ⟨cx, nc.2.2 c hc⟩)⟩
  · rcases List.mem_cons.mp hp with rfl | hp
    · exact List.mem_append_left _ cd
    · rcases List.mem_append.mp hp with hp | hp
      · exact List.mem_append_left _ (but_sub p hp)
      · exact List.mem_append_right _ hp
  · rcases List.mem_append.mp hp with hp | hp
    · exact but_off p hp
    · exact ot (c.dx, oc) cd p hp

section
variable {prog : Program} {w : World} {A : Around} {E : Value → Shared → Prop} {s : Shared} {h₀ : Heap} {L d : Addr} {news : Led} {o : Obj} {kvs : List (Str × Value)} {k : Str} {t : Tok} {v : Value} {Q : Value → Shared → Prop}
theorem notin_there (N : News h₀ L s.heap news) (hp : (d, o) ∈ news) (hd : o.IsDictOf (PySem.strKind prog w) kvs) (lo : (d == sysModules) = false) (hl : valueAt kvs k = some v) (h : Q (.bool false) { s with toks := s.toks + 1 }) :
    wpAny (model prog w) A (compareOp .NotIn (.str k t) (.ref d)) Q E s := wpAny_notIn_of (strKind_is _ _ _ _) lo (kda_dict N hp hd).mapOf (by rw [hl]; exact h)
theorem notin_new (N : News h₀ L s.heap news) (hp : (d, o) ∈ news) (hd : o.IsDictOf (PySem.strKind prog w) kvs) (lo : (d == sysModules) = false) (hl : valueAt kvs k = none) (h : Q (.bool true) { s with toks := s.toks + 1 }) :
    wpAny (model prog w) A (compareOp .NotIn (.str k t) (.ref d)) Q E s := wpAny_notIn_of (strKind_is _ _ _ _) lo (kda_dict N hp hd).mapOf (by rw [hl]; exact h)
theorem item_there {value slice : PySem.Expr} (N : News h₀ L s.heap news) (hp : (d, o) ∈ news) (hd : o.IsDictOf (PySem.strKind prog w) kvs) (hl : valueAt kvs k = some v) (h : Q v { s with toks := s.toks + 1 })
    (hs : subscripted slice false (.ref d) (.str k t) = operate [.ref d, .str k t] (getItem (.ref d) (.str k t)) := by with_unfolding_all rfl) (hg : ∀ r, letTemporaryGo value (.ref d) r = pure () := by intro _; with_unfolding_all rfl) :
    wpAny (model prog w) A (subscriptTail value slice (.ref d) (.str k t)) Q E s := kda_item N hp hd (strKind_is _ _ _ _) hl h hs hg
end
theorem at_stored {kvs : List (Str × Value)} {k : Str} {v : Value} : k ∉ kvs.map (·.1) → valueAt (stored kvs k v) k = some v := fun h => by
  rw [stored_new h]
  unfold valueAt
  rw [List.find?_append, List.find?_eq_none.mpr fun q hq => ?_]
  · simp
  · simp only [decide_eq_true_eq]
    exact fun e => h (e ▸ List.mem_map_of_mem hq)
theorem at_none {kvs : List (Str × Value)} {k : Str} (h : k ∉ kvs.map (·.1)) : valueAt kvs k = none := by
  unfold valueAt
  rw [List.find?_eq_none.mpr fun q hq => ?_]
  · rfl
  · simp only [decide_eq_true_eq]
    exact fun e => h (e ▸ List.mem_map_of_mem hq)
theorem at_mid {pre post : List Cell} {c : Cell} (h : c.key ∉ pre.map (·.key)) : valueAt (kvsOf (pre ++ c :: post)) c.key = some (.ref c.x) := by
  unfold valueAt kvsOf
  rw [List.map_append, List.find?_append, List.find?_eq_none.mpr fun q hq => ?_]
  · simp
  · obtain ⟨c', m', rfl⟩ := List.mem_map.mp hq
    simp only [decide_eq_true_eq]
    exact fun e => h (e ▸ List.mem_map_of_mem m')
theorem split_key {cs : List Cell} {k : Str} (h : k ∈ cs.map (·.key)) (hn : (cs.map (·.key)).Nodup) : ∃ pre c post, cs = pre ++ c :: post ∧ c.key = k ∧ k ∉ pre.map (·.key) ∧ k ∉ post.map (·.key) := by
  induction cs with
  | nil => simp at h
  | cons c r ih =>
    rw [List.map_cons, List.nodup_cons] at hn
    by_cases e : c.key = k
    · exact ⟨[], c, r, rfl, e, by simp, e ▸ hn.1⟩
    · rw [List.map_cons, List.mem_cons] at h
      obtain ⟨pre, c', post, e1, e2, e3, e4⟩ := ih (h.resolve_left fun q => e q.symm) hn.2
      refine ⟨c :: pre, c', post, by rw [e1]; rfl, e2, ?_, e4⟩
      rw [List.map_cons, List.mem_cons]
      rintro (q | q)
      · exact e q.symm
      · exact e3 q
theorem TabC.keys {w : World} {T : Led} {d : Addr} {cs : List Cell} (h : TabC w T d cs) : (cs.map (·.key)).Nodup := by
  obtain ⟨o, _, es, ep, _, _, _, _, hn⟩ := h.od
  rwa [kvs_keys] at hn
theorem step_new {T : List (Str × WantD)} {wi : Wi} (h : wi.tag ∉ T.map (·.1)) : stepT T wi = T ++ [(wi.tag, updW v0 wi)] := by
  unfold stepT
  rw [if_neg h, List.map_append]
  congr 1
  · conv => rhs; rw [← List.map_id T]
    refine List.map_congr_left fun p hp => ?_
    have hne : ¬ p.1 = wi.tag := fun e => h (by rw [← e]; exact List.mem_map_of_mem hp)
    rw [if_neg hne]; rfl
  · simp
theorem step_old {l₁ l₂ : List (Str × WantD)} {k : Str} {v : WantD} {wi : Wi} (e : k = wi.tag) (h1 : k ∉ l₁.map (·.1)) (h2 : k ∉ l₂.map (·.1)) : stepT (l₁ ++ (k, v) :: l₂) wi = l₁ ++ (k, updW v wi) :: l₂ := by
  subst e
  unfold stepT
  rw [if_pos (by simp), List.map_append, List.map_cons]
  have keep : ∀ l : List (Str × WantD), wi.tag ∉ l.map (·.1) → (l.map fun p => if p.1 = wi.tag then (p.1, updW p.2 wi) else p) = l := fun l hl => by
    conv => rhs; rw [← List.map_id l]
    refine List.map_congr_left fun p hp => ?_
    have hne : ¬ p.1 = wi.tag := fun e => hl (by rw [← e]; exact List.mem_map_of_mem hp)
    rw [if_neg hne]; rfl
  rw [keep _ h1, keep _ h2, if_pos rfl]

local macro_rules | `(tactic| walk_at "compareOp NotIn str ref") => `(tactic| (k_here; (with_reducible show wpAny _ _ (compareOp CmpOp.NotIn (Value.str _ _) (Value.ref _)) _ _ _); k_dflt (first
  | (refine' notin_new (by k_asm) (by k_mem) (by k_asm) (by k_asm) (by k_asm) ?_; k_whole)
  | (refine' notin_there (by k_asm) (by k_mem) (by k_asm) (by k_asm) (by k_asm) ?_; k_whole))))
local macro_rules | `(tactic| walk_at "subscriptTail Name Attribute ref str") => `(tactic| (k_here; (with_reducible show wpAny _ _ (subscriptTail _ _ (Value.ref _) (Value.str _ _)) _ _ _); k_dflt (refine' item_there (by k_asm) (by k_mem) (by k_asm) (by first | k_asm | (refine at_stored ?_; k_asm)) ?_ (by with_unfolding_all rfl) (by intro _; with_unfolding_all rfl); k_whole)))
local macro_rules | `(tactic| walk_at "subscriptTail") => `(tactic| (k_here; (with_reducible show wpAny _ _ (subscriptTail _ _ (Value.ref _) (Value.str _ _)) _ _ _); k_dflt (refine' item_there (by k_asm) (by k_mem) (by k_asm) (by first | k_asm | (refine at_stored ?_; k_asm)) ?_ (by with_unfolding_all rfl) (by intro _; with_unfolding_all rfl); k_whole)))

local macro_rules | `(tactic| walk_at "call ref") => `(tactic| (k_here; (with_reducible show wpAny _ _ (call (Value.ref 136) _) _ _ _); k_dflt (refine' Spec.use ?S ?k1 ?k2 ?k3 ?k4 ?k5 ?kK ?kd ?ku ?_; (case k1 => k_asm); (case k2 => k_asm); (case k3 => k_asm); (case k4 => k_asm); (case k5 => k_asm); (case kK => exact rfl); (case S => first | exact want2_ok | exact want3_ok); (case kd => ktr_room); (case ku => ktr_units); k_whole); intro r9 h9 tk9 n9 F9 N9 P9; obtain ⟨x9, d9, o9, e91, e92, w9, l9, l8⟩ := P9; subst e91; subst e92; k_dflt (obtain ⟨s1, s2, s3, s4, s5, s6, e93⟩ := w9); subst e93; simp only [AllLt, and_true] at l8; (try dsimp only)))
structure JAll (w : World) (R : Led) (dF : Addr) (ar b : Bool) (ws : List Wi) (i : Nat) (R₁ : Led) : Prop where
  ex : ∃ T cs, R₁ = T ++ R ∧ TabC w T dF cs ∧ Off T R ∧ datOf cs = (ws.take i).foldl stepT (firstT ar b) ∧ cs.length ≤ 30 + i
theorem all_ok {w : World} {R : Led} {t : Tok} {ar b : Bool} {lw : Addr} {xs : List Value} {n : Nat} {ws : List Wi} (hl : (lw, PySem.W.listOf xs.toArray n) ∈ R) (hw : WishL w.params R xs ws) (ho : ∀ wi ∈ ws, wi.ok) (h6 : ws.length ≤ 50) :
    SpecN 20 w 154 [.str (scr ar) t, .bool b, .ref lw] R (fun v R' => ∃ d T cs, v = .ref d ∧ R' = T ++ R ∧ TabC w T d cs ∧ Off T R ∧ datOf cs = allT ar b ws) := by
  w_top off
  intro dp un gd cn cs L a ccd cl outer A₀ base h₀ m s Q E loose mean mg mb B F X N T hk hd hu hret
  refine wpAny_call ?_
  k_dflt cell_enter
  k_steps
  refine Stop.off ?_
  rename_i dF TF cF tcF otF dtF _ F2 N2
  refine for_listS [Str.ofString "want"] (JAll w R dF ar b ws) rfl F2 N2 (List.mem_append_right _ hl) ⟨TF, cF, rfl, tcF, otF, by rw [List.take_zero]; exact dtF, by rw [len_of dtF]; cases ar <;> cases b <;> decide⟩ ?_ ?_
  · intro I i v u R₁ oI h' tk hv hsrc off hJ F3 N3
    obtain ⟨T, cs, rfl, tc, ot, dt, hlen⟩ := hJ.ex
    obtain ⟨wi, hwi, a, ax, t1, t2, t3, t4, u1, u2, u3, u4, rfl, ha, hax⟩ := hw.at (by simpa using hv)
    have hi : i < ws.length := (List.getElem?_eq_some_iff.mp hwi).1
    have hok : wi.ok := ho wi (List.mem_of_getElem? hwi)
    have ot' := off_it (oI := oI) ot off
    have hz : (kvsOf cs).length ≤ sizeLine := kvs_size tc.small
    have lo := tc.lo
    clear N2 F2
    by_cases hin : wi.tag ∈ cs.map (·.key)
    · obtain ⟨pre, c, post, rfl, hc, hpre, hpost⟩ := split_key hin tc.keys
      obtain ⟨oc, oD, R3, ⟨s1, s2, s3, s4, s5, s6, rfl⟩, hdD, N4, hoff, h3, hdm, hxm⟩ := cell_front (it_in N3) tc ot'
      have ha3 := h3 _ (List.mem_append_right _ (List.mem_cons_of_mem _ ha))
      have hax3 := h3 _ (List.mem_append_right _ (List.mem_cons_of_mem _ hax))
      have hat : valueAt (kvsOf (pre ++ c :: post)) wi.tag = some (.ref c.x) := by rw [← hc]; exact at_mid (hc ▸ hpre)
      have hxw : WishAt w.params R3 (.ref a) wi := ⟨a, ax, t1, t2, t3, t4, u1, u2, u3, u4, rfl, ha3, hax3⟩
      clear N3
      k_steps
      all_goals
        rename News _ _ _ _ => N5
        rename Fr _ _ _ _ => F5
        obtain ⟨T', cs', a1, a2, a3, a4⟩ := upd_cell (v := updW c.v wi) N5 h3 tc ot' (by first | (rw [updW_whole (by assumption)]; exact ⟨_, _, _, _, _, _, rfl⟩) | (rw [updW_part (by first | assumption | exact Bool.eq_false_iff.mpr (by assumption))]; exact ⟨_, _, _, _, _, _, rfl⟩))
        obtain ⟨b1, b2⟩ := off_out a3 off
        refine ⟨_, _, _, _, rfl, F5, it_out a1, b2, List.mem_append_right _ hl, ⟨T', cs', rfl, a2, b1, ?_, ?_⟩, ?_⟩
        · rw [take_next hwi, List.foldl_append, ← dt]
          have e1 : datOf (pre ++ c :: post) = datOf pre ++ (c.key, c.v) :: datOf post := by unfold datOf; rw [List.map_append, List.map_cons]
          rw [e1, a4]
          exact (step_old hc (by rw [← keys_dat, hc]; exact hpre) (by rw [← keys_dat, hc]; exact hpost)).symm
        · have e1 := len_of a4
          unfold datOf at e1
          simp only [List.length_append, List.length_cons, List.length_map] at e1 hlen
          omega
        · intro y h1 h2
          simp only [List.contains_cons, List.contains_nil, Bool.or_false, beq_eq_false_iff_ne, ne_eq] at h2
          simp only [h1, h2, if_false, List.contains_cons, List.contains_nil, Bool.or_false, beq_eq_false_iff_ne.mpr h2, Bool.false_eq_true]
    · have hnew : wi.tag ∉ (kvsOf cs).map (·.1) := by rw [kvs_keys]; exact hin
      have hat : valueAt (kvsOf cs) wi.tag = none := at_none hnew
      obtain ⟨oD, R3, hdD, N4, hoff, h3, h3'⟩ := tab_front (it_in N3) tc ot'
      have ha3 := h3 _ (List.mem_append_right _ (List.mem_cons_of_mem _ ha))
      have hax3 := h3 _ (List.mem_append_right _ (List.mem_cons_of_mem _ hax))
      have hxw : WishAt w.params R3 (.ref a) wi := ⟨a, ax, t1, t2, t3, t4, u1, u2, u3, u4, rfl, ha3, hax3⟩
      clear N3
      k_steps
      all_goals
        rename News _ _ _ _ => N5
        rename Fr _ _ _ _ => F5
        rename Obj.IsDictOf _ _ (stored _ _ _) => hd5
        rename _ ∧ AllLt _ _ => lt5
        rename (_ : Nat) < _ => ly
        obtain ⟨T', cs', a1, a2, a3, a4⟩ := add_cell (v := updW v0 wi) N5 h3 (allLt_lt lt5.2) lt5.1 ly tc ot' hd5 hin (by first | (rw [updW_whole (by assumption)]; exact ⟨_, _, _, _, _, _, rfl⟩) | (rw [updW_part (by first | assumption | exact Bool.eq_false_iff.mpr (by assumption))]; exact ⟨_, _, _, _, _, _, rfl⟩)) (by omega)
        obtain ⟨b1, b2⟩ := off_out a3 off
        refine ⟨_, _, _, _, rfl, F5, it_out a1, b2, List.mem_append_right _ hl, ⟨T', cs', rfl, a2, b1, ?_, ?_⟩, ?_⟩
        · rw [take_next hwi, List.foldl_append, ← dt]
          rw [a4]
          exact (step_new (by rw [← keys_dat]; exact hin)).symm
        · have e1 := len_of a4
          unfold datOf at e1
          simp only [List.length_append, List.length_cons, List.length_nil, List.length_map] at e1
          omega
        · intro y h1 h2
          simp only [List.contains_cons, List.contains_nil, Bool.or_false, beq_eq_false_iff_ne, ne_eq] at h2
          simp only [h1, h2, if_false, List.contains_cons, List.contains_nil, Bool.or_false, beq_eq_false_iff_ne.mpr h2, Bool.false_eq_true]
  · intro u R₁ h' tk hJ F3 N3
    obtain ⟨T, cs, rfl, tc, ot, dt, _⟩ := hJ.ex
    rw [List.size_toArray, hw.length, List.take_length] at dt
    clear N2 F2
    k_steps
    exact hret _ _ _ _ (by k_asm) (by k_asm) ⟨dF, T, cs, rfl, rfl, tc, ot, dt⟩

end Mine
namespace Mine
section
variable {prog : Program} {w : World} {A : Around} {E : Value → Shared → Prop} {s : Shared} {h₀ : Heap} {L d D : Addr} {m : Str → Option Value} {R : Led} {o : Obj} {kvs : List (Str × Value)} {Q : Value → Shared → Prop}
theorem sort_strs {vs : List Value} {ss : List Str} {n : Nat} (F : Fr h₀ L s.heap m) (N : News h₀ L s.heap ((D, PySem.W.listOf vs.toArray n) :: R)) (off : ∀ q ∈ R, q.1 ≠ D) (hS : StrsAre vs ss) (h64 : vs.length < 64)
    (h : ∀ h' vs' ss' e, Fr h₀ L h' m → News h₀ L h' ((D, PySem.W.listOf vs'.toArray e) :: R) → StrsAre vs' ss' → ss'.Perm ss → sortedS ss' = true → Q .none { s with heap := h' }) :
    wpAny (model prog w) A (call (.builtin "list.sort") [.ref D]) Q E s := by
  have z := N _ List.mem_cons_self
  have z1 : s.heap.get? D = some (seqObj "list" vs.toArray n) := z.1
  refine PySem.wpAny_call_entry slot_list_sort ⟨_, z1, rfl⟩ entry_list_sort (list_sort_treeK strKind_oneLt z1 hS.keysOf (fun v₁ v₂ rest e => keyKind_strs (by rw [← e]; exact hS)) h64 fun st' a1 a2 => ⟨.none, rfl, ?_⟩) (args_list_sort _)
  obtain ⟨ss', b1, b2, b3⟩ := sorted_out_str hS a1 a2
  obtain ⟨e, he⟩ := sortedHeap_at (out := (arrOf st').map (·.2)) z1
  have old : ∀ b o, b ≠ D → s.heap.get? b = some o → (sortedHeap s.heap D vs ((arrOf st').map (·.2))).get? b = some o := fun b o hb hg => by
    rw [sortedHeap_old hb (Heap.lt_size hg)]; exact hg
  refine h _ ((arrOf st').map (·.2)).toList ss' e ⟨F.ns.at' fun o hg => old L o (Ne.symm z.2.1) hg, fun b o hg => old b o (fun q => ?_) (F.keep b o hg), F.above⟩ (fun p hp => ?_) b1 b2 b3
  · rw [q, z.2.2] at hg; cases hg
  · rcases List.mem_cons.mp hp with rfl | hp
    · exact ⟨he, z.2⟩
    · exact ⟨old _ _ (off p hp) (N p (List.mem_cons_of_mem _ hp)).1, (N p (List.mem_cons_of_mem _ hp)).2⟩
theorem strs_of_keys : ∀ {kvs : List (Str × Value)} {vs : List Value}, vs.length = kvs.length → (∀ (j : Nat) (v : Value), vs[j]? = some v → ∃ k x, kvs[j]? = some (k, x) ∧ (PySem.strKind prog w).is k v = true) → StrsAre vs (kvs.map (·.1))
  | [], [], _, _ => .nil
  | [], _ :: _, h, _ => by simp at h
  | _ :: _, [], h, _ => by simp at h
  | kv :: r, v :: vs, hl, h => by
    obtain ⟨k, x, e1, e2⟩ := h 0 v rfl
    obtain ⟨t, rfl⟩ := Value.isStrOf_shape e2
    have e3 : kv = (k, x) := Option.some.inj (by simpa using e1)
    rw [e3]
    exact .cons k t (strs_of_keys (by simpa using hl) fun j v hj => h (j + 1) v (by simpa using hj))
theorem sorted_dict (hh : A.handled = none) (F : Fr h₀ L s.heap m) (N : News h₀ L s.heap R) (hp : (d, o) ∈ R) (hd : o.IsDictOf (PySem.strKind prog w) kvs) (lo : (d == sysModules) = false) (hlen : kvs.length < 64)
    (h : ∀ D h' tk vs ss e, Fr h₀ L h' m → News h₀ L h' ((D, PySem.W.listOf vs.toArray e) :: R) → (∀ q ∈ R, q.1 < D) → StrsAre vs ss → ss.Perm (kvs.map (·.1)) → sortedS ss = true → Q (.ref D) { s with heap := h', toks := tk }) :
    wpAny (model prog w) A (call (.builtin "sorted") [.ref d]) Q E s := by
  obtain ⟨ep, hat⟩ := (kda_dict N hp hd).dictAt
  refine kdu_sorted (kdl_dict (knd := PySem.strKind prog w) (kvs := kvs) (ep := ep) lo) hh F N hat (by rw [PySem.sizeLine_eq]; omega) fun D h' tk vs F' N' l1 hl hv => ?_
  have hS : StrsAre vs (kvs.map (·.1)) := strs_of_keys (prog := prog) (w := w) hl hv
  refine sort_strs F' N' (fun q hq => Nat.ne_of_lt (l1 q hq)) hS (by omega) fun h'' vs' ss' e F2 N2 b1 b2 b3 => ?_
  exact h D h'' tk vs' ss' e F2 N2 l1 b1 b2 b3
end
/-! comprehensions over a made list -/
section
variable {prog : Program} {w : World} {A : Around} {s : Shared} {h₀ : Heap} {L : Addr} {m : Str → Option Value} {env : Env} {elt : PySem.Expr} {x : Str} {scope : Scope} {cl : List (Str × Addr)} {S : Led → Prop} {P : Nat → Value → Prop} {Fin : List Value → Led → Prop} {n : Nat} {base : Led}
theorem comp_turns (Rel : Nat → Led → Value → Prop) (mono : ∀ i R R' v, (∀ p ∈ R, p ∈ R') → Rel i R v → Rel i R' v)
    (turn : ∀ i v I oI C oC D m₂ ys h tk news (E' : Value → Shared → Prop), i < n → P i v → (∀ p ∈ base, p ∈ news) → LCg.NsObj oC m₂ → m₂ x = some v → Fr h₀ L h m → News h₀ L h ((I, oI) :: (C, oC) :: (D, LCg.lst ys) :: news) → LCg.Off3 I C D news →
      wpAny (model prog w) A (eval elt (compEnvC scope cl C env)) (LCg.CompEnd h₀ L m { s with heap := h, toks := tk } I oI C oC D (LCg.lst ys) S (fun y news' => (∀ p ∈ news, p ∈ news') ∧ Rel i news' y)) E' { s with heap := h, toks := tk })
    (fin : ∀ ys news', ys.length = n → (∀ (i : Nat) y, ys[i]? = some y → Rel i news' y) → (∀ p ∈ base, p ∈ news') → Fin ys news') :
    LCg.CompRest prog w A h₀ L m env elt x scope cl s S P Fin n 0 [] base := by
  have key : ∀ (j i : Nat) (ys : List Value) (news : Led), i + j = n → ys.length = i → (∀ (k : Nat) y, ys[k]? = some y → Rel k news y) → (∀ p ∈ base, p ∈ news) → LCg.CompRest prog w A h₀ L m env elt x scope cl s S P Fin j i ys news := by
    intro j
    induction j with
    | zero =>
      intro i ys news hi hl hy hb
      exact LCg.CompRest.zero (fin ys news (by omega) hy hb)
    | succ j ih =>
      intro i ys news hi hl hy hb
      refine LCg.CompRest.succ ?_
      intro v I oI oC C D m₂ h tk E' hv hC hx F N off ne
      refine wpAny_mono (turn i v I oI oC C D m₂ ys h tk news E' (by omega) hv hb hC hx F N off) (fun y s₂ hq => ?_) fun _ _ e => e
      obtain ⟨h', tk', news', e, F', N', off', hS, hs, hr⟩ := hq
      refine ⟨h', tk', news', e, F', N', off', hS, ?_⟩
      refine ih (i + 1) _ news' (by omega) (by rw [List.length_append, hl]; rfl) (fun k z hk => ?_) fun p hp => hs p (hb p hp)
      by_cases hki : k < i
      · rw [List.getElem?_append_left (by omega)] at hk
        exact mono k news news' z hs (hy k z hk)
      · have e1 : k = i := by
          have := (List.getElem?_eq_some_iff.mp hk).1
          rw [List.length_append, hl] at this
          simp only [List.length_cons, List.length_nil] at this
          omega
        subst e1
        rw [List.getElem?_append_right (by omega), hl, Nat.sub_self] at hk
        have e2 : y = z := Option.some.inj (by simpa using hk)
        rw [← e2]; exact hr
  exact key n 0 [] base (by omega) rfl (fun k y hk => by simp at hk) fun _ h => h
end
theorem comp_end_new {h₀ : Heap} {L I C D D5 : Addr} {m : Str → Option Value} {s₁ : Shared} {oI oC oD oT : Obj} {S : Led → Prop} {rest : Value → Led → Prop} {y : Value} {h5 : Heap} {tk : Nat} {news : Led}
    (F5 : Fr h₀ L h5 m) (N5 : News h₀ L h5 ((D5, oT) :: (I, oI) :: (C, oC) :: (D, oD) :: news)) (l5 : I < D5 ∧ C < D5 ∧ D < D5 ∧ AllLt D5 news) (off : LCg.Off3 I C D news) (hS : S ((D5, oT) :: news)) (r : rest y ((D5, oT) :: news)) :
    LCg.CompEnd h₀ L m s₁ I oI C oC D oD S rest y { s₁ with heap := h5, toks := tk } := by
  refine LCg.CompEnd.intro F5 N5 ((D5, oT) :: news) (fun p hp => ?_) ⟨⟨Nat.ne_of_gt l5.1, Nat.ne_of_gt l5.2.1, Nat.ne_of_gt l5.2.2.1⟩, off⟩ hS r
  rcases List.mem_cons.mp hp with rfl | hp
  · exact List.mem_cons_of_mem _ List.mem_cons_self
  · rcases List.mem_cons.mp hp with rfl | hp
    · exact List.mem_cons_of_mem _ (List.mem_cons_of_mem _ List.mem_cons_self)
    · rcases List.mem_cons.mp hp with rfl | hp
      · exact List.mem_cons_of_mem _ (List.mem_cons_of_mem _ (List.mem_cons_of_mem _ List.mem_cons_self))
      · rcases List.mem_cons.mp hp with rfl | hp
        · exact List.mem_cons_self
        · exact List.mem_cons_of_mem _ (List.mem_cons_of_mem _ (List.mem_cons_of_mem _ (List.mem_cons_of_mem _ hp)))
theorem comp_end_same {h₀ : Heap} {L I C D : Addr} {m : Str → Option Value} {s₁ : Shared} {oI oC oD : Obj} {S : Led → Prop} {rest : Value → Led → Prop} {y : Value} {h5 : Heap} {tk : Nat} {news : Led}
    (F5 : Fr h₀ L h5 m) (N5 : News h₀ L h5 ((I, oI) :: (C, oC) :: (D, oD) :: news)) (off : LCg.Off3 I C D news) (hS : S news) (r : rest y news) :
    LCg.CompEnd h₀ L m s₁ I oI C oC D oD S rest y { s₁ with heap := h5, toks := tk } := LCg.CompEnd.intro F5 N5 news (fun _ h => h) off hS r
inductive AllR {α : Type} (Rel : Value → α → Prop) : List Value → List α → Prop
  | nil : AllR Rel [] []
  | cons {v : Value} {vs : List Value} {a : α} {as : List α} : Rel v a → AllR Rel vs as → AllR Rel (v :: vs) (a :: as)
theorem AllR.of {α : Type} {Rel : Value → α → Prop} : ∀ {vs : List Value} {as : List α}, vs.length = as.length → (∀ (i : Nat) (v : Value) (a : α), vs[i]? = some v → as[i]? = some a → Rel v a) → AllR Rel vs as
  | [], [], _, _ => .nil
  | [], _ :: _, h, _ => by simp at h
  | _ :: _, [], h, _ => by simp at h
  | v :: vs, a :: as, hl, h => .cons (h 0 v a rfl rfl) (AllR.of (by simpa using hl) fun i v' a' h1 h2 => h (i + 1) v' a' (by simpa using h1) (by simpa using h2))
theorem AllR.mono {α : Type} {Rel Rel' : Value → α → Prop} (hm : ∀ v a, Rel v a → Rel' v a) {vs : List Value} {as : List α} (h : AllR Rel vs as) : AllR Rel' vs as := by
  induction h with
  | nil => exact .nil
  | cons h1 _ ih => exact .cons (hm _ _ h1) ih
theorem AllR.length {α : Type} {Rel : Value → α → Prop} {vs : List Value} {as : List α} (h : AllR Rel vs as) : vs.length = as.length := by
  induction h with
  | nil => rfl
  | cons _ _ ih => simp [ih]

/-! what _law_told gives -/
def RowAt (R : Led) (y : Value) (r : Str × WantD) : Prop :=
  ∃ a t u1 u2 n, y = .ref a ∧ (a, ({ cls := .type "tuple", data := .seq [Value.str r.1 t, .int r.2.val u1, .int r.2.most u2, .bool r.2.isSet, .bool r.2.isPart].toArray n } : Obj)) ∈ R
theorem RowAt.mono {R R' : Led} {y : Value} {r : Str × WantD} (h : RowAt R y r) (hs : ∀ p ∈ R, p ∈ R') : RowAt R' y r := by
  obtain ⟨a, t, u1, u2, n, e, h⟩ := h
  exact ⟨a, t, u1, u2, n, e, hs _ h⟩
def look (T : List (Str × WantD)) (k : Str) : WantD := ((T.find? fun p => decide (p.1 = k)).map (·.2)).getD v0
theorem look_at {T : List (Str × WantD)} (hn : (T.map (·.1)).Nodup) {k : Str} {v : WantD} (h : (k, v) ∈ T) : look T k = v := by
  induction T with
  | nil => cases h
  | cons p r ih =>
    rw [List.map_cons, List.nodup_cons] at hn
    unfold look
    rw [List.find?_cons]
    rcases List.mem_cons.mp h with rfl | h
    · simp
    · have hne : ¬ p.1 = k := fun e => hn.1 (by rw [e]; exact List.mem_map_of_mem (f := (·.1)) h)
      rw [decide_eq_false hne]
      exact ih hn.2 h
theorem map_look {T : List (Str × WantD)} (hn : (T.map (·.1)).Nodup) : (T.map (·.1)).map (fun k => (k, look T k)) = T := by
  rw [List.map_map]
  conv => rhs; rw [← List.map_id T]
  refine List.map_congr_left fun p hp => ?_
  show (p.1, look T p.1) = p
  rw [look_at hn (k := p.1) (v := p.2) hp]

local macro_rules | `(tactic| k_all) => `(tactic| assumption)
local macro_rules | `(tactic| k_mem) => `(tactic| assumption)
local macro_rules | `(tactic| ktr_room) => `(tactic| ((try simp only [depth_under_make, depth_under_kw, depth_in1, depth_deeper, depth_caller] at *); (try dsimp only [ktrTop] at *); omega))
local macro_rules | `(tactic| k_room) => `(tactic| ktr_room)
local macro_rules | `(tactic| walk_at "newTuple") => `(tactic| (k_here; k_dflt (refine' kup_newTuple (by k_asm) (by k_asm) ?_ (by kmk_size)); intro D' h' F' N' l1; (try k_lt l1); (try k_sweep)))
local macro_rules | `(tactic| walk_at "subscriptTail") => `(tactic| (k_here; (with_reducible show wpAny _ _ (subscriptTail _ _ (Value.ref _) (Value.str _ _)) _ _ _); k_dflt (refine' item_there (by k_asm) (by k_mem) (by k_asm) (by first | k_asm | (refine at_stored ?_; k_asm)) ?_ (by with_unfolding_all rfl) (by intro _; with_unfolding_all rfl); k_whole)))
local macro_rules | `(tactic| walk_at "eval ListComp") => `(tactic| refine Stop.on ?_)
local macro_rules | `(tactic| walk_at "call builtin:sorted") => `(tactic| (k_here; (with_reducible show wpAny _ _ (call (Value.builtin "sorted") [Value.ref _]) _ _ _); k_dflt (refine' sorted_dict (by rfl) (by k_asm) (by k_asm) (by k_mem) (by k_asm) (by k_asm) (by k_asm) ?_; k_whole); intro D9 h9 tk9 vs9 ss9 e9 F9 N9 l9 S9 P9 O9))

theorem told_ok {w : World} {R : Led} {d : Addr} {cs : List Cell} (tc : TabC w R d cs) (h60 : cs.length < 60) :
    SpecN 20 w 172 [.ref d] R (fun v R' => (∀ p ∈ R, p ∈ R') ∧ ∃ l vs n S, v = .ref l ∧ (l, PySem.W.listOf vs.toArray n) ∈ R' ∧ AllR (RowAt R') vs S ∧ S.Perm (datOf cs) ∧ sortedS (S.map (·.1)) = true) := by
  w_top off
  intro dp un gd cn cs' L a ccd cl outer A₀ base h₀ m s Q E loose mean mg mb B F X N T hk hd hu hret
  have hsz : (kvsOf cs).length < 64 := by unfold kvsOf; rw [List.length_map]; omega
  have lo := tc.lo
  obtain ⟨oD, hoD, hdD⟩ := tc.od
  refine wpAny_call ?_
  k_dflt (refine' code_defC ?k1 ?k2 ?k3 ?k4 ?k5 ?kA ?kF ?kK ?k6 ?k7 ?k8 ?k9 ?kB ?kD ?_ ?c2 ?c3 ?c4; (case kA => exact rfl); (case kF => exact rfl); (case kK => assumption); (case k1 => k_asm); (case k2 => k_asm); (case k3 => k_asm); (case k4 => k_asm); (case k5 => k_asm); (case k6 => k_is); (case k7 => k_is); (case k8 => ktr_room); (case k9 => exact BindsTo.of_eq rfl); (case kB => exact rfl); (case kD => decide +kernel); (case c2 => exact rfl); (case c3 => exact rfl); (case c4 => exact rfl); k_whole; intro g' L' h' tk' cells' FG' F' N' Y' B' X' T' l1; (try k_lt l1); k_cells Y'; (try simp only [List.cons_append, List.nil_append] at N'); (try dsimp only); (try k_lift B'); (try k_fold))
  k_steps
  refine Stop.off ?_
  k_dflt (refine LCg.ListComp_U (F₀ := by k_asm) (by with_unfolding_all rfl) (by decide) (by rfl) (by decide) (by rfl) ?_)
  k_steps
  rename_i o1 hcell D9 h9 tk9 vs9 ss9 e9 F9 N9 l9 S9 P9 O9
  have hlen9 := S9.length
  k_dflt (refine LCg.CompSrc.ledger (by rfl) (by k_asm) (by k_asm) List.mem_cons_self (by rw [PySem.sizeLine_eq, List.size_toArray, S9.length, P9.length_eq, List.length_map]; omega) ?_; intro g9)
  refine comp_turns (fun i news y => ∃ k, ss9[i]? = some k ∧ RowAt news y (k, look (datOf cs) k)) (fun i R R' v hs hq => hq.imp fun k h => ⟨h.1, h.2.mono hs⟩) (fun i v I oI C oC D m₂ ys h tk news E' hi hv hb hC hx F3 N3 off => ?_) ?_
  · obtain ⟨k, tok, hk9, rfl⟩ := strs_at S9 (by simpa using hv)
    have hkin : k ∈ cs.map (·.key) := by
      rw [← kvs_keys]; exact P9.mem_iff.mp (List.mem_of_getElem? hk9)
    obtain ⟨pre, c, post, hcs, hck, hpre, hpost⟩ := split_key hkin tc.keys
    have hat : valueAt (kvsOf cs) k = some (.ref c.x) := by rw [hcs, ← hck]; exact at_mid (by rw [hck]; exact hpre)
    have hcin : c ∈ cs := by rw [hcs]; exact List.mem_append_right _ List.mem_cons_self
    obtain ⟨hcx, oc, ⟨s1, s2, s3, s4, s5, s6, rfl⟩, hcd⟩ := tc.cells c hcin
    have hd3 := hb _ (List.mem_cons_of_mem _ (List.mem_cons_of_mem _ hoD))
    have hx3 := hb _ (List.mem_cons_of_mem _ (List.mem_cons_of_mem _ hcx))
    have hc3 := hb _ (List.mem_cons_of_mem _ (List.mem_cons_of_mem _ hcd))
    have hw3 := hb _ (List.mem_cons_of_mem _ List.mem_cons_self)
    clear F9 N9 F' N' F N
    k_steps
    rename_i D5 h5 F5 N5 l5
    have hl5 : look (datOf cs) k = c.v := by
      refine look_at (by rw [← keys_dat]; exact tc.keys) ?_
      rw [← hck]
      exact List.mem_map_of_mem (f := fun c : Cell => (c.key, c.v)) hcin
    refine comp_end_new F5 N5 l5 off (.inr ⟨_, List.mem_cons_of_mem _ (hb _ List.mem_cons_self), rfl, _, rfl⟩) ⟨fun p hp => List.mem_cons_of_mem _ hp, k, hk9, ?_⟩
    rw [hl5]
    exact ⟨D5, tok, _, _, _, rfl, List.mem_cons_self⟩
  · intro ys news' hl hy hb
    unfold LCg.FinE
    intro D h tk F3 N3 o3
    clear F9 N9 F' N'
    k_steps
    refine hret _ _ _ _ (by k_asm) (by k_asm) ⟨fun p hp => List.mem_cons_of_mem _ (hb _ (List.mem_cons_of_mem _ (List.mem_cons_of_mem _ hp))), D, ys, _, ss9.map fun k => (k, look (datOf cs) k), rfl, List.mem_cons_self, ?_, ?_, ?_⟩
    · refine AllR.of (by rw [hl, List.size_toArray, List.length_map]; exact hlen9) fun i v a h1 h2 => ?_
      obtain ⟨k, hk9, hr⟩ := hy i v h1
      rw [List.getElem?_map, hk9] at h2
      have e2 : (k, look (datOf cs) k) = a := Option.some.inj h2
      rw [← e2]
      exact hr.mono fun p hp => List.mem_cons_of_mem _ hp
    · have p2 := P9.map (fun k => (k, look (datOf cs) k))
      have e2 : ((kvsOf cs).map (fun x => x.1)).map (fun k => (k, look (datOf cs) k)) = datOf cs := by
        rw [kvs_keys, keys_dat]
        exact map_look (by rw [← keys_dat]; exact tc.keys)
      rw [e2] at p2
      exact p2
    · rw [List.map_map]
      have e2 : ss9.map ((fun x : Str × WantD => x.1) ∘ fun k => (k, look (datOf cs) k)) = ss9 := List.map_id' _
      rw [e2]; exact O9

end Mine
namespace Mine
/-- a draw, the pool where it stands in the ledger -/
theorem draw_use {w : World} {news : Led} {gN : Obj → Led} {c p : Addr} {vs : List Value} {ks : List Int} {g st pl most : Int} {tg ts tp tm : Tok} {n nc : Nat}
    {dp un : Nat} {gd : Option (List Code)} {cn : Str} {cs : Scope} {L a : Addr} {ccd : Value} {cl : List (Str × Addr)} {outer : List Env} {A₀ : Around} {base h₀ : Heap} {m : Str → Option Value} {s : Shared} {Q E : Value → Shared → Prop}
    {loose : List Str} {mean : ExcName → Option Value} {mg mb : Str → Option Value}
    (B : Below A₀ base outer h₀) (F : Fr h₀ L s.heap m) (X : (hd.heap_1 w.params).In h₀) (N : News h₀ L s.heap news) (T : Top hd.view loose mean mg mb h₀) (hk : cs.kind = .function) (hd : dp + 10 < recursionLimit) (hu : un + 10 * 10 < cLine)
    (U : UpdF p (PySem.W.listOf #[.ref c, .int g tg, .int st ts, .int pl tp] n) news gN)
    (hc : (c, PySem.W.listOf vs.toArray nc) ∈ news) (hcp : @Ne Nat c p) (hi : IntsAre vs ks) (hlen : ks.length ≤ 63)
    (hg : 0 ≤ g) (hs0 : 0 ≤ st) (hs1 : st < 2147483647) (hp0 : 0 ≤ pl) (hp1 : pl < 1000) (hm0 : 0 < most) (hm1 : most ≤ 10)
    (hQ : ∀ r t h' tk' g' st' tg' ts' tp' n', Fr h₀ L h' m → News h₀ L h' (gN (PySem.W.listOf #[.ref c, .int g' tg', .int st' ts', .int (pl + 1) tp'] n')) → 0 ≤ r → r < most → 0 ≤ g' → 0 ≤ st' → st' < 2147483647 → Q (.int r t) { s with heap := h', toks := tk' }) :
    wpAny (model PG w) (ktrTop dp un gd cn cs L a ccd cl outer) (call (.ref 166) [.ref p, .int most tm]) Q E s := by
  obtain ⟨pre, post, rfl, hgN, o1, o2⟩ := U.split
  have N1 : News h₀ L s.heap ((p, PySem.W.listOf #[.ref c, .int g tg, .int st ts, .int pl tp] n) :: (pre ++ post)) := news_sub N fun q hq => by
    rcases List.mem_cons.mp hq with rfl | hq
    · exact List.mem_append_right _ List.mem_cons_self
    · rcases List.mem_append.mp hq with hq | hq
      · exact List.mem_append_left _ hq
      · exact List.mem_append_right _ (List.mem_cons_of_mem _ hq)
  have hoff : ∀ q ∈ pre ++ post, q.1 ≠ p := fun q hq => (List.mem_append.mp hq).elim (o1 q) (o2 q)
  have hc1 : (c, PySem.W.listOf vs.toArray nc) ∈ pre ++ post := by
    rcases List.mem_append.mp hc with h | h
    · exact List.mem_append_left _ h
    · rcases List.mem_cons.mp h with h | h
      · exact absurd (congrArg Prod.fst h) hcp
      · exact List.mem_append_right _ h
  refine draw_ok hc1 hi hlen hoff hg hs0 hs1 hp0 hp1 hm0 hm1 dp un gd cn cs L a ccd cl outer A₀ base h₀ m s Q E loose mean mg mb B F X N1 T hk hd hu ?_
  rintro r h' tk' news' F' N' ⟨r, t, g', st', tg', ts', tp', n', rfl, rfl, a1, a2, a3, a4, a5⟩
  refine hQ r t h' tk' g' st' tg' ts' tp' n' F' ?_ a1 a2 a3 a4 a5
  rw [hgN]
  refine news_sub N' fun q hq => ?_
  rcases List.mem_append.mp hq with hq | hq
  · exact List.mem_cons_of_mem _ (List.mem_append_left _ hq)
  · rcases List.mem_cons.mp hq with rfl | hq
    · exact List.mem_cons_self
    · exact List.mem_cons_of_mem _ (List.mem_append_right _ hq)
def AllNeN (d : Addr) : Led → Prop
  | [] => True
  | p :: r => @Ne Nat p.1 d ∧ AllNeN d r
theorem allNe_of {d : Addr} {l : Led} (h : ∀ p ∈ l, p.1 ≠ d) : AllNeN d l := by
  induction l with
  | nil => trivial
  | cons p r ih => exact ⟨h p List.mem_cons_self, ih fun q hq => h q (List.mem_cons_of_mem _ hq)⟩
theorem news_ne {h₀ h : Heap} {L a b : Addr} {o₁ o₂ : Obj} {R : Led} (N : News h₀ L h R) (ha : (a, o₁) ∈ R) (hb : (b, o₂) ∈ R) (hne : o₁.data ≠ o₂.data) : @Ne Nat a b := by
  intro e
  have h1 := (N _ ha).1
  have h2 := (N _ hb).1
  have e' : a = b := e
  dsimp only at h1 h2
  rw [e', h2] at h1
  exact hne (congrArg Obj.data (Option.some.inj h1)).symm
abbrev rangeObj (a b : Int) (t u v : Tok) : Obj := { cls := .type "range", data := .fields #[.int a t, .int b u, .int 1 v] }
section
variable {prog : Program} {w : World} {A : Around} {E : Value → Shared → Prop} {s : Shared} {h₀ : Heap} {L : Addr} {m : Str → Option Value} {R : Led}
theorem range_led {k : Int} {t : Tok} {Q : Value → Shared → Prop} (F : Fr h₀ L s.heap m) (N : News h₀ L s.heap R)
    (h : ∀ D h' tk t₁ t₂ t₃, Fr h₀ L h' m → News h₀ L h' ((D, rangeObj 0 k t₁ t₂ t₃) :: R) → (∀ q ∈ R, q.1 < D) → Q (.ref D) { s with heap := h', toks := tk }) :
    wpAny (model prog w) A (call (.type "range") [.int k t]) Q E s :=
  call_range_1 (h _ _ _ _ _ _ (F.push _) (N.push F _) fun q hq => Heap.lt_size (N q hq).1)
/-- an item of a written pair of texts, at a place that is not written -/
theorem pick2 {value slice : PySem.Expr} {D : Addr} {t0 t1 u : Tok} {r : Int} {Q : Value → Shared → Prop} {n : Nat} (N : News h₀ L s.heap R)
    (hm : (D, ({ cls := .type "tuple", data := .seq [Value.str (Str.ofString "arab") t0, Value.str (Str.ofString "latn") t1].toArray n } : Obj)) ∈ R) (h0 : 0 ≤ r) (h1 : r < 2) (h : ∀ ar t, Q (.str (scr ar) t) s)
    (hs : subscripted slice false (.ref D) (.int r u) = operate [.ref D, .int r u] (getItem (.ref D) (.int r u)) := by with_unfolding_all rfl) :
    wpAny (model prog w) A (subscriptTail value slice (.ref D) (.int r u)) Q E s := by
  have ht : IsTup s.heap D [Value.str (Str.ofString "arab") t0, Value.str (Str.ofString "latn") t1].toArray := News.isTup N hm
  have hr : r = 0 ∨ r = 1 := by omega
  rcases hr with rfl | rfl
  · exact item_tupleT ht (by decide) (by decide) (j := 0) rfl rfl (h true t0) hs
  · exact item_tupleT ht (by decide) (by decide) (j := 1) rfl rfl (h false t1) hs
def tagsL : List Str := [Str.ofString "liga", Str.ofString "salt", Str.ofString "init", Str.ofString "rtlm", Str.ofString "ss01"]
theorem tags_len : ∀ t ∈ tagsL, t.length = 4 := by decide
/-- an item of the law's table of tags -/
theorem pick5 {value slice : PySem.Expr} {u : Tok} {r : Int} {Q : Value → Shared → Prop} (F : Fr h₀ L s.heap m) (X : (hd.heap_1 w.params).In h₀) (h0 : 0 ≤ r) (h1 : r < 5) (h : ∀ x ∈ tagsL, ∀ t, Q (.str x t) s)
    (hs : subscripted slice false (.ref 167) (.int r u) = operate [.ref 167, .int r u] (getItem (.ref 167) (.int r u)) := by with_unfolding_all rfl) :
    wpAny (model prog w) A (subscriptTail value slice (.ref 167) (.int r u)) Q E s := by
  have hl : (hd.heap_1 w.params).lookup 167 = some ⟨.type "tuple", none, .seq [Value.str (Str.ofString "liga") 428, Value.str (Str.ofString "salt") 429, Value.str (Str.ofString "init") 430, Value.str (Str.ofString "rtlm") 431, Value.str (Str.ofString "ss01") 432].toArray 0, #[]⟩ := rfl
  have ht := tupK (X.keeps F.keep) hl
  have hr : r = 0 ∨ r = 1 ∨ r = 2 ∨ r = 3 ∨ r = 4 := by omega
  rcases hr with rfl | rfl | rfl | rfl | rfl
  · exact item_tupleT ht (by decide) (by decide) (j := 0) rfl rfl (h _ (by decide) _) hs
  · exact item_tupleT ht (by decide) (by decide) (j := 1) rfl rfl (h _ (by decide) _) hs
  · exact item_tupleT ht (by decide) (by decide) (j := 2) rfl rfl (h _ (by decide) _) hs
  · exact item_tupleT ht (by decide) (by decide) (j := 3) rfl rfl (h _ (by decide) _) hs
  · exact item_tupleT ht (by decide) (by decide) (j := 4) rfl rfl (h _ (by decide) _) hs
end

/-- a loop over a range -/
theorem for_rangeS {prog : Program} {w : World} {A : Around} {E : Value → Shared → Prop} {s : Shared} {env : Env} {h₀ : Heap} {x : Str} {body : List Stmt} {Q : Flow → Shared → Prop} {src : Addr} {m₀ : Str → Option Value} {R₀ : Led}
    {a b : Int} {t u v : Tok} {n : Nat} (st : List Str) (J : Nat → Led → Prop) (hh : A.handled = none)
    (F : Fr h₀ env.locals s.heap m₀) (N : News h₀ env.locals s.heap R₀) (hsrc : (src, rangeObj a b t u v) ∈ R₀) (hsm : Builtin.Range.small a b 1 = true) (hn : Builtin.Range.rangeSize a b 1 = ((n : Nat) : Int)) (hj : J 0 R₀)
    (turn : ∀ I i tv (u : Str → Option Value) R₁ oI h tk, i < n → (∀ p ∈ R₁, p.1 ≠ I) → J i R₁ → Fr h₀ env.locals h (fun y => if y = x then some (.int (a + (i : Nat)) tv) else if st.contains y then u y else m₀ y) → News h₀ env.locals h ((I, oI) :: R₁) →
      wpAny (model prog w) A (execs body env) (TurnB h₀ env.locals (fun m R => J (i + 1) R ∧ SameS x st m₀ m) I oI { s with heap := h, toks := tk } Q) E { s with heap := h, toks := tk })
    (done : ∀ (u : Str → Option Value) R₁ h tk, J n R₁ → Fr h₀ env.locals h (fun y => if y = x then u y else if st.contains y then u y else m₀ y) → News h₀ env.locals h R₁ → Q .next { s with heap := h, toks := tk }) :
    wpAny (model prog w) A (pyIter (.ref src)) (fun it s₂ => LoopAtV prog w A h₀ env x body Q E it s₂) E s := by
  have ho : IsRange s.heap src a b 1 t u v := (N _ hsrc).1
  refine wpAny_pyIter_range ho hsm ?_
  have W := LCg.range_walks (prog := prog) (w := w) (I := s.heap.objs.size) hh a n
  have hI0 : h₀.get? s.heap.objs.size = none := next_is_new F
  have hIL : s.heap.objs.size ≠ env.locals := Nat.ne_of_gt F.ns.lt
  refine ⟨s.heap.objs.size, [s.heap.objs.size], [s.heap.objs.size], n, _, _, m₀, R₀, fun i m R => J i R ∧ SameS x st m₀ m, rfl, W, ?_, ?_, ?_, ?_, F.push _, news_sub (N.push F _) fun p hp => List.mem_cons_of_mem _ hp, ⟨hj, fun _ _ _ => rfl⟩, ?_, ?_⟩
  · intro hm
    exact hIL (List.mem_singleton.mp hm).symm
  · intro b hb
    rw [List.mem_singleton.mp hb]; exact hI0
  · intro p hp hq
    exact absurd (Heap.lt_size (N p hp).1) ((List.mem_singleton.mp hq) ▸ Nat.lt_irrefl _)
  · show IsRangeIter _ _ _ _ _
    rw [hn]
    simpa using Heap.get?_push_size _ rfl
  · rintro i v' m₁ R₁ s₁ own ⟨hh', tk, rfl⟩ hi ⟨tv, rfl⟩ ⟨hJ, hS⟩ hoff hown hget hfp hst' F₁ N₁
    obtain ⟨oJ, hst2⟩ : ∃ o, hh'.get? s.heap.objs.size = some o := ⟨_, hst'⟩
    have mI := hfp s.heap.objs.size List.mem_cons_self hI0 oJ hst2
    have off₁ : ∀ p ∈ R₁, p.1 ≠ s.heap.objs.size := fun p hp hq => hoff p hp (List.mem_singleton.mpr hq)
    have N₂ := news_sub (R' := (s.heap.objs.size, oJ) :: R₁) N₁ fun p hp => by
      rcases List.mem_cons.mp hp with rfl | hp
      · exact List.mem_append_left _ mI
      · exact List.mem_append_right _ hp
    rw [frS_of hS] at F₁
    refine wpAny_mono (turn s.heap.objs.size i tv m₁ R₁ _ hh' tk hi off₁ hJ F₁ N₂) (fun f s₂ p => ?_) fun _ _ e => e
    have fin : (∃ h' tk' m' R', s₂ = { s with heap := h', toks := tk' } ∧ Fr h₀ env.locals h' m' ∧ News h₀ env.locals h' ((s.heap.objs.size, oJ) :: R') ∧ (∀ p ∈ R', p.1 ≠ s.heap.objs.size) ∧ (J (i + 1) R' ∧ SameS x st m₀ m')) →
        LoopStepU h₀ env.locals [s.heap.objs.size] own (fun m R => J (i + 1) R ∧ SameS x st m₀ m) { s with heap := hh', toks := tk } .next s₂ := by
      rintro ⟨h', tk', m', R', e, F', N', o', hJ'⟩
      refine ⟨rfl, h', tk', m', R', e, F', fun p hp => ?_, fun p hp hq => o' p hp (List.mem_singleton.mp hq), hJ'⟩
      rcases List.mem_append.mp hp with hp | hp
      · have hg : hh'.get? p.1 = some p.2 := hget p hp
        have e1 := List.mem_singleton.mp (hown p hp)
        rw [e1, hst2] at hg
        have e2 : p = (s.heap.objs.size, oJ) := Prod.ext e1 (Option.some.inj hg).symm
        rw [e2]; exact N' _ List.mem_cons_self
      · exact N' p (List.mem_cons_of_mem _ hp)
    cases f with
    | ret v => exact .ret p
    | brk => exact .brk p
    | next => exact .next (fin p)
    | cont => exact .cont (fin p)
  · rintro h' tk m' R' F' N' _ ⟨hJ, hS⟩
    rw [frS_done hS] at F'
    exact done m' R' h' tk hJ F' N'

end Mine
namespace Mine
/-- the ledger of the loop of wishes -/
def WJ (P : Params) (l p c c1 c2 : Addr) (o1 : Obj) (vs : List Value) (nc : Nat) (i : Nat) (R : Led) : Prop :=
  ∃ (xs : List Value) (ws : List Wi) (nl : Nat) (g st pl : Int) (tg ts tp : Tok) (n : Nat) (o2 : Obj) (b2 : Option Value) (RR : Led),
    R = (l, PySem.W.listOf xs.toArray nl) :: (p, PySem.W.listOf #[.ref c, .int g tg, .int st ts, .int pl tp] n) :: (c2, o2) :: (c, PySem.W.listOf vs.toArray nc) :: (c1, o1) :: RR ∧
    o2.data = .cell b2 ∧ WishL P RR xs ws ∧ ws.length = i ∧ (∀ wi ∈ ws, wi.ok ∧ wi.tag ∈ tagsL) ∧ 0 ≤ g ∧ 0 ≤ st ∧ st < 2147483647 ∧ pl = 3 + 3 * (i : Int) ∧ (∀ q ∈ RR, q.1 ≠ l) ∧ (∀ q ∈ RR, q.1 ≠ p) ∧ (∀ q ∈ RR, q.1 ≠ c2)
theorem WJ.next {P : Params} {l p c c1 c2 : Addr} {o1 : Obj} {vs : List Value} {nc i : Nat} {xs : List Value} {ws : List Wi} {nl : Nat} {g st pl : Int} {tg ts tp : Tok} {n : Nat} {o2 : Obj} {b2 : Option Value} {RR : Led} {x : Value} {wi : Wi}
    (h2 : o2.data = .cell b2) (hw : WishL P RR xs ws) (hx : WishAt P RR x wi) (hi : ws.length = i) (ho : ∀ wi ∈ ws, wi.ok ∧ wi.tag ∈ tagsL) (hox : wi.ok) (htx : wi.tag ∈ tagsL) (hg : 0 ≤ g) (hs : 0 ≤ st) (hs' : st < 2147483647) (hp : pl = 3 + 3 * (i : Int) + 1 + 1 + 1)
    (a1 : ∀ q ∈ RR, q.1 ≠ l) (a2 : ∀ q ∈ RR, q.1 ≠ p) (a3 : ∀ q ∈ RR, q.1 ≠ c2) :
    WJ P l p c c1 c2 o1 vs nc (i + 1) ((l, PySem.W.listOf (xs.toArray.push x) nl) :: (p, PySem.W.listOf #[.ref c, .int g tg, .int st ts, .int pl tp] n) :: (c2, o2) :: (c, PySem.W.listOf vs.toArray nc) :: (c1, o1) :: RR) := by
  refine ⟨xs ++ [x], ws ++ [wi], nl, g, st, pl, tg, ts, tp, n, o2, b2, RR, by rw [List.push_toArray], h2, ?_, by rw [List.length_append, hi]; rfl, ?_, hg, hs, hs', by rw [hp]; omega, a1, a2, a3⟩
  · clear hi ho
    induction hw with
    | nil => exact .cons hx .nil
    | cons h _ ih => exact .cons h ih
  · intro w' hw'
    rcases List.mem_append.mp hw' with h | h
    · exact ho _ h
    · rw [List.mem_singleton.mp h]; exact ⟨hox, htx⟩
theorem wloop {w : World} {A : Around} {E : Value → Shared → Prop} {s : Shared} {env : Env} {h₀ : Heap} {body : List Stmt} {Q : Flow → Shared → Prop} {m₀ : Str → Option Value}
    {D l p c c1 c2 : Addr} {r g st : Int} {t u v tg ts tp : Tok} {a b j : Addr × Obj} {o1 o2 : Obj} {vs : List Value} {nc n : Nat} {b2 : Option Value}
    (hh : A.handled = none) (F : Fr h₀ env.locals s.heap m₀)
    (N : News h₀ env.locals s.heap [(D, rangeObj 0 r t u v), (l, PySem.W.listOf #[] 0), a, b, (p, PySem.W.listOf #[.ref c, .int g tg, .int st ts, .int (0 + 1 + 1 + 1) tp] n), (c, PySem.W.listOf vs.toArray nc), j, (c2, o2), (c1, o1)])
    (h2 : o2.data = .cell b2) (hr0 : 0 ≤ r) (hr : r < 7) (hg : 0 ≤ g) (hs : 0 ≤ st) (hs' : st < 2147483647)
    (turn : ∀ I (i : Nat) xs ws nl (g st pl : Int) tg ts tp n o2 b2 RR tv (u : Str → Option Value) oI h tk, (i : Int) < r → I ≠ l → I ≠ p → I ≠ c2 → I ≠ c → I ≠ c1 → (∀ q ∈ RR, q.1 ≠ I) → o2.data = .cell b2 → WishL w.params RR xs ws → ws.length = i → xs.toArray.size ≤ 7 → (∀ wi ∈ ws, wi.ok ∧ wi.tag ∈ tagsL) →
      0 ≤ g → 0 ≤ st → st < 2147483647 → 0 ≤ pl → pl < 900 → pl = 3 + 3 * (i : Int) → (∀ q ∈ RR, q.1 ≠ l) → (∀ q ∈ RR, q.1 ≠ p) → (∀ q ∈ RR, q.1 ≠ c2) →
      Fr h₀ env.locals h (fun y => if y = Str.ofString "turn" then some (.int (0 + (i : Nat)) tv) else if [Str.ofString "value"].contains y then u y else m₀ y) →
      News h₀ env.locals h ((I, oI) :: (l, PySem.W.listOf xs.toArray nl) :: (p, PySem.W.listOf #[.ref c, .int g tg, .int st ts, .int pl tp] n) :: (c2, o2) :: (c, PySem.W.listOf vs.toArray nc) :: (c1, o1) :: RR) →
      wpAny (model PG w) A (execs body env) (TurnB h₀ env.locals (fun m R => WJ w.params l p c c1 c2 o1 vs nc (i + 1) R ∧ SameS (Str.ofString "turn") [Str.ofString "value"] m₀ m) I oI { s with heap := h, toks := tk } Q) E { s with heap := h, toks := tk })
    (done : ∀ (u : Str → Option Value) xs ws nl o2 b2 RR h tk, o2.data = .cell b2 → WishL w.params RR xs ws → ws.length ≤ 6 → xs.length = ws.length → (∀ wi ∈ ws, wi.ok ∧ wi.tag ∈ tagsL) → (∀ q ∈ RR, q.1 ≠ c2) → (c1, o1) ∈ RR → (l, PySem.W.listOf xs.toArray nl) ∈ RR →
      Fr h₀ env.locals h (fun y => if y = Str.ofString "turn" then u y else if [Str.ofString "value"].contains y then u y else m₀ y) → News h₀ env.locals h ((c2, o2) :: RR) → Q .next { s with heap := h, toks := tk })
    (n1 : l ≠ c2) (n2 : c1 ≠ c2) (n3 : D ≠ l) (n4 : D ≠ p) (n5 : D ≠ c2) :
    wpAny (model PG w) A (pyIter (.ref D)) (fun it s₂ => LoopAtV PG w A h₀ env (Str.ofString "turn") body Q E it s₂) E s := by
  obtain ⟨k, rfl⟩ : ∃ k : Nat, r = (k : Int) := ⟨r.toNat, by omega⟩
  refine for_rangeS (n := k) (a := 0) (b := (k : Int)) (t := t) (u := u) (v := v) [Str.ofString "value"] (WJ w.params l p c c1 c2 o1 vs nc) hh F
    (news_sub (R' := (l, PySem.W.listOf ([] : List Value).toArray 0) :: (p, PySem.W.listOf #[.ref c, .int g tg, .int st ts, .int 3 tp] n) :: (c2, o2) :: (c, PySem.W.listOf vs.toArray nc) :: (c1, o1) :: [(D, rangeObj 0 k t u v)]) N (fun q hq => by
      simp only [List.mem_cons, List.not_mem_nil, or_false] at hq ⊢
      rcases hq with h | h | h | h | h | h <;> rw [h] <;> simp)) (by simp) ?_ ?_ ?_ ?_ ?_
  · exact small_one (by decide) (by decide) (by omega) (by omega)
  · rw [rangeSize_nat]; simp
  · refine ⟨[], [], 0, g, st, 3, tg, ts, tp, n, o2, b2, [(D, rangeObj 0 k t u v)], rfl, h2, .nil, rfl, fun _ h => by simp at h, hg, hs, hs', by simp, ?_, ?_, ?_⟩
    all_goals
      intro q hq
      rw [List.mem_singleton.mp hq]
      assumption
  · intro I i tv u R₁ oI h tk hi off hJ F₁ N₁
    obtain ⟨xs, ws, nl, g', st', pl, tg', ts', tp', n', o2', b2', RR, rfl, a1, a2, a3, a4, a5, a6, a7, a8, a9, a10, a11⟩ := hJ
    refine turn I i xs ws nl g' st' pl tg' ts' tp' n' o2' b2' RR tv u oI h tk (by omega) ?_ ?_ ?_ ?_ ?_ ?_ a1 a2 a3 ?_ a4 a5 a6 a7 (by omega) (by omega) a8 a9 a10 a11 F₁ N₁
    · exact (off _ List.mem_cons_self).symm
    · exact (off _ (List.mem_cons_of_mem _ List.mem_cons_self)).symm
    · exact (off _ (List.mem_cons_of_mem _ (List.mem_cons_of_mem _ List.mem_cons_self))).symm
    · exact (off _ (List.mem_cons_of_mem _ (List.mem_cons_of_mem _ (List.mem_cons_of_mem _ List.mem_cons_self)))).symm
    · exact (off _ (List.mem_cons_of_mem _ (List.mem_cons_of_mem _ (List.mem_cons_of_mem _ (List.mem_cons_of_mem _ List.mem_cons_self))))).symm
    · exact fun q hq => off q (List.mem_cons_of_mem _ (List.mem_cons_of_mem _ (List.mem_cons_of_mem _ (List.mem_cons_of_mem _ (List.mem_cons_of_mem _ hq)))))
    · rw [List.size_toArray, a2.length]; omega
  · intro u R₁ h tk hJ F₁ N₁
    obtain ⟨xs, ws, nl, g', st', pl, tg', ts', tp', n', o2', b2', RR, rfl, a1, a2, a3, a4, a5, a6, a7, a8, a9, a10, a11⟩ := hJ
    refine done u xs ws nl o2' b2' ((l, PySem.W.listOf xs.toArray nl) :: (c1, o1) :: RR) h tk a1 (a2.mono fun p hp => List.mem_cons_of_mem _ (List.mem_cons_of_mem _ hp)) (by omega) a2.length a4 ?_ (List.mem_cons_of_mem _ List.mem_cons_self) List.mem_cons_self F₁ ?_
    · intro q hq
      rcases List.mem_cons.mp hq with rfl | hq
      · exact n1
      · rcases List.mem_cons.mp hq with rfl | hq
        · exact n2
        · exact a11 q hq
    · refine news_sub N₁ fun q hq => ?_
      rcases List.mem_cons.mp hq with rfl | hq
      · exact List.mem_cons_of_mem _ (List.mem_cons_of_mem _ List.mem_cons_self)
      · rcases List.mem_cons.mp hq with rfl | hq
        · exact List.mem_cons_self
        · rcases List.mem_cons.mp hq with rfl | hq
          · exact List.mem_cons_of_mem _ (List.mem_cons_of_mem _ (List.mem_cons_of_mem _ (List.mem_cons_of_mem _ List.mem_cons_self)))
          · exact List.mem_cons_of_mem _ (List.mem_cons_of_mem _ (List.mem_cons_of_mem _ (List.mem_cons_of_mem _ (List.mem_cons_of_mem _ hq))))
theorem wishT {P : Params} {x d : Addr} {tag : Str} {val : Int} {t1 t2 t3 t4 u1 u2 u3 u4 : Tok} {R : Led} :
    WishAt P ((x, instObj 100 d) :: (d, PySem.W.dictOf [⟨PyData.keyHash P (Str.ofString "tag"), .str (Str.ofString "tag") t1, .str tag u1⟩, ⟨PyData.keyHash P (Str.ofString "value"), .str (Str.ofString "value") t2, .int val u2⟩,
      ⟨PyData.keyHash P (Str.ofString "begin"), .str (Str.ofString "begin") t3, .int 0 u3⟩, ⟨PyData.keyHash P (Str.ofString "end"), .str (Str.ofString "end") t4, .int (-1) u4⟩] 4) :: R) (.ref x) ⟨tag, val, true⟩ :=
  ⟨x, d, t1, t2, t3, t4, u1, u2, u3, u4, rfl, List.mem_cons_self, List.mem_cons_of_mem _ List.mem_cons_self⟩
theorem wishF {P : Params} {x d : Addr} {tag : Str} {val : Int} {t1 t2 t3 t4 u1 u2 u3 u4 : Tok} {R : Led} :
    WishAt P ((x, instObj 100 d) :: (d, PySem.W.dictOf [⟨PyData.keyHash P (Str.ofString "tag"), .str (Str.ofString "tag") t1, .str tag u1⟩, ⟨PyData.keyHash P (Str.ofString "value"), .str (Str.ofString "value") t2, .int val u2⟩,
      ⟨PyData.keyHash P (Str.ofString "begin"), .str (Str.ofString "begin") t3, .int 1 u3⟩, ⟨PyData.keyHash P (Str.ofString "end"), .str (Str.ofString "end") t4, .int 4 u4⟩] 4) :: R) (.ref x) ⟨tag, val, false⟩ :=
  ⟨x, d, t1, t2, t3, t4, u1, u2, u3, u4, rfl, List.mem_cons_self, List.mem_cons_of_mem _ List.mem_cons_self⟩
theorem turn_end {h₀ h : Heap} {L x d D I l p c2 c c1 : Addr} {ox od oD oI ol op o2 oc o1 : Obj} {RR : Led} {X Y : Prop}
    (N : News h₀ L h ((x, ox) :: (d, od) :: (D, oD) :: (I, oI) :: (l, ol) :: (p, op) :: (c2, o2) :: (c, oc) :: (c1, o1) :: RR)) (hD : I < D ∧ l < D ∧ p < D ∧ c2 < D ∧ X) (hd : D < d ∧ Y) (hx : d < x)
    (q1 : I ≠ l) (q2 : I ≠ p) (q3 : I ≠ c2) (q4 : I ≠ c) (q5 : I ≠ c1) (q6 : ∀ q ∈ RR, q.1 ≠ I) (q7 : ∀ q ∈ RR, q.1 ≠ l) (q8 : ∀ q ∈ RR, q.1 ≠ p) (q9 : ∀ q ∈ RR, q.1 ≠ c2) :
    News h₀ L h ((I, oI) :: (l, ol) :: (p, op) :: (c2, o2) :: (c, oc) :: (c1, o1) :: (x, ox) :: (d, od) :: (D, oD) :: RR) ∧ (∀ q ∈ (l, ol) :: (p, op) :: (c2, o2) :: (c, oc) :: (c1, o1) :: (x, ox) :: (d, od) :: (D, oD) :: RR, q.1 ≠ I) ∧
      (∀ q ∈ (x, ox) :: (d, od) :: (D, oD) :: RR, q.1 ≠ l) ∧ (∀ q ∈ (x, ox) :: (d, od) :: (D, oD) :: RR, q.1 ≠ p) ∧ (∀ q ∈ (x, ox) :: (d, od) :: (D, oD) :: RR, q.1 ≠ c2) := by
  obtain ⟨b1, b2, b3, b4, _⟩ := hD
  have b5 := hd.1
  have up : ∀ z : Nat, z < D → D ≠ z ∧ d ≠ z ∧ x ≠ z := fun z hz => ⟨Nat.ne_of_gt hz, Nat.ne_of_gt (Nat.lt_trans hz b5), Nat.ne_of_gt (Nat.lt_trans (Nat.lt_trans hz b5) hx)⟩
  have off3 : ∀ z : Addr, z < D → (∀ q ∈ RR, q.1 ≠ z) → ∀ q ∈ (x, ox) :: (d, od) :: (D, oD) :: RR, q.1 ≠ z := fun z hz hr q hq => by
    rcases List.mem_cons.mp hq with rfl | hq
    · exact (up z hz).2.2
    · rcases List.mem_cons.mp hq with rfl | hq
      · exact (up z hz).2.1
      · rcases List.mem_cons.mp hq with rfl | hq
        · exact (up z hz).1
        · exact hr q hq
  refine ⟨news_sub N fun q hq => ?_, ?_, off3 l b2 q7, off3 p b3 q8, off3 c2 b4 q9⟩
  · simp only [List.mem_cons] at hq ⊢
    rcases hq with h | h | h | h | h | h | h | h | h | h <;> simp only [h, true_or, or_true]
  · intro q hq
    rcases List.mem_cons.mp hq with rfl | hq
    · exact q1.symm
    · rcases List.mem_cons.mp hq with rfl | hq
      · exact q2.symm
      · rcases List.mem_cons.mp hq with rfl | hq
        · exact q3.symm
        · rcases List.mem_cons.mp hq with rfl | hq
          · exact q4.symm
          · rcases List.mem_cons.mp hq with rfl | hq
            · exact q5.symm
            · exact off3 I b1 q6 q hq

end Mine
namespace Mine
/-! sorted texts -/
def leS (a b : Str) : Prop := a.cps.toList ≤ b.cps.toList
theorem leS_trans {a b c : Str} (h : leS a b) (h' : leS b c) : leS a c := List.le_trans h h'
theorem leS_anti {a b : Str} (h : leS a b) (h' : leS b a) : a = b := by
  have e := List.le_antisymm h h'
  cases a; cases b
  simpa [Array.toList_inj] using e
theorem rising_leS : ∀ (l : List Str) (p : Str), PyProof.Rows.risingS p l = true → (p :: l).Pairwise leS
  | [], p, _ => by simp
  | x :: r, p, h => by
    have h' : (!PySem.Spec.ltCps x.cps.toList p.cps.toList && PyProof.Rows.risingS x r) = true := h
    rw [Bool.and_eq_true] at h'
    have hx := rising_leS r x h'.2
    have hpx : leS p x := by
      have := h'.1
      rw [PyProof.Rows.ltCps_eq] at this
      simpa [leS, List.not_lt] using this
    refine List.pairwise_cons.mpr ⟨fun y hy => ?_, hx⟩
    rcases List.mem_cons.mp hy with rfl | hy
    · exact hpx
    · exact leS_trans hpx (List.rel_of_pairwise_cons hx hy)
theorem sorted_leS {l : List Str} (h : sortedS l = true) : l.Pairwise leS := by
  cases l with
  | nil => exact .nil
  | cons x r => exact rising_leS r x h
theorem sorted_one {l l' : List Str} (h : sortedS l = true) (h' : sortedS l' = true) (p : l.Perm l') : l = l' :=
  List.Perm.eq_of_pairwise (le := leS) (fun _ _ _ _ a b => leS_anti a b) (sorted_leS h) (sorted_leS h') p
theorem rows_one {S S' D D' : List (Str × WantD)} (p : S.Perm D) (p' : S'.Perm D') (pd : D.Perm D') (hn : (D.map (·.1)).Nodup) (h : sortedS (S.map (·.1)) = true) (h' : sortedS (S'.map (·.1)) = true) : S = S' := by
  have pp : S.Perm S' := p.trans (pd.trans p'.symm)
  have e := sorted_one h h' (pp.map (·.1))
  have nS : (S.map (·.1)).Nodup := (p.map (·.1)).nodup_iff.mpr hn
  have nS' : (S'.map (·.1)).Nodup := e ▸ nS
  rw [← map_look nS, ← map_look nS', e]
  refine List.map_congr_left fun k hk => ?_
  obtain ⟨q, hq, rfl⟩ := List.mem_map.mp hk
  have e1 : look S' q.1 = q.2 := look_at nS' hq
  have e2 : look S q.1 = q.2 := look_at nS (pp.mem_iff.mpr hq)
  rw [e1, e2]

/-! the tables, purely -/
def addT (T : List (Str × WantD)) (k : Str) : List (Str × WantD) := if k ∈ T.map (·.1) then T else T ++ [(k, v0)]
def turnT (wi : Wi) (p : Str × WantD) : Str × WantD := if p.1 = wi.tag then (p.1, updW p.2 wi) else p
theorem stepT_eq (T : List (Str × WantD)) (wi : Wi) : stepT T wi = (addT T wi.tag).map (turnT wi) := rfl
theorem turnT_key (wi : Wi) (p : Str × WantD) : (turnT wi p).1 = p.1 := by unfold turnT; split <;> rfl
theorem turnT_keys (wi : Wi) (T : List (Str × WantD)) : (T.map (turnT wi)).map (·.1) = T.map (·.1) := by
  rw [List.map_map]; exact List.map_congr_left fun p _ => turnT_key wi p
theorem turnT_off {wi : Wi} {k : Str} {v : WantD} (h : k ≠ wi.tag) : turnT wi (k, v) = (k, v) := by unfold turnT; rw [if_neg h]
theorem turnT_comm {a b : Wi} (h : a.tag ≠ b.tag) (p : Str × WantD) : turnT a (turnT b p) = turnT b (turnT a p) := by
  obtain ⟨k, v⟩ := p
  by_cases ha : k = a.tag
  · have hb : k ≠ b.tag := fun e => h (ha.symm.trans e)
    rw [turnT_off hb]
    unfold turnT
    simp only [ha, if_true]
    rw [if_neg h]
  · rw [turnT_off ha]
    unfold turnT
    by_cases hb : k = b.tag
    · simp only [hb, if_true]; rw [if_neg (fun e => h e.symm)]
    · simp only [hb, if_false]; rw [if_neg ha]
theorem addT_perm {T T' : List (Str × WantD)} (p : T.Perm T') (k : Str) : (addT T k).Perm (addT T' k) := by
  unfold addT
  by_cases h : k ∈ T.map (·.1)
  · rw [if_pos h, if_pos ((p.map (·.1)).mem_iff.mp h)]; exact p
  · rw [if_neg h, if_neg (fun h' => h ((p.map (·.1)).mem_iff.mpr h'))]; exact p.append_right _
theorem stepT_perm {T T' : List (Str × WantD)} (p : T.Perm T') (wi : Wi) : (stepT T wi).Perm (stepT T' wi) := by
  rw [stepT_eq, stepT_eq]; exact (addT_perm p _).map _
theorem foldT_perm {T T' : List (Str × WantD)} (p : T.Perm T') (ws : List Wi) : (ws.foldl stepT T).Perm (ws.foldl stepT T') := by
  induction ws generalizing T T' with
  | nil => exact p
  | cons x r ih => exact ih (stepT_perm p x)
theorem addT_comm (T : List (Str × WantD)) (a b : Str) : (addT (addT T a) b).Perm (addT (addT T b) a) := by
  unfold addT
  by_cases ha : a ∈ T.map (·.1) <;> by_cases hb : b ∈ T.map (·.1)
  · rw [if_pos ha, if_pos hb, if_pos ha]
  · rw [if_pos ha, if_neg hb, if_pos (by rw [List.map_append]; exact List.mem_append_left _ ha)]
  · rw [if_neg ha, if_pos hb, if_pos (by rw [List.map_append]; exact List.mem_append_left _ hb), if_neg ha]
  · rw [if_neg ha, if_neg hb]
    by_cases e : a = b
    · rw [e]
    · rw [if_neg (by rw [List.map_append, List.mem_append]; exact fun h' => h'.elim hb fun h'' => e (by simpa using h'' : b = a).symm), if_neg (by rw [List.map_append, List.mem_append]; exact fun h' => h'.elim ha fun h'' => e (by simpa using h''))]
      rw [List.append_assoc, List.append_assoc]
      exact List.Perm.append_left _ (List.Perm.swap _ _ _)
theorem addT_turn (T : List (Str × WantD)) {a : Wi} {k : Str} (h : k ≠ a.tag) : addT (T.map (turnT a)) k = (addT T k).map (turnT a) := by
  unfold addT
  rw [turnT_keys]
  by_cases hk : k ∈ T.map (·.1)
  · rw [if_pos hk, if_pos hk]
  · rw [if_neg hk, if_neg hk, List.map_append]
    simp only [List.map_cons, List.map_nil]
    rw [turnT_off h]
theorem stepT_comm (T : List (Str × WantD)) {a b : Wi} (h : a.tag ≠ b.tag) : (stepT (stepT T a) b).Perm (stepT (stepT T b) a) := by
  rw [stepT_eq (stepT T a), stepT_eq T, stepT_eq (stepT T b), stepT_eq T, addT_turn _ (fun e => h e.symm), addT_turn _ h, List.map_map, List.map_map]
  have e : (turnT b ∘ turnT a) = (turnT a ∘ turnT b) := funext fun p => (turnT_comm h p).symm
  rw [e]
  exact (addT_comm T a.tag b.tag).map _
theorem allT_swap (ar b : Bool) (pre post : List Wi) {x y : Wi} (h : x.tag ≠ y.tag) : (allT ar b (pre ++ y :: x :: post)).Perm (allT ar b (pre ++ x :: y :: post)) := by
  unfold allT
  rw [List.foldl_append, List.foldl_append]
  simp only [List.foldl_cons]
  exact foldT_perm (stepT_comm _ (fun e => h e.symm)) post
theorem stepT_keys (T : List (Str × WantD)) (wi : Wi) : (stepT T wi).map (·.1) = (addT T wi.tag).map (·.1) := by rw [stepT_eq, turnT_keys]
theorem addT_len (T : List (Str × WantD)) (k : Str) : (addT T k).length ≤ T.length + 1 := by
  unfold addT; split
  · omega
  · rw [List.length_append]; simp
theorem foldT_len (ws : List Wi) : ∀ T : List (Str × WantD), (ws.foldl stepT T).length ≤ T.length + ws.length := by
  induction ws with
  | nil => intro T; simp
  | cons x r ih =>
    intro T
    have h1 := ih (stepT T x)
    have h2 := addT_len T x.tag
    have h3 : (stepT T x).length = (addT T x.tag).length := by rw [stepT_eq, List.length_map]
    simp only [List.foldl_cons, List.length_cons]
    omega
theorem firstT_len (ar b : Bool) : (firstT ar b).length ≤ 30 := by cases ar <;> cases b <;> decide
theorem allT_len (ar b : Bool) (ws : List Wi) : (allT ar b ws).length ≤ 30 + ws.length := by
  have h1 := foldT_len ws (firstT ar b)
  have h2 := firstT_len ar b
  unfold allT; omega
theorem foldT_keys (ws : List Wi) : ∀ (T : List (Str × WantD)) (k : Str), k ∈ (ws.foldl stepT T).map (·.1) ↔ k ∈ T.map (·.1) ∨ k ∈ ws.map (·.tag) := by
  induction ws with
  | nil => intro T k; simp
  | cons x r ih =>
    intro T k
    rw [List.foldl_cons, ih, stepT_keys]
    have e : k ∈ (addT T x.tag).map (·.1) ↔ k ∈ T.map (·.1) ∨ k = x.tag := by
      unfold addT; split
      · next h =>
        constructor
        · exact .inl
        · rintro (h' | rfl)
          · exact h'
          · exact h
      · rw [List.map_append, List.mem_append]; simp
    rw [e, List.map_cons, List.mem_cons, or_assoc]
theorem firstT_strs (ar b : Bool) : ∀ p ∈ firstT ar b, PyData.strOk p.1 = true := by cases ar <;> cases b <;> decide +kernel
theorem tags_strs : ∀ t ∈ tagsL, PyData.strOk t = true := by decide +kernel
theorem allT_strs {ar b : Bool} {ws : List Wi} (h : ∀ wi ∈ ws, wi.tag ∈ tagsL) : ∀ p ∈ allT ar b ws, PyData.strOk p.1 = true := by
  intro p hp
  rcases (foldT_keys ws (firstT ar b) p.1).mp (List.mem_map_of_mem (f := (·.1)) hp) with h1 | h1
  · obtain ⟨q, hq, e⟩ := List.mem_map.mp h1
    rw [← e]; exact firstT_strs ar b q hq
  · obtain ⟨wi, hw, e⟩ := List.mem_map.mp h1
    rw [← e]; exact tags_strs _ (h wi hw)

/-! rows compared -/
def rowP (r : Str × WantD) : PyData := .tuple [.str r.1, .int r.2.val, .int r.2.most, .bool r.2.isSet, .bool r.2.isPart]
theorem rows_reads {h₀ h : Heap} {L : Addr} {R : Led} (N : News h₀ L h R) {vs : List Value} {S : List (Str × WantD)} (hS : AllR (RowAt R) vs S) : ∃ as, ReadsAll h vs (S.map rowP) as := by
  induction hS with
  | nil => exact ⟨_, ReadsAll.nil⟩
  | cons hr _ ih =>
    obtain ⟨as, ia⟩ := ih
    obtain ⟨a, t, u1, u2, n, rfl, hm⟩ := hr
    exact ⟨_, ReadsAll.cons (reads_tuple_at (N.get hm) rfl rfl (.cons (.str _ _) (.cons (.int _ _) (.cons (.int _ _) (.cons (.bool _) (.cons (.bool _) .nil)))))) ia⟩
theorem rows_lay {S : List (Str × WantD)} (h : ∀ p ∈ S, PyData.strOk p.1 = true) : PyData.canLayAll0 (S.map rowP) = true ∧ PyData.depthAll (S.map rowP) ≤ 2 := by
  induction S with
  | nil => exact ⟨rfl, by simp [PyData.depthAll]⟩
  | cons p r ih =>
    obtain ⟨i1, i2⟩ := ih fun q hq => h q (List.mem_cons_of_mem _ hq)
    have hp := h p List.mem_cons_self
    refine ⟨?_, ?_⟩
    · rw [List.map_cons]; simp only [PyData.canLayAll0, rowP, PyData.canLay0, hp, i1, Bool.and_true]
    · rw [List.map_cons]; simp only [PyData.depthAll, rowP, PyData.depth]; omega
theorem rows_eqv (S : List (Str × WantD)) : PyData.eqvAll (S.map rowP) (S.map rowP) = true := by
  induction S with
  | nil => rfl
  | cons p r ih => rw [List.map_cons]; simp only [PyData.eqvAll, rowP, PyData.eqv, ih, beq_self_eq_true, Bool.and_true, Bool.and_self]
theorem rows_ne {prog : Program} {w : World} {A : Around} {E : Value → Shared → Prop} {s : Shared} {h₀ : Heap} {L a b : Addr} {R : Led} {vs us : List Value} {n k : Nat} {S S' : List (Str × WantD)} {Q : Value → Shared → Prop}
    (N : News h₀ L s.heap R) (ha : (a, PySem.W.listOf vs.toArray n) ∈ R) (hb : (b, PySem.W.listOf us.toArray k) ∈ R) (hS : AllR (RowAt R) vs S) (hS' : AllR (RowAt R) us S') (e : S = S') (hs : ∀ p ∈ S', PyData.strOk p.1 = true) (hu : A.units + 64 < cLine) (h : Q (.bool false) s) :
    wpAny (model prog w) A (compareOp .NotEq (.ref a) (.ref b)) Q E s := by
  subst e
  obtain ⟨as, ra⟩ := rows_reads N hS
  obtain ⟨bs, rb⟩ := rows_reads N hS'
  have sh : PySem.SeqAt.shaped (.list (S.map rowP)) = true := by
    have := rows_lay hs
    unfold PySem.SeqAt.shaped
    rw [Bool.and_eq_true]
    exact ⟨by simp only [PyData.canLay0, this.1], decide_eq_true (by simp only [PyData.depth]; omega)⟩
  refine ne_dataH (reads_list_at (N.get ha) rfl rfl (by simpa using ra)) (reads_list_at (N.get hb) rfl rfl (by simpa using rb)) sh sh hu ?_
  have e : PyData.eqv (.list (S.map rowP)) (.list (S.map rowP)) = true := by rw [PyData.eqv]; exact rows_eqv S
  rw [e]; exact h

end Mine
namespace Mine
/-- a ledger that holds another one -/
structure Sup (R R' : Led) : Prop where
  h : ∀ p ∈ R, p ∈ R'
theorem Sup.mem {R R' : Led} {p : Addr × Obj} (s : Sup R R') (h : p ∈ R) : p ∈ R' := s.h p h
def AtIs (its : Array Value) (j : Int) (v : Value) : Prop := ∃ k : Nat, j = (k : Int) ∧ its[k]? = some v
theorem at_list {prog : Program} {w : World} {A : Around} {E : Value → Shared → Prop} {s : Shared} {h₀ : Heap} {L D : Addr} {R : Led} {value slice : PySem.Expr} {xs : List Value} {n : Nat} {j : Int} {u : Tok} {v : Value} {Q : Value → Shared → Prop}
    (N : News h₀ L s.heap R) (hm : (D, PySem.W.listOf xs.toArray n) ∈ R) (ha : AtIs xs.toArray j v) (hs : xs.length ≤ 1000) (h : Q v s)
    (hsub : subscripted slice false (.ref D) (.int j u) = operate [.ref D, .int j u] (getItem (.ref D) (.int j u)) := by with_unfolding_all rfl) :
    wpAny (model prog w) A (subscriptTail value slice (.ref D) (.int j u)) Q E s := by
  obtain ⟨k, rfl, hk⟩ := ha
  have hl : s.heap.IsList D xs.toArray := News.isList N hm
  have hk' : xs[k]? = some v := by simpa using hk
  have hk2 : k < xs.length := (List.getElem?_eq_some_iff.mp hk').1
  exact item_litK hl (by omega) (by omega) (by simpa using hk') h hsub
theorem len_list {prog : Program} {w : World} {A : Around} {E : Value → Shared → Prop} {s : Shared} {h₀ : Heap} {L D : Addr} {R : Led} {xs : List Value} {n : Nat} {Q : Value → Shared → Prop}
    (N : News h₀ L s.heap R) (hm : (D, PySem.W.listOf xs.toArray n) ∈ R) (hs : xs.length ≤ 1000) (h : Q (.int (xs.length : Nat) (s.toks + 1)) { s with toks := s.toks + 1 + 1 }) :
    wpAny (model prog w) A (call (.builtin "len") [.ref D]) Q E s := by
  have hl : s.heap.IsList D xs.toArray := News.isList N hm
  refine Calls.call_len_list hl (by rw [List.size_toArray]; omega) ?_
  rw [List.size_toArray]
  exact h
theorem upto_any {vs : List Value} {y : Int} (h : 0 ≤ y) : (slicePick vs.toArray none (some y) none).toList = vs.take y.toNat := by
  have e : sliceBounds none (some y) none vs.toArray.size = (((0 : Nat) : Int), ((min y.toNat vs.toArray.size : Nat) : Int), 1) := by
    simp only [sliceBounds, Option.getD_none, show (1 : Int) > 0 by decide, if_true, if_neg (show ¬ (y < 0) by omega)]
    congr 1
    congr 1
    omega
  rw [kmk_pick_nat _ e]
  show ((vs.drop 0).take (min y.toNat vs.toArray.size - 0)) = _
  rw [List.drop_zero, Nat.sub_zero, List.size_toArray, kmk_take_min]
theorem from_any {vs : List Value} {x : Int} (h : 0 ≤ x) : (slicePick vs.toArray (some x) none none).toList = vs.drop x.toNat := by
  have e : sliceBounds (some x) none none vs.toArray.size = (((min x.toNat vs.toArray.size : Nat) : Int), ((vs.toArray.size : Nat) : Int), 1) := by
    simp only [sliceBounds, Option.getD_none, show (1 : Int) > 0 by decide, if_true, if_neg (show ¬ (x < 0) by omega)]
    congr 1
    omega
  rw [kmk_pick_nat _ e]
  show ((vs.drop (min x.toNat vs.toArray.size)).take (vs.toArray.size - min x.toNat vs.toArray.size)) = _
  rw [List.size_toArray, kmk_drop_min]
  exact List.take_of_length_le (by rw [List.length_drop]; omega)
theorem cat_lists {prog : Program} {w : World} {A : Around} {E : Value → Shared → Prop} {s : Shared} {h₀ : Heap} {L a b : Addr} {m : Str → Option Value} {R : Led} {xs ys : List Value} {n k : Nat} {Q : Value → Shared → Prop}
    (F : Fr h₀ L s.heap m) (N : News h₀ L s.heap R) (ha : (a, PySem.W.listOf xs.toArray n) ∈ R) (hb : (b, PySem.W.listOf ys.toArray k) ∈ R) (hx : xs.length ≤ 1000) (hy : ys.length ≤ 1000)
    (h : ∀ D h', Fr h₀ L h' m → News h₀ L h' ((D, PySem.W.listOf (xs ++ ys).toArray 0) :: R) → (∀ p ∈ R, p.1 < D) → Q (.ref D) { s with heap := h' }) : wpAny (model prog w) A (binaryOp .Add (.ref a) (.ref b)) Q E s :=
  kmk_add_lit F N (News.isList N ha) (News.isList N hb) rfl h (by rw [PySem.sizeLine_eq]; show xs.length + ys.length ≤ _; omega)
theorem turn_keep {h₀ h : Heap} {L I : Addr} {oI : Obj} {Rb R3 : Led} (N : News h₀ L h R3) (mI : (I, oI) ∈ R3) (hs : ∀ p ∈ Rb, p ∈ R3) (off : ∀ p ∈ Rb, p.1 ≠ I) :
    News h₀ L h ((I, oI) :: but R3 I) ∧ (∀ q ∈ but R3 I, q.1 ≠ I) ∧ Sup Rb (but R3 I) :=
  ⟨news_sub N fun p hp => by
    rcases List.mem_cons.mp hp with rfl | hp
    · exact mI
    · exact but_sub p hp, fun q hq => but_off q hq, ⟨fun p hp => mem_but.mpr ⟨hs p hp, off p hp⟩⟩⟩
theorem told_use {w : World} {R : Led} {d : Addr} {cs : List Cell} {T : List (Str × WantD)} (tc : TabC w R d cs) (dt : datOf cs = T) (h60 : T.length < 60) :
    SpecN 20 w 172 [.ref d] R (fun v R' => Sup R R' ∧ ∃ l vs n S, v = .ref l ∧ (l, PySem.W.listOf vs.toArray n) ∈ R' ∧ AllR (RowAt R') vs S ∧ S.Perm T ∧ sortedS (S.map (·.1)) = true) := by
  subst dt
  have hl : cs.length < 60 := by rw [len_of (rfl : datOf cs = datOf cs)]; exact h60
  have S := told_ok tc hl
  intro dp un gd cn cs' L a ccd cl outer A₀ base h₀ m s Q E loose mean mg mb B F X N T hk hd hu hret
  refine S dp un gd cn cs' L a ccd cl outer A₀ base h₀ m s Q E loose mean mg mb B F X N T hk hd hu fun r h' tk' news' F' N' P => ?_
  exact hret r h' tk' news' F' N' ⟨⟨P.1⟩, P.2⟩
/-- a loop whose turns only add to the ledger -/
theorem for_rangeK {w : World} {A : Around} {E : Value → Shared → Prop} {s : Shared} {env : Env} {h₀ : Heap} {x : Str} {body : List Stmt} {Q : Flow → Shared → Prop} {src : Addr} {m₀ : Str → Option Value} {R₀ : Led}
    {b : Int} {t u v : Tok} (st : List Str) (hh : A.handled = none)
    (F : Fr h₀ env.locals s.heap m₀) (N : News h₀ env.locals s.heap R₀) (hsrc : (src, rangeObj 0 b t u v) ∈ R₀) (hb : -1000 ≤ b) (hb' : b ≤ 1000)
    (turn : ∀ I (i : Nat) tv (u : Str → Option Value) R₁ oI h tk, (i : Int) < b → Sup R₀ R₁ → (∀ p ∈ R₁, p.1 ≠ I) → Fr h₀ env.locals h (fun y => if y = x then some (.int (0 + (i : Nat)) tv) else if st.contains y then u y else m₀ y) → News h₀ env.locals h ((I, oI) :: R₁) →
      wpAny (model PG w) A (execs body env) (TurnB h₀ env.locals (fun m R => Sup R₀ R ∧ SameS x st m₀ m) I oI { s with heap := h, toks := tk } Q) E { s with heap := h, toks := tk })
    (done : ∀ (u : Str → Option Value) R₁ h tk, Sup R₀ R₁ → Fr h₀ env.locals h (fun y => if y = x then u y else if st.contains y then u y else m₀ y) → News h₀ env.locals h R₁ → Q .next { s with heap := h, toks := tk }) :
    wpAny (model PG w) A (pyIter (.ref src)) (fun it s₂ => LoopAtV PG w A h₀ env x body Q E it s₂) E s := by
  refine for_rangeS (n := b.toNat) (a := 0) (b := b) (t := t) (u := u) (v := v) st (fun _ R => Sup R₀ R) hh F N hsrc ?_ ?_ ⟨fun _ h => h⟩ ?_ ?_
  · exact small_one (by decide) (by decide) (by omega) (by omega)
  · rw [rangeSize_nat]; simp
  · intro I i tv u R₁ oI h tk hi off hJ F₁ N₁
    exact turn I i tv u R₁ oI h tk (by omega) hJ off F₁ N₁
  · intro u R₁ h tk hJ F₁ N₁
    exact done u R₁ h tk hJ F₁ N₁
theorem WishL.append {P : Params} {R : Led} {xs ys : List Value} {ws us : List Wi} (h : WishL P R xs ws) (h' : WishL P R ys us) : WishL P R (xs ++ ys) (ws ++ us) := by
  induction h with
  | nil => exact h'
  | cons hx _ ih => exact .cons hx ih
theorem WishL.take {P : Params} {R : Led} {xs : List Value} {ws : List Wi} (h : WishL P R xs ws) (n : Nat) : WishL P R (xs.take n) (ws.take n) := by
  induction h generalizing n with
  | nil => simp; exact .nil
  | cons hx _ ih =>
    cases n with
    | zero => exact .nil
    | succ n => exact .cons hx (ih n)
theorem WishL.drop {P : Params} {R : Led} {xs : List Value} {ws : List Wi} (h : WishL P R xs ws) (n : Nat) : WishL P R (xs.drop n) (ws.drop n) := by
  induction h generalizing n with
  | nil => simp; exact .nil
  | cons hx hr ih =>
    cases n with
    | zero => exact .cons hx hr
    | succ n => exact ih n
/-- two neighbours of the wishes -/
theorem pair_at {P : Params} {R : Led} {xs : List Value} {ws : List Wi} {i : Nat} (h : WishL P R xs ws) (hi : i + 1 < xs.length) :
    ∃ a b wa wb, AtIs xs.toArray (0 + (i : Int)) a ∧ AtIs xs.toArray (0 + (i : Int) + 1) b ∧ WishAt P R a wa ∧ WishAt P R b wb ∧ ws = ws.take i ++ wa :: wb :: ws.drop (i + 2) ∧
      WishL P R (xs.take (0 + (i : Int)).toNat ++ [b, a] ++ xs.drop (0 + (i : Int) + 2).toNat) (ws.take i ++ [wb, wa] ++ ws.drop (i + 2)) := by
  have e1 : xs[i]? = some xs[i] := List.getElem?_eq_getElem (by omega)
  have e2 : xs[i + 1]? = some xs[i + 1] := List.getElem?_eq_getElem hi
  obtain ⟨wa, w1, A1⟩ := h.at e1
  obtain ⟨wb, w2, A2⟩ := h.at e2
  refine ⟨_, _, wa, wb, ⟨i, by omega, by simpa using e1⟩, ⟨i + 1, by omega, by simpa using e2⟩, A1, A2, ?_, ?_⟩
  · have g1 := (List.getElem?_eq_some_iff.mp w1)
    have g2 := (List.getElem?_eq_some_iff.mp w2)
    obtain ⟨l1, g1⟩ := g1
    obtain ⟨l2, g2⟩ := g2
    conv => lhs; rw [← List.take_append_drop i ws]
    rw [List.drop_eq_getElem_cons l1, List.drop_eq_getElem_cons l2, g1, g2]
  · rw [show (0 + (i : Int)).toNat = i by omega, show (0 + (i : Int) + 2).toNat = i + 2 by omega]
    exact ((h.take i).append (.cons A2 (.cons A1 .nil))).append (h.drop (i + 2))

end Mine
namespace Mine
/-! the value of a key behind the wishes -/
theorem look_add (T : List (Str × WantD)) (k j : Str) : look (addT T j) k = look T k := by
  unfold addT
  split
  · rfl
  · unfold look
    rw [List.find?_append]
    cases h : T.find? fun p => decide (p.1 = k) with
    | some p => rfl
    | none =>
      simp only [Option.none_or, List.find?_cons, List.find?_nil]
      split <;> rfl
theorem find_turn (wi : Wi) (T : List (Str × WantD)) (k : Str) : (T.map (turnT wi)).find? (fun p => decide (p.1 = k)) = (T.find? fun p => decide (p.1 = k)).map (turnT wi) := by
  rw [List.find?_map]
  congr 2
  funext p
  have e : (turnT wi p).1 = p.1 := by unfold turnT; split <;> rfl
  simp [e]
theorem look_step (T : List (Str × WantD)) (wi : Wi) (k : Str) : look (stepT T wi) k = if wi.tag = k then updW (look T k) wi else look T k := by
  rw [stepT_eq]
  by_cases h : wi.tag = k
  · rw [if_pos h]
    have hk : ∃ p, (addT T wi.tag).find? (fun p => decide (p.1 = k)) = some p ∧ p.1 = k := by
      have hm : k ∈ (addT T wi.tag).map (·.1) := by
        unfold addT
        split
        · next hh => exact h ▸ hh
        · rw [List.map_append, List.mem_append]; right; simp [h]
      obtain ⟨q, hq, e⟩ := List.mem_map.mp hm
      cases hf : (addT T wi.tag).find? fun p => decide (p.1 = k) with
      | none => exact absurd e (by have := List.find?_eq_none.mp hf q hq; simpa using this)
      | some p => exact ⟨p, rfl, by have := List.find?_some hf; simpa using this⟩
    obtain ⟨p, hp, e⟩ := hk
    have h1 : look T k = p.2 := by rw [← look_add T k wi.tag]; unfold look; rw [hp]; rfl
    rw [h1]
    unfold look
    rw [find_turn, hp]
    show (turnT wi p).2 = _
    unfold turnT
    rw [if_pos (e.trans h.symm)]
  · rw [if_neg h, ← look_add T k wi.tag]
    unfold look
    rw [find_turn]
    cases hf : (addT T wi.tag).find? fun p => decide (p.1 = k) with
    | none => rfl
    | some p =>
      have e : p.1 = k := by have := List.find?_some hf; simpa using this
      show (turnT wi p).2 = p.2
      unfold turnT
      rw [if_neg (fun q => h (q.symm.trans e))]
theorem look_fold (k : Str) : ∀ (ws : List Wi) (T : List (Str × WantD)), look (ws.foldl stepT T) k = (ws.filter fun wi => wi.tag == k).foldl updW (look T k)
  | [], _ => rfl
  | wi :: ws, T => by
    rw [List.foldl_cons, look_fold k ws, look_step, List.filter_cons]
    by_cases h : wi.tag = k
    · rw [if_pos h, if_pos (by simpa using h)]; rfl
    · rw [if_neg h, if_neg (by simpa using h)]
theorem look_all (ar bb : Bool) (ws : List Wi) (k : Str) : look (allT ar bb ws) k = (ws.filter fun wi => wi.tag == k).foldl updW (look (firstT ar bb) k) := look_fold k ws _
def lastD (l : List Int) (d : Int) : Int := (l.getLast?).getD d
theorem lastD_snoc (l : List Int) (x d : Int) : lastD (l ++ [x]) d = x := by unfold lastD; rw [List.getLast?_append]; rfl
def wv (own : List Wi) : List Int := (own.filter fun wi => wi.whole).map (·.val)
theorem wv_cons (a : Wi) (r : List Wi) : wv (a :: r) = (if a.whole = true then [a.val] else []) ++ wv r := by
  unfold wv
  rw [List.filter_cons]
  split <;> rfl
theorem lastD_app (l l' : List Int) (d : Int) : lastD (l ++ l') d = lastD l' (lastD l d) := by
  unfold lastD
  rw [List.getLast?_append]
  cases l'.getLast? <;> rfl
theorem own_val : ∀ (own : List Wi) (f : WantD), (own.foldl updW f).val = lastD (wv own) f.val
  | [], _ => rfl
  | a :: r, f => by
    rw [List.foldl_cons, own_val r, wv_cons, lastD_app]
    congr 1
    cases h : a.whole with
    | true => rw [updW_whole h]; rfl
    | false => rw [updW_part h]; rfl
theorem own_set : ∀ (own : List Wi) (f : WantD), (own.foldl updW f).isSet = (f.isSet && decide (wv own = []))
  | [], f => by show f.isSet = _; rw [show wv [] = [] from rfl]; simp
  | a :: r, f => by
    rw [List.foldl_cons, own_set r, wv_cons]
    cases h : a.whole with
    | true => rw [updW_whole h]; simp
    | false => rw [updW_part h]; simp
theorem wv_len (own : List Wi) : (wv own).length ≤ own.length := by unfold wv; rw [List.length_map]; exact List.length_filter_le _ _
theorem own_part : ∀ (own : List Wi) (f : WantD), (own.foldl updW f).isPart = (f.isPart || decide ((wv own).length < own.length))
  | [], f => by show f.isPart = _; rw [show wv [] = [] from rfl]; simp
  | a :: r, f => by
    rw [List.foldl_cons, own_part r, wv_cons]
    have := wv_len r
    cases h : a.whole with
    | true =>
      rw [updW_whole h, if_pos rfl]
      congr 1
      simp
    | false =>
      rw [updW_part h]
      have e : ((if false = true then [a.val] else []) ++ wv r) = wv r := rfl
      rw [e, List.length_cons]
      simp only [Bool.true_or]
      rw [decide_eq_true (by omega : (wv r).length < r.length + 1), Bool.or_true]
theorem own_most : ∀ (own : List Wi) (f : WantD), (own.foldl updW f).most ∈ f.most :: own.map (·.val) ∧ ∀ a ∈ f.most :: own.map (·.val), a ≤ (own.foldl updW f).most
  | [], f => ⟨List.mem_cons_self, fun a h => by rw [List.mem_singleton.mp h]; exact Int.le_refl _⟩
  | w :: r, f => by
    rw [List.foldl_cons]
    have hm : (updW f w).most = if w.val > f.most then w.val else f.most := by
      cases h : w.whole with
      | true => rw [updW_whole h]
      | false => rw [updW_part h]
    obtain ⟨h1, h2⟩ := own_most r (updW f w)
    have h3 := h2 _ List.mem_cons_self
    refine ⟨?_, fun a ha => ?_⟩
    · rcases List.mem_cons.mp h1 with h1 | h1
      · rw [h1, hm]
        split
        · exact List.mem_cons_of_mem _ List.mem_cons_self
        · exact List.mem_cons_self
      · exact List.mem_cons_of_mem _ (List.mem_cons_of_mem _ h1)
    · rw [List.map_cons] at ha
      rcases List.mem_cons.mp ha with rfl | ha
      · rw [hm] at h3; split at h3 <;> omega
      · rcases List.mem_cons.mp ha with rfl | ha
        · rw [hm] at h3; split at h3 <;> omega
        · exact h2 a (List.mem_cons_of_mem _ ha)
theorem most_one {M M' : Int} {l : List Int} (h : M ∈ l) (h' : ∀ a ∈ l, a ≤ M) (g : M' ∈ l) (g' : ∀ a ∈ l, a ≤ M') : M = M' := by
  have := h' _ g; have := g' _ h; omega
theorem firstT_part (ar bb : Bool) (k : Str) : (look (firstT ar bb) k).isPart = false := by
  have h : ∀ p ∈ firstT ar bb, p.2.isPart = false := by cases ar <;> cases bb <;> decide
  unfold look
  cases hf : (firstT ar bb).find? fun p => decide (p.1 = k) with
  | none => rfl
  | some p => exact h p (List.mem_of_find?_eq_some hf)
theorem look_none {T : List (Str × WantD)} {k : Str} (h : k ∉ T.map (·.1)) : look T k = v0 := by
  unfold look
  rw [List.find?_eq_none.mpr fun q hq => ?_]
  · rfl
  · simp only [decide_eq_true_eq]
    exact fun e => h (e ▸ List.mem_map_of_mem (f := (·.1)) hq)
theorem look_mem {cs : List Cell} {T : List (Str × WantD)} (hd : datOf cs = T) (hn : (cs.map (·.key)).Nodup) {c : Cell} (hc : c ∈ cs) : look T c.key = c.v := by
  subst hd
  refine look_at (by rw [← keys_dat]; exact hn) ?_
  exact List.mem_map_of_mem (f := fun c : Cell => (c.key, c.v)) hc
/-- what the law asks of a name's want -/
theorem want_facts {ar bb : Bool} {ws : List Wi} {k : Str} {v f : WantD} (hv : look (allT ar bb ws) k = v) (hf : look (firstT ar bb) k = f) (own : List Wi) (ho : own = ws.filter fun wi => wi.tag == k) :
    v.val = lastD (wv own) f.val ∧ (v.most ∈ f.most :: own.map (·.val) ∧ ∀ a ∈ f.most :: own.map (·.val), a ≤ v.most) ∧ v.isPart = decide ((wv own).length < own.length) ∧ v.isSet = (f.isSet && decide (wv own = [])) := by
  have e : v = own.foldl updW f := by rw [← hv, ← hf, ho]; exact look_all ar bb ws k
  have hp : f.isPart = false := by rw [← hf]; exact firstT_part ar bb k
  rw [e]
  refine ⟨own_val own f, own_most own f, ?_, own_set own f⟩
  rw [own_part, hp, Bool.false_or]

end Mine
namespace Mine
/-! the law's own body, read off the fragment -/
noncomputable def lawFn (P : Params) : FuncData := match (hd.heap_1 P).lookup 184 with
  | some ⟨_, _, .func f, _⟩ => f
  | _ => default
noncomputable def lawBody (P : Params) : List Stmt := match (lawFn P).body with
  | .stmts b => b
  | _ => []
noncomputable def forBody (P : Params) (k : Nat) : List Stmt := match (lawBody P).drop k with
  | .For _ _ b _ _ :: _ => b
  | _ => []
noncomputable abbrev lawE (w : World) (L fa : Addr) (cd : Value) : Env := envOfC (Str.ofString "law") (lawFn w.params).scope L fa cd
noncomputable abbrev lawA (w : World) (L fa : Addr) (cd : Value) : Around := callerA.deeper (lawE w L fa cd)
abbrev Rest (w : World) (k : Nat) (L fa : Addr) (cd : Value) (Q : Flow → Shared → Prop) (E : Value → Shared → Prop) (s : Shared) : Prop :=
  wpAny (model PG w) (lawA w L fa cd) (execs ((lawBody w.params).drop k) (lawE w L fa cd)) Q E s
structure Base (w : World) (h₀ : Heap) : Prop where
  B : Below callerA h₀ [] h₀
  X : (hd.heap_1 w.params).In h₀
  T : ∃ loose mean mg mb, Top hd.view loose mean mg mb h₀
/-- the wishes in the ledger -/
structure WS (P : Params) (L l : Addr) (R : Led) (xs : List Value) (ws : List Wi) : Prop where
  c1 : ∃ o1, o1.data = .cell (some (.ref l)) ∧ (L + 1, o1) ∈ R
  lst : ∃ nl, (l, PySem.W.listOf xs.toArray nl) ∈ R
  w : WishL P R xs ws
  len : ws.length ≤ 6
  ok : ∀ wi ∈ ws, wi.ok ∧ wi.tag ∈ tagsL
theorem WS.mono {P : Params} {L l : Addr} {R R' : Led} {xs : List Value} {ws : List Wi} (h : WS P L l R xs ws) (s : Sup R R') : WS P L l R' xs ws := by
  obtain ⟨⟨o1, a, b⟩, ⟨nl, c⟩, d, e, f⟩ := h
  exact ⟨⟨o1, a, s.h _ b⟩, ⟨nl, s.h _ c⟩, d.mono s.h, e, f⟩
/-- the name's cell in the ledger -/
def NameC (L : Addr) (R : Led) : Prop := ∃ o2 b2, o2.data = .cell b2 ∧ (L + 1 + 1, o2) ∈ R
theorem NameC.mono {L : Addr} {R R' : Led} (h : NameC L R) (s : Sup R R') : NameC L R' := by
  obtain ⟨o2, b2, a, b⟩ := h
  exact ⟨o2, b2, a, s.h _ b⟩
/-- told rows in the ledger -/
structure HS (lH : Addr) (R : Led) (S T : List (Str × WantD)) : Prop where
  lst : ∃ vs n, (lH, PySem.W.listOf vs.toArray n) ∈ R ∧ AllR (RowAt R) vs S
  perm : S.Perm T
  sort : sortedS (S.map (·.1)) = true
theorem HS.mono {lH : Addr} {R R' : Led} {S T : List (Str × WantD)} (h : HS lH R S T) (s : Sup R R') : HS lH R' S T := by
  obtain ⟨⟨vs, n, a, b⟩, c, d⟩ := h
  exact ⟨⟨vs, n, s.h _ a, b.mono fun v a h => h.mono s.h⟩, c, d⟩
/-- the table of wants in the ledger -/
structure TS (w : World) (d : Addr) (R : Led) (T : List (Str × WantD)) : Prop where
  tab : ∃ cs, TabC w R d cs ∧ datOf cs = T
theorem TS.mono {w : World} {d : Addr} {R R' : Led} {T : List (Str × WantD)} (h : TS w d R T) (s : Sup R R') : TS w d R' T := by
  obtain ⟨cs, a, b⟩ := h
  exact ⟨cs, a.mono s.h, b⟩
theorem Sup.trans {R R' R'' : Led} (h : Sup R R') (h' : Sup R' R'') : Sup R R'' := ⟨fun p hp => h'.h p (h.h p hp)⟩
theorem Sup.right {R T : Led} : Sup R (T ++ R) := ⟨fun _ hp => List.mem_append_right _ hp⟩
theorem Sup.left {R T : Led} : Sup T (T ++ R) := ⟨fun _ hp => List.mem_append_left _ hp⟩
theorem Sup.cons {R : Led} {p : Addr × Obj} : Sup R (p :: R) := ⟨fun _ hp => List.mem_cons_of_mem _ hp⟩
theorem fr_over {h₀ h : Heap} {L : Addr} {m : Str → Option Value} {k : Str} {v : Option Value} (F : Fr h₀ L h m) (e : m k = v) : Fr h₀ L h (fun y => if y = k then v else m y) := by
  have e' : (fun y => if y = k then v else m y) = m := funext fun y => by
    by_cases hy : y = k
    · rw [if_pos hy, hy, e]
    · rw [if_neg hy]
  rw [e']; exact F
def overs : List (Str × Value) → (Str → Option Value) → Str → Option Value
  | [], m => m
  | (k, v) :: r, m => fun y => if y = k then some v else overs r m y
theorem overs_eq {m : Str → Option Value} : ∀ {kv : List (Str × Value)}, (∀ p ∈ kv, m p.1 = some p.2) → overs kv m = m
  | [], _ => rfl
  | (k, v) :: r, h => funext fun y => by
    show (if y = k then some v else overs r m y) = m y
    rw [overs_eq fun p hp => h p (List.mem_cons_of_mem _ hp)]
    by_cases hy : y = k
    · rw [if_pos hy, hy]; exact (h (k, v) List.mem_cons_self).symm
    · rw [if_neg hy]
theorem fr_overs {h₀ h : Heap} {L : Addr} {m : Str → Option Value} (kv : List (Str × Value)) (F : Fr h₀ L h m) (e : ∀ p ∈ kv, m p.1 = some p.2) : Fr h₀ L h (overs kv m) := by
  rw [overs_eq e]; exact F
theorem rows_mono {R R' : Led} {vs : List Value} {S : List (Str × WantD)} (h : AllR (RowAt R) vs S) (hs : ∀ p ∈ R, p ∈ R') : AllR (RowAt R') vs S := h.mono fun _ _ r => r.mono hs
theorem same_base {x : Str} {st : List Str} {m₀ u : Str → Option Value} {a : Option Value} : SameS x st m₀ (fun y => if y = x then a else if st.contains y then u y else m₀ y) := by
  intro y h1 h2
  show (if y = x then a else if st.contains y then u y else m₀ y) = m₀ y
  rw [if_neg h1, h2]; rfl
theorem same_if {x k : Str} {st : List Str} {m₀ m : Str → Option Value} {v : Option Value} (h : SameS x st m₀ m) (hk : st.contains k = true ∨ m₀ k = v) : SameS x st m₀ (fun y => if y = k then v else m y) := by
  intro y h1 h2
  show (if y = k then v else m y) = m₀ y
  by_cases e : y = k
  · rw [if_pos e]
    rcases hk with hk | hk
    · rw [e, hk] at h2; cases h2
    · rw [e, hk]
  · rw [if_neg e]; exact h y h1 h2
structure SwapE (p : Prop) (T S : List (Str × WantD)) : Prop where
  h : p → ∀ S' : List (Str × WantD), S'.Perm T → sortedS (S'.map (·.1)) = true → S' = S
theorem SwapE.use {p : Prop} {T S S' : List (Str × WantD)} (x : SwapE p T S) (hp : p) (a : S'.Perm T) (b : sortedS (S'.map (·.1)) = true) : S' = S := x.h hp S' a b
/-- what the law's end asks of a state -/
abbrev Ends (h₀ : Heap) (L : Addr) (s : Shared) (Q : Flow → Shared → Prop) : Prop :=
  ∀ s' m' R', s'.gens = s.gens → s'.os = s.os → Fr h₀ L s'.heap m' → News h₀ L s'.heap R' → Q (.ret (.bool true)) s'

end Mine
namespace Mine
section
variable {h₀ h : Heap} {L c : Addr} {R : Led} {o2 : Obj} {b2 : Option Value}
/-- what is no cell stands in the ledger without the cell -/
theorem but_in (N : News h₀ L h R) (hc : (c, o2) ∈ R) (hd : o2.data = .cell b2) {a : Addr} {ob : Obj} (ha : (a, ob) ∈ R) (hn : ∀ b, ob.data ≠ .cell b) : (a, ob) ∈ but R c :=
  mem_but.mpr ⟨ha, news_ne N ha hc (by rw [hd]; exact hn b2)⟩
theorem WishAt.but {P : Params} (N : News h₀ L h R) (hc : (c, o2) ∈ R) (hd : o2.data = .cell b2) {x : Value} {wi : Wi} (H : WishAt P R x wi) : WishAt P (but R c) x wi := by
  obtain ⟨a, dx, t1, t2, t3, t4, u1, u2, u3, u4, e, ha, hdx⟩ := H
  exact ⟨a, dx, t1, t2, t3, t4, u1, u2, u3, u4, e, but_in N hc hd ha (fun b q => by cases q), but_in N hc hd hdx (fun b q => by cases q)⟩
theorem WishL.but {P : Params} (N : News h₀ L h R) (hc : (c, o2) ∈ R) (hd : o2.data = .cell b2) {xs : List Value} {ws : List Wi} (H : WishL P R xs ws) : WishL P (Mine.but R c) xs ws := by
  induction H with
  | nil => exact .nil
  | cons hx _ ih => exact .cons (hx.but N hc hd) ih
theorem RowAt.but (N : News h₀ L h R) (hc : (c, o2) ∈ R) (hd : o2.data = .cell b2) {y : Value} {r : Str × WantD} (H : RowAt R y r) : RowAt (Mine.but R c) y r := by
  obtain ⟨a, t, u1, u2, n, e, ha⟩ := H
  exact ⟨a, t, u1, u2, n, e, but_in N hc hd ha (fun b q => by cases q)⟩
theorem WS.but {P : Params} {l : Addr} {xs : List Value} {ws : List Wi} (N : News h₀ L h R) (hc : (L + 1 + 1, o2) ∈ R) (hd : o2.data = .cell b2) (H : WS P L l R xs ws) : WS P L l (Mine.but R (L + 1 + 1)) xs ws := by
  obtain ⟨⟨o1, a, b⟩, ⟨nl, d⟩, e, f, g⟩ := H
  exact ⟨⟨o1, a, mem_but.mpr ⟨b, Nat.ne_of_lt (Nat.lt_succ_self _)⟩⟩, ⟨nl, but_in N hc hd d (fun b q => by cases q)⟩, e.but N hc hd, f, g⟩
theorem HS.but {lH : Addr} {S T : List (Str × WantD)} (N : News h₀ L h R) (hc : (c, o2) ∈ R) (hd : o2.data = .cell b2) (H : HS lH R S T) : HS lH (Mine.but R c) S T := by
  obtain ⟨⟨vs, n, a, b⟩, p, q⟩ := H
  exact ⟨⟨vs, n, but_in N hc hd a (fun b q => by cases q), b.mono fun _ _ r => r.but N hc hd⟩, p, q⟩
theorem dict_no_cell {w : World} {o : Obj} {kvs : List (Str × Value)} (h : o.IsDictOf (PySem.strKind PG w) kvs) : ∀ b, o.data ≠ .cell b := by
  obtain ⟨es, ep, hd, _⟩ := h
  intro b q
  first
  | (rw [hd] at q; cases q)
  | (simp_all)
theorem TabC.but {w : World} {d : Addr} {cs : List Cell} (N : News h₀ L h R) (hc : (c, o2) ∈ R) (hd : o2.data = .cell b2) (H : TabC w R d cs) : TabC w (Mine.but R c) d cs := by
  obtain ⟨o, hm, ho⟩ := H.od
  refine ⟨⟨o, but_in N hc hd hm (dict_no_cell ho), ho⟩, H.lo, fun ce hce => ?_, H.nd, H.ne, H.small⟩
  obtain ⟨a, o₁, b1, b3⟩ := H.cells ce hce
  refine ⟨but_in N hc hd a (fun b q => by cases q), o₁, b1, but_in N hc hd b3 ?_⟩
  obtain ⟨t1, t2, t3, t4, u1, u2, rfl⟩ := b1
  exact fun b q => by cases q
theorem TS.but {w : World} {d : Addr} {T : List (Str × WantD)} (N : News h₀ L h R) (hc : (c, o2) ∈ R) (hd : o2.data = .cell b2) (H : TS w d R T) : TS w d (Mine.but R c) T := by
  obtain ⟨cs, a, b⟩ := H.tab
  exact ⟨cs, a.but N hc hd, b⟩
end
/-- the locals that the later sections read -/
structure JF (d dF lH : Addr) (ar bb : Bool) (t : Tok) (m : Str → Option Value) : Prop where
  f : m (Str.ofString "first") = some (.ref dF)
  w : m (Str.ofString "wants") = some (.ref d)
  h : m (Str.ofString "held") = some (.ref lH)
  t : m (Str.ofString "tag") = some (.str (scr ar) t)
  b : m (Str.ofString "is_backward") = some (.bool bb)

end Mine
namespace Mine
/-! a loop whose target is a cell -/
def TurnC (h₀ : Heap) (L c : Addr) (J : (Str → Option Value) → Led → Prop) (I : Addr) (oI : Obj) (s₁ : Shared) (Q : Flow → Shared → Prop) (f : Flow) (s₂ : Shared) : Prop :=
  match f with
  | .ret v => Q (.ret v) s₂
  | .brk => Q .next s₂
  | _ => ∃ h' tk m' R' o' v', s₂ = { s₁ with heap := h', toks := tk } ∧ Fr h₀ L h' m' ∧ News h₀ L h' ((I, oI) :: (c, o') :: R') ∧ (∀ p ∈ R', p.1 ≠ I) ∧ (∀ p ∈ R', p.1 ≠ c) ∧ o'.data = .cell v' ∧ J m' R'
section
variable {prog : Program} {w : World} {A : Around} {E : Value → Shared → Prop} {s : Shared} {env : Env} {h₀ : Heap} {x : Str} {px : Pos} {body : List Stmt} {Q : Flow → Shared → Prop} {src c : Addr} {m₀ : Str → Option Value} {R₀ : Led} {o : Obj} {v0 : Option Value}
end
namespace for_listCK
abbrev Claim (prog : Program) (w : World) (A : Around) (E : Value → Shared → Prop) (s : Shared) (env : Env) (h₀ : Heap) (x : Str) (px : Pos) (body : List Stmt) (Q : Flow → Shared → Prop) (src : Addr) (c : Addr) (m₀ : Str → Option Value) (R₀ : Led) (o : Obj) (v0 : Option Value) (its : Array Value) (n : Nat) (J : (Str → Option Value) → Led → Prop) : Prop :=
  ∀ (hh : A.handled = none) (hk : env.scope.kind = .function) (hx : env.kindOf x = some .cell) (hc : env.cells.lookup x = some c) (F : Fr h₀ env.locals s.heap m₀) (N : News h₀ env.locals s.heap ((c, o) :: R₀)) (offc : ∀ q ∈ R₀, q.1 ≠ c) (hd : o.data = .cell v0) (hsrc : (src, PySem.W.listOf its n) ∈ R₀) (hj : J m₀ R₀) (hs : ∀ m R, J m R → (src, PySem.W.listOf its n) ∈ R) (turn : ∀ (I : Addr) (i : Nat) (v : Value) m₁ R₁ oI o' h tk, its[i]? = some v → (∀ q ∈ R₁, q.1 ≠ I) → I ≠ c → (∀ q ∈ R₁, q.1 ≠ c) → o'.data = .cell (some v) → J m₁ R₁ → Fr h₀ env.locals h m₁ → News h₀ env.locals h ((I, oI) :: (c, o') :: R₁) →
      wpAny (model prog w) A (execs body env) (TurnC h₀ env.locals c J I oI { s with heap := h, toks := tk } Q) E { s with heap := h, toks := tk }) (done : ∀ m₁ R₁ o' v' h tk, J m₁ R₁ → (∀ q ∈ R₁, q.1 ≠ c) → o'.data = .cell v' → Fr h₀ env.locals h m₁ → News h₀ env.locals h ((c, o') :: R₁) → Q .next { s with heap := h, toks := tk }) (hE : PassesOwn (model prog w) A env E), wpAny (model prog w) A (pyIter (.ref src)) (fun it s₂ => codeAny (model prog w) A (.forLoop (.Name x px) it body [] env) (fun r s' => match r with | .ok f => Q f s' | .error e => cameBackBy (model prog w) A env E e s') s₂) E s
abbrev ClaimT (p : (Program) × (World) × (Around) × (Value → Shared → Prop) × (Shared) × (Env) × (Heap) × (Str) × (Pos) × (List Stmt) × (Flow → Shared → Prop) × (Addr) × (Addr) × (Str → Option Value) × (Led) × (Obj) × (Option Value) × (Array Value) × (Nat) × ((Str → Option Value) → Led → Prop)) : Prop := Claim (p.1) (p.2.1) (p.2.2.1) (p.2.2.2.1) (p.2.2.2.2.1) (p.2.2.2.2.2.1) (p.2.2.2.2.2.2.1) (p.2.2.2.2.2.2.2.1) (p.2.2.2.2.2.2.2.2.1) (p.2.2.2.2.2.2.2.2.2.1) (p.2.2.2.2.2.2.2.2.2.2.1) (p.2.2.2.2.2.2.2.2.2.2.2.1) (p.2.2.2.2.2.2.2.2.2.2.2.2.1) (p.2.2.2.2.2.2.2.2.2.2.2.2.2.1) (p.2.2.2.2.2.2.2.2.2.2.2.2.2.2.1) (p.2.2.2.2.2.2.2.2.2.2.2.2.2.2.2.1) (p.2.2.2.2.2.2.2.2.2.2.2.2.2.2.2.2.1) (p.2.2.2.2.2.2.2.2.2.2.2.2.2.2.2.2.2.1) (p.2.2.2.2.2.2.2.2.2.2.2.2.2.2.2.2.2.2.1) (p.2.2.2.2.2.2.2.2.2.2.2.2.2.2.2.2.2.2.2)
theorem some_tup : Nonempty ((Program) × (World) × (Around) × (Value → Shared → Prop) × (Shared) × (Env) × (Heap) × (Str) × (Pos) × (List Stmt) × (Flow → Shared → Prop) × (Addr) × (Addr) × (Str → Option Value) × (Led) × (Obj) × (Option Value) × (Array Value) × (Nat) × ((Str → Option Value) → Led → Prop)) := some_pair inferInstance (some_pair some_world (some_pair some_around (some_pair inferInstance (some_pair some_shared (some_pair inferInstance (some_pair inferInstance (some_pair inferInstance (some_pair inferInstance (some_pair inferInstance (some_pair inferInstance (some_pair inferInstance (some_pair inferInstance (some_pair inferInstance (some_pair inferInstance (some_pair inferInstance (some_pair inferInstance (some_pair inferInstance (some_pair inferInstance (inferInstance)))))))))))))))))))
noncomputable def tup : (Program) × (World) × (Around) × (Value → Shared → Prop) × (Shared) × (Env) × (Heap) × (Str) × (Pos) × (List Stmt) × (Flow → Shared → Prop) × (Addr) × (Addr) × (Str → Option Value) × (Led) × (Obj) × (Option Value) × (Array Value) × (Nat) × ((Str → Option Value) → Led → Prop) := @Classical.epsilon _ some_tup fun p => ¬ ClaimT p
@[irreducible] noncomputable def prog : Program := tup.1
@[irreducible] noncomputable def w : World := tup.2.1
@[irreducible] noncomputable def A : Around := tup.2.2.1
@[irreducible] noncomputable def E : Value → Shared → Prop := tup.2.2.2.1
@[irreducible] noncomputable def s : Shared := tup.2.2.2.2.1
@[irreducible] noncomputable def env : Env := tup.2.2.2.2.2.1
@[irreducible] noncomputable def h₀ : Heap := tup.2.2.2.2.2.2.1
@[irreducible] noncomputable def x : Str := tup.2.2.2.2.2.2.2.1
@[irreducible] noncomputable def px : Pos := tup.2.2.2.2.2.2.2.2.1
@[irreducible] noncomputable def body : List Stmt := tup.2.2.2.2.2.2.2.2.2.1
@[irreducible] noncomputable def Q : Flow → Shared → Prop := tup.2.2.2.2.2.2.2.2.2.2.1
@[irreducible] noncomputable def src : Addr := tup.2.2.2.2.2.2.2.2.2.2.2.1
@[irreducible] noncomputable def c : Addr := tup.2.2.2.2.2.2.2.2.2.2.2.2.1
@[irreducible] noncomputable def m₀ : Str → Option Value := tup.2.2.2.2.2.2.2.2.2.2.2.2.2.1
@[irreducible] noncomputable def R₀ : Led := tup.2.2.2.2.2.2.2.2.2.2.2.2.2.2.1
@[irreducible] noncomputable def o : Obj := tup.2.2.2.2.2.2.2.2.2.2.2.2.2.2.2.1
@[irreducible] noncomputable def v0 : Option Value := tup.2.2.2.2.2.2.2.2.2.2.2.2.2.2.2.2.1
@[irreducible] noncomputable def its : Array Value := tup.2.2.2.2.2.2.2.2.2.2.2.2.2.2.2.2.2.1
@[irreducible] noncomputable def n : Nat := tup.2.2.2.2.2.2.2.2.2.2.2.2.2.2.2.2.2.2.1
@[irreducible] noncomputable def J : (Str → Option Value) → Led → Prop := tup.2.2.2.2.2.2.2.2.2.2.2.2.2.2.2.2.2.2.2
theorem core : Claim prog w A E s env h₀ x px body Q src c m₀ R₀ o v0 its n J := by
  intro hh hk hx hc F N offc hd hsrc hj hs turn done hE
  have ho := (N _ (List.mem_cons_of_mem _ hsrc)).1
  have ht : s.heap.IsList src its := ⟨_, ho, rfl, n, rfl⟩
  have hne : src ≠ s.heap.objs.size := Nat.ne_of_lt (Heap.lt_size ho)
  have hnc : c ≠ s.heap.objs.size := Nat.ne_of_lt (Heap.lt_size (N _ List.mem_cons_self).1)
  have hsc : src ≠ c := offc _ hsrc
  have W := Walks.list (prog := prog) (w := w) hh s.heap.objs.size src hne its
  refine wpAny_pyIter_list ht ?_
  have N1 := N.push F { cls := .type "list_iterator", data := .fields #[.ref src, .int 0 0] }
  have F1 := F.push { cls := .type "list_iterator", data := .fields #[.ref src, .int 0 0] }
  have nI := N1 _ List.mem_cons_self
  have offI : ∀ q ∈ R₀, q.1 ≠ s.heap.objs.size := fun q hq => Nat.ne_of_lt (Heap.lt_size (N q (List.mem_cons_of_mem _ hq)).1)
  have hst : (s.heap.push { cls := .type "list_iterator", data := .fields #[.ref src, .int 0 0] }).IsListIter s.heap.objs.size src 0 ∧ (s.heap.push { cls := .type "list_iterator", data := .fields #[.ref src, .int 0 0] }).IsList src its :=
    ⟨⟨_, Heap.get?_push_size _ rfl, rfl, rfl⟩, ht.at fun o e => Heap.get?_push_of_some _ e⟩
  generalize hI : s.heap.objs.size = I at *
  generalize s.heap.push { cls := .type "list_iterator", data := .fields #[.ref src, .int 0 0] } = hp at *
  have hLI : env.locals ≠ I := fun e => nI.2.1 e.symm
  refine codeAny_forLoop
    (fun k s' => ∃ h' tk m' R' o' v' i, s' = { s with heap := h', toks := tk } ∧ (h'.IsListIter I src i ∧ h'.IsList src its) ∧ Fr h₀ env.locals h' m' ∧ News h₀ env.locals h' ((c, o') :: R') ∧ (∀ q ∈ R', q.1 ≠ I) ∧ (∀ q ∈ R', q.1 ≠ c) ∧ o'.data = .cell v' ∧ J m' R' ∧ i ≤ its.size ∧ k = its.size + 1 - i) ?_ (its.size + 1)
    ⟨hp, s.toks, m₀, R₀, o, v0, 0, rfl, hst, F1, news_sub N1 fun q hq => List.mem_cons_of_mem _ hq, offI, offc, hd, hj, Nat.zero_le _, rfl⟩
  rintro k s' ⟨h', tk, m', R', o', v', i, rfl, hst', F', N', oI', oc', hd', hJ, hi, rfl⟩
  have next : ∀ h₁ : Heap, (∀ b o, b ∉ [I] → h'.get? b = some o → h₁.get? b = some o) → Fr h₀ env.locals h₁ m' ∧ News h₀ env.locals h₁ ((c, o') :: R') := fun h₁ hk₁ =>
    ⟨⟨F'.ns.at' fun o e => hk₁ _ o (fun q => hLI (List.mem_singleton.mp q)) e, fun b o e => hk₁ b o (fun q => by rw [List.mem_singleton.mp q, nI.2.2] at e; cases e) (F'.keep b o e), F'.above⟩, fun p hp => ⟨hk₁ _ _ (fun q => by
      rcases List.mem_cons.mp hp with rfl | hp
      · exact hnc (List.mem_singleton.mp q)
      · exact oI' p hp (List.mem_singleton.mp q)) (N' p hp).1, (N' p hp).2⟩⟩
  by_cases hlt : i < its.size
  · refine W.item i _ _ _ hlt hst' fun v h₁ tk₁ hP hst₁ hk₁ => ?_
    obtain ⟨F₁, N₁⟩ := next h₁ hk₁
    have nc := N₁ _ List.mem_cons_self
    refine wpAny_assign_Name (wpAny_storeName_cell hk hx hc ⟨o', nc.1, hd'⟩ fun h₂ hv₂ hs₂ => ?_)
    obtain ⟨o₂, ho₂, hd₂⟩ := hv₂
    have F₂ : Fr h₀ env.locals h₂ m' := ⟨F₁.ns.sameBut hs₂ (Ne.symm nc.2.1), fun b ob e => (hs₂.2 b (fun q => by rw [q, nc.2.2] at e; cases e)).trans (F₁.keep b ob e), F₁.above⟩
    have N₂ : News h₀ env.locals h₂ ((c, o₂) :: R') := news_set (pre := []) N₁ (fun _ h => nomatch h) oc' hs₂ ho₂
    obtain ⟨oI, hoI, _⟩ := hst₁.1
    have hoI₂ : h₂.get? I = some oI := (hs₂.2 I (fun q => hnc q.symm)).trans hoI
    have N₃ : News h₀ env.locals h₂ ((I, oI) :: (c, o₂) :: R') := fun p hp => by
      rcases List.mem_cons.mp hp with rfl | hp
      · exact ⟨hoI₂, nI.2⟩
      · exact N₂ p hp
    refine wpAny_mono (wpAny_passesOwn hE (turn I i v m' R' oI o₂ h₂ _ hP oI' (Ne.symm hnc) oc' hd₂ hJ F₂ N₃)) (fun f s₃ h₃ => ?_) fun _ _ e => e
    have fin : (∃ h' tk m' R' o' v', s₃ = { s with heap := h', toks := tk } ∧ Fr h₀ env.locals h' m' ∧ News h₀ env.locals h' ((I, oI) :: (c, o') :: R') ∧ (∀ p ∈ R', p.1 ≠ I) ∧ (∀ p ∈ R', p.1 ≠ c) ∧ o'.data = .cell v' ∧ J m' R') →
        ∃ m, m < its.size + 1 - i ∧ ∃ h' tk m' R' o' v' i, s₃ = { s with heap := h', toks := tk } ∧ (h'.IsListIter I src i ∧ h'.IsList src its) ∧ Fr h₀ env.locals h' m' ∧ News h₀ env.locals h' ((c, o') :: R') ∧ (∀ q ∈ R', q.1 ≠ I) ∧ (∀ q ∈ R', q.1 ≠ c) ∧ o'.data = .cell v' ∧ J m' R' ∧ i ≤ its.size ∧ m = its.size + 1 - i := by
      rintro ⟨h3, tk3, m3, R3, o3, v3, e, F3, N3, a1, a2, a3, a4⟩
      refine ⟨its.size + 1 - (i + 1), by omega, h3, tk3, m3, R3, o3, v3, i + 1, e, ⟨hst₁.1.at fun ob e' => ?_, ⟨_, (N3 _ (List.mem_cons_of_mem _ (List.mem_cons_of_mem _ (hs _ _ a4)))).1, rfl, n, rfl⟩⟩, F3, news_sub N3 fun q hq => List.mem_cons_of_mem _ hq, a1, a2, a3, a4, hlt, rfl⟩
      have e2 : ob = oI := Option.some.inj (e'.symm.trans hoI)
      rw [e2]; exact (N3 _ List.mem_cons_self).1
    cases f with
    | ret v => exact h₃
    | brk => exact h₃
    | cont => exact fin h₃
    | next => exact fin h₃
  · have hin : i = its.size := by omega
    subst hin
    refine W.done _ _ _ hst' fun h₁ tk₁ hk₁ => wpAny_execs_nil ?_
    obtain ⟨F₁, N₁⟩ := next h₁ hk₁
    exact done m' R' o' v' h₁ tk₁ hJ oc' hd' F₁ N₁
end for_listCK
theorem for_listC {prog : Program} {w : World} {A : Around} {E : Value → Shared → Prop} {s : Shared} {env : Env} {h₀ : Heap} {x : Str} {px : Pos} {body : List Stmt} {Q : Flow → Shared → Prop} {src c : Addr} {m₀ : Str → Option Value} {R₀ : Led} {o : Obj} {v0 : Option Value} {its : Array Value} {n : Nat} (J : (Str → Option Value) → Led → Prop) (hh : A.handled = none) (hk : env.scope.kind = .function) (hx : env.kindOf x = some .cell) (hc : env.cells.lookup x = some c) (F : Fr h₀ env.locals s.heap m₀) (N : News h₀ env.locals s.heap ((c, o) :: R₀)) (offc : ∀ q ∈ R₀, q.1 ≠ c) (hd : o.data = .cell v0) (hsrc : (src, PySem.W.listOf its n) ∈ R₀) (hj : J m₀ R₀) (hs : ∀ m R, J m R → (src, PySem.W.listOf its n) ∈ R) (turn : ∀ (I : Addr) (i : Nat) (v : Value) m₁ R₁ oI o' h tk, its[i]? = some v → (∀ q ∈ R₁, q.1 ≠ I) → I ≠ c → (∀ q ∈ R₁, q.1 ≠ c) → o'.data = .cell (some v) → J m₁ R₁ → Fr h₀ env.locals h m₁ → News h₀ env.locals h ((I, oI) :: (c, o') :: R₁) →
      wpAny (model prog w) A (execs body env) (TurnC h₀ env.locals c J I oI { s with heap := h, toks := tk } Q) E { s with heap := h, toks := tk }) (done : ∀ m₁ R₁ o' v' h tk, J m₁ R₁ → (∀ q ∈ R₁, q.1 ≠ c) → o'.data = .cell v' → Fr h₀ env.locals h m₁ → News h₀ env.locals h ((c, o') :: R₁) → Q .next { s with heap := h, toks := tk }) (hE : PassesOwn (model prog w) A env E) : wpAny (model prog w) A (pyIter (.ref src)) (fun it s₂ => codeAny (model prog w) A (.forLoop (.Name x px) it body [] env) (fun r s' => match r with | .ok f => Q f s' | .error e => cameBackBy (model prog w) A env E e s') s₂) E s :=
  skol (P := for_listCK.ClaimT) (c := for_listCK.tup) rfl (by with_unfolding_all exact for_listCK.core) (prog, w, A, E, s, env, h₀, x, px, body, Q, src, c, m₀, R₀, o, v0, its, n, J) hh hk hx hc F N offc hd hsrc hj hs turn done hE
section
variable {prog : Program} {w : World} {A : Around} {E : Value → Shared → Prop} {s : Shared} {env : Env} {h₀ : Heap} {x : Str} {px : Pos} {body : List Stmt} {Q : Flow → Shared → Prop} {src c : Addr} {m₀ : Str → Option Value} {R₀ : Led} {o : Obj} {v0 : Option Value}
end

end Mine
namespace Mine
theorem CompEnd_mono {h₀ : Heap} {L I C D : Addr} {m : Str → Option Value} {s₁ s₂ : Shared} {oI oC oD : Obj} {S : Led → Prop} {rest rest' : Value → Led → Prop} {y : Value}
    (h : LCg.CompEnd h₀ L m s₁ I oI C oC D oD S rest y s₂) (hr : ∀ n, rest y n → rest' y n) : LCg.CompEnd h₀ L m s₁ I oI C oC D oD S rest' y s₂ := by
  obtain ⟨h', tk', news', e, F', N', off', hS, r⟩ := h
  exact ⟨h', tk', news', e, F', N', off', hS, hr _ r⟩
section
variable {prog : Program} {w : World} {A : Around} {s : Shared} {h₀ : Heap} {L : Addr} {m : Str → Option Value} {env : Env} {ct elt : PySem.Expr} {x : Str} {scope : Scope} {cl : List (Str × Addr)} {S : Led → Prop} {P : Nat → Value → Prop} {Fin : List Value → Led → Prop} {n : Nat}
/-- the turns of a comprehension with a test -/
theorem compT (J : Nat → List Value → Led → Prop)
    (turn : ∀ (i : Nat) (v : Value) I oI C oC D m₂ (ys : List Value) h tk news (E' : Value → Shared → Prop), i < n → P i v → J i ys news → LCg.NsObj oC m₂ → m₂ x = some v → Fr h₀ L h m → News h₀ L h ((I, oI) :: (C, oC) :: (D, LCg.lst ys) :: news) → LCg.Off3 I C D news → ((@Ne Nat I C) ∧ (@Ne Nat I D) ∧ (@Ne Nat C D)) →
      wpAny (model prog w) A (isTrue ct (compEnvC scope cl C env) (eval ct (compEnvC scope cl C env))) (fun ok s' => if ok = true then
        wpAny (model prog w) A (eval elt (compEnvC scope cl C env)) (LCg.CompEnd h₀ L m { s with heap := h, toks := tk } I oI C oC D (LCg.lst ys) S (fun y news' => J (i + 1) (ys ++ [y]) news')) E' s'
        else LCg.CompEnd h₀ L m { s with heap := h, toks := tk } I oI C oC D (LCg.lst ys) S (fun _ news' => J (i + 1) ys news') Value.none s') E' { s with heap := h, toks := tk })
    (fin : ∀ ys news', J n ys news' → Fin ys news') :
    ∀ (j i : Nat) (ys : List Value) (news : Led), i + j = n → J i ys news → LCt.CompRestT prog w A h₀ L m env ct elt x scope cl s S P Fin j i ys news := by
  intro j
  induction j with
  | zero =>
    intro i ys news hi hJ
    have e : i = n := by omega
    subst e
    exact LCt.CompRestT.zero (fin ys news hJ)
  | succ j ih =>
    intro i ys news hi hJ
    refine LCt.CompRestT.succ ?_
    intro v I oI C oC D m₂ h tk E' hv hC hx F N off ne
    refine wpAny_mono (turn i v I oI C oC D m₂ ys h tk news E' (by omega) hv hJ hC hx F N off ne) (fun ok s₂ hq => ?_) fun _ _ e => e
    cases ok with
    | true =>
      simp only [if_true] at hq ⊢
      exact wpAny_mono hq (fun y s₃ h3 => CompEnd_mono h3 fun n' r => ih (i + 1) _ n' (by omega) r) fun _ _ e => e
    | false =>
      simp only [if_false, Bool.false_eq_true] at hq ⊢
      exact CompEnd_mono hq fun n' r => ih (i + 1) _ n' (by omega) r
end
section
variable {prog : Program} {w : World} {A : Around} {E : Value → Shared → Prop} {s : Shared} {h₀ : Heap} {L d : Addr} {news : Led} {o : Obj} {kvs : List (Str × Value)} {k : Str} {t : Tok} {v : Value} {Q : Value → Shared → Prop}
theorem in_there (N : News h₀ L s.heap news) (hp : (d, o) ∈ news) (hd : o.IsDictOf (PySem.strKind prog w) kvs) (lo : (d == sysModules) = false) (hl : valueAt kvs k = some v) (h : Q (.bool true) { s with toks := s.toks + 1 }) :
    wpAny (model prog w) A (compareOp .In (.str k t) (.ref d)) Q E s := wpAny_in_of (strKind_is _ _ _ _) lo (kda_dict N hp hd).mapOf (by rw [hl]; exact h)
theorem in_new (N : News h₀ L s.heap news) (hp : (d, o) ∈ news) (hd : o.IsDictOf (PySem.strKind prog w) kvs) (lo : (d == sysModules) = false) (hl : valueAt kvs k = none) (h : Q (.bool false) { s with toks := s.toks + 1 }) :
    wpAny (model prog w) A (compareOp .In (.str k t) (.ref d)) Q E s := wpAny_in_of (strKind_is _ _ _ _) lo (kda_dict N hp hd).mapOf (by rw [hl]; exact h)
end
theorem WishL.filter {P : Params} {R : Led} {f : Wi → Bool} {xs : List Value} {ws : List Wi} (h : WishL P R xs ws) : WishL P R (((xs.zip ws).filter fun p => f p.2).map (·.1)) (ws.filter f) := by
  induction h with
  | nil => exact .nil
  | @cons x xs wi ws hx _ ih =>
    rw [List.zip_cons_cons, List.filter_cons, List.filter_cons]
    by_cases hf : f wi = true
    · simp only [hf, if_true, List.map_cons]; exact .cons hx ih
    · simp only [hf, if_false, Bool.false_eq_true]; exact ih
theorem ints_snoc {vs : List Value} {ns : List Int} {k : Int} {t : Tok} (h : IntsAre vs ns) : IntsAre (vs ++ [.int k t]) (ns ++ [k]) := by
  induction h with
  | nil => exact .cons _ _ .nil
  | cons n t _ ih => exact .cons n t ih

end Mine
namespace Mine
theorem sup_in {h₀ h : Heap} {L : Addr} {R R' : Led} (_ : News h₀ L h R') (hs : ∀ p ∈ R, p ∈ R') : Sup R R' := ⟨hs⟩

end Mine
namespace Mine
local macro_rules | `(tactic| k_mem) => `(tactic| (refine Sup.mem (by assumption) ?_; k_mem))
local macro_rules | `(tactic| k_mem) => `(tactic| (refine List.mem_append_right _ ?_; k_mem))
local macro_rules | `(tactic| k_mem) => `(tactic| (refine List.mem_append_left _ ?_; k_mem))
local macro_rules | `(tactic| k_all) => `(tactic| assumption)
local macro_rules | `(tactic| k_mem) => `(tactic| assumption)
local macro_rules | `(tactic| walk_at "call ref") => `(tactic| (k_here; (with_reducible show wpAny _ _ (call (Value.ref 154) _) _ _ _); k_dflt (refine' Spec.use ?S ?k1 ?k2 ?k3 ?k4 ?k5 ?kK ?kd ?ku ?_; (case k1 => k_asm); (case k2 => k_asm); (case k3 => k_asm); (case k4 => k_asm); (case k5 => k_asm); (case kK => exact rfl); (case S => refine' all_ok (by k_mem) (by exact WishL.mono (by assumption) (fun p hp => by k_mem)) (by assumption) (by assumption)); (case kd => ktr_room); (case ku => ktr_units); k_whole); intro r9 h9 tk9 n9 F9 N9 P9; obtain ⟨dA, TA, cA, e91, e92, tcA, otA, dtA⟩ := P9; subst e91; subst e92; (try dsimp only)))
local macro_rules | `(tactic| walk_at "call ref") => `(tactic| (k_here; (with_reducible show wpAny _ _ (call (Value.ref 172) _) _ _ _); k_dflt (refine' Spec.use ?S ?k1 ?k2 ?k3 ?k4 ?k5 ?kK ?kd ?ku ?_; (case k1 => k_asm); (case k2 => k_asm); (case k3 => k_asm); (case k4 => k_asm); (case k5 => k_asm); (case kK => exact rfl); (case S => refine' told_use (by exact TabC.mono (by assumption) (fun p hp => by k_mem)) (by assumption) (by exact Nat.lt_of_le_of_lt (allT_len _ _ _) (by omega))); (case kd => ktr_room); (case ku => ktr_units); k_whole); intro r9 h9 tk9 n9 F9 N9 P9; obtain ⟨supT, lT, vT, nT, ST, e9, mT, rowsT, permT, sortT⟩ := P9; subst e9; (try dsimp only)))
local macro_rules | `(tactic| walk_at "pyIter ref") => `(tactic| refine Stop.on ?_)
local macro_rules | `(tactic| walk_at "exec For") => `(tactic| (k_here; k_dflt (refine wpAny_For ?_)))
local macro_rules | `(tactic| walk_at "exec For Name Call cons nil") => `(tactic| (k_here; k_dflt (refine wpAny_For ?_)))
local macro_rules | `(tactic| walk_at "call type:range") => `(tactic| (k_here; (with_reducible show wpAny _ _ (call (Value.type "range") [Value.int _ _]) _ _ _); k_dflt (refine' range_led (by k_asm) (by k_asm) ?_; k_whole); intro D9 h9 tk9 t91 t92 t93 F9 N9 l9; (try k_lt l9); (try k_sweep)))
local macro_rules | `(tactic| walk_at "call builtin:len") => `(tactic| (k_here; (with_reducible show wpAny _ _ (call (Value.builtin _) [Value.ref _]) _ _ _); k_dflt (refine' len_list (by k_asm) (by k_mem) (by assumption) ?_; k_whole)))
local macro_rules | `(tactic| walk_at "subscriptTail") => `(tactic| (k_here; (with_reducible show wpAny _ _ (subscriptTail _ _ (Value.ref _) (Value.int _ _)) _ _ _); k_dflt (refine' at_list (by k_asm) (by k_mem) (by assumption) (by assumption) ?_ (by with_unfolding_all rfl); k_whole)))

local macro_rules | `(tactic| walk_at "exec For Name Call cons cons") => `(tactic| (k_here; refine wpAny_For ?_))
local macro_rules | `(tactic| walk_at "exec For Name Call") => `(tactic| (k_here; refine wpAny_For ?_))
local macro_rules | `(tactic| walk_at "call ref") => `(tactic| (k_here; (with_reducible show wpAny _ _ (call (Value.ref 147) _) _ _ _); k_dflt (refine' Spec.use (first_ok _ _) (by k_asm) (by k_asm) (by k_asm) (by k_asm) (by k_asm) (by exact rfl) (by ktr_room) (by ktr_units) ?_; k_whole); intro r9 h9 tk9 n9 F9 N9 P9; obtain ⟨dF, TF, cF, e91, e92, tcF, otF, dtF⟩ := P9; subst e91; subst e92; (try dsimp only)))
local macro_rules | `(tactic| walk_at "call builtin:sorted") => `(tactic| (k_here; (with_reducible show wpAny _ _ (call (Value.builtin "sorted") [Value.ref _]) _ _ _); k_dflt (refine' sorted_dict (by rfl) (by k_asm) (by k_asm) (by k_mem) (by k_asm) (by k_asm) (by k_asm) ?_; k_whole); intro D9 h9 tk9 vs9 ss9 e9 F9 N9 l9 S9 P9 O9))

local macro_rules | `(tactic| walk_at "eval ListComp") => `(tactic| refine Stop.on ?_)
local macro_rules | `(tactic| walk_at "exec Assign cons ListComp") => `(tactic| refine Stop.on ?_)
local macro_rules | `(tactic| walk_at "compareOp In str ref") => `(tactic| (k_here; (with_reducible show wpAny _ _ (compareOp CmpOp.In (Value.str _ _) (Value.ref _)) _ _ _); k_dflt (first
  | (refine' in_new (by k_asm) (by k_mem) (by k_asm) (by k_asm) (by k_asm) ?_; k_whole)
  | (refine' in_there (by k_asm) (by k_mem) (by k_asm) (by k_asm) (by k_asm) ?_; k_whole))))
local macro_rules | `(tactic| walk_at "subscriptTail") => `(tactic| (k_here; (with_reducible show wpAny _ _ (subscriptTail _ _ (Value.ref _) (Value.str _ _)) _ _ _); k_dflt (refine' item_there (by k_asm) (by k_mem) (by k_asm) (by k_asm) ?_ (by with_unfolding_all rfl) (by intro _; with_unfolding_all rfl); k_whole)))
theorem ints_get {vs : List Value} {ns : List Int} (h : IntsAre vs ns) : ∀ {i : Nat} {k : Int}, ns[i]? = some k → ∃ t, vs[i]? = some (.int k t) := by
  induction h with
  | nil => intro i k e; simp at e
  | cons n t _ ih =>
    intro i k e
    cases i with
    | zero => exact ⟨t, by rw [← Option.some.inj (by simpa using e : some n = some k)]; rfl⟩
    | succ i => exact ih (by simpa using e)
theorem at_last {prog : Program} {w : World} {A : Around} {E : Value → Shared → Prop} {s : Shared} {h₀ : Heap} {L D : Addr} {R : Led} {value slice : PySem.Expr} {vs : List Value} {ns : List Int} {n : Nat} {j : Int} {u : Tok} {Q : Value → Shared → Prop}
    (N : News h₀ L s.heap R) (hm : (D, PySem.W.listOf vs.toArray n) ∈ R) (hi : IntsAre vs ns) (hj : j = -1) (hne : ns ≠ []) (hs : vs.length ≤ 1000) (h : ∀ t, Q (.int (lastD ns 0) t) s)
    (hsub : subscripted slice false (.ref D) (.int j u) = operate [.ref D, .int j u] (getItem (.ref D) (.int j u)) := by with_unfolding_all rfl) :
    wpAny (model prog w) A (subscriptTail value slice (.ref D) (.int j u)) Q E s := by
  subst hj
  have hl : s.heap.IsList D vs.toArray := News.isList N hm
  have e0 := hi.length
  have e1 : 0 < ns.length := List.length_pos_iff.mpr hne
  have e2 : ns[ns.length - 1]? = some (lastD ns 0) := by
    rw [← List.getLast?_eq_getElem?]
    unfold lastD
    rw [List.getLast?_eq_some_getLast hne]; rfl
  obtain ⟨t, ht⟩ := ints_get hi e2
  refine tail_any hl.typeIs slot_list_getitem.lookup (wpAny_getItem_list_neg hl (by decide) (by rw [List.size_toArray]; omega) (by decide) (x := .int (lastD ns 0) t) ?_ (h t)) hsub
  rw [List.size_toArray, show ((-1 : Int) + (vs.length : Nat)).toNat = ns.length - 1 by omega]
  simpa using ht
local macro_rules | `(tactic| walk_at "subscriptTail") => `(tactic| (k_here; (with_reducible show wpAny _ _ (subscriptTail _ _ (Value.ref _) (Value.int _ _)) _ _ _); k_dflt (refine' at_last (by k_asm) (by k_mem) (by first | assumption | exact ints_snoc (by assumption)) (by rfl) (by first | assumption | simp_all | simp) (by first | omega | (simp only [List.length_append, List.length_cons, List.length_nil]; omega)) ?_ (by with_unfolding_all rfl); k_whole); intro tL; (try simp only [lastD_snoc])))
local macro_rules | `(tactic| walk_at "binaryOp Add ref ref") => `(tactic| (k_here; (with_reducible show wpAny _ _ (binaryOp _ (Value.ref _) (Value.ref _)) _ _ _); k_dflt (refine' cat_lists (by k_asm) (by k_asm) (by k_mem) (by k_mem) (by first | omega | (simp only [List.length_append, List.length_cons, List.length_nil]; omega)) (by first | omega | (simp only [List.length_append, List.length_cons, List.length_nil]; omega)) ?_); intro D' h' F' N' l1; (try k_lt l1); (try k_sweep)))
local macro_rules | `(tactic| walk_at "compareOp Eq ref ref") => `(tactic| (k_here; (with_reducible show wpAny _ _ (compareOp CmpOp.Eq (Value.ref _) (Value.ref _)) _ _ _); k_dflt (refine' eq_intsK (ms := []) ?k1 ?k2 ?k3 ?k4 ?k5 ?_; (case k1 => exact News.isList (by k_asm) (by k_mem)); (case k2 => assumption); (case k4 => exact IntsAre.nil); (case k3 => exact News.isList (by k_asm) (by k_mem)); (case k5 => units_room); k_whole)))
theorem max_is {prog : Program} {w : World} {A : Around} {E : Value → Shared → Prop} {s : Shared} {h₀ : Heap} {L l : Addr} {m : Str → Option Value} {news : Led} {vs : List Value} {ns : List Int} {M0 : Int} {Q : Value → Shared → Prop}
    (F : Fr h₀ L s.heap m) (N : News h₀ L s.heap news) (hl : s.heap.IsList l vs.toArray) (hi : IntsAre vs ns) (hM : M0 ∈ ns ∧ ∀ a ∈ ns, a ≤ M0) (hh : A.handled = none)
    (h : ∀ h' (t : Tok) tk, Fr h₀ L h' m → News h₀ L h' news → Q (.int M0 t) { s with heap := h', toks := tk }) : wpAny (model prog w) A (call (.builtin "max") [.ref l]) Q E s := by
  refine kso_max F N hl hi (List.length_pos_of_mem hM.1) hh fun h' M t tk F' N' a b => ?_
  rw [most_one a b hM.1 hM.2]
  exact h h' t tk F' N'
local macro_rules | `(tactic| walk_at "call builtin:max") => `(tactic| (k_here; (with_reducible show wpAny _ _ (call (Value.builtin "max") [Value.ref _]) _ _ _); k_dflt (refine' max_is (by k_asm) (by k_asm) (by exact News.isList (by k_asm) (by k_mem)) (by exact IntsAre.cons _ _ (by assumption)) (by assumption) (by with_unfolding_all rfl) ?_; k_whole); intro h' t' tk' F' N'))
theorem ints_of_turns {own : List Wi} {vs : List Value} (hl : vs.length = own.length) (h : ∀ (i : Nat) y, vs[i]? = some y → ∃ wi tok, own[i]? = some wi ∧ y = .int wi.val tok) : IntsAre vs (own.map (·.val)) := by
  induction vs generalizing own with
  | nil => cases own with
    | nil => exact .nil
    | cons _ _ => simp at hl
  | cons v r ih => cases own with
    | nil => simp at hl
    | cons a o =>
      obtain ⟨wi, tok, e1, rfl⟩ := h 0 v rfl
      have e : a = wi := Option.some.inj (by simpa using e1)
      subst e
      exact .cons _ _ (ih (by simpa using hl) fun i y hy => by simpa using h (i + 1) y (by simpa using hy))
theorem bne_absurd {a b : Bool} (h : a = b) (h' : (a != b) = true) : False := by subst h; simp at h'
local macro_rules | `(tactic| walk_at "execs cons") => `(tactic| (k_here; (with_reducible rename Go 2 => hGo9); refine Stop.on ?_))
namespace name_r4K
abbrev Claim (w : World) (h₀ : Heap) (L : Addr) (fa : Addr) (d : Addr) (dF : Addr) (lH : Addr) (cd : Value) (s : Shared) (ar : Bool) (bb : Bool) (t : Tok) (tk : Tok) (k : Str) (m : Str → Option Value) (ws : List Wi) (own : List Wi) (R : Led) (o' : Obj) (D1 : Addr) (D2 : Addr) (ys : List Value) (zs : List Value) (n1 : Nat) (n2 : Nat) (Q : Flow → Shared → Prop) (E : Value → Shared → Prop) : Prop :=
  ∀ (G : Base w h₀) (TW : TS w d R (allT ar bb ws)) (FW : TS w dF R (firstT ar bb)) (hk : k ∈ (allT ar bb ws).map (·.1)) (M : JF d dF lH ar bb t m) (ho : own = ws.filter fun wi => wi.tag == k) (hy : WishL w.params R ys own) (leno : own.length ≤ 6) (hz : IntsAre zs (wv own)) (mc : (L + 1 + 1, o') ∈ R) (hd : o'.data = .cell (some (.str k tk))) (my : (D1, PySem.W.listOf ys.toArray n1) ∈ R) (mz : (D2, PySem.W.listOf zs.toArray n2) ∈ R) (m1 : m (Str.ofString "own") = some (.ref D1)) (m2 : m (Str.ofString "wholes") = some (.ref D2)) (F : Fr h₀ L s.heap m) (N : News h₀ L s.heap R) (hQ : ∀ h' tk' m' R', Fr h₀ L h' m' → News h₀ L h' R' → Sup R R' → JF d dF lH ar bb t m' → Q .next { s with heap := h', toks := tk' }), wpAny (model PG w) (lawA w L fa cd) (execs ((forBody w.params 8).drop 4) (lawE w L fa cd)) Q E s
abbrev ClaimT (p : (World) × (Heap) × (Addr) × (Addr) × (Addr) × (Addr) × (Addr) × (Value) × (Shared) × (Bool) × (Bool) × (Tok) × (Tok) × (Str) × (Str → Option Value) × (List Wi) × (List Wi) × (Led) × (Obj) × (Addr) × (Addr) × (List Value) × (List Value) × (Nat) × (Nat) × (Flow → Shared → Prop) × (Value → Shared → Prop)) : Prop := Claim (p.1) (p.2.1) (p.2.2.1) (p.2.2.2.1) (p.2.2.2.2.1) (p.2.2.2.2.2.1) (p.2.2.2.2.2.2.1) (p.2.2.2.2.2.2.2.1) (p.2.2.2.2.2.2.2.2.1) (p.2.2.2.2.2.2.2.2.2.1) (p.2.2.2.2.2.2.2.2.2.2.1) (p.2.2.2.2.2.2.2.2.2.2.2.1) (p.2.2.2.2.2.2.2.2.2.2.2.2.1) (p.2.2.2.2.2.2.2.2.2.2.2.2.2.1) (p.2.2.2.2.2.2.2.2.2.2.2.2.2.2.1) (p.2.2.2.2.2.2.2.2.2.2.2.2.2.2.2.1) (p.2.2.2.2.2.2.2.2.2.2.2.2.2.2.2.2.1) (p.2.2.2.2.2.2.2.2.2.2.2.2.2.2.2.2.2.1) (p.2.2.2.2.2.2.2.2.2.2.2.2.2.2.2.2.2.2.1) (p.2.2.2.2.2.2.2.2.2.2.2.2.2.2.2.2.2.2.2.1) (p.2.2.2.2.2.2.2.2.2.2.2.2.2.2.2.2.2.2.2.2.1) (p.2.2.2.2.2.2.2.2.2.2.2.2.2.2.2.2.2.2.2.2.2.1) (p.2.2.2.2.2.2.2.2.2.2.2.2.2.2.2.2.2.2.2.2.2.2.1) (p.2.2.2.2.2.2.2.2.2.2.2.2.2.2.2.2.2.2.2.2.2.2.2.1) (p.2.2.2.2.2.2.2.2.2.2.2.2.2.2.2.2.2.2.2.2.2.2.2.2.1) (p.2.2.2.2.2.2.2.2.2.2.2.2.2.2.2.2.2.2.2.2.2.2.2.2.2.1) (p.2.2.2.2.2.2.2.2.2.2.2.2.2.2.2.2.2.2.2.2.2.2.2.2.2.2)
theorem some_tup : Nonempty ((World) × (Heap) × (Addr) × (Addr) × (Addr) × (Addr) × (Addr) × (Value) × (Shared) × (Bool) × (Bool) × (Tok) × (Tok) × (Str) × (Str → Option Value) × (List Wi) × (List Wi) × (Led) × (Obj) × (Addr) × (Addr) × (List Value) × (List Value) × (Nat) × (Nat) × (Flow → Shared → Prop) × (Value → Shared → Prop)) := some_pair some_world (some_pair inferInstance (some_pair inferInstance (some_pair inferInstance (some_pair inferInstance (some_pair inferInstance (some_pair inferInstance (some_pair inferInstance (some_pair some_shared (some_pair inferInstance (some_pair inferInstance (some_pair inferInstance (some_pair inferInstance (some_pair inferInstance (some_pair inferInstance (some_pair inferInstance (some_pair inferInstance (some_pair inferInstance (some_pair inferInstance (some_pair inferInstance (some_pair inferInstance (some_pair inferInstance (some_pair inferInstance (some_pair inferInstance (some_pair inferInstance (some_pair inferInstance (inferInstance))))))))))))))))))))))))))
noncomputable def tup : (World) × (Heap) × (Addr) × (Addr) × (Addr) × (Addr) × (Addr) × (Value) × (Shared) × (Bool) × (Bool) × (Tok) × (Tok) × (Str) × (Str → Option Value) × (List Wi) × (List Wi) × (Led) × (Obj) × (Addr) × (Addr) × (List Value) × (List Value) × (Nat) × (Nat) × (Flow → Shared → Prop) × (Value → Shared → Prop) := @Classical.epsilon _ some_tup fun p => ¬ ClaimT p
@[irreducible] noncomputable def w : World := tup.1
@[irreducible] noncomputable def h₀ : Heap := tup.2.1
@[irreducible] noncomputable def L : Addr := tup.2.2.1
@[irreducible] noncomputable def fa : Addr := tup.2.2.2.1
@[irreducible] noncomputable def d : Addr := tup.2.2.2.2.1
@[irreducible] noncomputable def dF : Addr := tup.2.2.2.2.2.1
@[irreducible] noncomputable def lH : Addr := tup.2.2.2.2.2.2.1
@[irreducible] noncomputable def cd : Value := tup.2.2.2.2.2.2.2.1
@[irreducible] noncomputable def s : Shared := tup.2.2.2.2.2.2.2.2.1
@[irreducible] noncomputable def ar : Bool := tup.2.2.2.2.2.2.2.2.2.1
@[irreducible] noncomputable def bb : Bool := tup.2.2.2.2.2.2.2.2.2.2.1
@[irreducible] noncomputable def t : Tok := tup.2.2.2.2.2.2.2.2.2.2.2.1
@[irreducible] noncomputable def tk : Tok := tup.2.2.2.2.2.2.2.2.2.2.2.2.1
@[irreducible] noncomputable def k : Str := tup.2.2.2.2.2.2.2.2.2.2.2.2.2.1
@[irreducible] noncomputable def m : Str → Option Value := tup.2.2.2.2.2.2.2.2.2.2.2.2.2.2.1
@[irreducible] noncomputable def ws : List Wi := tup.2.2.2.2.2.2.2.2.2.2.2.2.2.2.2.1
@[irreducible] noncomputable def own : List Wi := tup.2.2.2.2.2.2.2.2.2.2.2.2.2.2.2.2.1
@[irreducible] noncomputable def R : Led := tup.2.2.2.2.2.2.2.2.2.2.2.2.2.2.2.2.2.1
@[irreducible] noncomputable def o' : Obj := tup.2.2.2.2.2.2.2.2.2.2.2.2.2.2.2.2.2.2.1
@[irreducible] noncomputable def D1 : Addr := tup.2.2.2.2.2.2.2.2.2.2.2.2.2.2.2.2.2.2.2.1
@[irreducible] noncomputable def D2 : Addr := tup.2.2.2.2.2.2.2.2.2.2.2.2.2.2.2.2.2.2.2.2.1
@[irreducible] noncomputable def ys : List Value := tup.2.2.2.2.2.2.2.2.2.2.2.2.2.2.2.2.2.2.2.2.2.1
@[irreducible] noncomputable def zs : List Value := tup.2.2.2.2.2.2.2.2.2.2.2.2.2.2.2.2.2.2.2.2.2.2.1
@[irreducible] noncomputable def n1 : Nat := tup.2.2.2.2.2.2.2.2.2.2.2.2.2.2.2.2.2.2.2.2.2.2.2.1
@[irreducible] noncomputable def n2 : Nat := tup.2.2.2.2.2.2.2.2.2.2.2.2.2.2.2.2.2.2.2.2.2.2.2.2.1
@[irreducible] noncomputable def Q : Flow → Shared → Prop := tup.2.2.2.2.2.2.2.2.2.2.2.2.2.2.2.2.2.2.2.2.2.2.2.2.2.1
@[irreducible] noncomputable def E : Value → Shared → Prop := tup.2.2.2.2.2.2.2.2.2.2.2.2.2.2.2.2.2.2.2.2.2.2.2.2.2.2
theorem core : Claim w h₀ L fa d dF lH cd s ar bb t tk k m ws own R o' D1 D2 ys zs n1 n2 Q E := by
  w_top off
  intro G TW FW hk M ho hy leno hz mc hd my mz m1 m2 F N hQ
  have B := G.B
  have X := G.X
  obtain ⟨loose, mean, mg, mb, T⟩ := G.T
  have ylen : ys.length ≤ 6 := by rw [hy.length]; omega
  have zlen : zs.length ≤ 6 := by have := hz.length; have := wv_len own; omega
  have ylen' : ys.length ≤ 1000 := by omega
  have zlen' : zs.length ≤ 1000 := by omega
  obtain ⟨csW, tcW, dtW⟩ := TW.tab
  obtain ⟨oW, hoW, hdW⟩ := tcW.od
  have loW := tcW.lo
  obtain ⟨preW, cW, postW, rfl, hcW, hpreW, hpostW⟩ := split_key (cs := csW) (k := k) (by rw [keys_dat, dtW]; exact hk) tcW.keys
  have hatW : valueAt (kvsOf (preW ++ cW :: postW)) k = some (.ref cW.x) := by rw [← hcW]; exact at_mid (hcW ▸ hpreW)
  obtain ⟨mcW, ocW, ⟨s1, s2, s3, s4, s5, s6, rfl⟩, mdW⟩ := tcW.cells cW (List.mem_append_right _ List.mem_cons_self)
  have lkW : look (allT ar bb ws) k = cW.v := by rw [← hcW]; exact look_mem dtW tcW.keys (List.mem_append_right _ List.mem_cons_self)
  obtain ⟨csF, tcF, dtF⟩ := FW.tab
  obtain ⟨oF, hoF, hdF⟩ := tcF.od
  have loF := tcF.lo
  replace F := fr_overs [(Str.ofString "first", .ref dF), (Str.ofString "wants", .ref d), (Str.ofString "held", .ref lH), (Str.ofString "tag", .str (scr ar) t), (Str.ofString "is_backward", .bool bb), (Str.ofString "own", .ref D1), (Str.ofString "wholes", .ref D2)] F (by simp only [List.forall_mem_cons]; exact ⟨M.f, M.w, M.h, M.t, M.b, m1, m2, fun _ h => nomatch h⟩)
  dsimp only [overs] at F
  unfold lawA lawE
  generalize hb : (forBody w.params 8).drop 4 = body
  generalize hs : (lawFn w.params).scope = sc
  conv at hb => lhs; whnf
  conv at hs => lhs; whnf
  subst hb hs
  by_cases hin : k ∈ csF.map (·.key)
  · obtain ⟨pre, c, post, rfl, hc, hpre, hpost⟩ := split_key hin tcF.keys
    have hat : valueAt (kvsOf (pre ++ c :: post)) k = some (.ref c.x) := by rw [← hc]; exact at_mid (hc ▸ hpre)
    obtain ⟨mcF, ocF, ⟨r1, r2, r3, r4, r5, r6, rfl⟩, mdF⟩ := tcF.cells c (List.mem_append_right _ List.mem_cons_self)
    have lkF : look (firstT ar bb) k = c.v := by rw [← hc]; exact look_mem dtF tcF.keys (List.mem_append_right _ List.mem_cons_self)
    obtain ⟨f1, f2, f3, f4⟩ := want_facts lkW lkF own ho
    have f3' : cW.v.isPart = decide ((zs.length : Int) < (ys.length : Int)) := by
      rw [f3, hz.length, hy.length]
      exact decide_eq_decide.mpr (by omega)
    k_steps
    all_goals first
      | (exfalso; exact bne_absurd f3' (by assumption))
      | (exfalso; rename (_ != _) = true => hx; exact bne_absurd (by rw [f4, (by assumption : c.v.isSet = true), Bool.true_and]) hx)
      | (exfalso; rename (_ != _) = true => hx; exact bne_absurd (by rw [f4, (by assumption : c.v.isSet = false)]; rfl) hx)
      | ((try dsimp only); refine' hQ _ _ _ _ ?f9 ?n9 ?s9 ?j9; (case f9 => k_asm); (case n9 => k_asm); (case s9 => exact ⟨fun p hp => by k_mem⟩); (case j9 => exact ⟨rfl, rfl, rfl, rfl, rfl⟩))
  · have hat : valueAt (kvsOf csF) k = none := at_none (by rw [kvs_keys]; exact hin)
    have lkF : look (firstT ar bb) k = v0 := look_none (by rw [← dtF, ← keys_dat]; exact hin)
    obtain ⟨f1, f2, f3, f4⟩ := want_facts lkW lkF own ho
    dsimp only [v0] at f1 f2 f3 f4
    have f3' : cW.v.isPart = decide ((zs.length : Int) < (ys.length : Int)) := by
      rw [f3, hz.length, hy.length]
      exact decide_eq_decide.mpr (by omega)
    k_steps
    all_goals first
      | (exfalso; exact bne_absurd f3' (by assumption))
      | (exfalso; rename (_ != _) = true => hx; exact bne_absurd (by rw [f4]; rfl) hx)
      | (exfalso; rename (_ != _) = true => hx; exact bne_absurd f4 hx)
      | ((try dsimp only); refine' hQ _ _ _ _ ?f9 ?n9 ?s9 ?j9; (case f9 => k_asm); (case n9 => k_asm); (case s9 => exact ⟨fun p hp => by k_mem⟩); (case j9 => exact ⟨rfl, rfl, rfl, rfl, rfl⟩))
end name_r4K
theorem name_r4 {w : World} {h₀ : Heap} {L fa d dF lH : Addr} {cd : Value} {s : Shared} {ar bb : Bool} {t tk : Tok} {k : Str} {m : Str → Option Value} {ws own : List Wi} {R : Led} {o' : Obj} {D1 D2 : Addr} {ys zs : List Value} {n1 n2 : Nat} {Q : Flow → Shared → Prop} {E : Value → Shared → Prop} (G : Base w h₀) (TW : TS w d R (allT ar bb ws)) (FW : TS w dF R (firstT ar bb)) (hk : k ∈ (allT ar bb ws).map (·.1)) (M : JF d dF lH ar bb t m) (ho : own = ws.filter fun wi => wi.tag == k) (hy : WishL w.params R ys own) (leno : own.length ≤ 6) (hz : IntsAre zs (wv own)) (mc : (L + 1 + 1, o') ∈ R) (hd : o'.data = .cell (some (.str k tk))) (my : (D1, PySem.W.listOf ys.toArray n1) ∈ R) (mz : (D2, PySem.W.listOf zs.toArray n2) ∈ R) (m1 : m (Str.ofString "own") = some (.ref D1)) (m2 : m (Str.ofString "wholes") = some (.ref D2)) (F : Fr h₀ L s.heap m) (N : News h₀ L s.heap R) (hQ : ∀ h' tk' m' R', Fr h₀ L h' m' → News h₀ L h' R' → Sup R R' → JF d dF lH ar bb t m' → Q .next { s with heap := h', toks := tk' }) : wpAny (model PG w) (lawA w L fa cd) (execs ((forBody w.params 8).drop 4) (lawE w L fa cd)) Q E s :=
  skol (P := name_r4K.ClaimT) (c := name_r4K.tup) rfl (by with_unfolding_all exact name_r4K.core) (w, h₀, L, fa, d, dF, lH, cd, s, ar, bb, t, tk, k, m, ws, own, R, o', D1, D2, ys, zs, n1, n2, Q, E) G TW FW hk M ho hy leno hz mc hd my mz m1 m2 F N hQ
namespace name_r3K
abbrev Claim (w : World) (h₀ : Heap) (L : Addr) (fa : Addr) (d : Addr) (dF : Addr) (lH : Addr) (cd : Value) (s : Shared) (ar : Bool) (bb : Bool) (t : Tok) (tk : Tok) (k : Str) (m : Str → Option Value) (ws : List Wi) (own : List Wi) (R : Led) (o' : Obj) (D1 : Addr) (D2 : Addr) (ys : List Value) (zs : List Value) (n1 : Nat) (n2 : Nat) (f : WantD) (B1 : Addr) (tb1 : Tok) (tb2 : Tok) (nb : Nat) (Q : Flow → Shared → Prop) (E : Value → Shared → Prop) : Prop :=
  ∀ (G : Base w h₀) (TW : TS w d R (allT ar bb ws)) (FW : TS w dF R (firstT ar bb)) (hk : k ∈ (allT ar bb ws).map (·.1)) (M : JF d dF lH ar bb t m) (ho : own = ws.filter fun wi => wi.tag == k) (hy : WishL w.params R ys own) (leno : own.length ≤ 6) (hz : IntsAre zs (wv own)) (mc : (L + 1 + 1, o') ∈ R) (hd : o'.data = .cell (some (.str k tk))) (my : (D1, PySem.W.listOf ys.toArray n1) ∈ R) (mz : (D2, PySem.W.listOf zs.toArray n2) ∈ R) (m1 : m (Str.ofString "own") = some (.ref D1)) (m2 : m (Str.ofString "wholes") = some (.ref D2)) (hf : look (firstT ar bb) k = f) (m3 : m (Str.ofString "begun") = some (.ref B1)) (F : Fr h₀ L s.heap m) (N : News h₀ L s.heap ((B1, ({ cls := .type "tuple", data := .seq [Value.int f.val tb1, Value.int f.most tb2].toArray nb } : Obj)) :: R)) (hQ : ∀ h' tk' m' R', Fr h₀ L h' m' → News h₀ L h' R' → Sup R R' → JF d dF lH ar bb t m' → Q .next { s with heap := h', toks := tk' }), wpAny (model PG w) (lawA w L fa cd) (execs ((forBody w.params 8).drop 3) (lawE w L fa cd)) Q E s
abbrev ClaimT (p : (World) × (Heap) × (Addr) × (Addr) × (Addr) × (Addr) × (Addr) × (Value) × (Shared) × (Bool) × (Bool) × (Tok) × (Tok) × (Str) × (Str → Option Value) × (List Wi) × (List Wi) × (Led) × (Obj) × (Addr) × (Addr) × (List Value) × (List Value) × (Nat) × (Nat) × (WantD) × (Addr) × (Tok) × (Tok) × (Nat) × (Flow → Shared → Prop) × (Value → Shared → Prop)) : Prop := Claim (p.1) (p.2.1) (p.2.2.1) (p.2.2.2.1) (p.2.2.2.2.1) (p.2.2.2.2.2.1) (p.2.2.2.2.2.2.1) (p.2.2.2.2.2.2.2.1) (p.2.2.2.2.2.2.2.2.1) (p.2.2.2.2.2.2.2.2.2.1) (p.2.2.2.2.2.2.2.2.2.2.1) (p.2.2.2.2.2.2.2.2.2.2.2.1) (p.2.2.2.2.2.2.2.2.2.2.2.2.1) (p.2.2.2.2.2.2.2.2.2.2.2.2.2.1) (p.2.2.2.2.2.2.2.2.2.2.2.2.2.2.1) (p.2.2.2.2.2.2.2.2.2.2.2.2.2.2.2.1) (p.2.2.2.2.2.2.2.2.2.2.2.2.2.2.2.2.1) (p.2.2.2.2.2.2.2.2.2.2.2.2.2.2.2.2.2.1) (p.2.2.2.2.2.2.2.2.2.2.2.2.2.2.2.2.2.2.1) (p.2.2.2.2.2.2.2.2.2.2.2.2.2.2.2.2.2.2.2.1) (p.2.2.2.2.2.2.2.2.2.2.2.2.2.2.2.2.2.2.2.2.1) (p.2.2.2.2.2.2.2.2.2.2.2.2.2.2.2.2.2.2.2.2.2.1) (p.2.2.2.2.2.2.2.2.2.2.2.2.2.2.2.2.2.2.2.2.2.2.1) (p.2.2.2.2.2.2.2.2.2.2.2.2.2.2.2.2.2.2.2.2.2.2.2.1) (p.2.2.2.2.2.2.2.2.2.2.2.2.2.2.2.2.2.2.2.2.2.2.2.2.1) (p.2.2.2.2.2.2.2.2.2.2.2.2.2.2.2.2.2.2.2.2.2.2.2.2.2.1) (p.2.2.2.2.2.2.2.2.2.2.2.2.2.2.2.2.2.2.2.2.2.2.2.2.2.2.1) (p.2.2.2.2.2.2.2.2.2.2.2.2.2.2.2.2.2.2.2.2.2.2.2.2.2.2.2.1) (p.2.2.2.2.2.2.2.2.2.2.2.2.2.2.2.2.2.2.2.2.2.2.2.2.2.2.2.2.1) (p.2.2.2.2.2.2.2.2.2.2.2.2.2.2.2.2.2.2.2.2.2.2.2.2.2.2.2.2.2.1) (p.2.2.2.2.2.2.2.2.2.2.2.2.2.2.2.2.2.2.2.2.2.2.2.2.2.2.2.2.2.2.1) (p.2.2.2.2.2.2.2.2.2.2.2.2.2.2.2.2.2.2.2.2.2.2.2.2.2.2.2.2.2.2.2)
theorem some_tup : Nonempty ((World) × (Heap) × (Addr) × (Addr) × (Addr) × (Addr) × (Addr) × (Value) × (Shared) × (Bool) × (Bool) × (Tok) × (Tok) × (Str) × (Str → Option Value) × (List Wi) × (List Wi) × (Led) × (Obj) × (Addr) × (Addr) × (List Value) × (List Value) × (Nat) × (Nat) × (WantD) × (Addr) × (Tok) × (Tok) × (Nat) × (Flow → Shared → Prop) × (Value → Shared → Prop)) := some_pair some_world (some_pair inferInstance (some_pair inferInstance (some_pair inferInstance (some_pair inferInstance (some_pair inferInstance (some_pair inferInstance (some_pair inferInstance (some_pair some_shared (some_pair inferInstance (some_pair inferInstance (some_pair inferInstance (some_pair inferInstance (some_pair inferInstance (some_pair inferInstance (some_pair inferInstance (some_pair inferInstance (some_pair inferInstance (some_pair inferInstance (some_pair inferInstance (some_pair inferInstance (some_pair inferInstance (some_pair inferInstance (some_pair inferInstance (some_pair inferInstance (some_pair (⟨⟨0, 0, false, false⟩⟩ : Nonempty WantD) (some_pair inferInstance (some_pair inferInstance (some_pair inferInstance (some_pair inferInstance (some_pair inferInstance (inferInstance)))))))))))))))))))))))))))))))
noncomputable def tup : (World) × (Heap) × (Addr) × (Addr) × (Addr) × (Addr) × (Addr) × (Value) × (Shared) × (Bool) × (Bool) × (Tok) × (Tok) × (Str) × (Str → Option Value) × (List Wi) × (List Wi) × (Led) × (Obj) × (Addr) × (Addr) × (List Value) × (List Value) × (Nat) × (Nat) × (WantD) × (Addr) × (Tok) × (Tok) × (Nat) × (Flow → Shared → Prop) × (Value → Shared → Prop) := @Classical.epsilon _ some_tup fun p => ¬ ClaimT p
@[irreducible] noncomputable def w : World := tup.1
@[irreducible] noncomputable def h₀ : Heap := tup.2.1
@[irreducible] noncomputable def L : Addr := tup.2.2.1
@[irreducible] noncomputable def fa : Addr := tup.2.2.2.1
@[irreducible] noncomputable def d : Addr := tup.2.2.2.2.1
@[irreducible] noncomputable def dF : Addr := tup.2.2.2.2.2.1
@[irreducible] noncomputable def lH : Addr := tup.2.2.2.2.2.2.1
@[irreducible] noncomputable def cd : Value := tup.2.2.2.2.2.2.2.1
@[irreducible] noncomputable def s : Shared := tup.2.2.2.2.2.2.2.2.1
@[irreducible] noncomputable def ar : Bool := tup.2.2.2.2.2.2.2.2.2.1
@[irreducible] noncomputable def bb : Bool := tup.2.2.2.2.2.2.2.2.2.2.1
@[irreducible] noncomputable def t : Tok := tup.2.2.2.2.2.2.2.2.2.2.2.1
@[irreducible] noncomputable def tk : Tok := tup.2.2.2.2.2.2.2.2.2.2.2.2.1
@[irreducible] noncomputable def k : Str := tup.2.2.2.2.2.2.2.2.2.2.2.2.2.1
@[irreducible] noncomputable def m : Str → Option Value := tup.2.2.2.2.2.2.2.2.2.2.2.2.2.2.1
@[irreducible] noncomputable def ws : List Wi := tup.2.2.2.2.2.2.2.2.2.2.2.2.2.2.2.1
@[irreducible] noncomputable def own : List Wi := tup.2.2.2.2.2.2.2.2.2.2.2.2.2.2.2.2.1
@[irreducible] noncomputable def R : Led := tup.2.2.2.2.2.2.2.2.2.2.2.2.2.2.2.2.2.1
@[irreducible] noncomputable def o' : Obj := tup.2.2.2.2.2.2.2.2.2.2.2.2.2.2.2.2.2.2.1
@[irreducible] noncomputable def D1 : Addr := tup.2.2.2.2.2.2.2.2.2.2.2.2.2.2.2.2.2.2.2.1
@[irreducible] noncomputable def D2 : Addr := tup.2.2.2.2.2.2.2.2.2.2.2.2.2.2.2.2.2.2.2.2.1
@[irreducible] noncomputable def ys : List Value := tup.2.2.2.2.2.2.2.2.2.2.2.2.2.2.2.2.2.2.2.2.2.1
@[irreducible] noncomputable def zs : List Value := tup.2.2.2.2.2.2.2.2.2.2.2.2.2.2.2.2.2.2.2.2.2.2.1
@[irreducible] noncomputable def n1 : Nat := tup.2.2.2.2.2.2.2.2.2.2.2.2.2.2.2.2.2.2.2.2.2.2.2.1
@[irreducible] noncomputable def n2 : Nat := tup.2.2.2.2.2.2.2.2.2.2.2.2.2.2.2.2.2.2.2.2.2.2.2.2.1
@[irreducible] noncomputable def f : WantD := tup.2.2.2.2.2.2.2.2.2.2.2.2.2.2.2.2.2.2.2.2.2.2.2.2.2.1
@[irreducible] noncomputable def B1 : Addr := tup.2.2.2.2.2.2.2.2.2.2.2.2.2.2.2.2.2.2.2.2.2.2.2.2.2.2.1
@[irreducible] noncomputable def tb1 : Tok := tup.2.2.2.2.2.2.2.2.2.2.2.2.2.2.2.2.2.2.2.2.2.2.2.2.2.2.2.1
@[irreducible] noncomputable def tb2 : Tok := tup.2.2.2.2.2.2.2.2.2.2.2.2.2.2.2.2.2.2.2.2.2.2.2.2.2.2.2.2.1
@[irreducible] noncomputable def nb : Nat := tup.2.2.2.2.2.2.2.2.2.2.2.2.2.2.2.2.2.2.2.2.2.2.2.2.2.2.2.2.2.1
@[irreducible] noncomputable def Q : Flow → Shared → Prop := tup.2.2.2.2.2.2.2.2.2.2.2.2.2.2.2.2.2.2.2.2.2.2.2.2.2.2.2.2.2.2.1
@[irreducible] noncomputable def E : Value → Shared → Prop := tup.2.2.2.2.2.2.2.2.2.2.2.2.2.2.2.2.2.2.2.2.2.2.2.2.2.2.2.2.2.2.2
theorem core : Claim w h₀ L fa d dF lH cd s ar bb t tk k m ws own R o' D1 D2 ys zs n1 n2 f B1 tb1 tb2 nb Q E := by
  w_top off
  intro G TW FW hk M ho hy leno hz mc hd my mz m1 m2 hf m3 F N hQ
  have B := G.B
  have X := G.X
  obtain ⟨loose, mean, mg, mb, T⟩ := G.T
  have ylen : ys.length ≤ 6 := by rw [hy.length]; omega
  have zlen : zs.length ≤ 6 := by have := hz.length; have := wv_len own; omega
  have ylen' : ys.length ≤ 1000 := by omega
  have zlen' : zs.length ≤ 1000 := by omega
  obtain ⟨csW, tcW, dtW⟩ := TW.tab
  obtain ⟨oW, hoW, hdW⟩ := tcW.od
  have loW := tcW.lo
  obtain ⟨preW, cW, postW, rfl, hcW, hpreW, hpostW⟩ := split_key (cs := csW) (k := k) (by rw [keys_dat, dtW]; exact hk) tcW.keys
  have hatW : valueAt (kvsOf (preW ++ cW :: postW)) k = some (.ref cW.x) := by rw [← hcW]; exact at_mid (hcW ▸ hpreW)
  obtain ⟨mcW, ocW, ⟨s1, s2, s3, s4, s5, s6, rfl⟩, mdW⟩ := tcW.cells cW (List.mem_append_right _ List.mem_cons_self)
  have lkW : look (allT ar bb ws) k = cW.v := by rw [← hcW]; exact look_mem dtW tcW.keys (List.mem_append_right _ List.mem_cons_self)
  obtain ⟨f1, f2, f3, f4⟩ := want_facts lkW hf own ho
  have hA : wv own = [] → cW.v.val = f.val := fun e => by rw [f1, e]; rfl
  have hB : ¬ wv own = [] → cW.v.val = lastD (wv own) 0 := fun e => by
    first | exact f1 | (rw [f1]; unfold lastD; rw [List.getLast?_eq_some_getLast e]; rfl)
  replace F := fr_overs [(Str.ofString "first", .ref dF), (Str.ofString "wants", .ref d), (Str.ofString "held", .ref lH), (Str.ofString "tag", .str (scr ar) t), (Str.ofString "is_backward", .bool bb), (Str.ofString "own", .ref D1), (Str.ofString "wholes", .ref D2), (Str.ofString "begun", .ref B1)] F (by simp only [List.forall_mem_cons]; exact ⟨M.f, M.w, M.h, M.t, M.b, m1, m2, m3, fun _ h => nomatch h⟩)
  dsimp only [overs] at F
  unfold lawA lawE
  generalize hb : (forBody w.params 8).drop 3 = body
  generalize hs : (lawFn w.params).scope = sc
  conv at hb => lhs; whnf
  conv at hs => lhs; whnf
  subst hb hs
  k_steps
  all_goals first
    | (exfalso; exact absurd (hA (of_decide_eq_true (by assumption))) (by assumption))
    | (exfalso; exact absurd (hB (of_decide_eq_false (by assumption))) (by assumption))
    | skip
  all_goals
    refine Stop.off ?_
    k_dflt (refine LCg.ListComp_U (F₀ := by k_asm) (by with_unfolding_all rfl) (by decide) (by rfl) (by decide) (by rfl) ?_)
    k_steps
    k_dflt (refine LCg.CompSrc.ledger (by rfl) (by k_asm) (by k_asm) (by k_mem) (by rw [PySem.sizeLine_eq, List.size_toArray]; omega) ?_; intro g9)
    refine comp_turns (fun i news y => ∃ wi tok, own[i]? = some wi ∧ y = .int wi.val tok) (fun i R R' v hs hq => hq) (fun i v I oI C oC D m₂ ys' h tk news E' hi hv hb hC hx F3 N3 off => ?_) ?_
    · obtain ⟨wi, hwi, a, ax, t1, t2, t3, t4, u1, u2, u3, u4, rfl, ha, hax⟩ := hy.at (by simpa using hv)
      have ha3 : (a, instObj 100 ax) ∈ news := hb _ (by k_mem)
      have hax3 := hb _ (by k_mem : (ax, _) ∈ _)
      k_steps
      refine comp_end_same F3 N3 off (.inr ⟨_, hb _ (by k_mem : (D1, PySem.W.listOf ys.toArray n1) ∈ _), rfl, _, rfl⟩) ⟨fun _ h => h, wi, _, hwi, rfl⟩
    · intro ys' news' hl hy' hb
      unfold LCg.FinE
      intro D h tk F3 N3 o3
      rw [List.size_toArray, hy.length] at hl
      have hI := ints_of_turns hl hy'
      have ylen3 : ys'.length ≤ 1000 := by omega
      have supA := Sup.mk hb
      have go2 : Go 2 := ⟨⟩
      k_steps
      all_goals first
        | (exfalso; exact absurd rfl (by assumption : cW.v.most ≠ cW.v.most))
        | skip
      refine Stop.off ?_
      rename News _ _ _ _ => N5
      rename Fr _ _ _ _ => F5
      have supR : Sup R _ := sup_in N5 (fun p hp => by k_mem)
      exact name_r4 (fa := fa) (cd := cd) (E := E) G (TW.mono supR) (FW.mono supR) hk ⟨rfl, rfl, rfl, rfl, rfl⟩ ho (hy.mono supR.h) leno hz (supR.h _ mc) hd (supR.h _ my) (supR.h _ mz) rfl rfl F5 N5 (fun h' tk' m' R' a b c e => hQ h' tk' m' R' a b (supR.trans c) e)
end name_r3K
theorem name_r3 {w : World} {h₀ : Heap} {L fa d dF lH : Addr} {cd : Value} {s : Shared} {ar bb : Bool} {t tk : Tok} {k : Str} {m : Str → Option Value} {ws own : List Wi} {R : Led} {o' : Obj} {D1 D2 : Addr} {ys zs : List Value} {n1 n2 : Nat} {f : WantD} {B1 : Addr} {tb1 tb2 : Tok} {nb : Nat} {Q : Flow → Shared → Prop} {E : Value → Shared → Prop} (G : Base w h₀) (TW : TS w d R (allT ar bb ws)) (FW : TS w dF R (firstT ar bb)) (hk : k ∈ (allT ar bb ws).map (·.1)) (M : JF d dF lH ar bb t m) (ho : own = ws.filter fun wi => wi.tag == k) (hy : WishL w.params R ys own) (leno : own.length ≤ 6) (hz : IntsAre zs (wv own)) (mc : (L + 1 + 1, o') ∈ R) (hd : o'.data = .cell (some (.str k tk))) (my : (D1, PySem.W.listOf ys.toArray n1) ∈ R) (mz : (D2, PySem.W.listOf zs.toArray n2) ∈ R) (m1 : m (Str.ofString "own") = some (.ref D1)) (m2 : m (Str.ofString "wholes") = some (.ref D2)) (hf : look (firstT ar bb) k = f) (m3 : m (Str.ofString "begun") = some (.ref B1)) (F : Fr h₀ L s.heap m) (N : News h₀ L s.heap ((B1, ({ cls := .type "tuple", data := .seq [Value.int f.val tb1, Value.int f.most tb2].toArray nb } : Obj)) :: R)) (hQ : ∀ h' tk' m' R', Fr h₀ L h' m' → News h₀ L h' R' → Sup R R' → JF d dF lH ar bb t m' → Q .next { s with heap := h', toks := tk' }) : wpAny (model PG w) (lawA w L fa cd) (execs ((forBody w.params 8).drop 3) (lawE w L fa cd)) Q E s :=
  skol (P := name_r3K.ClaimT) (c := name_r3K.tup) rfl (by with_unfolding_all exact name_r3K.core) (w, h₀, L, fa, d, dF, lH, cd, s, ar, bb, t, tk, k, m, ws, own, R, o', D1, D2, ys, zs, n1, n2, f, B1, tb1, tb2, nb, Q, E) G TW FW hk M ho hy leno hz mc hd my mz m1 m2 hf m3 F N hQ
theorem name_rest {w : World} {h₀ : Heap} {L fa d dF lH : Addr} {cd : Value} {s : Shared} {ar bb : Bool} {t tk : Tok} {k : Str} {m : Str → Option Value} {ws own : List Wi} {R : Led} {o' : Obj} {D1 D2 : Addr} {ys zs : List Value} {n1 n2 : Nat} {Q : Flow → Shared → Prop} {E : Value → Shared → Prop}
    (G : Base w h₀) (TW : TS w d R (allT ar bb ws)) (FW : TS w dF R (firstT ar bb)) (hk : k ∈ (allT ar bb ws).map (·.1)) (M : JF d dF lH ar bb t m)
    (ho : own = ws.filter fun wi => wi.tag == k) (hy : WishL w.params R ys own) (leno : own.length ≤ 6) (hz : IntsAre zs (wv own))
    (mc : (L + 1 + 1, o') ∈ R) (hd : o'.data = .cell (some (.str k tk))) (my : (D1, PySem.W.listOf ys.toArray n1) ∈ R) (mz : (D2, PySem.W.listOf zs.toArray n2) ∈ R)
    (m1 : m (Str.ofString "own") = some (.ref D1)) (m2 : m (Str.ofString "wholes") = some (.ref D2))
    (F : Fr h₀ L s.heap m) (N : News h₀ L s.heap R)
    (hQ : ∀ h' tk' m' R', Fr h₀ L h' m' → News h₀ L h' R' → Sup R R' → JF d dF lH ar bb t m' → Q .next { s with heap := h', toks := tk' }) :
    wpAny (model PG w) (lawA w L fa cd) (execs ((forBody w.params 8).drop 2) (lawE w L fa cd)) Q E s := by
  w_top off
  have B := G.B
  have X := G.X
  obtain ⟨loose, mean, mg, mb, T⟩ := G.T
  have ylen : ys.length ≤ 6 := by rw [hy.length]; omega
  have zlen : zs.length ≤ 6 := by have := hz.length; have := wv_len own; omega
  have ylen' : ys.length ≤ 1000 := by omega
  have zlen' : zs.length ≤ 1000 := by omega
  obtain ⟨csF, tcF, dtF⟩ := FW.tab
  obtain ⟨oF, hoF, hdF⟩ := tcF.od
  have loF := tcF.lo
  replace F := fr_overs [(Str.ofString "first", .ref dF), (Str.ofString "wants", .ref d), (Str.ofString "held", .ref lH), (Str.ofString "tag", .str (scr ar) t), (Str.ofString "is_backward", .bool bb), (Str.ofString "own", .ref D1), (Str.ofString "wholes", .ref D2)] F (by simp only [List.forall_mem_cons]; exact ⟨M.f, M.w, M.h, M.t, M.b, m1, m2, fun _ h => nomatch h⟩)
  dsimp only [overs] at F
  unfold lawA lawE
  generalize hb : (forBody w.params 8).drop 2 = body
  generalize hs : (lawFn w.params).scope = sc
  conv at hb => lhs; whnf
  conv at hs => lhs; whnf
  subst hb hs
  walk1
  have go2 : Go 2 := ⟨⟩
  by_cases hin : k ∈ csF.map (·.key)
  · obtain ⟨pre, c, post, rfl, hc, hpre, hpost⟩ := split_key hin tcF.keys
    have hat : valueAt (kvsOf (pre ++ c :: post)) k = some (.ref c.x) := by rw [← hc]; exact at_mid (hc ▸ hpre)
    obtain ⟨mcF, ocF, ⟨r1, r2, r3, r4, r5, r6, rfl⟩, mdF⟩ := tcF.cells c (List.mem_append_right _ List.mem_cons_self)
    have lkF : look (firstT ar bb) k = c.v := by rw [← hc]; exact look_mem dtF tcF.keys (List.mem_append_right _ List.mem_cons_self)
    k_steps
    refine Stop.off ?_
    rename News _ _ _ _ => N5
    rename Fr _ _ _ _ => F5
    exact name_r3 (fa := fa) (cd := cd) (E := E) (R := R) G TW FW hk ⟨rfl, rfl, rfl, rfl, rfl⟩ ho hy leno hz mc hd my mz rfl rfl lkF rfl F5 N5 (fun h' tk' m' R' a b c e => hQ h' tk' m' R' a b c e)
  · have hat : valueAt (kvsOf csF) k = none := at_none (by rw [kvs_keys]; exact hin)
    have lkF : look (firstT ar bb) k = v0 := look_none (by rw [← dtF, ← keys_dat]; exact hin)
    k_steps
    refine Stop.off ?_
    rename News _ _ _ _ => N5
    rename Fr _ _ _ _ => F5
    exact name_r3 (fa := fa) (cd := cd) (E := E) (R := R) G TW FW hk ⟨rfl, rfl, rfl, rfl, rfl⟩ ho hy leno hz mc hd my mz rfl rfl lkF rfl F5 N5 (fun h' tk' m' R' a b c e => hQ h' tk' m' R' a b c e)

end Mine
namespace Mine
local macro_rules | `(tactic| k_mem) => `(tactic| (refine Sup.mem (by assumption) ?_; k_mem))
local macro_rules | `(tactic| k_mem) => `(tactic| (refine List.mem_append_right _ ?_; k_mem))
local macro_rules | `(tactic| k_mem) => `(tactic| (refine List.mem_append_left _ ?_; k_mem))
local macro_rules | `(tactic| k_all) => `(tactic| assumption)
local macro_rules | `(tactic| k_mem) => `(tactic| assumption)
local macro_rules | `(tactic| walk_at "call ref") => `(tactic| (k_here; (with_reducible show wpAny _ _ (call (Value.ref 154) _) _ _ _); k_dflt (refine' Spec.use ?S ?k1 ?k2 ?k3 ?k4 ?k5 ?kK ?kd ?ku ?_; (case k1 => k_asm); (case k2 => k_asm); (case k3 => k_asm); (case k4 => k_asm); (case k5 => k_asm); (case kK => exact rfl); (case S => refine' all_ok (by k_mem) (by exact WishL.mono (by assumption) (fun p hp => by k_mem)) (by assumption) (by assumption)); (case kd => ktr_room); (case ku => ktr_units); k_whole); intro r9 h9 tk9 n9 F9 N9 P9; obtain ⟨dA, TA, cA, e91, e92, tcA, otA, dtA⟩ := P9; subst e91; subst e92; (try dsimp only)))
local macro_rules | `(tactic| walk_at "call ref") => `(tactic| (k_here; (with_reducible show wpAny _ _ (call (Value.ref 172) _) _ _ _); k_dflt (refine' Spec.use ?S ?k1 ?k2 ?k3 ?k4 ?k5 ?kK ?kd ?ku ?_; (case k1 => k_asm); (case k2 => k_asm); (case k3 => k_asm); (case k4 => k_asm); (case k5 => k_asm); (case kK => exact rfl); (case S => refine' told_use (by exact TabC.mono (by assumption) (fun p hp => by k_mem)) (by assumption) (by exact Nat.lt_of_le_of_lt (allT_len _ _ _) (by omega))); (case kd => ktr_room); (case ku => ktr_units); k_whole); intro r9 h9 tk9 n9 F9 N9 P9; obtain ⟨supT, lT, vT, nT, ST, e9, mT, rowsT, permT, sortT⟩ := P9; subst e9; (try dsimp only)))
local macro_rules | `(tactic| walk_at "pyIter ref") => `(tactic| refine Stop.on ?_)
local macro_rules | `(tactic| walk_at "exec For") => `(tactic| (k_here; k_dflt (refine wpAny_For ?_)))
local macro_rules | `(tactic| walk_at "exec For Name Call cons nil") => `(tactic| (k_here; k_dflt (refine wpAny_For ?_)))
local macro_rules | `(tactic| walk_at "call type:range") => `(tactic| (k_here; (with_reducible show wpAny _ _ (call (Value.type "range") [Value.int _ _]) _ _ _); k_dflt (refine' range_led (by k_asm) (by k_asm) ?_; k_whole); intro D9 h9 tk9 t91 t92 t93 F9 N9 l9; (try k_lt l9); (try k_sweep)))
local macro_rules | `(tactic| walk_at "call builtin:len") => `(tactic| (k_here; (with_reducible show wpAny _ _ (call (Value.builtin _) [Value.ref _]) _ _ _); k_dflt (refine' len_list (by k_asm) (by k_mem) (by assumption) ?_; k_whole)))
local macro_rules | `(tactic| walk_at "subscriptTail") => `(tactic| (k_here; (with_reducible show wpAny _ _ (subscriptTail _ _ (Value.ref _) (Value.int _ _)) _ _ _); k_dflt (refine' at_list (by k_asm) (by k_mem) (by assumption) (by assumption) ?_ (by with_unfolding_all rfl); k_whole)))

local macro_rules | `(tactic| walk_at "exec For Name Call cons cons") => `(tactic| (k_here; refine wpAny_For ?_))
local macro_rules | `(tactic| walk_at "exec For Name Call") => `(tactic| (k_here; refine wpAny_For ?_))
local macro_rules | `(tactic| walk_at "call ref") => `(tactic| (k_here; (with_reducible show wpAny _ _ (call (Value.ref 147) _) _ _ _); k_dflt (refine' Spec.use (first_ok _ _) (by k_asm) (by k_asm) (by k_asm) (by k_asm) (by k_asm) (by exact rfl) (by ktr_room) (by ktr_units) ?_; k_whole); intro r9 h9 tk9 n9 F9 N9 P9; obtain ⟨dF, TF, cF, e91, e92, tcF, otF, dtF⟩ := P9; subst e91; subst e92; (try dsimp only)))
local macro_rules | `(tactic| walk_at "call builtin:sorted") => `(tactic| (k_here; (with_reducible show wpAny _ _ (call (Value.builtin "sorted") [Value.ref _]) _ _ _); k_dflt (refine' sorted_dict (by rfl) (by k_asm) (by k_asm) (by k_mem) (by k_asm) (by k_asm) (by k_asm) ?_; k_whole); intro D9 h9 tk9 vs9 ss9 e9 F9 N9 l9 S9 P9 O9))

local macro_rules | `(tactic| walk_at "eval ListComp") => `(tactic| refine Stop.on ?_)
local macro_rules | `(tactic| walk_at "exec Assign cons ListComp") => `(tactic| refine Stop.on ?_)
local macro_rules | `(tactic| walk_at "compareOp In str ref") => `(tactic| (k_here; (with_reducible show wpAny _ _ (compareOp CmpOp.In (Value.str _ _) (Value.ref _)) _ _ _); k_dflt (first
  | (refine' in_new (by k_asm) (by k_mem) (by k_asm) (by k_asm) (by k_asm) ?_; k_whole)
  | (refine' in_there (by k_asm) (by k_mem) (by k_asm) (by k_asm) (by k_asm) ?_; k_whole))))
local macro_rules | `(tactic| walk_at "subscriptTail") => `(tactic| (k_here; (with_reducible show wpAny _ _ (subscriptTail _ _ (Value.ref _) (Value.str _ _)) _ _ _); k_dflt (refine' item_there (by k_asm) (by k_mem) (by k_asm) (by k_asm) ?_ (by with_unfolding_all rfl) (by intro _; with_unfolding_all rfl); k_whole)))
namespace name_turnK
abbrev Claim (w : World) (h₀ : Heap) (L : Addr) (fa : Addr) (l : Addr) (d : Addr) (dF : Addr) (lH : Addr) (I : Addr) (cd : Value) (s : Shared) (ar : Bool) (bb : Bool) (t : Tok) (tk : Tok) (k : Str) (m : Str → Option Value) (xs : List Value) (ws : List Wi) (R : Led) (R₁ : Led) (o' : Obj) (oI : Obj) (Q : Flow → Shared → Prop) (E : Value → Shared → Prop) : Prop :=
  ∀ (G : Base w h₀) (W : WS w.params L l R xs ws) (TW : TS w d R (allT ar bb ws)) (FW : TS w dF R (firstT ar bb)) (hk : k ∈ (allT ar bb ws).map (·.1)) (M : JF d dF lH ar bb t m) (sup : Sup R R₁) (o1 : ∀ q ∈ R₁, q.1 ≠ I) (o2 : I ≠ L + 1 + 1) (o3 : ∀ q ∈ R₁, q.1 ≠ L + 1 + 1) (hd : o'.data = .cell (some (.str k tk))) (F : Fr h₀ L s.heap m) (N : News h₀ L s.heap ((I, oI) :: (L + 1 + 1, o') :: R₁)) (hE : PassesOwn (model PG w) (lawA w L fa cd) (lawE w L fa cd) E), wpAny (model PG w) (lawA w L fa cd) (execs (forBody w.params 8) (lawE w L fa cd)) (TurnC h₀ L (L + 1 + 1) (fun m' R' => Sup R R' ∧ JF d dF lH ar bb t m') I oI s Q) E s
abbrev ClaimT (p : (World) × (Heap) × (Addr) × (Addr) × (Addr) × (Addr) × (Addr) × (Addr) × (Addr) × (Value) × (Shared) × (Bool) × (Bool) × (Tok) × (Tok) × (Str) × (Str → Option Value) × (List Value) × (List Wi) × (Led) × (Led) × (Obj) × (Obj) × (Flow → Shared → Prop) × (Value → Shared → Prop)) : Prop := Claim (p.1) (p.2.1) (p.2.2.1) (p.2.2.2.1) (p.2.2.2.2.1) (p.2.2.2.2.2.1) (p.2.2.2.2.2.2.1) (p.2.2.2.2.2.2.2.1) (p.2.2.2.2.2.2.2.2.1) (p.2.2.2.2.2.2.2.2.2.1) (p.2.2.2.2.2.2.2.2.2.2.1) (p.2.2.2.2.2.2.2.2.2.2.2.1) (p.2.2.2.2.2.2.2.2.2.2.2.2.1) (p.2.2.2.2.2.2.2.2.2.2.2.2.2.1) (p.2.2.2.2.2.2.2.2.2.2.2.2.2.2.1) (p.2.2.2.2.2.2.2.2.2.2.2.2.2.2.2.1) (p.2.2.2.2.2.2.2.2.2.2.2.2.2.2.2.2.1) (p.2.2.2.2.2.2.2.2.2.2.2.2.2.2.2.2.2.1) (p.2.2.2.2.2.2.2.2.2.2.2.2.2.2.2.2.2.2.1) (p.2.2.2.2.2.2.2.2.2.2.2.2.2.2.2.2.2.2.2.1) (p.2.2.2.2.2.2.2.2.2.2.2.2.2.2.2.2.2.2.2.2.1) (p.2.2.2.2.2.2.2.2.2.2.2.2.2.2.2.2.2.2.2.2.2.1) (p.2.2.2.2.2.2.2.2.2.2.2.2.2.2.2.2.2.2.2.2.2.2.1) (p.2.2.2.2.2.2.2.2.2.2.2.2.2.2.2.2.2.2.2.2.2.2.2.1) (p.2.2.2.2.2.2.2.2.2.2.2.2.2.2.2.2.2.2.2.2.2.2.2.2)
theorem some_tup : Nonempty ((World) × (Heap) × (Addr) × (Addr) × (Addr) × (Addr) × (Addr) × (Addr) × (Addr) × (Value) × (Shared) × (Bool) × (Bool) × (Tok) × (Tok) × (Str) × (Str → Option Value) × (List Value) × (List Wi) × (Led) × (Led) × (Obj) × (Obj) × (Flow → Shared → Prop) × (Value → Shared → Prop)) := some_pair some_world (some_pair inferInstance (some_pair inferInstance (some_pair inferInstance (some_pair inferInstance (some_pair inferInstance (some_pair inferInstance (some_pair inferInstance (some_pair inferInstance (some_pair inferInstance (some_pair some_shared (some_pair inferInstance (some_pair inferInstance (some_pair inferInstance (some_pair inferInstance (some_pair inferInstance (some_pair inferInstance (some_pair inferInstance (some_pair inferInstance (some_pair inferInstance (some_pair inferInstance (some_pair inferInstance (some_pair inferInstance (some_pair inferInstance (inferInstance))))))))))))))))))))))))
noncomputable def tup : (World) × (Heap) × (Addr) × (Addr) × (Addr) × (Addr) × (Addr) × (Addr) × (Addr) × (Value) × (Shared) × (Bool) × (Bool) × (Tok) × (Tok) × (Str) × (Str → Option Value) × (List Value) × (List Wi) × (Led) × (Led) × (Obj) × (Obj) × (Flow → Shared → Prop) × (Value → Shared → Prop) := @Classical.epsilon _ some_tup fun p => ¬ ClaimT p
@[irreducible] noncomputable def w : World := tup.1
@[irreducible] noncomputable def h₀ : Heap := tup.2.1
@[irreducible] noncomputable def L : Addr := tup.2.2.1
@[irreducible] noncomputable def fa : Addr := tup.2.2.2.1
@[irreducible] noncomputable def l : Addr := tup.2.2.2.2.1
@[irreducible] noncomputable def d : Addr := tup.2.2.2.2.2.1
@[irreducible] noncomputable def dF : Addr := tup.2.2.2.2.2.2.1
@[irreducible] noncomputable def lH : Addr := tup.2.2.2.2.2.2.2.1
@[irreducible] noncomputable def I : Addr := tup.2.2.2.2.2.2.2.2.1
@[irreducible] noncomputable def cd : Value := tup.2.2.2.2.2.2.2.2.2.1
@[irreducible] noncomputable def s : Shared := tup.2.2.2.2.2.2.2.2.2.2.1
@[irreducible] noncomputable def ar : Bool := tup.2.2.2.2.2.2.2.2.2.2.2.1
@[irreducible] noncomputable def bb : Bool := tup.2.2.2.2.2.2.2.2.2.2.2.2.1
@[irreducible] noncomputable def t : Tok := tup.2.2.2.2.2.2.2.2.2.2.2.2.2.1
@[irreducible] noncomputable def tk : Tok := tup.2.2.2.2.2.2.2.2.2.2.2.2.2.2.1
@[irreducible] noncomputable def k : Str := tup.2.2.2.2.2.2.2.2.2.2.2.2.2.2.2.1
@[irreducible] noncomputable def m : Str → Option Value := tup.2.2.2.2.2.2.2.2.2.2.2.2.2.2.2.2.1
@[irreducible] noncomputable def xs : List Value := tup.2.2.2.2.2.2.2.2.2.2.2.2.2.2.2.2.2.1
@[irreducible] noncomputable def ws : List Wi := tup.2.2.2.2.2.2.2.2.2.2.2.2.2.2.2.2.2.2.1
@[irreducible] noncomputable def R : Led := tup.2.2.2.2.2.2.2.2.2.2.2.2.2.2.2.2.2.2.2.1
@[irreducible] noncomputable def R₁ : Led := tup.2.2.2.2.2.2.2.2.2.2.2.2.2.2.2.2.2.2.2.2.1
@[irreducible] noncomputable def o' : Obj := tup.2.2.2.2.2.2.2.2.2.2.2.2.2.2.2.2.2.2.2.2.2.1
@[irreducible] noncomputable def oI : Obj := tup.2.2.2.2.2.2.2.2.2.2.2.2.2.2.2.2.2.2.2.2.2.2.1
@[irreducible] noncomputable def Q : Flow → Shared → Prop := tup.2.2.2.2.2.2.2.2.2.2.2.2.2.2.2.2.2.2.2.2.2.2.2.1
@[irreducible] noncomputable def E : Value → Shared → Prop := tup.2.2.2.2.2.2.2.2.2.2.2.2.2.2.2.2.2.2.2.2.2.2.2.2
theorem core : Claim w h₀ L fa l d dF lH I cd s ar bb t tk k m xs ws R R₁ o' oI Q E := by
  w_top off
  intro G W TW FW hk M sup o1 o2 o3 hd F N hE
  have B := G.B
  have X := G.X
  obtain ⟨loose, mean, mg, mb, T⟩ := G.T
  obtain ⟨oc1, d1, mc1⟩ := W.c1
  obtain ⟨nl, ml⟩ := W.lst
  have hw := W.w
  have len6 := W.len
  have xlen : xs.length ≤ 1000 := by rw [hw.length]; omega
  replace F := fr_overs [(Str.ofString "first", .ref dF), (Str.ofString "wants", .ref d), (Str.ofString "held", .ref lH), (Str.ofString "tag", .str (scr ar) t), (Str.ofString "is_backward", .bool bb)] F (by simp only [List.forall_mem_cons]; exact ⟨M.f, M.w, M.h, M.t, M.b, fun _ h => nomatch h⟩)
  dsimp only [overs] at F
  unfold lawA lawE
  generalize hb : forBody w.params 8 = body
  generalize hs : (lawFn w.params).scope = sc
  conv at hb => lhs; whnf
  conv at hs => lhs; whnf
  subst hb hs
  k_steps
  refine Stop.off ?_
  k_dflt (refine LCt.Assign_ListComp_T (F₀ := by k_asm) (by rfl) (by with_unfolding_all rfl) (by with_unfolding_all rfl) (by decide) (by rfl) (by decide) (by rfl) (by rfl) (by rfl) ?_)
  k_steps
  k_dflt (refine LCt.CompSrcT.ledger (by rfl) (by k_asm) (by k_asm) (by k_mem) (by rw [PySem.sizeLine_eq, List.size_toArray]; omega) ?_; intro g9)
  refine compT (fun i ys news => ys = (((xs.zip ws).take i).filter fun p => p.2.tag == k).map (·.1) ∧ Sup ((I, oI) :: (L + 1 + 1, o') :: R₁) news) (fun i v I' oI' C oC D m₂ ys h tk news E' hi hv hJ hC hx F3 N3 off ne => ?_) ?_ _ 0 [] _ (Nat.zero_add _) ⟨by simp, ⟨fun _ h => h⟩⟩
  · obtain ⟨wi, hwi, a, ax, t1, t2, t3, t4, u1, u2, u3, u4, rfl, ha, hax⟩ := hw.at (by simpa using hv)
    obtain ⟨hys, sup2⟩ := hJ
    have hz : (xs.zip ws)[i]? = some (Value.ref a, wi) := by
      rw [List.getElem?_zip_eq_some]
      exact ⟨by simpa using hv, hwi⟩
    have hsrc : (l, PySem.W.listOf xs.toArray nl) ∈ news := sup2.h _ (by k_mem)
    k_steps
    all_goals
      rename News _ _ _ _ => N5
      rename Fr _ _ _ _ => F5
      refine comp_end_same F5 N5 off (.inr ⟨_, hsrc, rfl, _, rfl⟩) ⟨?_, sup2⟩
      rw [take_next hz, List.filter_append, List.map_append, hys]
      simp_all only [List.filter_cons, List.filter_nil, List.map_cons, List.map_nil, if_true, if_false, Bool.false_eq_true, List.append_nil]
  · rintro ys news' ⟨hys, sup2⟩
    unfold LCg.FinA
    intro D1 h1 tk1 F1 N1 off1
    rw [List.size_toArray, List.take_of_length_le (by rw [List.length_zip]; omega)] at hys
    k_steps
    refine Stop.off ?_
    k_dflt (refine LCt.Assign_ListComp_T (F₀ := by k_asm) (by rfl) (by with_unfolding_all rfl) (by with_unfolding_all rfl) (by decide) (by rfl) (by decide) (by rfl) (by rfl) (by rfl) ?_)
    k_steps
    have hwo : WishL w.params R ys (ws.filter fun wi => wi.tag == k) := by rw [hys]; exact hw.filter (f := fun wi => wi.tag == k)
    have leno : ys.length ≤ 6 := by
      have h1 := hwo.length
      have h2 := List.length_filter_le (fun wi : Wi => wi.tag == k) ws
      omega
    k_dflt (refine LCt.CompSrcT.ledger (by rfl) (by k_asm) (by k_asm) List.mem_cons_self (by rw [PySem.sizeLine_eq, List.size_toArray]; omega) ?_; intro g9)
    refine compT (fun i zs news => IntsAre zs ((((ws.filter fun wi => wi.tag == k).take i).filter fun wi => wi.whole).map (·.val)) ∧ Sup ((D1, LCg.lst ys) :: news') news) (fun i v I' oI' C oC D m₂ zs h tk news E' hi hv hJ hC hx F3 N3 off ne => ?_) ?_ _ 0 [] _ (Nat.zero_add _) ⟨.nil, ⟨fun _ h => h⟩⟩
    · obtain ⟨wi, hwi, a, ax, t1, t2, t3, t4, u1, u2, u3, u4, rfl, ha, hax⟩ := hwo.at (by simpa using hv)
      obtain ⟨hzs, sup3⟩ := hJ
      have hsrc : (D1, LCg.lst ys) ∈ news := sup3.h _ List.mem_cons_self
      have ha' : (a, instObj 100 ax) ∈ news := sup3.h _ (List.mem_cons_of_mem _ (sup2.h _ (by k_mem)))
      have hax' := sup3.h _ (List.mem_cons_of_mem _ (sup2.h _ (List.mem_cons_of_mem _ (List.mem_cons_of_mem _ (sup.h _ hax)))))
      clear hax
      cases hwh : wi.whole
      all_goals
        simp only [hwh, if_true, if_false, Bool.false_eq_true] at hax'
        k_steps
        rename News _ _ _ _ => N5
        rename Fr _ _ _ _ => F5
        refine comp_end_same F5 N5 off (.inr ⟨_, hsrc, rfl, _, rfl⟩) ⟨?_, sup3⟩
        rw [take_next hwi, List.filter_append, List.map_append]
        simp only [List.filter_cons, List.filter_nil, hwh, if_true, if_false, Bool.false_eq_true, List.map_cons, List.map_nil, List.append_nil]
        first | exact ints_snoc hzs | exact hzs
    · rintro zs news2 ⟨hzs, sup3⟩
      unfold LCg.FinA
      intro D2 h2 tk2 F2 N2 off2
      have hz : IntsAre zs (wv (ws.filter fun wi => wi.tag == k)) := by
        have e : (ws.filter fun wi => wi.tag == k).take ys.toArray.size = ws.filter fun wi => wi.tag == k := by
          rw [List.size_toArray, hwo.length, List.take_length]
        rw [e] at hzs; exact hzs
      have S1 : Sup ((I, oI) :: (L + 1 + 1, o') :: R₁) ((D2, LCg.lst zs) :: news2) := ⟨fun p hp => List.mem_cons_of_mem _ (sup3.h _ (List.mem_cons_of_mem _ (sup2.h _ hp)))⟩
      have S0 : Sup R ((D2, LCg.lst zs) :: news2) := ⟨fun p hp => S1.h _ (List.mem_cons_of_mem _ (List.mem_cons_of_mem _ (sup.h _ hp)))⟩
      refine name_rest (fa := fa) (cd := cd) (E := E) (R := (D2, LCg.lst zs) :: news2) (d := d) (dF := dF) (lH := lH) (t := t) (n1 := ys.length) (n2 := zs.length) G (TW.mono S0) (FW.mono S0) hk ⟨rfl, rfl, rfl, rfl, rfl⟩ rfl (hwo.mono S0.h) (by rw [← hwo.length]; exact leno) hz (S1.h _ (List.mem_cons_of_mem _ List.mem_cons_self)) hd (List.mem_cons_of_mem _ (sup3.h _ List.mem_cons_self)) List.mem_cons_self rfl rfl F2 N2 ?_
      intro h' tk' m' R3 F' N' s3 J'
      have S3 := S1.trans s3
      refine ⟨h', tk', m', but (but R3 I) (L + 1 + 1), o', _, rfl, F', news_sub N' fun p hp => ?_, fun p hp => ?_, fun p hp => but_off p hp, hd, ⟨fun p hp => ?_⟩, J'⟩
      · rcases List.mem_cons.mp hp with rfl | hp
        · exact S3.h _ List.mem_cons_self
        · rcases List.mem_cons.mp hp with rfl | hp
          · exact S3.h _ (List.mem_cons_of_mem _ List.mem_cons_self)
          · exact but_sub p (but_sub p hp)
      · exact but_off p (but_sub p hp)
      · have hp' := sup.h p hp
        exact mem_but.mpr ⟨mem_but.mpr ⟨S3.h p (List.mem_cons_of_mem _ (List.mem_cons_of_mem _ hp')), o1 p hp'⟩, o3 p hp'⟩
end name_turnK
theorem name_turn {w : World} {h₀ : Heap} {L fa l d dF lH I : Addr} {cd : Value} {s : Shared} {ar bb : Bool} {t tk : Tok} {k : Str} {m : Str → Option Value} {xs : List Value} {ws : List Wi} {R R₁ : Led} {o' oI : Obj} {Q : Flow → Shared → Prop} {E : Value → Shared → Prop} (G : Base w h₀) (W : WS w.params L l R xs ws) (TW : TS w d R (allT ar bb ws)) (FW : TS w dF R (firstT ar bb)) (hk : k ∈ (allT ar bb ws).map (·.1)) (M : JF d dF lH ar bb t m) (sup : Sup R R₁) (o1 : ∀ q ∈ R₁, q.1 ≠ I) (o2 : I ≠ L + 1 + 1) (o3 : ∀ q ∈ R₁, q.1 ≠ L + 1 + 1) (hd : o'.data = .cell (some (.str k tk))) (F : Fr h₀ L s.heap m) (N : News h₀ L s.heap ((I, oI) :: (L + 1 + 1, o') :: R₁)) (hE : PassesOwn (model PG w) (lawA w L fa cd) (lawE w L fa cd) E) : wpAny (model PG w) (lawA w L fa cd) (execs (forBody w.params 8) (lawE w L fa cd)) (TurnC h₀ L (L + 1 + 1) (fun m' R' => Sup R R' ∧ JF d dF lH ar bb t m') I oI s Q) E s :=
  skol (P := name_turnK.ClaimT) (c := name_turnK.tup) rfl (by with_unfolding_all exact name_turnK.core) (w, h₀, L, fa, l, d, dF, lH, I, cd, s, ar, bb, t, tk, k, m, xs, ws, R, R₁, o', oI, Q, E) G W TW FW hk M sup o1 o2 o3 hd F N hE

end Mine
namespace Mine
/-! sets of texts -/
def strV : Value → Str
  | .str k _ => k
  | _ => Str.ofString ""
section
variable {prog : Program} {w : World} {A : Around} {E : Value → Shared → Prop} {s : Shared}
/-- a set object that holds the texts D, each once -/
def SetP (prog : Program) (w : World) (h : Heap) (a : Addr) (D : List Str) : Prop :=
  ∃ o es ep t, h.get? a = some o ∧ o.ExactSet ∧ o.data = .set es ep t ∧ ElemsOf (PySem.strKind prog w) es.toList ∧ (es.toList.map fun e => strV e.2).Perm D ∧ es.size < scanBound ∧ t.fits es.size = true ∧ (es.size ≠ 0 → t.plain = false)
theorem is_strV {k : Str} {v : Value} (h : (PySem.strKind prog w).is k v = true) : strV v = k := by
  obtain ⟨t, rfl⟩ := Value.isStrOf_shape h
  rfl
theorem elem_is {es : List (Int × Value)} (hel : ElemsOf (PySem.strKind prog w) es) {e : Int × Value} (he : e ∈ es) {k : Str} : (PySem.strKind prog w).is k e.2 = true ↔ strV e.2 = k := by
  constructor
  · exact is_strV
  · intro h
    obtain ⟨⟨k', hk, _⟩, _⟩ := hel e he
    have := is_strV hk
    rw [h] at this
    rw [this]; exact hk
theorem standIn_plain (t : SetTable) (n : Nat) : (t.standIn n).plain = false := rfl
theorem orStandIn_plain {t : SetTable} {n : Nat} (h : t.plain = false) : (t.orStandIn n).plain = false := by
  unfold SetTable.orStandIn
  split
  · exact h
  · rfl
theorem layNew_plain {t : SetTable} {es : Array (Int × Value)} {h : Int} {x : Value} (hp : t.plain = false) : (layNew t es h x).2.1.plain = false := by
  unfold layNew
  split
  · exact orStandIn_plain (by exact hp)
  · rfl
theorem relaid_plain {t t' : SetTable} {hs : Array Int} {n : Nat} {od : Array Nat} (h : t.relaid hs n = some (t', od)) : t'.plain = t.plain := by
  unfold SetTable.relaid SetTable.laid at h
  cases hl : SetTable.layClean (SetTable.sizeAbove n - 1) hs with
  | none => rw [hl] at h; cases h
  | some ow =>
    rw [hl] at h
    cases h; rfl
theorem relayAll_plain {t : SetTable} {es : Array (Int × Value)} {n : Nat} (hp : t.plain = false) : (relayAll t es n).2.1.plain = false := by
  unfold relayAll
  split
  · next t' od h =>
    dsimp only
    split
    · exact (relaid_plain h).trans hp
    · rfl
  · rfl
theorem setP_store {h : Heap} {a : Addr} {o : Obj} {es : Array (Int × Value)} {ep : Nat} {t : SetTable} {D : List Str} (ho : h.get? a = some o) (hex : o.ExactSet) (hd : o.data = .set es ep t)
    {es' : Array (Int × Value)} {t' : SetTable} (hel : ElemsOf (PySem.strKind prog w) es'.toList) (hm : (es'.toList.map fun e => strV e.2).Perm D) (hb : es'.size < scanBound) (hf : t'.fits es'.size = true) (hp : t'.plain = false) :
    (h.update a (Obj.putSet es' t')).get? a = some { o with data := .set es' (ep + 1) t' } ∧ SetP prog w (h.update a (Obj.putSet es' t')) a D := by
  have hg : (h.update a (Obj.putSet es' t')).get? a = some { o with data := .set es' (ep + 1) t' } := by
    have := Heap.get?_update_self (Obj.putSet es' t') ho (by rw [putSet_of es' t' hd]; rfl)
    rw [putSet_of es' t' hd] at this; exact this
  exact ⟨hg, _, es', ep + 1, t', hg, hex, rfl, hel, hm, hb, hf, fun _ => hp⟩
def addS (D : List Str) (k : Str) : List Str := if k ∈ D then D else D ++ [k]
theorem addS_len (D : List Str) (k : Str) : (addS D k).length ≤ D.length + 1 := by unfold addS; split <;> simp
/-- one text added -/
theorem add_str {a : Addr} {D : List Str} {k : Str} {tk : Tok} {Q : Bool → Shared → Prop} (hS : SetP prog w s.heap a D) (hroom : D.length + 1 < scanBound)
    (h : ∀ b h', Heap.SameBut a s.heap h' → SetP prog w h' a (addS D k) → Q b { s with heap := h' }) : wpAny (model prog w) A (setAddHashed a (.str k tk) ((PySem.strKind prog w).hash k)) Q E s := by
  obtain ⟨o, es, ep, t, ho, hex, hd, hel, hmem, hb, hf, hpl⟩ := hS
  have hkey : (PySem.strKind prog w).is k (.str k tk) = true := strKind_is _ _ _ _
  have hsc : (Value.str k tk).scannable = true := rfl
  have hn : es.size = D.length := by rw [← hmem.length_eq, List.length_map, Array.length_toList]
  have hb1 : es.size + 1 < scanBound := by rw [hn]; exact hroom
  unfold setAddHashed setAddHashedIn
  refine wpAny_holding (wpAny_bind (wpAny_setState_of ho hd hf ?_))
  dsimp only
  rw [byScan_of hsc hb hel]
  simp only [↓reduceIte]
  unfold setAddByScan
  refine wpAny_bind ?_
  refine wpAny_bind (wpAny_rule ?_)
  refine wpAny_bind (wpAny_setScan_of hkey ho hd hf hel ?_)
  cases hr : List.findIdx? (fun e => (PySem.strKind prog w).is k e.2) es.toList with
  | some j =>
    dsimp only
    obtain ⟨hj, hpj, _⟩ := List.findIdx?_eq_some_iff_getElem.mp hr
    have hin : k ∈ D := hmem.mem_iff.mp (List.mem_map.mpr ⟨_, List.getElem_mem hj, is_strV hpj⟩)
    refine wpAny_pure (wpAny_pure ?_)
    have e : s = { s with heap := s.heap } := by cases s; rfl
    rw [e]
    refine h _ s.heap (Heap.SameBut.refl a s.heap) ?_
    unfold addS
    rw [if_pos hin]
    exact ⟨o, es, ep, t, ho, hex, hd, hel, hmem, hb, hf, hpl⟩
  | none =>
    dsimp only
    have hin : k ∉ D := fun hk => by
      obtain ⟨e, he, hv⟩ := List.mem_map.mp (hmem.mem_iff.mpr hk)
      have h1 := List.findIdx?_eq_none_iff.mp hr e he
      rw [(elem_is hel he).mpr hv] at h1; cases h1
    have hgw : ∀ (b : Bool) {s₁ : Shared} {Q' : Unit → Shared → Prop}, Q' () s₁ → wpAny (model prog w) A (match b with | true => rule "set.scan.the-table-gave-way" | false => pure ()) Q' E s₁ :=
      fun b s₁ Q' hq => by cases b <;> first | exact wpAny_pure hq | exact wpAny_rule hq
    have hperm := layNew_perm t es ((PySem.strKind prog w).hash k) (.str k tk)
    have hfits := layNew_fits t es ((PySem.strKind prog w).hash k) (.str k tk)
    have hplain := fun q => layNew_plain (t := t) (es := es) (h := (PySem.strKind prog w).hash k) (x := .str k tk) q
    generalize hL : layNew t es ((PySem.strKind prog w).hash k) (.str k tk) = Lx at hperm hfits hplain ⊢
    obtain ⟨es1, t1, wasDummy, gave⟩ := Lx
    dsimp only at hperm hfits hplain ⊢
    rw [Array.toList_push] at hperm
    have hel1 : ElemsOf (PySem.strKind prog w) es1.toList := (hel.push hkey hsc).perm hperm
    have hD : addS D k = D ++ [k] := by unfold addS; rw [if_neg hin]
    have hmem1 : (es1.toList.map fun e => strV e.2).Perm (addS D k) := by
      rw [hD]
      refine (hperm.map _).trans ?_
      rw [List.map_append]
      exact hmem.append (.refl _)
    have hb1' : es1.size < scanBound := by rw [← Array.length_toList, hperm.length_eq, List.length_append, Array.length_toList]; simpa using hb1
    refine wpAny_bind (hgw _ ?_)
    have tail : ∀ (t2 : SetTable), t2.fits es1.size = true → t2.plain = false → ∀ {g : Bool → Sem Unit}, (∀ (b : Bool) (s₁ : Shared) (Q' : Unit → Shared → Prop), Q' () s₁ → wpAny (model prog w) A (g b) Q' E s₁) →
        ∀ {R : Option Bool → Shared → Prop}, (∀ h', Heap.SameBut a s.heap h' → SetP prog w h' a (addS D k) → R (some true) { s with heap := h' }) →
        wpAny (model prog w) A (do
          storeSet a es1 t2
          if (!wasDummy && t2.tooFull) = true then do
              g (relayAll t2 es1 (SetTable.grown es1.size)).2.2
              storeSet a (relayAll t2 es1 (SetTable.grown es1.size)).1 (relayAll t2 es1 (SetTable.grown es1.size)).2.1
              pure (some true)
            else pure (some true)) R E s := by
      intro t2 hf2 hp2 g hg R hR
      refine wpAny_bind (wpAny_storeSet_of ho hd ?_ (fits_of_scanBound hb1'))
      obtain ⟨ho1, hS1⟩ := setP_store (prog := prog) (w := w) ho hex hd hel1 hmem1 hb1' hf2 hp2
      have hsb1 := Heap.SameBut.update s.heap a (Obj.putSet es1 t2)
      split
      · have hp := relayAll_perm t2 es1 (SetTable.grown es1.size)
        have hfr := relayAll_fits t2 es1 (SetTable.grown es1.size)
        have hpr := relayAll_plain (t := t2) (es := es1) (n := SetTable.grown es1.size) hp2
        generalize hRl : relayAll t2 es1 (SetTable.grown es1.size) = Rl at hp hfr hpr ⊢
        obtain ⟨es2, t3, gave2⟩ := Rl
        dsimp only at hp hfr hpr ⊢
        have hsz : es2.size = es1.size := by rw [← Array.length_toList, hp.length_eq, Array.length_toList]
        have hb2 : es2.size < scanBound := by rw [hsz]; exact hb1'
        refine wpAny_bind (hg _ _ _ ?_)
        refine wpAny_bind (wpAny_storeSet_of ho1 rfl ?_ (fits_of_scanBound hb2))
        obtain ⟨_, hS2⟩ := setP_store (prog := prog) (w := w) ho1 hex rfl (hel1.perm hp) ((hp.map _).trans hmem1) hb2 hfr hpr
        exact wpAny_pure (hR _ (hsb1.trans (Heap.SameBut.update _ a _)) hS2)
      · exact wpAny_pure (hR _ hsb1 hS1)
    split
    · refine wpAny_bind ?_
      rw [hashByValue_scannable 8 hsc]
      refine wpAny_pure ?_
      refine tail _ ?_ ?_ ?_ ?_
      · exact SetTable.fits_plain_off hfits
      · rfl
      · intro b s₁ Q' hq; cases b <;> first | exact wpAny_pure hq | exact wpAny_rule hq
      · intro h' hsb hS'; dsimp only; exact wpAny_pure (h _ h' hsb hS')
    · next hq1 =>
      refine wpAny_bind (wpAny_pure ?_)
      simp only [↓reduceIte]
      refine tail _ hfits (by simpa using hq1) ?_ ?_
      · intro b s₁ Q' hq; cases b <;> first | exact wpAny_pure hq | exact wpAny_rule hq
      · intro h' hsb hS'; dsimp only; exact wpAny_pure (h _ h' hsb hS')
end
/-! a drawn order -/
theorem wpAny_choose {M : Model} {A : Around} {E : Value → Shared → Prop} {s : Shared} {src : Source} {n : Nat} {Q : Nat → Shared → Prop} (hn : n ≠ 0) (h : ∀ i d, i < n → Q i { s with drawn := d }) : wpAny M A (choose src n) Q E s :=
  fun _ _ _ => ⟨hn, h _ _ (Nat.mod_lt _ (Nat.pos_of_ne_zero hn))⟩
theorem erase_perm {α : Type} : ∀ {xs : List α} {i : Nat} (hi : i < xs.length), (xs[i] :: xs.eraseIdx i).Perm xs
  | x :: r, 0, _ => .refl _
  | x :: r, i + 1, hi => by
    have h1 : i < r.length := by simpa using hi
    exact (List.Perm.swap x r[i] _).trans ((erase_perm h1).cons x)
theorem draw_perm {α : Type} {M : Model} {A : Around} {E : Value → Shared → Prop} : ∀ (n : Nat) (xs : List α) (s : Shared) (Q : List α → Shared → Prop), xs.length = n → (∀ l d, l.Perm xs → Q l { s with drawn := d }) → wpAny M A (drawOrder n xs) Q E s
  | 0, [], s, Q, _, h => wpAny_pure (h [] s.drawn (.refl _))
  | 0, _ :: _, _, _, hl, _ => by simp at hl
  | n + 1, [], _, _, hl, _ => by simp at hl
  | n + 1, x :: r, s, Q, hl, h => by
    unfold drawOrder
    refine wpAny_bind (wpAny_choose (by simp) fun i d hi => ?_)
    have e1 : (x :: r)[i]? = some (x :: r)[i] := List.getElem?_eq_getElem hi
    rw [e1]
    dsimp only
    refine wpAny_bind (draw_perm n _ _ _ ?_ fun l d' hp => wpAny_pure ?_)
    · rw [List.length_eraseIdx, if_pos hi]; omega
    · exact h _ d' ((hp.cons _).trans (erase_perm hi))
theorem pick_go {α : Type} (next : Nat → Nat) : ∀ (fuel k : Nat) (left : List α) (out : Array α), left.length = fuel → ((pickOrder.go next fuel k left out).toList).Perm (out.toList ++ left)
  | 0, k, left, out, hl => by
    have e : left = [] := List.length_eq_zero_iff.mp hl
    subst e
    unfold pickOrder.go
    rw [List.append_nil]
  | fuel + 1, k, left, out, hl => by
    unfold pickOrder.go
    have hi : next k % left.length < left.length := Nat.mod_lt _ (by omega)
    rw [List.getElem?_eq_getElem hi]
    dsimp only
    refine (pick_go next fuel (k + 1) _ _ (by rw [List.length_eraseIdx, if_pos hi]; omega)).trans ?_
    rw [Array.toList_push, List.append_assoc]
    exact (List.Perm.refl _).append (erase_perm hi)
theorem pick_perm {α : Type} (next : Nat → Nat) (xs : Array α) : (pickOrder next xs).toList.Perm xs.toList := by
  unfold pickOrder
  have := pick_go next xs.size 0 xs.toList #[] (by rw [Array.length_toList])
  simpa using this

end Mine
namespace Mine
theorem SetP.at {prog : Program} {w : World} {h h' : Heap} {a : Addr} {D : List Str} (x : SetP prog w h a D) (k : ∀ o, h.get? a = some o → h'.get? a = some o) : SetP prog w h' a D := by
  obtain ⟨o, es, ep, t, ho, r⟩ := x
  exact ⟨o, es, ep, t, k _ ho, r⟩
theorem SetP.lt {prog : Program} {w : World} {h : Heap} {a : Addr} {D : List Str} (x : SetP prog w h a D) : a < h.objs.size := by
  obtain ⟨o, es, ep, t, ho, r⟩ := x
  exact Heap.lt_size ho
def dedS (ts : List Str) : List Str := ts.foldl addS []
theorem dedS_snoc (ts : List Str) (k : Str) : dedS (ts ++ [k]) = addS (dedS ts) k := by unfold dedS; rw [List.foldl_append]; rfl
theorem dedS_rev {ts : List Str} : ∀ n, ts.length = n → (dedS ts).length ≤ n ∧ (dedS ts).Nodup ∧ ∀ k, k ∈ dedS ts ↔ k ∈ ts := by
  intro n
  induction n generalizing ts with
  | zero =>
    intro h
    have e := List.length_eq_zero_iff.mp h
    subst e
    exact ⟨Nat.le_refl _, List.nodup_nil, fun k => Iff.rfl⟩
  | succ n ih =>
    intro h
    have hne : ts ≠ [] := by intro e; rw [e] at h; simp at h
    have e := List.dropLast_concat_getLast hne
    obtain ⟨i1, i2, i3⟩ := ih (ts := ts.dropLast) (by rw [List.length_dropLast]; omega)
    rw [← e, dedS_snoc]
    refine ⟨Nat.le_trans (addS_len _ _) (by omega), ?_, fun k => ?_⟩
    · unfold addS
      split
      · exact i2
      · next hin =>
        rw [List.nodup_append]
        exact ⟨i2, by simp, fun a ha b hb q => hin (by rw [List.mem_singleton.mp hb] at q; exact q ▸ ha)⟩
    · unfold addS
      split
      · next hin =>
        rw [i3, List.mem_append, List.mem_singleton]
        exact ⟨.inl, fun q => q.elim id fun q => q ▸ (i3 _).mp hin⟩
      · rw [List.mem_append, List.mem_append, i3]
theorem dedS_len (ts : List Str) : (dedS ts).length ≤ ts.length := (dedS_rev _ rfl).1
theorem dedS_nodup (ts : List Str) : (dedS ts).Nodup := (dedS_rev _ rfl).2.1
theorem dedS_mem (ts : List Str) (k : Str) : k ∈ dedS ts ↔ k ∈ ts := (dedS_rev _ rfl).2.2 k
section
variable {prog : Program} {w : World} {A : Around} {R : Result → Shared → Prop} {I : Addr} {fp wr : List Addr} {G : Array GenState → Array GenState → Prop} {n : Nat} {P : Nat → Value → Prop} {St : Nat → Shared → Prop}
theorem set_loop (W : WalksS prog w A.in1 I fp wr G n P St) (S : Addr) (hSf : S ∉ fp) (ts : List Str) (hn : ts.length = n) (hval : ∀ i v, P i v → ∃ k t, ts[i]? = some k ∧ v = .str k t) (hb : n + 1 < scanBound) :
    ∀ (k i : Nat) (s : Shared), n - i = k → i ≤ n → St i s → SetP prog w s.heap S (dedS (ts.take i)) →
      (∀ s', Moved (S :: wr) G s s' → SetP prog w s'.heap S (dedS ts) → R (.ok (.ret .none)) s') →
      codeAny (model prog w) A (.builtin "set.update.loop" ⟨[.ref S, .ref I], []⟩) R s := by
  have hSw : S ∉ wr := fun h => hSf (W.sub _ h)
  have hsub : ∀ b ∈ wr, b ∈ S :: wr := fun b hb => List.mem_cons_of_mem _ hb
  intro k
  induction k with
  | zero =>
    intro i s hk hi hst hS hR
    have hin : i = n := by omega
    subst hin
    refine codeAny_builtin PyProof.Rows.F.entry_set_update_loop ?_
    rw [Around.under_plainId PyProof.Rows.F.plain_set_update_loop _]
    show wpAny _ A.in1 (pyNext (.ref I) >>= _) _ _ s
    refine wpAny_bind (W.done s _ _ hst fun s' hm => ?_)
    show wpAny _ A.in1 (ret Value.none) _ _ s'
    rw [← hn, List.take_length] at hS
    exact wpAny_pure (hR s' (hm.mono hsub) (hS.at fun o ho => hm.heap S _ hSw ho))
  | succ k ih =>
    intro i s hk hi hst hS hR
    have hlt : i < n := by omega
    refine codeAny_builtin PyProof.Rows.F.entry_set_update_loop ?_
    rw [Around.under_plainId PyProof.Rows.F.plain_set_update_loop _]
    show wpAny _ A.in1 (pyNext (.ref I) >>= _) _ _ s
    refine wpAny_bind (W.item i s _ _ hlt hst fun v s' hP hst' hm => ?_)
    obtain ⟨y, t, hy, rfl⟩ := hval i v hP
    have hS' := hS.at (h' := s'.heap) fun o ho => hm.heap S _ hSw ho
    show wpAny _ A.in1 (holding [Value.str y t] (setAdd S (.str y t)) >>= _) _ _ s'
    refine wpAny_bind (wpAny_holding ?_)
    unfold setAdd
    refine wpAny_holding ?_
    refine wpAny_bind ((PySem.strKind prog w).pyHash (k := y) (strKind_is _ _ _ _) ?_)
    have hroom : (dedS (ts.take i)).length + 1 < scanBound := by
      have h1 := dedS_len (ts.take i)
      rw [List.length_take] at h1
      omega
    refine add_str (s := { s' with toks := s'.toks + 1 }) hS' hroom fun b h' hsb hS2 => ?_
    have hSi : SetP prog w h' S (dedS (ts.take (i + 1))) := by
      rw [List.take_add_one, hy]
      rw [← dedS_snoc] at hS2
      exact hS2
    refine wpAny_pure ⟨plainId_quiet PyProof.Rows.F.plain_set_update_loop _, ih (i + 1) _ (by omega) hlt (W.frame _ s' _ _ hst' (Nat.le_succ _) fun b hb o e => ?_) hSi fun s'' hm'' hS'' => ?_⟩
    · rw [hsb.2 b (fun h : b = S => hSf (by rw [← h]; exact hb))]; exact e
    · refine hR s'' (Moved.trans W.gtrans ((hm.mono hsub).then_heap (Nat.le_succ _) fun b o hb e => ?_) hm'') hS''
      rw [hsb.2 b (fun h : b = S => hb (by rw [h]; exact List.mem_cons_self))]; exact e
end
section
variable {prog : Program} {w : World} {A : Around} {E : Value → Shared → Prop} {s : Shared}
theorem strs_val {vs : List Value} {ts : List Str} (h : StrsAre vs ts) : ∀ {i : Nat} {v : Value}, vs[i]? = some v → ∃ k t, ts[i]? = some k ∧ v = .str k t := by
  induction h with
  | nil => intro i v e; simp at e
  | cons x t _ ih =>
    intro i v e
    cases i with
    | zero => exact ⟨x, t, rfl, (Option.some.inj (by simpa using e)).symm⟩
    | succ i => exact ih (by simpa using e)
end
namespace call_set_strsK
abbrev Claim (prog : Program) (w : World) (A : Around) (E : Value → Shared → Prop) (s : Shared) (l : Addr) (items : Array Value) (ts : List Str) (Q : Value → Shared → Prop) : Prop :=
  ∀ (hh : A.handled = none) (hl : s.heap.IsList l items) (hi : StrsAre items.toList ts) (hb : items.size + 1 < scanBound) (h : ∀ (h' : Heap) (tk : Nat), SetP prog w h' s.heap.objs.size (dedS ts) → (∀ b o, b < s.heap.objs.size → s.heap.get? b = some o → h'.get? b = some o) → Q (.ref s.heap.objs.size) { s with heap := h', toks := tk }), wpAny (model prog w) A (call (.type "set") [.ref l]) Q E s
abbrev ClaimT (p : (Program) × (World) × (Around) × (Value → Shared → Prop) × (Shared) × (Addr) × (Array Value) × (List Str) × (Value → Shared → Prop)) : Prop := Claim (p.1) (p.2.1) (p.2.2.1) (p.2.2.2.1) (p.2.2.2.2.1) (p.2.2.2.2.2.1) (p.2.2.2.2.2.2.1) (p.2.2.2.2.2.2.2.1) (p.2.2.2.2.2.2.2.2)
theorem some_tup : Nonempty ((Program) × (World) × (Around) × (Value → Shared → Prop) × (Shared) × (Addr) × (Array Value) × (List Str) × (Value → Shared → Prop)) := some_pair inferInstance (some_pair some_world (some_pair some_around (some_pair inferInstance (some_pair some_shared (some_pair inferInstance (some_pair inferInstance (some_pair inferInstance (inferInstance))))))))
noncomputable def tup : (Program) × (World) × (Around) × (Value → Shared → Prop) × (Shared) × (Addr) × (Array Value) × (List Str) × (Value → Shared → Prop) := @Classical.epsilon _ some_tup fun p => ¬ ClaimT p
@[irreducible] noncomputable def prog : Program := tup.1
@[irreducible] noncomputable def w : World := tup.2.1
@[irreducible] noncomputable def A : Around := tup.2.2.1
@[irreducible] noncomputable def E : Value → Shared → Prop := tup.2.2.2.1
@[irreducible] noncomputable def s : Shared := tup.2.2.2.2.1
@[irreducible] noncomputable def l : Addr := tup.2.2.2.2.2.1
@[irreducible] noncomputable def items : Array Value := tup.2.2.2.2.2.2.1
@[irreducible] noncomputable def ts : List Str := tup.2.2.2.2.2.2.2.1
@[irreducible] noncomputable def Q : Value → Shared → Prop := tup.2.2.2.2.2.2.2.2
set_option maxHeartbeats 3200000 in
theorem core : Claim prog w A E s l items ts Q := by
  intro hh hl hi hb h
  have htl : ts.length = items.size := by rw [← hi.length, Array.length_toList]
  obtain ⟨c, tl, hmro⟩ := F.called_set.mro
  have hmade := F.called_set.made
  have hsub := F.called_set.sub
  refine wpAny_call (codeAny_of_tree ?_)
  show wpAny _ _ (callAny (.type "set") _) _ _ _
  refine wpAny_pure ⟨Code.quiet_builtin _ (by decide +kernel), codeAny_builtin F.entry_type_call ?_⟩
  rw [Around.under_plain (weight_type_call_type "set" [.ref l] []) rfl]
  have h1 := F.called_set.notType
  have h2 := F.called_set.canCreate
  have hct := F.typeCall_set_1 (.ref l)
  repeat (any_goals (first | assumption | wp_step))
  refine codeAny_mono (code_set_new_1 (.ref l) (E := E) (Q₁ := fun obj s₁ => ∃ led : Bool, obj = .ref s.heap.objs.size ∧ s₁ = { s with heap := s.heap.push { cls := .type "set", dict := none, data := .set #[] 0 (.fresh 0 0 led) } }) fun led => ⟨led, rfl, rfl⟩) fun r s₁ hr => ?_
  cases r with
  | error e => exact hr
  | ok fl =>
    cases fl with
    | ret obj =>
      obtain ⟨led, rfl, rfl⟩ := hr
      have hS : (s.heap.push { cls := .type "set", dict := none, data := .set #[] 0 (.fresh 0 0 led) }).get? s.heap.objs.size = some { cls := .type "set", dict := none, data := .set #[] 0 (.fresh 0 0 led) } := Heap.get?_push_size _ rfl
      have hT : Shared.TypeIs { s with heap := s.heap.push { cls := .type "set", dict := none, data := .set #[] 0 (.fresh 0 0 led) } } (.ref s.heap.objs.size) "set" := ⟨_, hS, rfl⟩
      have hli := F.called_set.init.lookup
      have hbi := F.called_set.init.bind (.ref s.heap.objs.size)
      repeat (any_goals (first | assumption | wp_step))
      refine codeAny_mono (codeAny_call_builtin (R := wants (fun r s₂ => r = .none ∧ ∃ h' tk, s₂ = { s with heap := h', toks := tk } ∧
          SetP prog w h' s.heap.objs.size (dedS ts) ∧ (∀ b o, b < s.heap.objs.size → s.heap.get? b = some o → h'.get? b = some o)) E) F.called_set.init.plain F.entry_set_init (check_set_init_1 hT ?_)) fun r₂ s₂ hr₂ => ?_
      · obtain ⟨ol, hol, hcl, nl, hdl⟩ := hl
        obtain ⟨ocls, odict, odata, oslots⟩ := ol
        simp only at hcl hdl
        subst hcl; subst hdl
        have hol' : (s.heap.push { cls := .type "set", dict := none, data := .set #[] 0 (.fresh 0 0 led) }).get? l = some { cls := .type "list", dict := odict, data := .seq items nl, slots := oslots } := Heap.get?_push_of_some _ hol
        have hsls := F.sub_list_set
        have hslf := F.sub_list_frozenset
        have hne : (Value.type "list" == Value.type "dict") = false := by decide
        have hl1 : (s.heap.push { cls := .type "set", dict := none, data := .set #[] 0 (.fresh 0 0 led) }).IsList l items := ⟨_, hol', rfl, nl, rfl⟩
        unfold Builtin.«set.__init__» noKeywords Builtin.Frozenset.updateFrom
        generalize hPI : pyIter = PI
        wp_walk
        subst hPI
        refine wpAny_pyIter_list hl1 ?_
        refine wpAny_bind (wpAny_runValue ?_)
        have hlS : l < s.heap.objs.size := Heap.lt_size hol
        have hh3 : A.in1.in1.in1.handled = none := by simp [hh]
        have hneI : l ≠ (s.heap.push { cls := .type "set", dict := none, data := .set #[] 0 (.fresh 0 0 led) }).objs.size := by
          rw [Heap.size_push]; exact Nat.ne_of_lt (Nat.lt_succ_of_lt hlS)
        have hSf : s.heap.objs.size ∉ [(s.heap.push { cls := .type "set", dict := none, data := .set #[] 0 (.fresh 0 0 led) }).objs.size, l] := by
          rw [Heap.size_push]; simp only [List.mem_cons, List.mem_singleton, List.not_mem_nil, or_false, not_or]
          exact ⟨Nat.ne_of_lt (Nat.lt_succ_self _), Nat.ne_of_gt hlS⟩
        have hval : ∀ (i : Nat) (v : Value), items[i]? = some v → ∃ k t, ts[i]? = some k ∧ v = .str k t := fun i v hv => strs_val hi (by rw [Array.getElem?_toList]; exact hv)
        refine set_loop ((Walks.list hh3 _ l hneI items).toS) s.heap.objs.size hSf ts htl hval hb (items.size - 0) 0 _ (by omega) (Nat.zero_le _)
          ⟨⟨_, Heap.get?_push_size _ rfl, rfl, rfl⟩, (hl1.push _)⟩ ?hS0 ?hR
        case hS0 =>
          exact ⟨_, #[], 0, _, Heap.get?_push_of_some _ hS, ⟨rfl, rfl, rfl⟩, rfl, (fun e he => by simp at he), .refl _, by decide, rfl, fun q => absurd rfl q⟩
        case hR =>
          intro s' hm hS'
          obtain ⟨h', g', d', tk', os'⟩ := s'
          have eg : g' = s.gens := hm.gens
          have ed : d' = s.drawn := hm.drawn
          have eo : os' = s.os := hm.os
          subst eg; subst ed; subst eo
          show wpAny _ _ _ _ _ _
          refine wpAny_pure ?_
          show wpAny _ _ (ret Value.none) _ _ _
          refine wpAny_pure ⟨rfl, h', tk', rfl, hS', fun b o hb e => ?_⟩
          have hb1 : b ≠ s.heap.objs.size := Nat.ne_of_lt hb
          have hb2 : b ≠ (s.heap.push { cls := .type "set", dict := none, data := .set #[] 0 (.fresh 0 0 led) }).objs.size := by
            rw [Heap.size_push]; exact Nat.ne_of_lt (Nat.lt_succ_of_lt hb)
          exact hm.heap b o (by simp only [List.mem_cons, List.mem_singleton, List.not_mem_nil, or_false, not_or]; exact ⟨hb1, hb2⟩) (Heap.get?_push_of_some _ (Heap.get?_push_of_some _ e))
      · cases r₂ with
        | error e => exact hr₂
        | ok fl₂ =>
          cases fl₂ with
          | ret r =>
            obtain ⟨rfl, h', tk, rfl, hS', hk'⟩ := hr₂
            repeat (any_goals (first | assumption | wp_step))
            exact h _ _ hS' hk'
          | _ => exact hr₂.elim
    | _ => exact hr.elim
end call_set_strsK
theorem call_set_strs {prog : Program} {w : World} {A : Around} {E : Value → Shared → Prop} {s : Shared} {l : Addr} {items : Array Value} {ts : List Str} {Q : Value → Shared → Prop} (hh : A.handled = none) (hl : s.heap.IsList l items) (hi : StrsAre items.toList ts) (hb : items.size + 1 < scanBound) (h : ∀ (h' : Heap) (tk : Nat), SetP prog w h' s.heap.objs.size (dedS ts) → (∀ b o, b < s.heap.objs.size → s.heap.get? b = some o → h'.get? b = some o) → Q (.ref s.heap.objs.size) { s with heap := h', toks := tk }) : wpAny (model prog w) A (call (.type "set") [.ref l]) Q E s :=
  skol (P := call_set_strsK.ClaimT) (c := call_set_strsK.tup) rfl (by with_unfolding_all exact call_set_strsK.core) (prog, w, A, E, s, l, items, ts, Q) hh hl hi hb h
section
variable {prog : Program} {w : World} {A : Around} {E : Value → Shared → Prop} {s : Shared}
end

end Mine
namespace Mine
theorem slot_seti_next : Slot "set_iterator" "__next__" "set_iterator.__next__" :=
  .of (owner := "set_iterator") (n := "__next__") (by rw [typeLookup_type, builtinLookup_eq_fast]; kernel_rfl) (by decide +kernel) (by decide +kernel) (by decide +kernel)
    (by first | exact .inl (by decide +kernel) | exact .inr (by decide +kernel)) (by rw [isSubtype_type]; kernel_rfl)
theorem slot_seti_iter : Slot "set_iterator" "__iter__" "set_iterator.__iter__" :=
  .of (owner := "set_iterator") (n := "__iter__") (by rw [typeLookup_type, builtinLookup_eq_fast]; kernel_rfl) (by decide +kernel) (by decide +kernel) (by decide +kernel)
    (by first | exact .inl (by decide +kernel) | exact .inr (by decide +kernel)) (by rw [isSubtype_type]; kernel_rfl)
theorem entry_seti_next : entryFor table "set_iterator.__next__" = some Builtin.«set_iterator.__next__» := entryFor_of_tree (by kernel_rfl)
theorem entry_seti_iter : entryFor table "set_iterator.__iter__" = some Builtin.«dict_keyiterator.__iter__» :=
  entryFor_alias (id' := "dict_keyiterator.__iter__") (by kernel_rfl) rfl (by decide +kernel) (by kernel_rfl)
theorem entry_set_iter : entryFor table "set.__iter__" = some Builtin.«frozenset.__iter__» :=
  entryFor_alias (id' := "frozenset.__iter__") (by kernel_rfl) rfl (by decide +kernel) (by kernel_rfl)
theorem args_seti_next (a : Value) : argsOk "set_iterator.__next__" ⟨[a], []⟩ := by unfold argsOk; kernel_rfl
theorem args_seti_iter (a : Value) : argsOk "set_iterator.__iter__" ⟨[a], []⟩ := by unfold argsOk; kernel_rfl
abbrev siObj (first : Value) (i : Int) (a : Addr) (n ep : Nat) : Obj := { cls := .type "set_iterator", data := .fields #[first, .int i 0, .ref a, .int n 0, .int ep 0] }
section
variable {prog : Program} {w : World} {A : Around} {E : Value → Shared → Prop} {s : Shared}
theorem si_type {I a : Addr} {first : Value} {i : Int} {n ep : Nat} (hit : s.heap.get? I = some (siObj first i a n ep)) : s.TypeIs (.ref I) "set_iterator" := ⟨_, hit, rfl⟩
theorem si_self {I a : Addr} {first : Value} {i : Int} {n ep : Nat} {Q : Value → Shared → Prop} (hit : s.heap.get? I = some (siObj first i a n ep)) (h : Q (.ref I) s) : wpAny (model prog w) A (pyIter (.ref I)) Q E s := by
  refine wpAny_pyIter_slot (si_type hit) slot_seti_iter (wpAny_call_entry slot_seti_iter (si_type hit) entry_seti_iter ?_ (args_seti_iter _))
  show wpAny _ _ (ret (.ref I)) _ _ s
  exact wpAny_pure ⟨_, rfl, "set_iterator", _, si_type hit, slot_seti_next.lookup, h⟩
theorem wp_byText {M : Model} {A : Around} {E : Value → Shared → Prop} {s : Shared} {Q : Bool → Shared → Prop} (h : Q (M.w.params.followText "set-order") s) : wpAny M A setsByText Q E s := by
  unfold setsByText
  exact wpAny_bind (wpAny_askSetting (wpAny_pure h))
theorem wp_walk_text {a : Addr} {o : Obj} {es : Array (Int × Value)} {ep : Nat} {t : SetTable} {Q : Array (Int × Value) → Shared → Prop} (ho : s.heap.get? a = some o) (hd : o.data = .set es ep t) (hf : t.fits es.size = true)
    (hp : w.params.followText "set-order" = true) (h : Q (pickOrder (w.params.setOrder a ep) es) s) : wpAny (model prog w) A (setWalk a) Q E s := by
  unfold setWalk
  refine wpAny_bind (wpAny_setState_of ho hd hf ?_)
  dsimp only
  refine wpAny_bind (wp_byText ?_)
  rw [show (model prog w).w.params.followText "set-order" = true from hp, if_pos rfl]
  exact wpAny_bind (wpAny_askSetting (wpAny_pure h))
theorem wp_next_text {a : Addr} {o : Obj} {es : Array (Int × Value)} {ep sl i : Nat} {t : SetTable} {Q : Option (Value × Nat) → Shared → Prop} (ho : s.heap.get? a = some o) (hd : o.data = .set es ep t) (hf : t.fits es.size = true)
    (hp : w.params.followText "set-order" = true) (h : Q (((pickOrder (w.params.setOrder a ep) es)[i]?).map fun e => (e.2, sl)) s) : wpAny (model prog w) A (setNext a sl i ep) Q E s := by
  unfold setNext
  refine wpAny_bind (wpAny_setState_of ho hd hf ?_)
  dsimp only
  refine wpAny_bind (wp_byText ?_)
  rw [show (model prog w).w.params.followText "set-order" = true from hp, if_pos rfl]
  rw [if_neg (by simp)]
  exact wpAny_bind (wp_walk_text ho hd hf hp (wpAny_pure h))
theorem raise_stop {h' : Heap} {g : Array GenState} {d : Drawn} {tk : Nat} {os : OsState} {I : Addr} {h : Heap} {Q : Option Value → Shared → Prop} (hh : A.handled = none) (hx : Heap.ExtBut I h h') (hQ : ∀ h'', Heap.ExtBut I h h'' → Q none ⟨h'', g, d, tk, os⟩) :
    wpAny (model prog w) A.in1 (newExc (.type "StopIteration") [] >>= fun x => (raiseNew x : Sem Fin))
      (fun fin s' => ∃ v, fin = Fin.done (Flow.ret v) ∧ wpAny (model prog w) A (pure (some v)) Q E s')
      (fun e s' => wpAny (model prog w) A (do let b ← isInstance e (Value.type "StopIteration"); if b = true then pure none else throw e) Q E s') ⟨h', g, d, tk, os⟩ := by
  refine wpAny_bind ?_
  simp only [newExc, newTuple]
  refine wpAny_bind (wpAny_newObj_type ?_ (by size_fits))
  refine wpAny_bind (m := firstArgMember _ _) (wpAny_of_eq (a := Value.none) (by first | rfl | (simp only [firstArgMember]; rfl)) ?_)
  refine wpAny_newObj_type ?_ (by size_fits)
  simp only [raiseNew]
  refine wpAny_bind (wpAny_handled ?_)
  rw [show A.in1.handled = none from hh]
  refine wpAny_bind (wpAny_pure (wpAny_throw ?_))
  refine wpAny_bind (wpAny_isInstance (T := "StopIteration") (b := true) ⟨_, Heap.get?_push_size _ rfl, rfl⟩ isSubtype_stop ?_)
  exact wpAny_pure (hQ _ ((hx.push _).push _))
theorem si_next_text {I a : Addr} {o : Obj} {es : Array (Int × Value)} {i ep : Nat} {t : SetTable} {e : Int × Value} {Q : Option Value → Shared → Prop} (hit : s.heap.get? I = some (siObj (.int 0 0) i a es.size ep)) (ho : s.heap.get? a = some o) (hd : o.data = .set es ep t) (hf : t.fits es.size = true)
    (hp : w.params.followText "set-order" = true) (he : (pickOrder (w.params.setOrder a ep) es)[i]? = some e)
    (hQ : ∀ h', h'.get? I = some (siObj (.int 0 0) (i + 1 : Nat) a es.size ep) → Heap.SameBut I s.heap h' → Q (some e.2) { s with heap := h' }) : wpAny (model prog w) A (pyNext (.ref I)) Q E s := by
  unfold pyNext
  refine wpAny_bind (wpAny_attempt (wpAny_callSpecial?_slot (name := Str.ofString "__next__") (si_type hit) slot_seti_next
    (wpAny_call_entry slot_seti_next (si_type hit) entry_seti_next ?_ (args_seti_next _))))
  unfold Builtin.«set_iterator.__next__»
  refine wpAny_bind (m := slotArgs _ _ _) (wpAny_pure ?_)
  refine wpAny_bind (wpAny_fieldsOf hit rfl ?_)
  dsimp only
  refine wpAny_bind (wpAny_setEntries_of ho hd hf ?_)
  rw [if_neg (by simp)]
  refine wpAny_bind (wp_next_text ho hd hf hp ?_)
  simp only [Int.toNat_natCast]
  rw [he]
  simp only [Option.map_some]
  refine wpAny_bind (wpAny_setField_rec hit (by simp) fun h1 e1 s1 => ?_)
  refine wpAny_bind (wpAny_setField_rec e1 (by simp) fun h2 e2 s2 => ?_)
  refine wpAny_pure ⟨_, rfl, wpAny_pure (hQ h2 ?_ (s1.trans s2))⟩
  rw [e2]
  rfl
theorem si_end_text {I a : Addr} {o : Obj} {es : Array (Int × Value)} {i ep : Nat} {t : SetTable} {Q : Option Value → Shared → Prop} (hh : A.handled = none) (hit : s.heap.get? I = some (siObj (.int 0 0) i a es.size ep)) (ho : s.heap.get? a = some o) (hd : o.data = .set es ep t) (hf : t.fits es.size = true)
    (hp : w.params.followText "set-order" = true) (he : (pickOrder (w.params.setOrder a ep) es)[i]? = none)
    (hQ : ∀ h', Heap.ExtBut I s.heap h' → Q none { s with heap := h' }) : wpAny (model prog w) A (pyNext (.ref I)) Q E s := by
  unfold pyNext
  refine wpAny_bind (wpAny_attempt (wpAny_callSpecial?_slot (name := Str.ofString "__next__") (si_type hit) slot_seti_next
    (wpAny_call_entry slot_seti_next (si_type hit) entry_seti_next ?_ (args_seti_next _))))
  unfold Builtin.«set_iterator.__next__»
  refine wpAny_bind (m := slotArgs _ _ _) (wpAny_pure ?_)
  refine wpAny_bind (wpAny_fieldsOf hit rfl ?_)
  dsimp only
  refine wpAny_bind (wpAny_setEntries_of ho hd hf ?_)
  rw [if_neg (by simp)]
  refine wpAny_bind (wp_next_text ho hd hf hp ?_)
  simp only [Int.toNat_natCast]
  rw [he]
  simp only [Option.map_none]
  refine wpAny_bind (wpAny_setField_rec hit (by simp) fun h1 e1 s1 => ?_)
  exact raise_stop hh s1.extBut hQ
theorem si_next_drawn {I a p : Addr} {o op : Obj} {es : Array (Int × Value)} {l : List Nat} {nn i j ep : Nat} {t : SetTable} {e : Int × Value} {Q : Option Value → Shared → Prop} (hit : s.heap.get? I = some (siObj (.ref p) i a es.size ep)) (ho : s.heap.get? a = some o) (hd : o.data = .set es ep t) (hf : t.fits es.size = true)
    (hop : s.heap.get? p = some op) (hdp : op.data = .seq (l.map fun (i : Nat) => rawInt i).toArray nn) (hj : l[i]? = some j) (he : es[j]? = some e)
    (hQ : ∀ h', h'.get? I = some (siObj (.ref p) (i + 1 : Nat) a es.size ep) → Heap.SameBut I s.heap h' → Q (some e.2) { s with heap := h' }) : wpAny (model prog w) A (pyNext (.ref I)) Q E s := by
  unfold pyNext
  refine wpAny_bind (wpAny_attempt (wpAny_callSpecial?_slot (name := Str.ofString "__next__") (si_type hit) slot_seti_next
    (wpAny_call_entry slot_seti_next (si_type hit) entry_seti_next ?_ (args_seti_next _))))
  unfold Builtin.«set_iterator.__next__»
  refine wpAny_bind (m := slotArgs _ _ _) (wpAny_pure ?_)
  refine wpAny_bind (wpAny_fieldsOf hit rfl ?_)
  dsimp only
  refine wpAny_bind (wpAny_setEntries_of ho hd hf ?_)
  rw [if_neg (by simp)]
  refine wpAny_bind (wpAny_seqItems hop hdp ?_)
  dsimp only
  have e1 : (l.map fun (i : Nat) => rawInt i).toArray[(i : Int).toNat]? = some (rawInt j) := by
    rw [Int.toNat_natCast]; simp [hj]
  rw [e1]
  simp only [rawInt]
  unfold setNextDrawn
  refine wpAny_bind (wpAny_bind (wpAny_setState_of ho hd hf ?_))
  dsimp only
  rw [if_neg (by simp)]
  rw [Int.toNat_natCast, he]
  refine wpAny_pure ?_
  refine wpAny_bind (wpAny_setField_rec hit (by simp) fun h1 e1 s1 => ?_)
  refine wpAny_pure ⟨_, rfl, wpAny_pure (hQ h1 ?_ s1)⟩
  rw [e1]
  rfl
theorem si_end_drawn {I a p : Addr} {o op : Obj} {es : Array (Int × Value)} {l : List Nat} {nn i ep : Nat} {t : SetTable} {Q : Option Value → Shared → Prop} (hh : A.handled = none) (hit : s.heap.get? I = some (siObj (.ref p) i a es.size ep)) (ho : s.heap.get? a = some o) (hd : o.data = .set es ep t) (hf : t.fits es.size = true)
    (hop : s.heap.get? p = some op) (hdp : op.data = .seq (l.map fun (i : Nat) => rawInt i).toArray nn) (hj : l[i]? = none)
    (hQ : ∀ h', Heap.ExtBut I s.heap h' → Q none { s with heap := h' }) : wpAny (model prog w) A (pyNext (.ref I)) Q E s := by
  unfold pyNext
  refine wpAny_bind (wpAny_attempt (wpAny_callSpecial?_slot (name := Str.ofString "__next__") (si_type hit) slot_seti_next
    (wpAny_call_entry slot_seti_next (si_type hit) entry_seti_next ?_ (args_seti_next _))))
  unfold Builtin.«set_iterator.__next__»
  refine wpAny_bind (m := slotArgs _ _ _) (wpAny_pure ?_)
  refine wpAny_bind (wpAny_fieldsOf hit rfl ?_)
  dsimp only
  refine wpAny_bind (wpAny_setEntries_of ho hd hf ?_)
  rw [if_neg (by simp)]
  refine wpAny_bind (wpAny_seqItems hop hdp ?_)
  dsimp only
  have e1 : (l.map fun (i : Nat) => rawInt i).toArray[(i : Int).toNat]? = none := by
    rw [Int.toNat_natCast]; simpa using hj
  rw [e1]
  dsimp only
  refine wpAny_bind (wpAny_setField_rec hit (by simp) fun h1 e1 s1 => ?_)
  refine wpAny_bind (wpAny_setField_rec e1 (by simp) fun h2 e2 s2 => ?_)
  exact raise_stop hh (s1.trans s2).extBut hQ
end

end Mine
namespace Mine
section
variable {prog : Program} {w : World} {A : Around} {E : Value → Shared → Prop} {s : Shared}
theorem walks_text (hh : A.handled = none) {I a : Addr} (hne : a ≠ I) {o : Obj} {es : Array (Int × Value)} {ep : Nat} {t : SetTable} (hd : o.data = .set es ep t) (hf : t.fits es.size = true) (hp : w.params.followText "set-order" = true) :
    Walks prog w A I [I, a] [I] es.size (fun i v => ((pickOrder (w.params.setOrder a ep) es).toList.map (·.2))[i]? = some v) (fun i h => h.get? I = some (siObj (.int 0 0) i a es.size ep) ∧ h.get? a = some o) where
  sub := fun b hb => by rw [List.mem_singleton.mp hb]; exact List.mem_cons_self
  frame := fun _ _ _ st hk => ⟨hk I List.mem_cons_self _ st.1, hk a (List.mem_cons_of_mem _ List.mem_cons_self) _ st.2⟩
  item := fun i s Q E hi st hQ => by
    have hl : (pickOrder (w.params.setOrder a ep) es).size = es.size := by
      have := (pick_perm (w.params.setOrder a ep) es).length_eq
      simpa using this
    have he : (pickOrder (w.params.setOrder a ep) es)[i]? = some ((pickOrder (w.params.setOrder a ep) es)[i]'(by omega)) := Array.getElem?_eq_getElem (by omega)
    refine si_next_text st.1 st.2 hd hf hp he fun h' hI' hs' => ?_
    refine hQ _ h' s.toks ?_ ⟨hI', hs'.extBut _ _ hne st.2⟩ fun b o hb e => hs'.extBut b o (fun h => hb (by simp [h])) e
    rw [List.getElem?_map, Array.getElem?_toList, he]; rfl
  done := fun s Q E st hQ => by
    have hl : (pickOrder (w.params.setOrder a ep) es).size = es.size := by
      have := (pick_perm (w.params.setOrder a ep) es).length_eq
      simpa using this
    refine si_end_text hh st.1 st.2 hd hf hp (Array.getElem?_eq_none (by omega)) fun h' hx => hQ h' s.toks fun b o hb e => hx b o (fun h => hb (by simp [h])) e
  self := fun i s Q E st hQ => si_self st.1 hQ
theorem walks_drawn (hh : A.handled = none) {I a p : Addr} (hne : a ≠ I) (hnp : p ≠ I) {o op : Obj} {es : Array (Int × Value)} {l : List Nat} {nn ep : Nat} {t : SetTable} (hd : o.data = .set es ep t) (hf : t.fits es.size = true)
    (hdp : op.data = .seq (l.map fun (i : Nat) => rawInt i).toArray nn) (hl : l.length = es.size) (hb : ∀ j ∈ l, j < es.size) :
    Walks prog w A I [I, a, p] [I] es.size (fun i v => (l.map fun j => (es.getD j (0, .none)).2)[i]? = some v) (fun i h => h.get? I = some (siObj (.ref p) i a es.size ep) ∧ h.get? a = some o ∧ h.get? p = some op) where
  sub := fun b hb => by rw [List.mem_singleton.mp hb]; exact List.mem_cons_self
  frame := fun _ _ _ st hk => ⟨hk I List.mem_cons_self _ st.1, hk a (List.mem_cons_of_mem _ List.mem_cons_self) _ st.2.1, hk p (List.mem_cons_of_mem _ (List.mem_cons_of_mem _ List.mem_cons_self)) _ st.2.2⟩
  item := fun i s Q E hi st hQ => by
    have hj : l[i]? = some (l[i]'(by omega)) := List.getElem?_eq_getElem (by omega)
    have hlt := hb _ (List.getElem_mem (h := (by omega : i < l.length)))
    have he : es[l[i]'(by omega)]? = some (es[l[i]'(by omega)]) := Array.getElem?_eq_getElem hlt
    refine si_next_drawn st.1 st.2.1 hd hf st.2.2 hdp hj he fun h' hI' hs' => ?_
    refine hQ _ h' s.toks ?_ ⟨hI', hs'.extBut _ _ hne st.2.1, hs'.extBut _ _ hnp st.2.2⟩ fun b o hb e => hs'.extBut b o (fun h => hb (by simp [h])) e
    rw [List.getElem?_map, hj]
    simp [Array.getD, hlt]
  done := fun s Q E st hQ => by
    refine si_end_drawn hh st.1 st.2.1 hd hf st.2.2 hdp (List.getElem?_eq_none (by omega)) fun h' hx => hQ h' s.toks fun b o hb e => hx b o (fun h => hb (by simp [h])) e
  self := fun i s Q E st hQ => si_self st.1 hQ
theorem strs_elem {es : List (Int × Value)} (hel : ElemsOf (PySem.strKind prog w) es) {e : Int × Value} (he : e ∈ es) : ∃ k t, e.2 = .str k t := by
  obtain ⟨⟨k, hk, _⟩, _⟩ := hel e he
  obtain ⟨t, ht⟩ := Value.isStrOf_shape hk
  exact ⟨k, t, ht⟩
theorem range_vals (es : Array (Int × Value)) : (List.range es.size).map (fun j => es.getD j (0, .none)) = es.toList := by
  refine List.ext_getElem (by simp) fun i h1 h2 => ?_
  simp at h1
  simp [Array.getD, h1]
theorem wp_drawn {a : Addr} {o : Obj} {es : Array (Int × Value)} {ep : Nat} {t : SetTable} {Q : Bool → Shared → Prop} (ho : s.heap.get? a = some o) (hd : o.data = .set es ep t) (hf : t.fits es.size = true)
    (h : Q (!w.params.followText "set-order" && (!t.plain && decide (es.size > 1))) s) : wpAny (model prog w) A (setDrawn a) Q E s := by
  unfold setDrawn
  refine wpAny_bind (wpAny_setState_of ho hd hf ?_)
  dsimp only
  refine wpAny_bind (wp_byText ?_)
  exact wpAny_pure h
/-- the iterator of a set of texts -/
theorem iter_set {a : Addr} {D : List Str} {Q : Value → Shared → Prop} (hS : SetP prog w s.heap a D) (hsz : 1 < D.length)
    (h : ∀ (h' : Heap) (d : Drawn) (I : Addr) (fp : List Addr) (vs : List Value) (St : Nat → Heap → Prop), (∀ b o, s.heap.get? b = some o → h'.get? b = some o) → (∀ A' : Around, A'.handled = none → Walks prog w A' I fp [I] D.length (fun i v => vs[i]? = some v) St) → St 0 h' →
      (∀ b ∈ fp, b = a ∨ s.heap.objs.size ≤ b) → s.heap.objs.size ≤ I → vs.length = D.length → (vs.map strV).Perm D → (∀ v ∈ vs, ∃ k t, v = .str k t) → Q (.ref I) { s with heap := h', drawn := d }) :
    wpAny (model prog w) A (pyIter (.ref a)) Q E s := by
  have hlt := hS.lt
  obtain ⟨o, es, ep, t, ho, hex, hd, hel, hmem, hb, hf, hpl⟩ := hS
  have hn : es.size = D.length := by rw [← hmem.length_eq, List.length_map, Array.length_toList]
  have hT : s.TypeIs (.ref a) "set" := ⟨o, ho, hex.1⟩
  simp only [← hn] at h
  refine wpAny_pyIter_slot hT PySem.F.slot_set_iter (wpAny_call_entry PySem.F.slot_set_iter hT entry_set_iter ?_ (PySem.F.args_set_iter_1 _))
  unfold Builtin.«frozenset.__iter__»
  refine wpAny_bind (m := Builtin.Frozenset.slot0 _ _) (wpAny_bind (wpAny_pure (wpAny_pure ?_)))
  refine wpAny_bind (m := Builtin.Frozenset.sizeOf _) (wpAny_bind (wpAny_setEntries_of ho hd hf (wpAny_pure ?_)))
  refine wpAny_bind (wp_drawn ho hd hf ?_)
  have hp0 : t.plain = false := hpl (by omega)
  have hgt : decide (es.size > 1) = true := decide_eq_true (by omega)
  rw [hp0, hgt]
  cases hft : w.params.followText "set-order" with
  | true =>
    simp only [Bool.not_true, Bool.false_and, Bool.false_eq_true, if_false]
    refine wpAny_bind (wpAny_pure ?_)
    refine wpAny_bind (m := setEpoch _) (wpAny_bind (wpAny_setState_of ho hd hf (wpAny_pure ?_)))
    refine wpAny_bind (wpAny_newObj_type ?_ (by size_fits))
    refine wpAny_pure ⟨_, rfl, "set_iterator", _, ⟨_, Heap.get?_push_size _ rfl, rfl⟩, slot_seti_next.lookup, ?_⟩
    refine h _ s.drawn _ [s.heap.objs.size, a] ((pickOrder (w.params.setOrder a ep) es).toList.map (·.2)) _ (fun b o e => Heap.get?_push_of_some _ e) (fun A' hh => walks_text hh (Nat.ne_of_lt hlt) hd hf hft) ⟨Heap.get?_push_size _ rfl, Heap.get?_push_of_some _ ho⟩ ?_ (Nat.le_refl _) ?_ ?_ ?_
    · intro b hb
      rcases List.mem_cons.mp hb with rfl | hb
      · exact .inr (Nat.le_refl _)
      · exact .inl (List.mem_singleton.mp hb)
    · rw [List.length_map, (pick_perm _ es).length_eq, Array.length_toList]
    · rw [List.map_map]
      exact ((pick_perm _ es).map _).trans hmem
    · intro v hv
      obtain ⟨e, he, rfl⟩ := List.mem_map.mp hv
      exact strs_elem hel ((pick_perm _ es).mem_iff.mp he)
  | false =>
    simp only [Bool.not_false, Bool.and_self, if_true]
    refine wpAny_bind (draw_perm _ _ _ _ List.length_range fun l d hlp => ?_)
    refine wpAny_bind (wpAny_newTuple (items := l.map fun (i : Nat) => rawInt i) ?_ (by rw [List.length_map, hlp.length_eq, List.length_range, PySem.sizeLine_eq]; have : scanBound = 4096 := rfl; omega))
    have ho1 := Heap.get?_push_of_some { cls := .type "tuple", data := .seq (l.map fun (i : Nat) => rawInt i).toArray } ho
    refine wpAny_bind (m := setEpoch _) (wpAny_bind (wpAny_setState_of ho1 hd hf (wpAny_pure ?_)))
    refine wpAny_bind (wpAny_newObj_type ?_ (by size_fits))
    refine wpAny_pure ⟨_, rfl, "set_iterator", _, ⟨_, Heap.get?_push_size _ rfl, rfl⟩, slot_seti_next.lookup, ?_⟩
    have hp1 : (s.heap.push { cls := .type "tuple", data := .seq (l.map fun (i : Nat) => rawInt i).toArray }).get? s.heap.objs.size = some { cls := .type "tuple", data := .seq (l.map fun (i : Nat) => rawInt i).toArray } := Heap.get?_push_size _ rfl
    have hsz1 : (s.heap.push { cls := .type "tuple", data := .seq (l.map fun (i : Nat) => rawInt i).toArray }).objs.size = s.heap.objs.size + 1 := Heap.size_push ..
    have hlb : ∀ j ∈ l, j < es.size := fun j hj => List.mem_range.mp (hlp.mem_iff.mp hj)
    have hll : l.length = es.size := by rw [hlp.length_eq, List.length_range]
    refine h _ d _ [(s.heap.push { cls := .type "tuple", data := .seq (l.map fun (i : Nat) => rawInt i).toArray }).objs.size, a, s.heap.objs.size] (l.map fun j => (es.getD j (0, .none)).2) _ (fun b o e => Heap.get?_push_of_some _ (Heap.get?_push_of_some _ e))
      (fun A' hh => walks_drawn hh (by rw [hsz1]; exact Nat.ne_of_lt (Nat.lt_succ_of_lt hlt)) (by rw [hsz1]; exact Nat.ne_of_lt (Nat.lt_succ_self _)) hd hf rfl hll hlb) ⟨Heap.get?_push_size _ rfl, Heap.get?_push_of_some _ ho1, Heap.get?_push_of_some _ hp1⟩ ?_ (by rw [hsz1]; exact Nat.le_succ _) ?_ ?_ ?_
    · intro b hb
      rcases List.mem_cons.mp hb with rfl | hb
      · right; rw [hsz1]; exact Nat.le_succ _
      · rcases List.mem_cons.mp hb with rfl | hb
        · exact .inl rfl
        · rw [List.mem_singleton.mp hb]; exact .inr (Nat.le_refl _)
    · rw [List.length_map, hll]
    · have h1 := (hlp.map fun j => strV (es.getD j (0, .none)).2)
      have h2 : (List.range es.size).map (fun j => strV (es.getD j (0, .none)).2) = es.toList.map fun e => strV e.2 := by
        rw [← range_vals es, List.map_map]; rfl
      rw [List.map_map]
      refine List.Perm.trans (h1.trans ?_) hmem
      rw [h2]
    · intro v hv
      obtain ⟨j, hj, rfl⟩ := List.mem_map.mp hv
      refine strs_elem hel (e := es.getD j (0, .none)) ?_
      have hlt' := hlb j hj
      simp [Array.getD, hlt']
end
section
variable {prog : Program} {w : World} {A : Around} {E : Value → Shared → Prop} {s : Shared}
theorem hint_set {r : Addr} {Q : Bool → Shared → Prop} (hT : s.TypeIs (.ref r) "set") (h : Q false s) : wpAny (model prog w) A (Builtin.List.listLengthHint (.ref r)) Q E s := by
  unfold Builtin.List.listLengthHint
  refine wpAny_bind (wpAny_specialOf hT PySem.F.slot_set_len.lookup ?_)
  generalize hid : ("set.__len__" : String) = id0
  wp_delta
  rw [show splitId id0 = some ("set", "__len__") from by subst hid; decide +kernel]
  subst hid
  refine wpAny_bind (wpAny_isInstance (T := "set") (b := true) hT (by rw [isSubtype_type]; kernel_rfl) ?_)
  refine wpAny_ite_split (fun hab => absurd hab (by decide)) (fun _ => ?_)
  refine wpAny_ite_split (fun _ => ?_) (fun hab => absurd (by decide +kernel) hab)
  refine wpAny_bind (wpAny_typeOf hT ?_)
  exact wpAny_pure h
theorem extend_set {R : Result → Shared → Prop} {a S : Addr} {D : List Str} (hh : A.handled = none) (hP : SetP prog w s.heap a D) (hsz : 1 < D.length) (hsz2 : D.length ≤ 1000) (hSa : S ≠ a) (res : Value) (c₀ : Nat) (hS : s.heap.get? S = some { cls := .type "list", data := .seq #[] c₀ })
    (hR : ∀ h' tk d acc' c', (∀ b o, b ≠ S → s.heap.get? b = some o → h'.get? b = some o) → h'.get? S = some { cls := .type "list", dict := none, data := .seq acc' c', slots := #[] } → (acc'.toList.map strV).Perm D → (∀ v ∈ acc'.toList, ∃ k t, v = .str k t) → R (.ok (.ret res)) { s with heap := h', toks := tk, drawn := d }) :
    wpAny (model prog w) A.in1 (Builtin.List.listExtendWith (.ref S) (.ref a) res)
      (fun fin s' => match fin with | .done f => R (.ok f) s' | .again c' => c'.quiet = true ∧ codeAny (model prog w) A c' R s') (fun e s' => R (.error e) s') s := by
  have hT : s.TypeIs (.ref a) "set" := by
    obtain ⟨o, es, ep, t, ho, hex, _⟩ := hP
    exact ⟨o, ho, hex.1⟩
  unfold Builtin.List.listExtendWith
  refine wpAny_bind (wpAny_typeOf (T := "set") hT ?_)
  have h1 : Builtin.List.listSameRef (.ref S) (.ref a) = false := by simp [Builtin.List.listSameRef, hSa]
  have h2 : (Value.type "set" == Value.type "list") = false := by decide
  have h3 : (Value.type "set" == Value.type "tuple") = false := by decide
  simp only [h1, h2, h3, Bool.or_false, Bool.false_eq_true, if_false]
  refine wpAny_bind (iter_set hP hsz fun h₁ d₁ I fp vs St k₁ W st fpa hI hvl hvp hvs => ?_)
  have hSI : S ≠ I := Nat.ne_of_lt (Nat.lt_of_lt_of_le (Heap.lt_size hS) hI)
  have hSf : S ∉ fp := fun hm => by
    rcases fpa S hm with q | q
    · exact hSa q
    · exact absurd (Heap.lt_size hS) (Nat.not_lt.mpr q)
  have hn : D.length ≤ sizeLine := by rw [PySem.sizeLine_eq]; omega
  have key : ∀ (h : Heap) (c₁ tk : Nat), St 0 h → (∀ b o, b ≠ S → s.heap.get? b = some o → h.get? b = some o) →
      h.get? S = some { cls := .type "list", data := .seq #[] c₁ } → codeAny (model prog w) A (.builtin "list.extend.loop" ⟨[.ref S, .ref I, res], []⟩) R { s with heap := h, toks := tk, drawn := d₁ } := by
    intro h c₁ tk hst hk hS₁
    refine codeAny_extend_loopS (W A.in1 hh).toS hn S hSf res D.length 0 _ #[] c₁ rfl (Nat.zero_le _) hst hS₁ (ItemsOf.nil _) fun s' acc' c' hm hS' hacc => ?_
    rw [Moved.eq_with hm]
    have hal : acc'.toList = vs := by
      refine List.ext_getElem (by rw [Array.length_toList, hacc.1, hvl]) fun i h1 h2 => ?_
      have e1 : acc'[i]? = some (acc'[i]'(by simpa using h1)) := Array.getElem?_eq_getElem _
      have e2 : vs[i]? = some _ := hacc.2 i _ e1
      rw [List.getElem?_eq_getElem h2] at e2
      simpa using (Option.some.inj e2).symm
    refine hR s'.heap s'.toks d₁ acc' c' (fun b o hb e => hm.heap b o (fun hmem => ?_) (hk b o hb e)) hS' (hal ▸ hvp) (hal ▸ hvs)
    rcases List.mem_cons.mp hmem with e' | hmem
    · exact hb e'
    · exact absurd (Heap.lt_size e) (by rw [List.mem_singleton.mp hmem]; exact Nat.not_lt.mpr hI)
  have hS₁ := k₁ _ _ hS
  refine wpAny_bind (wpAny_holding (hint_set (let ⟨o, a, b⟩ := hT; ⟨o, k₁ _ _ a, b⟩) ?_))
  refine wpAny_ite_split (fun _ => ?_) (fun _ => wpAny_pure ⟨plainId_quiet PySem.F.plain_extend_loop _, key _ c₀ _ st (fun b o _ e => k₁ b o e) hS₁⟩)
  refine wpAny_bind (wpAny_rule ?_)
  refine wpAny_bind ?_
  show wpAny _ _ (updateSeq S (·.push .none) >>= fun _ => updateSeq S (·.pop)) _ _ _
  refine wpAny_bind (wpAny_updateSeq hS₁ rfl ?_)
  have hS₂ := Heap.get?_update_self (Obj.mapSeq (·.push Value.none)) hS₁ rfl
  refine wpAny_updateSeq (hz := by seq_fits) hS₂ rfl ?_
  have hS₃ := Heap.get?_update_self (Obj.mapSeq (·.pop)) hS₂ rfl
  refine wpAny_pure ⟨plainId_quiet PySem.F.plain_extend_loop _, key _ _ _ ?_ (fun b o hb e => ?_) hS₃⟩
  · refine (W A.in1 hh).frame 0 _ _ st fun b hb o e => ?_
    have hbS : b ≠ S := fun h => hSf (h ▸ hb)
    exact (Heap.get?_update_other _ _ (Ne.symm hbS)).trans ((Heap.get?_update_other _ _ (Ne.symm hbS)).trans e)
  · exact (Heap.get?_update_other _ _ (Ne.symm hb)).trans ((Heap.get?_update_other _ _ (Ne.symm hb)).trans (k₁ _ _ e))
theorem collect_set {R : List Value → Shared → Prop} {a : Addr} {D : List Str} (hh : A.handled = none) (hP : SetP prog w s.heap a D) (hsz : 1 < D.length) (hsz2 : D.length ≤ 1000)
    (h : ∀ (h' : Heap) (tk : Nat) (d : Drawn) (vs : List Value), (∀ b o, s.heap.get? b = some o → h'.get? b = some o) → (vs.map strV).Perm D → (∀ v ∈ vs, ∃ k t, v = .str k t) → R vs { s with heap := h', toks := tk, drawn := d }) :
    wpAny (model prog w) A (collect (.ref a)) R E s := by
  have hlt := hP.lt
  unfold collect
  refine wpAny_bind (wpAny_runValue (codeAny_builtin entry_proto_collect' ?_))
  rw [Around.under_plainId PySem.F.plain_proto_collect _]
  show wpAny _ A.in1 (newList [] >>= fun l => again (.builtin "list.__iadd__" ⟨[l, .ref a], []⟩)) _ _ s
  refine wpAny_bind (wpAny_newObj_type ?_)
  refine wpAny_pure ⟨plainId_quiet PySem.F.plain_list_iadd _, codeAny_builtin entry_list_iadd' ?_⟩
  rw [Around.under_plainId PySem.F.plain_list_iadd _]
  have hS₁ : (s.heap.push { cls := .type "list", data := .seq ([] : List Value).toArray }).get? s.heap.objs.size = some { cls := .type "list", data := .seq #[] } := Heap.get?_push_size _ rfl
  show wpAny _ A.in1 (Builtin.List.listExtendWith (.ref s.heap.objs.size) (.ref a) (.ref s.heap.objs.size)) _ _ _
  have key := extend_set (A := A) (s := { s with heap := s.heap.push { cls := .type "list", data := .seq ([] : List Value).toArray } })
    (R := fun (q : Result) (s' : Shared) => ∃ (h' : Heap) (tk : Nat) (d : Drawn) (acc' : Array Value) (c' : Nat), q = .ok (.ret (.ref s.heap.objs.size)) ∧ s' = { s with heap := h', toks := tk, drawn := d } ∧
      (∀ b o, s.heap.get? b = some o → h'.get? b = some o) ∧ h'.get? s.heap.objs.size = some { cls := .type "list", dict := none, data := .seq acc' c', slots := #[] } ∧ (acc'.toList.map strV).Perm D ∧ (∀ v ∈ acc'.toList, ∃ k t, v = .str k t))
    hh (hP.at fun o e => Heap.get?_push_of_some _ e) hsz hsz2 (Nat.ne_of_gt hlt) (.ref s.heap.objs.size) 0 hS₁
    (fun h' tk d acc' c' hk hS' hacc hv => ⟨h', tk, d, acc', c', rfl, rfl, fun b o e => hk b o (Nat.ne_of_lt (Heap.lt_size e)) (Heap.get?_push_of_some _ e), hS', hacc, hv⟩)
  refine wpAny_mono key (fun fin s' x => ?_) fun e s' x => ?_
  · cases fin with
    | done f =>
      obtain ⟨h', tk, d, acc', c', e, rfl, hk, hS', hacc, hv⟩ := x
      cases e
      show wpAny _ A (load s.heap.objs.size >>= _) _ _ _
      refine wpAny_bind (wpAny_load hS' ?_)
      exact wpAny_pure (h h' tk d acc'.toList hk hacc hv)
    | again c₁ =>
      refine ⟨x.1, codeAny_mono x.2 fun q s₂ y => ?_⟩
      obtain ⟨h', tk, d, acc', c', rfl, rfl, hk, hS', hacc, hv⟩ := y
      show wpAny _ A (load s.heap.objs.size >>= _) _ _ _
      refine wpAny_bind (wpAny_load hS' ?_)
      exact wpAny_pure (h h' tk d acc'.toList hk hacc hv)
  · obtain ⟨_, _, _, _, _, e', _⟩ := x
    cases e'
theorem strs_of {vs : List Value} (h : ∀ v ∈ vs, ∃ k t, v = .str k t) : StrsAre vs (vs.map strV) := by
  induction vs with
  | nil => exact .nil
  | cons v r ih =>
    obtain ⟨k, t, rfl⟩ := h v List.mem_cons_self
    exact .cons k t (ih fun x hx => h x (List.mem_cons_of_mem _ hx))
theorem sorted_set0 {h₀ : Heap} {L : Addr} {m : Str → Option Value} {news : List (Addr × Obj)} {a : Addr} {D : List Str} {Q : Value → Shared → Prop} (hh : A.handled = none) (F : Fr h₀ L s.heap m) (N : News h₀ L s.heap news) (hP : SetP prog w s.heap a D) (hsz : 1 < D.length) (hsz2 : D.length ≤ 1000)
    (h : ∀ (B : Addr) (h' : Heap) (tk : Nat) (d : Drawn) (vs : List Value), Fr h₀ L h' m → News h₀ L h' ((B, PySem.W.listOf vs.toArray 0) :: news) → (∀ q ∈ news, q.1 < B) → (vs.map strV).Perm D → StrsAre vs (vs.map strV) →
      wpAny (model prog w) A.in1 (call (.builtin "list.sort") [.ref B]) (fun _ s' => Q (.ref B) s') E { s with heap := h', toks := tk, drawn := d }) :
    wpAny (model prog w) A (call (.builtin "sorted") [.ref a]) Q E s := by
  refine Calls.call_function_entry kind_sorted plain_sorted entry_sorted (args_sorted1 _) ?_
  unfold Builtin.«sorted»
  refine wpAny_bind (m := checkCount "sorted" 1 1 _) (wpAny_pure ?_)
  refine wpAny_bind (collect_set (A := A.in1) hh hP hsz hsz2 fun h' tk d vs hk hvp hvs => ?_)
  have hl : vs.length = D.length := by rw [← hvp.length_eq, List.length_map]
  refine wpAny_bind (wpAny_newList ?_ (by rw [hl, PySem.sizeLine_eq]; omega))
  have hg := h h'.objs.size (h'.push { cls := .type "list", data := .seq vs.toArray }) tk d vs ((F.keeps hk).push _) (News.push (F.keeps hk) (fun p hp => ⟨hk _ _ (N p hp).1, (N p hp).2⟩) _ rfl)
    (fun q hq => Heap.lt_size (hk _ _ (N q hq).1)) hvp (strs_of hvs)
  refine wpAny_bind (wpAny_holding (wpAny_mono hg (fun _ s' x => ?_) fun _ _ e => e))
  exact wpAny_pure ⟨_, rfl, x⟩
end

end Mine
namespace Mine
def SetOb (w : World) (o : Obj) (D : List Str) : Prop :=
  ∃ es ep t, o.ExactSet ∧ o.data = .set es ep t ∧ ElemsOf (PySem.strKind PG w) es.toList ∧ (es.toList.map fun e => strV e.2).Perm D ∧ es.size < scanBound ∧ t.fits es.size = true ∧ (es.size ≠ 0 → t.plain = false)
section
variable {w : World} {A : Around} {E : Value → Shared → Prop} {s : Shared} {h₀ : Heap} {L : Addr} {m : Str → Option Value} {R : Led} {Q : Value → Shared → Prop}
/-- set of a made list of texts -/
theorem set_led {l : Addr} {vs : List Value} {n : Nat} {ts : List Str} (hh : A.handled = none) (F : Fr h₀ L s.heap m) (N : News h₀ L s.heap R) (hm : (l, PySem.W.listOf vs.toArray n) ∈ R) (hi : StrsAre vs ts) (hb : vs.length ≤ 1000)
    (h : ∀ a o h' tk, Fr h₀ L h' m → News h₀ L h' ((a, o) :: R) → SetOb w o (dedS ts) → (∀ q ∈ R, q.1 < a) → Q (.ref a) { s with heap := h', toks := tk }) :
    wpAny (model PG w) A (call (.type "set") [.ref l]) Q E s := by
  have hl : s.heap.IsList l vs.toArray := News.isList N hm
  refine call_set_strs (prog := PG) (w := w) (items := vs.toArray) (ts := ts) hh hl (by simpa using hi) (by rw [List.size_toArray]; have : scanBound = 4096 := rfl; omega) fun h' tk hS hk => ?_
  obtain ⟨o, es, ep, t, ho, r⟩ := hS
  obtain ⟨oL, _, _, hL, _⟩ := F.ns
  have hLlt : L < s.heap.objs.size := Heap.lt_size hL
  refine h s.heap.objs.size o h' tk ⟨F.ns.at' fun o' e => hk L o' hLlt e, fun b o' e => hk b o' (Heap.lt_size (F.keep b o' e)) (F.keep b o' e), F.above⟩ (fun p hp => ?_) ⟨es, ep, t, r⟩ (fun q hq => Heap.lt_size (N q hq).1)
  rcases List.mem_cons.mp hp with rfl | hp
  · refine ⟨ho, Nat.ne_of_gt hLlt, ?_⟩
    cases hq : h₀.get? s.heap.objs.size with
    | none => rfl
    | some o' => exact absurd (Heap.lt_size (F.keep _ _ hq)) (Nat.lt_irrefl _)
  · exact ⟨hk _ _ (Heap.lt_size (N p hp).1) (N p hp).1, (N p hp).2.1, (N p hp).2.2⟩
/-- sorted of a set of texts -/
theorem sorted_set {a : Addr} {o : Obj} {D : List Str} (hh : A.handled = none) (F : Fr h₀ L s.heap m) (N : News h₀ L s.heap R) (hm : (a, o) ∈ R) (ho : SetOb w o D) (hsz : 1 < D.length) (hsz2 : D.length < 64)
    (h : ∀ B h' tk d vs ss e, Fr h₀ L h' m → News h₀ L h' ((B, PySem.W.listOf vs.toArray e) :: R) → (∀ q ∈ R, q.1 < B) → StrsAre vs ss → ss.Perm D → sortedS ss = true → Q (.ref B) { s with heap := h', toks := tk, drawn := d }) :
    wpAny (model PG w) A (call (.builtin "sorted") [.ref a]) Q E s := by
  have hP : SetP PG w s.heap a D := by
    obtain ⟨es, ep, t, r⟩ := ho
    exact ⟨o, es, ep, t, (N _ hm).1, r⟩
  refine sorted_set0 hh F N hP hsz (by omega) fun B h' tk d vs F' N' l1 hvp hvs => ?_
  have hl : vs.length = D.length := by rw [← hvp.length_eq, List.length_map]
  refine sort_strs F' N' (fun q hq => Nat.ne_of_lt (l1 q hq)) hvs (by omega) fun h'' vs' ss' e F2 N2 b1 b2 b3 => ?_
  exact h B h'' tk d vs' ss' e F2 N2 l1 b1 (b2.trans hvp) b3
/-- list of a made dict with texts for keys -/
theorem list_dict {d : Addr} {o : Obj} {kvs : List (Str × Value)} (hh : A.handled = none) (F : Fr h₀ L s.heap m) (N : News h₀ L s.heap R) (hp : (d, o) ∈ R) (hd : o.IsDictOf (PySem.strKind PG w) kvs) (lo : (d == sysModules) = false) (hlen : kvs.length < 64)
    (h : ∀ D c h' tk vs, Fr h₀ L h' m → News h₀ L h' ((D, PySem.W.listOf vs.toArray c) :: R) → (∀ q ∈ R, q.1 < D) → StrsAre vs (kvs.map (·.1)) → Q (.ref D) { s with heap := h', toks := tk }) :
    wpAny (model PG w) A (call (.type "list") [.ref d]) Q E s := by
  obtain ⟨ep, hat⟩ := (kda_dict N hp hd).dictAt
  refine kdl_N (kdl_dict (knd := PySem.strKind PG w) (kvs := kvs) (ep := ep) lo) hh F N hat (by rw [PySem.sizeLine_eq]; omega) fun D c h' tk vs F' N' l1 hl hv => ?_
  exact h D c h' tk vs F' N' l1 (strs_of_keys (prog := PG) (w := w) hl hv)
end
theorem StrsAre.append {vs us : List Value} {ts ss : List Str} (h : StrsAre vs ts) (h' : StrsAre us ss) : StrsAre (vs ++ us) (ts ++ ss) := by
  induction h with
  | nil => exact h'
  | cons k t _ ih => exact .cons k t ih
theorem strs_reads {h : Heap} : ∀ {vs : List Value} {ts : List Str}, StrsAre vs ts → ReadsAll h vs (ts.map PyData.str) []
  | _, _, .nil => .nil
  | _, _, .cons k t r => .cons (.str _ _) (strs_reads r)
theorem strs_lay {ts : List Str} (h : ∀ k ∈ ts, PyData.strOk k = true) : PyData.canLayAll0 (ts.map PyData.str) = true ∧ PyData.depthAll (ts.map PyData.str) ≤ 1 := by
  induction ts with
  | nil => exact ⟨rfl, by simp [PyData.depthAll]⟩
  | cons p r ih =>
    obtain ⟨i1, i2⟩ := ih fun q hq => h q (List.mem_cons_of_mem _ hq)
    have hp := h p List.mem_cons_self
    refine ⟨?_, ?_⟩
    · rw [List.map_cons]; simp only [PyData.canLayAll0, PyData.canLay0, hp, i1, Bool.and_true]
    · rw [List.map_cons]; simp only [PyData.depthAll, PyData.depth]; omega
theorem strs_eqv (ts : List Str) : PyData.eqvAll (ts.map PyData.str) (ts.map PyData.str) = true := by
  induction ts with
  | nil => rfl
  | cons p r ih => rw [List.map_cons]; simp only [PyData.eqvAll, PyData.eqv, ih, beq_self_eq_true, Bool.and_self]
theorem strs_ne {prog : Program} {w : World} {A : Around} {E : Value → Shared → Prop} {s : Shared} {h₀ : Heap} {L a b : Addr} {R : Led} {vs us : List Value} {n k : Nat} {ts ss : List Str} {Q : Value → Shared → Prop}
    (N : News h₀ L s.heap R) (ha : (a, PySem.W.listOf vs.toArray n) ∈ R) (hb : (b, PySem.W.listOf us.toArray k) ∈ R) (hS : StrsAre vs ts) (hS' : StrsAre us ss) (e : ts = ss) (hs : ∀ p ∈ ss, PyData.strOk p = true) (hu : A.units + 64 < cLine) (h : Q (.bool false) s) :
    wpAny (model prog w) A (compareOp .NotEq (.ref a) (.ref b)) Q E s := by
  subst e
  have ra := strs_reads (h := s.heap) hS
  have rb := strs_reads (h := s.heap) hS'
  have sh : PySem.SeqAt.shaped (.list (ts.map PyData.str)) = true := by
    have := strs_lay hs
    unfold PySem.SeqAt.shaped
    rw [Bool.and_eq_true]
    exact ⟨by simp only [PyData.canLay0, this.1], decide_eq_true (by simp only [PyData.depth]; omega)⟩
  refine ne_dataH (reads_list_at (N.get ha) rfl rfl (by simpa using ra)) (reads_list_at (N.get hb) rfl rfl (by simpa using rb)) sh sh hu ?_
  have e : PyData.eqv (.list (ts.map PyData.str)) (.list (ts.map PyData.str)) = true := by rw [PyData.eqv]; exact strs_eqv ts
  rw [e]; exact h
/-- the keys of all wants and of the set -/
theorem keys_perm {ar bb : Bool} {ws : List Wi} {ks : List Str} (hk : ks.Perm ((allT ar bb ws).map (·.1))) (hn : ((allT ar bb ws).map (·.1)).Nodup) : ks.Perm (dedS ((firstT ar bb).map (·.1) ++ ws.map (·.tag))) := by
  refine hk.trans ((List.perm_ext_iff_of_nodup hn (dedS_nodup _)).mpr fun k => ?_)
  rw [dedS_mem, List.mem_append]
  exact foldT_keys ws (firstT ar bb) k

end Mine
namespace Mine
/-! a comprehension over enumerate(list) with a local and a cell for targets, and a test -/
abbrev sAt : Str := Str.ofString "at"
abbrev sWish : Str := Str.ofString "wish"
abbrev scE : Scope := { kind := .function, names := [(Str.ofString ".0", .local), (sAt, .local), (sWish, .cell), (Str.ofString "wishes", .free)], isGenerator := false, isCoroutine := false }
def Off5 (e it cw C D : Addr) (R : Led) : Prop := ∀ p ∈ R, p.1 ≠ e ∧ p.1 ≠ it ∧ p.1 ≠ cw ∧ p.1 ≠ C ∧ p.1 ≠ D
structure Apart5 (e it cw C D : Addr) : Prop where
  a1 : e ≠ it
  a2 : e ≠ cw
  a3 : e ≠ C
  a4 : e ≠ D
  a5 : it ≠ cw
  a6 : it ≠ C
  a7 : it ≠ D
  a8 : cw ≠ C
  a9 : cw ≠ D
  a10 : C ≠ D
def EndE (h₀ : Heap) (L : Addr) (m : Str → Option Value) (s₁ : Shared) (e it cw C D : Addr) (oe oi oC oD : Obj) (src : Addr × Obj) (rest : Value → Led → Prop) (y : Value) (s₂ : Shared) : Prop :=
  ∃ h' tk oc b news', s₂ = { s₁ with heap := h', toks := tk } ∧ Fr h₀ L h' m ∧ News h₀ L h' ((e, oe) :: (it, oi) :: (cw, oc) :: (C, oC) :: (D, oD) :: news') ∧ Off5 e it cw C D news' ∧ oc.data = .cell b ∧ src ∈ news' ∧ rest y news'
theorem newEnv_E {M : Model} {A : Around} {E : Value → Shared → Prop} {s : Shared} {g : Addr} {cl : List (Str × Addr)} {q : Str} {env : Env} {Q : Env → Shared → Prop}
    (h : Q { scope := scE, locals := s.heap.objs.size, globals := g, cells := (sWish, (s.heap.push { cls := .type "dict", data := .dict #[] }).objs.size) :: cl, qual := q, func := none, code := env.code, frame := env.frame, builtins := env.builtins }
      { s with heap := (s.heap.push { cls := .type "dict", data := .dict #[] }).push { cls := .type "cell", data := .cell none } }) :
    wpAny M A (newFunctionEnv scE g cl [] q none .none (some env)) Q E s := by
  simp only [newFunctionEnv, Option.isSome_some, if_true]
  refine wpAny_bind (wpAny_alloc ?_)
  refine wpAny_bind (wpAny_layCells _ (fun name kind cells => by cases hkc : kind == NameKind.cell <;> simp [hkc]) _ _ _ _ ?_)
  show wpAny M A (forIn [] _ _ >>= _) Q E _
  rw [List.forIn_nil]
  exact wpAny_bind (wpAny_pure (wpAny_pure h))
section
variable {prog : Program} {w : World} {A : Around} {E : Value → Shared → Prop} {s : Shared} {h₀ : Heap} {L : Addr} {m : Str → Option Value} {env : Env}
theorem assign_E {cenv : Env} {pa pb tp : Pos} {kk : Nat} {T cw : Addr} {x y : Value} {m₁ : Str → Option Value} {b : Option Value} {Q : Unit → Shared → Prop} (hh : A.handled = none) (ht : s.heap.IsTuple T #[x, y])
    (hk : cenv.scope.kind = .function) (ha : cenv.kindOf sAt = some .local) (hb : cenv.kindOf sWish = some .cell) (hcw : cenv.cells.lookup sWish = some cw) (hn : s.heap.Ns cenv.locals m₁) (hc : s.heap.IsCell cw b) (hne : cw ≠ cenv.locals)
    (h : ∀ (h' : Heap) (tk : Nat), h'.Ns cenv.locals (fun z => if z = sAt then some x else m₁ z) → h'.IsCell cw (some y) → (∀ c o, c ≠ cenv.locals → c ≠ cw → s.heap.get? c = some o → h'.get? c = some o) → Q () { s with heap := h', toks := tk }) :
    wpAny (model prog w) A (assign (.Tuple [.Name sAt pa, .Name sWish pb] kk tp) cenv (.ref T)) Q E s := by
  refine wpAny_assign_Tuple hh ht rfl rfl fun h₁ he₁ => ?_
  have hL : cenv.locals ≠ s.heap.objs.size := Nat.ne_of_lt hn.lt
  have up₁ : ∀ c o, s.heap.get? c = some o → h₁.get? c = some o := fun c o e => he₁ c o (Nat.ne_of_lt (Heap.lt_size e)) e
  have hn₁ : h₁.Ns cenv.locals m₁ := hn.at' fun o e => up₁ _ o e
  have hc₁ : h₁.IsCell cw b := by obtain ⟨o, ho, hd⟩ := hc; exact ⟨o, up₁ _ _ ho, hd⟩
  show wpAny _ _ (assignInOrder [assign (.Name sAt pa) cenv, assign (.Name sWish pb) cenv] [x, y]) _ _ _
  refine assignInOrder_cons ?_
  refine wpAny_assign_Name (wpAny_storeName_local ha hn₁ (fun h₂ hn₂ hs₂ => ?_) (by rw [hk]; rfl))
  refine assignInOrder_cons ?_
  have hc₂ : h₂.IsCell cw b := by obtain ⟨o, ho, hd⟩ := hc₁; exact ⟨o, hs₂.extBut _ _ hne ho, hd⟩
  refine wpAny_assign_Name (wpAny_storeName_cell hk hb hcw hc₂ fun h₃ hv₃ hs₃ => ?_)
  refine assignInOrder_nil ?_
  exact h h₃ _ (hn₂.at' fun o e => hs₃.extBut _ _ (Ne.symm hne) e) hv₃ fun c o h1 h2 e => hs₃.extBut c o h2 (hs₂.extBut c o h1 (up₁ c o e))
end
namespace block_EK
abbrev Claim (prog : Program) (w : World) (A : Around) (E : Value → Shared → Prop) (h₀ : Heap) (L : Addr) (m : Str → Option Value) (env : Env) (elt : Expr) (iter : Expr) (ct : Expr) (pa : Pos) (pb : Pos) (tp : Pos) (kk : Nat) (cl : List (Str × Addr)) (pos : Pos) (s₂ : Shared) (e : Addr) (it : Addr) (l : Addr) (xs : List Value) (nl : Nat) (news : Led) (J : Nat → List Value → Led → Prop) (RR : Value → Addr → Result → Shared → Prop) : Prop :=
  ∀ (hh : A.handled = none) (hsz : xs.length ≤ 1000) (hE : IsEnum s₂.heap e it 0 .none) (hI : s₂.heap.IsListIter it l 0) (hei : e ≠ it) (hm : (l, PySem.W.listOf xs.toArray nl) ∈ news) (F : Fr h₀ L s₂.heap m) (N : News h₀ L s₂.heap news) (heL : e ≠ L) (hiL : it ≠ L) (he₀ : h₀.get? e = none) (hi₀ : h₀.get? it = none) (off : ∀ p ∈ news, p.1 ≠ e ∧ p.1 ≠ it) (hJ : J 0 [] news) (turn : ∀ (i : Nat) (x : Value) (t : Tok) cw C D oe oi oc oC m₂ (ys : List Value) h tk news' (E' : Value → Shared → Prop), xs[i]? = some x → J i ys news' → LCg.NsObj oC m₂ → m₂ sAt = some (.int i t) → oc.data = .cell (some x) → Fr h₀ L h m →
      News h₀ L h ((e, oe) :: (it, oi) :: (cw, oc) :: (C, oC) :: (D, LCg.lst ys) :: news') → Off5 e it cw C D news' → (l, PySem.W.listOf xs.toArray nl) ∈ news' → Apart5 e it cw C D →
      wpAny (model prog w) A (isTrue ct (compEnvC scE ((sWish, cw) :: cl) C env) (eval ct (compEnvC scE ((sWish, cw) :: cl) C env))) (fun ok s' => if ok = true then
        wpAny (model prog w) A (eval elt (compEnvC scE ((sWish, cw) :: cl) C env)) (EndE h₀ L m { s₂ with heap := h, toks := tk } e it cw C D oe oi oC (LCg.lst ys) (l, PySem.W.listOf xs.toArray nl) (fun y news'' => J (i + 1) (ys ++ [y]) news'')) E' s'
        else EndE h₀ L m { s₂ with heap := h, toks := tk } e it cw C D oe oi oC (LCg.lst ys) (l, PySem.W.listOf xs.toArray nl) (fun _ news'' => J (i + 1) ys news'') Value.none s') E' { s₂ with heap := h, toks := tk }) (hRR : ∀ D C h tk m' ys news', Fr h₀ L h m → News h₀ L h ((D, LCg.lst ys) :: news') → (∀ p ∈ news', p.1 ≠ D) → h.Ns C m' → h₀.get? C = none → h₀.get? D = none → C ≠ L → D ≠ L → C ≠ D → (∀ p ∈ news', p.1 ≠ C) → J xs.length ys news' → RR (.ref D) C (.ok .next) { s₂ with heap := h, toks := tk }), wpAny (model prog w) A (newList []) (fun acc s₃ => wpAny (model prog w) A (newFunctionEnv scE env.globals cl [] env.qual none .none (some env)) (fun cenv s₄ =>
      codeAny (model prog w) A (.compStart (.ListComp elt [⟨.Tuple [.Name sAt pa, .Name sWish pb] kk tp, iter, [ct], 0⟩] scE pos) 0 (.ref e) acc { cenv with scope := relabel scE env }) (RR acc cenv.locals) s₄) E s₃) E s₂
abbrev ClaimT (p : (Program) × (World) × (Around) × (Value → Shared → Prop) × (Heap) × (Addr) × (Str → Option Value) × (Env) × (Expr) × (Expr) × (Expr) × (Pos) × (Pos) × (Pos) × (Nat) × (List (Str × Addr)) × (Pos) × (Shared) × (Addr) × (Addr) × (Addr) × (List Value) × (Nat) × (Led) × (Nat → List Value → Led → Prop) × (Value → Addr → Result → Shared → Prop)) : Prop := Claim (p.1) (p.2.1) (p.2.2.1) (p.2.2.2.1) (p.2.2.2.2.1) (p.2.2.2.2.2.1) (p.2.2.2.2.2.2.1) (p.2.2.2.2.2.2.2.1) (p.2.2.2.2.2.2.2.2.1) (p.2.2.2.2.2.2.2.2.2.1) (p.2.2.2.2.2.2.2.2.2.2.1) (p.2.2.2.2.2.2.2.2.2.2.2.1) (p.2.2.2.2.2.2.2.2.2.2.2.2.1) (p.2.2.2.2.2.2.2.2.2.2.2.2.2.1) (p.2.2.2.2.2.2.2.2.2.2.2.2.2.2.1) (p.2.2.2.2.2.2.2.2.2.2.2.2.2.2.2.1) (p.2.2.2.2.2.2.2.2.2.2.2.2.2.2.2.2.1) (p.2.2.2.2.2.2.2.2.2.2.2.2.2.2.2.2.2.1) (p.2.2.2.2.2.2.2.2.2.2.2.2.2.2.2.2.2.2.1) (p.2.2.2.2.2.2.2.2.2.2.2.2.2.2.2.2.2.2.2.1) (p.2.2.2.2.2.2.2.2.2.2.2.2.2.2.2.2.2.2.2.2.1) (p.2.2.2.2.2.2.2.2.2.2.2.2.2.2.2.2.2.2.2.2.2.1) (p.2.2.2.2.2.2.2.2.2.2.2.2.2.2.2.2.2.2.2.2.2.2.1) (p.2.2.2.2.2.2.2.2.2.2.2.2.2.2.2.2.2.2.2.2.2.2.2.1) (p.2.2.2.2.2.2.2.2.2.2.2.2.2.2.2.2.2.2.2.2.2.2.2.2.1) (p.2.2.2.2.2.2.2.2.2.2.2.2.2.2.2.2.2.2.2.2.2.2.2.2.2)
theorem some_tup : Nonempty ((Program) × (World) × (Around) × (Value → Shared → Prop) × (Heap) × (Addr) × (Str → Option Value) × (Env) × (Expr) × (Expr) × (Expr) × (Pos) × (Pos) × (Pos) × (Nat) × (List (Str × Addr)) × (Pos) × (Shared) × (Addr) × (Addr) × (Addr) × (List Value) × (Nat) × (Led) × (Nat → List Value → Led → Prop) × (Value → Addr → Result → Shared → Prop)) := some_pair inferInstance (some_pair some_world (some_pair some_around (some_pair inferInstance (some_pair inferInstance (some_pair inferInstance (some_pair inferInstance (some_pair inferInstance (some_pair inferInstance (some_pair inferInstance (some_pair inferInstance (some_pair inferInstance (some_pair inferInstance (some_pair inferInstance (some_pair inferInstance (some_pair inferInstance (some_pair inferInstance (some_pair some_shared (some_pair inferInstance (some_pair inferInstance (some_pair inferInstance (some_pair inferInstance (some_pair inferInstance (some_pair inferInstance (some_pair inferInstance (inferInstance)))))))))))))))))))))))))
noncomputable def tup : (Program) × (World) × (Around) × (Value → Shared → Prop) × (Heap) × (Addr) × (Str → Option Value) × (Env) × (Expr) × (Expr) × (Expr) × (Pos) × (Pos) × (Pos) × (Nat) × (List (Str × Addr)) × (Pos) × (Shared) × (Addr) × (Addr) × (Addr) × (List Value) × (Nat) × (Led) × (Nat → List Value → Led → Prop) × (Value → Addr → Result → Shared → Prop) := @Classical.epsilon _ some_tup fun p => ¬ ClaimT p
@[irreducible] noncomputable def prog : Program := tup.1
@[irreducible] noncomputable def w : World := tup.2.1
@[irreducible] noncomputable def A : Around := tup.2.2.1
@[irreducible] noncomputable def E : Value → Shared → Prop := tup.2.2.2.1
@[irreducible] noncomputable def h₀ : Heap := tup.2.2.2.2.1
@[irreducible] noncomputable def L : Addr := tup.2.2.2.2.2.1
@[irreducible] noncomputable def m : Str → Option Value := tup.2.2.2.2.2.2.1
@[irreducible] noncomputable def env : Env := tup.2.2.2.2.2.2.2.1
@[irreducible] noncomputable def elt : Expr := tup.2.2.2.2.2.2.2.2.1
@[irreducible] noncomputable def iter : Expr := tup.2.2.2.2.2.2.2.2.2.1
@[irreducible] noncomputable def ct : Expr := tup.2.2.2.2.2.2.2.2.2.2.1
@[irreducible] noncomputable def pa : Pos := tup.2.2.2.2.2.2.2.2.2.2.2.1
@[irreducible] noncomputable def pb : Pos := tup.2.2.2.2.2.2.2.2.2.2.2.2.1
@[irreducible] noncomputable def tp : Pos := tup.2.2.2.2.2.2.2.2.2.2.2.2.2.1
@[irreducible] noncomputable def kk : Nat := tup.2.2.2.2.2.2.2.2.2.2.2.2.2.2.1
@[irreducible] noncomputable def cl : List (Str × Addr) := tup.2.2.2.2.2.2.2.2.2.2.2.2.2.2.2.1
@[irreducible] noncomputable def pos : Pos := tup.2.2.2.2.2.2.2.2.2.2.2.2.2.2.2.2.1
@[irreducible] noncomputable def s₂ : Shared := tup.2.2.2.2.2.2.2.2.2.2.2.2.2.2.2.2.2.1
@[irreducible] noncomputable def e : Addr := tup.2.2.2.2.2.2.2.2.2.2.2.2.2.2.2.2.2.2.1
@[irreducible] noncomputable def it : Addr := tup.2.2.2.2.2.2.2.2.2.2.2.2.2.2.2.2.2.2.2.1
@[irreducible] noncomputable def l : Addr := tup.2.2.2.2.2.2.2.2.2.2.2.2.2.2.2.2.2.2.2.2.1
@[irreducible] noncomputable def xs : List Value := tup.2.2.2.2.2.2.2.2.2.2.2.2.2.2.2.2.2.2.2.2.2.1
@[irreducible] noncomputable def nl : Nat := tup.2.2.2.2.2.2.2.2.2.2.2.2.2.2.2.2.2.2.2.2.2.2.1
@[irreducible] noncomputable def news : Led := tup.2.2.2.2.2.2.2.2.2.2.2.2.2.2.2.2.2.2.2.2.2.2.2.1
@[irreducible] noncomputable def J : Nat → List Value → Led → Prop := tup.2.2.2.2.2.2.2.2.2.2.2.2.2.2.2.2.2.2.2.2.2.2.2.2.1
@[irreducible] noncomputable def RR : Value → Addr → Result → Shared → Prop := tup.2.2.2.2.2.2.2.2.2.2.2.2.2.2.2.2.2.2.2.2.2.2.2.2.2
theorem core : Claim prog w A E h₀ L m env elt iter ct pa pb tp kk cl pos s₂ e it l xs nl news J RR := by
  intro hh hsz hE hI hei hm F N heL hiL he₀ hi₀ off hJ turn hRR
  refine wpAny_newObj_type (newEnv_E ?_)
  dsimp only
  generalize hH1 : s₂.heap.push { cls := .type "list", dict := none, data := .seq ([] : List Value).toArray } = H1
  generalize hH2 : H1.push { cls := .type "dict", data := .dict #[] } = H2
  generalize hH3 : H2.push { cls := .type "cell", data := .cell none } = H3
  generalize hn0 : s₂.heap.objs.size = D
  have hC : H1.objs.size = D + 1 := by rw [← hH1, Heap.size_push, hn0]
  have hcw : H2.objs.size = D + 2 := by rw [← hH2, Heap.size_push, hC]
  rw [hC, hcw]
  have below : ∀ b o, s₂.heap.get? b = some o → b < D := fun b o e => hn0 ▸ Heap.lt_size e
  have old : ∀ b o, s₂.heap.get? b = some o → H3.get? b = some o := fun b o e => by
    rw [← hH3, ← hH2, ← hH1]
    exact Heap.get?_push_of_some _ (Heap.get?_push_of_some _ (Heap.get?_push_of_some _ e))
  have gD : H3.get? D = some (LCg.lst []) := by
    rw [← hH3, ← hH2, ← hH1, ← hn0]
    exact Heap.get?_push_of_some _ (Heap.get?_push_of_some _ (Heap.get?_push_size _ rfl))
  have nC : H3.Ns (D + 1) (fun _ => none) := by
    have h1 := Heap.Ns.new H1 (.type "dict")
    rw [hH2, hC] at h1
    rw [← hH3]
    exact h1.at' fun o e => Heap.get?_push_of_some _ e
  have gc : ∃ oc, H3.get? (D + 2) = some oc ∧ oc.data = .cell none := by
    rw [← hH3, ← hcw]
    exact ⟨_, Heap.get?_push_size _ rfl, rfl⟩
  have fresh₀ : ∀ a, D ≤ a → h₀.get? a = none := fun a ha => by
    cases e : h₀.get? a with
    | none => rfl
    | some o' => exact absurd (below _ _ (F.keep a o' e)) (Nat.not_lt.mpr ha)
  have hLlt : @LT.lt Nat instLTNat L D := hn0 ▸ F.ns.lt
  have elt' : @LT.lt Nat instLTNat e D := below _ _ hE
  have ilt' : @LT.lt Nat instLTNat it D := by obtain ⟨o, ho, _⟩ := hI; exact below _ _ ho
  have AP : Apart5 e it (D + 2) (D + 1) D := ⟨hei, Nat.ne_of_lt (by omega), Nat.ne_of_lt (by omega), Nat.ne_of_lt (by omega), Nat.ne_of_lt (by omega), Nat.ne_of_lt (by omega), Nat.ne_of_lt (by omega), Nat.ne_of_gt (by omega), Nat.ne_of_gt (by omega), Nat.ne_of_gt (by omega)⟩
  have hD₀ := fresh₀ D (Nat.le_refl _)
  have hC₀ := fresh₀ (D + 1) (Nat.le_succ _)
  have hc₀ := fresh₀ (D + 2) (by omega)
  have hDL : D ≠ L := Nat.ne_of_gt hLlt
  have hCL : D + 1 ≠ L := Nat.ne_of_gt (by omega)
  have hcL : D + 2 ≠ L := Nat.ne_of_gt (by omega)
  have hl : l < D := below _ _ (N _ hm).1
  have hle : l ≠ e := (off _ hm).1
  have hli : l ≠ it := (off _ hm).2
  have off0 : Off5 e it (D + 2) (D + 1) D news := fun p hp => by
    have h1 := off p hp
    have h2 : @LT.lt Nat instLTNat p.1 D := below _ _ (N p hp).1
    exact ⟨h1.1, h1.2, Nat.ne_of_lt (by omega), Nat.ne_of_lt (by omega), Nat.ne_of_lt (by omega)⟩
  have kAt : (compEnvC scE ((sWish, D + 2) :: cl) (D + 1) env).kindOf sAt = some .local := by rfl
  have kWish : (compEnvC scE ((sWish, D + 2) :: cl) (D + 1) env).kindOf sWish = some .cell := by rfl
  have W := WalksT.enumerate (prog := prog) (w := w) hh e it l hei hle hli xs.toArray
  have loop : ∀ s₃ : Shared, s₃ = { s₂ with heap := H3 } →
      codeAny (model prog w) A (.compLoop (.ListComp elt [⟨.Tuple [.Name sAt pa, .Name sWish pb] kk tp, iter, [ct], 0⟩] scE pos) 0 (.ref e) (.ref D) (compEnvC scE ((sWish, D + 2) :: cl) (D + 1) env)) (RR (.ref D) (D + 1)) s₃ := by
    rintro s₃ rfl
    refine PySem.W.kct_loop
      (fun k s' => ∃ h' tk i ys m' oc b news', s' = { s₂ with heap := h', toks := tk } ∧ i ≤ xs.length ∧ k = xs.length + 1 - i ∧ ys.length ≤ i ∧ ((∃ od, IsEnum h' e it i od) ∧ h'.IsListIter it l i ∧ h'.IsList l xs.toArray) ∧ Fr h₀ L h' m ∧ h'.Ns (D + 1) m' ∧
        News h₀ L h' ((D + 2, oc) :: (D, LCg.lst ys) :: news') ∧ oc.data = .cell b ∧ Off5 e it (D + 2) (D + 1) D news' ∧ (l, PySem.W.listOf xs.toArray nl) ∈ news' ∧ J i ys news') ?_ (xs.length + 1) ?_
    · rintro k s' ⟨h', tk, i, ys, m', oc, b, news', rfl, hi, rfl, hyl, hst, F', hn', N', hdc, off', hm', hJ'⟩
      by_cases hlt : i < xs.length
      · refine W.item i _ _ _ (by simpa using hlt) hst fun T vals h₂ tk₂ hP hT hTu hMid hk₂ => ?_
        obtain ⟨t, x, hx, rfl⟩ := hP
        have hx' : xs[i]? = some x := by simpa using hx
        have hTwr : T ∉ [e, it] := W.apart i T h₂ hMid
        refine W.go _ _ _ i T _ _ _ hMid fun h₃ hst₃ hk₃ => ?_
        have up₃ : ∀ c o, c ≠ e → c ≠ it → h'.get? c = some o → h₃.get? c = some o := fun c o h1 h2 q => hk₃ c o (by simp [h1, h2]) (hk₂ c o (by simp [h1, h2]) q)
        have hTu₃ : h₃.IsTuple T #[.int i t, x] := by
          obtain ⟨o, ho, hc, n, hd⟩ := hTu
          exact ⟨o, hk₃ T o hTwr ho, hc, n, hd⟩
        have gc' := (N' _ List.mem_cons_self).1
        have hc₃ : h₃.IsCell (D + 2) b := ⟨oc, up₃ _ _ (Ne.symm AP.a2) (Ne.symm AP.a5) gc', hdc⟩
        refine assign_E hh hTu₃ rfl kAt kWish (by simp [compEnvC]) (hn'.at' fun o q => up₃ _ o (Ne.symm AP.a3) (Ne.symm AP.a6) q) hc₃ AP.a8 fun h₄ tk₄ hn₄ hc₄ hk₄ => ?_
        have hk₄' : ∀ c o, c ≠ D + 1 → c ≠ D + 2 → h₃.get? c = some o → h₄.get? c = some o := hk₄
        have up : ∀ c o, c ≠ e → c ≠ it → c ≠ D + 1 → c ≠ D + 2 → h'.get? c = some o → h₄.get? c = some o := fun c o h1 h2 h3 h4 q => hk₄' c o h3 h4 (up₃ c o h1 h2 q)
        obtain ⟨⟨od₃, hE₃⟩, hI₃, _⟩ := hst₃
        have hE₄ := hk₄' e _ AP.a3 AP.a2 hE₃
        obtain ⟨oi, hoi, hic, hid⟩ := hI₃
        have hI₄ := hk₄' it _ AP.a6 AP.a5 hoi
        obtain ⟨oC, heC, hoC⟩ := LCg.ns_obj hn₄
        obtain ⟨oc₄, hoc₄, hdc₄⟩ := hc₄
        have F₄ : Fr h₀ L h₄ m := ⟨F'.ns.at' fun o q => up _ o (Ne.symm heL) (Ne.symm hiL) (Ne.symm hCL) (Ne.symm hcL) q, fun c o q => up c o (fun z => by rw [z, he₀] at q; cases q) (fun z => by rw [z, hi₀] at q; cases q) (fun z => by rw [z, hC₀] at q; cases q) (fun z => by rw [z, hc₀] at q; cases q) (F'.keep c o q), F'.above⟩
        have gD' := N' _ (List.mem_cons_of_mem _ List.mem_cons_self)
        have N₄ : News h₀ L h₄ ((e, { cls := .type "enumerate", dict := none, data := .fields #[.none, .bool false, .ref it, rawInt ((i : Nat) + 1 : Nat), .none, od₃], slots := #[] }) :: (it, oi) :: (D + 2, oc₄) :: (D + 1, oC) :: (D, LCg.lst ys) :: news') := fun q hq => by
          rcases List.mem_cons.mp hq with rfl | hq
          · exact ⟨hE₄, heL, he₀⟩
          rcases List.mem_cons.mp hq with rfl | hq
          · exact ⟨hI₄, hiL, hi₀⟩
          rcases List.mem_cons.mp hq with rfl | hq
          · exact ⟨hoc₄, hcL, hc₀⟩
          rcases List.mem_cons.mp hq with rfl | hq
          · exact ⟨heC, hCL, hC₀⟩
          rcases List.mem_cons.mp hq with rfl | hq
          · exact ⟨up _ _ (Ne.symm AP.a4) (Ne.symm AP.a7) (Ne.symm AP.a10) (Ne.symm AP.a9) gD'.1, gD'.2⟩
          · have z := N' q (List.mem_cons_of_mem _ (List.mem_cons_of_mem _ hq))
            have o5 := off' q hq
            exact ⟨up _ _ o5.1 o5.2.1 o5.2.2.2.1 o5.2.2.1 z.1, z.2⟩
        have fin : ∀ (ys' : List Value) (h₅ : Heap) (tk₅ : Nat) (oc₅ : Obj) (b₅ : Option Value) (news₅ : Led), ys'.length ≤ i + 1 → Fr h₀ L h₅ m →
            News h₀ L h₅ ((e, { cls := .type "enumerate", dict := none, data := .fields #[.none, .bool false, .ref it, rawInt ((i : Nat) + 1 : Nat), .none, od₃], slots := #[] }) :: (it, oi) :: (D + 2, oc₅) :: (D + 1, oC) :: (D, LCg.lst ys') :: news₅) → oc₅.data = .cell b₅ → Off5 e it (D + 2) (D + 1) D news₅ → (l, PySem.W.listOf xs.toArray nl) ∈ news₅ → J (i + 1) ys' news₅ →
            ∃ q', q' < xs.length + 1 - i ∧ ∃ h' tk i ys m' oc b news', ({ s₂ with heap := h₅, toks := tk₅ } : Shared) = { s₂ with heap := h', toks := tk } ∧ i ≤ xs.length ∧ q' = xs.length + 1 - i ∧ ys.length ≤ i ∧ ((∃ od, IsEnum h' e it i od) ∧ h'.IsListIter it l i ∧ h'.IsList l xs.toArray) ∧ Fr h₀ L h' m ∧ h'.Ns (D + 1) m' ∧
              News h₀ L h' ((D + 2, oc) :: (D, LCg.lst ys) :: news') ∧ oc.data = .cell b ∧ Off5 e it (D + 2) (D + 1) D news' ∧ (l, PySem.W.listOf xs.toArray nl) ∈ news' ∧ J i ys news' := by
          intro ys' h₅ tk₅ oc₅ b₅ news₅ hl₅ F₅ N₅ hd₅ off₅ hm₅ hJ₅
          have zE := (N₅ _ List.mem_cons_self).1
          have zI := (N₅ _ (List.mem_cons_of_mem _ List.mem_cons_self)).1
          have zC := (N₅ _ (List.mem_cons_of_mem _ (List.mem_cons_of_mem _ (List.mem_cons_of_mem _ List.mem_cons_self)))).1
          have zl := (N₅ _ (List.mem_cons_of_mem _ (List.mem_cons_of_mem _ (List.mem_cons_of_mem _ (List.mem_cons_of_mem _ (List.mem_cons_of_mem _ hm₅)))))).1
          refine ⟨xs.length + 1 - (i + 1), by omega, h₅, tk₅, i + 1, ys', _, oc₅, b₅, news₅, rfl, hlt, rfl, hl₅, ⟨⟨od₃, zE⟩, ⟨oi, zI, hic, hid⟩, ⟨_, zl, rfl, _, rfl⟩⟩, F₅, hoC.ns zC, fun q hq => ?_, hd₅, off₅, hm₅, hJ₅⟩
          rcases List.mem_cons.mp hq with rfl | hq
          · exact N₅ _ (List.mem_cons_of_mem _ (List.mem_cons_of_mem _ List.mem_cons_self))
          · exact N₅ _ (List.mem_cons_of_mem _ (List.mem_cons_of_mem _ (List.mem_cons_of_mem _ (List.mem_cons_of_mem _ hq))))
        refine wpAny_mono (turn i x t (D + 2) (D + 1) D _ oi oc₄ oC _ ys h₄ _ news' _ hx' hJ' hoC (by simp) hdc₄ F₄ N₄ off' hm' AP) (fun ok s₅ h₅ => ?_) fun _ _ q => q
        cases ok with
        | false =>
          simp only [Bool.false_eq_true, if_false] at h₅ ⊢
          obtain ⟨h₅, tk₅, oc₅, b₅, news₅, rfl, F₅, N₅, off₅, hd₅, hm₅, hJ₅⟩ := h₅
          exact fin ys h₅ tk₅ oc₅ b₅ news₅ (Nat.le_succ_of_le hyl) F₅ N₅ hd₅ off₅ hm₅ hJ₅
        | true =>
          simp only [if_true] at h₅ ⊢
          refine wpAny_mono h₅ (fun y s₆ h₆ => ?_) fun _ _ q => q
          obtain ⟨h₅, tk₅, oc₅, b₅, news₅, rfl, F₅, N₅, off₅, hd₅, hm₅, hJ₅⟩ := h₆
          have zD := (N₅ _ (List.mem_cons_of_mem _ (List.mem_cons_of_mem _ (List.mem_cons_of_mem _ (List.mem_cons_of_mem _ List.mem_cons_self))))).1
          refine append_at (hsz := by show ys.toArray.size ≤ sizeLine; rw [List.size_toArray, PySem.sizeLine_eq]; omega) zD fun h₆ hs₆ hD₆ => ?_
          refine fin (ys ++ [y]) h₆ _ oc₅ b₅ news₅ (by rw [List.length_append, List.length_singleton]; exact Nat.succ_le_succ hyl) (F₅.change hs₆ hDL hD₀) (fun q hq => ?_) hd₅ off₅ hm₅ hJ₅
          rcases List.mem_cons.mp hq with rfl | hq
          · have z := N₅ _ List.mem_cons_self
            exact ⟨hs₆.extBut _ _ AP.a4 z.1, z.2⟩
          rcases List.mem_cons.mp hq with rfl | hq
          · have z := N₅ _ (List.mem_cons_of_mem _ List.mem_cons_self)
            exact ⟨hs₆.extBut _ _ AP.a7 z.1, z.2⟩
          rcases List.mem_cons.mp hq with rfl | hq
          · have z := N₅ _ (List.mem_cons_of_mem _ (List.mem_cons_of_mem _ List.mem_cons_self))
            exact ⟨hs₆.extBut _ _ AP.a9 z.1, z.2⟩
          rcases List.mem_cons.mp hq with rfl | hq
          · have z := N₅ _ (List.mem_cons_of_mem _ (List.mem_cons_of_mem _ (List.mem_cons_of_mem _ List.mem_cons_self)))
            exact ⟨hs₆.extBut _ _ AP.a10 z.1, z.2⟩
          rcases List.mem_cons.mp hq with rfl | hq
          · exact ⟨hD₆.trans (congrArg some (LCg.lst_snoc ys y)), hDL, hD₀⟩
          · have z := N₅ q (List.mem_cons_of_mem _ (List.mem_cons_of_mem _ (List.mem_cons_of_mem _ (List.mem_cons_of_mem _ (List.mem_cons_of_mem _ hq)))))
            exact ⟨hs₆.extBut _ _ (off₅ q hq).2.2.2.2 z.1, z.2⟩
      · have hin : i = xs.length := Nat.le_antisymm hi (Nat.not_lt.mp hlt)
        subst hin
        refine W.done _ _ _ (by simpa using hst) fun h₂ tk₂ hk₂ => ?_
        have up : ∀ c o, c ≠ e → c ≠ it → h'.get? c = some o → h₂.get? c = some o := fun c o h1 h2 q => hk₂ c o (by simp [h1, h2]) q
        have gD' := N' _ (List.mem_cons_of_mem _ List.mem_cons_self)
        refine hRR _ _ h₂ tk₂ m' ys news' ⟨F'.ns.at' fun o q => up _ o (Ne.symm heL) (Ne.symm hiL) q, fun c o q => up c o (fun z => by rw [z, he₀] at q; cases q) (fun z => by rw [z, hi₀] at q; cases q) (F'.keep c o q), F'.above⟩ (fun q hq => ?_) (fun q hq => (off' q hq).2.2.2.2) (hn'.at' fun o q => up _ o (Ne.symm AP.a3) (Ne.symm AP.a6) q) hC₀ hD₀ hCL hDL AP.a10 (fun q hq => (off' q hq).2.2.2.1) hJ'
        rcases List.mem_cons.mp hq with rfl | hq
        · exact ⟨up _ _ (Ne.symm AP.a4) (Ne.symm AP.a7) gD'.1, gD'.2⟩
        · have z := N' q (List.mem_cons_of_mem _ (List.mem_cons_of_mem _ hq))
          exact ⟨up _ _ (off' q hq).1 (off' q hq).2.1 z.1, z.2⟩
    · obtain ⟨oc, hoc, hdc⟩ := gc
      refine ⟨H3, _, 0, [], _, oc, _, news, rfl, Nat.zero_le _, rfl, Nat.le_refl _, ⟨⟨_, old _ _ hE⟩, ?_, ?_⟩, F.keeps old, nC, fun q hq => ?_, hdc, off0, hm, hJ⟩
      · obtain ⟨o, ho, r⟩ := hI; exact ⟨o, old _ _ ho, r⟩
      · exact ⟨_, old _ _ (N _ hm).1, rfl, _, rfl⟩
      · rcases List.mem_cons.mp hq with rfl | hq
        · exact ⟨hoc, hcL, hc₀⟩
        rcases List.mem_cons.mp hq with rfl | hq
        · exact ⟨gD, hDL, hD₀⟩
        · exact ⟨old _ _ (N q hq).1, (N q hq).2⟩
  exact codeAny_compStart_list (loop _ rfl) (wpAny_pyIter_enum (old _ _ hE) (loop _ rfl))
end block_EK
theorem block_E {prog : Program} {w : World} {A : Around} {E : Value → Shared → Prop} {h₀ : Heap} {L : Addr} {m : Str → Option Value} {env : Env} {elt iter ct : Expr} {pa pb tp : Pos} {kk : Nat} {cl : List (Str × Addr)} {pos : Pos} {s₂ : Shared} {e it l : Addr} {xs : List Value} {nl : Nat} {news : Led} (J : Nat → List Value → Led → Prop) {RR : Value → Addr → Result → Shared → Prop} (hh : A.handled = none) (hsz : xs.length ≤ 1000) (hE : IsEnum s₂.heap e it 0 .none) (hI : s₂.heap.IsListIter it l 0) (hei : e ≠ it) (hm : (l, PySem.W.listOf xs.toArray nl) ∈ news) (F : Fr h₀ L s₂.heap m) (N : News h₀ L s₂.heap news) (heL : e ≠ L) (hiL : it ≠ L) (he₀ : h₀.get? e = none) (hi₀ : h₀.get? it = none) (off : ∀ p ∈ news, p.1 ≠ e ∧ p.1 ≠ it) (hJ : J 0 [] news) (turn : ∀ (i : Nat) (x : Value) (t : Tok) cw C D oe oi oc oC m₂ (ys : List Value) h tk news' (E' : Value → Shared → Prop), xs[i]? = some x → J i ys news' → LCg.NsObj oC m₂ → m₂ sAt = some (.int i t) → oc.data = .cell (some x) → Fr h₀ L h m →
      News h₀ L h ((e, oe) :: (it, oi) :: (cw, oc) :: (C, oC) :: (D, LCg.lst ys) :: news') → Off5 e it cw C D news' → (l, PySem.W.listOf xs.toArray nl) ∈ news' → Apart5 e it cw C D →
      wpAny (model prog w) A (isTrue ct (compEnvC scE ((sWish, cw) :: cl) C env) (eval ct (compEnvC scE ((sWish, cw) :: cl) C env))) (fun ok s' => if ok = true then
        wpAny (model prog w) A (eval elt (compEnvC scE ((sWish, cw) :: cl) C env)) (EndE h₀ L m { s₂ with heap := h, toks := tk } e it cw C D oe oi oC (LCg.lst ys) (l, PySem.W.listOf xs.toArray nl) (fun y news'' => J (i + 1) (ys ++ [y]) news'')) E' s'
        else EndE h₀ L m { s₂ with heap := h, toks := tk } e it cw C D oe oi oC (LCg.lst ys) (l, PySem.W.listOf xs.toArray nl) (fun _ news'' => J (i + 1) ys news'') Value.none s') E' { s₂ with heap := h, toks := tk }) (hRR : ∀ D C h tk m' ys news', Fr h₀ L h m → News h₀ L h ((D, LCg.lst ys) :: news') → (∀ p ∈ news', p.1 ≠ D) → h.Ns C m' → h₀.get? C = none → h₀.get? D = none → C ≠ L → D ≠ L → C ≠ D → (∀ p ∈ news', p.1 ≠ C) → J xs.length ys news' → RR (.ref D) C (.ok .next) { s₂ with heap := h, toks := tk }) : wpAny (model prog w) A (newList []) (fun acc s₃ => wpAny (model prog w) A (newFunctionEnv scE env.globals cl [] env.qual none .none (some env)) (fun cenv s₄ =>
      codeAny (model prog w) A (.compStart (.ListComp elt [⟨.Tuple [.Name sAt pa, .Name sWish pb] kk tp, iter, [ct], 0⟩] scE pos) 0 (.ref e) acc { cenv with scope := relabel scE env }) (RR acc cenv.locals) s₄) E s₃) E s₂ :=
  skol (P := block_EK.ClaimT) (c := block_EK.tup) rfl (by with_unfolding_all exact block_EK.core) (prog, w, A, E, h₀, L, m, env, elt, iter, ct, pa, pb, tp, kk, cl, pos, s₂, e, it, l, xs, nl, news, J, RR) hh hsz hE hI hei hm F N heL hiL he₀ hi₀ off hJ turn hRR
section
variable {prog : Program} {w : World} {A : Around} {E : Value → Shared → Prop} {s : Shared} {h₀ : Heap} {L : Addr} {m : Str → Option Value} {env : Env}
end

end Mine
namespace Mine
theorem off1_of {D : Addr} : ∀ {l : Led}, (∀ p ∈ l, p.1 ≠ D) → LCg.Off1 D l
  | [], _ => trivial
  | p :: r, h => ⟨h p List.mem_cons_self, off1_of fun q hq => h q (List.mem_cons_of_mem _ hq)⟩
/-- the turns of the comprehension over enumerate -/
def TurnE (prog : Program) (w : World) (A : Around) (h₀ : Heap) (L : Addr) (m : Str → Option Value) (env : Env) (ct elt : PySem.Expr) (cl : List (Str × Addr)) (s₂ : Shared) (e it l : Addr) (xs : List Value) (nl : Nat) (J : Nat → List Value → Led → Prop) : Prop :=
  ∀ (i : Nat) (x : Value) (t : Tok) cw C D oe oi oc oC m₂ (ys : List Value) h tk news' (E' : Value → Shared → Prop), xs[i]? = some x → J i ys news' → LCg.NsObj oC m₂ → m₂ sAt = some (.int i t) → oc.data = .cell (some x) → Fr h₀ L h m →
      News h₀ L h ((e, oe) :: (it, oi) :: (cw, oc) :: (C, oC) :: (D, LCg.lst ys) :: news') → Off5 e it cw C D news' → (l, PySem.W.listOf xs.toArray nl) ∈ news' → Apart5 e it cw C D →
      wpAny (model prog w) A (isTrue ct (compEnvC scE ((sWish, cw) :: cl) C env) (eval ct (compEnvC scE ((sWish, cw) :: cl) C env))) (fun ok s' => if ok = true then
        wpAny (model prog w) A (eval elt (compEnvC scE ((sWish, cw) :: cl) C env)) (EndE h₀ L m { s₂ with heap := h, toks := tk } e it cw C D oe oi oC (LCg.lst ys) (l, PySem.W.listOf xs.toArray nl) (fun y news'' => J (i + 1) (ys ++ [y]) news'')) E' s'
        else EndE h₀ L m { s₂ with heap := h, toks := tk } e it cw C D oe oi oC (LCg.lst ys) (l, PySem.W.listOf xs.toArray nl) (fun _ news'' => J (i + 1) ys news'') Value.none s') E' { s₂ with heap := h, toks := tk }
def SrcE (prog : Program) (w : World) (A : Around) (h₀ : Heap) (L : Addr) (m : Str → Option Value) (env : Env) (ct elt : PySem.Expr) (cl : List (Str × Addr)) (y : Str) (Q : Flow → Shared → Prop) (xv : Value) (s₁ : Shared) : Prop :=
  ∃ (e it l : Addr) (xs : List Value) (nl : Nat) (news : Led) (J : Nat → List Value → Led → Prop), xv = .ref e ∧ A.handled = none ∧ xs.length ≤ 1000 ∧ IsEnum s₁.heap e it 0 .none ∧ s₁.heap.IsListIter it l 0 ∧ e ≠ it ∧ (l, PySem.W.listOf xs.toArray nl) ∈ news ∧
    Fr h₀ L s₁.heap m ∧ News h₀ L s₁.heap news ∧ e ≠ L ∧ it ≠ L ∧ h₀.get? e = none ∧ h₀.get? it = none ∧ (∀ p ∈ news, p.1 ≠ e ∧ p.1 ≠ it) ∧ J 0 [] news ∧ TurnE prog w A h₀ L m env ct elt cl s₁ e it l xs nl J ∧
    ∀ ys news', J xs.length ys news' → LCg.FinA h₀ L m s₁ y Q ys news'
section
variable {prog : Program} {w : World} {A : Around} {E : Value → Shared → Prop} {s : Shared} {h₀ : Heap} {L : Addr} {m : Str → Option Value} {env : Env}
theorem enum_led {l : Addr} {xs : List Value} {nl : Nat} {news : Led} {Q : Value → Shared → Prop} (F : Fr h₀ L s.heap m) (N : News h₀ L s.heap news) (hm : (l, PySem.W.listOf xs.toArray nl) ∈ news)
    (h : ∀ e it h', IsEnum h' e it 0 .none → h'.IsListIter it l 0 → e ≠ it → Fr h₀ L h' m → News h₀ L h' news → e ≠ L → it ≠ L → h₀.get? e = none → h₀.get? it = none → (∀ p ∈ news, p.1 ≠ e ∧ p.1 ≠ it) → Q (.ref e) { s with heap := h' }) :
    wpAny (model prog w) A (call (.type "enumerate") [.ref l]) Q E s := by
  have hl : s.heap.IsList l xs.toArray := News.isList N hm
  refine call_enumerate_list hl fun h' hE hI hsz hk => ?_
  have fresh₀ : ∀ a, s.heap.objs.size ≤ a → h₀.get? a = none := fun a ha => by
    cases e : h₀.get? a with
    | none => rfl
    | some o' => exact absurd (Heap.lt_size (F.keep a o' e)) (Nat.not_lt.mpr ha)
  have hLlt : @LT.lt Nat instLTNat L s.heap.objs.size := F.ns.lt
  refine h _ _ h' hE hI (Nat.succ_ne_self _) (F.keeps hk) (fun p hp => ⟨hk _ _ (N p hp).1, (N p hp).2⟩) (Nat.ne_of_gt (by omega)) (Nat.ne_of_gt (by omega)) (fresh₀ _ (Nat.le_succ _)) (fresh₀ _ (Nat.le_refl _)) fun p hp => ?_
  have hlt : @LT.lt Nat instLTNat p.1 s.heap.objs.size := Heap.lt_size (N p hp).1
  exact ⟨Nat.ne_of_lt (by omega), Nat.ne_of_lt (by omega)⟩
theorem Assign_E {elt iter ct : PySem.Expr} {y : Str} {pa pb tp py : Pos} {kk : Nat} {cl : List (Str × Addr)} {pos spos : Pos} {Q : Flow → Shared → Prop} (_F₀ : Fr h₀ L s.heap m) (hLe : env.locals = L)
    (hsw : swapsWith (.ListComp elt [⟨.Tuple [.Name sAt pa, .Name sWish pb] kk tp, iter, [ct], 0⟩] scE pos) (some (.Name y py)) spos.line env = pure true)
    (hclos : closureFor scE env = pure cl) (hy : env.kindOf y = some .local) (hp : (env.scope.kind == .class || (env.scope.kind == .module && env.locals != env.globals)) = false)
    (h : wpAny (model prog w) A (eval iter env) (SrcE prog w A h₀ L m env ct elt cl y Q) E s)
    (hs : ∀ x, foldedSetIterable iter env x = pure x := by intro _; rfl) :
    wpAny (model prog w) A (exec (.Assign [.Name y py] (.ListComp elt [⟨.Tuple [.Name sAt pa, .Name sWish pb] kk tp, iter, [ct], 0⟩] scE pos) spos) env) Q E s := by
  subst hLe
  rw [exec_Assign_Name_used _ _ _ _ hsw]
  refine wpAny_bind (wpAny_standAt (wpAny_bind ?_))
  show wpAny _ A (do let _ ← comprehension (.ListComp elt [⟨.Tuple [.Name sAt pa, .Name sWish pb] kk tp, iter, [ct], 0⟩] scE pos) scE env _ (newList []) false (eval iter env) (some (assign (.Name y py) env))) _ _ s
  refine wpAny_bind (wpAny_mono (wpAny_comprehension_free (use := some (assign (.Name y py) env)) (Q := fun _ s' => Q .next s') rfl hs hclos rfl (by decide)
    (wpAny_mono h (fun xv s₁ h₁ => ?_) fun _ _ e => e)) (fun _ s' hq => wpAny_pure (wpAny_pure hq)) fun _ _ e => e)
  obtain ⟨e, it, l, xs, nl, news, J, rfl, hh, hsz, hE, hI, hei, hm, F, N, heL, hiL, he₀, hi₀, off, hJ, turn, fin⟩ := h₁
  refine wpAny_pyIter_enum hE ?_
  refine block_E (s₂ := s₁) J hh hsz hE hI hei hm F N heL hiL he₀ hi₀ off hJ turn ?_
  intro D C h' tk m' ys news' F' N' o1 hn hC₀ hD₀ hCL hDL hCD offC hJ'
  have finx := fin ys news' hJ'
  show wpAny _ A (assign (.Name y py) env (.ref D)) _ _ _
  refine wpAny_assign_Name (wpAny_storeName_local hy F'.ns (fun h₂ hn₂ hs₂ => ?_) hp)
  have hL₀ : h₀.get? env.locals = none := Heap.get?_none_of_le F'.above
  have F₂ : Fr h₀ env.locals h₂ (fun z => if z = y then some (.ref D) else m z) := ⟨hn₂, fun b o q => hs₂.extBut b o (fun z => by rw [z, hL₀] at q; cases q) (F'.keep b o q), F'.above⟩
  refine ⟨m', hn.sameBut hs₂ hCL, fun h'' hs'' => finx D h'' _ (F₂.change hs'' hCL hC₀) (fun p hp => ?_) (off1_of o1)⟩
  have z : h₂.get? p.1 = some p.2 := hs₂.extBut _ _ (N' p hp).2.1 (N' p hp).1
  refine ⟨hs''.extBut _ _ ?_ z, (N' p hp).2⟩
  rcases List.mem_cons.mp hp with rfl | hp
  · exact Ne.symm hCD
  · exact offC p hp
end

end Mine
namespace Mine
/-! of the wishes for all of a tag the last one holds -/
def keepB (a : Wi) (r : List Wi) : Bool := !a.whole || !(r.any fun l => l.tag == a.tag && l.whole)
def lastL : List Wi → List Wi
  | [] => []
  | a :: r => (if keepB a r = true then [a] else []) ++ lastL r
def kp : List Wi → Nat → List Wi
  | [], _ => []
  | _ :: _, 0 => []
  | a :: r, i + 1 => (if keepB a r = true then [a] else []) ++ kp r i
theorem kp_zero (ws : List Wi) : kp ws 0 = [] := by cases ws <;> rfl
theorem kp_succ : ∀ (ws : List Wi) (i : Nat) (a : Wi), ws[i]? = some a → kp ws (i + 1) = kp ws i ++ (if keepB a (ws.drop (i + 1)) = true then [a] else [])
  | [], _, _, h => by simp at h
  | b :: r, 0, a, h => by
    have e : b = a := Option.some.inj (by simpa using h)
    subst e
    show (if keepB b r = true then [b] else []) ++ kp r 0 = [] ++ _
    rw [kp_zero, List.append_nil, List.nil_append]
    rfl
  | b :: r, i + 1, a, h => by
    have h' : r[i]? = some a := by simpa using h
    show (if keepB b r = true then [b] else []) ++ kp r (i + 1) = ((if keepB b r = true then [b] else []) ++ kp r i) ++ _
    rw [kp_succ r i a h', List.append_assoc]
    rfl
theorem kp_all : ∀ ws : List Wi, kp ws ws.length = lastL ws
  | [] => rfl
  | a :: r => by
    show (if keepB a r = true then [a] else []) ++ kp r r.length = _
    rw [kp_all r]; rfl
def lastO : List Wi → List Wi
  | [] => []
  | a :: r => (if (!a.whole || !(r.any fun l => l.whole)) = true then [a] else []) ++ lastO r
theorem lastL_own (k : Str) : ∀ ws : List Wi, (lastL ws).filter (fun wi => wi.tag == k) = lastO (ws.filter fun wi => wi.tag == k)
  | [] => rfl
  | a :: r => by
    rw [lastL, List.filter_append, lastL_own k r, List.filter_cons]
    by_cases h : a.tag = k
    · have hk : (a.tag == k) = true := by simpa using h
      rw [if_pos hk]
      have e : keepB a r = (!a.whole || !((r.filter fun wi => wi.tag == k).any fun l => l.whole)) := by
        unfold keepB
        rw [List.any_filter, h]
      rw [lastO, ← e]
      cases hb : keepB a r
      · rfl
      · simp only [if_true, List.filter_cons, hk, List.filter_nil]
    · have hk : ¬ (a.tag == k) = true := by simpa using h
      rw [if_neg hk]
      cases hb : keepB a r
      · rfl
      · simp only [if_true, List.filter_cons, hk, List.filter_nil, List.nil_append]
        simp
theorem lastO_nil : ∀ own : List Wi, lastO own = [] ↔ own = []
  | [] => Iff.rfl
  | a :: r => by
    rw [lastO]
    constructor
    · intro h
      rw [List.append_eq_nil_iff] at h
      have hr := (lastO_nil r).mp h.2
      subst hr
      have h1 := h.1
      simp at h1
    · intro h; cases h
theorem wv_any : ∀ own : List Wi, wv own = [] ↔ (own.any fun l => l.whole) = false
  | [] => by simp [wv]
  | a :: r => by
    rw [wv_cons, List.any_cons]
    cases h : a.whole
    · simp only [Bool.false_eq_true, if_false, List.nil_append, Bool.false_or]; exact wv_any r
    · simp
theorem lastD_ne {l : List Int} (h : l ≠ []) (d d' : Int) : lastD l d = lastD l d' := by
  unfold lastD
  rw [List.getLast?_eq_some_getLast h]; rfl
theorem wv_app (a b : List Wi) : wv (a ++ b) = wv a ++ wv b := by unfold wv; rw [List.filter_append, List.map_append]
theorem lastO_wv : ∀ own : List Wi, (wv (lastO own) = [] ↔ wv own = []) ∧ (∀ d, lastD (wv (lastO own)) d = lastD (wv own) d) ∧ ((wv (lastO own)).length < (lastO own).length ↔ (wv own).length < own.length)
  | [] => ⟨Iff.rfl, fun _ => rfl, Iff.rfl⟩
  | a :: r => by
    obtain ⟨i1, i2, i3⟩ := lastO_wv r
    have lr := wv_len r
    have lo := wv_len (lastO r)
    cases h : a.whole with
    | false =>
      have e : lastO (a :: r) = a :: lastO r := by rw [lastO, h]; rfl
      rw [e, wv_cons, wv_cons, h]
      simp only [Bool.false_eq_true, if_false, List.nil_append, List.length_cons]
      exact ⟨i1, i2, by omega⟩
    | true =>
      cases hr : r.any fun l => l.whole with
      | true =>
        have e : lastO (a :: r) = lastO r := by rw [lastO, h, hr]; rfl
        have hn : wv r ≠ [] := fun q => by rw [(wv_any r).mp q] at hr; cases hr
        rw [e, wv_cons, h]
        simp only [if_true, List.length_cons, List.length_append, List.length_nil]
        refine ⟨⟨fun q => absurd (i1.mp q) hn, fun q => by simp at q⟩, fun d => ?_, by omega⟩
        rw [i2, lastD_app]
        exact lastD_ne hn _ _
      | false =>
        have e : lastO (a :: r) = a :: lastO r := by rw [lastO, h, hr]; rfl
        have hn : wv r = [] := (wv_any r).mpr hr
        have hn' : wv (lastO r) = [] := i1.mpr hn
        rw [e, wv_cons, wv_cons, h, hn, hn']
        rw [hn, hn'] at i3
        simp only [if_true, List.length_cons, List.length_nil, List.append_nil] at i3 ⊢
        exact ⟨trivial, fun _ => trivial, by omega⟩
/-- a key's value, its marks: the same for all wishes and for the last ones -/
theorem last_look (ar bb : Bool) (ws : List Wi) (k : Str) : (look (allT ar bb (lastL ws)) k).val = (look (allT ar bb ws) k).val ∧ (look (allT ar bb (lastL ws)) k).isSet = (look (allT ar bb ws) k).isSet ∧ (look (allT ar bb (lastL ws)) k).isPart = (look (allT ar bb ws) k).isPart := by
  rw [look_all, look_all, lastL_own]
  obtain ⟨h1, h2, h3⟩ := lastO_wv (ws.filter fun wi => wi.tag == k)
  refine ⟨?_, ?_, ?_⟩
  · rw [own_val, own_val, h2]
  · rw [own_set, own_set]
    congr 1
    exact decide_eq_decide.mpr h1
  · rw [own_part, own_part]
    congr 1
    exact decide_eq_decide.mpr h3
theorem last_tags (ws : List Wi) (k : Str) : k ∈ (lastL ws).map (·.tag) ↔ k ∈ ws.map (·.tag) := by
  have e : ∀ l : List Wi, k ∈ l.map (·.tag) ↔ (l.filter fun wi => wi.tag == k) ≠ [] := fun l => by
    rw [List.mem_map, Ne, List.filter_eq_nil_iff]
    constructor
    · rintro ⟨a, ha, h⟩ q
      exact q a ha (by simpa using h)
    · intro q
      refine Classical.byContradiction fun n => q fun a ha h => n ⟨a, ha, by simpa using h⟩
  rw [e, e, lastL_own, Ne, Ne, lastO_nil]
theorem last_keys (ar bb : Bool) (ws : List Wi) (k : Str) : k ∈ (allT ar bb (lastL ws)).map (·.1) ↔ k ∈ (allT ar bb ws).map (·.1) := by
  unfold allT
  rw [foldT_keys, foldT_keys, last_tags]
theorem last_sub : ∀ (ws : List Wi) (wi : Wi), wi ∈ lastL ws → wi ∈ ws
  | [], _, h => h
  | a :: r, wi, h => by
    rw [lastL, List.mem_append] at h
    rcases h with h | h
    · split at h
      · rw [List.mem_singleton.mp h]; exact List.mem_cons_self
      · cases h
    · exact List.mem_cons_of_mem _ (last_sub r wi h)
theorem last_len : ∀ ws : List Wi, (lastL ws).length ≤ ws.length
  | [] => Nat.le_refl _
  | a :: r => by
    have := last_len r
    rw [lastL, List.length_append, List.length_cons]
    split
    · simp only [List.length_cons, List.length_nil]; omega
    · simp only [List.length_nil]; omega
/-! rows without the greatest value -/
def p4 (r : Str × WantD) : Str × Int × Bool × Bool := (r.1, r.2.val, r.2.isSet, r.2.isPart)
theorem rows4_one {ar bb : Bool} {ws : List Wi} {S S' : List (Str × WantD)} (p : S.Perm (allT ar bb ws)) (p' : S'.Perm (allT ar bb (lastL ws))) (hn : ((allT ar bb ws).map (·.1)).Nodup) (hn' : ((allT ar bb (lastL ws)).map (·.1)).Nodup)
    (h : sortedS (S.map (·.1)) = true) (h' : sortedS (S'.map (·.1)) = true) : S'.map p4 = S.map p4 := by
  have pk : ((allT ar bb (lastL ws)).map (·.1)).Perm ((allT ar bb ws).map (·.1)) := (List.perm_ext_iff_of_nodup hn' hn).mpr (last_keys ar bb ws)
  have e := sorted_one h' h ((p'.map (·.1)).trans (pk.trans (p.map (·.1)).symm))
  have nS : (S.map (·.1)).Nodup := (p.map (·.1)).nodup_iff.mpr hn
  have nS' : (S'.map (·.1)).Nodup := (p'.map (·.1)).nodup_iff.mpr hn'
  have s1 : S'.map p4 = (S.map (·.1)).map fun k => p4 (k, look S' k) := by
    conv => lhs; rw [← map_look nS', e, List.map_map]
    rfl
  have s2 : S.map p4 = (S.map (·.1)).map fun k => p4 (k, look S k) := by
    conv => lhs; rw [← map_look nS, List.map_map]
    rfl
  rw [s1, s2]
  refine List.map_congr_left fun k hk => ?_
  have hk' : k ∈ S'.map (·.1) := by rw [e]; exact hk
  obtain ⟨q, hq, e1⟩ := List.mem_map.mp hk
  obtain ⟨q', hq', e1'⟩ := List.mem_map.mp hk'
  have l1 : look S k = look (allT ar bb ws) k := by
    subst e1
    rw [look_at nS hq, look_at hn (p.mem_iff.mp hq)]
  have l2 : look S' k = look (allT ar bb (lastL ws)) k := by
    subst e1'
    rw [look_at nS' hq', look_at hn' (p'.mem_iff.mp hq')]
  obtain ⟨a1, a2, a3⟩ := last_look ar bb ws k
  show (k, (look S' k).val, (look S' k).isSet, (look S' k).isPart) = (k, (look S k).val, (look S k).isSet, (look S k).isPart)
  rw [l1, l2, a1, a2, a3]
def Row4At (R : Led) (y : Value) (r : Str × WantD) : Prop :=
  ∃ a t u1 n, y = .ref a ∧ (a, ({ cls := .type "tuple", data := .seq [Value.str r.1 t, .int r.2.val u1, .bool r.2.isSet, .bool r.2.isPart].toArray n } : Obj)) ∈ R
theorem Row4At.mono {R R' : Led} {y : Value} {r : Str × WantD} (h : Row4At R y r) (hs : ∀ p ∈ R, p ∈ R') : Row4At R' y r := by
  obtain ⟨a, t, u1, n, e, h⟩ := h
  exact ⟨a, t, u1, n, e, hs _ h⟩
def rowP4 (r : Str × Int × Bool × Bool) : PyData := .tuple [.str r.1, .int r.2.1, .bool r.2.2.1, .bool r.2.2.2]
theorem rows4_reads {h₀ h : Heap} {L : Addr} {R : Led} (N : News h₀ L h R) {vs : List Value} {S : List (Str × WantD)} (hS : AllR (Row4At R) vs S) : ∃ as, ReadsAll h vs ((S.map p4).map rowP4) as := by
  induction hS with
  | nil => exact ⟨_, ReadsAll.nil⟩
  | cons hr _ ih =>
    obtain ⟨as, ia⟩ := ih
    obtain ⟨a, t, u1, n, rfl, hm⟩ := hr
    exact ⟨_, ReadsAll.cons (reads_tuple_at (N.get hm) rfl rfl (.cons (.str _ _) (.cons (.int _ _) (.cons (.bool _) (.cons (.bool _) .nil))))) ia⟩
theorem rows4_lay {S : List (Str × Int × Bool × Bool)} (h : ∀ p ∈ S, PyData.strOk p.1 = true) : PyData.canLayAll0 (S.map rowP4) = true ∧ PyData.depthAll (S.map rowP4) ≤ 2 := by
  induction S with
  | nil => exact ⟨rfl, by simp [PyData.depthAll]⟩
  | cons p r ih =>
    obtain ⟨i1, i2⟩ := ih fun q hq => h q (List.mem_cons_of_mem _ hq)
    have hp := h p List.mem_cons_self
    refine ⟨?_, ?_⟩
    · rw [List.map_cons]; simp only [PyData.canLayAll0, rowP4, PyData.canLay0, hp, i1, Bool.and_true]
    · rw [List.map_cons]; simp only [PyData.depthAll, rowP4, PyData.depth]; omega
theorem rows4_eqv (S : List (Str × Int × Bool × Bool)) : PyData.eqvAll (S.map rowP4) (S.map rowP4) = true := by
  induction S with
  | nil => rfl
  | cons p r ih => rw [List.map_cons]; simp only [PyData.eqvAll, rowP4, PyData.eqv, ih, beq_self_eq_true, Bool.and_true, Bool.and_self]
theorem rows4_ne {prog : Program} {w : World} {A : Around} {E : Value → Shared → Prop} {s : Shared} {h₀ : Heap} {L a b : Addr} {R : Led} {vs us : List Value} {n k : Nat} {S S' : List (Str × WantD)} {Q : Value → Shared → Prop}
    (N : News h₀ L s.heap R) (ha : (a, PySem.W.listOf vs.toArray n) ∈ R) (hb : (b, PySem.W.listOf us.toArray k) ∈ R) (hS : AllR (Row4At R) vs S) (hS' : AllR (Row4At R) us S') (e : S.map p4 = S'.map p4) (hs : ∀ p ∈ S', PyData.strOk p.1 = true) (hu : A.units + 64 < cLine) (h : Q (.bool false) s) :
    wpAny (model prog w) A (compareOp .NotEq (.ref a) (.ref b)) Q E s := by
  obtain ⟨as, ra⟩ := rows4_reads N hS
  obtain ⟨bs, rb⟩ := rows4_reads N hS'
  rw [e] at ra
  have hs' : ∀ p ∈ S'.map p4, PyData.strOk p.1 = true := fun p hp => by
    obtain ⟨q, hq, rfl⟩ := List.mem_map.mp hp
    exact hs q hq
  have sh : PySem.SeqAt.shaped (.list ((S'.map p4).map rowP4)) = true := by
    have := rows4_lay hs'
    unfold PySem.SeqAt.shaped
    rw [Bool.and_eq_true]
    exact ⟨by simp only [PyData.canLay0, this.1], decide_eq_true (by simp only [PyData.depth]; omega)⟩
  refine ne_dataH (reads_list_at (N.get ha) rfl rfl (by simpa using ra)) (reads_list_at (N.get hb) rfl rfl (by simpa using rb)) sh sh hu ?_
  have e : PyData.eqv (.list ((S'.map p4).map rowP4)) (.list ((S'.map p4).map rowP4)) = true := by rw [PyData.eqv]; exact rows4_eqv _
  rw [e]; exact h

end Mine
namespace Mine
local macro_rules | `(tactic| k_all) => `(tactic| assumption)
local macro_rules | `(tactic| k_mem) => `(tactic| assumption)
local macro_rules | `(tactic| ktr_room) => `(tactic| ((try simp only [depth_under_make, depth_under_kw, depth_in1, depth_deeper, depth_caller] at *); (try dsimp only [ktrTop] at *); omega))
local macro_rules | `(tactic| k_room) => `(tactic| ktr_room)
abbrev wishD (P : Params) (tag : Str) (val b e : Int) (t1 t2 t3 t4 u1 u2 u3 u4 : Tok) : Obj :=
  PySem.W.dictOf [⟨PyData.keyHash P (Str.ofString "tag"), .str (Str.ofString "tag") t1, .str tag u1⟩, ⟨PyData.keyHash P (Str.ofString "value"), .str (Str.ofString "value") t2, .int val u2⟩,
      ⟨PyData.keyHash P (Str.ofString "begin"), .str (Str.ofString "begin") t3, .int b u3⟩, ⟨PyData.keyHash P (Str.ofString "end"), .str (Str.ofString "end") t4, .int e u4⟩] 4
abbrev NewWish (P : Params) (R : Led) (tag : Str) (val b e : Int) (v : Value) (R' : Led) : Prop :=
  ∃ x d t1 t2 t3 t4 u1 u2 u3 u4, v = .ref x ∧ R' = (x, instObj 100 d) :: (d, wishD P tag val b e t1 t2 t3 t4 u1 u2 u3 u4) :: R ∧ @LT.lt Nat _ d x ∧ ∀ p ∈ R, p.1 < d
theorem wish4_ok {w : World} {R : Led} {tag : Str} {val b e : Int} {u1 u2 u3 u4 : Tok} :
    SpecN 14 w 100 [.str tag u1, .int val u2, .int b u3, .int e u4] R (NewWish w.params R tag val b e) := by
  w_top off
  intro dp un gd cn cs L a ccd cl outer A₀ base h₀ m s Q E loose mean mg mb B F X N T hk hd hu hret
  k_dflt (refine' call_cls ?k1 ?k2 ?k3 ?k4 ?k5 ?k6 ?_; (case k1 => k_asm); (case k2 => k_asm); (case k3 => k_asm); (case k4 => k_is); (case k5 => k_is); (case k6 => k_is))
  intro x d h1 F1 N1 l1 l2
  have l1' := l1
  (try k_lt l1)
  have l2' : @LT.lt Nat _ d x := l2
  k_dflt (refine' code_def ?k1 ?k2 ?k3 ?k4 ?k5 ?kA ?kF ?kK ?k6 ?k7 ?k8 ?k9 ?kB ?_ ?c2 ?c3 ?c4 ?c5; (case kA => exact rfl); (case kF => exact rfl); (case kK => assumption); (case k1 => k_asm); (case k2 => k_asm); (case k3 => k_asm); (case k4 => k_asm); (case k5 => k_asm); (case k6 => k_is); (case k7 => k_is); (case k8 => ktr_room); (case k9 => exact binds_K (by k_in) rfl (by k_is) rfl rfl rfl); (case c5 => decide); (case kB => exact locs rfl); (case c2 => exact rfl); (case c3 => exact rfl); (case c4 => exact rfl); k_whole; intro g' L' h' FG' F' N' B' X' T'; (try dsimp only); (try k_lift B'); (try k_fold))
  k_steps
  exact hret _ _ _ _ (by k_asm) (by k_asm) ⟨x, d, _, _, _, _, _, _, _, _, rfl, rfl, l2', l1'⟩
theorem wish2_ok {w : World} {R : Led} {tag : Str} {val : Int} {u1 u2 : Tok} :
    SpecN 14 w 100 [.str tag u1, .int val u2] R (NewWish w.params R tag val 0 (-1)) := by
  w_top off
  intro dp un gd cn cs L a ccd cl outer A₀ base h₀ m s Q E loose mean mg mb B F X N T hk hd hu hret
  k_dflt (refine' call_cls ?k1 ?k2 ?k3 ?k4 ?k5 ?k6 ?_; (case k1 => k_asm); (case k2 => k_asm); (case k3 => k_asm); (case k4 => k_is); (case k5 => k_is); (case k6 => k_is))
  intro x d h1 F1 N1 l1 l2
  have l1' := l1
  (try k_lt l1)
  have l2' : @LT.lt Nat _ d x := l2
  k_dflt (refine' code_def ?k1 ?k2 ?k3 ?k4 ?k5 ?kA ?kF ?kK ?k6 ?k7 ?k8 ?k9 ?kB ?_ ?c2 ?c3 ?c4 ?c5; (case kA => exact rfl); (case kF => exact rfl); (case kK => assumption); (case k1 => k_asm); (case k2 => k_asm); (case k3 => k_asm); (case k4 => k_asm); (case k5 => k_asm); (case k6 => k_is); (case k7 => k_is); (case k8 => ktr_room); (case k9 => exact binds_K (by k_in) rfl (by k_is) rfl rfl rfl); (case c5 => decide); (case kB => exact locs rfl); (case c2 => exact rfl); (case c3 => exact rfl); (case c4 => exact rfl); k_whole; intro g' L' h' FG' F' N' B' X' T'; (try dsimp only); (try k_lift B'); (try k_fold))
  k_steps
  exact hret _ _ _ _ (by k_asm) (by k_asm) ⟨x, d, _, _, _, _, _, _, _, _, rfl, rfl, l2', l1'⟩

end Mine
namespace Mine
theorem wd_type : typeOf (.builtin "Exception.__init__") = pure (.type "wrapper_descriptor") := by
  have hop : withoutEnding? "Exception.__init__" "#opaque" = none := by decide +kernel
  have hdat : withoutEnding? "Exception.__init__" "#data" = none := by decide +kernel
  simp only [typeOf, builtinType, hop, hdat, PySem.F.excBase_Exception.initKind]; rfl
theorem slot_wd_get : Slot "wrapper_descriptor" "__get__" "wrapper_descriptor.__get__" :=
  .of (owner := "wrapper_descriptor") (n := "__get__") (by rw [typeLookup_type, builtinLookup_eq_fast]; kernel_rfl) (by decide +kernel) (by decide +kernel) (by decide +kernel)
    (by first | exact .inl (by decide +kernel) | exact .inr (by decide +kernel)) (by rw [isSubtype_type]; kernel_rfl)
theorem entry_wd_get : entryFor table "wrapper_descriptor.__get__" = some Builtin.«wrapper_descriptor.__get__» := entryFor_of_tree (by kernel_rfl)
theorem args_wd_get (a b c : Value) : argsOk "wrapper_descriptor.__get__" ⟨[a, b, c], []⟩ := by unfold argsOk; kernel_rfl
abbrev mwObj (e : Addr) : Obj := { cls := .type "method-wrapper", data := .fields #[.builtin "Exception.__init__", .ref e] }
section
variable {prog : Program} {w : World} {A : Around} {E : Value → Shared → Prop} {h : Heap} {g : Array GenState} {d : Drawn} {t : Nat} {os : OsState}
variable {nm q : Str} {C N : Addr} {bs bm : List Value} {hdct : Bool} {sn : List Str} {sub : List Value} {ab : Bool} {col : Option Bool} {dd : Option Addr} {k0 k1 k2 k3 k5 : Option Value} {newId : String}
theorem wd_get {e : Addr} {oe : Obj} {Q : Value → Shared → Prop} (hC : h.get? C = some (excClassObj nm q C N bs bm hdct sn sub ab col dd k0 k1 k2 k3 k5 newId)) (hbE : bm.contains (.type "Exception") = true) (he : h.get? e = some oe) (hcls : oe.cls = .ref C)
    (hq : Q (.ref h.objs.size) ⟨h.push (mwObj e), g, d, t, os⟩) :
    wpAny (model prog w) A (call (.builtin "wrapper_descriptor.__get__") [.builtin "Exception.__init__", .ref e, .ref C]) Q E ⟨h, g, d, t, os⟩ := by
  have hcE : (Value.ref C :: bm).contains (.type "Exception") = true := by rw [List.contains_cons, hbE, Bool.or_true]
  refine wpAny_call_entry slot_wd_get wd_type entry_wd_get ?_ (args_wd_get _ _ _)
  unfold Builtin.«wrapper_descriptor.__get__»
  refine wpAny_bind (wpAny_of_eq (a := (Value.builtin "Exception.__init__", some (Value.ref e), some (Value.ref C))) (by rfl) ?_)
  (try dsimp only)
  wp_delta
  refine wpAny_bind ?_
  wp_delta
  refine wpAny_bind (wpAny_of_eq (a := (Str.ofString "__init__", Value.type "Exception")) (by kernel_rfl) ?_)
  (try dsimp only)
  unfold isInstance
  repeat (first | (with_reducible refine wpAny_loadPart_at he ?_; rw [hcls]) | with_reducible refine wpAny_loadPart_at hC ?_ | (with_reducible refine wpAny_isSubtype_exc hC ?_; rw [hcE]) | wp_step)
  exact ⟨_, rfl, hq⟩
end
abbrev supO (D x C : Addr) : Obj := { cls := .type "super", dict := none, data := .fields #[.ref D, .ref x, .ref C], slots := #[] }
section
variable {prog : Program} {w : World} {A : Around} {E : Value → Shared → Prop} {h : Heap} {g : Array GenState} {d : Drawn} {t : Nat} {os : OsState}
variable {nm q : Str} {C N : Addr} {bs bm : List Value} {hdct : Bool} {sn : List Str} {sub : List Value} {ab : Bool} {col : Option Bool} {dd : Option Addr} {k0 k1 k2 k3 k5 : Option Value} {newId : String}
theorem super_ga {so D e : Addr} {oe : Obj} {l₀ l : List Value} {K : Frag} {tk : Tok} {Q : Fin → Shared → Prop}
    (hso : h.get? so = some (supO D e C)) (hno : Looks (model prog w) h (opaqueClassAbove (.ref C)) none)
    (hLC : Looks (model prog w) h (mroOf (.ref C)) l₀) (hl : (l₀.dropWhile (· != .ref D)).drop 1 = l) (X : K.In h)
    (hf : alongIn K (Str.ofString "__init__") l = some (some (.builtin "Exception.__init__")))
    (hC : h.get? C = some (excClassObj nm q C N bs bm hdct sn sub ab col dd k0 k1 k2 k3 k5 newId)) (hbE : bm.contains (.type "Exception") = true) (he : h.get? e = some oe) (hcls : oe.cls = .ref C) (hxC : e ≠ C)
    (hq : Q (.done (.ret (.ref h.objs.size))) ⟨h.push (mwObj e), g, d, t, os⟩) :
    wpAny (model prog w) A (Builtin.«super.__getattribute__» ⟨[.ref so, .str (Str.ofString "__init__") tk], []⟩) Q E ⟨h, g, d, t, os⟩ := by
  have hlk := slot_wd_get.lookup
  have hne : (Value.ref e == Value.ref C) = false := by simp [hxC]
  have hn : ((Str.ofString "__init__") == ("__class__" : Str)) = false := by decide
  have hTf : (⟨h, g, d, t, os⟩ : Shared).TypeIs (.builtin "Exception.__init__") "wrapper_descriptor" := wd_type
  have hdt : (supO D e C).data = .fields #[.ref D, .ref e, .ref C] := rfl
  have f0 : (#[.ref D, .ref e, .ref C] : Array Value)[0]? = some (.ref D) := rfl
  have f1 : (#[.ref D, .ref e, .ref C] : Array Value)[1]? = some (.ref e) := rfl
  have f2 : (#[.ref D, .ref e, .ref C] : Array Value)[2]? = some (.ref C) := rfl
  unfold Builtin.«super.__getattribute__»
  repeat (first
    | (with_reducible refine wpAny_field hso hdt f0 ?_) | (with_reducible refine wpAny_field hso hdt f1 ?_) | (with_reducible refine wpAny_field hso hdt f2 ?_)
    | (with_reducible refine ks_wpAny_notOpaque hno ?_)
    | (with_reducible refine Looks.at hLC ?_; rw [hl])
    | (refine ks_forIn_along X (fun _ _ => rfl) rfl ?_ hf)
    | (with_reducible refine wpAny_typeOf hTf ?_)
    | (with_reducible refine wd_get hC hbE he hcls ?_)
    | (with_reducible refine ⟨_, rfl, ?_⟩)
    | (simp only [hn, hne, Bool.or_false, Bool.false_eq_true, if_false])
    | wp_step
    | dsimp only)
  all_goals exact hq
/-- super().__init__ looked up: the built-in one, bound -/
theorem super_method {so D e : Addr} {oe : Obj} {l₀ l : List Value} {K : Frag} {pl : Sem Bool} {Q : Value × List Value → Shared → Prop}
    (hso : h.get? so = some (supO D e C)) (hno : Looks (model prog w) h (opaqueClassAbove (.ref C)) none)
    (hLC : Looks (model prog w) h (mroOf (.ref C)) l₀) (hl : (l₀.dropWhile (· != .ref D)).drop 1 = l) (X : K.In h)
    (hf : alongIn K (Str.ofString "__init__") l = some (some (.builtin "Exception.__init__")))
    (hC : h.get? C = some (excClassObj nm q C N bs bm hdct sn sub ab col dd k0 k1 k2 k3 k5 newId)) (hbE : bm.contains (.type "Exception") = true) (he : h.get? e = some oe) (hcls : oe.cls = .ref C) (hxC : e ≠ C)
    (hq : Q (.ref h.objs.size, []) ⟨h.push (mwObj e), g, d, t + 1, os⟩) :
    wpAny (model prog w) A (getMethod (.ref so) (Str.ofString "__init__") pl) Q E ⟨h, g, d, t, os⟩ := by
  have hlk := F.ks_slot_super_ga.lookup
  have hcan := F.ks_canon_super_ga
  have hT : ∀ t', (⟨h, g, d, t', os⟩ : Shared).TypeIs (.ref so) "super" := fun _ => ⟨_, hso, rfl⟩
  unfold getMethod
  refine wpAny_bind (wpAny_specialOf (hT _) hlk ?_)
  show wpAny _ _ (if (Manifest.canonical "super.__getattribute__" != "object.__getattribute__") = true then _ else _) _ _ _
  rw [if_pos hcan]
  unfold getAttr getAttrBy
  refine wpAny_bind (wpAny_bind (wpAny_mkText (wpAny_holding (wpAny_bind (wpAny_typeOf (hT _) (wpAny_bind (wpAny_of_eq hlk ?_)))))))
  show wpAny _ _ (getAttrByItsOwn (.ref so) (.str (Str.ofString "__init__") t) (.type "super") (.builtin "super.__getattribute__") true false) _ _ _
  unfold getAttrByItsOwn hookBefore callGetattribute boundAndCalled
  refine wpAny_bind (wpAny_of_eq (show (if onTheHeap (.type "super") then typeLookup (.type "super") "__getattr__" else pure none) = pure none from rfl) ?_)
  refine wpAny_bind (wpAny_attempt (wpAny_holding ?_))
  show wpAny _ _ (bindSpecial (.builtin "super.__getattribute__") (.ref so) >>= _) _ _ _
  refine wpAny_bind (wpAny_of_eq (F.ks_slot_super_ga.bind _) ?_)
  refine wpAny_mono (Q := fun v s' => v = .ref h.objs.size ∧ s' = ⟨h.push (mwObj e), g, d, t + 1, os⟩) (E := fun _ _ => False)
    (wpAny_call_entry F.ks_slot_super_ga (hT _) F.ks_entry_super_ga (super_ga hso hno hLC hl X hf hC hbE he hcls hxC ⟨_, rfl, rfl, rfl⟩) (F.ks_gaArgs_super _ _)) (fun v s' hv => ?_) fun _ _ z => z.elim
  obtain ⟨rfl, rfl⟩ := hv
  exact wpAny_pure (wpAny_pure hq)
/-- the bound built-in __init__ called -/
theorem call_mw {mw e : Addr} {dd' : Option Addr} {t0 : Addr} {msg : Value} {Q : Value → Shared → Prop} (hmw : h.get? mw = some (mwObj e)) (he : h.get? e = some { cls := .ref C, dict := dd', data := .fields #[.ref t0, .none, .none, .none, .bool false, .none] })
    (hC : h.get? C = some (excClassObj nm q C N bs bm hdct sn sub ab col dd k0 k1 k2 k3 k5 newId)) (hbE : bm.contains (.type "Exception") = true)
    (hq : Q .none ⟨(h.push { cls := .type "tuple", data := .seq [msg].toArray }).update e (Obj.mapFields (·.setIfInBounds 0 (.ref h.objs.size))), g, d, t, os⟩) :
    wpAny (model prog w) A (call (.ref mw) [msg]) Q E ⟨h, g, d, t, os⟩ := by
  have hcE : (Value.ref C :: bm).contains (.type "Exception") = true := by rw [List.contains_cons, hbE, Bool.or_true]
  refine wpAny_call (codeAny_of_tree ?_)
  show wpAny _ A.in1 (callAny (.ref mw) _) _ _ _
  unfold callAny
  refine wpAny_bind (wpAny_load hmw ?_)
  have FE := PySem.F.excBase_Exception
  have hstar := FE.noStar
  (try dsimp only)
  rw [if_pos (by decide)]
  (try dsimp only)
  show wpAny _ A.in1 (if (Value.type "method-wrapper" != Value.type "method") = true then (do checkBoundCall "Exception.__init__" ⟨[.ref e, msg], []⟩; again (Code.builtin "Exception.__init__" ⟨[.ref e, msg], []⟩)) else _) _ _ _
  rw [if_pos (by decide)]
  refine wpAny_bind (m := checkBoundCall _ _) ?_
  unfold checkBoundCall
  simp only [FE.initRow, FE.initKind]
  rw [if_pos (by decide)]
  have hcls : ({ cls := .ref C, dict := dd', data := .fields #[.ref t0, .none, .none, .none, .bool false, .none] } : Obj).cls = .ref C := rfl
  unfold Bind.checkArgs
  repeat (first | (with_reducible refine wpAny_loadPart_at he ?_; rw [hcls]) | with_reducible refine wpAny_loadPart_at hC ?_ | (with_reducible refine wpAny_isSubtype_exc hC ?_; rw [hcE]) | wp_step)
  refine ⟨plainId_quiet FE.init.plain _, codeAny_builtin FE.initEntry ?_⟩
  unfold Builtin.«BaseException.__init__»
  wp_walk
  exact hq
end

end Mine
namespace Mine
open PySem.Calls Builtin Builtin.ObjectAttr
abbrev excM : List Value := [.type "Exception", .type "BaseException", .type "object"]
abbrev exO (C : Addr) (dd : Option Addr) (t : Addr) : Obj := { cls := .ref C, dict := dd, data := .fields #[.ref t, .none, .none, .none, .bool false, .none] }
def excOver (K : Frag) (C B : Addr) : Bool := (clsIn K C).any fun cd => cd.mro == (.ref C :: .ref B :: excM)
theorem refuse_exc (self : Value) (C B : Addr) : refuseLoop self "__setattr__" (.ref C :: .ref B :: excM) = pure () := by
  rw [refuseLoop_ref, refuseLoop_ref]; exact PySem.F.store_Exception.passes self
section
variable {prog : Program} {w : World} {A : Around} {K : Frag} {C B x : Addr} {s : Shared} {h₀ : Heap} {L : Addr} {m : Str → Option Value} {news : List (Addr × Obj)} {R : Result → Shared → Prop}
theorem exc_osa {ox : Obj} {od : Option Obj} {name : Str} {tk : Tok} {v : Value} (X : K.In s.heap) (I : InstAt s.heap x ox C od) (hp : excOver K C B = true) (ht : takerIn K C name = some none)
    (h : ∀ b, wpAny (model prog w) A.in1 (storeInOwnDict (.ref x) (.ref C) (.str name tk) name v b)
      (fun fin s' => match fin with | .done f => R (.ok f) s' | .again c' => c'.quiet = true ∧ codeAny (model prog w) A c' R s') (fun e s' => R (.error e) s') s) :
    codeAny (model prog w) A (.call (.builtin "object.__setattr__") ⟨[.ref x, .str name tk, v], []⟩) R s := by
  have SF := PySem.F.store_object
  obtain ⟨cd, hc, ho⟩ := any_some hp
  have ho : cd.mro = (.ref C :: .ref B :: excM) := eq_of_beq ho
  have ne : cd.mro.isEmpty = false := by rw [ho]; rfl
  have sub : Looks (model prog w) s.heap (isInstance (.ref x) (.type "object")) true := I.type.andThen (looks_mroIn X (by unfold mroIn; rw [hc, Option.bind_some, if_neg (by rw [ne]; decide), ho]; simp))
  refine codeAny_call_builtin SF.slot.plain SF.entry (@check_slot (model prog w) _ _ s "object.__setattr__" "object" "__setattr__" (.ref x) [.str name tk, v] [] _ SF.kind SF.split sub (SF.args (.ref x) (.str name tk) v) ?_)
  obtain ⟨attr, ha, hr⟩ := Option.bind_eq_some_iff.mp ht
  have hm : Looks (model prog w) s.heap (mroOf (.ref C)) cd.mro := (looks_clsIn X hc).andThen .now
  have L3 : Looks (model prog w) s.heap (storeTaker? attr) none := by
    cases attr with
    | none => exact .now
    | some a =>
      obtain ⟨b, hb, hb'⟩ := Option.map_eq_some_iff.mp hr
      refine (looks_takesIn X hb).andThen ?_
      cases b
      · exact .now
      · cases hb'
  rw [osa_eq, refuse_eq]
  refine wpAny_bind (wpAny_bind (I.type.here (wpAny_bind (hm.here ?_))))
  rw [ho, refuse_exc]
  refine wpAny_pure (wpAny_bind (I.type.here (wpAny_bind ((looks_findIn X ha).here (wpAny_bind (L3.here ?_))))))
  exact h _
theorem store_in {A : Around} {E : Value → Shared → Prop} {dx : Addr} {name : Str} {tk : Tok} {v : Value} {es es' : List DictEntry} {n n' : Nat} {pre post : List (Addr × Obj)} {Q : Fin → Shared → Prop}
    (F : Fr h₀ L s.heap m) (N : News h₀ L s.heap (pre ++ (dx, dictOf es n) :: post)) (hl : (getL name es).isSome = true) (h1 : ∀ p ∈ pre, p.1 ≠ dx) (h2 : ∀ p ∈ post, p.1 ≠ dx)
    (e : (putL name (PyData.keyHash w.params name) (.str name s.toks) v es, putN name es n) = (es', n')) (hz : es'.length ≤ 1000)
    (h : ∀ h', Fr h₀ L h' m → News h₀ L h' (pre ++ (dx, dictOf es' n') :: post) → Q (.done (.ret .none)) { s with heap := h', toks := s.toks + 1 }) :
    wpAny (model prog w) A (storeInDict dx (.str name tk) name v) Q E s := by
  obtain ⟨e1, e2⟩ := Prod.mk.inj e
  have ep : Obj.putName name (PyData.keyHash w.params name) (.str name s.toks) v (dictOf es n) = dictOf es' n' := by rw [putName_dict, e1, e2]
  obtain ⟨U1, U2⟩ := news_upd (f := Obj.putName name (PyData.keyHash w.params name) (.str name s.toks) v) F N h1 h2 ep rfl
  have D := (N (dx, dictOf es n) (by simp)).1
  have D' := (U2 (dx, dictOf es' n') (by simp)).1
  refine wpAny_bind (wpAny_pure (wpAny_bind ?_))
  unfold nsSet
  refine wpAny_bind (wpAny_bind (wpAny_askSetting (wpAny_pure (wpAny_bind (wpAny_mkText (wpAny_bind (wpAny_loadPart D ?_)))))))
  have c : (!es.any (·.key.isStr name) && es.any (·.refKey)) = false := by
    unfold getL at hl
    split at hl
    · rename_i en he
      rw [List.any_eq_true.mpr ⟨en, List.mem_of_find?_eq_some he, List.find?_some he⟩]; rfl
    · split at hl
      · cases hl
      · rename_i z; rw [Bool.not_eq_true] at z; rw [z, Bool.and_false]
  have c' : (!es.toArray.any (·.key.isStr name) && es.toArray.any (·.refKey)) = false := by
    rw [← Array.any_toList, ← Array.any_toList]; exact c
  dsimp only
  rw [aRefKeyMayBeTheName_at, c']
  refine wpAny_updatePart D ?_
  refine wpAny_bind (wpAny_lookBehind D' (pastItsLine_dict (by rw [List.size_toArray, sizeLine_eq]; omega)) ?_)
  exact wpAny_pure (h _ U1 U2)
/-- an attribute stored on an exception that has a dict -/
theorem exc_set1 {E : Value → Shared → Prop} {dx t : Addr} {name : Str} {v : Value} {es es' : List DictEntry} {n n' : Nat} {news' : List (Addr × Obj)} {Q : Unit → Shared → Prop} (F : Fr h₀ L s.heap m) (X₀ : K.In h₀)
    (N : News h₀ L s.heap news) (hx : (x, exO C (some dx) t) ∈ news) (hd : (dx, dictOf es n) ∈ news)
    (hs : findIn K (.ref C) "__setattr__" = some (some (.builtin "object.__setattr__"))) (hp : excOver K C B = true) (ht : takerIn K C name = some none) (hh : hasDictIn K C = true) (hl : (getL name es).isSome = true)
    (e : (putL name (PyData.keyHash w.params name) (.str name (s.toks + 1)) v es, putN name es n) = (es', n')) (U : Upd dx (dictOf es n) (dictOf es' n') news news') (hz : es'.length ≤ 1000)
    (h : ∀ h', Fr h₀ L h' m → News h₀ L h' news' → Q () { s with heap := h', toks := s.toks + 2 }) :
    wpAny (model prog w) A (setAttr (.ref x) name v) Q E s := by
  have I : InstAt s.heap x (exO C (some dx) t) C (some (dictOf es n)) := ⟨(N _ hx).1, rfl, rfl, (N _ hd).1⟩
  have I' : InstAt ({ s with toks := s.toks + 1 } : Shared).heap x (exO C (some dx) t) C (some (dictOf es n)) := I
  refine set_plain (X₀.keeps F.keep) I hs (exc_osa (s := { s with toks := s.toks + 1 }) (B := B) (X₀.keeps F.keep) I' hp ht fun b => ?_)
  obtain ⟨cd, hc, hd'⟩ := any_some hh
  refine wpAny_bind (wpAny_pure (wpAny_bind (wpAny_bind (wpAny_loadPart I.at_ (wpAny_bind (looks_clsIn (M := model prog w) (X₀.keeps F.keep) hc _ _ _ { s with toks := s.toks + 1 } (fun _ _ q => q) ?_))))))
  rw [hd']
  obtain ⟨pre, post, rfl, rfl, a, b⟩ := U.split
  refine wpAny_pure (a := some dx) (store_in (s := { s with toks := s.toks + 1 }) F N hl a b e hz fun h' F' N' => h h' F' N')
/-- the first attribute stored on an exception: its dict is made -/
theorem exc_set0 {E : Value → Shared → Prop} {t : Addr} {name : Str} {v : Value} {nw : Addr → List (Addr × Obj)} {Q : Unit → Shared → Prop} (F : Fr h₀ L s.heap m) (X₀ : K.In h₀)
    (N : News h₀ L s.heap news) (U : ∀ d, Upd x (exO C none t) (exO C (some d) t) news (nw d))
    (hs : findIn K (.ref C) "__setattr__" = some (some (.builtin "object.__setattr__"))) (hp : excOver K C B = true) (ht : takerIn K C name = some none) (hh : hasDictIn K C = true)
    (h : ∀ d h', Fr h₀ L h' m → News h₀ L h' ((d, dictOf [⟨PyData.keyHash w.params name, .str name (s.toks + 1), v⟩] 1) :: nw d) → (∀ p ∈ news, p.1 < d) → Q () { s with heap := h', toks := s.toks + 2 }) :
    wpAny (model prog w) A (setAttr (.ref x) name v) Q E s := by
  have U0 := U 0
  obtain ⟨pre, post, e0, e1, a, b⟩ := U0.split
  have hx : (x, exO C none t) ∈ news := by rw [e0]; simp
  have I : InstAt s.heap x (exO C none t) C none := ⟨(N _ hx).1, rfl, rfl, trivial⟩
  have I' : InstAt ({ s with toks := s.toks + 1 } : Shared).heap x (exO C none t) C none := I
  refine set_plain (X₀.keeps F.keep) I hs (exc_osa (s := { s with toks := s.toks + 1 }) (B := B) (X₀.keeps F.keep) I' hp ht fun b => ?_)
  obtain ⟨cd, hc, hd'⟩ := any_some hh
  refine wpAny_bind (wpAny_pure (wpAny_bind (wpAny_bind (wpAny_loadPart I.at_ (wpAny_bind (looks_clsIn (M := model prog w) (X₀.keeps F.keep) hc _ _ _ { s with toks := s.toks + 1 } (fun _ _ q => q) ?_))))))
  rw [hd']
  obtain ⟨hh', g, dr, tk, os⟩ := s
  obtain ⟨pre', post', e0', e1', a', b'⟩ := (U hh'.objs.size).split
  refine wpAny_bind (wpAny_alloc ?_)
  have F1 := F.push (emptyDict)
  have N1 : News h₀ L (hh'.push emptyDict) (((hh'.objs.size, emptyDict) :: pre') ++ (x, exO C none t) :: post') := by
    have := N.push F emptyDict
    rw [e0'] at this
    exact this
  have lt : ∀ p ∈ news, p.1 < hh'.objs.size := fun p hp => Heap.lt_size (N p hp).1
  have hxd : (hh'.objs.size, emptyDict).1 ≠ x := Ne.symm (Nat.ne_of_lt (lt _ hx))
  obtain ⟨F2, N2⟩ := news_upd (f := fun o => { o with dict := some hh'.objs.size }) F1 N1 (fun p hp => by
    rcases List.mem_cons.mp hp with rfl | hp
    · exact hxd
    · exact a' p hp) b' (o' := exO C (some hh'.objs.size) t) rfl rfl
  refine wpAny_bind (wpAny_update (N1 (x, exO C none t) (by simp)).1 ?_)
  refine wpAny_pure (a := some hh'.objs.size) (store_in (pre := []) (post := pre' ++ (x, exO C (some hh'.objs.size) t) :: post') (es := []) (n := 0) (es' := [⟨PyData.keyHash w.params name, .str name (tk + 1), v⟩]) (n' := 1) F2 N2 rfl (fun _ q => nomatch q) (fun p hp => ?_) rfl (Nat.le_of_ble_eq_true rfl) fun h' F' N' => h hh'.objs.size h' F' ?_ lt)
  · have this : ∀ p ∈ pre' ++ (x, exO C none t) :: post', p.1 < hh'.objs.size := by rw [← e0']; exact lt
    rcases List.mem_append.mp hp with q | q
    · exact Nat.ne_of_lt (this p (List.mem_append_left _ q))
    · rcases List.mem_cons.mp q with rfl | q
      · exact Nat.ne_of_lt (lt (x, exO C none t) hx)
      · exact Nat.ne_of_lt (this p (List.mem_append_right _ (.tail _ q)))
  · rw [e1']; exact N'
end

end Mine
namespace Mine
open PySem.Calls Builtin Builtin.ObjectAttr
section
variable {prog : Program} {w : World} {A : Around} {K : Frag} {C D x so t q : Addr} {s : Shared} {h₀ : Heap} {L : Addr} {m : Str → Option Value} {news : List (Addr × Obj)} {E : Value → Shared → Prop}
theorem exc_sup {pl : Sem Bool} {Q : Value × List Value → Shared → Prop} (F : Fr h₀ L s.heap m) (X₀ : K.In h₀) (N : News h₀ L s.heap news) (hso : (so, ks_superObj D x C) ∈ news) (hx : (x, exO C none t) ∈ news)
    (ho : nsIn K cStatics "thirdparty.any" = some none) (hm : ks_superIn K C D "__init__" = some (some (.builtin "Exception.__init__"))) (hk : ktsIn K C "Exception" = true)
    (h : ∀ q h', Fr h₀ L h' m → News h₀ L h' ((q, mwObj x) :: news) → (∀ p ∈ news, p.1 < q) → Q (.ref q, []) { s with heap := h', toks := s.toks + 1 }) :
    wpAny (model prog w) A (getMethod (.ref so) (Str.ofString "__init__") pl) Q E s := by
  have X : K.In s.heap := X₀.keeps F.keep
  have I : InstAt s.heap x (exO C none t) C none := ⟨(N _ hx).1, rfl, rfl, trivial⟩
  obtain ⟨hh, g, d, tk, os⟩ := s
  cases hc : clsIn K C with
  | none => unfold ks_superIn at hm; rw [hc] at hm; cases hm
  | some cd =>
    unfold ks_superIn at hm
    rw [hc] at hm
    obtain ⟨nm, q', N', bs, bm, hdct, sn, sub, ab, col, dd', k0, k1, k2, k3, k5, newId, hC, hbase, hbT⟩ := kts_cls X hk
    refine super_method (l₀ := cd.mro) (N _ hso).1 (looks_opaque X ho) ?_ rfl X hm hC hbT I.at_ rfl (ks_ne X I hc) ?_
    · exact fun A Q E s k q => wpAny_bind ((looks_clsIn X hc) A _ E s k (wpAny_pure q))
    · obtain ⟨F', N', l'⟩ := ks_newsPush (s := ⟨hh, g, d, tk, os⟩) (o := mwObj x) F N rfl (Heap.get?_push_at rfl rfl) (fun b o e => Heap.get?_push_of_some _ e)
      exact h _ _ F' N' l'
theorem exc_mw {dd : Option Addr} {msg : Value} {nw : Addr → List (Addr × Obj)} {Q : Value → Shared → Prop} (F : Fr h₀ L s.heap m) (X₀ : K.In h₀) (N : News h₀ L s.heap news) (hq : (q, mwObj x) ∈ news)
    (U : ∀ t', Upd x (exO C dd t) (exO C dd t') news (nw t')) (hk : ktsIn K C "Exception" = true)
    (h : ∀ t' h', Fr h₀ L h' m → News h₀ L h' ((t', { cls := .type "tuple", data := .seq [msg].toArray }) :: nw t') → (∀ p ∈ news, p.1 < t') → Q .none { s with heap := h' }) :
    wpAny (model prog w) A (call (.ref q) [msg]) Q E s := by
  have X : K.In s.heap := X₀.keeps F.keep
  obtain ⟨nm, q', N', bs, bm, hdct, sn, sub, ab, col, dd', k0, k1, k2, k3, k5, newId, hC, hbase, hbT⟩ := kts_cls X hk
  obtain ⟨hh, g, d, tk, os⟩ := s
  obtain ⟨pre, post, e0, e1, a, b⟩ := (U hh.objs.size).split
  have hx : (x, exO C dd t) ∈ news := by rw [e0]; simp
  have lt : ∀ p ∈ news, p.1 < hh.objs.size := fun p hp => Heap.lt_size (N p hp).1
  refine call_mw (N _ hq).1 (N _ hx).1 hC hbT ?_
  have F1 := F.push ({ cls := .type "tuple", data := .seq [msg].toArray } : Obj)
  have N1 : News h₀ L (hh.push ({ cls := .type "tuple", data := .seq [msg].toArray } : Obj)) (((hh.objs.size, ({ cls := .type "tuple", data := .seq [msg].toArray } : Obj)) :: pre) ++ (x, exO C dd t) :: post) := by
    have := N.push F ({ cls := .type "tuple", data := .seq [msg].toArray } : Obj)
    rw [e0] at this
    exact this
  obtain ⟨F2, N2⟩ := news_upd (f := Obj.mapFields (·.setIfInBounds 0 (.ref hh.objs.size))) F1 N1 (fun p hp => by
    rcases List.mem_cons.mp hp with rfl | hp
    · exact Ne.symm (Nat.ne_of_lt (lt (x, exO C dd t) hx))
    · exact a p hp) b (o' := exO C dd hh.objs.size) rfl rfl
  refine h _ _ F2 ?_ lt
  rw [e1]; exact N2
end
theorem keep_mw {M : Model} {h : Heap} {q x : Addr} (hq : h.get? q = some (mwObj x)) : Looks M h (keeperOf (.ref q)) .machine := by
  unfold keeperOf
  refine (Looks.ld (part := none) hq).andThen ?_
  exact Looks.of_pure (by first | rfl | kernel_rfl)
theorem callWith_W {M : Model} {A : Around} {E : Value → Shared → Prop} {s : Shared} {env : Env} {pos : Pos} {first : List Value} {Q : Value → Shared → Prop} {h₀ : Heap} {L : Addr} {news : List (Addr × Obj)} {q x : Addr} {e : PySem.Expr} {rest : List PySem.Expr}
    (_N : News h₀ L s.heap news) (_q : (q, mwObj x) ∈ news)
    (h : wpAny M A (spliced (backTo pos (starEach (e :: rest) env))) (fun vs s₁ => s₁.heap.get? q = some (mwObj x) ∧ wpAny M A (call (.ref q) (first ++ vs)) Q E s₁) E s)
    (he : starEach (e :: rest) env = (false, eval e env) :: starEach rest env := by rfl) (hplain : (backTo pos (starEach rest env)).any (·.1) = false := by rfl) :
    wpAny M A (callWith pos (.ref q) first (backTo pos (starEach (e :: rest) env)) []) Q E s := by
  rw [he] at h ⊢
  exact callWith_of (P := fun h => h.get? q = some (mwObj x)) (by show ((false || (backTo pos (starEach rest env)).any (·.1)) || false) = false; rw [hplain]; rfl) (fun _ X => ⟨_, .inr (.inl rfl), keep_mw X⟩) (evalArgs_plain h)

end Mine
namespace Mine
open PySem.Calls
theorem allLt_get {d : Addr} {l : List (Addr × Obj)} (h : AllLt d l) : ∀ p ∈ l, @LT.lt Nat _ p.1 d := by
  induction l with
  | nil => intro p hp; exact absurd hp List.not_mem_nil
  | cons q r ih =>
    intro p hp
    have h' : @LT.lt Nat _ q.1 d ∧ AllLt d r := h
    rcases List.mem_cons.mp hp with e | hp
    · rw [e]; exact h'.1
    · exact ih h'.2 p hp
section
variable {M : Model} {A : Around} {E : Value → Shared → Prop} {s' : Shared} {base g : Heap} {outer : List Env} {L a e t C : Addr} {m : Str → Option Value} {name : Str} {scope : Scope} {cd : Value} {Q : Unit → Shared → Prop} {news : List (Addr × Obj)}
/-- an exception made by its own __init__ leaves the first frame -/
theorem leave_own {R : List (Addr × Obj)} {dd : Option Addr} {v : Value} (K : Below A base outer g) (F : Fr g L s'.heap m) (N' : News g L s'.heap R) (he : (e, exO C dd t) ∈ R) (ht : (t, { cls := .type "tuple", data := .seq [v].toArray }) ∈ R)
    (hs : ∀ p ∈ news, p ∈ R) (hne : ∀ p ∈ news, p.1 ≠ e) (hnt : ∀ p ∈ news, p.1 ≠ t)
    (hQ : ∀ h', RaisedS base g outer e (.ref C) t [v] news h' → RaisedK base outer e (.ref C) t [v] news h' → g.UpToSlots h' → Q () { s' with heap := h' }) (hk : scope.kind = .function := by rfl) :
    wpAny M (A.deeper (envOf name scope L a cd)) (leaving (envOf name scope L a cd) (.ref e)) Q E s' := by
  have N : News g L s'.heap news := fun p hp => N' p (hs p hp)
  have ge := (N' _ he).2.2
  have gt := (N' _ ht).2.2
  have K' := K.push (name := name) (a := a) (cd := cd) F hk
  obtain ⟨fs, hfs⟩ : ∃ fs, fs = e :: t :: (envOf name scope L a cd :: outer).filterMap (·.frame) := ⟨_, rfl⟩
  have fe : e ∈ fs := by rw [hfs]; exact .head _
  have ft : t ∈ fs := by rw [hfs]; exact .tail _ (.head _)
  have split : ∀ b, b ∈ fs → b = e ∨ b = t ∨ b ∈ (envOf name scope L a cd :: outer).filterMap (·.frame) := fun b hb => by
    rw [hfs] at hb
    rcases List.mem_cons.mp hb with q | q
    · exact .inl q
    · rcases List.mem_cons.mp q with q | q
      · exact .inr (.inl q)
      · exact .inr (.inr q)
  have hin : ∀ env ∈ (envOf name scope L a cd :: outer), ∀ b, env.frame = some b → b ∈ fs := fun env he b hb => by rw [hfs]; exact .tail _ (.tail _ (List.mem_filterMap.mpr ⟨env, he, hb⟩))
  have st : base.StaysIn (hideAll s'.heap fs) := fun b o q => hideAll_get _ (K'.stays b o q) fun hm => by
    rcases split b hm with z | z | z
    · have := fresh_of_stays K.stays ge; rw [← z, q] at this; cases this
    · have := fresh_of_stays K.stays gt; rw [← z, q] at this; cases this
    · rw [(K'.frames.mem z).1] at q; cases q
  have sg : ∀ b o, g.get? b = some o → b ∉ outer.filterMap (·.frame) → (hideAll s'.heap fs).get? b = some o := fun b o q nm => hideAll_get _ (F.keep b o q) fun hm => by
    rcases split b hm with z | z | z
    · rw [z, ge] at q; cases q
    · rw [z, gt] at q; cases q
    · rcases kts_mem z with z | z
      · rw [z, kts_self F] at q
        cases q
      · exact nm z
  have hl : ∀ q ∈ news, (hideAll s'.heap fs).get? q.1 = some q.2 ∧ g.get? q.1 = none ∧ base.get? q.1 = none := fun q hq => by
    refine ⟨hideAll_get _ (N q hq).1 fun hm => ?_, (N q hq).2.2, fresh_of_stays K.stays (N q hq).2.2⟩
    rcases split _ hm with z | z | z
    · exact hne q hq z
    · exact hnt q hq z
    · obtain ⟨env, he, hf⟩ := List.mem_filterMap.mp z
      rcases List.mem_cons.mp he with rfl | he
      · exact (N q hq).2.1 (Option.some.inj hf).symm
      · obtain ⟨o, ho, _⟩ := (K.frames.mem (List.mem_filterMap.mpr ⟨env, he, hf⟩)).2
        rw [(N q hq).2.2] at ho; cases ho
  have hen : (hideAll s'.heap fs).get? e = none := hideAll_none _ fe
  have htn : (hideAll s'.heap fs).get? t = none := hideAll_none _ ft
  refine wpAny_leaving_firstW (a0 := .ref t) K'.stack (funFrames_hide K'.frames hin) rfl (N' _ he).1 (fun b o hb => of_hideAll _ hb) hen rfl rfl rfl fun h' hL => ?_
  obtain ⟨k1, ⟨_, _, k2⟩, k3, k4⟩ := hL
  have Rs : RaisedS base g outer e (.ref C) t [v] news h' := ⟨⟨_, st, sg, hl, ⟨k1, hen, k2, k3⟩, htn⟩, Heap.TupAt.of_slots ⟨_, _, (N' _ ht).1, rfl, rfl⟩ k4⟩
  exact hQ h' Rs Rs.toK ((Heap.UpToSlots.of_keeps F.keep).trans k4)
end
section
variable {M : Model} {A : Around} {E : Value → Shared → Prop} {env : Env}
variable {nm q : Str} {C N : Addr} {bs bm : List Value} {hdct : Bool} {sn : List Str} {sub : List Value} {ab : Bool} {col : Option Bool} {dd : Option Addr} {k0 k1 k2 k3 k5 : Option Value} {newId : String}
theorem raise_own {s : Shared} {x : Sem Value} {Q : Flow → Shared → Prop} (hbase : bm.contains (.type "BaseException") = true) (hh : A.handled = none)
    (h : wpAny M A x (fun v s₁ => ∃ e d t, v = .ref e ∧ s₁.heap.get? C = some (excClassObj nm q C N bs bm hdct sn sub ab col dd k0 k1 k2 k3 k5 newId) ∧
      s₁.heap.get? e = some (exO C d t) ∧ E (.ref e) s₁) E s) :
    wpAny M A (raiseStmt env (some x) none) Q E s := by
  have hcB : (Value.ref C :: bm).contains (.type "BaseException") = true := by rw [List.contains_cons, hbase, Bool.or_true]
  unfold raiseStmt
  refine wpAny_bind (wpAny_mono h (fun v s₁ h₁ => ?_) fun _ _ x => x)
  obtain ⟨e, d', t, rfl, hC, he, hE⟩ := h₁
  obtain ⟨hp, g, d, tk, os⟩ := s₁
  repeat (first | with_reducible refine wpAny_loadPart_at he ?_ | with_reducible refine wpAny_loadPart_at hC ?_ | (with_reducible refine wpAny_isSubtype_exc hC ?_; rw [hcB]) | wp_step)
  exact wpAny_raiseNew_none hh hE
end

end Mine
namespace Mine
local macro_rules | `(tactic| k_all) => `(tactic| assumption)
local macro_rules | `(tactic| k_mem) => `(tactic| assumption)
local macro_rules | `(tactic| ktr_room) => `(tactic| ((try simp only [depth_under_make, depth_under_kw, depth_in1, depth_deeper, depth_caller] at *); (try dsimp only [ktrTop] at *); omega))
local macro_rules | `(tactic| k_room) => `(tactic| ktr_room)
abbrev tup1 (v : Value) : Obj := { cls := .type "tuple", data := .seq [v].toArray }
def oversX : List (Str × Value) → (Str → Option Value) → Str → Option Value
  | [], m => m
  | (k, v) :: r, m => fun y => if y = k then some v else oversX r m y
theorem oversX_eq {m : Str → Option Value} : ∀ {kv : List (Str × Value)}, (∀ p ∈ kv, m p.1 = some p.2) → oversX kv m = m
  | [], _ => rfl
  | (k, v) :: r, h => by
    funext y
    show (if y = k then some v else oversX r m y) = m y
    rw [oversX_eq fun p hp => h p (List.mem_cons_of_mem _ hp)]
    split
    · rename_i e; rw [e]; exact (h (k, v) (.head _)).symm
    · rfl
theorem fr_oversX {h₀ h : Heap} {L : Addr} {m : Str → Option Value} (kv : List (Str × Value)) (F : Fr h₀ L h m) (e : ∀ p ∈ kv, m p.1 = some p.2) : Fr h₀ L h (oversX kv m) := by
  rw [oversX_eq e]; exact F
local macro_rules | `(tactic| walk_at "getMethod ref") => `(tactic| (k_here; (refine' exc_sup (by k_asm) (by k_asm) (by k_asm) (by k_mem) (by k_mem) (by k_is) (by with_unfolding_all rfl) (by with_unfolding_all rfl) ?_); intro q' h' F' N' l1; (try k_lt l1); (try dsimp only)))
local macro_rules | `(tactic| walk_at "call ref") => `(tactic| (k_here; (with_reducible show wpAny _ _ (call (Value.ref _) [_]) _ _ _); (refine' exc_mw (C := 61) (by k_asm) (by k_asm) (by k_asm) (by k_mem) (fun t' => (by k_upd)) (by with_unfolding_all rfl) ?_); intro t' h' F' N' l1; (try k_lt l1); (try dsimp only at N')))
local macro_rules | `(tactic| walk_at "setAttr ref") => `(tactic| (k_here; first
  | (refine' exc_set0 (C := 61) (B := 48) (by k_asm) (by k_asm) (by k_asm) (fun d => (by k_upd)) (by k_is) (by with_unfolding_all rfl) (by k_is) (by k_is) ?_; intro d' h' F' N' l1; (try k_lt l1); (try dsimp only at N'))
  | (refine' exc_set1 (C := 61) (B := 48) (by k_asm) (by k_asm) (by k_asm) (by k_mem) (by k_mem) (by k_is) (by with_unfolding_all rfl) (by k_is) (by k_is) (by k_get) (by k_put) (by k_upd) (by exact Nat.le_of_ble_eq_true rfl) ?_; intro h' F' N')))
local macro_rules | `(tactic| walk_at "callWith ref") => `(tactic| (k_here; (refine' callWith_W (by k_asm) (by k_mem) ?_)))
local macro_rules | `(tactic| walk_at "And") => `(tactic| ((with_reducible show _ = some (mwObj _) ∧ _); refine ⟨News.get (by k_asm) (by k_mem), ?_⟩; try dsimp only [List.nil_append, List.cons_append]))
theorem init_ok {w : World} {R : Led} {e t : Addr} {msg : Str} {tk : Tok} (hap : ∀ p ∈ R, p.1 ≠ e) :
    Spec w 38 [.ref e, .str msg tk] ((e, exO 61 none t) :: R) (fun v R' => v = .none ∧ ∃ d t', (e, exO 61 (some d) t') ∈ R' ∧ (t', tup1 (.str msg tk)) ∈ R' ∧ (∀ p ∈ R, p ∈ R') ∧ ∀ p ∈ R, p.1 ≠ t') := by
  w_top off
  intro dp un gd cn cs L a ccd cl outer A₀ base h₀ m s Q E loose mean mg mb B F X N T hk hd hu hret
  refine wpAny_call ?_
  k_dflt (refine' ks_code_super ?k1 ?k2 ?k3 ?k4 ?k5 ?kA ?kF ?kK ?k6 ?k7 ?k8 ?k9 ?kB ?_ ?c1 ?c2 ?c3 ?c4; (case kA => exact rfl); (case kF => exact rfl); (case kK => exact hk); (case k1 => k_asm); (case k2 => k_asm); (case k3 => k_asm); (case k4 => k_asm); (case k5 => k_asm); (case k6 => k_is); (case k7 => k_is); (case k8 => ktr_room); (case k9 => exact binds_K (by k_in) rfl (by k_is) rfl rfl rfl); (case kB => exact locs rfl); (case c1 => decide); (case c2 => exact rfl); (case c3 => exact rfl); (case c4 => exact rfl); intro g' L' h' FG' F' N' B' X' T' l1; (try k_lt l1); (try dsimp only); (try k_lift B'))
  obtain ⟨M0, FF⟩ : ∃ M0, Fr g' L' h' (oversX [(Str.ofString "self", .ref e), (Str.ofString "what", .str msg tk), (Str.ofString "at", .int (-1) 209)] M0) :=
    ⟨_, fr_oversX _ F' (by simp only [List.forall_mem_cons]; exact ⟨rfl, rfl, rfl, fun _ h => nomatch h⟩)⟩
  clear F'
  dsimp only [oversX] at FF
  k_steps
  k_dflt (refine ks_node (x := e) (C := 61) (ox := exO 61 none t) (odx := none) (by k_asm) (by k_asm) (by k_asm) (by k_asm) (by k_is) (by rfl) (by rfl) ⟨News.get (by k_asm) (.head _), rfl, rfl, trivial⟩ (by k_is) (by rfl) (by first | rfl | decide +kernel) (by k_is) (by k_is) (by k_is) (by k_is) (by decide) (by rfl) (by rfl) (by rfl) (by rfl) (by decide +kernel) (by first | boot_by_name | rfl | kernel_rfl) ?_)
  intro so' h' F' N' l1
  (try k_lt l1)
  k_steps
  · exact News.get (news := (_, mwObj e) :: _) (by assumption) (.head _)
  · exact hret _ _ _ _ (by k_asm) (by k_asm) ⟨rfl, _, _, .tail _ (.tail _ (.tail _ (.tail _ (.head _)))), .tail _ (.head _), (fun p hp => .tail _ (.tail _ (.tail _ (.tail _ (.tail _ hp))))), fun p hp => Nat.ne_of_lt (allLt_get (show _ ∧ _ ∧ _ ∧ AllLt _ R by assumption).2.2.2 p hp)⟩

end Mine
namespace Mine
open PySem.Calls Builtin Builtin.ObjectAttr
section
variable {M : Model} {A : Around} {E : Value → Shared → Prop} {h : Heap} {g : Array GenState} {d : Drawn} {t : Nat} {os : OsState}
variable {nm q : Str} {C N : Addr} {bs bm bmB : List Value} {hdct : Bool} {sn : List Str} {sub : List Value} {ab : Bool} {col : Option Bool} {dd : Option Addr} {k0 k1 k2 k3 k5 : Option Value} {B newId initId : String}
end
namespace check_new_ownK
abbrev Claim (M : Model) (A : Around) (E : Value → Shared → Prop) (h : Heap) (g : Array GenState) (d : Drawn) (t : Nat) (os : OsState) (nm : Str) (q : Str) (C : Addr) (N : Addr) (bs : List Value) (bm : List Value) (bmB : List Value) (hdct : Bool) (sn : List Str) (sub : List Value) (ab : Bool) (col : Option Bool) (dd : Option Addr) (k0 : Option Value) (k1 : Option Value) (k2 : Option Value) (k3 : Option Value) (k5 : Option Value) (B : String) (newId : String) (initId : String) (rest : List Value) (Q : Unit → Shared → Prop) : Prop :=
  ∀ (F : ExcBaseFacts B newId initId bmB) (hB : bm.contains (.type B) = true) (hC : h.get? C = some (excClassObj nm q C N bs bm hdct sn sub ab col dd k0 k1 k2 k3 k5 newId)) (hq : Q () ⟨h, g, d, t, os⟩), wpAny M A (checkBuiltinCall newId ⟨.ref C :: rest, []⟩) Q E ⟨h, g, d, t, os⟩
abbrev ClaimT (p : (Model) × (Around) × (Value → Shared → Prop) × (Heap) × (Array GenState) × (Drawn) × (Nat) × (OsState) × (Str) × (Str) × (Addr) × (Addr) × (List Value) × (List Value) × (List Value) × (Bool) × (List Str) × (List Value) × (Bool) × (Option Bool) × (Option Addr) × (Option Value) × (Option Value) × (Option Value) × (Option Value) × (Option Value) × (String) × (String) × (String) × (List Value) × (Unit → Shared → Prop)) : Prop := Claim (p.1) (p.2.1) (p.2.2.1) (p.2.2.2.1) (p.2.2.2.2.1) (p.2.2.2.2.2.1) (p.2.2.2.2.2.2.1) (p.2.2.2.2.2.2.2.1) (p.2.2.2.2.2.2.2.2.1) (p.2.2.2.2.2.2.2.2.2.1) (p.2.2.2.2.2.2.2.2.2.2.1) (p.2.2.2.2.2.2.2.2.2.2.2.1) (p.2.2.2.2.2.2.2.2.2.2.2.2.1) (p.2.2.2.2.2.2.2.2.2.2.2.2.2.1) (p.2.2.2.2.2.2.2.2.2.2.2.2.2.2.1) (p.2.2.2.2.2.2.2.2.2.2.2.2.2.2.2.1) (p.2.2.2.2.2.2.2.2.2.2.2.2.2.2.2.2.1) (p.2.2.2.2.2.2.2.2.2.2.2.2.2.2.2.2.2.1) (p.2.2.2.2.2.2.2.2.2.2.2.2.2.2.2.2.2.2.1) (p.2.2.2.2.2.2.2.2.2.2.2.2.2.2.2.2.2.2.2.1) (p.2.2.2.2.2.2.2.2.2.2.2.2.2.2.2.2.2.2.2.2.1) (p.2.2.2.2.2.2.2.2.2.2.2.2.2.2.2.2.2.2.2.2.2.1) (p.2.2.2.2.2.2.2.2.2.2.2.2.2.2.2.2.2.2.2.2.2.2.1) (p.2.2.2.2.2.2.2.2.2.2.2.2.2.2.2.2.2.2.2.2.2.2.2.1) (p.2.2.2.2.2.2.2.2.2.2.2.2.2.2.2.2.2.2.2.2.2.2.2.2.1) (p.2.2.2.2.2.2.2.2.2.2.2.2.2.2.2.2.2.2.2.2.2.2.2.2.2.1) (p.2.2.2.2.2.2.2.2.2.2.2.2.2.2.2.2.2.2.2.2.2.2.2.2.2.2.1) (p.2.2.2.2.2.2.2.2.2.2.2.2.2.2.2.2.2.2.2.2.2.2.2.2.2.2.2.1) (p.2.2.2.2.2.2.2.2.2.2.2.2.2.2.2.2.2.2.2.2.2.2.2.2.2.2.2.2.1) (p.2.2.2.2.2.2.2.2.2.2.2.2.2.2.2.2.2.2.2.2.2.2.2.2.2.2.2.2.2.1) (p.2.2.2.2.2.2.2.2.2.2.2.2.2.2.2.2.2.2.2.2.2.2.2.2.2.2.2.2.2.2)
theorem some_tup : Nonempty ((Model) × (Around) × (Value → Shared → Prop) × (Heap) × (Array GenState) × (Drawn) × (Nat) × (OsState) × (Str) × (Str) × (Addr) × (Addr) × (List Value) × (List Value) × (List Value) × (Bool) × (List Str) × (List Value) × (Bool) × (Option Bool) × (Option Addr) × (Option Value) × (Option Value) × (Option Value) × (Option Value) × (Option Value) × (String) × (String) × (String) × (List Value) × (Unit → Shared → Prop)) := some_pair some_model (some_pair some_around (some_pair inferInstance (some_pair inferInstance (some_pair inferInstance (some_pair some_drawn (some_pair inferInstance (some_pair inferInstance (some_pair inferInstance (some_pair inferInstance (some_pair inferInstance (some_pair inferInstance (some_pair inferInstance (some_pair inferInstance (some_pair inferInstance (some_pair inferInstance (some_pair inferInstance (some_pair inferInstance (some_pair inferInstance (some_pair inferInstance (some_pair inferInstance (some_pair inferInstance (some_pair inferInstance (some_pair inferInstance (some_pair inferInstance (some_pair inferInstance (some_pair inferInstance (some_pair inferInstance (some_pair inferInstance (some_pair inferInstance (inferInstance))))))))))))))))))))))))))))))
noncomputable def tup : (Model) × (Around) × (Value → Shared → Prop) × (Heap) × (Array GenState) × (Drawn) × (Nat) × (OsState) × (Str) × (Str) × (Addr) × (Addr) × (List Value) × (List Value) × (List Value) × (Bool) × (List Str) × (List Value) × (Bool) × (Option Bool) × (Option Addr) × (Option Value) × (Option Value) × (Option Value) × (Option Value) × (Option Value) × (String) × (String) × (String) × (List Value) × (Unit → Shared → Prop) := @Classical.epsilon _ some_tup fun p => ¬ ClaimT p
@[irreducible] noncomputable def M : Model := tup.1
@[irreducible] noncomputable def A : Around := tup.2.1
@[irreducible] noncomputable def E : Value → Shared → Prop := tup.2.2.1
@[irreducible] noncomputable def h : Heap := tup.2.2.2.1
@[irreducible] noncomputable def g : Array GenState := tup.2.2.2.2.1
@[irreducible] noncomputable def d : Drawn := tup.2.2.2.2.2.1
@[irreducible] noncomputable def t : Nat := tup.2.2.2.2.2.2.1
@[irreducible] noncomputable def os : OsState := tup.2.2.2.2.2.2.2.1
@[irreducible] noncomputable def nm : Str := tup.2.2.2.2.2.2.2.2.1
@[irreducible] noncomputable def q : Str := tup.2.2.2.2.2.2.2.2.2.1
@[irreducible] noncomputable def C : Addr := tup.2.2.2.2.2.2.2.2.2.2.1
@[irreducible] noncomputable def N : Addr := tup.2.2.2.2.2.2.2.2.2.2.2.1
@[irreducible] noncomputable def bs : List Value := tup.2.2.2.2.2.2.2.2.2.2.2.2.1
@[irreducible] noncomputable def bm : List Value := tup.2.2.2.2.2.2.2.2.2.2.2.2.2.1
@[irreducible] noncomputable def bmB : List Value := tup.2.2.2.2.2.2.2.2.2.2.2.2.2.2.1
@[irreducible] noncomputable def hdct : Bool := tup.2.2.2.2.2.2.2.2.2.2.2.2.2.2.2.1
@[irreducible] noncomputable def sn : List Str := tup.2.2.2.2.2.2.2.2.2.2.2.2.2.2.2.2.1
@[irreducible] noncomputable def sub : List Value := tup.2.2.2.2.2.2.2.2.2.2.2.2.2.2.2.2.2.1
@[irreducible] noncomputable def ab : Bool := tup.2.2.2.2.2.2.2.2.2.2.2.2.2.2.2.2.2.2.1
@[irreducible] noncomputable def col : Option Bool := tup.2.2.2.2.2.2.2.2.2.2.2.2.2.2.2.2.2.2.2.1
@[irreducible] noncomputable def dd : Option Addr := tup.2.2.2.2.2.2.2.2.2.2.2.2.2.2.2.2.2.2.2.2.1
@[irreducible] noncomputable def k0 : Option Value := tup.2.2.2.2.2.2.2.2.2.2.2.2.2.2.2.2.2.2.2.2.2.1
@[irreducible] noncomputable def k1 : Option Value := tup.2.2.2.2.2.2.2.2.2.2.2.2.2.2.2.2.2.2.2.2.2.2.1
@[irreducible] noncomputable def k2 : Option Value := tup.2.2.2.2.2.2.2.2.2.2.2.2.2.2.2.2.2.2.2.2.2.2.2.1
@[irreducible] noncomputable def k3 : Option Value := tup.2.2.2.2.2.2.2.2.2.2.2.2.2.2.2.2.2.2.2.2.2.2.2.2.1
@[irreducible] noncomputable def k5 : Option Value := tup.2.2.2.2.2.2.2.2.2.2.2.2.2.2.2.2.2.2.2.2.2.2.2.2.2.1
@[irreducible] noncomputable def B : String := tup.2.2.2.2.2.2.2.2.2.2.2.2.2.2.2.2.2.2.2.2.2.2.2.2.2.2.1
@[irreducible] noncomputable def newId : String := tup.2.2.2.2.2.2.2.2.2.2.2.2.2.2.2.2.2.2.2.2.2.2.2.2.2.2.2.1
@[irreducible] noncomputable def initId : String := tup.2.2.2.2.2.2.2.2.2.2.2.2.2.2.2.2.2.2.2.2.2.2.2.2.2.2.2.2.1
@[irreducible] noncomputable def rest : List Value := tup.2.2.2.2.2.2.2.2.2.2.2.2.2.2.2.2.2.2.2.2.2.2.2.2.2.2.2.2.2.1
@[irreducible] noncomputable def Q : Unit → Shared → Prop := tup.2.2.2.2.2.2.2.2.2.2.2.2.2.2.2.2.2.2.2.2.2.2.2.2.2.2.2.2.2.2
theorem core : Claim M A E h g d t os nm q C N bs bm bmB hdct sn sub ab col dd k0 k1 k2 k3 k5 B newId initId rest Q := by
  intro F hB hC hq
  have hcont : (Value.ref C :: bm).contains (.type B) = true := by rw [List.contains_cons, hB, Bool.or_true]
  have hstar := F.noStar
  simp only [checkBuiltinCall, F.newKind, F.newSplit, F.newRow]
  repeat (first | refine wpAny_loadPart_at hC ?_ | (refine wpAny_isSubtype_exc hC ?_; rw [hcont]) | refine wpAny_staticBase_exc hC ?_ | refine wpAny_madeBy_exc hC ?_ | simp only [bne_self_eq_false, Bool.false_eq_true, if_false] | wp_step)
  exact hq
end check_new_ownK
theorem check_new_own {M : Model} {A : Around} {E : Value → Shared → Prop} {h : Heap} {g : Array GenState} {d : Drawn} {t : Nat} {os : OsState} {nm q : Str} {C N : Addr} {bs bm bmB : List Value} {hdct : Bool} {sn : List Str} {sub : List Value} {ab : Bool} {col : Option Bool} {dd : Option Addr} {k0 k1 k2 k3 k5 : Option Value} {B newId initId : String} (F : ExcBaseFacts B newId initId bmB) (hB : bm.contains (.type B) = true) {rest : List Value} {Q : Unit → Shared → Prop} (hC : h.get? C = some (excClassObj nm q C N bs bm hdct sn sub ab col dd k0 k1 k2 k3 k5 newId)) (hq : Q () ⟨h, g, d, t, os⟩) : wpAny M A (checkBuiltinCall newId ⟨.ref C :: rest, []⟩) Q E ⟨h, g, d, t, os⟩ :=
  skol (P := check_new_ownK.ClaimT) (c := check_new_ownK.tup) rfl (by with_unfolding_all exact check_new_ownK.core) (M, A, E, h, g, d, t, os, nm, q, C, N, bs, bm, bmB, hdct, sn, sub, ab, col, dd, k0, k1, k2, k3, k5, B, newId, initId, rest, Q) F hB hC hq
section
variable {M : Model} {A : Around} {E : Value → Shared → Prop} {h : Heap} {g : Array GenState} {d : Drawn} {t : Nat} {os : OsState}
variable {nm q : Str} {C N : Addr} {bs bm bmB : List Value} {hdct : Bool} {sn : List Str} {sub : List Value} {ab : Bool} {col : Option Bool} {dd : Option Addr} {k0 k1 k2 k3 k5 : Option Value} {B newId initId : String}
end
section
variable {prog : Program} {w : World} {A : Around} {R : Result → Shared → Prop} {h : Heap} {g : Array GenState} {d : Drawn} {t : Nat} {os : OsState}
variable {nm q : Str} {C N : Addr} {bs bm bmB : List Value} {hdct : Bool} {sn : List Str} {sub : List Value} {ab : Bool} {col : Option Bool} {dd : Option Addr} {k0 k1 k2 k3 k5 : Option Value} {B newId initId : String}
theorem exc_new_own (F : ExcBaseFacts B newId initId bmB) (hB : bm.contains (.type B) = true) (hA : bm.contains (.type "AttributeError") = false) (hN : bm.contains (.type "NameError") = false) {rest : List Value} (hC : h.get? C = some (excClassObj nm q C N bs bm hdct sn sub ab col dd k0 k1 k2 k3 k5 newId))
    (hq : R (.ok (.ret (.ref (h.objs.size + 1)))) ⟨(h.push { cls := .type "tuple", data := .seq rest.toArray }).push
      { cls := .ref C, data := .fields #[.ref h.objs.size, .none, .none, .none, .bool false, .none] }, g, d, t, os⟩) (hrest : rest.length ≤ sizeLine := by size_fits) :
    codeAny (model prog w) A (.builtin newId ⟨.ref C :: rest, []⟩) R ⟨h, g, d, t, os⟩ := by
  have hends := F.ends
  have hcB : (Value.ref C :: bm).contains (.type B) = true := by rw [List.contains_cons, hB, Bool.or_true]
  have hcA : (Value.ref C :: bm).contains (.type "AttributeError") = false := by rw [List.contains_cons, hA]; rfl
  have hcN : (Value.ref C :: bm).contains (.type "NameError") = false := by rw [List.contains_cons, hN]; rfl
  refine codeAny_builtinAt F.entry ?_
  unfold Builtin.«BaseException.__new__»
  refine PySem.wpAt_bind ?_
  show PySem.wpAt _ _ _ (stack >>= _) _ _ _
  refine PySem.wpAt_bind (PySem.wpAt_stack fun p below => PySem.wpAt_of_wpAny ?_)
  wp_walk
  refine PySem.wpAt_of_wpAny ?_
  rw [F.owner]
  repeat (first | with_reducible refine wpAny_madeHere_exc F.canon hC ?_ | with_reducible refine wpAny_loadPart_at hC ?_ | (with_reducible refine wpAny_isSubtype_exc hC ?_; first | rw [hcB] | rw [hcA] | rw [hcN]) | wp_step)
  show R _ _
  rw [Heap.size_push]
  exact hq
end
section
variable {prog : Program} {w : World} {A : Around} {E : Value → Shared → Prop} {h : Heap} {g : Array GenState} {d : Drawn} {t : Nat} {os : OsState}
variable {nm q : Str} {C N : Addr} {bs bm bmB : List Value} {hdct : Bool} {sn : List Str} {sub : List Value} {ab : Bool} {col : Option Bool} {dd : Option Addr} {k0 k1 k2 k3 k5 : Option Value} {B newId initId : String} {K : Frag}
theorem type_call_own (F : ExcBaseFacts B newId initId bmB) (hB : bm.contains (.type B) = true) (hA : bm.contains (.type "AttributeError") = false) (hN : bm.contains (.type "NameError") = false) {rest : List Value} {fI : Addr} {Q : Fin → Shared → Prop}
    (X : K.In h) (hi : findIn K (.ref C) "__init__" = some (some (.ref fI))) (hf : typeIn K (.ref fI) = some (.type "function"))
    (hC : h.get? C = some (excClassObj nm q C N bs bm hdct sn sub ab col dd k0 k1 k2 k3 k5 newId))
    (hq : wpAny (model prog w) A (call (.ref fI) (.ref (h.objs.size + 1) :: rest)) (fun r s' => r = .none ∧ Q (.done (.ret (.ref (h.objs.size + 1)))) s') E ⟨(h.push { cls := .type "tuple", data := .seq rest.toArray }).push
      { cls := .ref C, data := .fields #[.ref h.objs.size, .none, .none, .none, .bool false, .none] }, g, d, t, os⟩) (hrest : rest.length ≤ sizeLine := by size_fits) :
    wpAny (model prog w) A (Builtin.«type.__call__» ⟨.ref C :: rest, []⟩) Q E ⟨h, g, d, t, os⟩ := by
  repeat (first | with_reducible refine wpAny_loadPart_at hC ?_ | with_reducible refine wpAny_madeBy_exc hC ?_ | wp_step)
  refine codeAny_call_builtin_code (Code.quiet_builtin _ F.quiet) (check_new_own F hB hC ?_)
  refine exc_new_own F hB hA hN hC ?_ hrest
  show wpAny _ _ _ _ _ _
  have hC₁ := Heap.get?_push_of_some { cls := .ref C, data := .fields #[.ref h.objs.size, .none, .none, .none, .bool false, .none] }
    (Heap.get?_push_of_some { cls := .type "tuple", data := .seq rest.toArray } hC)
  have hget : ((h.push { cls := .type "tuple", data := .seq rest.toArray }).push
      { cls := .ref C, data := .fields #[.ref h.objs.size, .none, .none, .none, .bool false, .none] }).get? (h.objs.size + 1) = some
      { cls := .ref C, data := .fields #[.ref h.objs.size, .none, .none, .none, .bool false, .none] } := by heap_get
  have X₁ : K.In ((h.push { cls := .type "tuple", data := .seq rest.toArray }).push { cls := .ref C, data := .fields #[.ref h.objs.size, .none, .none, .none, .bool false, .none] }) :=
    X.keeps fun b o e => Heap.get?_push_of_some _ (Heap.get?_push_of_some _ e)
  have hcC : (Value.ref C :: bm).contains (.ref C) = true := by simp
  unfold isInstance
  repeat (first | with_reducible refine wpAny_loadPart_at hget ?_ | (with_reducible refine wpAny_isSubtype_exc hC₁ ?_; rw [hcC]) | wp_step)
  show wpAny _ _ (typeLookup (.ref C) _) _ _ _
  refine (looks_findIn X₁ hi).here ?_
  refine wpAny_holding (wpAny_bind ((bind_fn X₁ _ hf).here ?_))
  refine (wpAny_bind (wpAny_mono hq (fun r s' hr => ?_) fun _ _ x => x))
  obtain ⟨rfl, hQ⟩ := hr
  wp_walk
  exact hQ
theorem call_own (F : ExcBaseFacts B newId initId bmB) (hB : bm.contains (.type B) = true) (hA : bm.contains (.type "AttributeError") = false) (hN : bm.contains (.type "NameError") = false) {rest : List Value} {fI : Addr} {Q : Value → Shared → Prop}
    (X : K.In h) (hi : findIn K (.ref C) "__init__" = some (some (.ref fI))) (hf : typeIn K (.ref fI) = some (.type "function"))
    (hC : h.get? C = some (excClassObj nm q C N bs bm hdct sn sub ab col dd k0 k1 k2 k3 k5 newId))
    (hq : wpAny (model prog w) (A.under (.builtin "type.__call__" ⟨.ref C :: rest, []⟩)) (call (.ref fI) (.ref (h.objs.size + 1) :: rest)) (fun r s' => r = .none ∧ Q (.ref (h.objs.size + 1)) s') E ⟨(h.push { cls := .type "tuple", data := .seq rest.toArray }).push
      { cls := .ref C, data := .fields #[.ref h.objs.size, .none, .none, .none, .bool false, .none] }, g, d, t, os⟩) (hrest : rest.length ≤ sizeLine := by size_fits) :
    wpAny (model prog w) A (call (.ref C) rest) Q E ⟨h, g, d, t, os⟩ := by
  have f1 := tc_lookup
  have f2 := tc_bind (.ref C)
  have hT : (⟨h, g, d, t, os⟩ : Shared).TypeIs (.ref C) "type" := ⟨_, hC, rfl⟩
  refine wpAny_call (codeAny_of_tree ?_)
  show wpAny _ _ (callAny (.ref C) _) _ _ _
  repeat (any_goals (first | assumption | with_reducible refine wpAny_loadPart_at hC ?_ | wp_step))
  refine ⟨rfl, ?_⟩
  exact codeAny_call_builtin_at (Code.quiet_builtin _ (by decide +kernel)) entry_typeCall (wpAny_check_type_call_sub hC (type_call_own (hrest := hrest) F hB hA hN X hi hf hC hq))
end

end Mine
namespace Mine
local macro_rules | `(tactic| k_all) => `(tactic| assumption)
local macro_rules | `(tactic| k_mem) => `(tactic| assumption)
local macro_rules | `(tactic| ktr_room) => `(tactic| ((try simp only [depth_under_make, depth_under_kw, depth_in1, depth_deeper, depth_caller] at *); (try dsimp only [ktrTop] at *); omega))
local macro_rules | `(tactic| k_room) => `(tactic| ktr_room)
theorem under_make {dp un : Nat} {gd : Option (List Code)} {cn : Str} {cs : Scope} {L a : Addr} {ccd : Value} {cl : List (Str × Addr)} {outer : List Env} {C : Addr} {vals : List Value} :
    ∃ u, u ≤ 1 ∧ (ktrTop dp un gd cn cs L a ccd cl outer).under (.builtin "type.__call__" ⟨.ref C :: vals, []⟩) = ktrTop (dp + 1) (un + u) gd cn cs L a ccd cl outer := by
  refine ⟨(Code.builtin "type.__call__" ⟨.ref C :: vals, []⟩).cUnits, ?_, ?_⟩
  · exact Nat.le_of_ble_eq_true rfl
  · rfl
theorem fault_ok {w : World} {R : Led} {msg : Str} {tk : Tok} :
    SpecN 12 w 61 [.str msg tk] R (fun v R' => ∃ e d t', v = .ref e ∧ (e, exO 61 (some d) t') ∈ R' ∧ (t', tup1 (.str msg tk)) ∈ R' ∧ (∀ p ∈ R, p ∈ R') ∧ ∀ p ∈ R, p.1 ≠ e ∧ p.1 ≠ t') := by
  intro dp un gd cn cs L a ccd cl outer A₀ base h₀ m s Q E loose mean mg mb B F X N T hk hd hu hret
  obtain ⟨hh, g, d, t, os⟩ := s
  refine call_own (C := 61) (bm := [.ref 48, .type "Exception", .type "BaseException", .type "object"]) (fI := 38) PySem.F.excBase_Exception (by decide +kernel) (by decide +kernel) (by decide +kernel) (X.keeps F.keep) (by k_is) (by k_is) (X.keeps F.keep 61 _ (by with_unfolding_all rfl)) ?_
  obtain ⟨u, hu1, hu2⟩ := under_make (dp := dp) (un := un) (gd := gd) (cn := cn) (cs := cs) (L := L) (a := a) (ccd := ccd) (cl := cl) (outer := outer) (C := 61) (vals := [.str msg tk])
  rw [hu2]
  have lt : ∀ p ∈ R, p.1 < hh.objs.size := fun p hp => Heap.lt_size (N p hp).1
  have N1 := N.push F (tup1 (.str msg tk))
  have F1 := F.push (tup1 (.str msg tk))
  have N2 := N1.push F1 (exO 61 none hh.objs.size)
  have F2 := F1.push (exO 61 none hh.objs.size)
  rw [Heap.size_push] at N2
  refine init_ok (R := (hh.objs.size, tup1 (.str msg tk)) :: R) (fun p hp => ?_) (dp + 1) (un + u) gd cn cs L a ccd cl outer A₀ base h₀ m _ _ E loose mean mg mb B F2 X N2 T hk (by omega) (by omega) (fun r h' tk' news' F3 N3 P => ?_)
  · rcases List.mem_cons.mp hp with rfl | hp
    · exact Nat.ne_of_lt (Nat.lt_succ_self _)
    · exact Nat.ne_of_lt (Nat.lt_succ_of_lt (lt p hp))
  · obtain ⟨rfl, dd, t', m1, m2, m3, m4⟩ := P
    exact ⟨rfl, hret _ _ _ _ F3 N3 ⟨_, dd, t', rfl, m1, m2, fun p hp => m3 p (.tail _ hp), fun p hp => ⟨Nat.ne_of_lt (Nat.lt_succ_of_lt (lt p hp)), m4 p (.tail _ hp)⟩⟩⟩

end Mine
namespace Mine
local macro_rules | `(tactic| k_all) => `(tactic| assumption)
local macro_rules | `(tactic| k_mem) => `(tactic| assumption)
local macro_rules | `(tactic| ktr_room) => `(tactic| ((try simp only [depth_under_make, depth_under_kw, depth_in1, depth_deeper, depth_caller] at *); (try dsimp only [ktrTop] at *); omega))
local macro_rules | `(tactic| k_room) => `(tactic| ktr_room)
/-- a call that ends by a raised PlanFault -/
abbrev SpecR (k : Nat) (w : World) (f : Addr) (args : List Value) (news : Led) : Prop :=
  ∀ (dp un : Nat) (gd : Option (List Code)) (cn : Str) (cs : Scope) (L a : Addr) (ccd : Value) (cl : List (Str × Addr)) (outer : List Env) (A₀ : Around) (base h₀ : Heap) (m : Str → Option Value) (s : Shared) (Q E : Value → Shared → Prop)
    (loose : List Str) (mean : ExcName → Option Value) (mg mb : Str → Option Value),
    Below A₀ base outer h₀ → Fr h₀ L s.heap m → (hd.heap_1 w.params).In h₀ → News h₀ L s.heap news → Top hd.view loose mean mg mb h₀ → cs.kind = .function →
    dp + k < recursionLimit → un + 10 * k < cLine →
    (∀ e t v G h' tk', Fr h₀ L G m → RaisedS base G (envX cn cs L a ccd cl :: outer) e (.ref 61) t [v] news h' → G.UpToSlots h' → E (.ref e) { s with heap := h', toks := tk' }) →
    wpAny (model PG w) (ktrTop dp un gd cn cs L a ccd cl outer) (call (.ref f) args) Q E s
theorem Raise_own {A : Around} {E : Value → Shared → Prop} {env : Env} {nm q : Str} {C N : Addr} {bs bm : List Value} {hdct : Bool} {sn : List Str} {sub : List Value} {ab : Bool} {col : Option Bool} {dd : Option Addr} {k0 k1 k2 k3 k5 : Option Value} {newId : String} {M : Model}
    {s : Shared} {c : PySem.Expr} {pos : Pos} {Q : Flow → Shared → Prop} (hbase : bm.contains (.type "BaseException") = true) (hh : A.handled = none)
    (h : wpAny M A (eval c env) (fun v s₁ => ∃ e d t, v = .ref e ∧ s₁.heap.get? C = some (excClassObj nm q C N bs bm hdct sn sub ab col dd k0 k1 k2 k3 k5 newId) ∧
      s₁.heap.get? e = some (exO C d t) ∧ E (.ref e) s₁) E s) :
    wpAny M A (exec (.Raise (some c) none pos) env) Q E s := by
  rw [arm_exec_Raise]
  refine wpAny_bind (wpAny_standAt (raise_own (C := C) (nm := nm) (q := q) (N := N) (bs := bs) (bm := bm) (hdct := hdct) (sn := sn) (sub := sub) (ab := ab) (col := col) (dd := dd) (k0 := k0) (k1 := k1) (k2 := k2) (k3 := k3) (k5 := k5) (newId := newId) hbase hh (wpAny_bind (wpAny_mono h (fun v s₃ h₃ => wpAny_bind (wpAny_standAt (wpAny_pure h₃))) fun _ _ x => x))))
structure Flung (w : World) (E : Value → Shared → Prop) (v : Value) (s₁ : Shared) : Prop where
  is : ∃ e d t, v = .ref e ∧ (hd.heap_1 w.params).In s₁.heap ∧ s₁.heap.get? e = some (exO 61 d t) ∧ E (.ref e) s₁
theorem Raise61 {w : World} {A : Around} {E : Value → Shared → Prop} {env : Env} {M : Model}
    {s : Shared} {c : PySem.Expr} {pos : Pos} {Q : Flow → Shared → Prop} (hh : A.handled = none)
    (h : wpAny M A (eval c env) (Flung w E) E s) :
    wpAny M A (exec (.Raise (some c) none pos) env) Q E s := by
  obtain ⟨nm, q, N, bs, hdct, sn, sub, ab, col, dd, k0, k1, k2, k3, k5, newId, hC⟩ : ∃ nm q N bs hdct sn sub ab col dd k0 k1 k2 k3 k5 newId,
      (hd.heap_1 w.params).lookup 61 = some (excClassObj nm q 61 N bs [.ref 48, .type "Exception", .type "BaseException", .type "object"] hdct sn sub ab col dd k0 k1 k2 k3 k5 newId) :=
    ⟨_, _, _, _, _, _, _, _, _, _, _, _, _, _, _, _, by with_unfolding_all rfl⟩
  refine Raise_own (C := 61) (nm := nm) (q := q) (N := N) (bs := bs) (bm := [.ref 48, .type "Exception", .type "BaseException", .type "object"]) (hdct := hdct) (sn := sn) (sub := sub) (ab := ab) (col := col) (dd := dd) (k0 := k0) (k1 := k1) (k2 := k2) (k3 := k3) (k5 := k5) (newId := newId) (by decide +kernel) hh (wpAny_mono h (fun v s₁ h₁ => ?_) fun _ _ x => x)
  obtain ⟨e, d, t, rfl, X, he, hE⟩ := h₁.is
  exact ⟨e, d, t, rfl, X 61 _ hC, he, hE⟩
theorem flung_leave {w : World} {A : Around} {E : Value → Shared → Prop} {s₁ : Shared} {base g : Heap} {outer : List Env} {L a : Addr} {m : Str → Option Value} {name : Str} {scope : Scope} {cd v msg : Value} {R R' : Led}
    (K : Below A base outer g) (F : Fr g L s₁.heap m) (N : News g L s₁.heap R') (X : (hd.heap_1 w.params).In g)
    (P : ∃ e d t', v = .ref e ∧ (e, exO 61 (some d) t') ∈ R' ∧ (t', tup1 msg) ∈ R' ∧ (∀ p ∈ R, p ∈ R') ∧ ∀ p ∈ R, p.1 ≠ e ∧ p.1 ≠ t')
    (hret : ∀ e t h', RaisedS base g outer e (.ref 61) t [msg] R h' → g.UpToSlots h' → E (.ref e) { s₁ with heap := h' }) (hk : scope.kind = .function := by rfl) :
    Flung w (fun e s' => wpAny (model PG w) (A.deeper (envOf name scope L a cd)) (leaving (envOf name scope L a cd) e) (fun _ s'' => E e s'') (fun e' s'' => E e' s'') s') v s₁ := by
  obtain ⟨e, d, t', rfl, he, ht, hs, hne⟩ := P
  exact ⟨e, some d, t', rfl, X.keeps F.keep, (N _ he).1, leave_own K F N he ht hs (fun p hp => (hne p hp).1) (fun p hp => (hne p hp).2) (fun h' R1 _ U => hret e t' h' R1 U) hk⟩
local macro_rules | `(tactic| walk_at "exec Raise some none") => `(tactic| (k_here; refine Raise61 (w := ‹World›) rfl ?_))
local macro_rules | `(tactic| walk_at "call ref") => `(tactic| (k_here; (with_reducible show wpAny _ _ (call (Value.ref 61) _) _ _ _); k_dflt (refine' Spec.use fault_ok (by k_asm) (by k_asm) (by k_asm) (by k_asm) (by k_asm) (by exact rfl) (by ktr_room) (by ktr_units) ?_; k_whole); intro r9 h9 tk9 n9 F9 N9 P9))
def Wi.bad (wi : Wi) : Prop := wi.tag.length = 3 ∨ (wi.tag.length = 4 ∧ (wi.val < 0 ∨ 255 < wi.val))
theorem check_bad {w : World} {R : Led} {x : Value} {wi : Wi} (hx : WishAt w.params R x wi) (ho : wi.bad) : SpecR 20 w 111 [x] R := by
  w_top off
  intro dp un gd cn cs L a ccd cl outer A₀ base h₀ m s Q E loose mean mg mb B F X N T hk hd hu hret
  obtain ⟨a, dx, t1, t2, t3, t4, u1, u2, u3, u4, rfl, ha, hdx⟩ := hx
  rcases ho with o1 | ⟨o1, o2⟩
  all_goals
    refine wpAny_call ?_
    k_dflt cell_enter
    k_steps
    all_goals first
      | exact flung_leave (by k_asm) (by k_asm) (by k_asm) (by k_asm) (by assumption) (fun e t h' R U => hret e t _ _ h' _ (by assumption) R U)
      | (exfalso; omega)

end Mine
namespace Mine
local macro_rules | `(tactic| k_all) => `(tactic| assumption)
local macro_rules | `(tactic| k_mem) => `(tactic| assumption)
local macro_rules | `(tactic| ktr_room) => `(tactic| ((try simp only [depth_under_make, depth_under_kw, depth_in1, depth_deeper, depth_caller] at *); (try dsimp only [ktrTop] at *); omega))
local macro_rules | `(tactic| k_room) => `(tactic| ktr_room)
local macro_rules | `(tactic| walk_at "pyIter ref") => `(tactic| refine Stop.on ?_)
local macro_rules | `(tactic| walk_at "exec For") => `(tactic| (k_here; k_dflt (refine For_invVF (by k_asm) (by rfl) (by rfl) ?_)))
local macro_rules | `(tactic| walk_at "exec For Name Name") => `(tactic| (k_here; k_dflt (refine For_invVF (by k_asm) (by rfl) (by rfl) ?_)))
local macro_rules | `(tactic| walk_at "exec For Name Name cons nil") => `(tactic| (k_here; k_dflt (refine For_invVF (by k_asm) (by rfl) (by rfl) ?_)))
local macro_rules | `(tactic| walk_at "call ref") => `(tactic| (k_here; (with_reducible show wpAny _ _ (call (Value.ref 147) _) _ _ _); k_dflt (refine' Spec.use (first_ok _ _) (by k_asm) (by k_asm) (by k_asm) (by k_asm) (by k_asm) (by exact rfl) (by ktr_room) (by ktr_units) ?_; k_whole); intro r9 h9 tk9 n9 F9 N9 P9; obtain ⟨dF, TF, cF, e91, e92, tcF, otF, dtF⟩ := P9; subst e91; subst e92; (try dsimp only)))
local macro_rules | `(tactic| walk_at "call ref") => `(tactic| (k_here; (with_reducible show wpAny _ _ (call (Value.ref 111) _) _ _ _); refine Stop.on ?_))
theorem SpecR.use {k : Nat} {w : World} {f : Addr} {args : List Value} {news : Led} (S : SpecR k w f args news)
    {dp un : Nat} {gd : Option (List Code)} {cn : Str} {cs : Scope} {L a : Addr} {ccd : Value} {cl : List (Str × Addr)} {outer : List Env} {A₀ : Around} {base h₀ : Heap} {m : Str → Option Value} {s : Shared} {Q E : Value → Shared → Prop}
    {loose : List Str} {mean : ExcName → Option Value} {mg mb : Str → Option Value}
    (B : Below A₀ base outer h₀) (F : Fr h₀ L s.heap m) (X : (hd.heap_1 w.params).In h₀) (N : News h₀ L s.heap news) (T : Top hd.view loose mean mg mb h₀) (hk : cs.kind = .function) (hd : dp + k < recursionLimit) (hu : un + 10 * k < cLine)
    (hret : ∀ e t v G h' tk', Fr h₀ L G m → RaisedS base G (envX cn cs L a ccd cl :: outer) e (.ref 61) t [v] news h' → G.UpToSlots h' → E (.ref e) { s with heap := h', toks := tk' }) :
    wpAny (model PG w) (ktrTop dp un gd cn cs L a ccd cl outer) (call (.ref f) args) Q E s :=
  S dp un gd cn cs L a ccd cl outer A₀ base h₀ m s Q E loose mean mg mb B F X N T hk hd hu hret
theorem RaisedS.sub {base G : Heap} {l : List Env} {e t : Addr} {cls : Value} {vs : List Value} {R R' : Led} {h : Heap} (x : RaisedS base G l e cls t vs R' h) (s : ∀ p ∈ R, p ∈ R') : RaisedS base G l e cls t vs R h := by
  obtain ⟨⟨B, a, b, c, d⟩, f⟩ := x
  exact ⟨⟨B, a, b, fun q hq => c q (s q hq), d⟩, f⟩
theorem all_bad {w : World} {R : Led} {t : Tok} {ar b : Bool} {lw : Addr} {x : Value} {n : Nat} {wi : Wi} (hl : (lw, PySem.W.listOf #[x] n) ∈ R) (hw : WishAt w.params R x wi) (ho : wi.bad) :
    SpecR 30 w 154 [.str (scr ar) t, .bool b, .ref lw] R := by
  w_top off
  intro dp un gd cn cs L a ccd cl outer A₀ base h₀ m s Q E loose mean mg mb B F X N T hk hd hu hret
  refine wpAny_call ?_
  k_dflt cell_enter
  k_steps
  refine Stop.off ?_
  rename_i dF TF cF tcF otF dtF _ F2 N2
  refine for_listS [Str.ofString "want"] (fun i R₁ => (∀ p ∈ R, p ∈ R₁) ∧ i = 0) rfl F2 N2 (List.mem_append_right _ hl) ⟨fun p hp => List.mem_append_right _ hp, rfl⟩ ?_ ?_
  · intro I i v u R₁ oI h' tk hv hsrc off hJ F3 N3
    obtain ⟨hs, rfl⟩ := hJ
    obtain rfl : x = v := by simpa using hv
    have hx := hw.mono (R' := (I, oI) :: R₁) (fun p hp => List.mem_cons_of_mem (I, oI) (hs p hp))
    clear N2 F2
    k_steps
    refine Stop.off ?_
    k_dflt (refine' SpecR.use (check_bad hx ho) ?k1 ?k2 ?k3 ?k4 ?k5 ?kK ?kd ?ku ?_; (case k1 => k_asm); (case k2 => k_asm); (case k3 => k_asm); (case k4 => k_asm); (case k5 => k_asm); (case kK => exact rfl); (case kd => ktr_room); (case ku => ktr_units); k_whole)
    intro e t v G h4 tk4 FG R4 U4
    refine leave_onS (by assumption) FG R4 U4 fun h5 R5 _ U5 => ?_
    exact hret e t v _ _ _ (by assumption) (RaisedS.sub R5 (fun p hp => List.mem_cons_of_mem _ (hs p hp))) U5
  · intro u R₁ h tk hJ
    exact absurd hJ.2 (by simp)

end Mine
namespace Mine
open PySem.Calls
section
variable {prog : Program} {w : World} {A₀ A : Around} {s : Shared} {base h₀ g₀ : Heap} {L a : Addr} {m : Str → Option Value} {env : Env} {news : List (Addr × Obj)} {K : Frag} {p : Program} {loose : List Str} {mean : ExcName → Option Value} {mg mb : Str → Option Value}
    {R : Result → Shared → Prop} {name qual : Str} {params : Arguments} {body : List Stmt} {scope : Scope} {dV kV doc pm cdv ct oc : Value} {an od : Option Addr} {osl : Array (Option Value)} {f : Addr} {args : Args} {binds : List (Str × Value)}
theorem code_defT (B : Below A₀ base [] h₀) (F : Fr h₀ L s.heap m) (X₀ : K.In h₀) (N : News h₀ L s.heap news) (T : Top p loose mean mg mb h₀) (hA : A.frames = some [env]) (hf : env.frame = some L) (hke : env.scope.kind = .function)
    (ho : K.lookup f = some ⟨oc, od, .func (fnOf name qual params body scope dV kV doc pm an cdv ct), osl⟩) (hcd : codeIn K cdv qual = true) (hroom : A.depth < recursionLimit)
    (hbind : BindsTo s (fnOf name qual params body scope dV kV doc pm an cdv ct) args binds) (hloc : ∀ y ∈ binds, scope.names.lookup y.1 = some .local)
    (h : ∀ g L' h₁, Fr h₀ L g m → Fr g L' h₁ (fun y => binds.reverse.lookup y) → News g L' h₁ news → Below A base [env] g → K.In g → Top p loose mean mg mb g → KtsDicts ([env].filterMap (·.frame)) g →
      wpAny (model prog w) (A.deeper (envOf qual scope L' f cdv)) (execs body (envOf qual scope L' f cdv))
        (fun fl s' => LeaveS0 ([env].filterMap (·.frame)) h₀ L m g R (match fl with | .ret v => v | _ => .none) s')
        (fun e s' => wpAny (model prog w) (A.deeper (envOf qual scope L' f cdv)) (leaving (envOf qual scope L' f cdv) e) (fun _ s'' => R (.error e) s'') (fun e' s'' => R (.error e') s'') s')
        { s with heap := h₁, toks := s.toks + binds.length })
    (hco : scope.isCoroutine = false) (hgen : scope.isGenerator = false) (hk : scope.kind = .function)
    (hcell : ∀ x ∈ scope.names, x.2 ≠ .cell) : codeAny (model prog w) A (.call (.ref f) args) R s := by
  have X := X₀.keeps F.keep
  have hfs : [env].filterMap (·.frame) = [L] := by simp [hf]
  refine codeAny_call_def (fd := fnOf name qual params body scope dV kV doc pm an cdv ct) (body := body) (binds := binds) hroom (X _ _ ho) rfl (T.nolimit.keeps F.keep) (codeRec_of X hcd) rfl hbind hcell hloc (fun h₁ hns hk₁ => ?_) hco hgen hk
  obtain ⟨FG, B₂, st, _⟩ := groundX (R := R) B F N hA hf hke
  obtain ⟨oL, es, ep, hLg, hLd, hLk, hLf⟩ := FG.ns
  refine wpAny_mono (h _ s.heap.objs.size h₁ FG ⟨hns, fun b o e => hk₁ b o (of_hideAll _ e), Nat.le_of_eq (hideAll_size _ _)⟩
    (fun p hp => ⟨hk₁ _ _ (N p hp).1, Nat.ne_of_lt (Heap.lt_size (N p hp).1), hideAll_none _ (List.mem_map_of_mem hp)⟩) B₂ (X₀.keeps st) (T.keeps st) (fun b hb => by
      rw [hfs] at hb
      obtain rfl : b = L := by simpa using hb
      exact ⟨oL, es, ep, hLg, hLd⟩)) (fun fl s' hl => ?_) fun _ _ y => y
  obtain ⟨g', L', m', news', T', F', N', k⟩ := hl
  rw [hfs] at T'
  have nL₀ : h₀.get? L = none := kts_self F
  obtain ⟨sl, hs⟩ := T'.up hLg
  refine k ⟨⟨_, es, ep, F'.keep _ _ hs, hLd, hLk, hLf⟩, fun b o e => F'.keep b o (T'.other b o (st b o e) (fun q => by
    obtain rfl : b = L := by simpa using q
    rw [nL₀] at e
    cases e)), F.above⟩ fun p hp => ⟨(N' p hp).1, fun q => ?_, ?_⟩
  · have := (N' p hp).2.2; rw [q, hs] at this; cases this
  · cases q : h₀.get? p.1 with
    | none => rfl
    | some o =>
      obtain ⟨sl', hs'⟩ := T'.up (st _ _ q)
      have := (N' p hp).2.2
      rw [hs'] at this
      cases this
end

end Mine
namespace Mine
local macro_rules | `(tactic| k_all) => `(tactic| assumption)
local macro_rules | `(tactic| k_mem) => `(tactic| assumption)
local macro_rules | `(tactic| ktr_room) => `(tactic| ((try simp only [depth_under_make, depth_under_kw, depth_in1, depth_deeper, depth_caller] at *); (try dsimp only [ktrTop] at *); omega))
local macro_rules | `(tactic| k_room) => `(tactic| ktr_room)
abbrev SpecL (k : Nat) (w : World) (f : Addr) (args : List Value) (news : Led) (Post : Value → Led → Prop) : Prop :=
  ∀ (dp un : Nat) (gd : Option (List Code)) (cn : Str) (cs : Scope) (L a : Addr) (ccd : Value) (cl : List (Str × Addr)) (A₀ : Around) (h₀ : Heap) (m : Str → Option Value) (s : Shared) (Q E : Value → Shared → Prop)
    (loose : List Str) (mean : ExcName → Option Value) (mg mb : Str → Option Value),
    Below A₀ h₀ [] h₀ → Fr h₀ L s.heap m → (hd.heap_1 w.params).In h₀ → News h₀ L s.heap news → Top hd.view loose mean mg mb h₀ → cs.kind = .function →
    dp + k < recursionLimit → un + 10 * k < cLine →
    (∀ r h' tk' news', Fr h₀ L h' m → News h₀ L h' news' → Post r news' → Q r { s with heap := h', toks := tk' }) →
    wpAny (model PG w) (ktrTop dp un gd cn cs L a ccd cl []) (call (.ref f) args) Q E s
local macro_rules | `(tactic| walk_at "call ref") => `(tactic| (k_here; (with_reducible show wpAny _ _ (call (Value.ref 154) _) _ _ _); refine Stop.on ?_))
theorem refused_bad {w : World} {R : Led} {x : Value} {wi : Wi} (hw : WishAt w.params R x wi) (ho : wi.bad) : SpecL 40 w 179 [x] R (fun v R' => v = .bool true ∧ ∀ p ∈ R, p ∈ R') := by
  w_top off
  intro dp un gd cn cs L a ccd cl A₀ h₀ m s Q E loose mean mg mb B F X N T hk hd hu hret
  refine wpAny_call ?_
  k_dflt (refine' code_defT ?k1 ?k2 ?k3 ?k4 ?k5 ?kA ?kF ?kK ?k6 ?k7 ?k8 ?k9 ?kB ?_ ?c2 ?c3 ?c4 ?c5; (case kA => exact rfl); (case kF => exact rfl); (case kK => exact hk); (case k2 => k_asm); (case k1 => k_asm); (case k3 => k_asm); (case k4 => k_asm); (case k5 => k_asm); (case k6 => k_is); (case k7 => k_is); (case k8 => ktr_room); (case k9 => exact BindsTo.of_eq rfl); (case kB => exact locs rfl); (case c2 => exact rfl); (case c3 => exact rfl); (case c4 => exact rfl); (case c5 => decide); k_whole; intro g' L' h' FG' F' N' B' X' T' D'; (try dsimp only); (try k_lift B'); (try k_fold))
  k_steps
  refine Stop.off ?_
  k_dflt (refine' SpecR.use (all_bad (ar := false) (n := 0) (x := x) ?hl (hw.mono ?hs) ho) ?k1 ?k2 ?k3 ?k4 ?k5 ?kK ?kd ?ku ?_; (case k1 => k_asm); (case k2 => k_asm); (case k3 => k_asm); (case k4 => k_asm); (case k5 => k_asm); (case kK => exact rfl); (case kd => ktr_room); (case ku => ktr_units); (case hl => exact .head _); (case hs => exact fun p hp => .tail _ hp); k_whole)
  intro e t v G h4 tk4 FG4 R4 U4
  k_steps
  exact hret _ _ _ _ (by k_asm) (by k_asm) ⟨rfl, fun p hp => .tail _ hp⟩
theorem refused_ok {w : World} {R : Led} {x : Value} {wi : Wi} (hw : WishAt w.params R x wi) (ho : wi.ok) : SpecL 40 w 179 [x] R (fun v R' => v = .bool false ∧ ∀ p ∈ R, p ∈ R') := by
  w_top off
  intro dp un gd cn cs L a ccd cl A₀ h₀ m s Q E loose mean mg mb B F X N T hk hd hu hret
  refine wpAny_call ?_
  k_dflt (refine' code_defT ?k1 ?k2 ?k3 ?k4 ?k5 ?kA ?kF ?kK ?k6 ?k7 ?k8 ?k9 ?kB ?_ ?c2 ?c3 ?c4 ?c5; (case kA => exact rfl); (case kF => exact rfl); (case kK => exact hk); (case k2 => k_asm); (case k1 => k_asm); (case k3 => k_asm); (case k4 => k_asm); (case k5 => k_asm); (case k6 => k_is); (case k7 => k_is); (case k8 => ktr_room); (case k9 => exact BindsTo.of_eq rfl); (case kB => exact locs rfl); (case c2 => exact rfl); (case c3 => exact rfl); (case c4 => exact rfl); (case c5 => decide); k_whole; intro g' L' h' FG' F' N' B' X' T' D'; (try dsimp only); (try k_lift B'); (try k_fold))
  k_steps
  refine Stop.off ?_
  k_dflt (refine' Spec.use (all_ok (ar := false) (n := 0) (xs := [x]) (ws := [wi]) ?hl (WishL.cons (hw.mono ?hs) WishL.nil) ?ho ?h6) ?k1 ?k2 ?k3 ?k4 ?k5 ?kK ?kd ?ku ?_; (case k1 => k_asm); (case k2 => k_asm); (case k3 => k_asm); (case k4 => k_asm); (case k5 => k_asm); (case kK => exact rfl); (case kd => ktr_room); (case ku => ktr_units); (case hl => exact .head _); (case hs => exact fun p hp => .tail _ hp); (case ho => intro y hy; obtain rfl := List.mem_singleton.mp hy; exact ho); (case h6 => exact Nat.le_of_ble_eq_true rfl); k_whole)
  intro r9 h9 tk9 n9 F9 N9 P9
  obtain ⟨dA, TA, cA, e91, e92, tcA, otA, dtA⟩ := P9
  subst e91
  subst e92
  k_steps
  exact hret _ _ _ _ (by k_asm) (by k_asm) ⟨rfl, fun p hp => List.mem_append_right _ (.tail _ hp)⟩

end Mine
namespace Mine
local macro_rules | `(tactic| k_all) => `(tactic| assumption)
local macro_rules | `(tactic| k_mem) => `(tactic| assumption)
local macro_rules | `(tactic| ktr_room) => `(tactic| ((try simp only [depth_under_make, depth_under_kw, depth_in1, depth_deeper, depth_caller] at *); (try dsimp only [ktrTop] at *); omega))
local macro_rules | `(tactic| k_room) => `(tactic| ktr_room)
local macro_rules | `(tactic| walk_at "call ref") => `(tactic| (k_here; (with_reducible show wpAny _ _ (call (Value.ref 179) _) _ _ _); refine Stop.on ?_))
local macro_rules | `(tactic| walk_at "call ref") => `(tactic| (k_here; (with_reducible show wpAny _ _ (call (Value.ref 100) [_, _]) _ _ _); k_dflt (refine' Spec.use wish2_ok (by k_asm) (by k_asm) (by k_asm) (by k_asm) (by k_asm) (by exact rfl) (by ktr_room) (by ktr_units) ?_; k_whole); intro r9 h9 tk9 n9 F9 N9 P9; obtain ⟨x9, d9, t1, t2, t3, t4, u1, u2, u3, u4, e91, e92, l9, l8⟩ := P9; subst e91; subst e92; clear l8 l9; (try dsimp only)))
theorem SpecL.use {k : Nat} {w : World} {f : Addr} {args : List Value} {news : Led} {Post : Value → Led → Prop} (S : SpecL k w f args news Post)
    {dp un : Nat} {gd : Option (List Code)} {cn : Str} {cs : Scope} {L a : Addr} {ccd : Value} {cl : List (Str × Addr)} {A₀ : Around} {h₀ : Heap} {m : Str → Option Value} {s : Shared} {Q E : Value → Shared → Prop}
    {loose : List Str} {mean : ExcName → Option Value} {mg mb : Str → Option Value}
    (B : Below A₀ h₀ [] h₀) (F : Fr h₀ L s.heap m) (X : (hd.heap_1 w.params).In h₀) (N : News h₀ L s.heap news) (T : Top hd.view loose mean mg mb h₀) (hk : cs.kind = .function) (hd : dp + k < recursionLimit) (hu : un + 10 * k < cLine)
    (hQ : ∀ r h' tk' news', Fr h₀ L h' m → News h₀ L h' news' → Post r news' → Q r { s with heap := h', toks := tk' }) :
    wpAny (model PG w) (ktrTop dp un gd cn cs L a ccd cl []) (call (.ref f) args) Q E s :=
  S dp un gd cn cs L a ccd cl A₀ h₀ m s Q E loose mean mg mb B F X N T hk hd hu hQ
namespace S12K
abbrev Claim (w : World) (h₀ : Heap) (L : Addr) (fa : Addr) (cd : Value) (s : Shared) (m : Str → Option Value) (R : Led) (Q : Flow → Shared → Prop) (E : Value → Shared → Prop) : Prop :=
  ∀ (G : Base w h₀) (F : Fr h₀ L s.heap m) (N : News h₀ L s.heap R) (hQ : Ends h₀ L s Q) (hE : PassesOwn (model PG w) (lawA w L fa cd) (lawE w L fa cd) E), Rest w 12 L fa cd Q E s
abbrev ClaimT (p : (World) × (Heap) × (Addr) × (Addr) × (Value) × (Shared) × (Str → Option Value) × (Led) × (Flow → Shared → Prop) × (Value → Shared → Prop)) : Prop := Claim (p.1) (p.2.1) (p.2.2.1) (p.2.2.2.1) (p.2.2.2.2.1) (p.2.2.2.2.2.1) (p.2.2.2.2.2.2.1) (p.2.2.2.2.2.2.2.1) (p.2.2.2.2.2.2.2.2.1) (p.2.2.2.2.2.2.2.2.2)
theorem some_tup : Nonempty ((World) × (Heap) × (Addr) × (Addr) × (Value) × (Shared) × (Str → Option Value) × (Led) × (Flow → Shared → Prop) × (Value → Shared → Prop)) := some_pair some_world (some_pair inferInstance (some_pair inferInstance (some_pair inferInstance (some_pair inferInstance (some_pair some_shared (some_pair inferInstance (some_pair inferInstance (some_pair inferInstance (inferInstance)))))))))
noncomputable def tup : (World) × (Heap) × (Addr) × (Addr) × (Value) × (Shared) × (Str → Option Value) × (Led) × (Flow → Shared → Prop) × (Value → Shared → Prop) := @Classical.epsilon _ some_tup fun p => ¬ ClaimT p
@[irreducible] noncomputable def w : World := tup.1
@[irreducible] noncomputable def h₀ : Heap := tup.2.1
@[irreducible] noncomputable def L : Addr := tup.2.2.1
@[irreducible] noncomputable def fa : Addr := tup.2.2.2.1
@[irreducible] noncomputable def cd : Value := tup.2.2.2.2.1
@[irreducible] noncomputable def s : Shared := tup.2.2.2.2.2.1
@[irreducible] noncomputable def m : Str → Option Value := tup.2.2.2.2.2.2.1
@[irreducible] noncomputable def R : Led := tup.2.2.2.2.2.2.2.1
@[irreducible] noncomputable def Q : Flow → Shared → Prop := tup.2.2.2.2.2.2.2.2.1
@[irreducible] noncomputable def E : Value → Shared → Prop := tup.2.2.2.2.2.2.2.2.2
theorem core : Claim w h₀ L fa cd s m R Q E := by
  w_top off
  intro G F N hQ hE
  have B := G.B
  have X := G.X
  obtain ⟨loose, mean, mg, mb, T⟩ := G.T
  unfold Rest lawA lawE
  generalize hb : (lawBody w.params).drop 12 = body
  generalize hs : (lawFn w.params).scope = sc
  conv at hb => lhs; whnf
  conv at hs => lhs; whnf
  subst hb hs
  k_steps
  refine Stop.off ?_
  k_dflt (refine' SpecL.use (refused_bad ?hw ?ho) ?k1 ?k2 ?k3 ?k4 ?k5 ?kK ?kd ?ku ?_; (case k1 => k_asm); (case k2 => k_asm); (case k3 => k_asm); (case k4 => k_asm); (case k5 => k_asm); (case kK => exact rfl); (case hw => exact wishT); (case ho => exact .inl (by decide)); (case kd => ktr_room); (case ku => ktr_units); k_whole)
  intro r9 h9 tk9 n9 F9 N9 P9
  obtain ⟨e9, s9⟩ := P9
  subst e9
  k_steps
  refine Stop.off ?_
  k_dflt (refine' SpecL.use (refused_bad ?hw ?ho) ?k1 ?k2 ?k3 ?k4 ?k5 ?kK ?kd ?ku ?_; (case k1 => k_asm); (case k2 => k_asm); (case k3 => k_asm); (case k4 => k_asm); (case k5 => k_asm); (case kK => exact rfl); (case hw => exact wishT); (case ho => exact .inr ⟨by decide, .inr (by decide)⟩); (case kd => ktr_room); (case ku => ktr_units); k_whole)
  intro r9 h9 tk9 n9 F9 N9 P9
  obtain ⟨e9, s9⟩ := P9
  subst e9
  k_steps
  refine Stop.off ?_
  k_dflt (refine' SpecL.use (refused_bad ?hw ?ho) ?k1 ?k2 ?k3 ?k4 ?k5 ?kK ?kd ?ku ?_; (case k1 => k_asm); (case k2 => k_asm); (case k3 => k_asm); (case k4 => k_asm); (case k5 => k_asm); (case kK => exact rfl); (case hw => exact wishT); (case ho => exact .inr ⟨by decide, .inl (by decide)⟩); (case kd => ktr_room); (case ku => ktr_units); k_whole)
  intro r9 h9 tk9 n9 F9 N9 P9
  obtain ⟨e9, s9⟩ := P9
  subst e9
  k_steps
  refine Stop.off ?_
  k_dflt (refine' SpecL.use (refused_ok ?hw ?ho) ?k1 ?k2 ?k3 ?k4 ?k5 ?kK ?kd ?ku ?_; (case k1 => k_asm); (case k2 => k_asm); (case k3 => k_asm); (case k4 => k_asm); (case k5 => k_asm); (case kK => exact rfl); (case hw => exact wishT); (case ho => exact ⟨by decide, by decide, by decide⟩); (case kd => ktr_room); (case ku => ktr_units); k_whole)
  intro r9 h9 tk9 n9 F9 N9 P9
  obtain ⟨e9, s9⟩ := P9
  subst e9
  k_steps
  exact hQ _ _ _ rfl rfl F9 N9
end S12K
theorem S12 {w : World} {h₀ : Heap} {L fa : Addr} {cd : Value} {s : Shared} {m : Str → Option Value} {R : Led} {Q : Flow → Shared → Prop} {E : Value → Shared → Prop} (G : Base w h₀) (F : Fr h₀ L s.heap m) (N : News h₀ L s.heap R) (hQ : Ends h₀ L s Q) (hE : PassesOwn (model PG w) (lawA w L fa cd) (lawE w L fa cd) E) : Rest w 12 L fa cd Q E s :=
  skol (P := S12K.ClaimT) (c := S12K.tup) rfl (by with_unfolding_all exact S12K.core) (w, h₀, L, fa, cd, s, m, R, Q, E) G F N hQ hE

end Mine
namespace Mine
local macro_rules | `(tactic| k_mem) => `(tactic| (refine Sup.mem (by assumption) ?_; k_mem))
local macro_rules | `(tactic| k_mem) => `(tactic| (refine List.mem_append_right _ ?_; k_mem))
local macro_rules | `(tactic| k_mem) => `(tactic| (refine List.mem_append_left _ ?_; k_mem))
local macro_rules | `(tactic| k_all) => `(tactic| assumption)
local macro_rules | `(tactic| k_mem) => `(tactic| assumption)
local macro_rules | `(tactic| walk_at "call ref") => `(tactic| (k_here; (with_reducible show wpAny _ _ (call (Value.ref 154) _) _ _ _); k_dflt (refine' Spec.use ?S ?k1 ?k2 ?k3 ?k4 ?k5 ?kK ?kd ?ku ?_; (case k1 => k_asm); (case k2 => k_asm); (case k3 => k_asm); (case k4 => k_asm); (case k5 => k_asm); (case kK => exact rfl); (case S => refine' all_ok (by k_mem) (by exact WishL.mono (by assumption) (fun p hp => by k_mem)) (by assumption) (by assumption)); (case kd => ktr_room); (case ku => ktr_units); k_whole); intro r9 h9 tk9 n9 F9 N9 P9; obtain ⟨dA, TA, cA, e91, e92, tcA, otA, dtA⟩ := P9; subst e91; subst e92; (try dsimp only)))
local macro_rules | `(tactic| walk_at "call ref") => `(tactic| (k_here; (with_reducible show wpAny _ _ (call (Value.ref 172) _) _ _ _); k_dflt (refine' Spec.use ?S ?k1 ?k2 ?k3 ?k4 ?k5 ?kK ?kd ?ku ?_; (case k1 => k_asm); (case k2 => k_asm); (case k3 => k_asm); (case k4 => k_asm); (case k5 => k_asm); (case kK => exact rfl); (case S => refine' told_use (by exact TabC.mono (by assumption) (fun p hp => by k_mem)) (by assumption) (by exact Nat.lt_of_le_of_lt (allT_len _ _ _) (by omega))); (case kd => ktr_room); (case ku => ktr_units); k_whole); intro r9 h9 tk9 n9 F9 N9 P9; obtain ⟨supT, lT, vT, nT, ST, e9, mT, rowsT, permT, sortT⟩ := P9; subst e9; (try dsimp only)))
local macro_rules | `(tactic| walk_at "pyIter ref") => `(tactic| refine Stop.on ?_)
local macro_rules | `(tactic| walk_at "exec For") => `(tactic| (k_here; k_dflt (refine wpAny_For ?_)))
local macro_rules | `(tactic| walk_at "exec For Name Call cons nil") => `(tactic| (k_here; k_dflt (refine wpAny_For ?_)))
local macro_rules | `(tactic| walk_at "call type:range") => `(tactic| (k_here; (with_reducible show wpAny _ _ (call (Value.type "range") [Value.int _ _]) _ _ _); k_dflt (refine' range_led (by k_asm) (by k_asm) ?_; k_whole); intro D9 h9 tk9 t91 t92 t93 F9 N9 l9; (try k_lt l9); (try k_sweep)))
local macro_rules | `(tactic| walk_at "call builtin:len") => `(tactic| (k_here; (with_reducible show wpAny _ _ (call (Value.builtin _) [Value.ref _]) _ _ _); k_dflt (refine' len_list (by k_asm) (by k_mem) (by assumption) ?_; k_whole)))
local macro_rules | `(tactic| walk_at "subscriptTail") => `(tactic| (k_here; (with_reducible show wpAny _ _ (subscriptTail _ _ (Value.ref _) (Value.int _ _)) _ _ _); k_dflt (refine' at_list (by k_asm) (by k_mem) (by assumption) (by assumption) ?_ (by with_unfolding_all rfl); k_whole)))

local macro_rules | `(tactic| walk_at "exec For Name Call cons cons") => `(tactic| (k_here; refine wpAny_For ?_))
local macro_rules | `(tactic| walk_at "exec For Name Call") => `(tactic| (k_here; refine wpAny_For ?_))
local macro_rules | `(tactic| walk_at "call ref") => `(tactic| (k_here; (with_reducible show wpAny _ _ (call (Value.ref 147) _) _ _ _); k_dflt (refine' Spec.use (first_ok _ _) (by k_asm) (by k_asm) (by k_asm) (by k_asm) (by k_asm) (by exact rfl) (by ktr_room) (by ktr_units) ?_; k_whole); intro r9 h9 tk9 n9 F9 N9 P9; obtain ⟨dF, TF, cF, e91, e92, tcF, otF, dtF⟩ := P9; subst e91; subst e92; (try dsimp only)))
local macro_rules | `(tactic| walk_at "call builtin:sorted") => `(tactic| (k_here; (with_reducible show wpAny _ _ (call (Value.builtin "sorted") [Value.ref _]) _ _ _); k_dflt (refine' sorted_dict (by rfl) (by k_asm) (by k_asm) (by k_mem) (by k_asm) (by k_asm) (by k_asm) ?_; k_whole); intro D9 h9 tk9 vs9 ss9 e9 F9 N9 l9 S9 P9 O9))

local macro_rules | `(tactic| walk_at "eval ListComp") => `(tactic| refine Stop.on ?_)
local macro_rules | `(tactic| walk_at "exec Assign cons ListComp") => `(tactic| refine Stop.on ?_)
local macro_rules | `(tactic| walk_at "compareOp In str ref") => `(tactic| (k_here; (with_reducible show wpAny _ _ (compareOp CmpOp.In (Value.str _ _) (Value.ref _)) _ _ _); k_dflt (first
  | (refine' in_new (by k_asm) (by k_mem) (by k_asm) (by k_asm) (by k_asm) ?_; k_whole)
  | (refine' in_there (by k_asm) (by k_mem) (by k_asm) (by k_asm) (by k_asm) ?_; k_whole))))
local macro_rules | `(tactic| walk_at "subscriptTail") => `(tactic| (k_here; (with_reducible show wpAny _ _ (subscriptTail _ _ (Value.ref _) (Value.str _ _)) _ _ _); k_dflt (refine' item_there (by k_asm) (by k_mem) (by k_asm) (by k_asm) ?_ (by with_unfolding_all rfl) (by intro _; with_unfolding_all rfl); k_whole)))
local macro_rules | `(tactic| walk_at "execs cons") => `(tactic| (k_here; (with_reducible rename Go 2 => hGo9); refine Stop.on ?_))
local macro_rules | `(tactic| walk_at "newTuple") => `(tactic| (k_here; k_dflt (refine' kup_newTuple (by k_asm) (by k_asm) ?_ (by kmk_size)); intro D' h' F' N' l1; (try k_lt l1); (try k_sweep)))
local macro_rules | `(tactic| walk_at "compareOp NotEq ref ref") => `(tactic| refine Stop.on ?_)
theorem allR_at {α : Type} {Rel : Value → α → Prop} {vs : List Value} {as : List α} (h : AllR Rel vs as) : ∀ {i : Nat} {v : Value}, vs[i]? = some v → ∃ a, as[i]? = some a ∧ Rel v a := by
  induction h with
  | nil => intro i v e; simp at e
  | cons hr _ ih =>
    intro i v e
    cases i with
    | zero => exact ⟨_, rfl, (Option.some.inj (by simpa using e)) ▸ hr⟩
    | succ i => exact ih (by simpa using e)
theorem rows4_of {R : Led} {S : List (Str × WantD)} {vs : List Value} (hl : vs.length = S.length) (h : ∀ (i : Nat) y, vs[i]? = some y → ∃ r, S[i]? = some r ∧ Row4At R y r) : AllR (Row4At R) vs S :=
  AllR.of hl fun i v a h1 h2 => by
    obtain ⟨r, e, hr⟩ := h i v h1
    rw [h2] at e
    rw [Option.some.inj e]; exact hr
namespace S11K
abbrev Claim (w : World) (h₀ : Heap) (L : Addr) (fa : Addr) (l : Addr) (d : Addr) (dF : Addr) (lH : Addr) (lL : Addr) (cd : Value) (s : Shared) (ar : Bool) (bb : Bool) (t : Tok) (m : Str → Option Value) (xs : List Value) (ys : List Value) (ws : List Wi) (R : Led) (nY : Nat) (S : List (Str × WantD)) (Q : Flow → Shared → Prop) (E : Value → Shared → Prop) : Prop :=
  ∀ (G : Base w h₀) (W : WS w.params L l R xs ws) (HW : HS lH R S (allT ar bb ws)) (hn : ((allT ar bb ws).map (·.1)).Nodup) (hY : (lL, PySem.W.listOf ys.toArray nY) ∈ R) (WY : WishL w.params R ys (lastL ws)) (F : Fr h₀ L s.heap m) (N : News h₀ L s.heap R) (M : JF d dF lH ar bb t m) (mL : m (Str.ofString "last") = some (.ref lL)) (hQ : Ends h₀ L s Q) (hE : PassesOwn (model PG w) (lawA w L fa cd) (lawE w L fa cd) E), Rest w 11 L fa cd Q E s
abbrev ClaimT (p : (World) × (Heap) × (Addr) × (Addr) × (Addr) × (Addr) × (Addr) × (Addr) × (Addr) × (Value) × (Shared) × (Bool) × (Bool) × (Tok) × (Str → Option Value) × (List Value) × (List Value) × (List Wi) × (Led) × (Nat) × (List (Str × WantD)) × (Flow → Shared → Prop) × (Value → Shared → Prop)) : Prop := Claim (p.1) (p.2.1) (p.2.2.1) (p.2.2.2.1) (p.2.2.2.2.1) (p.2.2.2.2.2.1) (p.2.2.2.2.2.2.1) (p.2.2.2.2.2.2.2.1) (p.2.2.2.2.2.2.2.2.1) (p.2.2.2.2.2.2.2.2.2.1) (p.2.2.2.2.2.2.2.2.2.2.1) (p.2.2.2.2.2.2.2.2.2.2.2.1) (p.2.2.2.2.2.2.2.2.2.2.2.2.1) (p.2.2.2.2.2.2.2.2.2.2.2.2.2.1) (p.2.2.2.2.2.2.2.2.2.2.2.2.2.2.1) (p.2.2.2.2.2.2.2.2.2.2.2.2.2.2.2.1) (p.2.2.2.2.2.2.2.2.2.2.2.2.2.2.2.2.1) (p.2.2.2.2.2.2.2.2.2.2.2.2.2.2.2.2.2.1) (p.2.2.2.2.2.2.2.2.2.2.2.2.2.2.2.2.2.2.1) (p.2.2.2.2.2.2.2.2.2.2.2.2.2.2.2.2.2.2.2.1) (p.2.2.2.2.2.2.2.2.2.2.2.2.2.2.2.2.2.2.2.2.1) (p.2.2.2.2.2.2.2.2.2.2.2.2.2.2.2.2.2.2.2.2.2.1) (p.2.2.2.2.2.2.2.2.2.2.2.2.2.2.2.2.2.2.2.2.2.2)
theorem some_tup : Nonempty ((World) × (Heap) × (Addr) × (Addr) × (Addr) × (Addr) × (Addr) × (Addr) × (Addr) × (Value) × (Shared) × (Bool) × (Bool) × (Tok) × (Str → Option Value) × (List Value) × (List Value) × (List Wi) × (Led) × (Nat) × (List (Str × WantD)) × (Flow → Shared → Prop) × (Value → Shared → Prop)) := some_pair some_world (some_pair inferInstance (some_pair inferInstance (some_pair inferInstance (some_pair inferInstance (some_pair inferInstance (some_pair inferInstance (some_pair inferInstance (some_pair inferInstance (some_pair inferInstance (some_pair some_shared (some_pair inferInstance (some_pair inferInstance (some_pair inferInstance (some_pair inferInstance (some_pair inferInstance (some_pair inferInstance (some_pair inferInstance (some_pair inferInstance (some_pair inferInstance (some_pair inferInstance (some_pair inferInstance (inferInstance))))))))))))))))))))))
noncomputable def tup : (World) × (Heap) × (Addr) × (Addr) × (Addr) × (Addr) × (Addr) × (Addr) × (Addr) × (Value) × (Shared) × (Bool) × (Bool) × (Tok) × (Str → Option Value) × (List Value) × (List Value) × (List Wi) × (Led) × (Nat) × (List (Str × WantD)) × (Flow → Shared → Prop) × (Value → Shared → Prop) := @Classical.epsilon _ some_tup fun p => ¬ ClaimT p
@[irreducible] noncomputable def w : World := tup.1
@[irreducible] noncomputable def h₀ : Heap := tup.2.1
@[irreducible] noncomputable def L : Addr := tup.2.2.1
@[irreducible] noncomputable def fa : Addr := tup.2.2.2.1
@[irreducible] noncomputable def l : Addr := tup.2.2.2.2.1
@[irreducible] noncomputable def d : Addr := tup.2.2.2.2.2.1
@[irreducible] noncomputable def dF : Addr := tup.2.2.2.2.2.2.1
@[irreducible] noncomputable def lH : Addr := tup.2.2.2.2.2.2.2.1
@[irreducible] noncomputable def lL : Addr := tup.2.2.2.2.2.2.2.2.1
@[irreducible] noncomputable def cd : Value := tup.2.2.2.2.2.2.2.2.2.1
@[irreducible] noncomputable def s : Shared := tup.2.2.2.2.2.2.2.2.2.2.1
@[irreducible] noncomputable def ar : Bool := tup.2.2.2.2.2.2.2.2.2.2.2.1
@[irreducible] noncomputable def bb : Bool := tup.2.2.2.2.2.2.2.2.2.2.2.2.1
@[irreducible] noncomputable def t : Tok := tup.2.2.2.2.2.2.2.2.2.2.2.2.2.1
@[irreducible] noncomputable def m : Str → Option Value := tup.2.2.2.2.2.2.2.2.2.2.2.2.2.2.1
@[irreducible] noncomputable def xs : List Value := tup.2.2.2.2.2.2.2.2.2.2.2.2.2.2.2.1
@[irreducible] noncomputable def ys : List Value := tup.2.2.2.2.2.2.2.2.2.2.2.2.2.2.2.2.1
@[irreducible] noncomputable def ws : List Wi := tup.2.2.2.2.2.2.2.2.2.2.2.2.2.2.2.2.2.1
@[irreducible] noncomputable def R : Led := tup.2.2.2.2.2.2.2.2.2.2.2.2.2.2.2.2.2.2.1
@[irreducible] noncomputable def nY : Nat := tup.2.2.2.2.2.2.2.2.2.2.2.2.2.2.2.2.2.2.2.1
@[irreducible] noncomputable def S : List (Str × WantD) := tup.2.2.2.2.2.2.2.2.2.2.2.2.2.2.2.2.2.2.2.2.1
@[irreducible] noncomputable def Q : Flow → Shared → Prop := tup.2.2.2.2.2.2.2.2.2.2.2.2.2.2.2.2.2.2.2.2.2.1
@[irreducible] noncomputable def E : Value → Shared → Prop := tup.2.2.2.2.2.2.2.2.2.2.2.2.2.2.2.2.2.2.2.2.2.2
theorem core : Claim w h₀ L fa l d dF lH lL cd s ar bb t m xs ys ws R nY S Q E := by
  w_top off
  intro G W HW hn hY WY F N M mL hQ hE
  have B := G.B
  have X := G.X
  obtain ⟨loose, mean, mg, mb, T⟩ := G.T
  have okY : ∀ wi ∈ lastL ws, wi.ok := fun wi h => (W.ok wi (last_sub ws wi h)).1
  have tagW : ∀ wi ∈ ws, wi.tag ∈ tagsL := fun wi h => (W.ok wi h).2
  have len6 := W.len
  have lenY : (lastL ws).length ≤ 6 := Nat.le_trans (last_len ws) len6
  have lenY' : (lastL ws).length ≤ 50 := by omega
  obtain ⟨⟨vsH, nH, mH, rowsH⟩, permH, sortH⟩ := HW
  have lenH : vsH.length ≤ 60 := by
    rw [rowsH.length, permH.length_eq]
    have := allT_len ar bb ws
    omega
  replace F := fr_overs [(Str.ofString "first", .ref dF), (Str.ofString "wants", .ref d), (Str.ofString "held", .ref lH), (Str.ofString "tag", .str (scr ar) t), (Str.ofString "is_backward", .bool bb), (Str.ofString "last", .ref lL)] F (by simp only [List.forall_mem_cons]; exact ⟨M.f, M.w, M.h, M.t, M.b, mL, fun _ h => nomatch h⟩)
  dsimp only [overs] at F
  unfold Rest lawA lawE
  generalize hb : (lawBody w.params).drop 11 = body
  generalize hs : (lawFn w.params).scope = sc
  conv at hb => lhs; whnf
  conv at hs => lhs; whnf
  subst hb hs
  k_steps
  refine Stop.off ?_
  k_dflt (refine LCg.ListComp_U (F₀ := by k_asm) (by with_unfolding_all rfl) (by decide) (by rfl) (by decide) (by rfl) ?_)
  k_steps
  rename sortedS _ = true => sortT
  rename List.Perm _ (allT ar bb (lastL ws)) => permT
  rename AllR (RowAt _) _ _ => rowsT
  rename List (Str × WantD) => STX
  rename (_, PySem.W.listOf _ _) ∈ _ => mT
  rename datOf _ = allT ar bb (lastL ws) => dtY
  rename TabC w _ _ _ => tcY
  have hnY : ((allT ar bb (lastL ws)).map (·.1)).Nodup := by rw [← dtY, ← keys_dat]; exact tcY.keys
  have lenT := rowsT.length
  have lenT2 := permT.length_eq
  have lenT3 := allT_len ar bb (lastL ws)
  k_dflt (refine LCg.CompSrc.ledger (by rfl) (by k_asm) (by k_asm) (by k_mem) (by rw [PySem.sizeLine_eq, List.size_toArray]; omega) ?_; intro g9)
  refine comp_turns (fun i news y => ∃ r, STX[i]? = some r ∧ Row4At news y r) (fun i R R' v hs hq => hq.imp fun r h => ⟨h.1, h.2.mono hs⟩) (fun i v I oI C oC D m₂ ys' h tk news E' hi hv hb hC hx F3 N3 off => ?_) ?_
  · obtain ⟨r, hr, a, tr, u1, u2, nr, rfl, har⟩ := allR_at rowsT (by simpa using hv)
    have har' := hb _ har
    k_steps
    rename_i D5 h5 F5 N5 l5
    exact comp_end_new F5 N5 l5 off (.inr ⟨_, List.mem_cons_of_mem _ (hb _ mT), rfl, _, rfl⟩) ⟨fun p hp => List.mem_cons_of_mem _ hp, r, hr, D5, tr, u1, _, rfl, List.mem_cons_self⟩
  · intro ys1 news1 hl1 hy1 hb1
    unfold LCg.FinE
    intro D1 h1 tk1 F4 N4 o4
    have R1 := rows4_of (S := STX) (by rw [hl1, List.size_toArray]; exact lenT) hy1
    have supA := Sup.mk hb1
    have mH1 : (lH, PySem.W.listOf vsH.toArray nH) ∈ news1 := by k_mem
    have supR1 : ∀ p ∈ R, p ∈ news1 := fun p hp => by k_mem
    k_steps
    refine Stop.off ?_
    k_dflt (refine LCg.ListComp_U (F₀ := by k_asm) (by with_unfolding_all rfl) (by decide) (by rfl) (by decide) (by rfl) ?_)
    k_steps
    k_dflt (refine LCg.CompSrc.ledger (by rfl) (by k_asm) (by k_asm) (List.mem_cons_of_mem _ mH1) (by rw [PySem.sizeLine_eq, List.size_toArray]; omega) ?_; intro g8)
    refine comp_turns (fun i news y => ∃ r, S[i]? = some r ∧ Row4At news y r) (fun i R R' v hs hq => hq.imp fun r h => ⟨h.1, h.2.mono hs⟩) (fun i v I oI C oC D m₂ ys' h tk news E' hi hv hb hC hx F3 N3 off => ?_) ?_
    · obtain ⟨r, hr, a, tr, u1, u2, nr, rfl, har⟩ := allR_at rowsH (by simpa using hv)
      have har' := hb _ (List.mem_cons_of_mem _ (supR1 _ har))
      k_steps
      rename_i D5 h5 F5 N5 l5
      exact comp_end_new F5 N5 l5 off (.inr ⟨_, List.mem_cons_of_mem _ (hb _ (List.mem_cons_of_mem _ mH1)), rfl, _, rfl⟩) ⟨fun p hp => List.mem_cons_of_mem _ hp, r, hr, D5, tr, u1, _, rfl, List.mem_cons_self⟩
    · intro ys2 news2 hl2 hy2 hb2
      unfold LCg.FinE
      intro D2 h2 tk2 F5 N5 o5
      have R2 := rows4_of (S := S) (by rw [hl2, List.size_toArray]; exact rowsH.length) hy2
      k_steps
      refine Stop.off ?_
      refine' rows4_ne ?N ?a ?b ?r1 ?r2 ?e ?s ?u ?_
      case N => k_asm
      case a => exact List.mem_cons_of_mem _ (hb2 _ List.mem_cons_self)
      case b => exact List.mem_cons_self
      case r1 => exact R1.mono fun v a h => h.mono fun p hp => List.mem_cons_of_mem _ (hb2 _ (List.mem_cons_of_mem _ hp))
      case r2 => exact R2.mono fun v a h => h.mono fun p hp => List.mem_cons_of_mem _ hp
      case e => exact rows4_one permH permT hn hnY sortH sortT
      case s => exact fun p hp => allT_strs tagW p (permH.mem_iff.mp hp)
      case u => first | ktr_units | exact Nat.le_of_ble_eq_true rfl
      have go2 : Go 2 := ⟨⟩
      k_steps
      refine Stop.off ?_
      exact S12 (fa := fa) (cd := cd) (E := E) G F5 N5 (fun s' m' R' a b c d => hQ s' m' R' a b c d) hE
end S11K
theorem S11 {w : World} {h₀ : Heap} {L fa l d dF lH lL : Addr} {cd : Value} {s : Shared} {ar bb : Bool} {t : Tok} {m : Str → Option Value} {xs ys : List Value} {ws : List Wi} {R : Led} {nY : Nat} {S : List (Str × WantD)} {Q : Flow → Shared → Prop} {E : Value → Shared → Prop} (G : Base w h₀) (W : WS w.params L l R xs ws) (HW : HS lH R S (allT ar bb ws)) (hn : ((allT ar bb ws).map (·.1)).Nodup) (hY : (lL, PySem.W.listOf ys.toArray nY) ∈ R) (WY : WishL w.params R ys (lastL ws)) (F : Fr h₀ L s.heap m) (N : News h₀ L s.heap R) (M : JF d dF lH ar bb t m) (mL : m (Str.ofString "last") = some (.ref lL)) (hQ : Ends h₀ L s Q) (hE : PassesOwn (model PG w) (lawA w L fa cd) (lawE w L fa cd) E) : Rest w 11 L fa cd Q E s :=
  skol (P := S11K.ClaimT) (c := S11K.tup) rfl (by with_unfolding_all exact S11K.core) (w, h₀, L, fa, l, d, dF, lH, lL, cd, s, ar, bb, t, m, xs, ys, ws, R, nY, S, Q, E) G W HW hn hY WY F N M mL hQ hE

end Mine
namespace Mine
local macro_rules | `(tactic| k_mem) => `(tactic| (refine Sup.mem (by assumption) ?_; k_mem))
local macro_rules | `(tactic| k_mem) => `(tactic| (refine List.mem_append_right _ ?_; k_mem))
local macro_rules | `(tactic| k_mem) => `(tactic| (refine List.mem_append_left _ ?_; k_mem))
local macro_rules | `(tactic| k_all) => `(tactic| assumption)
local macro_rules | `(tactic| k_mem) => `(tactic| assumption)
local macro_rules | `(tactic| walk_at "call ref") => `(tactic| (k_here; (with_reducible show wpAny _ _ (call (Value.ref 154) _) _ _ _); k_dflt (refine' Spec.use ?S ?k1 ?k2 ?k3 ?k4 ?k5 ?kK ?kd ?ku ?_; (case k1 => k_asm); (case k2 => k_asm); (case k3 => k_asm); (case k4 => k_asm); (case k5 => k_asm); (case kK => exact rfl); (case S => refine' all_ok (by k_mem) (by exact WishL.mono (by assumption) (fun p hp => by k_mem)) (by assumption) (by assumption)); (case kd => ktr_room); (case ku => ktr_units); k_whole); intro r9 h9 tk9 n9 F9 N9 P9; obtain ⟨dA, TA, cA, e91, e92, tcA, otA, dtA⟩ := P9; subst e91; subst e92; (try dsimp only)))
local macro_rules | `(tactic| walk_at "call ref") => `(tactic| (k_here; (with_reducible show wpAny _ _ (call (Value.ref 172) _) _ _ _); k_dflt (refine' Spec.use ?S ?k1 ?k2 ?k3 ?k4 ?k5 ?kK ?kd ?ku ?_; (case k1 => k_asm); (case k2 => k_asm); (case k3 => k_asm); (case k4 => k_asm); (case k5 => k_asm); (case kK => exact rfl); (case S => refine' told_use (by exact TabC.mono (by assumption) (fun p hp => by k_mem)) (by assumption) (by exact Nat.lt_of_le_of_lt (allT_len _ _ _) (by omega))); (case kd => ktr_room); (case ku => ktr_units); k_whole); intro r9 h9 tk9 n9 F9 N9 P9; obtain ⟨supT, lT, vT, nT, ST, e9, mT, rowsT, permT, sortT⟩ := P9; subst e9; (try dsimp only)))
local macro_rules | `(tactic| walk_at "pyIter ref") => `(tactic| refine Stop.on ?_)
local macro_rules | `(tactic| walk_at "exec For") => `(tactic| (k_here; k_dflt (refine wpAny_For ?_)))
local macro_rules | `(tactic| walk_at "exec For Name Call cons nil") => `(tactic| (k_here; k_dflt (refine wpAny_For ?_)))
local macro_rules | `(tactic| walk_at "call type:range") => `(tactic| (k_here; (with_reducible show wpAny _ _ (call (Value.type "range") [Value.int _ _]) _ _ _); k_dflt (refine' range_led (by k_asm) (by k_asm) ?_; k_whole); intro D9 h9 tk9 t91 t92 t93 F9 N9 l9; (try k_lt l9); (try k_sweep)))
local macro_rules | `(tactic| walk_at "call builtin:len") => `(tactic| (k_here; (with_reducible show wpAny _ _ (call (Value.builtin _) [Value.ref _]) _ _ _); k_dflt (refine' len_list (by k_asm) (by k_mem) (by assumption) ?_; k_whole)))
local macro_rules | `(tactic| walk_at "subscriptTail") => `(tactic| (k_here; (with_reducible show wpAny _ _ (subscriptTail _ _ (Value.ref _) (Value.int _ _)) _ _ _); k_dflt (refine' at_list (by k_asm) (by k_mem) (by assumption) (by assumption) ?_ (by with_unfolding_all rfl); k_whole)))

local macro_rules | `(tactic| walk_at "exec For Name Call cons cons") => `(tactic| (k_here; refine wpAny_For ?_))
local macro_rules | `(tactic| walk_at "exec For Name Call") => `(tactic| (k_here; refine wpAny_For ?_))
local macro_rules | `(tactic| walk_at "call ref") => `(tactic| (k_here; (with_reducible show wpAny _ _ (call (Value.ref 147) _) _ _ _); k_dflt (refine' Spec.use (first_ok _ _) (by k_asm) (by k_asm) (by k_asm) (by k_asm) (by k_asm) (by exact rfl) (by ktr_room) (by ktr_units) ?_; k_whole); intro r9 h9 tk9 n9 F9 N9 P9; obtain ⟨dF, TF, cF, e91, e92, tcF, otF, dtF⟩ := P9; subst e91; subst e92; (try dsimp only)))
local macro_rules | `(tactic| walk_at "call builtin:sorted") => `(tactic| (k_here; (with_reducible show wpAny _ _ (call (Value.builtin "sorted") [Value.ref _]) _ _ _); k_dflt (refine' sorted_dict (by rfl) (by k_asm) (by k_asm) (by k_mem) (by k_asm) (by k_asm) (by k_asm) ?_; k_whole); intro D9 h9 tk9 vs9 ss9 e9 F9 N9 l9 S9 P9 O9))

local macro_rules | `(tactic| walk_at "eval ListComp") => `(tactic| refine Stop.on ?_)
local macro_rules | `(tactic| walk_at "exec Assign cons ListComp") => `(tactic| refine Stop.on ?_)
local macro_rules | `(tactic| walk_at "compareOp In str ref") => `(tactic| (k_here; (with_reducible show wpAny _ _ (compareOp CmpOp.In (Value.str _ _) (Value.ref _)) _ _ _); k_dflt (first
  | (refine' in_new (by k_asm) (by k_mem) (by k_asm) (by k_asm) (by k_asm) ?_; k_whole)
  | (refine' in_there (by k_asm) (by k_mem) (by k_asm) (by k_asm) (by k_asm) ?_; k_whole))))
local macro_rules | `(tactic| walk_at "subscriptTail") => `(tactic| (k_here; (with_reducible show wpAny _ _ (subscriptTail _ _ (Value.ref _) (Value.str _ _)) _ _ _); k_dflt (refine' item_there (by k_asm) (by k_mem) (by k_asm) (by k_asm) ?_ (by with_unfolding_all rfl) (by intro _; with_unfolding_all rfl); k_whole)))
local macro_rules | `(tactic| walk_at "subscriptTail Name Slice ref ref") => `(tactic| (k_here; (with_reducible show wpAny _ _ (subscriptTail _ (PySem.Expr.Slice none (some _) none _) (Value.ref _) (Value.ref _)) _ _ _); k_dflt (refine' kmk_slice_lit (by k_asm) (by k_asm) (by exact News.isList (by k_asm) (by k_mem)) (by exact IsPart.none) (by exact IsPart.int _ _) (upto_any (by omega)) ?_ (by with_unfolding_all rfl) (by kmk_pure) (by (rw [PySem.sizeLine_eq, List.size_toArray]; omega))); intro D' h' F' N' l1; (try k_lt l1); (try k_sweep)))
local macro_rules | `(tactic| walk_at "subscriptTail Name Slice ref ref") => `(tactic| (k_here; (with_reducible show wpAny _ _ (subscriptTail _ (PySem.Expr.Slice (some _) none none _) (Value.ref _) (Value.ref _)) _ _ _); k_dflt (refine' kmk_slice_lit (by k_asm) (by k_asm) (by exact News.isList (by k_asm) (by k_mem)) (by exact IsPart.int _ _) (by exact IsPart.none) (from_any (by omega)) ?_ (by with_unfolding_all rfl) (by kmk_pure) (by (rw [PySem.sizeLine_eq, List.size_toArray]; omega))); intro D' h' F' N' l1; (try k_lt l1); (try k_sweep)))
local macro_rules | `(tactic| walk_at "call type:enumerate") => `(tactic| refine Stop.on ?_)
local macro_rules | `(tactic| walk_at "execs cons") => `(tactic| (k_here; (with_reducible rename Go 2 => hGo9); refine Stop.on ?_))
namespace S10K
abbrev Claim (w : World) (h₀ : Heap) (L : Addr) (fa : Addr) (l : Addr) (d : Addr) (dF : Addr) (lH : Addr) (cd : Value) (s : Shared) (ar : Bool) (bb : Bool) (t : Tok) (m : Str → Option Value) (xs : List Value) (ws : List Wi) (R : Led) (S : List (Str × WantD)) (Q : Flow → Shared → Prop) (E : Value → Shared → Prop) : Prop :=
  ∀ (G : Base w h₀) (W : WS w.params L l R xs ws) (HW : HS lH R S (allT ar bb ws)) (hn : ((allT ar bb ws).map (·.1)).Nodup) (F : Fr h₀ L s.heap m) (N : News h₀ L s.heap R) (M : JF d dF lH ar bb t m) (hQ : Ends h₀ L s Q) (hE : PassesOwn (model PG w) (lawA w L fa cd) (lawE w L fa cd) E), Rest w 10 L fa cd Q E s
abbrev ClaimT (p : (World) × (Heap) × (Addr) × (Addr) × (Addr) × (Addr) × (Addr) × (Addr) × (Value) × (Shared) × (Bool) × (Bool) × (Tok) × (Str → Option Value) × (List Value) × (List Wi) × (Led) × (List (Str × WantD)) × (Flow → Shared → Prop) × (Value → Shared → Prop)) : Prop := Claim (p.1) (p.2.1) (p.2.2.1) (p.2.2.2.1) (p.2.2.2.2.1) (p.2.2.2.2.2.1) (p.2.2.2.2.2.2.1) (p.2.2.2.2.2.2.2.1) (p.2.2.2.2.2.2.2.2.1) (p.2.2.2.2.2.2.2.2.2.1) (p.2.2.2.2.2.2.2.2.2.2.1) (p.2.2.2.2.2.2.2.2.2.2.2.1) (p.2.2.2.2.2.2.2.2.2.2.2.2.1) (p.2.2.2.2.2.2.2.2.2.2.2.2.2.1) (p.2.2.2.2.2.2.2.2.2.2.2.2.2.2.1) (p.2.2.2.2.2.2.2.2.2.2.2.2.2.2.2.1) (p.2.2.2.2.2.2.2.2.2.2.2.2.2.2.2.2.1) (p.2.2.2.2.2.2.2.2.2.2.2.2.2.2.2.2.2.1) (p.2.2.2.2.2.2.2.2.2.2.2.2.2.2.2.2.2.2.1) (p.2.2.2.2.2.2.2.2.2.2.2.2.2.2.2.2.2.2.2)
theorem some_tup : Nonempty ((World) × (Heap) × (Addr) × (Addr) × (Addr) × (Addr) × (Addr) × (Addr) × (Value) × (Shared) × (Bool) × (Bool) × (Tok) × (Str → Option Value) × (List Value) × (List Wi) × (Led) × (List (Str × WantD)) × (Flow → Shared → Prop) × (Value → Shared → Prop)) := some_pair some_world (some_pair inferInstance (some_pair inferInstance (some_pair inferInstance (some_pair inferInstance (some_pair inferInstance (some_pair inferInstance (some_pair inferInstance (some_pair inferInstance (some_pair some_shared (some_pair inferInstance (some_pair inferInstance (some_pair inferInstance (some_pair inferInstance (some_pair inferInstance (some_pair inferInstance (some_pair inferInstance (some_pair inferInstance (some_pair inferInstance (inferInstance)))))))))))))))))))
noncomputable def tup : (World) × (Heap) × (Addr) × (Addr) × (Addr) × (Addr) × (Addr) × (Addr) × (Value) × (Shared) × (Bool) × (Bool) × (Tok) × (Str → Option Value) × (List Value) × (List Wi) × (Led) × (List (Str × WantD)) × (Flow → Shared → Prop) × (Value → Shared → Prop) := @Classical.epsilon _ some_tup fun p => ¬ ClaimT p
@[irreducible] noncomputable def w : World := tup.1
@[irreducible] noncomputable def h₀ : Heap := tup.2.1
@[irreducible] noncomputable def L : Addr := tup.2.2.1
@[irreducible] noncomputable def fa : Addr := tup.2.2.2.1
@[irreducible] noncomputable def l : Addr := tup.2.2.2.2.1
@[irreducible] noncomputable def d : Addr := tup.2.2.2.2.2.1
@[irreducible] noncomputable def dF : Addr := tup.2.2.2.2.2.2.1
@[irreducible] noncomputable def lH : Addr := tup.2.2.2.2.2.2.2.1
@[irreducible] noncomputable def cd : Value := tup.2.2.2.2.2.2.2.2.1
@[irreducible] noncomputable def s : Shared := tup.2.2.2.2.2.2.2.2.2.1
@[irreducible] noncomputable def ar : Bool := tup.2.2.2.2.2.2.2.2.2.2.1
@[irreducible] noncomputable def bb : Bool := tup.2.2.2.2.2.2.2.2.2.2.2.1
@[irreducible] noncomputable def t : Tok := tup.2.2.2.2.2.2.2.2.2.2.2.2.1
@[irreducible] noncomputable def m : Str → Option Value := tup.2.2.2.2.2.2.2.2.2.2.2.2.2.1
@[irreducible] noncomputable def xs : List Value := tup.2.2.2.2.2.2.2.2.2.2.2.2.2.2.1
@[irreducible] noncomputable def ws : List Wi := tup.2.2.2.2.2.2.2.2.2.2.2.2.2.2.2.1
@[irreducible] noncomputable def R : Led := tup.2.2.2.2.2.2.2.2.2.2.2.2.2.2.2.2.1
@[irreducible] noncomputable def S : List (Str × WantD) := tup.2.2.2.2.2.2.2.2.2.2.2.2.2.2.2.2.2.1
@[irreducible] noncomputable def Q : Flow → Shared → Prop := tup.2.2.2.2.2.2.2.2.2.2.2.2.2.2.2.2.2.2.1
@[irreducible] noncomputable def E : Value → Shared → Prop := tup.2.2.2.2.2.2.2.2.2.2.2.2.2.2.2.2.2.2.2
theorem core : Claim w h₀ L fa l d dF lH cd s ar bb t m xs ws R S Q E := by
  w_top off
  intro G W HW hn F N M hQ hE
  have B := G.B
  have X := G.X
  obtain ⟨loose, mean, mg, mb, T⟩ := G.T
  obtain ⟨oc1, d1, mc1⟩ := W.c1
  obtain ⟨nl, ml⟩ := W.lst
  have hw := W.w
  have len6 := W.len
  have xlen : xs.length ≤ 1000 := by rw [hw.length]; omega
  replace F := fr_overs [(Str.ofString "first", .ref dF), (Str.ofString "wants", .ref d), (Str.ofString "held", .ref lH), (Str.ofString "tag", .str (scr ar) t), (Str.ofString "is_backward", .bool bb)] F (by simp only [List.forall_mem_cons]; exact ⟨M.f, M.w, M.h, M.t, M.b, fun _ h => nomatch h⟩)
  dsimp only [overs] at F
  unfold Rest lawA lawE
  generalize hb : (lawBody w.params).drop 10 = body
  generalize hs : (lawFn w.params).scope = sc
  conv at hb => lhs; whnf
  conv at hs => lhs; whnf
  subst hb hs
  k_steps
  refine Stop.off ?_
  k_dflt (refine Assign_E (by k_asm) (by rfl) (by with_unfolding_all rfl) (by with_unfolding_all rfl) (by rfl) (by rfl) ?_)
  k_steps
  refine Stop.off ?_
  k_dflt (refine enum_led (by k_asm) (by k_asm) ml ?_)
  intro e it h' hE' hI' hei F1 N1 heL hiL he0 hi0 off1
  refine ⟨e, it, l, xs, nl, R, fun i ys news' => WishL w.params R ys (kp ws i) ∧ Sup R news', rfl, rfl, xlen, hE', hI', hei, ml, F1, N1, heL, hiL, he0, hi0, off1, ⟨by rw [kp_zero]; exact .nil, ⟨fun _ h => h⟩⟩, ?_, ?_⟩
  · intro i x t' cw C D oe oi oc oC m₂ ys h tk news' E' hx hJ hC hat hoc F3 N3 off hsrc AP
    obtain ⟨hys, sup2⟩ := hJ
    obtain ⟨wi, hwi, a, ax, t1, t2, t3, t4, u1, u2, u3, u4, rfl, ha, hax⟩ := hw.at hx
    have ha' : (a, instObj 100 ax) ∈ news' := sup2.h _ ha
    have hax' := sup2.h _ hax
    have hc1 := sup2.h _ mc1
    have hax0 := hax
    clear hax
    cases hwh : wi.whole
    · simp only [hwh, if_true, if_false, Bool.false_eq_true] at hax'
      k_steps
      rename News _ _ _ _ => N5
      rename Fr _ _ _ _ => F5
      refine ⟨_, _, _, _, _, rfl, F5, N5, off, hoc, hsrc, ?_, sup2⟩
      rw [kp_succ ws i wi hwi, if_pos (by unfold keepB; rw [hwh]; rfl)]
      exact hys.append (.cons ⟨a, ax, t1, t2, t3, t4, u1, u2, u3, u4, rfl, ha, hax0⟩ .nil)
    · simp only [hwh, if_true, if_false, Bool.false_eq_true] at hax'
      k_steps
      refine Stop.off ?_
      k_dflt (refine LCt.ListComp_T (F₀ := by k_asm) (by with_unfolding_all rfl) (by decide) (by rfl) (by decide) (by rfl) ?_)
      k_steps
      rename_i DS hS FS NS lS
      have hwd := hw.drop (i + 1)
      have hlen : ((ws.drop (i + 1)).length) = (xs.drop (i + 1)).length := hwd.length.symm
      k_dflt (refine LCt.CompSrcT.ledger (by rfl) (by k_asm) (by k_asm) List.mem_cons_self (by rw [PySem.sizeLine_eq, List.size_toArray, List.length_drop]; omega) ?_; intro g9)
      refine compT (fun j zs news2 => zs.length = (((ws.drop (i + 1)).take j).filter fun l => l.tag == wi.tag && l.whole).length ∧ Sup ((DS, PySem.W.listOf (List.drop ((i : Int) + 1).toNat xs).toArray 0) :: (e, oe) :: (it, oi) :: (cw, oc) :: (C, oC) :: (D, LCg.lst ys) :: news') news2) (fun i' v I' oI' C' oC' D2 m3 zs h3 tk3 news2 E2 hi' hv hJ2 hC' hx' F4 N4 off4 ne4 => ?_) ?_ _ 0 [] _ (Nat.zero_add _) ⟨rfl, ⟨fun _ h => h⟩⟩
      · obtain ⟨hz, sup3⟩ := hJ2
        have hv' : (xs.drop (i + 1))[i']? = some v := by
          have e1 : ((i : Int) + 1).toNat = i + 1 := by omega
          rw [e1] at hv
          simpa using hv
        obtain ⟨wl, hwl, b, bx, s1, s2, s3, s4, s5, s6, s7, s8, rfl, hb', hbx⟩ := hwd.at hv'
        have up : ∀ p ∈ news', p ∈ news2 := fun p hp => sup3.h _ (List.mem_cons_of_mem _ (List.mem_cons_of_mem _ (List.mem_cons_of_mem _ (List.mem_cons_of_mem _ (List.mem_cons_of_mem _ (List.mem_cons_of_mem _ hp))))))
        have hb2 : (b, instObj 100 bx) ∈ news2 := up _ (sup2.h _ hb')
        have hbx2 := up _ (sup2.h _ hbx)
        have ha2 : (a, instObj 100 ax) ∈ news2 := up _ ha'
        have hax2 := up _ hax'
        have hcw2 : (cw, oc) ∈ news2 := sup3.h _ (List.mem_cons_of_mem _ (List.mem_cons_of_mem _ (List.mem_cons_of_mem _ List.mem_cons_self)))
        have hsrc2 := sup3.h _ List.mem_cons_self
        clear hbx
        cases hwh2 : wl.whole
        all_goals
          simp only [hwh2, if_true, if_false, Bool.false_eq_true] at hbx2
          k_steps
          all_goals
            rename News _ _ _ _ => N5
            rename Fr _ _ _ _ => F5
            refine comp_end_same F5 N5 off4 (.inr ⟨_, hsrc2, rfl, _, rfl⟩) ⟨?_, sup3⟩
            rw [take_next hwl, List.filter_append]
            simp only [List.length_append]
            rw [← hz]
            simp only [List.filter_cons, List.filter_nil, hwh2, Bool.and_true, Bool.and_false, Bool.false_eq_true, if_false]
            first
              | (simp_all; done)

      · rintro zs news2 ⟨hz, sup3⟩
        unfold LCg.FinE
        intro D2 h3 tk3 F4 N4 off4
        rw [List.size_toArray, show ((i : Int) + 1).toNat = i + 1 by omega, ← hlen, List.take_length] at hz
        have hzl : zs.length ≤ 6 := by
          have h1 := List.length_filter_le (fun l : Wi => l.tag == wi.tag && l.whole) (ws.drop (i + 1))
          rw [List.length_drop] at h1
          omega
        refine wpAny_truthy_list (News.isList N4 List.mem_cons_self) (by rw [List.size_toArray]; omega) ?_
        by_cases he0 : zs = []
        · subst he0
          have hk : keepB wi (ws.drop (i + 1)) = true := by
            have h1 := List.length_eq_zero_iff.mp hz.symm
            unfold keepB
            rw [hwh, Bool.not_true, Bool.false_or, Bool.not_eq_true', List.any_eq_false]
            intro x hx' hq
            have h2 := List.filter_eq_nil_iff.mp h1 x hx'
            exact h2 hq
          simp only [List.isEmpty_toArray, List.isEmpty_nil, Bool.not_true, Bool.not_false, if_true]
          have hcw2 : (cw, oc) ∈ news2 := sup3.h _ (List.mem_cons_of_mem _ (List.mem_cons_of_mem _ (List.mem_cons_of_mem _ List.mem_cons_self)))
          k_steps
          rename News _ _ _ _ => N5
          rename Fr _ _ _ _ => F5
          refine ⟨_, _, oc, _, news', rfl, F5, news_sub N5 (fun p hp => List.mem_cons_of_mem _ (sup3.h _ (List.mem_cons_of_mem _ hp))), off, hoc, hsrc, ?_, sup2⟩
          rw [kp_succ ws i wi hwi, if_pos hk]
          exact hys.append (.cons ⟨a, ax, t1, t2, t3, t4, u1, u2, u3, u4, rfl, ha, hax0⟩ .nil)
        · have hk : ¬ keepB wi (ws.drop (i + 1)) = true := by
            have h1 : ((ws.drop (i + 1)).filter fun l => l.tag == wi.tag && l.whole) ≠ [] := fun q => he0 (List.length_eq_zero_iff.mp (by rw [hz, q]; rfl))
            unfold keepB
            rw [hwh, Bool.not_true, Bool.false_or, Bool.not_eq_true', List.any_eq_false]
            intro q
            exact h1 (List.filter_eq_nil_iff.mpr q)
          have he1 : zs.toArray.isEmpty = false := by
            cases zs with
            | nil => exact absurd rfl he0
            | cons _ _ => rfl
          rw [he1]
          simp only [Bool.not_true, Bool.not_false, Bool.false_eq_true, if_false]
          k_steps
          refine ⟨_, _, oc, _, news', rfl, F4, news_sub N4 (fun p hp => List.mem_cons_of_mem _ (sup3.h _ (List.mem_cons_of_mem _ hp))), off, hoc, hsrc, ?_, sup2⟩
          rw [kp_succ ws i wi hwi, if_neg hk, List.append_nil]
          exact hys
  · rintro ys news' ⟨hys, sup2⟩
    rw [hw.length, kp_all] at hys
    unfold LCg.FinA
    intro D1 h1 tk1 F5 N5 off5
    have go2 : Go 2 := ⟨⟩
    k_steps
    refine Stop.off ?_
    have supR : Sup R _ := sup_in N5 (fun p hp => by k_mem)
    exact S11 (fa := fa) (cd := cd) (E := E) (nY := ys.length) G (W.mono supR) (HW.mono supR) hn List.mem_cons_self (hys.mono supR.h) F5 N5 ⟨rfl, rfl, rfl, rfl, rfl⟩ rfl (fun s' m' R' a b c d => hQ s' m' R' a b c d) hE
end S10K
theorem S10 {w : World} {h₀ : Heap} {L fa l d dF lH : Addr} {cd : Value} {s : Shared} {ar bb : Bool} {t : Tok} {m : Str → Option Value} {xs : List Value} {ws : List Wi} {R : Led} {S : List (Str × WantD)} {Q : Flow → Shared → Prop} {E : Value → Shared → Prop} (G : Base w h₀) (W : WS w.params L l R xs ws) (HW : HS lH R S (allT ar bb ws)) (hn : ((allT ar bb ws).map (·.1)).Nodup) (F : Fr h₀ L s.heap m) (N : News h₀ L s.heap R) (M : JF d dF lH ar bb t m) (hQ : Ends h₀ L s Q) (hE : PassesOwn (model PG w) (lawA w L fa cd) (lawE w L fa cd) E) : Rest w 10 L fa cd Q E s :=
  skol (P := S10K.ClaimT) (c := S10K.tup) rfl (by with_unfolding_all exact S10K.core) (w, h₀, L, fa, l, d, dF, lH, cd, s, ar, bb, t, m, xs, ws, R, S, Q, E) G W HW hn F N M hQ hE

end Mine
namespace Mine
local macro_rules | `(tactic| k_mem) => `(tactic| (refine Sup.mem (by assumption) ?_; k_mem))
local macro_rules | `(tactic| k_mem) => `(tactic| (refine List.mem_append_right _ ?_; k_mem))
local macro_rules | `(tactic| k_mem) => `(tactic| (refine List.mem_append_left _ ?_; k_mem))
local macro_rules | `(tactic| k_all) => `(tactic| assumption)
local macro_rules | `(tactic| k_mem) => `(tactic| assumption)
local macro_rules | `(tactic| walk_at "call ref") => `(tactic| (k_here; (with_reducible show wpAny _ _ (call (Value.ref 154) _) _ _ _); k_dflt (refine' Spec.use ?S ?k1 ?k2 ?k3 ?k4 ?k5 ?kK ?kd ?ku ?_; (case k1 => k_asm); (case k2 => k_asm); (case k3 => k_asm); (case k4 => k_asm); (case k5 => k_asm); (case kK => exact rfl); (case S => refine' all_ok (by k_mem) (by exact WishL.mono (by assumption) (fun p hp => by k_mem)) (by assumption) (by assumption)); (case kd => ktr_room); (case ku => ktr_units); k_whole); intro r9 h9 tk9 n9 F9 N9 P9; obtain ⟨dA, TA, cA, e91, e92, tcA, otA, dtA⟩ := P9; subst e91; subst e92; (try dsimp only)))
local macro_rules | `(tactic| walk_at "call ref") => `(tactic| (k_here; (with_reducible show wpAny _ _ (call (Value.ref 172) _) _ _ _); k_dflt (refine' Spec.use ?S ?k1 ?k2 ?k3 ?k4 ?k5 ?kK ?kd ?ku ?_; (case k1 => k_asm); (case k2 => k_asm); (case k3 => k_asm); (case k4 => k_asm); (case k5 => k_asm); (case kK => exact rfl); (case S => refine' told_use (by exact TabC.mono (by assumption) (fun p hp => by k_mem)) (by assumption) (by exact Nat.lt_of_le_of_lt (allT_len _ _ _) (by omega))); (case kd => ktr_room); (case ku => ktr_units); k_whole); intro r9 h9 tk9 n9 F9 N9 P9; obtain ⟨supT, lT, vT, nT, ST, e9, mT, rowsT, permT, sortT⟩ := P9; subst e9; (try dsimp only)))
local macro_rules | `(tactic| walk_at "pyIter ref") => `(tactic| refine Stop.on ?_)
local macro_rules | `(tactic| walk_at "exec For") => `(tactic| (k_here; k_dflt (refine wpAny_For ?_)))
local macro_rules | `(tactic| walk_at "exec For Name Call cons nil") => `(tactic| (k_here; k_dflt (refine wpAny_For ?_)))
local macro_rules | `(tactic| walk_at "call type:range") => `(tactic| (k_here; (with_reducible show wpAny _ _ (call (Value.type "range") [Value.int _ _]) _ _ _); k_dflt (refine' range_led (by k_asm) (by k_asm) ?_; k_whole); intro D9 h9 tk9 t91 t92 t93 F9 N9 l9; (try k_lt l9); (try k_sweep)))
local macro_rules | `(tactic| walk_at "call builtin:len") => `(tactic| (k_here; (with_reducible show wpAny _ _ (call (Value.builtin _) [Value.ref _]) _ _ _); k_dflt (refine' len_list (by k_asm) (by k_mem) (by assumption) ?_; k_whole)))
local macro_rules | `(tactic| walk_at "subscriptTail") => `(tactic| (k_here; (with_reducible show wpAny _ _ (subscriptTail _ _ (Value.ref _) (Value.int _ _)) _ _ _); k_dflt (refine' at_list (by k_asm) (by k_mem) (by assumption) (by assumption) ?_ (by with_unfolding_all rfl); k_whole)))

local macro_rules | `(tactic| walk_at "exec For Name Call cons cons") => `(tactic| (k_here; refine wpAny_For ?_))
local macro_rules | `(tactic| walk_at "exec For Name Call") => `(tactic| (k_here; refine wpAny_For ?_))
local macro_rules | `(tactic| walk_at "call ref") => `(tactic| (k_here; (with_reducible show wpAny _ _ (call (Value.ref 147) _) _ _ _); k_dflt (refine' Spec.use (first_ok _ _) (by k_asm) (by k_asm) (by k_asm) (by k_asm) (by k_asm) (by exact rfl) (by ktr_room) (by ktr_units) ?_; k_whole); intro r9 h9 tk9 n9 F9 N9 P9; obtain ⟨dF, TF, cF, e91, e92, tcF, otF, dtF⟩ := P9; subst e91; subst e92; (try dsimp only)))
local macro_rules | `(tactic| walk_at "call builtin:sorted") => `(tactic| (k_here; (with_reducible show wpAny _ _ (call (Value.builtin "sorted") [Value.ref _]) _ _ _); k_dflt (refine' sorted_dict (by rfl) (by k_asm) (by k_asm) (by k_mem) (by k_asm) (by k_asm) (by k_asm) ?_; k_whole); intro D9 h9 tk9 vs9 ss9 e9 F9 N9 l9 S9 P9 O9))

local macro_rules | `(tactic| walk_at "eval ListComp") => `(tactic| refine Stop.on ?_)
local macro_rules | `(tactic| walk_at "exec Assign cons ListComp") => `(tactic| refine Stop.on ?_)
local macro_rules | `(tactic| walk_at "compareOp In str ref") => `(tactic| (k_here; (with_reducible show wpAny _ _ (compareOp CmpOp.In (Value.str _ _) (Value.ref _)) _ _ _); k_dflt (first
  | (refine' in_new (by k_asm) (by k_mem) (by k_asm) (by k_asm) (by k_asm) ?_; k_whole)
  | (refine' in_there (by k_asm) (by k_mem) (by k_asm) (by k_asm) (by k_asm) ?_; k_whole))))
local macro_rules | `(tactic| walk_at "subscriptTail") => `(tactic| (k_here; (with_reducible show wpAny _ _ (subscriptTail _ _ (Value.ref _) (Value.str _ _)) _ _ _); k_dflt (refine' item_there (by k_asm) (by k_mem) (by k_asm) (by k_asm) ?_ (by with_unfolding_all rfl) (by intro _; with_unfolding_all rfl); k_whole)))
local macro_rules | `(tactic| walk_at "call builtin:sorted") => `(tactic| (k_here; (with_reducible show wpAny _ _ (call (Value.builtin "sorted") [Value.ref _]) _ _ _); k_dflt (refine' sorted_set ?k0 ?k1 ?k2 ?k3 ?k4 ?k5 ?k6 ?_; (case k0 => rfl); (case k1 => k_asm); (case k2 => k_asm); (case k4 => assumption); (case k3 => k_mem); (case k5 => k_asm); (case k6 => k_asm); k_whole); intro D9 h9 tk9 dr9 vs9 ss9 e9 F9 N9 l9 S9 P9 O9))
local macro_rules | `(tactic| walk_at "call type:list") => `(tactic| (k_here; (with_reducible show wpAny _ _ (call (Value.type "list") [Value.ref _]) _ _ _); k_dflt (refine' list_dict ?k0 ?k1 ?k2 ?k3 ?k4 ?k5 ?k6 ?_; (case k0 => rfl); (case k1 => k_asm); (case k2 => k_asm); (case k4 => k_asm); (case k3 => k_mem); (case k5 => k_asm); (case k6 => k_asm); k_whole); intro D9 c9 h9 tk9 vs9 F9 N9 l9 S9))
local macro_rules | `(tactic| walk_at "call type:set cons nil") => `(tactic| (k_here; (with_reducible show wpAny _ _ (call (Value.type "set") [Value.ref _]) _ _ _); k_dflt (refine' set_led (by rfl) (by k_asm) (by k_asm) (by k_mem) (by exact StrsAre.append (by assumption) (by assumption)) (by first | omega | (simp only [List.length_append]; omega)) ?_; k_whole); intro a9 o9 h9 tk9 F9 N9 So9 l9))
local macro_rules | `(tactic| walk_at "binaryOp Add ref ref") => `(tactic| (k_here; (with_reducible show wpAny _ _ (binaryOp _ (Value.ref _) (Value.ref _)) _ _ _); k_dflt (refine' cat_lists (by k_asm) (by k_asm) (by k_mem) (by k_mem) (by omega) (by omega) ?_); intro D' h' F' N' l1; (try k_lt l1); (try k_sweep)))
local macro_rules | `(tactic| walk_at "compareOp NotEq ref ref") => `(tactic| refine Stop.on ?_)
local macro_rules | `(tactic| walk_at "execs cons") => `(tactic| (k_here; (with_reducible rename Go 2 => hGo9); refine Stop.on ?_))
theorem strs_of_turns {own : List Wi} {vs : List Value} (hl : vs.length = own.length) (h : ∀ (i : Nat) y, vs[i]? = some y → ∃ wi tok, own[i]? = some wi ∧ y = .str wi.tag tok) : StrsAre vs (own.map (·.tag)) := by
  induction vs generalizing own with
  | nil => cases own with
    | nil => exact .nil
    | cons _ _ => simp at hl
  | cons v r ih => cases own with
    | nil => simp at hl
    | cons a o =>
      obtain ⟨wi, tok, e1, rfl⟩ := h 0 v rfl
      have e : a = wi := Option.some.inj (by simpa using e1)
      subst e
      exact .cons _ _ (ih (by simpa using hl) fun i y hy => by simpa using h (i + 1) y (by simpa using hy))
theorem foldT_ge (ws : List Wi) : ∀ T : List (Str × WantD), T.length ≤ (ws.foldl stepT T).length := by
  induction ws with
  | nil => intro T; exact Nat.le_refl _
  | cons x r ih =>
    intro T
    refine Nat.le_trans ?_ (ih (stepT T x))
    rw [stepT_eq, List.length_map]
    unfold addT
    split
    · exact Nat.le_refl _
    · rw [List.length_append]; exact Nat.le_add_right _ _
theorem allT_two (ar bb : Bool) (ws : List Wi) : 1 < (allT ar bb ws).length := by
  refine Nat.lt_of_lt_of_le ?_ (foldT_ge ws (firstT ar bb))
  cases ar <;> cases bb <;> decide
theorem S9 {w : World} {h₀ : Heap} {L fa l d dF lH : Addr} {cd : Value} {s : Shared} {ar bb : Bool} {t : Tok} {m : Str → Option Value} {xs : List Value} {ws : List Wi} {R : Led} {S : List (Str × WantD)} {Q : Flow → Shared → Prop} {E : Value → Shared → Prop}
    (G : Base w h₀) (W : WS w.params L l R xs ws) (C : NameC L R) (TW : TS w d R (allT ar bb ws)) (FW : TS w dF R (firstT ar bb)) (HW : HS lH R S (allT ar bb ws))
    (F : Fr h₀ L s.heap m) (N : News h₀ L s.heap R) (M : JF d dF lH ar bb t m)
    (hQ : Ends h₀ L s Q) (hE : PassesOwn (model PG w) (lawA w L fa cd) (lawE w L fa cd) E) : Rest w 9 L fa cd Q E s := by
  w_top off
  have B := G.B
  have X := G.X
  obtain ⟨loose, mean, mg, mb, T⟩ := G.T
  obtain ⟨o1, d1, mc1⟩ := W.c1
  obtain ⟨nl, ml⟩ := W.lst
  have hw := W.w
  have len6 := W.len
  have xlen : xs.length ≤ 1000 := by rw [hw.length]; omega
  obtain ⟨csW, tcW, dtW⟩ := TW.tab
  obtain ⟨oW, hoW, hdW⟩ := tcW.od
  have loW := tcW.lo
  obtain ⟨csF, tcF, dtF⟩ := FW.tab
  obtain ⟨oF, hoF, hdF⟩ := tcF.od
  have loF := tcF.lo
  have lenF : csF.length ≤ 30 := by rw [len_of dtF]; exact firstT_len ar bb
  have szF : (kvsOf csF).length < 64 := by unfold kvsOf; rw [List.length_map]; omega
  have szW : (kvsOf csW).length < 64 := by
    have h1 := allT_len ar bb ws
    have h2 := len_of dtW
    unfold kvsOf; rw [List.length_map]; omega
  replace F := fr_overs [(Str.ofString "first", .ref dF), (Str.ofString "wants", .ref d), (Str.ofString "held", .ref lH), (Str.ofString "tag", .str (scr ar) t), (Str.ofString "is_backward", .bool bb)] F (by simp only [List.forall_mem_cons]; exact ⟨M.f, M.w, M.h, M.t, M.b, fun _ h => nomatch h⟩)
  dsimp only [overs] at F
  unfold Rest lawA lawE
  generalize hb : (lawBody w.params).drop 9 = body
  generalize hs : (lawFn w.params).scope = sc
  conv at hb => lhs; whnf
  conv at hs => lhs; whnf
  subst hb hs
  k_steps
  refine Stop.off ?_
  rename sortedS _ = true => Oa
  rename List.Perm _ (List.map _ (kvsOf csW)) => Pa
  rename StrsAre _ _ => Sf
  revert Sf
  rename StrsAre _ _ => Sa
  intro Sf
  have lenf := Sf.length
  rw [List.length_map] at lenf
  have lena := Sa.length
  have nW : ((allT ar bb ws).map (·.1)).Nodup := by rw [← dtW, ← keys_dat]; exact tcW.keys
  have hPa := Pa
  rw [kvs_keys, keys_dat, dtW] at hPa
  k_dflt (refine LCg.ListComp_U (F₀ := by k_asm) (by with_unfolding_all rfl) (by decide) (by rfl) (by decide) (by rfl) ?_)
  k_steps
  k_dflt (refine LCg.CompSrc.ledger (by rfl) (by k_asm) (by k_asm) (by k_mem) (by rw [PySem.sizeLine_eq, List.size_toArray]; omega) ?_; intro g9)
  refine comp_turns (fun i news y => ∃ wi tok, ws[i]? = some wi ∧ y = .str wi.tag tok) (fun i R R' v hs hq => hq) (fun i v I oI C oC D m₂ ys' h tk news E' hi hv hb hC hx F3 N3 off => ?_) ?_
  · obtain ⟨wi, hwi, a, ax, t1, t2, t3, t4, u1, u2, u3, u4, rfl, ha, hax⟩ := hw.at (by simpa using hv)
    have ha3 : (a, instObj 100 ax) ∈ news := hb _ (by k_mem)
    have hax3 := hb _ (by k_mem : (ax, _) ∈ _)
    k_steps
    refine comp_end_same F3 N3 off (.inr ⟨_, hb _ (by k_mem : (l, PySem.W.listOf xs.toArray nl) ∈ _), rfl, _, rfl⟩) ⟨fun _ h => h, wi, _, hwi, rfl⟩
  · intro ys' news' hl hy' hb
    unfold LCg.FinE
    intro D h tk F3 N3 o3
    rw [List.size_toArray, hw.length] at hl
    have hI := strs_of_turns hl hy'
    have ylen3 : ys'.length ≤ 1000 := by omega
    have supA := Sup.mk hb
    have lenD : 1 < (dedS ((kvsOf csF).map (·.1) ++ ws.map (·.tag))).length ∧ (dedS ((kvsOf csF).map (·.1) ++ ws.map (·.tag))).length < 64 := by
      have hh := keys_perm hPa nW
      rw [← dtF, ← keys_dat, ← kvs_keys] at hh
      have h1 := dedS_len ((kvsOf csF).map (·.1) ++ ws.map (·.tag))
      rw [List.length_append, List.length_map, List.length_map] at h1
      rw [← hh.length_eq, hPa.length_eq, List.length_map]
      refine ⟨?_, by have := allT_len ar bb ws; omega⟩
      exact allT_two ar bb ws
    obtain ⟨lenD1, lenD2⟩ := lenD
    have okW : ∀ wi ∈ ws, wi.tag ∈ tagsL := fun wi h => (W.ok wi h).2
    have strsA : ∀ p ∈ _, PyData.strOk p = true := fun p hp => by
      obtain ⟨q, hq, e⟩ := List.mem_map.mp (hPa.mem_iff.mp hp)
      rw [← e]; exact allT_strs okW q hq
    k_steps
    refine Stop.off ?_
    rename sortedS _ = true => Ob
    rename List.Perm _ (dedS _) => Pb
    rename StrsAre _ _ => Sb
    have e1 := keys_perm hPa nW
    rw [← dtF, ← keys_dat, ← kvs_keys] at e1
    have e2 := sorted_one Oa Ob (e1.trans Pb.symm)
    refine' strs_ne ?N ?a ?b Sa Sb e2 ?s ?u ?_
    case N => k_asm
    case a => k_mem
    case b => k_mem
    case s => rw [← e2]; exact strsA
    case u => first | ktr_units | exact Nat.le_of_ble_eq_true rfl
    have go2 : Go 2 := ⟨⟩
    k_steps
    refine Stop.off ?_
    rename News _ _ _ _ => N5
    rename Fr _ _ _ _ => F5
    have supR : Sup R _ := sup_in N5 (fun p hp => by k_mem)
    exact S10 (fa := fa) (cd := cd) (E := E) G (W.mono supR) (HW.mono supR) nW F5 N5 ⟨rfl, rfl, rfl, rfl, rfl⟩ (fun s' m' R' a b c d => hQ s' m' R' a b c d) hE

end Mine
namespace Mine
local macro_rules | `(tactic| k_mem) => `(tactic| (refine Sup.mem (by assumption) ?_; k_mem))
local macro_rules | `(tactic| k_mem) => `(tactic| (refine List.mem_append_right _ ?_; k_mem))
local macro_rules | `(tactic| k_mem) => `(tactic| (refine List.mem_append_left _ ?_; k_mem))
local macro_rules | `(tactic| k_all) => `(tactic| assumption)
local macro_rules | `(tactic| k_mem) => `(tactic| assumption)
local macro_rules | `(tactic| walk_at "call ref") => `(tactic| (k_here; (with_reducible show wpAny _ _ (call (Value.ref 154) _) _ _ _); k_dflt (refine' Spec.use ?S ?k1 ?k2 ?k3 ?k4 ?k5 ?kK ?kd ?ku ?_; (case k1 => k_asm); (case k2 => k_asm); (case k3 => k_asm); (case k4 => k_asm); (case k5 => k_asm); (case kK => exact rfl); (case S => refine' all_ok (by k_mem) (by exact WishL.mono (by assumption) (fun p hp => by k_mem)) (by assumption) (by assumption)); (case kd => ktr_room); (case ku => ktr_units); k_whole); intro r9 h9 tk9 n9 F9 N9 P9; obtain ⟨dA, TA, cA, e91, e92, tcA, otA, dtA⟩ := P9; subst e91; subst e92; (try dsimp only)))
local macro_rules | `(tactic| walk_at "call ref") => `(tactic| (k_here; (with_reducible show wpAny _ _ (call (Value.ref 172) _) _ _ _); k_dflt (refine' Spec.use ?S ?k1 ?k2 ?k3 ?k4 ?k5 ?kK ?kd ?ku ?_; (case k1 => k_asm); (case k2 => k_asm); (case k3 => k_asm); (case k4 => k_asm); (case k5 => k_asm); (case kK => exact rfl); (case S => refine' told_use (by exact TabC.mono (by assumption) (fun p hp => by k_mem)) (by assumption) (by exact Nat.lt_of_le_of_lt (allT_len _ _ _) (by omega))); (case kd => ktr_room); (case ku => ktr_units); k_whole); intro r9 h9 tk9 n9 F9 N9 P9; obtain ⟨supT, lT, vT, nT, ST, e9, mT, rowsT, permT, sortT⟩ := P9; subst e9; (try dsimp only)))
local macro_rules | `(tactic| walk_at "pyIter ref") => `(tactic| refine Stop.on ?_)
local macro_rules | `(tactic| walk_at "exec For") => `(tactic| (k_here; k_dflt (refine wpAny_For ?_)))
local macro_rules | `(tactic| walk_at "exec For Name Call cons nil") => `(tactic| (k_here; k_dflt (refine wpAny_For ?_)))
local macro_rules | `(tactic| walk_at "call type:range") => `(tactic| (k_here; (with_reducible show wpAny _ _ (call (Value.type "range") [Value.int _ _]) _ _ _); k_dflt (refine' range_led (by k_asm) (by k_asm) ?_; k_whole); intro D9 h9 tk9 t91 t92 t93 F9 N9 l9; (try k_lt l9); (try k_sweep)))
local macro_rules | `(tactic| walk_at "call builtin:len") => `(tactic| (k_here; (with_reducible show wpAny _ _ (call (Value.builtin _) [Value.ref _]) _ _ _); k_dflt (refine' len_list (by k_asm) (by k_mem) (by assumption) ?_; k_whole)))
local macro_rules | `(tactic| walk_at "subscriptTail") => `(tactic| (k_here; (with_reducible show wpAny _ _ (subscriptTail _ _ (Value.ref _) (Value.int _ _)) _ _ _); k_dflt (refine' at_list (by k_asm) (by k_mem) (by assumption) (by assumption) ?_ (by with_unfolding_all rfl); k_whole)))

local macro_rules | `(tactic| walk_at "exec For Name Call cons cons") => `(tactic| (k_here; refine wpAny_For ?_))
local macro_rules | `(tactic| walk_at "exec For Name Call") => `(tactic| (k_here; refine wpAny_For ?_))
local macro_rules | `(tactic| walk_at "call ref") => `(tactic| (k_here; (with_reducible show wpAny _ _ (call (Value.ref 147) _) _ _ _); k_dflt (refine' Spec.use (first_ok _ _) (by k_asm) (by k_asm) (by k_asm) (by k_asm) (by k_asm) (by exact rfl) (by ktr_room) (by ktr_units) ?_; k_whole); intro r9 h9 tk9 n9 F9 N9 P9; obtain ⟨dF, TF, cF, e91, e92, tcF, otF, dtF⟩ := P9; subst e91; subst e92; (try dsimp only)))
local macro_rules | `(tactic| walk_at "call builtin:sorted") => `(tactic| (k_here; (with_reducible show wpAny _ _ (call (Value.builtin "sorted") [Value.ref _]) _ _ _); k_dflt (refine' sorted_dict (by rfl) (by k_asm) (by k_asm) (by k_mem) (by k_asm) (by k_asm) (by k_asm) ?_; k_whole); intro D9 h9 tk9 vs9 ss9 e9 F9 N9 l9 S9 P9 O9))

theorem S7 {w : World} {h₀ : Heap} {L fa l d lH : Addr} {cd : Value} {s : Shared} {ar bb : Bool} {t : Tok} {m : Str → Option Value} {xs : List Value} {ws : List Wi} {R : Led} {S : List (Str × WantD)} {Q : Flow → Shared → Prop} {E : Value → Shared → Prop}
    (G : Base w h₀) (W : WS w.params L l R xs ws) (C : NameC L R) (TW : TS w d R (allT ar bb ws)) (HW : HS lH R S (allT ar bb ws))
    (F : Fr h₀ L s.heap m) (N : News h₀ L s.heap R) (m1 : m (Str.ofString "wants") = some (.ref d)) (m2 : m (Str.ofString "held") = some (.ref lH)) (m3 : m (Str.ofString "tag") = some (.str (scr ar) t)) (m4 : m (Str.ofString "is_backward") = some (.bool bb))
    (hQ : Ends h₀ L s Q) (hE : PassesOwn (model PG w) (lawA w L fa cd) (lawE w L fa cd) E) : Rest w 7 L fa cd Q E s := by
  w_top off
  have B := G.B
  have X := G.X
  obtain ⟨loose, mean, mg, mb, T⟩ := G.T
  obtain ⟨o1, d1, mc1⟩ := W.c1
  obtain ⟨nl, ml⟩ := W.lst
  have hw := W.w
  have len6 := W.len
  have xlen : xs.length ≤ 1000 := by rw [hw.length]; omega
  obtain ⟨cs, tc, dt⟩ := TW.tab
  obtain ⟨oD, hoD, hdD⟩ := tc.od
  have lo := tc.lo
  have hsz : (kvsOf cs).length < 64 := by
    have h1 := allT_len ar bb ws
    have h2 := len_of dt
    unfold kvsOf; rw [List.length_map]; omega
  replace F := fr_overs [(Str.ofString "wants", .ref d), (Str.ofString "held", .ref lH), (Str.ofString "tag", .str (scr ar) t), (Str.ofString "is_backward", .bool bb)] F (by simp only [List.forall_mem_cons]; exact ⟨m1, m2, m3, m4, fun _ h => nomatch h⟩)
  dsimp only [overs] at F
  unfold Rest lawA lawE
  generalize hb : (lawBody w.params).drop 7 = body
  generalize hs : (lawFn w.params).scope = sc
  conv at hb => lhs; whnf
  conv at hs => lhs; whnf
  subst hb hs
  k_steps
  refine Stop.off ?_
  rename sortedS _ = true => O9
  rename List.Perm _ (List.map _ (kvsOf cs)) => P9
  rename StrsAre _ _ => S9'
  rename News _ _ _ _ => N9
  rename Fr _ _ _ _ => F9
  rename datOf _ = firstT _ _ => dtF
  rename Off _ _ => otF
  rename TabC _ _ _ _ => tcF
  obtain ⟨o2, b2, hd2, hc2⟩ := C.mono (Sup.right.trans Sup.cons)
  have hc2' := hc2
  have W' := (W.mono (Sup.right.trans Sup.cons)).but N9 hc2 hd2
  have TW' := (TW.mono (Sup.right.trans Sup.cons)).but N9 hc2 hd2
  have HW' := (HW.mono (Sup.right.trans Sup.cons)).but N9 hc2 hd2
  have FW' := (TS.mono ⟨_, tcF, dtF⟩ (Sup.left.trans Sup.cons)).but N9 hc2 hd2
  have src := but_in N9 hc2 hd2 List.mem_cons_self (fun b q => by cases q)
  have NB := news_sub (R' := (L + 1 + 1, o2) :: but _ (L + 1 + 1)) N9 (fun p hp => by
    rcases List.mem_cons.mp hp with rfl | hp
    · exact hc2
    · exact but_sub p hp)
  refine for_listC (c := L + 1 + 1) (fun m R' => Sup (but _ (L + 1 + 1)) R' ∧ JF d _ lH ar bb t m) rfl rfl rfl rfl F9 NB (fun q hq => but_off q hq) hd2 src ⟨⟨fun _ h => h⟩, ⟨rfl, rfl, rfl, rfl, rfl⟩⟩ (fun m R hJ => hJ.1.h _ src) ?_ ?_ hE
  · intro I i v m₁ R₁ oI o' h tk hv a1 a2 a3 a4 hJ F1 N1
    obtain ⟨k, tok, hk9, rfl⟩ := strs_at S9' (by simpa using hv)
    have hkin : k ∈ (allT ar bb ws).map (·.1) := by
      rw [← dt, ← keys_dat, ← kvs_keys]; exact P9.mem_iff.mp (List.mem_of_getElem? hk9)
    exact name_turn (fa := fa) (cd := cd) (E := E) G W' TW' FW' hkin hJ.2 hJ.1 a1 a2 a3 a4 F1 N1 hE
  · intro m₁ R₁ o' v' h tk hJ a1 a2 F1 N1
    exact S9 (fa := fa) (cd := cd) (E := E) G (W'.mono (hJ.1.trans Sup.cons)) ⟨o', v', a2, List.mem_cons_self⟩ (TW'.mono (hJ.1.trans Sup.cons)) (FW'.mono (hJ.1.trans Sup.cons)) (HW'.mono (hJ.1.trans Sup.cons)) F1 N1 hJ.2 hQ hE

end Mine
namespace Mine
local macro_rules | `(tactic| walk_at "none") => `(tactic| skip)
local macro_rules | `(tactic| k_mem) => `(tactic| (refine Sup.mem (by assumption) ?_; k_mem))
local macro_rules | `(tactic| k_mem) => `(tactic| (refine List.mem_append_right _ ?_; k_mem))
local macro_rules | `(tactic| k_mem) => `(tactic| (refine List.mem_append_left _ ?_; k_mem))
local macro_rules | `(tactic| k_all) => `(tactic| assumption)
local macro_rules | `(tactic| k_mem) => `(tactic| assumption)
local macro_rules | `(tactic| walk_at "call ref") => `(tactic| (k_here; (with_reducible show wpAny _ _ (call (Value.ref 154) _) _ _ _); k_dflt (refine' Spec.use ?S ?k1 ?k2 ?k3 ?k4 ?k5 ?kK ?kd ?ku ?_; (case k1 => k_asm); (case k2 => k_asm); (case k3 => k_asm); (case k4 => k_asm); (case k5 => k_asm); (case kK => exact rfl); (case S => refine' all_ok (by k_mem) (by exact WishL.mono (by assumption) (fun p hp => by k_mem)) (by assumption) (by assumption)); (case kd => ktr_room); (case ku => ktr_units); k_whole); intro r9 h9 tk9 n9 F9 N9 P9; obtain ⟨dA, TA, cA, e91, e92, tcA, otA, dtA⟩ := P9; subst e91; subst e92; (try dsimp only)))
local macro_rules | `(tactic| walk_at "call ref") => `(tactic| (k_here; (with_reducible show wpAny _ _ (call (Value.ref 172) _) _ _ _); k_dflt (refine' Spec.use ?S ?k1 ?k2 ?k3 ?k4 ?k5 ?kK ?kd ?ku ?_; (case k1 => k_asm); (case k2 => k_asm); (case k3 => k_asm); (case k4 => k_asm); (case k5 => k_asm); (case kK => exact rfl); (case S => refine' told_use (by exact TabC.mono (by assumption) (fun p hp => by k_mem)) (by assumption) (by exact Nat.lt_of_le_of_lt (allT_len _ _ _) (by omega))); (case kd => ktr_room); (case ku => ktr_units); k_whole); intro r9 h9 tk9 n9 F9 N9 P9; obtain ⟨supT, lT, vT, nT, ST, e9, mT, rowsT, permT, sortT⟩ := P9; subst e9; (try dsimp only)))
local macro_rules | `(tactic| walk_at "pyIter ref") => `(tactic| refine Stop.on ?_)
local macro_rules | `(tactic| walk_at "exec For") => `(tactic| (k_here; k_dflt (refine For_invVF (by k_asm) (by rfl) (by rfl) ?_ (hE := by first | passes_own | assumption))))
local macro_rules | `(tactic| walk_at "exec For Name Call cons nil") => `(tactic| (k_here; k_dflt (refine For_invVF (by k_asm) (by rfl) (by rfl) ?_ (hE := by first | passes_own | assumption))))
local macro_rules | `(tactic| walk_at "call type:range") => `(tactic| (k_here; (with_reducible show wpAny _ _ (call (Value.type "range") [Value.int _ _]) _ _ _); k_dflt (refine' range_led (by k_asm) (by k_asm) ?_; k_whole); intro D9 h9 tk9 t91 t92 t93 F9 N9 l9; (try k_lt l9); (try k_sweep)))
local macro_rules | `(tactic| walk_at "call builtin:len") => `(tactic| (k_here; (with_reducible show wpAny _ _ (call (Value.builtin _) [Value.ref _]) _ _ _); k_dflt (refine' len_list (by k_asm) (by k_mem) (by assumption) ?_; k_whole)))
local macro_rules | `(tactic| walk_at "subscriptTail") => `(tactic| (k_here; (with_reducible show wpAny _ _ (subscriptTail _ _ (Value.ref _) (Value.int _ _)) _ _ _); k_dflt (refine' at_list (by k_asm) (by k_mem) (by assumption) (by assumption) ?_ (by with_unfolding_all rfl); k_whole)))

local macro_rules | `(tactic| walk_at "subscriptTail Name Slice ref ref") => `(tactic| (k_here; (with_reducible show wpAny _ _ (subscriptTail _ (PySem.Expr.Slice none (some _) none _) (Value.ref _) (Value.ref _)) _ _ _); k_dflt (refine' kmk_slice_lit (by k_asm) (by k_asm) (by exact News.isList (by k_asm) (by k_mem)) (by exact IsPart.none) (by exact IsPart.int _ _) (upto_any (by omega)) ?_ (by with_unfolding_all rfl) (by kmk_pure) (by (rw [PySem.sizeLine_eq, List.size_toArray]; omega))); intro D' h' F' N' l1; (try k_lt l1); (try k_sweep)))
local macro_rules | `(tactic| walk_at "subscriptTail Name Slice ref ref") => `(tactic| (k_here; (with_reducible show wpAny _ _ (subscriptTail _ (PySem.Expr.Slice (some _) none none _) (Value.ref _) (Value.ref _)) _ _ _); k_dflt (refine' kmk_slice_lit (by k_asm) (by k_asm) (by exact News.isList (by k_asm) (by k_mem)) (by exact IsPart.int _ _) (by exact IsPart.none) (from_any (by omega)) ?_ (by with_unfolding_all rfl) (by kmk_pure) (by (rw [PySem.sizeLine_eq, List.size_toArray]; omega))); intro D' h' F' N' l1; (try k_lt l1); (try k_sweep)))
local macro_rules | `(tactic| walk_at "binaryOp Add ref ref") => `(tactic| (k_here; (with_reducible show wpAny _ _ (binaryOp _ (Value.ref _) (Value.ref _)) _ _ _); k_dflt (refine' cat_lists (by k_asm) (by k_asm) (by k_mem) (by k_mem) (by (simp only [List.length_append, List.length_take, List.length_drop, List.length_cons, List.length_nil]; omega)) (by (simp only [List.length_append, List.length_take, List.length_drop, List.length_cons, List.length_nil]; omega)) ?_); intro D' h' F' N' l1; (try k_lt l1); (try k_sweep)))
local macro_rules | `(tactic| walk_at "compareOp NotEq ref ref") => `(tactic| refine Stop.on ?_)
namespace at_turnK
abbrev Claim (w : World) (h₀ : Heap) (L : Addr) (fa : Addr) (l : Addr) (lH : Addr) (I : Addr) (cd : Value) (s : Shared) (ar : Bool) (bb : Bool) (t : Tok) (tv : Tok) (u : Str → Option Value) (xs : List Value) (ws : List Wi) (R : Led) (R₁ : Led) (S : List (Str × WantD)) (Q : Flow → Shared → Prop) (E : Value → Shared → Prop) (i : Nat) (m₀ : Str → Option Value) (oI : Obj) : Prop :=
  ∀ (G : Base w h₀) (W : WS w.params L l R xs ws) (HW : HS lH R S (allT ar bb ws)) (hn : ((allT ar bb ws).map (·.1)).Nodup) (m1 : m₀ (Str.ofString "held") = some (.ref lH)) (m2 : m₀ (Str.ofString "tag") = some (.str (scr ar) t)) (m3 : m₀ (Str.ofString "is_backward") = some (.bool bb)) (hi : (i : Int) < (xs.length : Int) - 1) (sup : Sup R R₁) (off : ∀ p ∈ R₁, p.1 ≠ I) (F : Fr h₀ L s.heap (fun y => if y = Str.ofString "at" then some (.int (0 + (i : Nat)) tv) else if [Str.ofString "other"].contains y then u y else m₀ y)) (N : News h₀ L s.heap ((I, oI) :: R₁)) (hE : PassesOwn (model PG w) (lawA w L fa cd) (lawE w L fa cd) E), wpAny (model PG w) (lawA w L fa cd) (execs (forBody w.params 6) (lawE w L fa cd)) (TurnB h₀ L (fun m R' => Sup R R' ∧ SameS (Str.ofString "at") [Str.ofString "other"] m₀ m) I oI s Q) E s
abbrev ClaimT (p : (World) × (Heap) × (Addr) × (Addr) × (Addr) × (Addr) × (Addr) × (Value) × (Shared) × (Bool) × (Bool) × (Tok) × (Tok) × (Str → Option Value) × (List Value) × (List Wi) × (Led) × (Led) × (List (Str × WantD)) × (Flow → Shared → Prop) × (Value → Shared → Prop) × (Nat) × (Str → Option Value) × (Obj)) : Prop := Claim (p.1) (p.2.1) (p.2.2.1) (p.2.2.2.1) (p.2.2.2.2.1) (p.2.2.2.2.2.1) (p.2.2.2.2.2.2.1) (p.2.2.2.2.2.2.2.1) (p.2.2.2.2.2.2.2.2.1) (p.2.2.2.2.2.2.2.2.2.1) (p.2.2.2.2.2.2.2.2.2.2.1) (p.2.2.2.2.2.2.2.2.2.2.2.1) (p.2.2.2.2.2.2.2.2.2.2.2.2.1) (p.2.2.2.2.2.2.2.2.2.2.2.2.2.1) (p.2.2.2.2.2.2.2.2.2.2.2.2.2.2.1) (p.2.2.2.2.2.2.2.2.2.2.2.2.2.2.2.1) (p.2.2.2.2.2.2.2.2.2.2.2.2.2.2.2.2.1) (p.2.2.2.2.2.2.2.2.2.2.2.2.2.2.2.2.2.1) (p.2.2.2.2.2.2.2.2.2.2.2.2.2.2.2.2.2.2.1) (p.2.2.2.2.2.2.2.2.2.2.2.2.2.2.2.2.2.2.2.1) (p.2.2.2.2.2.2.2.2.2.2.2.2.2.2.2.2.2.2.2.2.1) (p.2.2.2.2.2.2.2.2.2.2.2.2.2.2.2.2.2.2.2.2.2.1) (p.2.2.2.2.2.2.2.2.2.2.2.2.2.2.2.2.2.2.2.2.2.2.1) (p.2.2.2.2.2.2.2.2.2.2.2.2.2.2.2.2.2.2.2.2.2.2.2)
theorem some_tup : Nonempty ((World) × (Heap) × (Addr) × (Addr) × (Addr) × (Addr) × (Addr) × (Value) × (Shared) × (Bool) × (Bool) × (Tok) × (Tok) × (Str → Option Value) × (List Value) × (List Wi) × (Led) × (Led) × (List (Str × WantD)) × (Flow → Shared → Prop) × (Value → Shared → Prop) × (Nat) × (Str → Option Value) × (Obj)) := some_pair some_world (some_pair inferInstance (some_pair inferInstance (some_pair inferInstance (some_pair inferInstance (some_pair inferInstance (some_pair inferInstance (some_pair inferInstance (some_pair some_shared (some_pair inferInstance (some_pair inferInstance (some_pair inferInstance (some_pair inferInstance (some_pair inferInstance (some_pair inferInstance (some_pair inferInstance (some_pair inferInstance (some_pair inferInstance (some_pair inferInstance (some_pair inferInstance (some_pair inferInstance (some_pair inferInstance (some_pair inferInstance (inferInstance)))))))))))))))))))))))
noncomputable def tup : (World) × (Heap) × (Addr) × (Addr) × (Addr) × (Addr) × (Addr) × (Value) × (Shared) × (Bool) × (Bool) × (Tok) × (Tok) × (Str → Option Value) × (List Value) × (List Wi) × (Led) × (Led) × (List (Str × WantD)) × (Flow → Shared → Prop) × (Value → Shared → Prop) × (Nat) × (Str → Option Value) × (Obj) := @Classical.epsilon _ some_tup fun p => ¬ ClaimT p
@[irreducible] noncomputable def w : World := tup.1
@[irreducible] noncomputable def h₀ : Heap := tup.2.1
@[irreducible] noncomputable def L : Addr := tup.2.2.1
@[irreducible] noncomputable def fa : Addr := tup.2.2.2.1
@[irreducible] noncomputable def l : Addr := tup.2.2.2.2.1
@[irreducible] noncomputable def lH : Addr := tup.2.2.2.2.2.1
@[irreducible] noncomputable def I : Addr := tup.2.2.2.2.2.2.1
@[irreducible] noncomputable def cd : Value := tup.2.2.2.2.2.2.2.1
@[irreducible] noncomputable def s : Shared := tup.2.2.2.2.2.2.2.2.1
@[irreducible] noncomputable def ar : Bool := tup.2.2.2.2.2.2.2.2.2.1
@[irreducible] noncomputable def bb : Bool := tup.2.2.2.2.2.2.2.2.2.2.1
@[irreducible] noncomputable def t : Tok := tup.2.2.2.2.2.2.2.2.2.2.2.1
@[irreducible] noncomputable def tv : Tok := tup.2.2.2.2.2.2.2.2.2.2.2.2.1
@[irreducible] noncomputable def u : Str → Option Value := tup.2.2.2.2.2.2.2.2.2.2.2.2.2.1
@[irreducible] noncomputable def xs : List Value := tup.2.2.2.2.2.2.2.2.2.2.2.2.2.2.1
@[irreducible] noncomputable def ws : List Wi := tup.2.2.2.2.2.2.2.2.2.2.2.2.2.2.2.1
@[irreducible] noncomputable def R : Led := tup.2.2.2.2.2.2.2.2.2.2.2.2.2.2.2.2.1
@[irreducible] noncomputable def R₁ : Led := tup.2.2.2.2.2.2.2.2.2.2.2.2.2.2.2.2.2.1
@[irreducible] noncomputable def S : List (Str × WantD) := tup.2.2.2.2.2.2.2.2.2.2.2.2.2.2.2.2.2.2.1
@[irreducible] noncomputable def Q : Flow → Shared → Prop := tup.2.2.2.2.2.2.2.2.2.2.2.2.2.2.2.2.2.2.2.1
@[irreducible] noncomputable def E : Value → Shared → Prop := tup.2.2.2.2.2.2.2.2.2.2.2.2.2.2.2.2.2.2.2.2.1
@[irreducible] noncomputable def i : Nat := tup.2.2.2.2.2.2.2.2.2.2.2.2.2.2.2.2.2.2.2.2.2.1
@[irreducible] noncomputable def m₀ : Str → Option Value := tup.2.2.2.2.2.2.2.2.2.2.2.2.2.2.2.2.2.2.2.2.2.2.1
@[irreducible] noncomputable def oI : Obj := tup.2.2.2.2.2.2.2.2.2.2.2.2.2.2.2.2.2.2.2.2.2.2.2
theorem core : Claim w h₀ L fa l lH I cd s ar bb t tv u xs ws R R₁ S Q E i m₀ oI := by
  w_top off
  intro G W HW hn m1 m2 m3 hi sup off F N hE
  have B := G.B
  have X := G.X
  obtain ⟨loose, mean, mg, mb, T⟩ := G.T
  obtain ⟨o1, d1, mc1⟩ := W.c1
  obtain ⟨nl, ml⟩ := W.lst
  have hw := W.w
  have okW : ∀ wi ∈ ws, wi.ok := fun wi h => (W.ok wi h).1
  have tagW : ∀ wi ∈ ws, wi.tag ∈ tagsL := fun wi h => (W.ok wi h).2
  have len6 := W.len
  have len7 := hw.length
  have xlen : xs.length ≤ 1000 := by rw [hw.length]; omega
  obtain ⟨a, b, wa, wb, pa, pb, ⟨aa, ax, t1, t2, t3, t4, u1, u2, u3, u4, rfl, ha, hax⟩, ⟨ba, bx, t5, t6, t7, t8, u5, u6, u7, u8, rfl, hb, hbx⟩, ews, hwo⟩ := pair_at (i := i) hw (by omega)
  have okO : ∀ wi ∈ ws.take i ++ [wb, wa] ++ ws.drop (i + 2), wi.ok := fun wi h => okW wi (by rw [ews]; simp only [List.mem_append, List.mem_cons, List.not_mem_nil, or_false] at h ⊢; rcases h with (h | h | h) | h <;> simp [h])
  have lenO : (ws.take i ++ [wb, wa] ++ ws.drop (i + 2)).length ≤ 6 := by
    have e := congrArg List.length ews
    simp only [List.length_append, List.length_cons, List.length_nil] at e ⊢
    omega
  have lenO' : (ws.take i ++ [wb, wa] ++ ws.drop (i + 2)).length ≤ 50 := by omega
  obtain ⟨⟨vsH, nH, mH, rowsH⟩, permH, sortH⟩ := HW
  have strsH : ∀ p ∈ S, PyData.strOk p.1 = true := fun p hp => allT_strs tagW p (permH.mem_iff.mp hp)
  have swap : SwapE ((wa.tag != wb.tag) = true) (allT ar bb (ws.take i ++ [wb, wa] ++ ws.drop (i + 2))) S := ⟨fun hne0 S' p' s' => by
    have hne : wa.tag ≠ wb.tag := by simpa using hne0
    have q := allT_swap ar bb (ws.take i) (ws.drop (i + 2)) hne
    rw [← ews] at q
    have e : ws.take i ++ [wb, wa] ++ ws.drop (i + 2) = ws.take i ++ wb :: wa :: ws.drop (i + 2) := by simp
    rw [e] at p'
    exact (rows_one permH p' q.symm hn sortH s').symm⟩
  replace F := fr_overs [(Str.ofString "held", .ref lH), (Str.ofString "tag", .str (scr ar) t), (Str.ofString "is_backward", .bool bb)] F (by simp only [List.forall_mem_cons]; exact ⟨m1, m2, m3, fun _ h => nomatch h⟩)
  dsimp only [overs] at F
  unfold lawA lawE
  generalize hb : forBody w.params 6 = body
  generalize hs : (lawFn w.params).scope = sc
  conv at hb => lhs; whnf
  conv at hs => lhs; whnf
  subst hb hs
  k_steps
  · refine Stop.off ?_
    refine' rows_ne ?N ?a ?b ?r1 ?r2 ?e ?s ?u ?_
    case N => k_asm
    case a => k_mem
    case b => k_mem
    case r1 => exact rows_mono (by assumption) (fun p hp => by k_mem)
    case r2 => exact rows_mono (by assumption) (fun p hp => by k_mem)
    case e => exact SwapE.use (by assumption) (by assumption) (by assumption) (by assumption)
    case s => assumption
    case u => first | ktr_units | exact Nat.le_of_ble_eq_true rfl
    k_steps
    rename News _ _ _ _ => N5
    rename Fr _ _ _ _ => F5
    have z0 := turn_keep (I := I) (oI := oI) (Rb := R) N5 (by k_mem) (by intro p hp; k_mem) (fun p hp => off p (sup.h p hp))
    obtain ⟨z1, z2, z3⟩ := z0
    exact ⟨_, _, _, _, rfl, F5, z1, z2, z3, by first | exact same_if (same_if (same_if (same_if same_base (.inr m3)) (.inr m2)) (.inr m1)) (.inl rfl) | exact same_if (same_if (same_if same_base (.inr m3)) (.inr m2)) (.inr m1)⟩
  · rename News _ _ _ _ => N5
    rename Fr _ _ _ _ => F5
    have z0 := turn_keep (I := I) (oI := oI) (Rb := R) N5 (by k_mem) (by intro p hp; k_mem) (fun p hp => off p (sup.h p hp))
    obtain ⟨z1, z2, z3⟩ := z0
    exact ⟨_, _, _, _, rfl, F5, z1, z2, z3, by first | exact same_if (same_if (same_if (same_if same_base (.inr m3)) (.inr m2)) (.inr m1)) (.inl rfl) | exact same_if (same_if (same_if same_base (.inr m3)) (.inr m2)) (.inr m1)⟩
end at_turnK
theorem at_turn {w : World} {h₀ : Heap} {L fa l lH I : Addr} {cd : Value} {s : Shared} {ar bb : Bool} {t tv : Tok} {u : Str → Option Value} {xs : List Value} {ws : List Wi} {R R₁ : Led} {S : List (Str × WantD)} {Q : Flow → Shared → Prop} {E : Value → Shared → Prop} {i : Nat} {m₀ : Str → Option Value} {oI : Obj} (G : Base w h₀) (W : WS w.params L l R xs ws) (HW : HS lH R S (allT ar bb ws)) (hn : ((allT ar bb ws).map (·.1)).Nodup) (m1 : m₀ (Str.ofString "held") = some (.ref lH)) (m2 : m₀ (Str.ofString "tag") = some (.str (scr ar) t)) (m3 : m₀ (Str.ofString "is_backward") = some (.bool bb)) (hi : (i : Int) < (xs.length : Int) - 1) (sup : Sup R R₁) (off : ∀ p ∈ R₁, p.1 ≠ I) (F : Fr h₀ L s.heap (fun y => if y = Str.ofString "at" then some (.int (0 + (i : Nat)) tv) else if [Str.ofString "other"].contains y then u y else m₀ y)) (N : News h₀ L s.heap ((I, oI) :: R₁)) (hE : PassesOwn (model PG w) (lawA w L fa cd) (lawE w L fa cd) E) : wpAny (model PG w) (lawA w L fa cd) (execs (forBody w.params 6) (lawE w L fa cd)) (TurnB h₀ L (fun m R' => Sup R R' ∧ SameS (Str.ofString "at") [Str.ofString "other"] m₀ m) I oI s Q) E s :=
  skol (P := at_turnK.ClaimT) (c := at_turnK.tup) rfl (by with_unfolding_all exact at_turnK.core) (w, h₀, L, fa, l, lH, I, cd, s, ar, bb, t, tv, u, xs, ws, R, R₁, S, Q, E, i, m₀, oI) G W HW hn m1 m2 m3 hi sup off F N hE

end Mine
namespace Mine
local macro_rules | `(tactic| k_mem) => `(tactic| (refine Sup.mem (by assumption) ?_; k_mem))
local macro_rules | `(tactic| k_mem) => `(tactic| (refine List.mem_append_right _ ?_; k_mem))
local macro_rules | `(tactic| k_mem) => `(tactic| (refine List.mem_append_left _ ?_; k_mem))
local macro_rules | `(tactic| k_all) => `(tactic| assumption)
local macro_rules | `(tactic| k_mem) => `(tactic| assumption)
local macro_rules | `(tactic| walk_at "call ref") => `(tactic| (k_here; (with_reducible show wpAny _ _ (call (Value.ref 154) _) _ _ _); k_dflt (refine' Spec.use ?S ?k1 ?k2 ?k3 ?k4 ?k5 ?kK ?kd ?ku ?_; (case k1 => k_asm); (case k2 => k_asm); (case k3 => k_asm); (case k4 => k_asm); (case k5 => k_asm); (case kK => exact rfl); (case S => refine' all_ok (by k_mem) (by exact WishL.mono (by assumption) (fun p hp => by k_mem)) (by assumption) (by assumption)); (case kd => ktr_room); (case ku => ktr_units); k_whole); intro r9 h9 tk9 n9 F9 N9 P9; obtain ⟨dA, TA, cA, e91, e92, tcA, otA, dtA⟩ := P9; subst e91; subst e92; (try dsimp only)))
local macro_rules | `(tactic| walk_at "call ref") => `(tactic| (k_here; (with_reducible show wpAny _ _ (call (Value.ref 172) _) _ _ _); k_dflt (refine' Spec.use ?S ?k1 ?k2 ?k3 ?k4 ?k5 ?kK ?kd ?ku ?_; (case k1 => k_asm); (case k2 => k_asm); (case k3 => k_asm); (case k4 => k_asm); (case k5 => k_asm); (case kK => exact rfl); (case S => refine' told_use (by exact TabC.mono (by assumption) (fun p hp => by k_mem)) (by assumption) (by exact Nat.lt_of_le_of_lt (allT_len _ _ _) (by omega))); (case kd => ktr_room); (case ku => ktr_units); k_whole); intro r9 h9 tk9 n9 F9 N9 P9; obtain ⟨supT, lT, vT, nT, ST, e9, mT, rowsT, permT, sortT⟩ := P9; subst e9; (try dsimp only)))
local macro_rules | `(tactic| walk_at "pyIter ref") => `(tactic| refine Stop.on ?_)
local macro_rules | `(tactic| walk_at "exec For") => `(tactic| (k_here; k_dflt (refine For_invVF (by k_asm) (by rfl) (by rfl) ?_ (hE := by first | passes_own | assumption))))
local macro_rules | `(tactic| walk_at "exec For Name Call cons nil") => `(tactic| (k_here; k_dflt (refine For_invVF (by k_asm) (by rfl) (by rfl) ?_ (hE := by first | passes_own | assumption))))
local macro_rules | `(tactic| walk_at "call type:range") => `(tactic| (k_here; (with_reducible show wpAny _ _ (call (Value.type "range") [Value.int _ _]) _ _ _); k_dflt (refine' range_led (by k_asm) (by k_asm) ?_; k_whole); intro D9 h9 tk9 t91 t92 t93 F9 N9 l9; (try k_lt l9); (try k_sweep)))
local macro_rules | `(tactic| walk_at "call builtin:len") => `(tactic| (k_here; (with_reducible show wpAny _ _ (call (Value.builtin _) [Value.ref _]) _ _ _); k_dflt (refine' len_list (by k_asm) (by k_mem) (by assumption) ?_; k_whole)))
local macro_rules | `(tactic| walk_at "subscriptTail") => `(tactic| (k_here; (with_reducible show wpAny _ _ (subscriptTail _ _ (Value.ref _) (Value.int _ _)) _ _ _); k_dflt (refine' at_list (by k_asm) (by k_mem) (by assumption) (by assumption) ?_ (by with_unfolding_all rfl); k_whole)))

theorem S4 {w : World} {h₀ : Heap} {L fa l : Addr} {cd : Value} {s : Shared} {ar bb : Bool} {t : Tok} {m : Str → Option Value} {xs : List Value} {ws : List Wi} {R : Led} {Q : Flow → Shared → Prop} {E : Value → Shared → Prop}
    (G : Base w h₀) (W : WS w.params L l R xs ws) (C : NameC L R)
    (F : Fr h₀ L s.heap m) (N : News h₀ L s.heap R) (m1 : m (Str.ofString "tag") = some (.str (scr ar) t)) (m2 : m (Str.ofString "is_backward") = some (.bool bb))
    (hQ : Ends h₀ L s Q) (hE : PassesOwn (model PG w) (lawA w L fa cd) (lawE w L fa cd) E) : Rest w 4 L fa cd Q E s := by
  w_top off
  have B := G.B
  have X := G.X
  obtain ⟨loose, mean, mg, mb, T⟩ := G.T
  obtain ⟨o1, d1, mc1⟩ := W.c1
  obtain ⟨nl, ml⟩ := W.lst
  have hw := W.w
  have okW : ∀ wi ∈ ws, wi.ok := fun wi h => (W.ok wi h).1
  have len6 := W.len
  have len50 : ws.length ≤ 50 := by omega
  have xlen : xs.length ≤ 1000 := by rw [hw.length]; omega
  replace F := fr_overs [(Str.ofString "tag", .str (scr ar) t), (Str.ofString "is_backward", .bool bb)] F (by simp only [List.forall_mem_cons]; exact ⟨m1, m2, fun _ h => nomatch h⟩)
  dsimp only [overs] at F
  unfold Rest lawA lawE
  generalize hb : (lawBody w.params).drop 4 = body
  generalize hs : (lawFn w.params).scope = sc
  conv at hb => lhs; whnf
  conv at hs => lhs; whnf
  subst hb hs
  k_steps
  refine Stop.off ?_
  rename News _ _ _ _ => N2
  rename Fr _ _ _ _ => F2
  rename TabC _ _ _ _ => tc
  rename Sup _ _ => sup
  rename datOf _ = _ => dtA
  rename List.Perm _ _ => perm
  rename sortedS _ = true => sort
  rename AllR _ _ _ => rows
  rename (_, PySem.W.listOf _ _) ∈ _ => mH
  have len7 := hw.length
  have S' := Sup.trans Sup.right sup
  have hn : ((allT ar bb ws).map (·.1)).Nodup := by rw [← dtA, ← keys_dat]; exact tc.keys
  refine for_rangeK [Str.ofString "other"] rfl F2 N2 (by k_mem) (by omega) (by omega) ?_ ?_
  · intro I i tv u R₁ oI h tk hi sup1 off F3 N3
    exact at_turn (fa := fa) (cd := cd) (E := E) G (W.mono (S'.trans Sup.cons)) (HS.mono ⟨⟨_, _, mH, rows⟩, perm, sort⟩ Sup.cons) hn rfl rfl rfl hi sup1 off F3 N3 hE
  · intro u1 R₁ h tk sup1 F3 N3
    have S2 := S'.trans (Sup.cons.trans sup1)
    refine S7 (fa := fa) (cd := cd) (E := E) G (W.mono S2) (C.mono S2) ⟨_, tc.mono (Sup.trans (Sup.trans Sup.left sup) (Sup.cons.trans sup1)).h, dtA⟩ (HS.mono ⟨⟨_, _, mH, rows⟩, perm, sort⟩ (Sup.cons.trans sup1)) F3 N3 rfl rfl rfl rfl ?_ hE
    intro s' m' R' a b c d
    exact hQ s' m' R' a b c d

end Mine
section
open Mine
local macro_rules | `(tactic| k_all) => `(tactic| assumption)
local macro_rules | `(tactic| k_mem) => `(tactic| assumption)
local macro_rules | `(tactic| walk_at "call ref") => `(tactic| (k_here; (with_reducible show wpAny _ _ (call (Value.ref 159) _) _ _ _); refine Stop.on ?_))
local macro_rules | `(tactic| k_ne) => `(tactic| (refine neN ?_; (try dsimp only); first | with_reducible assumption | exact Ne.symm (by with_reducible assumption) | omega))
local macro_rules | `(tactic| walk_at "call ref") => `(tactic| (k_here; (with_reducible show wpAny _ _ (call (Value.ref 100) _) _ _ _); k_dflt (refine' Spec.use wish4_ok (by k_asm) (by k_asm) (by k_asm) (by k_asm) (by k_asm) (by exact rfl) (by ktr_room) (by ktr_units) ?_; k_whole); intro r9 h9 tk9 n9 F9 N9 P9; obtain ⟨x9, d9, t1, t2, t3, t4, u1, u2, u3, u4, e91, e92, l9, l8⟩ := P9; subst e91; subst e92; k_lt l8; (try dsimp only)))
local macro_rules | `(tactic| walk_at "call ref") => `(tactic| (k_here; (with_reducible show wpAny _ _ (call (Value.ref 166) _) _ _ _); k_dflt (refine' draw_use (by k_asm) (by k_asm) (by k_asm) (by k_asm) (by k_asm) (by exact rfl) (by ktr_room) (by ktr_units) (by k_updF) (by k_mem) (by k_ne) (by assumption) (by assumption) (by omega) (by omega) (by omega) (by omega) (by omega) (by decide) (by decide) ?_; k_whole); intro r9 t9 h9 tk9 g9 st9 tg9 ts9 tp9 n9 F9 N9 hr0 hr1 hg9 hs9 hs9'; (try dsimp only at N9); (try k_sweep)))
local macro_rules | `(tactic| walk_at "pyIter ref") => `(tactic| refine Stop.on ?_)
local macro_rules | `(tactic| walk_at "exec For") => `(tactic| (k_here; k_dflt (refine For_invVF (by k_asm) (by rfl) (by rfl) ?_)))
local macro_rules | `(tactic| walk_at "exec For Name Call cons nil") => `(tactic| (k_here; k_dflt (refine For_invVF (by k_asm) (by rfl) (by rfl) ?_)))
local macro_rules | `(tactic| walk_at "call type:range") => `(tactic| (k_here; (with_reducible show wpAny _ _ (call (Value.type "range") [Value.int _ _]) _ _ _); k_dflt (refine' range_led (by k_asm) (by k_asm) ?_; k_whole); intro D9 h9 tk9 t91 t92 t93 F9 N9 l9; (try k_lt l9); (try k_sweep)))
local macro_rules | `(tactic| walk_at "subscriptTail") => `(tactic| (k_here; (with_reducible show wpAny _ _ (subscriptTail _ _ (Value.ref _) (Value.int _ _)) _ _ _); k_dflt (refine' pick2 (by k_asm) (by k_mem) (by assumption) (by assumption) ?_ (by with_unfolding_all rfl); k_whole); intro ar9 t9))
local macro_rules | `(tactic| walk_at "subscriptTail") => `(tactic| (k_here; (with_reducible show wpAny _ _ (subscriptTail _ _ (Value.ref 167) (Value.int _ _)) _ _ _); k_dflt (refine' pick5 (by k_asm) (by k_asm) (by assumption) (by assumption) ?_ (by with_unfolding_all rfl); k_whole); intro x9 hx9 t9))
theorem PySem.Challenge.cw_pb0157_01_holds : PySem.Challenge.rw_pb0157_01.Holds :=
  hd (by w_strict (
  k_go0
  (all_goals try k_fold)
  k_steps
  refine Stop.off ?_
  k_dflt (refine' box_ok ?hi ?hlen _ _ _ _ _ _ _ _ _ _ _ _ _ _ _ _ _ _ _ _ _ ?hl ?k1 ?k2 ?k3 ?k4 ?k5 ?kK ?kd ?ku ?_; (case k1 => k_asm); (case k2 => k_asm); (case k3 => k_asm); (case k4 => k_asm); (case k5 => k_asm); (case kK => exact rfl); (case kd => ktr_room); (case ku => ktr_units); (case hl => assumption); (case hi => assumption); (case hlen => omega); k_whole); intro r9 h9 tk9 p9 c9 j9 wj9 vs9 ks9 nc9 nj9 g9 tg9 st9 ts9 tp9 n9 F9 N9 e9 hi9 hlen9 hg9 hst9 hst9' hoff9 hoffc9 hoffj9; subst e9; replace hoff9 := allNe_of hoff9; replace hoffc9 := allNe_of hoffc9; replace hoffj9 := allNe_of hoffj9; simp only [AllNeN, and_true] at hoff9 hoffc9 hoffj9
  obtain ⟨oA1, oA2, oA3, oA4⟩ := hoff9
  obtain ⟨oC1, oC2⟩ := hoffc9
  obtain ⟨oJ1, oJ2⟩ := hoffj9
  k_steps
  refine Stop.off ?_
  rename News _ _ _ _ => NN
  rename Fr _ _ _ _ => FF
  refine wloop rfl FF NN (by k_asm) ?hr0 ?hr ?hg ?hs ?hs' ?turn ?done ?n1 ?n2 ?n3 ?n4 ?n5
  case hr0 => assumption
  case hr => assumption
  case hg => assumption
  case hs => assumption
  case hs' => assumption
  case n1 => k_ne
  case n2 => k_ne
  case n3 => k_ne
  case n4 => k_ne
  case n5 => k_ne
  case done =>
    (repeat (rename News _ _ _ _ => Nz; clear Nz))
    (repeat (rename Fr _ _ _ _ => Nz; clear Nz))
    intro u xs ws nl o2 b2 RR h tk q1 q2 q3 q4 q5 q6 q7 q8 F1 N1
    refine S4 (w := _) (R := _) ⟨by k_asm, by k_asm, _, _, _, _, by k_asm⟩ ⟨⟨_, ?hc, List.mem_cons_of_mem _ q7⟩, ⟨nl, List.mem_cons_of_mem _ q8⟩, q2.mono fun p hp => List.mem_cons_of_mem _ hp, q3, q5⟩ ⟨o2, b2, q1, List.mem_cons_self⟩ F1 N1 rfl rfl ?hQ ?hE
    case hc => k_asm
    case hE => passes_own
    case hQ =>
      intro s' m' R' e1 e2 F2 N2
      clear N1 F1
      k_steps
      refine ⟨.inl ⟨_, _, _, rfl, raisesW_false (by wrow_none_raised), ReadsW.bool _, ?pp, fun _ => ⟨List.nodup_nil, fun _ h => nomatch h⟩⟩, fun b o e => F2.keep b o e, e2, e1.trans (by assumption)⟩
      wrow_post
  case turn =>
    (repeat (rename News _ _ _ _ => Nz; clear Nz))
    (repeat (rename Fr _ _ _ _ => Nz; clear Nz))
    intro I i xs ws nl g st pl tg ts tp n o2 b2 RR tv u oI h tk q1 q2 q3 q4 qa qb q5 q6 q7 q8 q9 q10 q11 q12 q13 q14 q15 q16 q17 q18 q19 F1 N1
    k_steps
    all_goals
      rename News _ _ _ _ => N5
      rename Fr _ _ _ _ => F5
      rename (_ : Nat) < _ => l2
      rename _ ∧ _ ∧ _ ∧ _ ∧ _ ∧ _ ∧ _ ∧ AllLt _ _ => l3
      rename _ ∧ _ ∧ _ ∧ _ ∧ _ ∧ _ ∧ AllLt _ _ => l4
      obtain ⟨b1, b2, b3, b4, b5⟩ := turn_end N5 l4 l3 l2 q2 q3 q4 qa qb q5 q17 q18 q19
      refine ⟨_, _, _, _, rfl, F5, b1, b2, ?_, ?_⟩
      · first
        | exact WJ.next (by k_asm) (q7.mono fun p hp => List.mem_cons_of_mem _ (List.mem_cons_of_mem _ (List.mem_cons_of_mem _ hp))) wishT q8 q10 ⟨tags_len _ (by assumption), by assumption, by dsimp only; omega⟩ (by assumption) (by assumption) (by assumption) (by assumption) (by omega) b3 b4 b5
        | exact WJ.next (by k_asm) (q7.mono fun p hp => List.mem_cons_of_mem _ (List.mem_cons_of_mem _ (List.mem_cons_of_mem _ hp))) wishF q8 q10 ⟨tags_len _ (by assumption), by assumption, by dsimp only; omega⟩ (by assumption) (by assumption) (by assumption) (by assumption) (by omega) b3 b4 b5
      · intro y h1 h2
        simp only [List.contains_cons, List.contains_nil, Bool.or_false, beq_eq_false_iff_ne, ne_eq] at h2
        simp only [h1, h2, if_false, List.contains_cons, List.contains_nil, Bool.or_false, beq_eq_false_iff_ne.mpr h2, Bool.false_eq_true]))

end
