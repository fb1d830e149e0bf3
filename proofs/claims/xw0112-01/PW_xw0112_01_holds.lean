import PyProof.Rows.All
import Wide.All
import OpenK.AllK
import Wide.FinOn
import PySem.Challenge.RW_xw0112_01
open PySem PySem.W PyProof.Rows PySem.Calls
set_option Elab.async false
set_option maxRecDepth 100000
set_option compiler.extract_closed false
set_option maxHeartbeats 40000000
namespace Mine
local macro_rules | `(tactic| o_head $H) => `(tactic| (refine holds_open (q := (PySem.W.view PySem.Challenge.pw_xw0112_01 [1,2,3,4,5,6,7,8,9,10,11,12,14,15,16,18,19,20,21,22,23,24,26,27,28,29,30,31,32,34,35,36,37,38])) (loose := []) (Xt := fun s => xlAt (PySem.W.view PySem.Challenge.pw_xw0112_01 [1,2,3,4,5,6,7,8,9,10,11,12,14,15,16,18,19,20,21,22,23,24,26,27,28,29,30,31,32,34,35,36,37,38]) [] s && recOk (RowW.records (OpenRow.toRowW PySem.Challenge.rw_xw0112_01.row)) s) (XP := XL (PySem.W.view PySem.Challenge.pw_xw0112_01 [1,2,3,4,5,6,7,8,9,10,11,12,14,15,16,18,19,20,21,22,23,24,26,27,28,29,30,31,32,34,35,36,37,38]) []) (Yf := Hook.obs $H) (Ya := Hook.val $H) (YP := Hook.says $H) (N := 3510) ?hl (Hook.of $H) (Hook.keeps $H) (fun s e => xl_of s (Bool.and_eq_true_iff.mp e).1) XL.keeps (by rfl) (by rfl) (by rfl) (fun s e => recFacts_of (Bool.and_eq_true_iff.mp e).2) (by rfl) (by first | assumption | decide +kernel) (by decide +kernel) ⟨rfl, rfl, rfl, rfl, rfl, by decide +kernel⟩ ?hw ?hc))
noncomputable def hd : { T : Prop // T → PySem.Challenge.rw_xw0112_01.Holds } := by
  refine' ⟨_, fun h => _⟩
  rotate_left
  w_on
  o_law
  k_head
  case hw => w_witness2
  case hc => exact h
  case hl =>
    intro w
    delta PySem.W.openEnds PySem.W.fencedOpening PySem.W.topFrom
    rewrite [PySem.W.Fast.te14082659384304107361, PySem.W.Fast.te10274390034422433532, PySem.W.Fast.te14289696077712309145, PySem.W.Fast.te1435165496053646825, PySem.W.Fast.te4187177175401517315, PySem.W.Fast.te14364793385576792824, PySem.W.Fast.te5923862056798008813, PySem.W.Fast.te8920871248978507458]
    kernel_rfl

section



/-- the contract of a call: what stands around it, and what it hands on -/
structure Con (bud : Nat) (f : Addr) (vs : List Value) (news : List (Addr × Obj)) (Ret : Heap → Addr → (Str → Option Value) → Shared → (Value → Shared → Prop) → Prop) : Prop where
  go : ∀ (w : World) (p : Program) (loose : List Str) (mean : ExcName → Option Value) (mg mb : Str → Option Value)
    (dp un : Nat) (gd : Option (List Code)) (cn : Str) (cs : Scope) (a : Addr) (ccd : Value) (cl : List (Str × Addr)) (outer : List Env) (A₀ : Around) (base h₀ : Heap) (L : Addr) (m : Str → Option Value) (s : Shared) (Q E : Value → Shared → Prop),
    Below A₀ base outer h₀ → Fr h₀ L s.heap m → (Mine.hd.heap_39 w.params).In h₀ → News h₀ L s.heap news → Top p loose mean mg mb h₀ → cs.kind = .function →
    dp + bud < recursionLimit → un + 16 * bud < cLine → Ret h₀ L m s Q →
    wpAny (model PySem.Challenge.rw_xw0112_01.row.prog w) (ktrTop dp un gd cn cs L a ccd cl outer) (call (.ref f) vs) Q E s
theorem con_use {bud : Nat} {f : Addr} {vs : List Value} {news : List (Addr × Obj)} {Ret : Heap → Addr → (Str → Option Value) → Shared → (Value → Shared → Prop) → Prop} {w : World} {p : Program} {loose : List Str} {mean : ExcName → Option Value} {mg mb : Str → Option Value}
    {dp un : Nat} {gd : Option (List Code)} {cn : Str} {cs : Scope} {a : Addr} {ccd : Value} {cl : List (Str × Addr)} {outer : List Env} {A₀ : Around} {base h₀ : Heap} {L : Addr} {m : Str → Option Value} {s : Shared} {Q E : Value → Shared → Prop}
    (B : Below A₀ base outer h₀) (F : Fr h₀ L s.heap m) (X : (Mine.hd.heap_39 w.params).In h₀) (N : News h₀ L s.heap news) (T : Top p loose mean mg mb h₀) (hk : cs.kind = .function)
    (c : Con bud f vs news Ret) (hd : dp + bud < recursionLimit) (hu : un + 16 * bud < cLine) (h : Ret h₀ L m s Q) :
    wpAny (model PySem.Challenge.rw_xw0112_01.row.prog w) (ktrTop dp un gd cn cs L a ccd cl outer) (call (.ref f) vs) Q E s :=
  c.go w p loose mean mg mb dp un gd cn cs a ccd cl outer A₀ base h₀ L m s Q E B F X N T hk hd hu h
/-- an int comes back, nothing else is left -/
abbrev RetI (news : List (Addr × Obj)) (x : Int) : Heap → Addr → (Str → Option Value) → Shared → (Value → Shared → Prop) → Prop :=
  fun h₀ L m s Q => ∀ (t : Tok) (h' : Heap) (tk' : Nat), Fr h₀ L h' m → News h₀ L h' news → Q (.int x t) { s with heap := h', toks := tk' }
/-- a new list of one int -/
abbrev RetL (news : List (Addr × Obj)) (x : Int) : Heap → Addr → (Str → Option Value) → Shared → (Value → Shared → Prop) → Prop :=
  fun h₀ L m s Q => ∀ (t : Tok) (r : Addr) (cap : Nat) (h' : Heap) (tk' : Nat), Fr h₀ L h' m → News h₀ L h' ((r, listOf #[.int x t] cap) :: news) → (∀ q ∈ news, q.1 ≠ r) → Q (.ref r) { s with heap := h', toks := tk' }

section
variable {prog : Program} {w : World} {A : Around} {E : Value → Shared → Prop} {s : Shared} {a b c : Int} {t u : Tok} {Q : Value → Shared → Prop}
theorem op_fdiv (hb : 0 < b) (hb2 : b < 1000) (e : a / b = c) (h : Q (.int c s.toks) { s with toks := s.toks + 1 }) : wpAny (model prog w) A (binaryOp .FloorDiv (.int a t) (.int b u)) Q E s :=
  floordiv_int (by omega) (by rw [Int.fdiv_eq_ediv_of_nonneg _ (by omega), e]; exact h) (Or.inl (PyProof.noPylong_small (by omega)))
theorem op_mod (hb : 0 < b) (e : a % b = c) (h : Q (.int c s.toks) { s with toks := s.toks + 1 }) : wpAny (model prog w) A (binaryOp .Mod (.int a t) (.int b u)) Q E s := mod_int' (by omega) (by rw [Int.fmod_eq_emod_of_nonneg _ (by omega), e]; exact h)
theorem op_imod (hb : 0 < b) (e : a % b = c) (h : Q (.int c s.toks) { s with toks := s.toks + 1 }) : wpAny (model prog w) A (inplaceOp .Mod (.int a t) (.int b u)) Q E s := imod_int (by omega) (by rw [Int.fmod_eq_emod_of_nonneg _ (by omega), e]; exact h)
theorem op_and (e : Builtin.bitAnd a b = c) (h : Q (.int c s.toks) { s with toks := s.toks + 1 }) : wpAny (model prog w) A (binaryOp .BitAnd (.int a t) (.int b u)) Q E s := and_int (e ▸ h)
theorem op_or (e : Builtin.bitOr a b = c) (h : Q (.int c s.toks) { s with toks := s.toks + 1 }) : wpAny (model prog w) A (binaryOp .BitOr (.int a t) (.int b u)) Q E s := or_int (e ▸ h)
theorem op_shr (hb : 0 ≤ b) (e : a / 2 ^ b.toNat = c) (h : Q (.int c s.toks) { s with toks := s.toks + 1 }) : wpAny (model prog w) A (binaryOp .RShift (.int a t) (.int b u)) Q E s := rshift_int hb (by rw [Int.fdiv_eq_ediv_of_nonneg _ (Int.le_of_lt (kbt_pos _)), e]; exact h)
theorem op_ishr (hb : 0 ≤ b) (e : a / 2 ^ b.toNat = c) (h : Q (.int c s.toks) { s with toks := s.toks + 1 }) : wpAny (model prog w) A (inplaceOp .RShift (.int a t) (.int b u)) Q E s := irshift_int hb (by rw [Int.fdiv_eq_ediv_of_nonneg _ (Int.le_of_lt (kbt_pos _)), e]; exact h)
theorem op_shl (hb : 0 ≤ b) (hb2 : b ≤ 1000000) (ha : 0 ≤ a) (ha2 : a < 1000000) (e : a * 2 ^ b.toNat = c) (h : Q (.int c s.toks) { s with toks := s.toks + 1 }) : wpAny (model prog w) A (binaryOp .LShift (.int a t) (.int b u)) Q E s := lshift_int_small hb hb2 (by omega) (e ▸ h)
theorem op_pow (hb : 0 ≤ b) (hb2 : b ≤ 1000000) (ha : 0 ≤ a) (ha2 : a < 1000000) (e : a ^ b.toNat = c) (h : Q (.int c s.toks) { s with toks := s.toks + 1 }) : wpAny (model prog w) A (binaryOp .Pow (.int a t) (.int b u)) Q E s := pow_int_small hb hb2 (by omega) (e ▸ h)
theorem op_add (e : a + b = c) (h : Q (.int c s.toks) { s with toks := s.toks + 1 }) : wpAny (model prog w) A (binaryOp .Add (.int a t) (.int b u)) Q E s := add_int (e ▸ h)
theorem op_iadd (e : a + b = c) (h : Q (.int c s.toks) { s with toks := s.toks + 1 }) : wpAny (model prog w) A (inplaceOp .Add (.int a t) (.int b u)) Q E s := iadd_int (e ▸ h)
theorem op_sub (e : a - b = c) (h : Q (.int c s.toks) { s with toks := s.toks + 1 }) : wpAny (model prog w) A (binaryOp .Sub (.int a t) (.int b u)) Q E s := sub_int (e ▸ h)
theorem op_isub (e : a - b = c) (h : Q (.int c s.toks) { s with toks := s.toks + 1 }) : wpAny (model prog w) A (inplaceOp .Sub (.int a t) (.int b u)) Q E s := isub_int (e ▸ h)
theorem op_mul (ha : 0 ≤ a) (ha2 : a < 1000000) (e : a * b = c) (h : Q (.int c s.toks) { s with toks := s.toks + 1 }) : wpAny (model prog w) A (binaryOp .Mult (.int a t) (.int b u)) Q E s := mul_int (e ▸ h) (by mul_fits)
theorem it_sub {h₀ : Heap} {L D : Addr} {news : List (Addr × Obj)} {value slice : PySem.Expr} {its : List Value} {n : Nat} {k : Int} {v : Value} (N : News h₀ L s.heap news) (hm : (D, listOf its.toArray n) ∈ news) (h0 : 0 ≤ k) (hhi : k < 2 ^ 63) (hx : its[k.toNat]? = some v) (h : Q v s)
    (hs : subscripted slice false (.ref D) (.int k u) = operate [.ref D, .int k u] (getItem (.ref D) (.int k u))) :
    wpAny (model prog w) A (subscriptTail value slice (.ref D) (.int k u)) Q E s := item_litK (PySem.IsL.isList (n := n) (N _ hm).1) h0 hhi hx h hs
end
def AllNe (d : Addr) : List (Addr × Obj) → Prop
  | [] => True
  | p :: r => @Ne Nat p.1 d ∧ AllNe d r
theorem allNe_of {d : Addr} : ∀ {l : List (Addr × Obj)}, (∀ p ∈ l, p.1 ≠ d) → AllNe d l
  | [], _ => trivial
  | p :: _, h => ⟨h p (.head _), allNe_of fun q hq => h q (.tail _ hq)⟩
/-- what a call leaves alone: of the ledger all but the few objects that it is handed -/
def Rest (g : Heap) (news news₀ : List (Addr × Obj)) : Prop := ∀ p ∈ news, p.1 ∉ news₀.map (·.1) → g.get? p.1 = some p.2
theorem rest_back {h₀ h h' g : Heap} {L L' : Addr} {m' : Str → Option Value} {news news₀ own : List (Addr × Obj)} (N : News h₀ L h news) (hsub : ∀ p ∈ news₀, p ∈ news) (G : Rest g news news₀) (F' : Fr g L' h' m') (kN : News h₀ L h' own) (hs : ∀ p ∈ news₀, p ∈ own) : News h₀ L h' news := by
  intro p hp
  by_cases hm : p.1 ∈ news₀.map (·.1)
  · obtain ⟨q, hq, e⟩ := List.mem_map.mp hm
    have e1 := (N p hp).1
    have e2 := (N q (hsub q hq)).1
    have e' : q.1 = p.1 := e
    rw [e', e1] at e2
    have e3 : p = q := Prod.ext e'.symm (Option.some.inj e2)
    exact kN p (hs p (e3 ▸ hq))
  · exact ⟨F'.keep _ _ (G p hp hm), (N p hp).2.1, (N p hp).2.2⟩
theorem ne_back {h' g : Heap} {L' r : Addr} {o : Obj} {news news₀ own : List (Addr × Obj)} (G : Rest g news news₀) (N' : News g L' h' own) (hm : (r, o) ∈ own) (h0 : ∀ q ∈ news₀, q.1 ≠ r) : ∀ q ∈ news, q.1 ≠ r := by
  intro q hq
  by_cases hq0 : q.1 ∈ news₀.map (·.1)
  · obtain ⟨q', hq', e⟩ := List.mem_map.mp hq0
    exact fun e' => h0 q' hq' (Eq.trans e e')
  · intro e
    have h1 := G q hq hq0
    have h2 := (N' _ hm).2.2
    rw [e] at h1
    rw [h1] at h2
    cases h2
theorem news_cons {h₀ h : Heap} {L r : Addr} {o : Obj} {news own : List (Addr × Obj)} (kN : News h₀ L h own) (hm : (r, o) ∈ own) (N : News h₀ L h news) : News h₀ L h ((r, o) :: news) := by
  intro p hp
  rcases List.mem_cons.mp hp with rfl | hp
  · exact kN _ hm
  · exact N p hp
section
variable {prog : Program} {w : World} {A₀ A : Around} {s : Shared} {base h₀ : Heap} {outer : List Env} {L : Addr} {m : Str → Option Value} {env : Env} {news news₀ : List (Addr × Obj)} {K : Frag} {p : Program} {loose : List Str} {mean : ExcName → Option Value} {mg mb : Str → Option Value}
  {R : Result → Shared → Prop} {name qual : Str} {params : Arguments} {body : List Stmt} {scope : Scope} {dV kV doc pm cdv ct oc : Value} {an od : Option Addr} {osl : Array (Option Value)} {f : Addr} {args : Args} {binds : List (Str × Value)}
theorem enterR (B : Below A₀ base outer h₀) (F : Fr h₀ L s.heap m) (X₀ : K.In h₀) (N : News h₀ L s.heap news) (T : Top p loose mean mg mb h₀) (hsub : ∀ p ∈ news₀, p ∈ news) (hA : A.frames = some (env :: outer)) (hf : env.frame = some L) (hke : env.scope.kind = .function)
    (ho : K.lookup f = some ⟨oc, od, .func (fnOf name qual params body scope dV kV doc pm an cdv ct), osl⟩) (hcd : codeIn K cdv qual = true) (hroom : A.depth < recursionLimit)
    (hbind : BindsTo s (fnOf name qual params body scope dV kV doc pm an cdv ct) args binds) (hloc : ∀ y ∈ binds, scope.names.lookup y.1 = some .local)
    (h : ∀ g L' h₁, Fr h₀ L g m → Fr g L' h₁ (fun y => binds.reverse.lookup y) → News g L' h₁ news₀ → Below A base (env :: outer) g → K.In g → Top p loose mean mg mb g → Rest g news news₀ →
      wpAny (model prog w) (A.deeper (envOf qual scope L' f cdv)) (execs body (envOf qual scope L' f cdv))
        (fun fl s' => LeaveK h₀ L m g R (match fl with | .ret v => v | _ => .none) s')
        (fun e s' => wpAny (model prog w) (A.deeper (envOf qual scope L' f cdv)) (leaving (envOf qual scope L' f cdv) e) (fun _ s'' => R (.error e) s'') (fun e' s'' => R (.error e') s'') s')
        { s with heap := h₁, toks := s.toks + binds.length })
    (hco : scope.isCoroutine = false) (hgen : scope.isGenerator = false) (hk : scope.kind = .function) (hcell : ∀ x ∈ scope.names, x.2 ≠ .cell) : codeAny (model prog w) A (.call (.ref f) args) R s := by
  have N₀ : News h₀ L s.heap news₀ := fun p hp => N p (hsub p hp)
  obtain ⟨FG, BG, st, lv⟩ := groundX (R := R) B F N₀ hA hf hke
  have hX := X₀.keeps F.keep
  refine codeAny_call_def (fd := fnX name qual params body scope [] dV kV doc pm an cdv ct) (body := body) (binds := binds) hroom (hX _ _ ho) rfl (T.nolimit.keeps F.keep) (codeRec_of hX hcd) rfl hbind hcell hloc (fun h₁ hns hk₁ => ?_) hco hgen hk
  exact wpAny_mono (h _ s.heap.objs.size h₁ FG ⟨hns, fun b o e => hk₁ b o (of_hideAll _ e), Nat.le_of_eq (hideAll_size _ _)⟩
    (fun p hp => ⟨hk₁ _ _ (N₀ p hp).1, Nat.ne_of_lt (Heap.lt_size (N₀ p hp).1), hideAll_none _ (List.mem_map_of_mem hp)⟩) BG (X₀.keeps st) (T.keeps st)
    (fun p hp hn => hideAll_get _ (N p hp).1 hn)) (fun fl s' hl => lv _ _ hl) fun _ _ y => y
end
theorem ret_i {news news' : List (Addr × Obj)} {x y : Int} {h₀ h' : Heap} {L : Addr} {m : Str → Option Value} {s : Shared} {Q : Value → Shared → Prop} {t : Tok} {tk' : Nat} (ret : RetI news x h₀ L m s Q) (e : y = x) (F : Fr h₀ L h' m) (N : News h₀ L h' news') (hs : ∀ p ∈ news, p ∈ news') : Q (.int y t) { s with heap := h', toks := tk' } := by
  subst e
  exact ret t h' tk' F fun p hp => N p (hs p hp)
theorem ret_l {news news' : List (Addr × Obj)} {x y : Int} {h₀ h' : Heap} {L r : Addr} {cap : Nat} {m : Str → Option Value} {s : Shared} {Q : Value → Shared → Prop} {t : Tok} {tk' : Nat} (ret : RetL news x h₀ L m s Q) (e : y = x) (F : Fr h₀ L h' m) (N : News h₀ L h' news') (hm : (r, listOf #[.int y t] cap) ∈ news') (hs : ∀ p ∈ news, p ∈ news') (hlt : ∀ q ∈ news, q.1 ≠ r) : Q (.ref r) { s with heap := h', toks := tk' } := by
  subst e
  refine ret t r cap h' tk' F (fun p hp => ?_) hlt
  rcases List.mem_cons.mp hp with rfl | hp
  · exact N _ hm
  · exact N p (hs p hp)
/-- a new list of two ints -/
abbrev RetL2 (news : List (Addr × Obj)) (x y : Int) : Heap → Addr → (Str → Option Value) → Shared → (Value → Shared → Prop) → Prop :=
  fun h₀ L m s Q => ∀ (t t' : Tok) (r : Addr) (cap : Nat) (h' : Heap) (tk' : Nat), Fr h₀ L h' m → News h₀ L h' ((r, listOf #[.int x t, .int y t'] cap) :: news) → (∀ q ∈ news, q.1 ≠ r) → Q (.ref r) { s with heap := h', toks := tk' }
theorem ret_l2 {news : List (Addr × Obj)} {x y x' y' : Int} {h₀ h' : Heap} {L r : Addr} {cap : Nat} {m : Str → Option Value} {s : Shared} {Q : Value → Shared → Prop} {t t' : Tok} {tk' : Nat} (ret : RetL2 news x y h₀ L m s Q) (e : x' = x ∧ y' = y) (F : Fr h₀ L h' m) (N : News h₀ L h' ((r, listOf #[.int x' t, .int y' t'] cap) :: news)) (hlt : ∀ q ∈ news, q.1 ≠ r) : Q (.ref r) { s with heap := h', toks := tk' } := by
  obtain ⟨rfl, rfl⟩ := e
  exact ret t t' r cap h' tk' F N hlt
/-- a reference comes back, of which nothing is told -/
abbrev RetR (news : List (Addr × Obj)) : Heap → Addr → (Str → Option Value) → Shared → (Value → Shared → Prop) → Prop :=
  fun h₀ L m s Q => ∀ (r : Addr) (h' : Heap) (tk' : Nat), Fr h₀ L h' m → News h₀ L h' news → Q (.ref r) { s with heap := h', toks := tk' }
/-- a new list of no item -/
abbrev RetL0 (news : List (Addr × Obj)) : Heap → Addr → (Str → Option Value) → Shared → (Value → Shared → Prop) → Prop :=
  fun h₀ L m s Q => ∀ (r : Addr) (cap : Nat) (h' : Heap) (tk' : Nat), Fr h₀ L h' m → News h₀ L h' ((r, listOf #[] cap) :: news) → (∀ q ∈ news, q.1 ≠ r) → Q (.ref r) { s with heap := h', toks := tk' }
/-- a new tuple of two lists: of the first nothing is told, the second is new and holds one int -/
abbrev RetTL (news : List (Addr × Obj)) (x : Int) : Heap → Addr → (Str → Option Value) → Shared → (Value → Shared → Prop) → Prop :=
  fun h₀ L m s Q => ∀ (t : Tok) (q r d : Addr) (cap : Nat) (h' : Heap) (tk' : Nat), Fr h₀ L h' m → News h₀ L h' ((d, { cls := .type "tuple", data := .seq #[.ref q, .ref r] }) :: (r, listOf #[.int x t] cap) :: news) → (∀ q ∈ news, q.1 ≠ r) → (∀ q ∈ news, q.1 ≠ d) → @Ne Nat r d → Q (.ref d) { s with heap := h', toks := tk' }
theorem ret_tl {news : List (Addr × Obj)} {x x' : Int} {h₀ h' : Heap} {L q r d : Addr} {cap : Nat} {m : Str → Option Value} {s : Shared} {Q : Value → Shared → Prop} {t : Tok} {tk' : Nat} (ret : RetTL news x h₀ L m s Q) (e : x' = x) (F : Fr h₀ L h' m) (N : News h₀ L h' ((d, { cls := .type "tuple", data := .seq #[.ref q, .ref r] }) :: (r, listOf #[.int x' t] cap) :: news)) (h1 : ∀ q ∈ news, q.1 ≠ r) (h2 : ∀ q ∈ news, q.1 ≠ d) (h3 : @Ne Nat r d) : Q (.ref d) { s with heap := h', toks := tk' } := by
  subst e
  exact ret t q r d cap h' tk' F N h1 h2 h3
/-- the same, the second list without an item -/
abbrev RetTN (news : List (Addr × Obj)) : Heap → Addr → (Str → Option Value) → Shared → (Value → Shared → Prop) → Prop :=
  fun h₀ L m s Q => ∀ (q r d : Addr) (cap : Nat) (h' : Heap) (tk' : Nat), Fr h₀ L h' m → News h₀ L h' ((d, { cls := .type "tuple", data := .seq #[.ref q, .ref r] }) :: (r, listOf #[] cap) :: news) → (∀ q ∈ news, q.1 ≠ r) → (∀ q ∈ news, q.1 ≠ d) → @Ne Nat r d → Q (.ref d) { s with heap := h', toks := tk' }
theorem ret_l0 {news : List (Addr × Obj)} {h₀ h' : Heap} {L r : Addr} {cap : Nat} {m : Str → Option Value} {s : Shared} {Q : Value → Shared → Prop} {tk' : Nat} (ret : RetL0 news h₀ L m s Q) (F : Fr h₀ L h' m) (N : News h₀ L h' ((r, listOf #[] cap) :: news)) (hlt : ∀ q ∈ news, q.1 ≠ r) : Q (.ref r) { s with heap := h', toks := tk' } := ret r cap h' tk' F N hlt
theorem ret_r {news : List (Addr × Obj)} {h₀ h' : Heap} {L r : Addr} {m : Str → Option Value} {s : Shared} {Q : Value → Shared → Prop} {tk' : Nat} (ret : RetR news h₀ L m s Q) (F : Fr h₀ L h' m) (N : News h₀ L h' news) : Q (.ref r) { s with heap := h', toks := tk' } := ret r h' tk' F N
theorem ret_tn {news : List (Addr × Obj)} {h₀ h' : Heap} {L q r d : Addr} {cap : Nat} {m : Str → Option Value} {s : Shared} {Q : Value → Shared → Prop} {tk' : Nat} (ret : RetTN news h₀ L m s Q) (F : Fr h₀ L h' m) (N : News h₀ L h' ((d, { cls := .type "tuple", data := .seq #[.ref q, .ref r] }) :: (r, listOf #[] cap) :: news)) (h1 : ∀ q ∈ news, q.1 ≠ r) (h2 : ∀ q ∈ news, q.1 ≠ d) (h3 : @Ne Nat r d) : Q (.ref d) { s with heap := h', toks := tk' } := ret q r d cap h' tk' F N h1 h2 h3
/-- a new tuple of a list and an int -/
abbrev RetT (news : List (Addr × Obj)) (x : Int) : Heap → Addr → (Str → Option Value) → Shared → (Value → Shared → Prop) → Prop :=
  fun h₀ L m s Q => ∀ (t : Tok) (q r : Addr) (h' : Heap) (tk' : Nat), Fr h₀ L h' m → News h₀ L h' ((r, { cls := .type "tuple", data := .seq #[.ref q, .int x t] }) :: news) → (∀ q ∈ news, q.1 ≠ r) → Q (.ref r) { s with heap := h', toks := tk' }
theorem ret_t {news : List (Addr × Obj)} {x x' : Int} {h₀ h' : Heap} {L q r : Addr} {m : Str → Option Value} {s : Shared} {Q : Value → Shared → Prop} {t : Tok} {tk' : Nat} (ret : RetT news x h₀ L m s Q) (e : x' = x) (F : Fr h₀ L h' m) (N : News h₀ L h' ((r, { cls := .type "tuple", data := .seq #[.ref q, .int x' t] }) :: news)) (hlt : ∀ q ∈ news, q.1 ≠ r) : Q (.ref r) { s with heap := h', toks := tk' } := by
  subst e
  exact ret t q r h' tk' F N hlt
theorem ne_use {L : List (Addr × Obj)} {a r : Addr} {o : Obj} (h : ∀ q ∈ L, q.1 ≠ r) (hm : (a, o) ∈ L) : @Ne Nat a r := h _ hm
theorem ne_use' {L : List (Addr × Obj)} {a r : Addr} {o : Obj} (h : ∀ q ∈ L, q.1 ≠ r) (hm : (a, o) ∈ L) : @Ne Nat r a := fun e => h _ hm e.symm
/-- the room of a call, from the room of the def that stands around it -/
theorem rm0 {d B lim : Nat} (h : d + B < lim) : d < lim := Nat.lt_of_le_of_lt (Nat.le_add_right d B) h
theorem rm2 {d a B lim : Nat} (h : d + B < lim) (e : Nat.ble a B = true) : d + a < lim := Nat.lt_of_le_of_lt (Nat.add_le_add_left (Nat.le_of_ble_eq_true e) d) h
theorem rm1 {d a b B lim : Nat} (h : d + B < lim) (e : Nat.ble (a + b) B = true) : d + a + b < lim := Nat.add_assoc d a b ▸ rm2 h e
section
variable {a b c d e f g i j k l m n o p q r : Prop}
theorem c1 (h : p ∧ q) : p := h.1
theorem c2 (h : a ∧ p ∧ q) : p := h.2.1
theorem c3 (h : a ∧ b ∧ p ∧ q) : p := h.2.2.1
theorem c4 (h : a ∧ b ∧ c ∧ p ∧ q) : p := h.2.2.2.1
theorem c5 (h : a ∧ b ∧ c ∧ d ∧ p ∧ q) : p := h.2.2.2.2.1
theorem c6 (h : a ∧ b ∧ c ∧ d ∧ e ∧ p ∧ q) : p := h.2.2.2.2.2.1
theorem c7 (h : a ∧ b ∧ c ∧ d ∧ e ∧ f ∧ p ∧ q) : p := h.2.2.2.2.2.2.1
theorem c8 (h : a ∧ b ∧ c ∧ d ∧ e ∧ f ∧ g ∧ p ∧ q) : p := h.2.2.2.2.2.2.2.1
theorem c9 (h : a ∧ b ∧ c ∧ d ∧ e ∧ f ∧ g ∧ i ∧ p ∧ q) : p := h.2.2.2.2.2.2.2.2.1
theorem c10 (h : a ∧ b ∧ c ∧ d ∧ e ∧ f ∧ g ∧ i ∧ j ∧ p ∧ q) : p := h.2.2.2.2.2.2.2.2.2.1
theorem c11 (h : a ∧ b ∧ c ∧ d ∧ e ∧ f ∧ g ∧ i ∧ j ∧ k ∧ p ∧ q) : p := h.2.2.2.2.2.2.2.2.2.2.1
theorem c12 (h : a ∧ b ∧ c ∧ d ∧ e ∧ f ∧ g ∧ i ∧ j ∧ k ∧ l ∧ p ∧ q) : p := h.2.2.2.2.2.2.2.2.2.2.2.1
theorem c13 (h : a ∧ b ∧ c ∧ d ∧ e ∧ f ∧ g ∧ i ∧ j ∧ k ∧ l ∧ m ∧ p ∧ q) : p := h.2.2.2.2.2.2.2.2.2.2.2.2.1
theorem c14 (h : a ∧ b ∧ c ∧ d ∧ e ∧ f ∧ g ∧ i ∧ j ∧ k ∧ l ∧ m ∧ n ∧ p ∧ q) : p := h.2.2.2.2.2.2.2.2.2.2.2.2.2.1
theorem c15 (h : a ∧ b ∧ c ∧ d ∧ e ∧ f ∧ g ∧ i ∧ j ∧ k ∧ l ∧ m ∧ n ∧ o ∧ p ∧ q) : p := h.2.2.2.2.2.2.2.2.2.2.2.2.2.2.1
theorem c16 (h : a ∧ b ∧ c ∧ d ∧ e ∧ f ∧ g ∧ i ∧ j ∧ k ∧ l ∧ m ∧ n ∧ o ∧ r ∧ p ∧ q) : p := h.2.2.2.2.2.2.2.2.2.2.2.2.2.2.2.1
end
theorem nl {a b : Nat} (h : a < b) : a ≠ b := Nat.ne_of_lt h
theorem nr {a b : Nat} (h : b < a) : a ≠ b := Nat.ne_of_gt h
theorem s1 {a : Nat} : a ≠ a + 1 := Nat.ne_of_lt (Nat.lt_add_of_pos_right (k := 1) (by decide))
theorem d1 {a : Nat} : a + 1 ≠ a := Nat.ne_of_gt (Nat.lt_add_of_pos_right (k := 1) (by decide))
theorem s2 {a : Nat} : a ≠ a + 1 + 1 := Nat.ne_of_lt (Nat.lt_add_of_pos_right (k := 2) (by decide))
theorem d2 {a : Nat} : a + 1 + 1 ≠ a := Nat.ne_of_gt (Nat.lt_add_of_pos_right (k := 2) (by decide))
theorem s3 {a : Nat} : a ≠ a + 1 + 1 + 1 := Nat.ne_of_lt (Nat.lt_add_of_pos_right (k := 3) (by decide))
theorem d3 {a : Nat} : a + 1 + 1 + 1 ≠ a := Nat.ne_of_gt (Nat.lt_add_of_pos_right (k := 3) (by decide))
theorem s4 {a : Nat} : a ≠ a + 1 + 1 + 1 + 1 := Nat.ne_of_lt (Nat.lt_add_of_pos_right (k := 4) (by decide))
theorem d4 {a : Nat} : a + 1 + 1 + 1 + 1 ≠ a := Nat.ne_of_gt (Nat.lt_add_of_pos_right (k := 4) (by decide))
theorem s5 {a : Nat} : a ≠ a + 1 + 1 + 1 + 1 + 1 := Nat.ne_of_lt (Nat.lt_add_of_pos_right (k := 5) (by decide))
theorem d5 {a : Nat} : a + 1 + 1 + 1 + 1 + 1 ≠ a := Nat.ne_of_gt (Nat.lt_add_of_pos_right (k := 5) (by decide))
theorem s6 {a : Nat} : a ≠ a + 1 + 1 + 1 + 1 + 1 + 1 := Nat.ne_of_lt (Nat.lt_add_of_pos_right (k := 6) (by decide))
theorem d6 {a : Nat} : a + 1 + 1 + 1 + 1 + 1 + 1 ≠ a := Nat.ne_of_gt (Nat.lt_add_of_pos_right (k := 6) (by decide))
theorem s7 {a : Nat} : a ≠ a + 1 + 1 + 1 + 1 + 1 + 1 + 1 := Nat.ne_of_lt (Nat.lt_add_of_pos_right (k := 7) (by decide))
theorem d7 {a : Nat} : a + 1 + 1 + 1 + 1 + 1 + 1 + 1 ≠ a := Nat.ne_of_gt (Nat.lt_add_of_pos_right (k := 7) (by decide))
theorem z1 {a b : Nat} {p : Prop} (h : a < b ∧ p) : a ≠ b + 1 := Nat.ne_of_lt (Nat.lt_add_right 1 h.1)
theorem z2 {a b : Nat} {p : Prop} (h : a < b ∧ p) : a ≠ b + 1 + 1 := Nat.ne_of_lt (Nat.lt_add_right 2 h.1)
theorem z3 {a b : Nat} {p : Prop} (h : a < b ∧ p) : a ≠ b + 1 + 1 + 1 := Nat.ne_of_lt (Nat.lt_add_right 3 h.1)
theorem z4 {a b : Nat} {p : Prop} (h : a < b ∧ p) : a ≠ b + 1 + 1 + 1 + 1 := Nat.ne_of_lt (Nat.lt_add_right 4 h.1)
theorem z5 {a b : Nat} {p : Prop} (h : a < b ∧ p) : a ≠ b + 1 + 1 + 1 + 1 + 1 := Nat.ne_of_lt (Nat.lt_add_right 5 h.1)
theorem z6 {a b : Nat} {p : Prop} (h : a < b ∧ p) : a ≠ b + 1 + 1 + 1 + 1 + 1 + 1 := Nat.ne_of_lt (Nat.lt_add_right 6 h.1)
theorem z7 {a b : Nat} {p : Prop} (h : a < b ∧ p) : a ≠ b + 1 + 1 + 1 + 1 + 1 + 1 + 1 := Nat.ne_of_lt (Nat.lt_add_right 7 h.1)
theorem z8 {a b : Nat} {p : Prop} (h : a < b ∧ p) : a ≠ b + 1 + 1 + 1 + 1 + 1 + 1 + 1 + 1 := Nat.ne_of_lt (Nat.lt_add_right 8 h.1)
theorem nl1 {a b : Nat} (h : a < b) : a ≠ b + 1 := Nat.ne_of_lt (Nat.lt_succ_of_lt h)
theorem nr1 {a b : Nat} (h : b < a) : a + 1 ≠ b := Nat.ne_of_gt (Nat.lt_succ_of_lt h)
theorem i1 {a c x : Int} (h : a ≤ x) (e : c < a) : c < x := Int.lt_of_lt_of_le e h
theorem i2 {a c x : Int} (h : a ≤ x) (e : c ≤ a) : c ≤ x := Int.le_trans e h
theorem i3 {a c x : Int} (h : a < x) (e : c ≤ a) : c ≤ x := Int.le_of_lt (Int.lt_of_le_of_lt e h)
theorem i4 {a c x : Int} (h : x < a) (e : a ≤ c) : x < c := Int.lt_of_lt_of_le h e
theorem i5 {a c x : Int} (h : x ≤ a) (e : a < c) : x < c := Int.lt_of_le_of_lt h e
theorem i6 {a c x : Int} (h : x ≤ a) (e : a ≤ c) : x ≤ c := Int.le_trans h e
theorem i7 {a c x : Int} (h : x < a) (e : a ≤ c) : x ≤ c := Int.le_of_lt (Int.lt_of_lt_of_le h e)
theorem rs0 {z : Int} (h : z = ((0 : Nat) : Int)) : z = ((0 : Nat) : Int) := h
theorem rs1 {z : Int} (h : z = ((1 : Nat) : Int)) : z = ((1 : Nat) : Int) := h
theorem rs2 {z : Int} (h : z = ((2 : Nat) : Int)) : z = ((2 : Nat) : Int) := h
theorem rs3 {z : Int} (h : z = ((3 : Nat) : Int)) : z = ((3 : Nat) : Int) := h
theorem rs4 {z : Int} (h : z = ((4 : Nat) : Int)) : z = ((4 : Nat) : Int) := h
theorem rs5 {z : Int} (h : z = ((5 : Nat) : Int)) : z = ((5 : Nat) : Int) := h
theorem rs6 {z : Int} (h : z = ((6 : Nat) : Int)) : z = ((6 : Nat) : Int) := h
theorem rs7 {z : Int} (h : z = ((7 : Nat) : Int)) : z = ((7 : Nat) : Int) := h

end
local macro_rules | `(tactic| wtm_at "ra") => `(tactic| with_reducible assumption)
local macro_rules | `(tactic| wtm_at "rm") => `(tactic| first | exact rm1 (by assumption) (by exact rfl) | exact rm2 (by assumption) (by exact rfl) | exact rm0 (by assumption) | decide)
local macro_rules | `(tactic| ktr_room) => `(tactic| wtm_at "rm")
local macro_rules | `(tactic| ktr_units) => `(tactic| wtm_at "rm")
local macro_rules | `(tactic| units_room) => `(tactic| wtm_at "rm")
local macro_rules | `(tactic| k_lt $h) => `(tactic| (replace $h := allLt_of $h; dsimp only [AllLt] at $h:ident))
local macro_rules | `(tactic| wtm_at "m_lt2") => `(tactic| first | exact c9 (by assumption) | exact c10 (by assumption) | exact c11 (by assumption) | exact c12 (by assumption) | exact c13 (by assumption) | exact c14 (by assumption) | exact c15 (by assumption) | exact c16 (by assumption))
local macro_rules | `(tactic| wtm_at "m_lt") => `(tactic| first | assumption | exact c1 (by assumption) | exact c2 (by assumption) | exact c3 (by assumption) | exact c4 (by assumption) | exact c5 (by assumption) | exact c6 (by assumption) | exact c7 (by assumption) | exact c8 (by assumption) | wtm_at "m_lt2")
local macro_rules | `(tactic| wtm_at "m_of") => `(tactic| first | exact s1 | exact d1 | exact s2 | exact d2 | exact s3 | exact d3 | exact s4 | exact d4 | exact s5 | exact d5 | exact s6 | exact d6 | exact s7 | exact d7)
local macro_rules | `(tactic| wtm_at "m_z") => `(tactic| first | exact z1 (by assumption) | exact z2 (by assumption) | exact z3 (by assumption) | exact z4 (by assumption) | exact z5 (by assumption) | exact z6 (by assumption) | exact z7 (by assumption) | exact z8 (by assumption))
local macro_rules | `(tactic| wtm_at "m_ltn") => `(tactic| first | exact nr (by wtm_at "m_lt") | exact nl (by wtm_at "m_lt") | wtm_at "m_lt" | exact Ne.symm (by wtm_at "m_lt") | exact nl1 (by wtm_at "m_lt") | exact nr1 (by wtm_at "m_lt") | wtm_at "m_z" | exact Ne.symm (by wtm_at "m_z"))
local macro_rules | `(tactic| wtm_at "om1") => `(tactic| first | exact i1 (by wtm_at "ra") (by decide) | exact i2 (by wtm_at "ra") (by decide) | exact i3 (by wtm_at "ra") (by decide) | exact i4 (by wtm_at "ra") (by decide) | exact i5 (by wtm_at "ra") (by decide) | exact i6 (by wtm_at "ra") (by decide) | exact i7 (by wtm_at "ra") (by decide))
local macro_rules | `(tactic| wtm_at "om2") => `(tactic| (law_clear; (with_reducible (repeat (rename _ ∧ _ => hh; clear hh))); (with_reducible (repeat (rename @Ne Nat _ _ => hh; clear hh))); omega))
local macro_rules | `(tactic| wtm_at "om0") => `(tactic| first | wtm_at "ra" | decide | wtm_at "om1")
local macro_rules | `(tactic| wtm_at "om") => `(tactic| first | wtm_at "om0" | wtm_at "om2")
local macro_rules | `(tactic| wtm_at "kfn") => `(tactic| first | exact rfl | assumption)
local macro_rules | `(tactic| wtm_at "cuse") => `(tactic| k_dflt (refine con_use (by k_asm) (by k_asm) (by k_asm) (by k_asm) (by k_asm) (by wtm_at "kfn") (by wtm_at "con") (by ktr_room) (by ktr_units) ?_))
local macro_rules | `(tactic| walk_at "call ref cons nil") => `(tactic| (k_here; (with_reducible show wpAny _ _ (call (Value.ref _) _) _ _ _); wtm_at "cuse"; intro _; intros))
local macro_rules | `(tactic| wtm_at "m_memr") => `(tactic| first | exact List.mem_cons_self | (refine List.mem_cons_of_mem _ ?_; wtm_at "m_memr") | fail "m_memr")
local macro_rules | `(tactic| wtm_at "m_neq") => `(tactic| with_reducible first | wtm_at "m_of" | exact ne_use (by assumption) (by wtm_at "m_memr") | exact ne_use' (by assumption) (by wtm_at "m_memr") | wtm_at "m_ltn")
local macro_rules | `(tactic| k_ne) => `(tactic| (refine neN ?_; (try dsimp only); wtm_at "m_neq"))
local macro_rules | `(tactic| wtm_at "m_arith") => `(tactic| first | assumption | wtm_at "om" | decide)
local macro_rules | `(tactic| walk_at "WhlIf") => `(tactic| refine WhlIf.no (decide_eq_false (by wtm_at "om")) ?_)
local macro_rules | `(tactic| walk_at "WhlIf") => `(tactic| refine WhlIf.yes (decide_eq_true (by wtm_at "om")) ?_)
local macro_rules | `(tactic| wtm_at "m_whl") => `(tactic| (k_here; k_dflt (refine whl_start 100 ?_)))
local macro_rules | `(tactic| walk_at "exec While Compare cons nil") => `(tactic| wtm_at "m_whl")
local macro_rules | `(tactic| walk_at "exec While BoolOp cons nil") => `(tactic| wtm_at "m_whl")
local macro_rules | `(tactic| wtm_at "e_rb") => `(tactic| exact rest_back (by assumption) (by assumption) (by assumption) (by assumption) (by assumption) (by wtm_at "m_sub"))
local macro_rules | `(tactic| wtm_at "e_ne") => `(tactic| exact ne_back (by assumption) (by assumption) (by wtm_at "m_mem") (by k_all))
local macro_rules | `(tactic| wtm_at "e_n1") => `(tactic| exact news_cons (by assumption) (by wtm_at "m_mem") (by wtm_at "e_rb"))
local macro_rules | `(tactic| wtm_at "e_n2") => `(tactic| exact news_cons (by assumption) (by wtm_at "m_mem") (by wtm_at "e_n1"))
local macro_rules | `(tactic| wtm_at "end_rl") => `(tactic| refine ret_l (by assumption) ?e1 (by k_asm) (by wtm_at "e_n1") List.mem_cons_self (fun p hp => List.mem_cons_of_mem _ hp) (by wtm_at "e_ne"))
local macro_rules | `(tactic| wtm_at "end_rl2") => `(tactic| refine ret_l2 (by assumption) ?e1 (by k_asm) (by wtm_at "e_n1") (by wtm_at "e_ne"))
local macro_rules | `(tactic| wtm_at "end_rt") => `(tactic| refine ret_t (by assumption) ?e1 (by k_asm) (by wtm_at "e_n1") (by wtm_at "e_ne"))
local macro_rules | `(tactic| wtm_at "end_rl0") => `(tactic| exact ret_l0 (by assumption) (by k_asm) (by wtm_at "e_n1") (by wtm_at "e_ne"))
local macro_rules | `(tactic| wtm_at "end_rr") => `(tactic| exact ret_r (by assumption) (by k_asm) (by wtm_at "e_rb"))
local macro_rules | `(tactic| wtm_at "end_rtl") => `(tactic| refine ret_tl (by assumption) ?e1 (by k_asm) (by wtm_at "e_n2") (by wtm_at "e_ne") (by wtm_at "e_ne") (by k_ne))
local macro_rules | `(tactic| wtm_at "end_rtn") => `(tactic| exact ret_tn (by assumption) (by k_asm) (by wtm_at "e_n2") (by wtm_at "e_ne") (by wtm_at "e_ne") (by k_ne))
local macro_rules | `(tactic| wtm_at "m_sub") => `(tactic| first | exact List.forall_mem_nil _ | exact List.forall_mem_cons.mpr ⟨by wtm_at "m_mem", by wtm_at "m_sub"⟩)
local macro_rules | `(tactic| wtm_at "m_mem") => `(tactic| first | assumption | exact List.mem_cons_self | (refine List.mem_cons_of_mem _ ?_; wtm_at "m_mem"))
local macro_rules | `(tactic| wtm_at "m_val") => `(tactic| first | assumption | ((simp only [Int.reduceAdd, Int.reduceSub, Int.reduceMul, Int.reduceDiv, Int.reduceMod, Int.reducePow, Int.reduceNeg, Int.reduceToNat]); (try exact rfl)) | exact rfl)
local macro_rules | `(tactic| walk_at "binaryOp FloorDiv int int") => `(tactic| refine op_fdiv (by wtm_at "om") (by wtm_at "om") (by wtm_at "m_val") ?_)
local macro_rules | `(tactic| walk_at "binaryOp Mod int int") => `(tactic| refine op_mod (by wtm_at "om") (by wtm_at "m_val") ?_)
local macro_rules | `(tactic| walk_at "binaryOp BitAnd int int") => `(tactic| refine op_and (by wtm_at "m_val") ?_)
local macro_rules | `(tactic| walk_at "binaryOp BitOr int int") => `(tactic| refine op_or (by wtm_at "m_val") ?_)
local macro_rules | `(tactic| walk_at "binaryOp RShift int int") => `(tactic| refine op_shr (by wtm_at "om") (by wtm_at "m_val") ?_)
local macro_rules | `(tactic| walk_at "binaryOp LShift int int") => `(tactic| refine op_shl (by wtm_at "om") (by wtm_at "om") (by wtm_at "om") (by wtm_at "om") (by wtm_at "m_val") ?_)
local macro_rules | `(tactic| walk_at "binaryOp Pow int int") => `(tactic| refine op_pow (by wtm_at "om") (by wtm_at "om") (by wtm_at "om") (by wtm_at "om") (by wtm_at "m_val") ?_)
local macro_rules | `(tactic| walk_at "binaryOp Add int int") => `(tactic| refine op_add (by wtm_at "m_val") ?_)
local macro_rules | `(tactic| walk_at "binaryOp Sub int int") => `(tactic| refine op_sub (by wtm_at "m_val") ?_)
local macro_rules | `(tactic| walk_at "binaryOp Mult int int") => `(tactic| refine op_mul (by wtm_at "om") (by wtm_at "om") (by wtm_at "m_val") ?_)
local macro_rules | `(tactic| walk_at "inplaceOp Mod int int") => `(tactic| refine op_imod (by wtm_at "om") (by wtm_at "m_val") ?_)
local macro_rules | `(tactic| walk_at "inplaceOp RShift int int") => `(tactic| refine op_ishr (by wtm_at "om") (by wtm_at "m_val") ?_)
local macro_rules | `(tactic| walk_at "inplaceOp Add int int") => `(tactic| refine op_iadd (by wtm_at "m_val") ?_)
local macro_rules | `(tactic| walk_at "inplaceOp Sub int int") => `(tactic| refine op_isub (by wtm_at "m_val") ?_)
local macro_rules | `(tactic| wtm_at "m_sub0") => `(tactic| (k_here; (with_reducible show wpAny _ _ (subscriptTail _ _ (Value.ref _) (Value.int _ _)) _ _ _); k_dflt (refine it_sub (by k_asm) (by wtm_at "m_mem") (by decide) (by decide) (by exact rfl) ?_ (by with_unfolding_all rfl))))
local macro_rules | `(tactic| walk_at "subscriptTail Name Name ref int") => `(tactic| wtm_at "m_sub0")
local macro_rules | `(tactic| walk_at "subscriptTail Name BinOp ref int") => `(tactic| wtm_at "m_sub0")
local macro_rules | `(tactic| walk_at "subscriptTail Name Constant ref int") => `(tactic| wtm_at "m_sub0")
local macro_rules | `(tactic| walk_at "subscriptTail Subscript") => `(tactic| wtm_at "m_sub0")
local macro_rules | `(tactic| wtm_at "rnn") => `(tactic| first | exact rs1 (by decide) | exact rs2 (by decide) | exact rs3 (by decide) | exact rs4 (by decide) | exact rs5 (by decide) | exact rs6 (by decide) | exact rs0 (by decide) | exact rs7 (by decide))
local macro_rules | `(tactic| wtm_at "rn") => `(tactic| first | refine iter_rangeUnr rfl (by assumption) (by decide) (by wtm_at "rnn") (by assumption) (by assumption) ?_ | refine krs_iter rfl (by assumption) (by decide) (by wtm_at "rnn") (by assumption) (by assumption) ?_)
local macro_rules | `(tactic| walk_at "pyIter ref") => `(tactic| ((with_reducible show wpAny _ _ (pyIter (Value.ref _)) (fun it s₂ => LoopAtV _ _ _ _ _ _ _ _ _ it s₂) _ _); with_unfolding_all wtm_at "rn"; intro i' l1; (try k_lt l1)))
section
theorem st {a k : Int} (h : a ≤ k) : k = a ∨ a + 1 ≤ k := (Int.lt_or_eq_of_le h).symm.imp Eq.symm id
theorem wd4 {k : Int} (h : 6 ≤ k) (h9 : k ≤ 9) : k = 6 ∨ k = 7 ∨ k = 8 ∨ k = 9 := (st h).imp_right fun h => (st h).imp_right fun h => (st h).imp_right fun h => Int.le_antisymm h9 h
theorem k7 {k : Int} (h : 1 ≤ k) (h7 : k ≤ 7) : k = 1 ∨ k = 2 ∨ k = 3 ∨ k = 4 ∨ k = 5 ∨ k = 6 ∨ k = 7 := (st h).imp_right fun h => (st h).imp_right fun h => (st h).imp_right fun h => (st h).imp_right fun h => (st h).imp_right fun h => (st h).imp_right fun h => Int.le_antisymm h7 h
theorem k6 {k : Int} (h : 1 ≤ k) (h6 : k ≤ 6) : k = 1 ∨ k = 2 ∨ k = 3 ∨ k = 4 ∨ k = 5 ∨ k = 6 := (st h).imp_right fun h => (st h).imp_right fun h => (st h).imp_right fun h => (st h).imp_right fun h => (st h).imp_right fun h => Int.le_antisymm h6 h
theorem pw_ge {wd : Int} (hw : 6 ≤ wd) (hw2 : wd ≤ 9) : (64 : Int) ≤ 2 ^ wd.toNat := by
  rcases wd4 hw hw2 with rfl | rfl | rfl | rfl <;> decide
theorem pw_lt {wd : Int} (hw : 6 ≤ wd) (hw2 : wd ≤ 9) : (2 : Int) ^ wd.toNat < 1000 := by
  rcases wd4 hw hw2 with rfl | rfl | rfl | rfl <;> decide
theorem bit_c (news : List (Addr × Obj)) (l : Addr) (x n wd : Int) (tx tn tw : Tok) (cap : Nat)
    (hl : (l, listOf #[.int x tx] cap) ∈ news) (hn : 0 ≤ n) (hn2 : n < wd) (hw : 6 ≤ wd) (hw2 : wd ≤ 9) :
    Con 2 107 [.ref l, .int n tn, .int wd tw] news (RetI news (x / 2 ^ n.toNat % 2)) := by
  w_top off
  refine ⟨?_⟩
  intro w p loose mean mg mb dp un gd cn cs a ccd cl outer A₀ base h₀ L m s Q E B F X N T hk hd hu ret
  have e1 : n / wd = 0 := Int.ediv_eq_zero_of_lt hn hn2
  have e2 : n % wd = n := Int.emod_eq_of_lt hn hn2
  have e3 : Builtin.bitAnd (x / 2 ^ n.toNat) 1 = x / 2 ^ n.toNat % 2 := kbt_mask _ 1
  refine wpAny_call ?_
  k_dflt cell_enter
  k_steps
  all_goals exact ret _ _ _ (by k_asm) (by k_asm)

end
local macro_rules | `(tactic| wtm_at "con") => `(tactic| ((with_reducible show Con _ 107 _ _ _); exact bit_c _ _ _ _ _ _ _ _ _ (by wtm_at "m_mem") (by wtm_at "om") (by wtm_at "om") (by wtm_at "om") (by wtm_at "om")))
section
theorem last3_eq (x : Int) : (List.map (fun k' : Int => x / 2 ^ k'.toNat % 2 * 2 ^ k'.toNat) (rangeKs 0 (3 - 0 : Int).toNat)).sum = x % 8 := by
  have e : rangeKs 0 (3 - 0 : Int).toNat = [0, 1, 2] := by decide
  rw [e]
  simp only [List.map, List.sum_cons, List.sum_nil, Int.reduceToNat, Int.reducePow]
  omega
theorem last2_eq (x : Int) : (List.map (fun k' : Int => x / 2 ^ k'.toNat % 2 * 2 ^ k'.toNat) (rangeKs 0 (2 - 0 : Int).toNat)).sum = x % 4 := by
  have e : rangeKs 0 (2 - 0 : Int).toNat = [0, 1] := by decide
  rw [e]
  simp only [List.map, List.sum_cons, List.sum_nil, Int.reduceToNat, Int.reducePow]
  omega
theorem last3_c (news : List (Addr × Obj)) (l : Addr) (x wd : Int) (tx tn tw : Tok) (cap : Nat)
    (hl : (l, listOf #[.int x tx] cap) ∈ news) (hw : 6 ≤ wd) (hw2 : wd ≤ 9) :
    Con 4 119 [.ref l, .int 3 tn, .int wd tw] news (RetI news (x % 8)) := by
  w_top off
  refine ⟨?_⟩
  intro w p loose mean mg mb dp un gd cn cs a ccd cl outer A₀ base h₀ L m s Q E B F X N T hk hd hu ret
  refine wpAny_call ?_
  k_dflt (refine' code_defC ?k1 ?k2 ?k3 ?k4 ?k5 ?kA ?kF ?kK ?k6 ?k7 ?k8 ?k9 ?kB ?kD ?_ ?c2 ?c3 ?c4; (case kA => exact rfl); (case kF => exact rfl); (case kK => assumption); (case k1 => k_asm); (case k2 => k_asm); (case k3 => k_asm); (case k4 => k_asm); (case k5 => k_asm); (case k6 => k_is); (case k7 => k_is); (case k8 => ktr_room); (case k9 => exact BindsTo.of_eq rfl); (case kB => exact rfl); (case kD => decide +kernel); (case c2 => exact rfl); (case c3 => exact rfl); (case c4 => exact rfl); k_whole; intro g' L' h' tk' cells' FG' F' N' Y' B' X' T' l1; (try k_lt l1); k_cells Y'; (try simp only [List.cons_append, List.nil_append] at N'); (try dsimp only); (try k_lift B'); (try k_fold))
  k_steps
  all_goals exact ret_i ret (last3_eq x) (by k_asm) (by k_asm) (fun p hp => by wtm_at "m_mem")
theorem last2_c (news : List (Addr × Obj)) (l : Addr) (x wd : Int) (tx tn tw : Tok) (cap : Nat)
    (hl : (l, listOf #[.int x tx] cap) ∈ news) (hw : 6 ≤ wd) (hw2 : wd ≤ 9) :
    Con 4 119 [.ref l, .int 2 tn, .int wd tw] news (RetI news (x % 4)) := by
  w_top off
  refine ⟨?_⟩
  intro w p loose mean mg mb dp un gd cn cs a ccd cl outer A₀ base h₀ L m s Q E B F X N T hk hd hu ret
  refine wpAny_call ?_
  k_dflt (refine' code_defC ?k1 ?k2 ?k3 ?k4 ?k5 ?kA ?kF ?kK ?k6 ?k7 ?k8 ?k9 ?kB ?kD ?_ ?c2 ?c3 ?c4; (case kA => exact rfl); (case kF => exact rfl); (case kK => assumption); (case k1 => k_asm); (case k2 => k_asm); (case k3 => k_asm); (case k4 => k_asm); (case k5 => k_asm); (case k6 => k_is); (case k7 => k_is); (case k8 => ktr_room); (case k9 => exact BindsTo.of_eq rfl); (case kB => exact rfl); (case kD => decide +kernel); (case c2 => exact rfl); (case c3 => exact rfl); (case c4 => exact rfl); k_whole; intro g' L' h' tk' cells' FG' F' N' Y' B' X' T' l1; (try k_lt l1); k_cells Y'; (try simp only [List.cons_append, List.nil_append] at N'); (try dsimp only); (try k_lift B'); (try k_fold))
  k_steps
  all_goals exact ret_i ret (last2_eq x) (by k_asm) (by k_asm) (fun p hp => by wtm_at "m_mem")

end
local macro_rules | `(tactic| wtm_at "con") => `(tactic| ((with_reducible show Con _ 119 [_, Value.int 3 _, _] _ _); exact last3_c _ _ _ _ _ _ _ _ (by wtm_at "m_mem") (by wtm_at "om") (by wtm_at "om")))
local macro_rules | `(tactic| wtm_at "con") => `(tactic| ((with_reducible show Con _ 119 [_, Value.int 2 _, _] _ _); exact last2_c _ _ _ _ _ _ _ _ (by wtm_at "m_mem") (by wtm_at "om") (by wtm_at "om")))
section
theorem two_sign_c (news : List (Addr × Obj)) (l : Addr) (z x wd : Int) (tx tn tw : Tok) (cap : Nat)
    (hl : (l, listOf #[.int x tx] cap) ∈ news) (hw : 6 ≤ wd) (hw2 : wd ≤ 9) :
    Con 6 126 [.int z tn, .ref l, .int wd tw] news (RetI news (if z % 2 = 1 ∧ (x % 8 = 3 ∨ x % 8 = 5) then -1 else 1)) := by
  w_top off
  refine ⟨?_⟩
  intro w p loose mean mg mb dp un gd cn cs a ccd cl outer A₀ base h₀ L m s Q E B F X N T hk hd hu ret
  refine wpAny_call ?_
  k_dflt cell_enter
  k_steps
  all_goals (refine ret_i ret ?_ (by k_asm) (by k_asm) (fun p hp => by wtm_at "m_mem"))
  all_goals ((simp only [List.any_cons, List.any_nil, Bool.or_false, Bool.or_eq_true, beq_iff_eq, Bool.not_eq_true, Bool.or_eq_false_iff, beq_eq_false_iff_ne, ne_eq] at *); first | omega | (split <;> omega))

end
local macro_rules | `(tactic| wtm_at "con") => `(tactic| ((with_reducible show Con _ 126 _ _ _); exact two_sign_c _ _ _ _ _ _ _ _ _ (by wtm_at "m_mem") (by wtm_at "om") (by wtm_at "om")))
section
theorem trailing_c (news : List (Addr × Obj)) (l : Addr) (x wd : Int) (tx tw : Tok) (cap : Nat)
    (hl : (l, listOf #[.int x tx] cap) ∈ news) (hx : 0 < x) (hx2 : x < 512) (hw : 6 ≤ wd) (hw2 : wd ≤ 9) :
    Con 3 114 [.ref l, .int wd tw] news (RetI news ((Builtin.Int.intBits (Builtin.bitAnd x (-x)) : Int) - 1)) := by
  w_top off
  refine ⟨?_⟩
  intro w p loose mean mg mb dp un gd cn cs a ccd cl outer A₀ base h₀ L m s Q E B F X N T hk hd hu ret
  have hsub9 : ∀ p ∈ ([(l, listOf #[.int x tx] cap)] : List (Addr × Obj)), p ∈ news := by
    intro p hp
    simp only [List.mem_cons, List.not_mem_nil, or_false] at hp
    rcases hp with rfl <;> assumption
  refine wpAny_call ?_
  k_dflt (refine' enterR (news₀ := [(l, listOf #[.int x tx] cap)]) ?k1 ?k2 ?k3 ?k4 ?k5 hsub9 ?kA ?kF ?kK ?k6 ?k7 ?k8 ?k9 ?kB ?_ ?c2 ?c3 ?c4 ?c5; (case kA => exact rfl); (case kF => exact rfl); (case kK => assumption); (case k1 => k_asm); (case k2 => k_asm); (case k3 => k_asm); (case k4 => k_asm); (case k5 => k_asm); (case k6 => k_is); (case k7 => k_is); (case k8 => ktr_room); (case k9 => exact BindsTo.of_eq rfl); (case c5 => decide); (case kB => exact locs rfl); (case c2 => exact rfl); (case c3 => exact rfl); (case c4 => exact rfl); k_whole)
  intro g' L' h' FG' F' N' B' X' T' G9
  (try dsimp only); (try k_lift B'); (try k_fold)
  k_steps
  all_goals (refine ret_i ret ?_ (by k_asm) (rest_back N hsub9 G9 (by assumption) (by assumption) (by wtm_at "m_sub")) (fun p hp => hp))
  all_goals (omega)

end
local macro_rules | `(tactic| wtm_at "con") => `(tactic| ((with_reducible show Con _ 114 _ _ _); exact trailing_c _ _ _ _ _ _ (by wtm_at "m_mem") (by wtm_at "om") (by wtm_at "om") (by wtm_at "om") (by wtm_at "om")))
section
theorem bits_c (news : List (Addr × Obj)) (l : Addr) (x wd : Int) (tx tw : Tok) (cap : Nat)
    (hl : (l, listOf #[.int x tx] cap) ∈ news) :
    Con 3 100 [.ref l, .int wd tw] news (RetI news (Builtin.Int.intBits x : Int)) := by
  w_top off
  refine ⟨?_⟩
  intro w p loose mean mg mb dp un gd cn cs a ccd cl outer A₀ base h₀ L m s Q E B F X N T hk hd hu ret
  have hsub9 : ∀ p ∈ ([(l, listOf #[.int x tx] cap)] : List (Addr × Obj)), p ∈ news := by
    intro p hp
    simp only [List.mem_cons, List.not_mem_nil, or_false] at hp
    rcases hp with rfl <;> assumption
  refine wpAny_call ?_
  k_dflt (refine' enterR (news₀ := [(l, listOf #[.int x tx] cap)]) ?k1 ?k2 ?k3 ?k4 ?k5 hsub9 ?kA ?kF ?kK ?k6 ?k7 ?k8 ?k9 ?kB ?_ ?c2 ?c3 ?c4 ?c5; (case kA => exact rfl); (case kF => exact rfl); (case kK => assumption); (case k1 => k_asm); (case k2 => k_asm); (case k3 => k_asm); (case k4 => k_asm); (case k5 => k_asm); (case k6 => k_is); (case k7 => k_is); (case k8 => ktr_room); (case k9 => exact BindsTo.of_eq rfl); (case c5 => decide); (case kB => exact locs rfl); (case c2 => exact rfl); (case c3 => exact rfl); (case c4 => exact rfl); k_whole)
  intro g' L' h' FG' F' N' B' X' T' G9
  (try dsimp only); (try k_lift B'); (try k_fold)
  k_steps
  all_goals (refine ret_i ret ?_ (by k_asm) (rest_back N hsub9 G9 (by assumption) (by assumption) (by wtm_at "m_sub")) (fun p hp => hp))
  all_goals (omega)

end
local macro_rules | `(tactic| wtm_at "con") => `(tactic| ((with_reducible show Con _ 100 _ _ _); exact bits_c _ _ _ _ _ _ (by wtm_at "m_mem")))
section
/-- a bool comes back -/
abbrev RetB (news : List (Addr × Obj)) (b : Bool) : Heap → Addr → (Str → Option Value) → Shared → (Value → Shared → Prop) → Prop :=
  fun h₀ L m s Q => ∀ (h' : Heap) (tk' : Nat), Fr h₀ L h' m → News h₀ L h' news → Q (.bool b) { s with heap := h', toks := tk' }
theorem ret_b {news news' : List (Addr × Obj)} {x y : Bool} {h₀ h' : Heap} {L : Addr} {m : Str → Option Value} {s : Shared} {Q : Value → Shared → Prop} {tk' : Nat} (ret : RetB news x h₀ L m s Q) (e : y = x) (F : Fr h₀ L h' m) (N : News h₀ L h' news') (hs : ∀ p ∈ news, p ∈ news') : Q (.bool y) { s with heap := h', toks := tk' } := by
  subst e
  exact ret h' tk' F fun p hp => N p (hs p hp)
theorem even_c (news : List (Addr × Obj)) (l : Addr) (x : Int) (tx : Tok) (cap : Nat)
    (hl : (l, listOf #[.int x tx] cap) ∈ news) (hx : x % 2 = 1) :
    Con 3 65 [.ref l] news (RetB news false) := by
  w_top off
  refine ⟨?_⟩
  intro w p loose mean mg mb dp un gd cn cs a ccd cl outer A₀ base h₀ L m s Q E B F X N T hk hd hu ret
  have e1 : Builtin.bitAnd x 1 = 1 := (kbt_mask x 1).trans hx
  have hsub9 : ∀ p ∈ ([(l, listOf #[.int x tx] cap)] : List (Addr × Obj)), p ∈ news := by
    intro p hp
    simp only [List.mem_cons, List.not_mem_nil, or_false] at hp
    rcases hp with rfl <;> assumption
  refine wpAny_call ?_
  k_dflt (refine' enterR (news₀ := [(l, listOf #[.int x tx] cap)]) ?k1 ?k2 ?k3 ?k4 ?k5 hsub9 ?kA ?kF ?kK ?k6 ?k7 ?k8 ?k9 ?kB ?_ ?c2 ?c3 ?c4 ?c5; (case kA => exact rfl); (case kF => exact rfl); (case kK => assumption); (case k1 => k_asm); (case k2 => k_asm); (case k3 => k_asm); (case k4 => k_asm); (case k5 => k_asm); (case k6 => k_is); (case k7 => k_is); (case k8 => ktr_room); (case k9 => exact BindsTo.of_eq rfl); (case c5 => decide); (case kB => exact locs rfl); (case c2 => exact rfl); (case c3 => exact rfl); (case c4 => exact rfl); k_whole)
  intro g' L' h' FG' F' N' B' X' T' G9
  (try dsimp only); (try k_lift B'); (try k_fold)
  k_steps
  all_goals (refine ret_b ret ?_ (by k_asm) (rest_back N hsub9 G9 (by assumption) (by assumption) (by wtm_at "m_sub")) (fun p hp => hp))
  all_goals (decide)

end
local macro_rules | `(tactic| wtm_at "con") => `(tactic| ((with_reducible show Con _ 65 _ _ _); exact even_c _ _ _ _ _ (by wtm_at "m_mem") (by wtm_at "om")))
section
theorem cmp_c (news : List (Addr × Obj)) (l l' : Addr) (x y : Int) (tx ty : Tok) (cap cap' : Nat)
    (hl : (l, listOf #[.int x tx] cap) ∈ news) (hl' : (l', listOf #[.int y ty] cap') ∈ news) :
    Con 3 72 [.ref l, .ref l'] news (RetI news (if x < y then -1 else if y < x then 1 else 0)) := by
  w_top off
  refine ⟨?_⟩
  intro w p loose mean mg mb dp un gd cn cs a ccd cl outer A₀ base h₀ L m s Q E B F X N T hk hd hu ret
  have hsub9 : ∀ p ∈ ([(l, listOf #[.int x tx] cap), (l', listOf #[.int y ty] cap')] : List (Addr × Obj)), p ∈ news := by
    intro p hp
    simp only [List.mem_cons, List.not_mem_nil, or_false] at hp
    rcases hp with rfl | rfl <;> assumption
  refine wpAny_call ?_
  k_dflt (refine' enterR (news₀ := [(l, listOf #[.int x tx] cap), (l', listOf #[.int y ty] cap')]) ?k1 ?k2 ?k3 ?k4 ?k5 hsub9 ?kA ?kF ?kK ?k6 ?k7 ?k8 ?k9 ?kB ?_ ?c2 ?c3 ?c4 ?c5; (case kA => exact rfl); (case kF => exact rfl); (case kK => assumption); (case k1 => k_asm); (case k2 => k_asm); (case k3 => k_asm); (case k4 => k_asm); (case k5 => k_asm); (case k6 => k_is); (case k7 => k_is); (case k8 => ktr_room); (case k9 => exact BindsTo.of_eq rfl); (case c5 => decide); (case kB => exact locs rfl); (case c2 => exact rfl); (case c3 => exact rfl); (case c4 => exact rfl); k_whole)
  intro g' L' h' FG' F' N' B' X' T' G9
  (try dsimp only); (try k_lift B'); (try k_fold)
  k_steps
  all_goals (refine ret_i ret ?_ (by k_asm) (rest_back N hsub9 G9 (by assumption) (by assumption) (by wtm_at "m_sub")) (fun p hp => hp))
  all_goals (first | omega | ((repeat' split) <;> omega))
theorem cmp2_c (news : List (Addr × Obj)) (l l' : Addr) (x x' y : Int) (tx tx' ty : Tok) (cap cap' : Nat)
    (hl : (l, listOf #[.int x tx, .int x' tx'] cap) ∈ news) (hl' : (l', listOf #[.int y ty] cap') ∈ news) :
    Con 3 72 [.ref l, .ref l'] news (RetI news 1) := by
  w_top off
  refine ⟨?_⟩
  intro w p loose mean mg mb dp un gd cn cs a ccd cl outer A₀ base h₀ L m s Q E B F X N T hk hd hu ret
  have hsub9 : ∀ p ∈ ([(l, listOf #[.int x tx, .int x' tx'] cap), (l', listOf #[.int y ty] cap')] : List (Addr × Obj)), p ∈ news := by
    intro p hp
    simp only [List.mem_cons, List.not_mem_nil, or_false] at hp
    rcases hp with rfl | rfl <;> assumption
  refine wpAny_call ?_
  k_dflt (refine' enterR (news₀ := [(l, listOf #[.int x tx, .int x' tx'] cap), (l', listOf #[.int y ty] cap')]) ?k1 ?k2 ?k3 ?k4 ?k5 hsub9 ?kA ?kF ?kK ?k6 ?k7 ?k8 ?k9 ?kB ?_ ?c2 ?c3 ?c4 ?c5; (case kA => exact rfl); (case kF => exact rfl); (case kK => assumption); (case k1 => k_asm); (case k2 => k_asm); (case k3 => k_asm); (case k4 => k_asm); (case k5 => k_asm); (case k6 => k_is); (case k7 => k_is); (case k8 => ktr_room); (case k9 => exact BindsTo.of_eq rfl); (case c5 => decide); (case kB => exact locs rfl); (case c2 => exact rfl); (case c3 => exact rfl); (case c4 => exact rfl); k_whole)
  intro g' L' h' FG' F' N' B' X' T' G9
  (try dsimp only); (try k_lift B'); (try k_fold)
  k_steps
  all_goals (refine ret_i ret ?_ (by k_asm) (rest_back N hsub9 G9 (by assumption) (by assumption) (by wtm_at "m_sub")) (fun p hp => hp))
  all_goals (rfl)

end
local macro_rules | `(tactic| wtm_at "con") => `(tactic| ((with_reducible show Con _ 72 _ _ _); exact cmp2_c _ _ _ _ _ _ _ _ _ _ _ (by wtm_at "m_mem") (by wtm_at "m_mem")))
local macro_rules | `(tactic| wtm_at "con") => `(tactic| ((with_reducible show Con _ 72 _ _ _); exact cmp_c _ _ _ _ _ _ _ _ _ (by wtm_at "m_mem") (by wtm_at "m_mem")))
section
theorem norm1_c (news : List (Addr × Obj)) (l : Addr) (x : Int) (tx : Tok) (cap : Nat)
    (hl : (l, listOf #[.int x tx] cap) ∈ news) (hx : 0 < x) :
    Con 3 58 [.ref l] news (RetL news x) := by
  w_top off
  refine ⟨?_⟩
  intro w p loose mean mg mb dp un gd cn cs a ccd cl outer A₀ base h₀ L m s Q E B F X N T hk hd hu ret
  have hsub9 : ∀ p ∈ ([(l, listOf #[.int x tx] cap)] : List (Addr × Obj)), p ∈ news := by
    intro p hp
    simp only [List.mem_cons, List.not_mem_nil, or_false] at hp
    rcases hp with rfl <;> assumption
  refine wpAny_call ?_
  k_dflt (refine' enterR (news₀ := [(l, listOf #[.int x tx] cap)]) ?k1 ?k2 ?k3 ?k4 ?k5 hsub9 ?kA ?kF ?kK ?k6 ?k7 ?k8 ?k9 ?kB ?_ ?c2 ?c3 ?c4 ?c5; (case kA => exact rfl); (case kF => exact rfl); (case kK => assumption); (case k1 => k_asm); (case k2 => k_asm); (case k3 => k_asm); (case k4 => k_asm); (case k5 => k_asm); (case k6 => k_is); (case k7 => k_is); (case k8 => ktr_room); (case k9 => exact BindsTo.of_eq rfl); (case c5 => decide); (case kB => exact locs rfl); (case c2 => exact rfl); (case c3 => exact rfl); (case c4 => exact rfl); k_whole)
  intro g' L' h' FG' F' N' B' X' T' G9
  (try dsimp only); (try k_lift B'); (try k_fold)
  k_steps
  all_goals first | wtm_at "end_rl" | (exfalso; omega)
  all_goals (rfl)
theorem norm2lo_c (news : List (Addr × Obj)) (l : Addr) (x : Int) (tx ty : Tok) (cap : Nat)
    (hl : (l, listOf #[.int x tx, .int 0 ty] cap) ∈ news) (hx : 0 < x) :
    Con 3 58 [.ref l] news (RetL news x) := by
  w_top off
  refine ⟨?_⟩
  intro w p loose mean mg mb dp un gd cn cs a ccd cl outer A₀ base h₀ L m s Q E B F X N T hk hd hu ret
  have hsub9 : ∀ p ∈ ([(l, listOf #[.int x tx, .int 0 ty] cap)] : List (Addr × Obj)), p ∈ news := by
    intro p hp
    simp only [List.mem_cons, List.not_mem_nil, or_false] at hp
    rcases hp with rfl <;> assumption
  refine wpAny_call ?_
  k_dflt (refine' enterR (news₀ := [(l, listOf #[.int x tx, .int 0 ty] cap)]) ?k1 ?k2 ?k3 ?k4 ?k5 hsub9 ?kA ?kF ?kK ?k6 ?k7 ?k8 ?k9 ?kB ?_ ?c2 ?c3 ?c4 ?c5; (case kA => exact rfl); (case kF => exact rfl); (case kK => assumption); (case k1 => k_asm); (case k2 => k_asm); (case k3 => k_asm); (case k4 => k_asm); (case k5 => k_asm); (case k6 => k_is); (case k7 => k_is); (case k8 => ktr_room); (case k9 => exact BindsTo.of_eq rfl); (case c5 => decide); (case kB => exact locs rfl); (case c2 => exact rfl); (case c3 => exact rfl); (case c4 => exact rfl); k_whole)
  intro g' L' h' FG' F' N' B' X' T' G9
  (try dsimp only); (try k_lift B'); (try k_fold)
  k_steps
  all_goals first | wtm_at "end_rl" | (exfalso; omega)
  all_goals (rfl)
theorem norm2hi_c (news : List (Addr × Obj)) (l : Addr) (x y : Int) (tx ty : Tok) (cap : Nat)
    (hl : (l, listOf #[.int x tx, .int y ty] cap) ∈ news) (hy : 0 < y) :
    Con 3 58 [.ref l] news (RetL2 news x y) := by
  w_top off
  refine ⟨?_⟩
  intro w p loose mean mg mb dp un gd cn cs a ccd cl outer A₀ base h₀ L m s Q E B F X N T hk hd hu ret
  have hsub9 : ∀ p ∈ ([(l, listOf #[.int x tx, .int y ty] cap)] : List (Addr × Obj)), p ∈ news := by
    intro p hp
    simp only [List.mem_cons, List.not_mem_nil, or_false] at hp
    rcases hp with rfl <;> assumption
  refine wpAny_call ?_
  k_dflt (refine' enterR (news₀ := [(l, listOf #[.int x tx, .int y ty] cap)]) ?k1 ?k2 ?k3 ?k4 ?k5 hsub9 ?kA ?kF ?kK ?k6 ?k7 ?k8 ?k9 ?kB ?_ ?c2 ?c3 ?c4 ?c5; (case kA => exact rfl); (case kF => exact rfl); (case kK => assumption); (case k1 => k_asm); (case k2 => k_asm); (case k3 => k_asm); (case k4 => k_asm); (case k5 => k_asm); (case k6 => k_is); (case k7 => k_is); (case k8 => ktr_room); (case k9 => exact BindsTo.of_eq rfl); (case c5 => decide); (case kB => exact locs rfl); (case c2 => exact rfl); (case c3 => exact rfl); (case c4 => exact rfl); k_whole)
  intro g' L' h' FG' F' N' B' X' T' G9
  (try dsimp only); (try k_lift B'); (try k_fold)
  k_steps
  all_goals first | wtm_at "end_rl2" | (exfalso; omega)
  all_goals (exact ⟨rfl, rfl⟩)
/-- one or two ints: some list -/
theorem normany1_c (news : List (Addr × Obj)) (l : Addr) (x : Int) (tx : Tok) (cap : Nat)
    (hl : (l, listOf #[.int x tx] cap) ∈ news) :
    Con 3 58 [.ref l] news (RetR news) := by
  w_top off
  refine ⟨?_⟩
  intro w p loose mean mg mb dp un gd cn cs a ccd cl outer A₀ base h₀ L m s Q E B F X N T hk hd hu ret
  have hsub9 : ∀ p ∈ ([(l, listOf #[.int x tx] cap)] : List (Addr × Obj)), p ∈ news := by
    intro p hp
    simp only [List.mem_cons, List.not_mem_nil, or_false] at hp
    rcases hp with rfl <;> assumption
  refine wpAny_call ?_
  k_dflt (refine' enterR (news₀ := [(l, listOf #[.int x tx] cap)]) ?k1 ?k2 ?k3 ?k4 ?k5 hsub9 ?kA ?kF ?kK ?k6 ?k7 ?k8 ?k9 ?kB ?_ ?c2 ?c3 ?c4 ?c5; (case kA => exact rfl); (case kF => exact rfl); (case kK => assumption); (case k1 => k_asm); (case k2 => k_asm); (case k3 => k_asm); (case k4 => k_asm); (case k5 => k_asm); (case k6 => k_is); (case k7 => k_is); (case k8 => ktr_room); (case k9 => exact BindsTo.of_eq rfl); (case c5 => decide); (case kB => exact locs rfl); (case c2 => exact rfl); (case c3 => exact rfl); (case c4 => exact rfl); k_whole)
  intro g' L' h' FG' F' N' B' X' T' G9
  (try dsimp only); (try k_lift B'); (try k_fold)
  k_steps
  all_goals first | wtm_at "end_rr" | (exfalso; omega)
theorem normany2_c (news : List (Addr × Obj)) (l : Addr) (x y : Int) (tx ty : Tok) (cap : Nat)
    (hl : (l, listOf #[.int x tx, .int y ty] cap) ∈ news) :
    Con 3 58 [.ref l] news (RetR news) := by
  w_top off
  refine ⟨?_⟩
  intro w p loose mean mg mb dp un gd cn cs a ccd cl outer A₀ base h₀ L m s Q E B F X N T hk hd hu ret
  have hsub9 : ∀ p ∈ ([(l, listOf #[.int x tx, .int y ty] cap)] : List (Addr × Obj)), p ∈ news := by
    intro p hp
    simp only [List.mem_cons, List.not_mem_nil, or_false] at hp
    rcases hp with rfl <;> assumption
  refine wpAny_call ?_
  k_dflt (refine' enterR (news₀ := [(l, listOf #[.int x tx, .int y ty] cap)]) ?k1 ?k2 ?k3 ?k4 ?k5 hsub9 ?kA ?kF ?kK ?k6 ?k7 ?k8 ?k9 ?kB ?_ ?c2 ?c3 ?c4 ?c5; (case kA => exact rfl); (case kF => exact rfl); (case kK => assumption); (case k1 => k_asm); (case k2 => k_asm); (case k3 => k_asm); (case k4 => k_asm); (case k5 => k_asm); (case k6 => k_is); (case k7 => k_is); (case k8 => ktr_room); (case k9 => exact BindsTo.of_eq rfl); (case c5 => decide); (case kB => exact locs rfl); (case c2 => exact rfl); (case c3 => exact rfl); (case c4 => exact rfl); k_whole)
  intro g' L' h' FG' F' N' B' X' T' G9
  (try dsimp only); (try k_lift B'); (try k_fold)
  k_steps
  all_goals first | wtm_at "end_rr" | (exfalso; omega)

end
local macro_rules | `(tactic| wtm_at "con") => `(tactic| ((with_reducible show Con _ 58 _ _ _); exact normany2_c _ _ _ _ _ _ _ (by wtm_at "m_mem")))
local macro_rules | `(tactic| wtm_at "con") => `(tactic| ((with_reducible show Con _ 58 _ _ _); exact normany1_c _ _ _ _ _ (by wtm_at "m_mem")))
section
theorem bor_zero (x : Int) (hx : 0 ≤ x) : Builtin.bitOr 0 x = x := by
  rw [bitOr_and, bitAnd_pp (by omega) hx]
  simp
theorem nand_shift (r lo k : Nat) (h : lo < 2 ^ k) : r * 2 ^ k &&& lo = 0 := by
  have e1 : (2 ^ k - 1) &&& lo = lo := by rw [Nat.and_comm, Nat.and_two_pow_sub_one_eq_mod, Nat.mod_eq_of_lt h]
  rw [← e1, ← Nat.and_assoc, Nat.and_two_pow_sub_one_eq_mod, Nat.mul_mod_left, Nat.zero_and]
theorem bor_shift (r lo : Int) (k : Nat) (hr : 0 ≤ r) (hlo : 0 ≤ lo) (hlo2 : lo < 2 ^ k) : Builtin.bitOr (r * 2 ^ k) lo = r * 2 ^ k + lo := by
  have hc := kbt_cast k
  obtain ⟨r', rfl⟩ := Int.eq_ofNat_of_zero_le hr
  obtain ⟨l', rfl⟩ := Int.eq_ofNat_of_zero_le hlo
  have h1 : ((r' : Int) * 2 ^ k) = ((r' * 2 ^ k : Nat) : Int) := by rw [← hc, Int.natCast_mul]
  have h2 : l' < 2 ^ k := by rw [← hc] at hlo2; exact Int.ofNat_lt.mp hlo2
  rw [h1, bitOr_and, bitAnd_pp (Int.natCast_nonneg _) (Int.natCast_nonneg _), Int.toNat_natCast, Int.toNat_natCast, nand_shift _ _ _ h2]
  omega
theorem dlimb1_c (news : List (Addr × Obj)) (l : Addr) (x v wd : Int) (tx tv tw : Tok) (cap : Nat)
    (hl : (l, listOf #[.int x tx] cap) ∈ news) (hx : 0 ≤ x) (hx2 : x < 512) (hv : 0 < v) (hv2 : v < 512) (hw : 6 ≤ wd) (hw2 : wd ≤ 9) :
    Con 5 79 [.ref l, .int v tv, .int wd tw] news (RetT news (x % v)) := by
  w_top off
  refine ⟨?_⟩
  intro w p loose mean mg mb dp un gd cn cs a ccd cl outer A₀ base h₀ L m s Q E B F X N T hk hd hu ret
  have e1 : (0 : Int) * 2 ^ wd.toNat = 0 := Int.zero_mul _
  have e2 : Builtin.bitOr 0 x = x := bor_zero x hx
  have hsub9 : ∀ p ∈ ([(l, listOf #[.int x tx] cap)] : List (Addr × Obj)), p ∈ news := by
    intro p hp
    simp only [List.mem_cons, List.not_mem_nil, or_false] at hp
    rcases hp with rfl <;> assumption
  refine wpAny_call ?_
  k_dflt (refine' enterR (news₀ := [(l, listOf #[.int x tx] cap)]) ?k1 ?k2 ?k3 ?k4 ?k5 hsub9 ?kA ?kF ?kK ?k6 ?k7 ?k8 ?k9 ?kB ?_ ?c2 ?c3 ?c4 ?c5; (case kA => exact rfl); (case kF => exact rfl); (case kK => assumption); (case k1 => k_asm); (case k2 => k_asm); (case k3 => k_asm); (case k4 => k_asm); (case k5 => k_asm); (case k6 => k_is); (case k7 => k_is); (case k8 => ktr_room); (case k9 => exact BindsTo.of_eq rfl); (case c5 => decide); (case kB => exact locs rfl); (case c2 => exact rfl); (case c3 => exact rfl); (case c4 => exact rfl); k_whole)
  intro g' L' h' FG' F' N' B' X' T' G9
  (try dsimp only); (try k_lift B'); (try k_fold)
  k_steps
  all_goals first | wtm_at "end_rt" | (exfalso; omega)
  all_goals (rfl)
theorem dlimb2_eq (x y v : Int) (P : Int) (_hv : 0 < v) : (y % v * P + x) % v = (y * P + x) % v := by
  rw [Int.add_emod, Int.mul_emod, Int.emod_emod, ← Int.mul_emod, ← Int.add_emod]
theorem dlimb2_c (news : List (Addr × Obj)) (l : Addr) (x y v wd : Int) (tx ty tv tw : Tok) (cap : Nat)
    (hl : (l, listOf #[.int x tx, .int y ty] cap) ∈ news) (hx : 0 ≤ x) (hx2 : x < 2 ^ wd.toNat) (hy : 0 ≤ y) (hy2 : y < 512) (hv : 0 < v) (hv2 : v < 512) (hw : 6 ≤ wd) (hw2 : wd ≤ 9) :
    Con 5 79 [.ref l, .int v tv, .int wd tw] news (RetT news ((y * 2 ^ wd.toNat + x) % v)) := by
  w_top off
  refine ⟨?_⟩
  intro w p loose mean mg mb dp un gd cn cs a ccd cl outer A₀ base h₀ L m s Q E B F X N T hk hd hu ret
  have e1 : (0 : Int) * 2 ^ wd.toNat = 0 := Int.zero_mul _
  have e2 : Builtin.bitOr 0 y = y := bor_zero y hy
  have b1 : 0 ≤ y % v := Int.emod_nonneg _ (by omega)
  have b2 : y % v < v := Int.emod_lt_of_pos _ hv
  have e3 : Builtin.bitOr (y % v * 2 ^ wd.toNat) x = y % v * 2 ^ wd.toNat + x := bor_shift _ _ _ b1 hx hx2
  have hsub9 : ∀ p ∈ ([(l, listOf #[.int x tx, .int y ty] cap)] : List (Addr × Obj)), p ∈ news := by
    intro p hp
    simp only [List.mem_cons, List.not_mem_nil, or_false] at hp
    rcases hp with rfl <;> assumption
  refine wpAny_call ?_
  k_dflt (refine' enterR (news₀ := [(l, listOf #[.int x tx, .int y ty] cap)]) ?k1 ?k2 ?k3 ?k4 ?k5 hsub9 ?kA ?kF ?kK ?k6 ?k7 ?k8 ?k9 ?kB ?_ ?c2 ?c3 ?c4 ?c5; (case kA => exact rfl); (case kF => exact rfl); (case kK => assumption); (case k1 => k_asm); (case k2 => k_asm); (case k3 => k_asm); (case k4 => k_asm); (case k5 => k_asm); (case k6 => k_is); (case k7 => k_is); (case k8 => ktr_room); (case k9 => exact BindsTo.of_eq rfl); (case c5 => decide); (case kB => exact locs rfl); (case c2 => exact rfl); (case c3 => exact rfl); (case c4 => exact rfl); k_whole)
  intro g' L' h' FG' F' N' B' X' T' G9
  (try dsimp only); (try k_lift B'); (try k_fold)
  k_steps
  all_goals first | wtm_at "end_rt" | (exfalso; omega)
  all_goals (exact dlimb2_eq x y v _ hv)

end
local macro_rules | `(tactic| wtm_at "con") => `(tactic| ((with_reducible show Con _ 79 _ _ _); exact dlimb1_c _ _ _ _ _ _ _ _ _ (by wtm_at "m_mem") (by wtm_at "om") (by wtm_at "om") (by wtm_at "om") (by wtm_at "om") (by wtm_at "om") (by wtm_at "om")))
local macro_rules | `(tactic| wtm_at "con") => `(tactic| ((with_reducible show Con _ 79 _ _ _); exact dlimb2_c _ _ _ _ _ _ _ _ _ _ _ (by wtm_at "m_mem") (by wtm_at "om") (by assumption) (by wtm_at "om") (by wtm_at "om") (by wtm_at "om") (by wtm_at "om") (by wtm_at "om") (by wtm_at "om")))
section
theorem dsmall1_c (news : List (Addr × Obj)) (l l' : Addr) (x v wd : Int) (tx tv tw : Tok) (cap cap' : Nat)
    (hl : (l, listOf #[.int x tx] cap) ∈ news) (hl' : (l', listOf #[.int v tv] cap') ∈ news) (hx : 0 ≤ x) (hx2 : x < 512) (hv : 0 < v) (hv2 : v < 512) (hw : 6 ≤ wd) (hw2 : wd ≤ 9) (hr : 0 < x % v) :
    Con 7 196 [.ref l, .ref l', .int wd tw] news (RetTL news (x % v)) := by
  w_top off
  refine ⟨?_⟩
  intro w p loose mean mg mb dp un gd cn cs a ccd cl outer A₀ base h₀ L m s Q E B F X N T hk hd hu ret
  have hsub9 : ∀ p ∈ ([(l, listOf #[.int x tx] cap), (l', listOf #[.int v tv] cap')] : List (Addr × Obj)), p ∈ news := by
    intro p hp
    simp only [List.mem_cons, List.not_mem_nil, or_false] at hp
    rcases hp with rfl | rfl <;> assumption
  refine wpAny_call ?_
  k_dflt (refine' enterR (news₀ := [(l, listOf #[.int x tx] cap), (l', listOf #[.int v tv] cap')]) ?k1 ?k2 ?k3 ?k4 ?k5 hsub9 ?kA ?kF ?kK ?k6 ?k7 ?k8 ?k9 ?kB ?_ ?c2 ?c3 ?c4 ?c5; (case kA => exact rfl); (case kF => exact rfl); (case kK => assumption); (case k1 => k_asm); (case k2 => k_asm); (case k3 => k_asm); (case k4 => k_asm); (case k5 => k_asm); (case k6 => k_is); (case k7 => k_is); (case k8 => ktr_room); (case k9 => exact BindsTo.of_eq rfl); (case c5 => decide); (case kB => exact locs rfl); (case c2 => exact rfl); (case c3 => exact rfl); (case c4 => exact rfl); k_whole)
  intro g' L' h' FG' F' N' B' X' T' G9
  (try dsimp only); (try k_lift B'); (try k_fold)
  k_steps
  all_goals first | wtm_at "end_rtl" | (exfalso; omega)
  all_goals (rfl)
theorem dsmall0_c (news : List (Addr × Obj)) (l l' : Addr) (x v wd : Int) (tx tv tw : Tok) (cap cap' : Nat)
    (hl : (l, listOf #[.int x tx] cap) ∈ news) (hl' : (l', listOf #[.int v tv] cap') ∈ news) (hx : 0 ≤ x) (hx2 : x < 512) (hv : 0 < v) (hv2 : v < 512) (hw : 6 ≤ wd) (hw2 : wd ≤ 9) (hr : x % v = 0) :
    Con 7 196 [.ref l, .ref l', .int wd tw] news (RetTN news) := by
  w_top off
  refine ⟨?_⟩
  intro w p loose mean mg mb dp un gd cn cs a ccd cl outer A₀ base h₀ L m s Q E B F X N T hk hd hu ret
  have hsub9 : ∀ p ∈ ([(l, listOf #[.int x tx] cap), (l', listOf #[.int v tv] cap')] : List (Addr × Obj)), p ∈ news := by
    intro p hp
    simp only [List.mem_cons, List.not_mem_nil, or_false] at hp
    rcases hp with rfl | rfl <;> assumption
  refine wpAny_call ?_
  k_dflt (refine' enterR (news₀ := [(l, listOf #[.int x tx] cap), (l', listOf #[.int v tv] cap')]) ?k1 ?k2 ?k3 ?k4 ?k5 hsub9 ?kA ?kF ?kK ?k6 ?k7 ?k8 ?k9 ?kB ?_ ?c2 ?c3 ?c4 ?c5; (case kA => exact rfl); (case kF => exact rfl); (case kK => assumption); (case k1 => k_asm); (case k2 => k_asm); (case k3 => k_asm); (case k4 => k_asm); (case k5 => k_asm); (case k6 => k_is); (case k7 => k_is); (case k8 => ktr_room); (case k9 => exact BindsTo.of_eq rfl); (case c5 => decide); (case kB => exact locs rfl); (case c2 => exact rfl); (case c3 => exact rfl); (case c4 => exact rfl); k_whole)
  intro g' L' h' FG' F' N' B' X' T' G9
  (try dsimp only); (try k_lift B'); (try k_fold)
  k_steps
  all_goals first | wtm_at "end_rtn" | (exfalso; omega)
theorem dsmall2_c (news : List (Addr × Obj)) (l l' : Addr) (x y v wd : Int) (tx ty tv tw : Tok) (cap cap' : Nat)
    (hl : (l, listOf #[.int x tx, .int y ty] cap) ∈ news) (hl' : (l', listOf #[.int v tv] cap') ∈ news) (hx : 0 ≤ x) (hx2 : x < 2 ^ wd.toNat) (hy : 0 ≤ y) (hy2 : y < 512) (hv : 0 < v) (hv2 : v < 512) (hw : 6 ≤ wd) (hw2 : wd ≤ 9) (hr : 0 < (y * 2 ^ wd.toNat + x) % v) :
    Con 7 196 [.ref l, .ref l', .int wd tw] news (RetTL news ((y * 2 ^ wd.toNat + x) % v)) := by
  w_top off
  refine ⟨?_⟩
  intro w p loose mean mg mb dp un gd cn cs a ccd cl outer A₀ base h₀ L m s Q E B F X N T hk hd hu ret
  have hsub9 : ∀ p ∈ ([(l, listOf #[.int x tx, .int y ty] cap), (l', listOf #[.int v tv] cap')] : List (Addr × Obj)), p ∈ news := by
    intro p hp
    simp only [List.mem_cons, List.not_mem_nil, or_false] at hp
    rcases hp with rfl | rfl <;> assumption
  refine wpAny_call ?_
  k_dflt (refine' enterR (news₀ := [(l, listOf #[.int x tx, .int y ty] cap), (l', listOf #[.int v tv] cap')]) ?k1 ?k2 ?k3 ?k4 ?k5 hsub9 ?kA ?kF ?kK ?k6 ?k7 ?k8 ?k9 ?kB ?_ ?c2 ?c3 ?c4 ?c5; (case kA => exact rfl); (case kF => exact rfl); (case kK => assumption); (case k1 => k_asm); (case k2 => k_asm); (case k3 => k_asm); (case k4 => k_asm); (case k5 => k_asm); (case k6 => k_is); (case k7 => k_is); (case k8 => ktr_room); (case k9 => exact BindsTo.of_eq rfl); (case c5 => decide); (case kB => exact locs rfl); (case c2 => exact rfl); (case c3 => exact rfl); (case c4 => exact rfl); k_whole)
  intro g' L' h' FG' F' N' B' X' T' G9
  (try dsimp only); (try k_lift B'); (try k_fold)
  k_steps
  all_goals first | wtm_at "end_rtl" | (exfalso; omega)
  all_goals (rfl)

end
local macro_rules | `(tactic| wtm_at "con") => `(tactic| ((with_reducible show Con _ 196 _ _ _); exact dsmall1_c _ _ _ _ _ _ _ _ _ _ _ (by wtm_at "m_mem") (by wtm_at "m_mem") (by wtm_at "om") (by wtm_at "om") (by wtm_at "om") (by wtm_at "om") (by wtm_at "om") (by wtm_at "om") (by wtm_at "om")))
local macro_rules | `(tactic| wtm_at "con") => `(tactic| ((with_reducible show Con _ 196 _ _ _); exact dsmall0_c _ _ _ _ _ _ _ _ _ _ _ (by wtm_at "m_mem") (by wtm_at "m_mem") (by wtm_at "om") (by wtm_at "om") (by wtm_at "om") (by wtm_at "om") (by wtm_at "om") (by wtm_at "om") (by wtm_at "om")))
local macro_rules | `(tactic| wtm_at "con") => `(tactic| ((with_reducible show Con _ 196 _ _ _); exact dsmall2_c _ _ _ _ _ _ _ _ _ _ _ _ _ (by wtm_at "m_mem") (by wtm_at "m_mem") (by wtm_at "om") (by assumption) (by wtm_at "om") (by wtm_at "om") (by wtm_at "om") (by wtm_at "om") (by wtm_at "om") (by wtm_at "om") (by assumption)))
section
theorem lt_of_cmp {x v : Int} (h : (if x < v then (-1 : Int) else if v < x then 1 else 0) < 0) : x < v := by
  by_cases hh : x < v
  · exact hh
  · rw [if_neg hh] at h
    split at h <;> omega
theorem school1_c (news : List (Addr × Obj)) (l l' : Addr) (x v wd : Int) (tx tv tw : Tok) (cap cap' : Nat)
    (hl : (l, listOf #[.int x tx] cap) ∈ news) (hl' : (l', listOf #[.int v tv] cap') ∈ news) (hx : 0 ≤ x) (hx2 : x < 512) (hv : 0 < v) (hv2 : v < 512) (hw : 6 ≤ wd) (hw2 : wd ≤ 9) (hr : 0 < x % v) :
    Con 9 231 [.ref l, .ref l', .int wd tw] news (RetTL news (x % v)) := by
  w_top off
  refine ⟨?_⟩
  intro w p loose mean mg mb dp un gd cn cs a ccd cl outer A₀ base h₀ L m s Q E B F X N T hk hd hu ret
  have hsub9 : ∀ p ∈ ([(l, listOf #[.int x tx] cap), (l', listOf #[.int v tv] cap')] : List (Addr × Obj)), p ∈ news := by
    intro p hp
    simp only [List.mem_cons, List.not_mem_nil, or_false] at hp
    rcases hp with rfl | rfl <;> assumption
  refine wpAny_call ?_
  k_dflt (refine' enterR (news₀ := [(l, listOf #[.int x tx] cap), (l', listOf #[.int v tv] cap')]) ?k1 ?k2 ?k3 ?k4 ?k5 hsub9 ?kA ?kF ?kK ?k6 ?k7 ?k8 ?k9 ?kB ?_ ?c2 ?c3 ?c4 ?c5; (case kA => exact rfl); (case kF => exact rfl); (case kK => assumption); (case k1 => k_asm); (case k2 => k_asm); (case k3 => k_asm); (case k4 => k_asm); (case k5 => k_asm); (case k6 => k_is); (case k7 => k_is); (case k8 => ktr_room); (case k9 => exact BindsTo.of_eq rfl); (case c5 => decide); (case kB => exact locs rfl); (case c2 => exact rfl); (case c3 => exact rfl); (case c4 => exact rfl); k_whole)
  intro g' L' h' FG' F' N' B' X' T' G9
  (try dsimp only); (try k_lift B'); (try k_fold)
  k_steps
  all_goals first | wtm_at "end_rtl" | (exfalso; omega)
  all_goals (first | rfl | exact (Int.emod_eq_of_lt hx (lt_of_cmp (by assumption))).symm)
theorem school0_c (news : List (Addr × Obj)) (l l' : Addr) (x v wd : Int) (tx tv tw : Tok) (cap cap' : Nat)
    (hl : (l, listOf #[.int x tx] cap) ∈ news) (hl' : (l', listOf #[.int v tv] cap') ∈ news) (hx : 0 < x) (hx2 : x < 512) (hv : 0 < v) (hv2 : v < 512) (hw : 6 ≤ wd) (hw2 : wd ≤ 9) (hr : x % v = 0) (hxv : v ≤ x) :
    Con 9 231 [.ref l, .ref l', .int wd tw] news (RetTN news) := by
  w_top off
  refine ⟨?_⟩
  intro w p loose mean mg mb dp un gd cn cs a ccd cl outer A₀ base h₀ L m s Q E B F X N T hk hd hu ret
  have e1 : (if x < v then (-1 : Int) else if v < x then 1 else 0) < 0 → False := fun h => by have := lt_of_cmp h; omega
  have hsub9 : ∀ p ∈ ([(l, listOf #[.int x tx] cap), (l', listOf #[.int v tv] cap')] : List (Addr × Obj)), p ∈ news := by
    intro p hp
    simp only [List.mem_cons, List.not_mem_nil, or_false] at hp
    rcases hp with rfl | rfl <;> assumption
  refine wpAny_call ?_
  k_dflt (refine' enterR (news₀ := [(l, listOf #[.int x tx] cap), (l', listOf #[.int v tv] cap')]) ?k1 ?k2 ?k3 ?k4 ?k5 hsub9 ?kA ?kF ?kK ?k6 ?k7 ?k8 ?k9 ?kB ?_ ?c2 ?c3 ?c4 ?c5; (case kA => exact rfl); (case kF => exact rfl); (case kK => assumption); (case k1 => k_asm); (case k2 => k_asm); (case k3 => k_asm); (case k4 => k_asm); (case k5 => k_asm); (case k6 => k_is); (case k7 => k_is); (case k8 => ktr_room); (case k9 => exact BindsTo.of_eq rfl); (case c5 => decide); (case kB => exact locs rfl); (case c2 => exact rfl); (case c3 => exact rfl); (case c4 => exact rfl); k_whole)
  intro g' L' h' FG' F' N' B' X' T' G9
  (try dsimp only); (try k_lift B'); (try k_fold)
  k_steps
  all_goals first | (exfalso; exact e1 (by assumption)) | skip
  all_goals first | wtm_at "end_rtn" | (exfalso; omega)
theorem school2_c (news : List (Addr × Obj)) (l l' : Addr) (x y v wd : Int) (tx ty tv tw : Tok) (cap cap' : Nat)
    (hl : (l, listOf #[.int x tx, .int y ty] cap) ∈ news) (hl' : (l', listOf #[.int v tv] cap') ∈ news) (hx : 0 ≤ x) (hx2 : x < 2 ^ wd.toNat) (hy : 0 ≤ y) (hy2 : y < 512) (hv : 0 < v) (hv2 : v < 512) (hw : 6 ≤ wd) (hw2 : wd ≤ 9) (hr : 0 < (y * 2 ^ wd.toNat + x) % v) :
    Con 9 231 [.ref l, .ref l', .int wd tw] news (RetTL news ((y * 2 ^ wd.toNat + x) % v)) := by
  w_top off
  refine ⟨?_⟩
  intro w p loose mean mg mb dp un gd cn cs a ccd cl outer A₀ base h₀ L m s Q E B F X N T hk hd hu ret
  have hsub9 : ∀ p ∈ ([(l, listOf #[.int x tx, .int y ty] cap), (l', listOf #[.int v tv] cap')] : List (Addr × Obj)), p ∈ news := by
    intro p hp
    simp only [List.mem_cons, List.not_mem_nil, or_false] at hp
    rcases hp with rfl | rfl <;> assumption
  refine wpAny_call ?_
  k_dflt (refine' enterR (news₀ := [(l, listOf #[.int x tx, .int y ty] cap), (l', listOf #[.int v tv] cap')]) ?k1 ?k2 ?k3 ?k4 ?k5 hsub9 ?kA ?kF ?kK ?k6 ?k7 ?k8 ?k9 ?kB ?_ ?c2 ?c3 ?c4 ?c5; (case kA => exact rfl); (case kF => exact rfl); (case kK => assumption); (case k1 => k_asm); (case k2 => k_asm); (case k3 => k_asm); (case k4 => k_asm); (case k5 => k_asm); (case k6 => k_is); (case k7 => k_is); (case k8 => ktr_room); (case k9 => exact BindsTo.of_eq rfl); (case c5 => decide); (case kB => exact locs rfl); (case c2 => exact rfl); (case c3 => exact rfl); (case c4 => exact rfl); k_whole)
  intro g' L' h' FG' F' N' B' X' T' G9
  (try dsimp only); (try k_lift B'); (try k_fold)
  k_steps
  all_goals first | wtm_at "end_rtl" | (exfalso; omega)
  all_goals (rfl)

end
local macro_rules | `(tactic| wtm_at "con") => `(tactic| ((with_reducible show Con _ 231 _ _ _); exact school1_c _ _ _ _ _ _ _ _ _ _ _ (by wtm_at "m_mem") (by wtm_at "m_mem") (by wtm_at "om") (by wtm_at "om") (by wtm_at "om") (by wtm_at "om") (by wtm_at "om") (by wtm_at "om") (by wtm_at "m_arith")))
local macro_rules | `(tactic| wtm_at "con") => `(tactic| ((with_reducible show Con _ 231 _ _ _); exact school0_c _ _ _ _ _ _ _ _ _ _ _ (by wtm_at "m_mem") (by wtm_at "m_mem") (by wtm_at "om") (by wtm_at "om") (by wtm_at "om") (by wtm_at "om") (by wtm_at "om") (by wtm_at "om") (by wtm_at "m_arith") (by wtm_at "om")))
local macro_rules | `(tactic| wtm_at "con") => `(tactic| ((with_reducible show Con _ 231 _ _ _); exact school2_c _ _ _ _ _ _ _ _ _ _ _ _ _ (by wtm_at "m_mem") (by wtm_at "m_mem") (by wtm_at "om") (by assumption) (by wtm_at "om") (by wtm_at "om") (by wtm_at "om") (by wtm_at "om") (by wtm_at "om") (by wtm_at "om") (by assumption)))
local macro_rules | `(tactic| wtm_at "con") => `(tactic| ((with_reducible show Con _ 58 _ _ _); exact norm1_c _ _ _ _ _ (by wtm_at "m_mem") (by wtm_at "m_arith")))
local macro_rules | `(tactic| wtm_at "con") => `(tactic| ((with_reducible show Con _ 58 _ _ _); exact norm2lo_c _ _ _ _ _ _ (by wtm_at "m_mem") (by wtm_at "m_arith")))
local macro_rules | `(tactic| wtm_at "con") => `(tactic| ((with_reducible show Con _ 58 _ _ _); exact norm2hi_c _ _ _ _ _ _ _ (by wtm_at "m_mem") (by wtm_at "m_arith")))
section
def lim2 (x y : Int) (t t' : Tok) : Array Value := if y = 0 then #[.int x t] else #[.int x t, .int y t']
/-- a new list of one or two ints -/
abbrev RetLX (news : List (Addr × Obj)) (x y : Int) : Heap → Addr → (Str → Option Value) → Shared → (Value → Shared → Prop) → Prop :=
  fun h₀ L m s Q => ∀ (t t' : Tok) (r : Addr) (cap : Nat) (h' : Heap) (tk' : Nat), Fr h₀ L h' m → News h₀ L h' ((r, listOf (lim2 x y t t') cap) :: news) → (∀ q ∈ news, q.1 ≠ r) → Q (.ref r) { s with heap := h', toks := tk' }
theorem ret_lx {news : List (Addr × Obj)} {x y : Int} {h₀ h' : Heap} {L r : Addr} {cap : Nat} {m : Str → Option Value} {s : Shared} {Q : Value → Shared → Prop} {t t' : Tok} {tk' : Nat} (ret : RetLX news x y h₀ L m s Q) (F : Fr h₀ L h' m) (N : News h₀ L h' ((r, listOf (lim2 x y t t') cap) :: news)) (hlt : ∀ q ∈ news, q.1 ≠ r) : Q (.ref r) { s with heap := h', toks := tk' } := ret t t' r cap h' tk' F N hlt
theorem norm_x (news : List (Addr × Obj)) (l : Addr) (x y : Int) (tx ty : Tok) (cap : Nat) (hl : (l, listOf #[.int x tx, .int y ty] cap) ∈ news) (h0 : 0 ≤ y) (hx : y = 0 → 0 < x) : Con 3 58 [.ref l] news (RetLX news x y) := by
  w_top off
  refine ⟨?_⟩
  intro w p loose mean mg mb dp un gd cn cs a ccd cl outer A₀ base h₀ L m s Q E B F X N T hk hd hu ret
  by_cases e : y = 0
  · subst e
    exact (norm2lo_c _ _ _ _ _ _ hl (hx rfl)).go w p loose mean mg mb dp un gd cn cs a ccd cl outer A₀ base h₀ L m s Q E B F X N T hk hd hu fun t r cap h' tk' F' N' l' => ret t 0 r cap h' tk' F' N' l'
  · refine (norm2hi_c _ _ _ _ _ _ _ hl (by omega)).go w p loose mean mg mb dp un gd cn cs a ccd cl outer A₀ base h₀ L m s Q E B F X N T hk hd hu fun t t' r cap h' tk' F' N' l' => ret t t' r cap h' tk' F' ?_ l'
    rw [lim2, if_neg e]
    exact N'
local macro_rules | `(tactic| wtm_at "con") => `(tactic| ((with_reducible show Con _ 58 _ _ _); exact norm_x _ _ _ _ _ _ _ (by wtm_at "m_mem") (by assumption) (by assumption)))
theorem mul_c (news : List (Addr × Obj)) (l l' : Addr) (x y wd : Int) (tx ty tw : Tok) (cap cap' : Nat)
    (hl : (l, listOf #[.int x tx] cap) ∈ news) (hl' : (l', listOf #[.int y ty] cap') ∈ news) (hx : 0 < x) (hx2 : x < 512) (hw : 6 ≤ wd) (hw2 : wd ≤ 9) (h0 : 0 ≤ x * y / 2 ^ wd.toNat) (hlo : x * y / 2 ^ wd.toNat = 0 → 0 < x * y % 2 ^ wd.toNat) :
    Con 5 189 [.ref l, .ref l', .int wd tw] news (RetLX news (x * y % 2 ^ wd.toNat) (x * y / 2 ^ wd.toNat)) := by
  w_top off
  refine ⟨?_⟩
  intro w p loose mean mg mb dp un gd cn cs a ccd cl outer A₀ base h₀ L m s Q E B F X N T hk hd hu ret
  have e1 : (1 : Int) * 2 ^ wd.toNat = 2 ^ wd.toNat := Int.one_mul _
  have e2 : (0 : Int) + x * y = x * y := Int.zero_add _
  have e3 : Builtin.bitAnd (x * y) (2 ^ wd.toNat - 1) = x * y % 2 ^ wd.toNat := kbt_mask _ _
  have hsub9 : ∀ p ∈ ([(l, listOf #[.int x tx] cap), (l', listOf #[.int y ty] cap')] : List (Addr × Obj)), p ∈ news := by
    intro p hp
    simp only [List.mem_cons, List.not_mem_nil, or_false] at hp
    rcases hp with rfl | rfl <;> assumption
  refine wpAny_call ?_
  k_dflt (refine' enterR (news₀ := [(l, listOf #[.int x tx] cap), (l', listOf #[.int y ty] cap')]) ?k1 ?k2 ?k3 ?k4 ?k5 hsub9 ?kA ?kF ?kK ?k6 ?k7 ?k8 ?k9 ?kB ?_ ?c2 ?c3 ?c4 ?c5; (case kA => exact rfl); (case kF => exact rfl); (case kK => assumption); (case k1 => k_asm); (case k2 => k_asm); (case k3 => k_asm); (case k4 => k_asm); (case k5 => k_asm); (case k6 => k_is); (case k7 => k_is); (case k8 => ktr_room); (case k9 => exact BindsTo.of_eq rfl); (case c5 => decide); (case kB => exact locs rfl); (case c2 => exact rfl); (case c3 => exact rfl); (case c4 => exact rfl); k_whole)
  intro g' L' h' FG' F' N' B' X' T' G9
  (try dsimp only); (try k_lift B'); (try k_fold)
  k_steps
  all_goals exact ret_lx (by assumption) (by k_asm) (by wtm_at "e_n1") (by wtm_at "e_ne")
theorem school_l2 (news : List (Addr × Obj)) (l l' : Addr) (x y v wd : Int) (tx ty tv tw : Tok) (cap cap' : Nat)
    (hl : (l, listOf (lim2 x y tx ty) cap) ∈ news) (hl' : (l', listOf #[.int v tv] cap') ∈ news) (hx : 0 ≤ x) (hx2 : x < 2 ^ wd.toNat) (hy : 0 ≤ y) (hy2 : y < 512) (hv : 0 < v) (hv2 : v < 512) (hw : 6 ≤ wd) (hw2 : wd ≤ 9) (hP : (2 : Int) ^ wd.toNat ≤ 512) (hr : 0 < (y * 2 ^ wd.toNat + x) % v) :
    Con 9 231 [.ref l, .ref l', .int wd tw] news (RetTL news ((y * 2 ^ wd.toNat + x) % v)) := by
  by_cases e : y = 0
  · subst e
    rw [Int.zero_mul, Int.zero_add] at hr ⊢
    exact school1_c _ _ _ _ _ _ _ _ _ _ _ hl hl' hx (by omega) hv hv2 hw hw2 hr
  · rw [lim2, if_neg e] at hl
    exact school2_c _ _ _ _ _ _ _ _ _ _ _ _ _ hl hl' hx hx2 hy hy2 hv hv2 hw hw2 hr

end
local macro_rules | `(tactic| wtm_at "con") => `(tactic| ((with_reducible show Con _ 189 _ _ _); exact mul_c _ _ _ _ _ _ _ _ _ _ _ (by wtm_at "m_mem") (by wtm_at "m_mem") (by wtm_at "m_arith") (by wtm_at "m_arith") (by wtm_at "om") (by wtm_at "om") (by assumption) (by assumption)))
local macro_rules | `(tactic| wtm_at "con") => `(tactic| ((with_reducible show Con _ 231 _ _ _); exact school_l2 _ _ _ _ _ _ _ _ _ _ _ _ _ (by wtm_at "m_mem") (by wtm_at "m_mem") (by assumption) (by assumption) (by assumption) (by assumption) (by wtm_at "om") (by wtm_at "om") (by wtm_at "om") (by wtm_at "om") (by assumption) (by assumption)))
section
theorem shr_c (news : List (Addr × Obj)) (l : Addr) (x n wd c : Int) (tx tn tw : Tok) (cap : Nat)
    (hl : (l, listOf #[.int x tx] cap) ∈ news) (hx : 0 < x) (hx2 : x < 64) (hn : 0 ≤ n) (hn2 : n < wd) (hw : 6 ≤ wd) (hw2 : wd ≤ 9) (hq : x / 2 ^ n.toNat = c) (hc : 0 < c) :
    Con 5 93 [.ref l, .int n tn, .int wd tw] news (RetL news c) := by
  w_top off
  refine ⟨?_⟩
  intro w p loose mean mg mb dp un gd cn cs a ccd cl outer A₀ base h₀ L m s Q E B F X N T hk hd hu ret
  have hc2 : c ≤ x := hq ▸ Int.ediv_le_self _ (by omega)
  have hP := pw_ge hw hw2
  have e1 : n / wd = 0 := Int.ediv_eq_zero_of_lt hn hn2
  have e2 : n % wd = n := Int.emod_eq_of_lt hn hn2
  have e3 : (1 : Int) * 2 ^ wd.toNat = 2 ^ wd.toNat := Int.one_mul _
  have e4 : (0 : Int) * 2 ^ (wd - n).toNat = 0 := Int.zero_mul _
  have e5 : Builtin.bitOr c 0 = c := (bitOr_comm _ _).trans (bor_zero _ (by omega))
  have e6 : Builtin.bitAnd c (2 ^ wd.toNat - 1) = c := (kbt_mask _ _).trans (Int.emod_eq_of_lt (by omega) (by omega))
  have hsub9 : ∀ p ∈ ([(l, listOf #[.int x tx] cap)] : List (Addr × Obj)), p ∈ news := by
    intro p hp
    simp only [List.mem_cons, List.not_mem_nil, or_false] at hp
    rcases hp with rfl <;> assumption
  refine wpAny_call ?_
  k_dflt (refine' enterR (news₀ := [(l, listOf #[.int x tx] cap)]) ?k1 ?k2 ?k3 ?k4 ?k5 hsub9 ?kA ?kF ?kK ?k6 ?k7 ?k8 ?k9 ?kB ?_ ?c2 ?c3 ?c4 ?c5; (case kA => exact rfl); (case kF => exact rfl); (case kK => assumption); (case k1 => k_asm); (case k2 => k_asm); (case k3 => k_asm); (case k4 => k_asm); (case k5 => k_asm); (case k6 => k_is); (case k7 => k_is); (case k8 => ktr_room); (case k9 => exact BindsTo.of_eq rfl); (case c5 => decide); (case kB => exact locs rfl); (case c2 => exact rfl); (case c3 => exact rfl); (case c4 => exact rfl); k_whole)
  intro g' L' h' FG' F' N' B' X' T' G9
  (try dsimp only); (try k_lift B'); (try k_fold)
  k_steps
  all_goals first | wtm_at "end_rl" | (exfalso; omega)
  all_goals (rfl)

end
local macro_rules | `(tactic| wtm_at "con") => `(tactic| ((with_reducible show Con _ 93 _ _ _); exact shr_c _ _ _ _ _ _ _ _ _ _ (by wtm_at "m_mem") (by wtm_at "om") (by wtm_at "om") (by wtm_at "om") (by wtm_at "om") (by wtm_at "om") (by wtm_at "om") (by wtm_at "m_val") (by wtm_at "om")))
section
section
variable (news : List (Addr × Obj)) (l l' : Addr) (x y v wd c : Int) (tx ty tv tw : Tok) (cap cap' : Nat)
theorem school1v (hl : (l, listOf #[.int x tx] cap) ∈ news) (hl' : (l', listOf #[.int v tv] cap') ∈ news) (hx : 0 ≤ x) (hx2 : x < 512) (hv : 0 < v) (hv2 : v < 512) (hw : 6 ≤ wd) (hw2 : wd ≤ 9) (e : x % v = c) (hr : 0 < c) :
    Con 9 231 [.ref l, .ref l', .int wd tw] news (RetTL news c) := by
  subst e
  exact school1_c _ _ _ _ _ _ _ _ _ _ _ hl hl' hx hx2 hv hv2 hw hw2 hr
theorem trailv (hl : (l, listOf #[.int x tx] cap) ∈ news) (hx : 0 < x) (hx2 : x < 512) (hw : 6 ≤ wd) (hw2 : wd ≤ 9) (e : (Builtin.Int.intBits (Builtin.bitAnd x (-x)) : Int) - 1 = c) :
    Con 3 114 [.ref l, .int wd tw] news (RetI news c) := by
  subst e
  exact trailing_c _ _ _ _ _ _ _ hl hx hx2 hw hw2
theorem signv (hl : (l, listOf #[.int x tx] cap) ∈ news) (hw : 6 ≤ wd) (hw2 : wd ≤ 9) (e : (if y % 2 = 1 ∧ (x % 8 = 3 ∨ x % 8 = 5) then (-1 : Int) else 1) = c) :
    Con 6 126 [.int y ty, .ref l, .int wd tw] news (RetI news c) := by
  subst e
  exact two_sign_c _ _ _ _ _ _ _ _ _ hl hw hw2
theorem cmpv (hl : (l, listOf #[.int x tx] cap) ∈ news) (hl' : (l', listOf #[.int y ty] cap') ∈ news) (e : (if x < y then (-1 : Int) else if y < x then 1 else 0) = c) :
    Con 3 72 [.ref l, .ref l'] news (RetI news c) := by
  subst e
  exact cmp_c _ _ _ _ _ _ _ _ _ hl hl'
end

end
local macro_rules | `(tactic| wtm_at "m_lit") => `(tactic| first | (refine (?_ : _ = (0 : Int)); decide +kernel) | (refine (?_ : _ = (1 : Int)); decide +kernel) | (refine (?_ : _ = (2 : Int)); decide +kernel) | (refine (?_ : _ = (-1 : Int)); decide +kernel))
local macro_rules | `(tactic| wtm_at "con") => `(tactic| ((with_reducible show Con _ 231 _ _ _); exact school1v _ _ _ _ _ _ _ _ _ _ _ _ (by wtm_at "m_mem") (by wtm_at "m_mem") (by wtm_at "om") (by wtm_at "om") (by wtm_at "om") (by wtm_at "om") (by wtm_at "om") (by wtm_at "om") (by wtm_at "m_val") (by wtm_at "om")))
local macro_rules | `(tactic| wtm_at "con") => `(tactic| ((with_reducible show Con _ 114 _ _ _); exact trailv _ _ _ _ _ _ _ _ (by wtm_at "m_mem") (by wtm_at "om") (by wtm_at "om") (by wtm_at "om") (by wtm_at "om") (by wtm_at "m_lit")))
local macro_rules | `(tactic| wtm_at "con") => `(tactic| ((with_reducible show Con _ 126 _ _ _); exact signv _ _ _ _ _ _ _ _ _ _ (by wtm_at "m_mem") (by wtm_at "om") (by wtm_at "om") (by wtm_at "m_lit")))
local macro_rules | `(tactic| wtm_at "con") => `(tactic| ((with_reducible show Con _ 72 _ _ _); exact cmpv _ _ _ _ _ _ _ _ _ _ (by wtm_at "m_mem") (by wtm_at "m_mem") (by wtm_at "m_lit")))
section
def tz (x : Int) : Int := (Builtin.Int.intBits (Builtin.bitAnd x (-x)) : Int) - 1
def od (x : Int) : Int := x / 2 ^ (tz x).toNat
def sg (z y : Int) : Int := if z % 2 = 1 ∧ (y % 8 = 3 ∨ y % 8 = 5) then -1 else 1
theorem od_facts {x : Int} (h1 : 1 ≤ x) (h2 : x ≤ 6) : 0 ≤ tz x ∧ tz x ≤ 2 ∧ 1 ≤ od x ∧ od x ≤ x := by
  rcases k6 h1 h2 with rfl | rfl | rfl | rfl | rfl | rfl <;> decide
theorem sg_pm (z y : Int) : sg z y = 1 ∨ sg z y = -1 := by
  unfold sg
  split
  · exact .inr rfl
  · exact .inl rfl
theorem pm_mul {a b : Int} (ha : a = 1 ∨ a = -1) (hb : b = 1 ∨ b = -1) : a * b = 1 ∨ a * b = -1 := by
  rcases ha with rfl | rfl <;> rcases hb with rfl | rfl <;> decide
theorem pm_neg {a : Int} (ha : a = 1 ∨ a = -1) : -a = 1 ∨ -a = -1 := ha.elim (fun h => .inr (congrArg Neg.neg h)) fun h => .inl (congrArg Neg.neg h)
def jst : Nat → Int → Int → Int → Int
  | 0, _, _, _ => 0
  | k + 1, x, y, f => if x = 0 then (if y = 1 then f else 0) else jst k (y % od x) (od x) (if od x % 4 = 3 ∧ y % 4 = 3 then -(f * sg (tz x) y) else f * sg (tz x) y)
theorem jst_yes {k : Nat} {a b u v T : Int} {p q : Prop} [Decidable p] [Decidable q] (h : jst k a b (if p ∧ q then u else v) = T) (hp : p) (hq : q) : jst k a b u = T := by rwa [if_pos ⟨hp, hq⟩] at h
theorem jst_no1 {k : Nat} {a b u v T : Int} {p q : Prop} [Decidable p] [Decidable q] (h : jst k a b (if p ∧ q then u else v) = T) (hp : ¬p) : jst k a b v = T := by rwa [if_neg fun z => hp z.1] at h
theorem jst_no2 {k : Nat} {a b u v T : Int} {p q : Prop} [Decidable p] [Decidable q] (h : jst k a b (if p ∧ q then u else v) = T) (hp : ¬q) : jst k a b v = T := by rwa [if_neg fun z => hp z.2] at h
theorem jac_e1 {y f T : Int} (h : (if y = 1 then f else 0) = T) (a : (if y < 1 then (-1 : Int) else if 1 < y then 1 else 0) = 0) (h1 : 1 ≤ y) : f = T := by
  have e : y = 1 := by
    by_cases h2 : 1 < y
    · rw [if_neg (by omega), if_pos h2] at a; omega
    · omega
  rwa [if_pos e] at h
theorem jac_e0 {y f T : Int} (h : (if y = 1 then f else 0) = T) (a : (if y < 1 then (-1 : Int) else if 1 < y then 1 else 0) ≠ 0) : 0 = T := by
  have e : y ≠ 1 := by
    rintro rfl
    exact a (by decide)
  rwa [if_neg e] at h
def lim (x : Int) (t : Tok) : Array Value := if x = 0 then #[] else #[.int x t]
theorem lim_pos {x : Int} (h : 0 < x) (t : Tok) : lim x t = #[.int x t] := if_neg (by omega)
/-- a new tuple of two lists: of the first nothing is told, the second is new and holds an int's limbs -/
abbrev RetTX (news : List (Addr × Obj)) (x : Int) : Heap → Addr → (Str → Option Value) → Shared → (Value → Shared → Prop) → Prop :=
  fun h₀ L m s Q => ∀ (t : Tok) (q r d : Addr) (cap : Nat) (h' : Heap) (tk' : Nat), Fr h₀ L h' m → News h₀ L h' ((d, { cls := .type "tuple", data := .seq #[.ref q, .ref r] }) :: (r, listOf (lim x t) cap) :: news) → (∀ q ∈ news, q.1 ≠ r) → (∀ q ∈ news, q.1 ≠ d) → @Ne Nat r d → Q (.ref d) { s with heap := h', toks := tk' }
section
variable (news : List (Addr × Obj)) (l l' : Addr) (x y v wd : Int) (tx ty tv tw : Tok) (cap cap' : Nat)
theorem school_x (hl : (l, listOf #[.int x tx] cap) ∈ news) (hl' : (l', listOf #[.int v tv] cap') ∈ news) (hx : 0 < x) (hx2 : x < 512) (hv : 0 < v) (hv2 : v < 512) (hw : 6 ≤ wd) (hw2 : wd ≤ 9) :
    Con 9 231 [.ref l, .ref l', .int wd tw] news (RetTX news (x % v)) := by
  w_top off
  refine ⟨?_⟩
  intro w p loose mean mg mb dp un gd cn cs a ccd cl outer A₀ base h₀ L m s Q E B F X N T hk hd hu ret
  by_cases h0 : x % v = 0
  · have hxv : v ≤ x := by
      by_cases hh : v ≤ x
      · exact hh
      · rw [Int.emod_eq_of_lt (by omega) (by omega)] at h0; omega
    refine (school0_c news l l' x v wd tx tv tw cap cap' hl hl' hx hx2 hv hv2 hw hw2 h0 hxv).go w p loose mean mg mb dp un gd cn cs a ccd cl outer A₀ base h₀ L m s Q E B F X N T hk hd hu ?_
    intro q r d cp h' tk' F' N'
    refine ret 0 q r d cp h' tk' F' ?_
    rw [h0]
    exact N'
  · have hp : 0 < x % v := by have := Int.emod_nonneg x (b := v) (by omega); omega
    refine (school1_c news l l' x v wd tx tv tw cap cap' hl hl' (by omega) hx2 hv hv2 hw hw2 hp).go w p loose mean mg mb dp un gd cn cs a ccd cl outer A₀ base h₀ L m s Q E B F X N T hk hd hu ?_
    intro t q r d cp h' tk' F' N'
    refine ret t q r d cp h' tk' F' ?_
    rw [lim_pos hp]
    exact N'
theorem trail_s (hl : (l, listOf #[.int x tx] cap) ∈ news) (hx : 0 < x) (hx2 : x < 512) (hw : 6 ≤ wd) (hw2 : wd ≤ 9) : Con 3 114 [.ref l, .int wd tw] news (RetI news (tz x)) :=
  trailing_c _ _ _ _ _ _ _ hl hx hx2 hw hw2
theorem sign_s (hl : (l, listOf #[.int x tx] cap) ∈ news) (hw : 6 ≤ wd) (hw2 : wd ≤ 9) : Con 6 126 [.int y ty, .ref l, .int wd tw] news (RetI news (sg y x)) :=
  two_sign_c _ _ _ _ _ _ _ _ _ hl hw hw2
theorem shr_s (n : Int) (tn : Tok) (hl : (l, listOf #[.int x tx] cap) ∈ news) (hx : 0 < x) (hx2 : x < 64) (hn : 0 ≤ n) (hn2 : n < wd) (hw : 6 ≤ wd) (hw2 : wd ≤ 9) (e : n = tz x) (h1 : 1 ≤ od x) : Con 5 93 [.ref l, .int n tn, .int wd tw] news (RetL news (od x)) :=
  shr_c _ _ _ _ _ _ _ _ _ _ hl hx hx2 hn hn2 hw hw2 (by rw [e]; rfl) (by omega)
end
theorem op_pm {prog : Program} {w : World} {A : Around} {E : Value → Shared → Prop} {s : Shared} {a b : Int} {t u : Tok} {Q : Value → Shared → Prop} (ha : a = 1 ∨ a = -1) (h : Q (.int (a * b) s.toks) { s with toks := s.toks + 1 }) : wpAny (model prog w) A (binaryOp .Mult (.int a t) (.int b u)) Q E s := by
  rcases ha with rfl | rfl
  · exact mul_int h (by mul_fits)
  · exact mul_int h (by mul_fits)
/-- between the turns -/
def JJ (g : Heap) (L : Addr) (s₀ : Shared) (news₀ : List (Addr × Obj)) (wd : Int) (tw : Tok) (T : Int) (n : Nat) (s : Shared) : Prop :=
  ∃ (h : Heap) (tk : Nat) (m₁ : Str → Option Value) (x y f : Int) (la ln : Addr) (tx ty tf : Tok) (cx cy k : Nat),
    s = { s₀ with heap := h, toks := tk } ∧ Fr g L h (fun q => if q = Str.ofString "a" then some (.ref la) else if q = Str.ofString "n" then some (.ref ln) else if q = Str.ofString "found" then some (.int f tf) else if q = Str.ofString "w" then some (.int wd tw) else if q = Str.ofString "divrem" then some (.ref 231) else m₁ q) ∧
    News g L h ((la, listOf (lim x tx) cx) :: (ln, listOf #[.int y ty] cy) :: news₀) ∧ 0 ≤ x ∧ x ≤ 6 ∧ 1 ≤ y ∧ y ≤ 7 ∧ (f = 1 ∨ f = -1) ∧ x.toNat = n ∧ x < k ∧ jst k x y f = T
section
variable {prog : Program} {w : World} {A : Around} {E : Value → Shared → Prop} {env : Env} {test : PySem.Expr} {body orelse : List Stmt} {Q : Flow → Shared → Prop} {g : Heap} {L : Addr} {s₀ : Shared} {news₀ : List (Addr × Obj)} {wd : Int} {tw : Tok} {T : Int}
structure IHJ (prog : Program) (w : World) (A : Around) (E : Value → Shared → Prop) (env : Env) (test : PySem.Expr) (body orelse : List Stmt) (Q : Flow → Shared → Prop) (g : Heap) (L : Addr) (s₀ : Shared) (news₀ : List (Addr × Obj)) (wd : Int) (tw : Tok) (T : Int) (n : Nat) : Prop where
  go : ∀ n' s', n' < n → JJ g L s₀ news₀ wd tw T n' s' → WhlRest prog w A E env test body orelse Q 0 s'
theorem jac_loop {σ : Shared} {h : Heap} {tk : Nat} {m : Str → Option Value} {x y f : Int} {la ln : Addr} {tx ty tf : Tok} {cx cy : Nat} {news : List (Addr × Obj)}
    {nw : List (Addr × Obj)} (_G : Rest g nw news₀) (hσ : σ = { s₀ with heap := h, toks := tk }) (F : Fr g L h m) (ea : m (Str.ofString "a") = some (.ref la)) (en : m (Str.ofString "n") = some (.ref ln)) (ef : m (Str.ofString "found") = some (.int f tf)) (ew : m (Str.ofString "w") = some (.int wd tw)) (ed : m (Str.ofString "divrem") = some (.ref 231))
    (N : News g L h news) (ha : (la, listOf (lim x tx) cx) ∈ news) (hn : (ln, listOf #[.int y ty] cy) ∈ news) (hs : ∀ p ∈ news₀, p ∈ news) (x0 : 0 ≤ x) (x6 : x ≤ 6) (y1 : 1 ≤ y) (y7 : y ≤ 7) (hf : f = 1 ∨ f = -1) (hT : jst 7 x y f = T)
    (turn0 : ∀ (h : Heap) (tk : Nat) (m₁ : Str → Option Value) (y f : Int) (la ln : Addr) (ty tf : Tok) (cx cy : Nat), 1 ≤ y → y ≤ 7 → (if y = 1 then f else 0) = T →
      Fr g L h (fun q => if q = Str.ofString "a" then some (.ref la) else if q = Str.ofString "n" then some (.ref ln) else if q = Str.ofString "found" then some (.int f tf) else if q = Str.ofString "w" then some (.int wd tw) else if q = Str.ofString "divrem" then some (.ref 231) else m₁ q) →
      News g L h ((la, listOf #[] cx) :: (ln, listOf #[.int y ty] cy) :: news₀) → WhlRest prog w A E env test body orelse Q (0 + 1) { s₀ with heap := h, toks := tk })
    (turn1 : ∀ (h : Heap) (tk : Nat) (m₁ : Str → Option Value) (x y f : Int) (la ln : Addr) (tx ty tf : Tok) (cx cy k : Nat), IHJ prog w A E env test body orelse Q g L s₀ news₀ wd tw T x.toNat → 1 ≤ x → x ≤ 6 → 1 ≤ y → y ≤ 7 → (f = 1 ∨ f = -1) → 0 ≤ tz x → tz x ≤ 2 → 1 ≤ od x → od x ≤ x → x ≤ k →
      jst k (y % od x) (od x) (if od x % 4 = 3 ∧ y % 4 = 3 then -(f * sg (tz x) y) else f * sg (tz x) y) = T →
      Fr g L h (fun q => if q = Str.ofString "a" then some (.ref la) else if q = Str.ofString "n" then some (.ref ln) else if q = Str.ofString "found" then some (.int f tf) else if q = Str.ofString "w" then some (.int wd tw) else if q = Str.ofString "divrem" then some (.ref 231) else m₁ q) →
      News g L h ((la, listOf #[.int x tx] cx) :: (ln, listOf #[.int y ty] cy) :: news₀) → WhlRest prog w A E env test body orelse Q (0 + 1) { s₀ with heap := h, toks := tk }) :
    WhlRest prog w A E env test body orelse Q 0 σ := by
  have all : ∀ n, ∀ s, JJ g L s₀ news₀ wd tw T n s → WhlRest prog w A E env test body orelse Q 0 s := by
    intro n
    induction n using Nat.strongRecOn with
    | ind n ih =>
      intro s hj
      obtain ⟨h, tk, m₁, x, y, f, la, ln, tx, ty, tf, cx, cy, k, rfl, F, N, x0, x6, y1, y7, hf, rfl, hk, hT⟩ := hj
      match k, hk, hT with
      | 0, hk, _ => omega
      | k + 1, hk, hT =>
        by_cases e : x = 0
        · subst e
          exact turn0 h tk m₁ y f la ln ty tf cx cy y1 y7 hT F N
        · have o := od_facts (x := x) (by omega) x6
          rw [lim_pos (by omega)] at N
          have hT' : jst k (y % od x) (od x) (if od x % 4 = 3 ∧ y % 4 = 3 then -(f * sg (tz x) y) else f * sg (tz x) y) = T := by
            rw [jst, if_neg e] at hT; exact hT
          exact turn1 h tk m₁ x y f la ln tx ty tf cx cy k ⟨fun n' s' hn hj => ih n' hn s' hj⟩ (by omega) x6 y1 y7 hf o.1 o.2.1 o.2.2.1 o.2.2.2 (by omega) hT' F N
  refine all _ _ ⟨h, tk, m, x, y, f, la, ln, tx, ty, tf, cx, cy, 7, hσ, ?_, ?_, x0, x6, y1, y7, hf, rfl, by omega, hT⟩
  · have e : (fun q => if q = Str.ofString "a" then some (.ref la) else if q = Str.ofString "n" then some (.ref ln) else if q = Str.ofString "found" then some (.int f tf) else if q = Str.ofString "w" then some (.int wd tw) else if q = Str.ofString "divrem" then some (.ref 231) else m q) = m := by
      funext q
      split
      · next e => rw [e, ea]
      · split
        · next e => rw [e, en]
        · split
          · next e => rw [e, ef]
          · split
            · next e => rw [e, ew]
            · split
              · next e => rw [e, ed]
              · rfl
    rw [e]
    exact F
  · intro p hp
    rcases List.mem_cons.mp hp with rfl | hp
    · exact N _ ha
    · rcases List.mem_cons.mp hp with rfl | hp
      · exact N _ hn
      · exact N p (hs p hp)
theorem jac_back {σ : Shared} {h : Heap} {tk n : Nat} {m : Str → Option Value} {x y f : Int} {la ln : Addr} {tx ty tf : Tok} {cx cy k : Nat} {news : List (Addr × Obj)}
    (I : IHJ prog w A E env test body orelse Q g L s₀ news₀ wd tw T n)
    (hσ : σ = { s₀ with heap := h, toks := tk }) (F : Fr g L h m) (ea : m (Str.ofString "a") = some (.ref la)) (en : m (Str.ofString "n") = some (.ref ln)) (ef : m (Str.ofString "found") = some (.int f tf)) (ew : m (Str.ofString "w") = some (.int wd tw)) (ed : m (Str.ofString "divrem") = some (.ref 231))
    (N : News g L h news) (ha : (la, listOf (lim (y % x) tx) cx) ∈ news) (hn : (ln, listOf #[.int x ty] cy) ∈ news) (hs : ∀ p ∈ news₀, p ∈ news) (hT : jst k (y % x) x f = T) (x1 : 1 ≤ x) (x6 : x ≤ 6) (hf : f = 1 ∨ f = -1) (hx : x ≤ (n : Int)) (hk : (n : Int) ≤ k) :
    WhlRest prog w A E env test body orelse Q 0 σ := by
  have a0 := Int.emod_nonneg y (b := x) (by omega)
  have a1 := Int.emod_lt_of_pos y (b := x) (by omega)
  refine I.go (y % x).toNat _ (by omega) ⟨h, tk, m, y % x, x, f, la, ln, tx, ty, tf, cx, cy, k, hσ, ?_, ?_, a0, by omega, x1, by omega, hf, rfl, by omega, hT⟩
  · have e : (fun q => if q = Str.ofString "a" then some (.ref la) else if q = Str.ofString "n" then some (.ref ln) else if q = Str.ofString "found" then some (.int f tf) else if q = Str.ofString "w" then some (.int wd tw) else if q = Str.ofString "divrem" then some (.ref 231) else m q) = m := by
      funext q
      split
      · next e => rw [e, ea]
      · split
        · next e => rw [e, en]
        · split
          · next e => rw [e, ef]
          · split
            · next e => rw [e, ew]
            · split
              · next e => rw [e, ed]
              · rfl
    rw [e]
    exact F
  · intro p hp
    rcases List.mem_cons.mp hp with rfl | hp
    · exact N _ ha
    · rcases List.mem_cons.mp hp with rfl | hp
      · exact N _ hn
      · exact N p (hs p hp)
end
local macro_rules | `(tactic| wtm_at "con") => `(tactic| ((with_reducible show Con _ 231 _ _ _); exact school_x _ _ _ _ _ _ _ _ _ _ _ (by wtm_at "m_mem") (by wtm_at "m_mem") (by wtm_at "om") (by wtm_at "om") (by wtm_at "om") (by wtm_at "om") (by wtm_at "om") (by wtm_at "om")))
local macro_rules | `(tactic| wtm_at "con") => `(tactic| ((with_reducible show Con _ 114 _ _ _); exact trail_s _ _ _ _ _ _ _ (by wtm_at "m_mem") (by wtm_at "om") (by wtm_at "om") (by wtm_at "om") (by wtm_at "om")))
local macro_rules | `(tactic| wtm_at "con") => `(tactic| ((with_reducible show Con _ 126 _ _ _); exact sign_s _ _ _ _ _ _ _ _ _ (by wtm_at "m_mem") (by wtm_at "om") (by wtm_at "om")))
local macro_rules | `(tactic| wtm_at "con") => `(tactic| ((with_reducible show Con _ 93 _ _ _); exact shr_s _ _ _ _ _ _ _ _ _ (by wtm_at "m_mem") (by wtm_at "om") (by wtm_at "om") (by wtm_at "om") (by wtm_at "om") (by wtm_at "om") (by wtm_at "om") (by exact rfl) (by wtm_at "om")))
local macro_rules | `(tactic| walk_at "binaryOp Mult int int") => `(tactic| refine op_pm (by assumption) ?_)
local macro_rules | `(tactic| wtm_at "jl_0") => `(tactic| exact Int.emod_nonneg _ (by omega))
local macro_rules | `(tactic| wtm_at "jl_6") => `(tactic| exact Int.le_of_lt_add_one (Int.lt_of_lt_of_le (Int.emod_lt_of_pos _ (by omega)) (by omega)))
local macro_rules | `(tactic| wtm_at "jl") => `(tactic| k_dflt (refine jac_loop (by assumption) (by exact rfl) (by k_asm) (by exact rfl) (by exact rfl) (by exact rfl) (by exact rfl) (by exact rfl) (by k_asm) (by wtm_at "m_mem") (by wtm_at "m_mem") (by wtm_at "m_sub") (by wtm_at "jl_0") (by wtm_at "jl_6") (by omega) (by omega) (by exact .inl rfl) (by assumption) ?_ ?_))
local macro_rules | `(tactic| walk_at "exec While Compare cons nil") => `(tactic| (k_here; k_dflt (refine whl_start 0 ?_); wtm_at "jl" <;> intros))
local macro_rules | `(tactic| wtm_at "jb_n") => `(tactic| first | assumption | omega)
local macro_rules | `(tactic| wtm_at "jb_t") => `(tactic| first | exact jst_yes (by assumption) (by assumption) (by assumption) | exact jst_no1 (by assumption) (by wtm_at "jb_n") | exact jst_no2 (by assumption) (by wtm_at "jb_n"))
local macro_rules | `(tactic| wtm_at "jb_f") => `(tactic| first | exact pm_neg (pm_mul (by assumption) (sg_pm _ _)) | exact pm_mul (by assumption) (sg_pm _ _))
local macro_rules | `(tactic| walk_at "WhlRest") => `(tactic| k_dflt (exact jac_back (by assumption) (by exact rfl) (by k_asm) (by exact rfl) (by exact rfl) (by exact rfl) (by exact rfl) (by exact rfl) (by k_asm) (by wtm_at "m_mem") (by wtm_at "m_mem") (by wtm_at "m_sub") (by wtm_at "jb_t") (by wtm_at "om") (by wtm_at "om") (by wtm_at "jb_f") (by wtm_at "om") (by wtm_at "om")))
theorem jac_c (news : List (Addr × Obj)) (l l' : Addr) (x v wd T : Int) (tx ty tw : Tok) (cap cap' : Nat)
    (hl : (l, listOf #[.int x tx] cap) ∈ news) (hl' : (l', listOf #[.int v ty] cap') ∈ news) (hw : 6 ≤ wd) (hw2 : wd ≤ 9) (hv : v % 2 = 1) (h1 : 1 ≤ x) (h2 : x < v) (h7 : v ≤ 7) (e : jst 7 (x % v) v 1 = T) :
    Con 11 133 [.ref l, .ref l', .int wd tw, .ref 231] news (RetI news T) := by
  w_top off
  refine ⟨?_⟩
  intro w p loose mean mg mb dp un gd cn cs a ccd cl outer A₀ base h₀ L m s Q E B F X N T hk hd hu ret
  have hsub9 : ∀ p ∈ ([(l, listOf #[.int x tx] cap), (l', listOf #[.int v ty] cap')] : List (Addr × Obj)), p ∈ news := by
    intro p hp
    simp only [List.mem_cons, List.not_mem_nil, or_false] at hp
    rcases hp with rfl | rfl <;> assumption
  refine wpAny_call ?_
  k_dflt (refine' enterR (news₀ := [(l, listOf #[.int x tx] cap), (l', listOf #[.int v ty] cap')]) ?k1 ?k2 ?k3 ?k4 ?k5 hsub9 ?kA ?kF ?kK ?k6 ?k7 ?k8 ?k9 ?kB ?_ ?c2 ?c3 ?c4 ?c5; (case kA => exact rfl); (case kF => exact rfl); (case kK => assumption); (case k1 => k_asm); (case k2 => k_asm); (case k3 => k_asm); (case k4 => k_asm); (case k5 => k_asm); (case k6 => k_is); (case k7 => k_is); (case k8 => ktr_room); (case k9 => exact BindsTo.of_eq rfl); (case c5 => decide); (case kB => exact locs rfl); (case c2 => exact rfl); (case c3 => exact rfl); (case c4 => exact rfl); k_whole)
  intro g' L' h' FG' F' N' B' X' T' G9
  (try dsimp only); (try k_lift B'); (try k_fold)
  k_steps
  all_goals (refine ret_i ret ?_ (by k_asm) (rest_back N hsub9 G9 (by assumption) (by assumption) (by wtm_at "m_sub")) (fun p hp => hp))
  all_goals (first | exact jac_e1 (by assumption) (by assumption) (by assumption) | exact jac_e0 (by assumption) (by assumption))

end
section
theorem ll_c (news : List (Addr × Obj)) (x wd : Int) (tx tw : Tok) (hx : 0 < x) (hx2 : x < 64) (hw : 6 ≤ wd) (hw2 : wd ≤ 9) :
    Con 3 245 [.int x tx, .int wd tw] news (RetL news x) := by
  w_top off
  refine ⟨?_⟩
  intro w p loose mean mg mb dp un gd cn cs a ccd cl outer A₀ base h₀ L m s Q E B F X N T hk hd hu ret
  have hP := pw_ge hw hw2
  have e1 : x % 2 ^ wd.toNat = x := Int.emod_eq_of_lt (by omega) (by omega)
  have e2 : x / 2 ^ wd.toNat = 0 := Int.ediv_eq_zero_of_lt (by omega) (by omega)
  have hP3 := pw_lt hw hw2
  have hsub9 : ∀ p ∈ ([] : List (Addr × Obj)), p ∈ news := fun _ h => nomatch h
  refine wpAny_call ?_
  k_dflt (refine' enterR (news₀ := []) ?k1 ?k2 ?k3 ?k4 ?k5 hsub9 ?kA ?kF ?kK ?k6 ?k7 ?k8 ?k9 ?kB ?_ ?c2 ?c3 ?c4 ?c5; (case kA => exact rfl); (case kF => exact rfl); (case kK => assumption); (case k1 => k_asm); (case k2 => k_asm); (case k3 => k_asm); (case k4 => k_asm); (case k5 => k_asm); (case k6 => k_is); (case k7 => k_is); (case k8 => ktr_room); (case k9 => exact BindsTo.of_eq rfl); (case c5 => decide); (case kB => exact locs rfl); (case c2 => exact rfl); (case c3 => exact rfl); (case c4 => exact rfl); k_whole)
  intro g' L' h' FG' F' N' B' X' T' G9
  (try dsimp only); (try k_lift B'); (try k_fold)
  k_steps
  all_goals first | wtm_at "end_rl" | (exfalso; omega)
  all_goals (rfl)
theorem ll0_c (news : List (Addr × Obj)) (wd : Int) (tx tw : Tok) :
    Con 3 245 [.int 0 tx, .int wd tw] news (RetL0 news) := by
  w_top off
  refine ⟨?_⟩
  intro w p loose mean mg mb dp un gd cn cs a ccd cl outer A₀ base h₀ L m s Q E B F X N T hk hd hu ret
  have hsub9 : ∀ p ∈ ([] : List (Addr × Obj)), p ∈ news := fun _ h => nomatch h
  refine wpAny_call ?_
  k_dflt (refine' enterR (news₀ := []) ?k1 ?k2 ?k3 ?k4 ?k5 hsub9 ?kA ?kF ?kK ?k6 ?k7 ?k8 ?k9 ?kB ?_ ?c2 ?c3 ?c4 ?c5; (case kA => exact rfl); (case kF => exact rfl); (case kK => assumption); (case k1 => k_asm); (case k2 => k_asm); (case k3 => k_asm); (case k4 => k_asm); (case k5 => k_asm); (case k6 => k_is); (case k7 => k_is); (case k8 => ktr_room); (case k9 => exact BindsTo.of_eq rfl); (case c5 => decide); (case kB => exact locs rfl); (case c2 => exact rfl); (case c3 => exact rfl); (case c4 => exact rfl); k_whole)
  intro g' L' h' FG' F' N' B' X' T' G9
  (try dsimp only); (try k_lift B'); (try k_fold)
  k_steps
  all_goals first | wtm_at "end_rl0" | (exfalso; omega)
local macro_rules | `(tactic| walk_at "exec For Name Subscript cons nil") => `(tactic| (k_here; (rename Fr _ _ _ _ => lF'); (with_unfolding_all refine' For_turns lF' ?_; k_whole)))
theorem told_c (news : List (Addr × Obj)) (l : Addr) (x wd : Int) (tx tw : Tok) (cap : Nat) (hl : (l, listOf #[.int x tx] cap) ∈ news) (hw : 6 ≤ wd) (hw2 : wd ≤ 9) :
    Con 3 252 [.ref l, .int wd tw] news (RetI news x) := by
  w_top off
  refine ⟨?_⟩
  intro w p loose mean mg mb dp un gd cn cs a ccd cl outer A₀ base h₀ L m s Q E B F X N T hk hd hu ret
  have e1 : (0 : Int) * 2 ^ wd.toNat = 0 := Int.zero_mul _
  have e2 : (0 : Int) + x = x := Int.zero_add _
  have hsub9 : ∀ p ∈ ([(l, listOf #[.int x tx] cap)] : List (Addr × Obj)), p ∈ news := by
    intro p hp
    simp only [List.mem_cons, List.not_mem_nil, or_false] at hp
    rcases hp with rfl <;> assumption
  refine wpAny_call ?_
  k_dflt (refine' enterR (news₀ := [(l, listOf #[.int x tx] cap)]) ?k1 ?k2 ?k3 ?k4 ?k5 hsub9 ?kA ?kF ?kK ?k6 ?k7 ?k8 ?k9 ?kB ?_ ?c2 ?c3 ?c4 ?c5; (case kA => exact rfl); (case kF => exact rfl); (case kK => assumption); (case k1 => k_asm); (case k2 => k_asm); (case k3 => k_asm); (case k4 => k_asm); (case k5 => k_asm); (case k6 => k_is); (case k7 => k_is); (case k8 => ktr_room); (case k9 => exact BindsTo.of_eq rfl); (case c5 => decide); (case kB => exact locs rfl); (case c2 => exact rfl); (case c3 => exact rfl); (case c4 => exact rfl); k_whole)
  intro g' L' h' FG' F' N' B' X' T' G9
  (try dsimp only); (try k_lift B'); (try k_fold)
  k_steps
  all_goals (refine ret_i ret ?_ (by k_asm) (rest_back N hsub9 G9 (by assumption) (by assumption) (by wtm_at "m_sub")) (fun p hp => hp))
  all_goals (omega)
theorem eq_lst {prog : Program} {w : World} {A : Around} {E : Value → Shared → Prop} {s : Shared} {h₀ : Heap} {L a b : Addr} {news : List (Addr × Obj)} {vs us : List Value} {ns ms : List Int} {n k : Nat} {c : Bool} {Q : Value → Shared → Prop} (N : News h₀ L s.heap news) (ha : (a, listOf vs.toArray n) ∈ news) (hb : (b, listOf us.toArray k) ∈ news) (hi : IntsAre vs ns) (hi' : IntsAre us ms) (hu : A.units + 64 < cLine) (e : decide (ns = ms) = c) (h : Q (.bool c) s) :
    wpAny (model prog w) A (compareOp .Eq (.ref a) (.ref b)) Q E s := eq_intsK (PySem.IsL.isList (n := n) (N _ ha).1) hi (PySem.IsL.isList (n := k) (N _ hb).1) hi' hu (e ▸ h)
theorem one_ne {x : Int} (h : x ≠ 1) : decide ([x] = [1]) = false := decide_eq_false fun e => h (List.cons.inj e).1

end
local macro_rules | `(tactic| wtm_at "m_ints") => `(tactic| first | exact IntsAre.nil | (refine IntsAre.cons _ _ ?_; wtm_at "m_ints"))
local macro_rules | `(tactic| wtm_at "m_dec") => `(tactic| first | (refine (?_ : _ = false); exact rfl) | (refine (?_ : _ = true); exact rfl) | exact one_ne (by omega))
local macro_rules | `(tactic| wtm_at "m_i1") => `(tactic| first | exact IntsAre.nil | exact IntsAre.cons _ _ IntsAre.nil)
local macro_rules | `(tactic| wtm_at "m_eql") => `(tactic| k_dflt (refine eq_lst (by k_asm) (by wtm_at "m_mem") (by wtm_at "m_mem") (by wtm_at "m_i1") (by wtm_at "m_i1") (by units_room) (by wtm_at "m_dec") ?_))
local macro_rules | `(tactic| walk_at "compareOp Eq ref ref") => `(tactic| (k_here; (with_reducible show wpAny _ _ (compareOp CmpOp.Eq (Value.ref _) (Value.ref _)) _ _ _); wtm_at "m_eql"))
local macro_rules | `(tactic| wtm_at "con") => `(tactic| ((with_reducible show Con _ 245 _ _ _); exact ll_c _ _ _ _ _ (by wtm_at "om") (by wtm_at "om") (by wtm_at "om") (by wtm_at "om")))
local macro_rules | `(tactic| wtm_at "con") => `(tactic| ((with_reducible show Con _ 245 [Value.int 0 _, _] _ _); exact ll0_c _ _ _ _))
local macro_rules | `(tactic| wtm_at "con") => `(tactic| ((with_reducible show Con _ 252 _ _ _); exact told_c _ _ _ _ _ _ _ (by wtm_at "m_mem") (by wtm_at "om") (by wtm_at "om")))
section
/-- None comes back -/
abbrev RetNone (news : List (Addr × Obj)) : Heap → Addr → (Str → Option Value) → Shared → (Value → Shared → Prop) → Prop :=
  fun h₀ L m s Q => ∀ (h' : Heap) (tk' : Nat), Fr h₀ L h' m → News h₀ L h' news → Q .none { s with heap := h', toks := tk' }
theorem ret_none {news : List (Addr × Obj)} {h₀ h' : Heap} {L : Addr} {m : Str → Option Value} {s : Shared} {Q : Value → Shared → Prop} {tk' : Nat} (ret : RetNone news h₀ L m s Q) (F : Fr h₀ L h' m) (N : News h₀ L h' news) : Q .none { s with heap := h', toks := tk' } := ret h' tk' F N
local macro_rules | `(tactic| walk_at "pad1") => `(tactic| fail)
theorem ckm_c (news : List (Addr × Obj)) (l : Addr) (x : Int) (tx : Tok) (cap : Nat) (hl : (l, listOf #[.int x tx] cap) ∈ news) :
    Con 8 161 [.ref l] news (RetNone news) := by
  w_top off
  refine ⟨?_⟩
  intro w p loose mean mg mb dp un gd cn cs a ccd cl outer A₀ base h₀ L m s Q E B F X N T hk hd hu ret
  have hsub9 : ∀ p ∈ ([(l, listOf #[.int x tx] cap)] : List (Addr × Obj)), p ∈ news := by
    intro p hp
    simp only [List.mem_cons, List.not_mem_nil, or_false] at hp
    rcases hp with rfl <;> assumption
  refine wpAny_call ?_
  k_dflt (refine' enterR (news₀ := [(l, listOf #[.int x tx] cap)]) ?k1 ?k2 ?k3 ?k4 ?k5 hsub9 ?kA ?kF ?kK ?k6 ?k7 ?k8 ?k9 ?kB ?_ ?c2 ?c3 ?c4 ?c5; (case kA => exact rfl); (case kF => exact rfl); (case kK => assumption); (case k1 => k_asm); (case k2 => k_asm); (case k3 => k_asm); (case k4 => k_asm); (case k5 => k_asm); (case k6 => k_is); (case k7 => k_is); (case k8 => ktr_room); (case k9 => exact BindsTo.of_eq rfl); (case c5 => decide); (case kB => exact locs rfl); (case c2 => exact rfl); (case c3 => exact rfl); (case c4 => exact rfl); k_whole)
  intro g' L' h' FG' F' N' B' X' T' G9
  (try dsimp only); (try k_lift B'); (try k_fold)
  k_steps
  all_goals (exact ret_none (by assumption) (by k_asm) (rest_back (by assumption) (by assumption) (by assumption) (by assumption) (by assumption) (by wtm_at "m_sub")))
theorem unit_c (news : List (Addr × Obj)) (l : Addr) (x : Int) (tx : Tok) (cap : Nat) (hl : (l, listOf #[.int x tx] cap) ∈ news) (hx : x ≠ 1) :
    Con 8 168 [.ref l] news (RetL news 1) := by
  w_top off
  refine ⟨?_⟩
  intro w p loose mean mg mb dp un gd cn cs a ccd cl outer A₀ base h₀ L m s Q E B F X N T hk hd hu ret
  have hsub9 : ∀ p ∈ ([(l, listOf #[.int x tx] cap)] : List (Addr × Obj)), p ∈ news := by
    intro p hp
    simp only [List.mem_cons, List.not_mem_nil, or_false] at hp
    rcases hp with rfl <;> assumption
  refine wpAny_call ?_
  k_dflt (refine' enterR (news₀ := [(l, listOf #[.int x tx] cap)]) ?k1 ?k2 ?k3 ?k4 ?k5 hsub9 ?kA ?kF ?kK ?k6 ?k7 ?k8 ?k9 ?kB ?_ ?c2 ?c3 ?c4 ?c5; (case kA => exact rfl); (case kF => exact rfl); (case kK => assumption); (case k1 => k_asm); (case k2 => k_asm); (case k3 => k_asm); (case k4 => k_asm); (case k5 => k_asm); (case k6 => k_is); (case k7 => k_is); (case k8 => ktr_room); (case k9 => exact BindsTo.of_eq rfl); (case c5 => decide); (case kB => exact locs rfl); (case c2 => exact rfl); (case c3 => exact rfl); (case c4 => exact rfl); k_whole)
  intro g' L' h' FG' F' N' B' X' T' G9
  (try dsimp only); (try k_lift B'); (try k_fold)
  k_steps
  all_goals first | wtm_at "end_rl" | (exfalso; omega)
  all_goals (rfl)

end
local macro_rules | `(tactic| wtm_at "con") => `(tactic| ((with_reducible show Con _ 161 _ _ _); exact ckm_c _ _ _ _ _ (by wtm_at "m_mem")))
local macro_rules | `(tactic| wtm_at "con") => `(tactic| ((with_reducible show Con _ 168 _ _ _); exact unit_c _ _ _ _ _ (by wtm_at "m_mem") (by wtm_at "om")))
section
/-- a contract of a call that makes a def: the table of the outer def's code is told -/
structure ConD (bud : Nat) (f : Addr) (vs : List Value) (news : List (Addr × Obj)) (Ret : Heap → Addr → (Str → Option Value) → Shared → (Value → Shared → Prop) → Prop) : Prop where
  go : ∀ (w : World) (p : Program) (loose : List Str) (mean : ExcName → Option Value) (mg mb : Str → Option Value)
    (dp un : Nat) (gd : Option (List Code)) (cn : Str) (cs : Scope) (a : Addr) (ccd : Value) (cl : List (Str × Addr)) (outer : List Env) (A₀ : Around) (base h₀ : Heap) (L : Addr) (m : Str → Option Value) (s : Shared) (Q E : Value → Shared → Prop),
    CodeHd base 174 170 → Below A₀ base outer h₀ → Fr h₀ L s.heap m → (Mine.hd.heap_39 w.params).In h₀ → News h₀ L s.heap news → Top p loose mean mg mb h₀ → cs.kind = .function →
    dp + bud < recursionLimit → un + 16 * bud < cLine → Ret h₀ L m s Q →
    wpAny (model PySem.Challenge.rw_xw0112_01.row.prog w) (ktrTop dp un gd cn cs L a ccd cl outer) (call (.ref f) vs) Q E s
/-- a list of one int comes back, new or not -/
abbrev RetM (news : List (Addr × Obj)) (x : Int) : Heap → Addr → (Str → Option Value) → Shared → (Value → Shared → Prop) → Prop :=
  fun h₀ L m s Q => ∀ (t : Tok) (r : Addr) (cap : Nat) (h' : Heap) (tk' : Nat), Fr h₀ L h' m → News h₀ L h' ((r, listOf #[.int x t] cap) :: news) → Q (.ref r) { s with heap := h', toks := tk' }
theorem ret_m {news : List (Addr × Obj)} {x y : Int} {h₀ h' : Heap} {L r : Addr} {cap : Nat} {m : Str → Option Value} {s : Shared} {Q : Value → Shared → Prop} {t : Tok} {tk' : Nat} (ret : RetM news x h₀ L m s Q) (e : y = x) (F : Fr h₀ L h' m) (N : News h₀ L h' ((r, listOf #[.int y t] cap) :: news)) : Q (.ref r) { s with heap := h', toks := tk' } := by
  subst e
  exact ret t r cap h' tk' F N
theorem conD_m {bud : Nat} {f : Addr} {vs : List Value} {news : List (Addr × Obj)} {x : Int} (h : ConD bud f vs news (RetL news x)) : ConD bud f vs news (RetM news x) :=
  ⟨fun w p loose mean mg mb dp un gd cn cs a ccd cl outer A₀ base h₀ L m s Q E CH B F X N T hk hd hu ret => h.go w p loose mean mg mb dp un gd cn cs a ccd cl outer A₀ base h₀ L m s Q E CH B F X N T hk hd hu fun t r cap h' tk' F' N' _ => ret t r cap h' tk' F' N'⟩
theorem con_useD {bud : Nat} {f : Addr} {vs : List Value} {news : List (Addr × Obj)} {Ret : Heap → Addr → (Str → Option Value) → Shared → (Value → Shared → Prop) → Prop} {w : World} {p : Program} {loose : List Str} {mean : ExcName → Option Value} {mg mb : Str → Option Value}
    {dp un : Nat} {gd : Option (List Code)} {cn : Str} {cs : Scope} {a : Addr} {ccd : Value} {cl : List (Str × Addr)} {outer : List Env} {A₀ : Around} {base h₀ : Heap} {L : Addr} {m : Str → Option Value} {s : Shared} {Q E : Value → Shared → Prop}
    (B : Below A₀ base outer h₀) (F : Fr h₀ L s.heap m) (X : (Mine.hd.heap_39 w.params).In h₀) (N : News h₀ L s.heap news) (T : Top p loose mean mg mb h₀) (hk : cs.kind = .function)
    (c : ConD bud f vs news Ret) (C : CodeHd base 174 170) (hd : dp + bud < recursionLimit) (hu : un + 16 * bud < cLine) (h : Ret h₀ L m s Q) :
    wpAny (model PySem.Challenge.rw_xw0112_01.row.prog w) (ktrTop dp un gd cn cs L a ccd cl outer) (call (.ref f) vs) Q E s :=
  c.go w p loose mean mg mb dp un gd cn cs a ccd cl outer A₀ base h₀ L m s Q E C B F X N T hk hd hu h

end
local macro_rules | `(tactic| wtm_at "cuseD") => `(tactic| k_dflt (refine con_useD (by k_asm) (by k_asm) (by k_asm) (by k_asm) (by k_asm) (by wtm_at "kfn") (by wtm_at "conD") (by assumption) (by ktr_room) (by ktr_units) ?_))
local macro_rules | `(tactic| walk_at "call ref cons nil") => `(tactic| (k_here; (with_reducible show wpAny _ _ (call (Value.ref _) _) _ _ _); wtm_at "cuseD"; intro _; intros))
section
/-- the def at a place of the program's text, and the def that stands first in it -/
def defAt (k : Nat) : Option (Arguments × List Stmt × Scope) :=
  match (PySem.Challenge.pw_xw0112_01.main.body)[k]? with
  | some (.FunctionDef _ a b _ _ _ s _ _ _) => some (a, b, s)
  | _ => none
def inDef (k : Nat) : Option (Arguments × List Stmt × Scope) :=
  match defAt k with
  | some (_, .FunctionDef _ a b _ _ _ s _ _ _ :: _, _) => some (a, b, s)
  | _ => none
abbrev takeA {a : Arguments} {b : List Stmt} {s : Scope} {o : Option (Arguments × List Stmt × Scope)} (_ : o = some (a, b, s)) : Arguments := a
abbrev takeB {a : Arguments} {b : List Stmt} {s : Scope} {o : Option (Arguments × List Stmt × Scope)} (_ : o = some (a, b, s)) : List Stmt := b
abbrev takeS {a : Arguments} {b : List Stmt} {s : Scope} {o : Option (Arguments × List Stmt × Scope)} (_ : o = some (a, b, s)) : Scope := s
abbrev dScope : Scope := takeS (rfl : defAt 23 = some (_, _, _))
def mQual : Str := qualnameIn (envOfC (Str.ofString "divided_times") dScope 0 175 (Value.ref 174)) (Str.ofString "multiplied") (Str.ofString "multiplied")
theorem mQual_eq (L : Addr) : qualnameIn (envOfC (Str.ofString "divided_times") dScope L 175 (Value.ref 174)) (Str.ofString "multiplied") (Str.ofString "multiplied") = mQual := rfl
abbrev mParams : Arguments := takeA (rfl : inDef 23 = some (_, _, _))
abbrev mBody : List Stmt := takeB (rfl : inDef 23 = some (_, _, _))
abbrev mScope : Scope := takeS (rfl : inDef 23 = some (_, _, _))
abbrev mClos (b : Addr) : List (Str × Addr) := [(Str.ofString "w", b + 1 + 1), (Str.ofString "mul", b + 1 + 1 + 1), (Str.ofString "m", b + 1), (Str.ofString "divrem", b + 1 + 1 + 1 + 1)]
abbrev mFn (b : Addr) (dc pm : Value) (c' : Addr) (ct : Value) : Obj := fnMade (Str.ofString "multiplied") mQual mParams mBody mScope (mClos b) dc pm c' ct
abbrev mTab (c' : Addr) : Obj := tabObj (#[] ++ #[rawInt 116, rawInt 4, .ref c'])
/-- the made def and its cells over a ledger -/
abbrev RetDT (news' : Addr → List (Addr × Obj)) (rm : Addr) (wd : Int) (tw : Tok) (news : List (Addr × Obj)) : Heap → Addr → (Str → Option Value) → Shared → (Value → Shared → Prop) → Prop :=
  fun h₀ L m s Q => ∀ (f c' b : Addr) (oc o1 o2 o3 o4 : Obj) (vs : Array Value) (t : Tok) (dc pm ct : Value) (h' : Heap) (tk' : Nat), Fr h₀ L h' m →
    News h₀ L h' ((f, mFn b dc pm c' ct) :: (c', oc) :: (b + 1 + 1 + 1 + 1, o1) :: (b + 1 + 1 + 1, o2) :: (b + 1 + 1, o3) :: (b + 1, o4) :: news' c') →
    oc.data = .fields vs → vs[1]? = some (.str mQual t) → o1.data = .cell (some (.ref 231)) → o2.data = .cell (some (.ref 189)) → o3.data = .cell (some (.int wd tw)) → o4.data = .cell (some (.ref rm)) →
    (∀ q ∈ news, q.1 < b) → b + 1 + 1 + 1 + 1 < c' → c' < f → Q (.ref f) { s with heap := h', toks := tk' }
local macro_rules | `(tactic| walk_at "pad2") => `(tactic| fail)
theorem dt1_c (news : List (Addr × Obj)) (g : Obj → List (Addr × Obj)) (rm : Addr) (wd : Int) (tw : Tok) (hT : (170, tabObj #[]) ∈ news) (U : UpdF 170 (tabObj #[]) news g) :
    ConD 4 175 [.ref rm, .int wd tw, .ref 189, .ref 231] news (RetDT (fun c' => g (mTab c')) rm wd tw news) := by
  w_top off
  refine ⟨?_⟩
  intro w p loose mean mg mb dp un gd cn cs a ccd cl outer A₀ base h₀ L m s Q E CH B F X N T hk hd hu ret
  refine wpAny_call ?_
  k_dflt (refine' code_defC ?k1 ?k2 ?k3 ?k4 ?k5 ?kA ?kF ?kK ?k6 ?k7 ?k8 ?k9 ?kB ?kD ?_ ?c2 ?c3 ?c4; (case kA => exact rfl); (case kF => exact rfl); (case kK => assumption); (case k1 => k_asm); (case k2 => k_asm); (case k3 => k_asm); (case k4 => k_asm); (case k5 => k_asm); (case k6 => k_is); (case k7 => k_is); (case k8 => ktr_room); (case k9 => exact BindsTo.of_eq rfl); (case kB => exact rfl); (case kD => decide +kernel); (case c2 => exact rfl); (case c3 => exact rfl); (case c4 => exact rfl); k_whole)
  intro g' L' h' tk' cells' FG' F' N' Y' B' X' T' l1
  have h170 : @LT.lt Nat _ 170 L' := l1 _ hT
  obtain ⟨o1, o2, o3, o4, hE, d1, d2, d3, d4⟩ := PyProof.Rows.CellsAre.four Y'
  subst hE
  simp only [List.cons_append, List.nil_append] at N'
  have U' := UpdF.tail (p := (L' + 1 + 1 + 1 + 1, o1)) (neN (by dsimp only; omega)) (UpdF.tail (p := (L' + 1 + 1 + 1, o2)) (neN (by dsimp only; omega)) (UpdF.tail (p := (L' + 1 + 1, o3)) (neN (by dsimp only; omega)) (UpdF.tail (p := (L' + 1, o4)) (neN (by dsimp only; omega)) U)))
  have C' : CodeHd g' 174 170 := CodeHd.keeps CH (Below.stays B')
  (try dsimp only)
  (try k_fold)
  iterate 1 (first | (k_unfold; (try dsimp only)) | walk1)
  k_dflt (refine' nestDef_K ?d0 ?k0 ?a0 ?_; (case d0 => exact rfl); (case k0 => exact rfl); (case a0 => exact rfl))
  k_dflt (refine' nest_K ?F ?N ?T ?C ?cd U' ?t ?n ?cl ?_; (case F => k_asm); (case N => k_asm); (case T => k_asm); (case cd => exact rfl); (case C => exact C'); (case t => kn_triples); (case n => kn_among); (case cl => exact rfl))
  intro f9 c9 oc9 vs9 t9 ct9 dc9 h9 tk9 F9 N9 d19 d29 l19 l29
  (try dsimp only at N9)
  k_steps
  all_goals exact ret f9 c9 L' oc9 o1 o2 o3 o4 vs9 t9 dc9 _ ct9 _ _ (by k_asm) (by assumption) d19 d29 d1 d2 d3 d4 l1 (l19 _ (List.Mem.head _)) l29
/-- the same, where the code stands made -/
abbrev RetDH (c' : Addr) (rm : Addr) (wd : Int) (tw : Tok) (news : List (Addr × Obj)) : Heap → Addr → (Str → Option Value) → Shared → (Value → Shared → Prop) → Prop :=
  fun h₀ L m s Q => ∀ (f b : Addr) (o1 o2 o3 o4 : Obj) (dc pm ct : Value) (h' : Heap) (tk' : Nat), Fr h₀ L h' m →
    News h₀ L h' ((f, mFn b dc pm c' ct) :: (b + 1 + 1 + 1 + 1, o1) :: (b + 1 + 1 + 1, o2) :: (b + 1 + 1, o3) :: (b + 1, o4) :: news) →
    o1.data = .cell (some (.ref 231)) → o2.data = .cell (some (.ref 189)) → o3.data = .cell (some (.int wd tw)) → o4.data = .cell (some (.ref rm)) →
    (∀ q ∈ news, q.1 < b) → b + 1 + 1 + 1 + 1 < f → Q (.ref f) { s with heap := h', toks := tk' }
theorem dt2_c (news : List (Addr × Obj)) (rm c' : Addr) (wd : Int) (tw : Tok) (hT : (170, mTab c') ∈ news) :
    ConD 4 175 [.ref rm, .int wd tw, .ref 189, .ref 231] news (RetDH c' rm wd tw news) := by
  w_top off
  refine ⟨?_⟩
  intro w p loose mean mg mb dp un gd cn cs a ccd cl outer A₀ base h₀ L m s Q E CH B F X N T hk hd hu ret
  refine wpAny_call ?_
  k_dflt (refine' code_defC ?k1 ?k2 ?k3 ?k4 ?k5 ?kA ?kF ?kK ?k6 ?k7 ?k8 ?k9 ?kB ?kD ?_ ?c2 ?c3 ?c4; (case kA => exact rfl); (case kF => exact rfl); (case kK => assumption); (case k1 => k_asm); (case k2 => k_asm); (case k3 => k_asm); (case k4 => k_asm); (case k5 => k_asm); (case k6 => k_is); (case k7 => k_is); (case k8 => ktr_room); (case k9 => exact BindsTo.of_eq rfl); (case kB => exact rfl); (case kD => decide +kernel); (case c2 => exact rfl); (case c3 => exact rfl); (case c4 => exact rfl); k_whole)
  intro g' L' h' tk' cells' FG' F' N' Y' B' X' T' l1
  obtain ⟨o1, o2, o3, o4, hE, d1, d2, d3, d4⟩ := PyProof.Rows.CellsAre.four Y'
  subst hE
  simp only [List.cons_append, List.nil_append] at N'
  have C' : CodeHd g' 174 170 := CodeHd.keeps CH (Below.stays B')
  (try dsimp only)
  (try k_fold)
  iterate 1 (first | (k_unfold; (try dsimp only)) | walk1)
  k_dflt (refine' nestDef_K ?d0 ?k0 ?a0 ?_; (case d0 => exact rfl); (case k0 => exact rfl); (case a0 => exact rfl))
  k_dflt (refine' nestHit_K ?F ?N ?T ?C ?cd ?mem ?t ?n ?cl ?_; (case F => k_asm); (case N => k_asm); (case T => k_asm); (case cd => exact rfl); (case C => exact C'); (case mem => wtm_at "m_mem"); (case t => kn_triples); (case n => kn_hit); (case cl => exact rfl))
  intro f9 ct9 dc9 h9 tk9 F9 N9 l19
  (try dsimp only at N9)
  k_steps
  all_goals exact ret f9 L' o1 o2 o3 o4 dc9 _ ct9 _ _ (by k_asm) (by assumption) d1 d2 d3 d4 l1 (l19 _ (List.Mem.head _))

end
section
section
variable {prog : Program} {w : World} {A₀ A : Around} {s : Shared} {base h₀ : Heap} {outer : List Env} {L : Addr} {m : Str → Option Value} {env : Env} {news news₀ : List (Addr × Obj)} {K : Frag} {p : Program} {loose : List Str} {mean : ExcName → Option Value} {mg mb : Str → Option Value}
  {R : Result → Shared → Prop} {name qual : Str} {params : Arguments} {body : List Stmt} {scope : Scope} {cl : List (Str × Addr)} {doc pm ctv : Value} {c' f : Addr} {args : Args} {binds : List (Str × Value)}
theorem enterN (B : Below A₀ base outer h₀) (F : Fr h₀ L s.heap m) (X₀ : K.In h₀) (N : News h₀ L s.heap news) (T : Top p loose mean mg mb h₀) (hsub : ∀ p ∈ news₀, p ∈ news) (hA : A.frames = some (env :: outer)) (hf : env.frame = some L) (hke : env.scope.kind = .function)
    (ho : (f, fnMade name qual params body scope cl doc pm c' ctv) ∈ news) (hcd : s.heap.CodeRec (.ref c') qual) (hroom : A.depth < recursionLimit)
    (hbind : BindsTo s (fnX name qual params body scope cl .none .none doc pm none (.ref c') ctv) args binds) (hloc : ∀ y ∈ binds, scope.names.lookup y.1 = some .local)
    (h : ∀ g L' h₁, Fr h₀ L g m → Fr g L' h₁ (fun y => binds.reverse.lookup y) → News g L' h₁ news₀ → Below A base (env :: outer) g → K.In g → Top p loose mean mg mb g → Rest g news news₀ →
      wpAny (model prog w) (A.deeper (envX qual scope L' f (.ref c') cl)) (execs body (envX qual scope L' f (.ref c') cl))
        (fun fl s' => LeaveK h₀ L m g R (match fl with | .ret v => v | _ => .none) s')
        (fun e s' => wpAny (model prog w) (A.deeper (envX qual scope L' f (.ref c') cl)) (leaving (envX qual scope L' f (.ref c') cl) e) (fun _ s'' => R (.error e) s'') (fun e' s'' => R (.error e') s'') s')
        { s with heap := h₁, toks := s.toks + binds.length })
    (hco : scope.isCoroutine = false) (hgen : scope.isGenerator = false) (hk : scope.kind = .function) (hcell : ∀ x ∈ scope.names, x.2 ≠ .cell) : codeAny (model prog w) A (.call (.ref f) args) R s := by
  have N₀ : News h₀ L s.heap news₀ := fun p hp => N p (hsub p hp)
  obtain ⟨FG, BG, st, lv⟩ := groundX (R := R) B F N₀ hA hf hke
  refine codeAny_call_def (fd := fnX name qual params body scope cl .none .none doc pm none (.ref c') ctv) (body := body) (binds := binds) hroom (N _ ho).1 rfl (T.nolimit.keeps F.keep) hcd rfl hbind hcell hloc (fun h₁ hns hk₁ => ?_) hco hgen hk
  exact wpAny_mono (h _ s.heap.objs.size h₁ FG ⟨hns, fun b o e => hk₁ b o (of_hideAll _ e), Nat.le_of_eq (hideAll_size _ _)⟩
    (fun p hp => ⟨hk₁ _ _ (N₀ p hp).1, Nat.ne_of_lt (Heap.lt_size (N₀ p hp).1), hideAll_none _ (List.mem_map_of_mem hp)⟩) BG (X₀.keeps st) (T.keeps st)
    (fun p hp hn => hideAll_get _ (N p hp).1 hn)) (fun fl s' hl => lv _ _ hl) fun _ _ y => y
end
theorem pw_le {wd : Int} (hw : 6 ≤ wd) (hw2 : wd ≤ 9) : (2 : Int) ^ wd.toNat ≤ 512 := by
  rcases wd4 hw hw2 with rfl | rfl | rfl | rfl <;> decide
theorem tm_c (news : List (Addr × Obj)) (f c' b rm l l' : Addr) (oc o1 o2 o3 o4 : Obj) (vs : Array Value) (t : Tok) (dc pm ct : Value) (x y v wd : Int) (tx ty tv tw : Tok) (cap cap' capv : Nat)
    (hf : (f, mFn b dc pm c' ct) ∈ news) (hc : (c', oc) ∈ news) (hcd : oc.data = .fields vs) (hcv : vs[1]? = some (.str mQual t))
    (h1 : (b + 1 + 1 + 1 + 1, o1) ∈ news) (h2 : (b + 1 + 1 + 1, o2) ∈ news) (h3 : (b + 1 + 1, o3) ∈ news) (h4 : (b + 1, o4) ∈ news)
    (d1 : o1.data = .cell (some (.ref 231))) (d2 : o2.data = .cell (some (.ref 189))) (d3 : o3.data = .cell (some (.int wd tw))) (d4 : o4.data = .cell (some (.ref rm)))
    (hm : (rm, listOf #[.int v tv] capv) ∈ news) (hl : (l, listOf #[.int x tx] cap) ∈ news) (hl' : (l', listOf #[.int y ty] cap') ∈ news)
    (hx : 0 < x) (hx2 : x < v) (hy : 0 < y) (hy2 : y < v) (hv2 : v < 64) (hw : 6 ≤ wd) (hw2 : wd ≤ 9) (hq : 0 < x * y % v) :
    ConD 12 f [.ref l, .ref l'] news (RetL news (x * y % v)) := by
  w_top off
  refine ⟨?_⟩
  intro w p loose mean mg mb dp un gd cn cs a ccd cl outer A₀ base h₀ L m s Q E CH B F X N T hk hd hu ret
  have hxy0 : 0 < x * y := Int.mul_pos hx hy
  have hxy1 : x * y ≤ 63 * 63 := Int.mul_le_mul (by omega) (by omega) (by omega) (by omega)
  have hP1 := pw_ge hw hw2
  have hP2 := pw_le hw hw2
  have hm0 : 0 ≤ x * y % 2 ^ wd.toNat := Int.emod_nonneg _ (by omega)
  have hm1 : x * y % 2 ^ wd.toNat < 2 ^ wd.toNat := Int.emod_lt_of_pos _ (by omega)
  have hd0 : 0 ≤ x * y / 2 ^ wd.toNat := Int.ediv_nonneg (by omega) (by omega)
  have hd1 : x * y / 2 ^ wd.toNat < 512 := Int.ediv_lt_of_lt_mul (by omega) (by omega)
  have hE : (x * y / 2 ^ wd.toNat * 2 ^ wd.toNat + x * y % 2 ^ wd.toNat) % v = x * y % v := by rw [Int.mul_comm, Int.mul_ediv_add_emod]
  have hE0 : 0 < (x * y / 2 ^ wd.toNat * 2 ^ wd.toNat + x * y % 2 ^ wd.toNat) % v := hE ▸ hq
  have hsub9 : ∀ p ∈ ([(f, mFn b dc pm c' ct), (b + 1 + 1 + 1 + 1, o1), (b + 1 + 1 + 1, o2), (b + 1 + 1, o3), (b + 1, o4), (rm, listOf #[.int v tv] capv), (l, listOf #[.int x tx] cap), (l', listOf #[.int y ty] cap')] : List (Addr × Obj)), p ∈ news := by
    intro p hp
    simp only [List.mem_cons, List.not_mem_nil, or_false] at hp
    rcases hp with rfl | rfl | rfl | rfl | rfl | rfl | rfl | rfl <;> assumption
  have hrec : s.heap.CodeRec (.ref c') mQual := codeRec_news N hc hcd hcv
  have hlo : x * y / 2 ^ wd.toNat = 0 → 0 < x * y % 2 ^ wd.toNat := by
    intro h
    have h2 := Int.mul_ediv_add_emod (x * y) (2 ^ wd.toNat)
    rw [h, Int.mul_zero, Int.zero_add] at h2
    omega
  refine wpAny_call ?_
  k_dflt (refine' enterN (news₀ := [(f, mFn b dc pm c' ct), (b + 1 + 1 + 1 + 1, o1), (b + 1 + 1 + 1, o2), (b + 1 + 1, o3), (b + 1, o4), (rm, listOf #[.int v tv] capv), (l, listOf #[.int x tx] cap), (l', listOf #[.int y ty] cap')]) B F X N T hsub9 rfl rfl hk hf hrec ?k8 ?k9 ?kB ?_ ?c2 ?c3 ?c4 ?c5; (case k8 => ktr_room); (case k9 => exact BindsTo.of_eq rfl); (case c5 => decide); (case kB => exact locs rfl); (case c2 => exact rfl); (case c3 => exact rfl); (case c4 => exact rfl); k_whole)
  intro g' L' h' FG' F' N' B' X' T' G9
  (try dsimp only); (try k_lift B'); (try k_fold)
  k_steps
  all_goals first | wtm_at "end_rl" | (exfalso; omega)
  all_goals (exact hE)

end
local macro_rules | `(tactic| wtm_at "conD") => `(tactic| ((with_reducible show ConD _ _ [Value.ref _, Value.ref _] _ _); exact tm_c _ _ _ _ _ _ _ _ _ _ _ _ _ _ _ _ _ _ _ _ _ _ _ _ _ _ _ _ (by wtm_at "m_mem") (by wtm_at "m_mem") (by assumption) (by assumption) (by wtm_at "m_mem") (by wtm_at "m_mem") (by wtm_at "m_mem") (by wtm_at "m_mem") (by assumption) (by assumption) (by assumption) (by assumption) (by wtm_at "m_mem") (by wtm_at "m_mem") (by wtm_at "m_mem") (by wtm_at "m_arith") (by wtm_at "m_arith") (by wtm_at "m_arith") (by wtm_at "m_arith") (by wtm_at "om") (by wtm_at "om") (by wtm_at "om") (by wtm_at "m_arith")))
section
/-- a new tuple of two ints -/
abbrev RetTI (news : List (Addr × Obj)) (x y : Int) : Heap → Addr → (Str → Option Value) → Shared → (Value → Shared → Prop) → Prop :=
  fun h₀ L m s Q => ∀ (t u : Tok) (r : Addr) (h' : Heap) (tk' : Nat), Fr h₀ L h' m → News h₀ L h' ((r, { cls := .type "tuple", data := .seq #[.int x t, .int y u] }) :: news) → (∀ q ∈ news, q.1 ≠ r) → Q (.ref r) { s with heap := h', toks := tk' }
theorem ret_ti {news : List (Addr × Obj)} {x y : Int} {h₀ h' : Heap} {L r : Addr} {m : Str → Option Value} {s : Shared} {Q : Value → Shared → Prop} {t u : Tok} {tk' : Nat} (ret : RetTI news x y h₀ L m s Q) (F : Fr h₀ L h' m) (N : News h₀ L h' ((r, { cls := .type "tuple", data := .seq #[.int x t, .int y u] }) :: news)) (hlt : ∀ q ∈ news, q.1 ≠ r) : Q (.ref r) { s with heap := h', toks := tk' } := ret t u r h' tk' F N hlt
section
variable (news : List (Addr × Obj)) (l : Addr) (x n wd c : Int) (tx tn tw : Tok) (cap : Nat)
theorem bitv (hl : (l, listOf #[.int x tx] cap) ∈ news) (hn : 0 ≤ n) (hn2 : n < wd) (hw : 6 ≤ wd) (hw2 : wd ≤ 9) (e : x / 2 ^ n.toNat % 2 = c) :
    Con 2 107 [.ref l, .int n tn, .int wd tw] news (RetI news c) := by
  subst e
  exact bit_c _ _ _ _ _ _ _ _ _ hl hn hn2 hw hw2
theorem bitsv (hl : (l, listOf #[.int x tx] cap) ∈ news) (e : (Builtin.Int.intBits x : Int) = c) :
    Con 3 100 [.ref l, .int wd tw] news (RetI news c) := by
  subst e
  exact bits_c _ _ _ _ _ _ _ hl
end
local macro_rules | `(tactic| wtm_at "con") => `(tactic| ((with_reducible show Con _ 107 _ _ _); exact bitv _ _ _ _ _ _ _ _ _ _ (by wtm_at "m_mem") (by wtm_at "om") (by wtm_at "om") (by wtm_at "om") (by wtm_at "om") (by wtm_at "m_val")))
local macro_rules | `(tactic| wtm_at "end_rti") => `(tactic| exact ret_ti (by assumption) (by k_asm) (by wtm_at "e_n1") (by wtm_at "e_ne"))
section
variable (news : List (Addr × Obj)) (l : Addr) (x wd : Int) (tx tt ts tw : Tok) (cap : Nat)
theorem wA (hl : (l, listOf #[.int x tx] cap) ∈ news) (hw : 6 ≤ wd) (hw2 : wd ≤ 9) (b0 : x / 2 ^ (0 : Int).toNat % 2 = 1) :
    Con 6 147 [.ref l, .int 0 tt, .int 2 ts, .int wd tw] news (RetTI news 1 1) := by
  w_top off
  refine ⟨?_⟩
  intro w p loose mean mg mb dp un gd cn cs a ccd cl outer A₀ base h₀ L m s Q E B F X N T hk hd hu ret
  have hsub9 : ∀ p ∈ ([(l, listOf #[.int x tx] cap)] : List (Addr × Obj)), p ∈ news := by
    intro p hp
    simp only [List.mem_cons, List.not_mem_nil, or_false] at hp
    rcases hp with rfl <;> assumption
  refine wpAny_call ?_
  k_dflt (refine' enterR (news₀ := [(l, listOf #[.int x tx] cap)]) ?k1 ?k2 ?k3 ?k4 ?k5 hsub9 ?kA ?kF ?kK ?k6 ?k7 ?k8 ?k9 ?kB ?_ ?c2 ?c3 ?c4 ?c5; (case kA => exact rfl); (case kF => exact rfl); (case kK => assumption); (case k1 => k_asm); (case k2 => k_asm); (case k3 => k_asm); (case k4 => k_asm); (case k5 => k_asm); (case k6 => k_is); (case k7 => k_is); (case k8 => ktr_room); (case k9 => exact BindsTo.of_eq rfl); (case c5 => decide); (case kB => exact locs rfl); (case c2 => exact rfl); (case c3 => exact rfl); (case c4 => exact rfl); k_whole)
  intro g' L' h' FG' F' N' B' X' T' G9
  (try dsimp only); (try k_lift B'); (try k_fold)
  k_steps
  all_goals wtm_at "end_rti"
theorem wB1 (hl : (l, listOf #[.int x tx] cap) ∈ news) (hw : 6 ≤ wd) (hw2 : wd ≤ 9) (b0 : x / 2 ^ (0 : Int).toNat % 2 = 1) (b1 : x / 2 ^ (1 : Int).toNat % 2 = 1) :
    Con 6 147 [.ref l, .int 1 tt, .int 2 ts, .int wd tw] news (RetTI news 3 2) := by
  w_top off
  refine ⟨?_⟩
  intro w p loose mean mg mb dp un gd cn cs a ccd cl outer A₀ base h₀ L m s Q E B F X N T hk hd hu ret
  have hsub9 : ∀ p ∈ ([(l, listOf #[.int x tx] cap)] : List (Addr × Obj)), p ∈ news := by
    intro p hp
    simp only [List.mem_cons, List.not_mem_nil, or_false] at hp
    rcases hp with rfl <;> assumption
  refine wpAny_call ?_
  k_dflt (refine' enterR (news₀ := [(l, listOf #[.int x tx] cap)]) ?k1 ?k2 ?k3 ?k4 ?k5 hsub9 ?kA ?kF ?kK ?k6 ?k7 ?k8 ?k9 ?kB ?_ ?c2 ?c3 ?c4 ?c5; (case kA => exact rfl); (case kF => exact rfl); (case kK => assumption); (case k1 => k_asm); (case k2 => k_asm); (case k3 => k_asm); (case k4 => k_asm); (case k5 => k_asm); (case k6 => k_is); (case k7 => k_is); (case k8 => ktr_room); (case k9 => exact BindsTo.of_eq rfl); (case c5 => decide); (case kB => exact locs rfl); (case c2 => exact rfl); (case c3 => exact rfl); (case c4 => exact rfl); k_whole)
  intro g' L' h' FG' F' N' B' X' T' G9
  (try dsimp only); (try k_lift B'); (try k_fold)
  k_steps
  all_goals wtm_at "end_rti"
theorem wB2 (hl : (l, listOf #[.int x tx] cap) ∈ news) (hw : 6 ≤ wd) (hw2 : wd ≤ 9) (b1 : x / 2 ^ (1 : Int).toNat % 2 = 1) (b2 : x / 2 ^ (2 : Int).toNat % 2 = 1) :
    Con 6 147 [.ref l, .int 2 tt, .int 2 ts, .int wd tw] news (RetTI news 3 2) := by
  w_top off
  refine ⟨?_⟩
  intro w p loose mean mg mb dp un gd cn cs a ccd cl outer A₀ base h₀ L m s Q E B F X N T hk hd hu ret
  have hsub9 : ∀ p ∈ ([(l, listOf #[.int x tx] cap)] : List (Addr × Obj)), p ∈ news := by
    intro p hp
    simp only [List.mem_cons, List.not_mem_nil, or_false] at hp
    rcases hp with rfl <;> assumption
  refine wpAny_call ?_
  k_dflt (refine' enterR (news₀ := [(l, listOf #[.int x tx] cap)]) ?k1 ?k2 ?k3 ?k4 ?k5 hsub9 ?kA ?kF ?kK ?k6 ?k7 ?k8 ?k9 ?kB ?_ ?c2 ?c3 ?c4 ?c5; (case kA => exact rfl); (case kF => exact rfl); (case kK => assumption); (case k1 => k_asm); (case k2 => k_asm); (case k3 => k_asm); (case k4 => k_asm); (case k5 => k_asm); (case k6 => k_is); (case k7 => k_is); (case k8 => ktr_room); (case k9 => exact BindsTo.of_eq rfl); (case c5 => decide); (case kB => exact locs rfl); (case c2 => exact rfl); (case c3 => exact rfl); (case c4 => exact rfl); k_whole)
  intro g' L' h' FG' F' N' B' X' T' G9
  (try dsimp only); (try k_lift B'); (try k_fold)
  k_steps
  all_goals wtm_at "end_rti"
theorem wC1 (hl : (l, listOf #[.int x tx] cap) ∈ news) (hw : 6 ≤ wd) (hw2 : wd ≤ 9) (b0 : x / 2 ^ (0 : Int).toNat % 2 = 0) (b1 : x / 2 ^ (1 : Int).toNat % 2 = 1) :
    Con 6 147 [.ref l, .int 1 tt, .int 2 ts, .int wd tw] news (RetTI news 1 1) := by
  w_top off
  refine ⟨?_⟩
  intro w p loose mean mg mb dp un gd cn cs a ccd cl outer A₀ base h₀ L m s Q E B F X N T hk hd hu ret
  have hsub9 : ∀ p ∈ ([(l, listOf #[.int x tx] cap)] : List (Addr × Obj)), p ∈ news := by
    intro p hp
    simp only [List.mem_cons, List.not_mem_nil, or_false] at hp
    rcases hp with rfl <;> assumption
  refine wpAny_call ?_
  k_dflt (refine' enterR (news₀ := [(l, listOf #[.int x tx] cap)]) ?k1 ?k2 ?k3 ?k4 ?k5 hsub9 ?kA ?kF ?kK ?k6 ?k7 ?k8 ?k9 ?kB ?_ ?c2 ?c3 ?c4 ?c5; (case kA => exact rfl); (case kF => exact rfl); (case kK => assumption); (case k1 => k_asm); (case k2 => k_asm); (case k3 => k_asm); (case k4 => k_asm); (case k5 => k_asm); (case k6 => k_is); (case k7 => k_is); (case k8 => ktr_room); (case k9 => exact BindsTo.of_eq rfl); (case c5 => decide); (case kB => exact locs rfl); (case c2 => exact rfl); (case c3 => exact rfl); (case c4 => exact rfl); k_whole)
  intro g' L' h' FG' F' N' B' X' T' G9
  (try dsimp only); (try k_lift B'); (try k_fold)
  k_steps
  all_goals wtm_at "end_rti"
theorem wC2 (hl : (l, listOf #[.int x tx] cap) ∈ news) (hw : 6 ≤ wd) (hw2 : wd ≤ 9) (b1 : x / 2 ^ (1 : Int).toNat % 2 = 0) (b2 : x / 2 ^ (2 : Int).toNat % 2 = 1) :
    Con 6 147 [.ref l, .int 2 tt, .int 2 ts, .int wd tw] news (RetTI news 1 1) := by
  w_top off
  refine ⟨?_⟩
  intro w p loose mean mg mb dp un gd cn cs a ccd cl outer A₀ base h₀ L m s Q E B F X N T hk hd hu ret
  have hsub9 : ∀ p ∈ ([(l, listOf #[.int x tx] cap)] : List (Addr × Obj)), p ∈ news := by
    intro p hp
    simp only [List.mem_cons, List.not_mem_nil, or_false] at hp
    rcases hp with rfl <;> assumption
  refine wpAny_call ?_
  k_dflt (refine' enterR (news₀ := [(l, listOf #[.int x tx] cap)]) ?k1 ?k2 ?k3 ?k4 ?k5 hsub9 ?kA ?kF ?kK ?k6 ?k7 ?k8 ?k9 ?kB ?_ ?c2 ?c3 ?c4 ?c5; (case kA => exact rfl); (case kF => exact rfl); (case kK => assumption); (case k1 => k_asm); (case k2 => k_asm); (case k3 => k_asm); (case k4 => k_asm); (case k5 => k_asm); (case k6 => k_is); (case k7 => k_is); (case k8 => ktr_room); (case k9 => exact BindsTo.of_eq rfl); (case c5 => decide); (case kB => exact locs rfl); (case c2 => exact rfl); (case c3 => exact rfl); (case c4 => exact rfl); k_whole)
  intro g' L' h' FG' F' N' B' X' T' G9
  (try dsimp only); (try k_lift B'); (try k_fold)
  k_steps
  all_goals wtm_at "end_rti"
end

end
local macro_rules | `(tactic| wtm_at "m_lit") => `(tactic| (refine (?_ : _ = (3 : Int)); decide +kernel))
local macro_rules | `(tactic| wtm_at "con") => `(tactic| ((with_reducible show Con _ 107 _ _ _); exact bitv _ _ _ _ _ _ _ _ _ _ (by wtm_at "m_mem") (by wtm_at "om") (by wtm_at "om") (by wtm_at "om") (by wtm_at "om") (by wtm_at "m_val")))
local macro_rules | `(tactic| wtm_at "con") => `(tactic| ((with_reducible show Con _ 100 _ _ _); exact bitsv _ _ _ _ _ _ _ _ (by wtm_at "m_mem") (by wtm_at "m_lit")))
local macro_rules | `(tactic| wtm_at "end_rti") => `(tactic| exact ret_ti (by assumption) (by k_asm) (by wtm_at "e_n1") (by wtm_at "e_ne"))
section
/-- a new list of two lists: the first is told by its address, the second is new and holds one int -/
abbrev RetOP (news : List (Addr × Obj)) (l : Addr) (x : Int) : Heap → Addr → (Str → Option Value) → Shared → (Value → Shared → Prop) → Prop :=
  fun h₀ L m s Q => ∀ (t : Tok) (r d : Addr) (cap cap2 : Nat) (h' : Heap) (tk' : Nat), Fr h₀ L h' m → News h₀ L h' ((d, listOf #[.ref l, .ref r] cap2) :: (r, listOf #[.int x t] cap) :: news) → (∀ q ∈ news, q.1 ≠ r) → (∀ q ∈ news, q.1 ≠ d) → @Ne Nat r d → Q (.ref d) { s with heap := h', toks := tk' }
theorem ret_op {news : List (Addr × Obj)} {l : Addr} {x : Int} {h₀ h' : Heap} {L r d : Addr} {cap cap2 : Nat} {m : Str → Option Value} {s : Shared} {Q : Value → Shared → Prop} {t : Tok} {tk' : Nat} (ret : RetOP news l x h₀ L m s Q) (F : Fr h₀ L h' m) (N : News h₀ L h' ((d, listOf #[.ref l, .ref r] cap2) :: (r, listOf #[.int x t] cap) :: news)) (h1 : ∀ q ∈ news, q.1 ≠ r) (h2 : ∀ q ∈ news, q.1 ≠ d) (h3 : @Ne Nat r d) : Q (.ref d) { s with heap := h', toks := tk' } :=
  ret t r d cap cap2 h' tk' F N h1 h2 h3
local macro_rules | `(tactic| wtm_at "end_rop") => `(tactic| exact ret_op (by assumption) (by k_asm) (by wtm_at "e_n2") (by wtm_at "e_ne") (by wtm_at "e_ne") (by k_ne))
theorem op_c (news : List (Addr × Obj)) (f c' b rm l : Addr) (oc o1 o2 o3 o4 : Obj) (vs : Array Value) (t : Tok) (dc pm ct : Value) (x v wd : Int) (tx tv tw tz : Tok) (cap capv : Nat)
    (hf : (f, mFn b dc pm c' ct) ∈ news) (hc : (c', oc) ∈ news) (hcd : oc.data = .fields vs) (hcv : vs[1]? = some (.str mQual t))
    (h1 : (b + 1 + 1 + 1 + 1, o1) ∈ news) (h2 : (b + 1 + 1 + 1, o2) ∈ news) (h3 : (b + 1 + 1, o3) ∈ news) (h4 : (b + 1, o4) ∈ news)
    (d1 : o1.data = .cell (some (.ref 231))) (d2 : o2.data = .cell (some (.ref 189))) (d3 : o3.data = .cell (some (.int wd tw))) (d4 : o4.data = .cell (some (.ref rm)))
    (hm : (rm, listOf #[.int v tv] capv) ∈ news) (hl : (l, listOf #[.int x tx] cap) ∈ news)
    (hx : 0 < x) (hx2 : x < v) (hv2 : v < 64) (hw : 6 ≤ wd) (hw2 : wd ≤ 9) (hP : ∀ a b : Int, 0 < a → a < v → 0 < b → b < v → 0 < a * b % v) :
    ConD 14 140 [.ref l, .int 2 tz, .ref f] news (RetOP news l (x * (x * x % v) % v)) := by
  w_top off
  refine ⟨?_⟩
  intro w p loose mean mg mb dp un gd cn cs a ccd cl outer A₀ base h₀ L m s Q E CH B F X N T hk hd hu ret
  have f1 := hP x x hx hx2 hx hx2
  have g1 : x * x % v < v := Int.emod_lt_of_pos _ (by omega)
  have f2 := hP x _ hx hx2 f1 g1
  have hsub9 : ∀ p ∈ ([(f, mFn b dc pm c' ct), (c', oc), (b + 1 + 1 + 1 + 1, o1), (b + 1 + 1 + 1, o2), (b + 1 + 1, o3), (b + 1, o4), (rm, listOf #[.int v tv] capv), (l, listOf #[.int x tx] cap)] : List (Addr × Obj)), p ∈ news := by
    intro p hp
    simp only [List.mem_cons, List.not_mem_nil, or_false] at hp
    rcases hp with rfl | rfl | rfl | rfl | rfl | rfl | rfl | rfl <;> assumption
  refine wpAny_call ?_
  k_dflt (refine' enterR (news₀ := [(f, mFn b dc pm c' ct), (c', oc), (b + 1 + 1 + 1 + 1, o1), (b + 1 + 1 + 1, o2), (b + 1 + 1, o3), (b + 1, o4), (rm, listOf #[.int v tv] capv), (l, listOf #[.int x tx] cap)]) ?k1 ?k2 ?k3 ?k4 ?k5 hsub9 ?kA ?kF ?kK ?k6 ?k7 ?k8 ?k9 ?kB ?_ ?c2 ?c3 ?c4 ?c5; (case kA => exact rfl); (case kF => exact rfl); (case kK => assumption); (case k1 => k_asm); (case k2 => k_asm); (case k3 => k_asm); (case k4 => k_asm); (case k5 => k_asm); (case k6 => k_is); (case k7 => k_is); (case k8 => ktr_room); (case k9 => exact BindsTo.of_eq rfl); (case c5 => decide); (case kB => exact locs rfl); (case c2 => exact rfl); (case c3 => exact rfl); (case c4 => exact rfl); k_whole)
  intro g' L' h' FG' F' N' B' X' T' G9
  (try dsimp only); (try k_lift B'); (try k_fold)
  k_steps
  all_goals wtm_at "end_rop"

end
local macro_rules | `(tactic| wtm_at "conD") => `(tactic| ((with_reducible show ConD _ 140 _ _ _); exact op_c _ _ _ _ _ _ _ _ _ _ _ _ _ _ _ _ _ _ _ _ _ _ _ _ _ (by wtm_at "m_mem") (by wtm_at "m_mem") (by assumption) (by assumption) (by wtm_at "m_mem") (by wtm_at "m_mem") (by wtm_at "m_mem") (by wtm_at "m_mem") (by assumption) (by assumption) (by assumption) (by assumption) (by wtm_at "m_mem") (by wtm_at "m_mem") (by wtm_at "m_arith") (by wtm_at "m_arith") (by wtm_at "om") (by wtm_at "om") (by wtm_at "om") (by assumption)))
section
/-- what by_windows makes of one exponent -/
def BWok (k x v wd y : Int) : Prop := ∀ (news : List (Addr × Obj)) (f c' b rm l l' one : Addr) (oc o1 o2 o3 o4 : Obj) (vs : Array Value) (t : Tok) (dc pm ct : Value) (tx ty tv tw tz : Tok) (cap cap' capv : Nat),
    (f, mFn b dc pm c' ct) ∈ news → (c', oc) ∈ news → oc.data = .fields vs → vs[1]? = some (.str mQual t) →
    (b + 1 + 1 + 1 + 1, o1) ∈ news → (b + 1 + 1 + 1, o2) ∈ news → (b + 1 + 1, o3) ∈ news → (b + 1, o4) ∈ news →
    o1.data = .cell (some (.ref 231)) → o2.data = .cell (some (.ref 189)) → o3.data = .cell (some (.int wd tw)) → o4.data = .cell (some (.ref rm)) →
    (rm, listOf #[.int v tv] capv) ∈ news → (l, listOf #[.int x tx] cap) ∈ news → (l', listOf #[.int k ty] cap') ∈ news →
    ConD 17 154 [.ref l, .ref l', .int 2 tz, .int wd tw, .ref one, .ref f] news (RetM news y)
theorem bw_use {k x v wd y : Int} (news : List (Addr × Obj)) (f c' b rm l l' one : Addr) (oc o1 o2 o3 o4 : Obj) (vs : Array Value) (t : Tok) (dc pm ct : Value) (tx ty tv tw tz : Tok) (cap cap' capv : Nat) (hB : BWok k x v wd y)
    (hf : (f, mFn b dc pm c' ct) ∈ news) (hc : (c', oc) ∈ news) (hcd : oc.data = .fields vs) (hcv : vs[1]? = some (.str mQual t))
    (h1 : (b + 1 + 1 + 1 + 1, o1) ∈ news) (h2 : (b + 1 + 1 + 1, o2) ∈ news) (h3 : (b + 1 + 1, o3) ∈ news) (h4 : (b + 1, o4) ∈ news)
    (d1 : o1.data = .cell (some (.ref 231))) (d2 : o2.data = .cell (some (.ref 189))) (d3 : o3.data = .cell (some (.int wd tw))) (d4 : o4.data = .cell (some (.ref rm)))
    (hm : (rm, listOf #[.int v tv] capv) ∈ news) (hl : (l, listOf #[.int x tx] cap) ∈ news) (hl' : (l', listOf #[.int k ty] cap') ∈ news) :
    ConD 17 154 [.ref l, .ref l', .int 2 tz, .int wd tw, .ref one, .ref f] news (RetM news y) :=
  hB _ _ _ _ _ _ _ _ _ _ _ _ _ _ _ _ _ _ _ _ _ _ _ _ _ _ hf hc hcd hcv h1 h2 h3 h4 d1 d2 d3 d4 hm hl hl'
/-- an int comes back; the code of the inner def stands made -/
abbrev RetF (news : List (Addr × Obj)) (g : Obj → List (Addr × Obj)) (x : Int) : Heap → Addr → (Str → Option Value) → Shared → (Value → Shared → Prop) → Prop :=
  fun h₀ L m s Q => ∀ (t tq : Tok) (c' : Addr) (oc : Obj) (vs : Array Value) (h' : Heap) (tk' : Nat), Fr h₀ L h' m → News h₀ L h' ((c', oc) :: g (mTab c')) → oc.data = .fields vs → vs[1]? = some (.str mQual tq) → (∀ q ∈ news, q.1 ≠ c') → Q (.int x t) { s with heap := h', toks := tk' }
theorem ret_f {news : List (Addr × Obj)} {g : Obj → List (Addr × Obj)} {x y : Int} {h₀ h' : Heap} {L c' : Addr} {oc : Obj} {vs : Array Value} {m : Str → Option Value} {s : Shared} {Q : Value → Shared → Prop} {t tq : Tok} {tk' : Nat} (ret : RetF news g x h₀ L m s Q) (e : y = x) (F : Fr h₀ L h' m) (hd : oc.data = .fields vs) (hv : vs[1]? = some (.str mQual tq)) (N : News h₀ L h' ((c', oc) :: g (mTab c'))) (hlt : ∀ q ∈ news, q.1 ≠ c') : Q (.int y t) { s with heap := h', toks := tk' } := by
  subst e
  exact ret t tq c' oc vs h' tk' F N hd hv hlt
theorem news_upd {h₀ h h' gh : Heap} {L L' : Addr} {m' : Str → Option Value} {news own : List (Addr × Obj)} {g : Obj → List (Addr × Obj)} {o o' : Obj} (U : UpdF 170 o news g) (N : News h₀ L h news) (G : Rest gh news [(170, o)]) (F' : Fr gh L' h' m') (kN : News h₀ L h' own) (hm : (170, o') ∈ own) : News h₀ L h' (g o') := by
  obtain ⟨pre, post, rfl, hg, a, b⟩ := U.split
  rw [hg]
  have key : ∀ p ∈ pre ++ (170, o) :: post, p.1 ≠ 170 → h'.get? p.1 = some p.2 ∧ p.1 ≠ L ∧ h₀.get? p.1 = none := fun p hp hn =>
    ⟨F'.keep _ _ (G p hp (by simpa using hn)), (N p hp).2.1, (N p hp).2.2⟩
  intro p hp
  rcases List.mem_append.mp hp with hp | hp
  · exact key p (List.mem_append.mpr (.inl hp)) (a p hp)
  · rcases List.mem_cons.mp hp with rfl | hp
    · exact kN _ hm
    · exact key p (List.mem_append.mpr (.inr (.tail _ hp))) (b p hp)
local macro_rules | `(tactic| walk_at "call ref") => `(tactic| (k_here; (with_reducible show wpAny _ _ (call (Value.ref _) _) _ _ _); refine wpAny_call ?_; k_dflt (refine' code_def ?k1 ?k2 ?k3 ?k4 ?k5 ?kA ?kF ?kK ?k6 ?k7 ?k8 ?k9 ?kB ?_ ?c2 ?c3 ?c4 ?c5; (case kA => exact rfl); (case kF => exact rfl); (case kK => first | exact rfl | assumption); (case k1 => k_asm); (case k2 => k_asm); (case k3 => k_asm); (case k4 => k_asm); (case k5 => k_asm); (case k6 => k_is); (case k7 => k_is); (case k8 => ktr_room); (case k9 => exact BindsTo.of_eq rfl); (case c5 => decide); (case kB => exact locs rfl); (case c2 => exact rfl); (case c3 => exact rfl); (case c4 => exact rfl); k_whole; intro g' L' h' FG' F' N' B' X' T'; (try dsimp only); (try k_lift B'); (try k_fold))))
local macro_rules | `(tactic| wtm_at "conD") => `(tactic| ((with_reducible show ConD _ 154 _ _ _); exact bw_use _ _ _ _ _ _ _ _ _ _ _ _ _ _ _ _ _ _ _ _ _ _ _ _ _ _ (by assumption) (by wtm_at "m_mem") (by wtm_at "m_mem") (by assumption) (by assumption) (by wtm_at "m_mem") (by wtm_at "m_mem") (by wtm_at "m_mem") (by wtm_at "m_mem") (by assumption) (by assumption) (by assumption) (by assumption) (by wtm_at "m_mem") (by wtm_at "m_mem") (by wtm_at "m_mem")))
local macro_rules | `(tactic| wtm_at "conD") => `(tactic| ((with_reducible show ConD _ 175 _ _ _); exact dt2_c _ _ _ _ _ (by wtm_at "m_mem")))
local macro_rules | `(tactic| walk_at "call ref cons nil") => `(tactic| (k_here; (with_reducible show wpAny _ _ (call (Value.ref 175) _) _ _ _); wtm_at "cuseD"; intro f9 b9 o19 o29 o39 o49 dc9 pm9 ct9 h9 tk9 F9 N9 e19 e29 e39 e49 l9 m9; (try dsimp only at N9); k_lt l9; k_lt2 m9))
local macro_rules | `(tactic| wtm_at "conD") => `(tactic| ((with_reducible show ConD _ 175 _ _ _); exact dt1_c _ _ _ _ _ (by wtm_at "m_mem") (by k_updF)))
local macro_rules | `(tactic| walk_at "call ref cons nil") => `(tactic| (k_here; (with_reducible show wpAny _ _ (call (Value.ref 175) _) _ _ _); wtm_at "cuseD"; intro f9 c9 b9 oc9 o19 o29 o39 o49 vs9 t9 dc9 pm9 ct9 h9 tk9 F9 N9 d19 d29 e19 e29 e39 e49 l9 m9 n9; (try dsimp only at N9); k_lt l9; k_lt2 m9; k_lt2 n9))
local macro_rules | `(tactic| wtm_at "e_nu") => `(tactic| exact news_upd (by assumption) (by assumption) (by assumption) (by assumption) (by assumption) (by wtm_at "m_mem"))
local macro_rules | `(tactic| wtm_at "end_rf") => `(tactic| exact ret_f (by assumption) rfl (by k_asm) (by assumption) (by assumption) (news_cons (by assumption) (by wtm_at "m_mem") (by wtm_at "e_nu")) (by wtm_at "e_ne"))
theorem pf_c (news : List (Addr × Obj)) (g : Obj → List (Addr × Obj)) (x k v wd y : Int) (tx te tv tw : Tok) (hT : (170, tabObj #[]) ∈ news) (U : UpdF 170 (tabObj #[]) news g) (hx : 0 < x) (hx2 : x < v) (hv : 1 < v) (hv2 : v < 64) (hw : 6 ≤ wd) (hw2 : wd ≤ 9) (hk0 : 0 < k) (hk1 : k < 64) (hB : BWok k x v wd y) :
    ConD 20 259 [.int x tx, .int k te, .int v tv, .int wd tw] news (RetF news g y) := by
  w_top off
  refine ⟨?_⟩
  intro w p loose mean mg mb dp un gd cn cs a ccd cl outer A₀ base h₀ L m s Q E CH B F X N T hk hd hu ret
  have e0 : x % v = x := Int.emod_eq_of_lt (by omega) hx2
  have hsub9 : ∀ p ∈ ([(170, tabObj #[])] : List (Addr × Obj)), p ∈ news := by
    intro p hp
    simp only [List.mem_cons, List.not_mem_nil, or_false] at hp
    rcases hp with rfl <;> assumption
  refine wpAny_call ?_
  k_dflt (refine' enterR (news₀ := [(170, tabObj #[])]) ?k1 ?k2 ?k3 ?k4 ?k5 hsub9 ?kA ?kF ?kK ?k6 ?k7 ?k8 ?k9 ?kB ?_ ?c2 ?c3 ?c4 ?c5; (case kA => exact rfl); (case kF => exact rfl); (case kK => assumption); (case k1 => k_asm); (case k2 => k_asm); (case k3 => k_asm); (case k4 => k_asm); (case k5 => k_asm); (case k6 => k_is); (case k7 => k_is); (case k8 => ktr_room); (case k9 => exact BindsTo.of_eq rfl); (case c5 => decide); (case kB => exact locs rfl); (case c2 => exact rfl); (case c3 => exact rfl); (case c4 => exact rfl); k_whole)
  intro g' L' h' FG' F' N' B' X' T' G9
  (try dsimp only); (try k_lift B'); (try k_fold)
  k_steps
  all_goals first | wtm_at "end_rf" | (exfalso; omega)
  done
theorem ph_c (news : List (Addr × Obj)) (x k v wd y : Int) (tx te tv tw : Tok) (c' : Addr) (oc : Obj) (vs : Array Value) (tq : Tok) (hT : (170, mTab c') ∈ news) (hc : (c', oc) ∈ news) (hcd : oc.data = .fields vs) (hcv : vs[1]? = some (.str mQual tq)) (hx : 0 < x) (hx2 : x < v) (hv : 1 < v) (hv2 : v < 64) (hw : 6 ≤ wd) (hw2 : wd ≤ 9) (hk0 : 0 < k) (hk1 : k < 64) (hB : BWok k x v wd y) :
    ConD 20 259 [.int x tx, .int k te, .int v tv, .int wd tw] news (RetI news y) := by
  w_top off
  refine ⟨?_⟩
  intro w p loose mean mg mb dp un gd cn cs a ccd cl outer A₀ base h₀ L m s Q E CH B F X N T hk hd hu ret
  have e0 : x % v = x := Int.emod_eq_of_lt (by omega) hx2
  have hsub9 : ∀ p ∈ ([(170, mTab c'), (c', oc)] : List (Addr × Obj)), p ∈ news := by
    intro p hp
    simp only [List.mem_cons, List.not_mem_nil, or_false] at hp
    rcases hp with rfl | rfl <;> assumption
  refine wpAny_call ?_
  k_dflt (refine' enterR (news₀ := [(170, mTab c'), (c', oc)]) ?k1 ?k2 ?k3 ?k4 ?k5 hsub9 ?kA ?kF ?kK ?k6 ?k7 ?k8 ?k9 ?kB ?_ ?c2 ?c3 ?c4 ?c5; (case kA => exact rfl); (case kF => exact rfl); (case kK => assumption); (case k1 => k_asm); (case k2 => k_asm); (case k3 => k_asm); (case k4 => k_asm); (case k5 => k_asm); (case k6 => k_is); (case k7 => k_is); (case k8 => ktr_room); (case k9 => exact BindsTo.of_eq rfl); (case c5 => decide); (case kB => exact locs rfl); (case c2 => exact rfl); (case c3 => exact rfl); (case c4 => exact rfl); k_whole)
  intro g' L' h' FG' F' N' B' X' T' G9
  (try dsimp only); (try k_lift B'); (try k_fold)
  k_steps
  all_goals (refine ret_i ret ?_ (by k_asm) (rest_back N hsub9 G9 (by assumption) (by assumption) (by wtm_at "m_sub")) (fun p hp => hp))
  all_goals (rfl)
theorem ph0_c (news : List (Addr × Obj)) (x v wd : Int) (tx te tv tw : Tok) (c' : Addr) (oc : Obj) (vs : Array Value) (tq : Tok) (hT : (170, mTab c') ∈ news) (hc : (c', oc) ∈ news) (hcd : oc.data = .fields vs) (hcv : vs[1]? = some (.str mQual tq)) (hx : 0 < x) (hx2 : x < v) (hv : 1 < v) (hv2 : v < 64) (hw : 6 ≤ wd) (hw2 : wd ≤ 9) :
    ConD 20 259 [.int x tx, .int 0 te, .int v tv, .int wd tw] news (RetI news 1) := by
  w_top off
  refine ⟨?_⟩
  intro w p loose mean mg mb dp un gd cn cs a ccd cl outer A₀ base h₀ L m s Q E CH B F X N T hk hd hu ret
  have e0 : x % v = x := Int.emod_eq_of_lt (by omega) hx2
  have hsub9 : ∀ p ∈ ([(170, mTab c'), (c', oc)] : List (Addr × Obj)), p ∈ news := by
    intro p hp
    simp only [List.mem_cons, List.not_mem_nil, or_false] at hp
    rcases hp with rfl | rfl <;> assumption
  refine wpAny_call ?_
  k_dflt (refine' enterR (news₀ := [(170, mTab c'), (c', oc)]) ?k1 ?k2 ?k3 ?k4 ?k5 hsub9 ?kA ?kF ?kK ?k6 ?k7 ?k8 ?k9 ?kB ?_ ?c2 ?c3 ?c4 ?c5; (case kA => exact rfl); (case kF => exact rfl); (case kK => assumption); (case k1 => k_asm); (case k2 => k_asm); (case k3 => k_asm); (case k4 => k_asm); (case k5 => k_asm); (case k6 => k_is); (case k7 => k_is); (case k8 => ktr_room); (case k9 => exact BindsTo.of_eq rfl); (case c5 => decide); (case kB => exact locs rfl); (case c2 => exact rfl); (case c3 => exact rfl); (case c4 => exact rfl); k_whole)
  intro g' L' h' FG' F' N' B' X' T' G9
  (try dsimp only); (try k_lift B'); (try k_fold)
  k_steps
  all_goals (refine ret_i ret ?_ (by k_asm) (rest_back N hsub9 G9 (by assumption) (by assumption) (by wtm_at "m_sub")) (fun p hp => hp))
  all_goals (rfl)

end
section
theorem set_ll {prog : Program} {w : World} {A : Around} {E : Value → Shared → Prop} {s : Shared} {h₀ : Heap} {L : Addr} {m : Str → Option Value} {news : List (Addr × Obj)} {l : Addr} {vs : List Value} {ns : List Int} {n c : Nat} {d : Option Addr} {sl : Array (Option Value)} {Q : Value → Shared → Prop} (F : Fr h₀ L s.heap m) (N : News h₀ L s.heap news)
    (hh : A.handled = none) (hm : (l, { cls := .type "list", dict := d, data := .seq vs.toArray n, slots := sl }) ∈ news) (hi : IntsAre vs ns) (hb : ns.length + 1 < scanBound) (hc : (firstMet (fun i => ns.getD i 0) ns.length).length = c)
    (h : ∀ h' (tk : Nat) o, Fr h₀ L h' m → News h₀ L h' ((s.heap.objs.size, o) :: news) →
      o.SetObjOf (intKind prog w) (fun k' => (firstMet (fun i => ns.getD i 0) ns.length).any (· == k')) c →
      ((c : Int) < 2 ^ 63) →
      Q (.ref s.heap.objs.size) { s with heap := h', toks := tk }) :
    wpAny (model prog w) A (call (.type "set") [.ref l]) Q E s := by
  have hl' : s.heap.IsList l vs.toArray := N.isList hm
  have hvn : vs.length = ns.length := IntsAre.length hi
  have hsz : vs.toArray.size = vs.length := List.size_toArray
  rw [← hvn] at hb
  refine PySem.call_set_list (items := vs.toArray) (ns := ns) hh hl' (by simpa using hi) (by rw [hsz]; exact hb) fun h' tk hS hk => ?_
  rw [hsz, hvn, hc] at hS
  obtain ⟨o, ho, hso⟩ := hS.objOf
  obtain ⟨oL, _, _, hL, _⟩ := F.ns
  have hLlt : L < s.heap.objs.size := Heap.lt_size hL
  have hle : c ≤ ns.length := by have := firstMet_length_le (fun i => ns.getD i 0) ns.length; omega
  have h4 : ((c : Int) < 4096) := by (rw [hvn] at hb; unfold scanBound at hb; omega)
  refine h h' tk o ⟨F.ns.at' fun o' e => hk L o' hLlt e, fun b o' e => hk b o' (Heap.lt_size (F.keep b o' e)) (F.keep b o' e), F.above⟩ (fun p hp => ?_) hso (Int.lt_of_lt_of_le h4 (by decide))
  rcases List.mem_cons.mp hp with rfl | hp
  · refine ⟨ho, Nat.ne_of_gt hLlt, ?_⟩
    cases hq : h₀.get? s.heap.objs.size with
    | none => rfl
    | some o' => exact absurd (Heap.lt_size (F.keep _ _ hq)) (Nat.lt_irrefl _)
  · exact ⟨hk _ _ (Heap.lt_size (N p hp).1) (N p hp).1, (N p hp).2.1, (N p hp).2.2⟩

end
local macro_rules | `(tactic| wtm_at "m_setb") => `(tactic| first | assumption | decide)
local macro_rules | `(tactic| wtm_at "m_sete") => `(tactic| first | assumption | exact rfl)
local macro_rules | `(tactic| wtm_at "m_set") => `(tactic| refine set_ll (by k_asm) (by k_asm) (by exact rfl) (by wtm_at "m_mem") (by assumption) (by wtm_at "m_setb") (by wtm_at "m_sete") ?_)
local macro_rules | `(tactic| walk_at "call type:set cons nil") => `(tactic| (k_here; (with_reducible show wpAny _ _ (call (Value.type _) [Value.ref _]) _ _ _); wtm_at "m_set"; intros))
section
theorem iter_rangeTurns {prog : Program} {w : World} {A : Around} {E : Value → Shared → Prop} {s : Shared} {env : Env} {h₀ : Heap} {x : Str} {px : Pos} {body : List Stmt} {Q : Flow → Shared → Prop} {r : Addr} {a₀ b₀ : Int} {t₀ u₀ v₀ : Tok} {n : Nat} {m₀ : Str → Option Value} {news : List (Addr × Obj)} {xs : List Itm}
    (hh : A.handled = none) (hr : IsRange s.heap r a₀ b₀ 1 t₀ u₀ v₀) (hsmall : Builtin.Range.small a₀ b₀ 1 = true) (hn : Builtin.Range.rangeSize a₀ b₀ 1 = (n : Int)) (F : Fr h₀ env.locals s.heap m₀) (N : News h₀ env.locals s.heap news)
    (hxs : xs = (List.range n).map fun i => Itm.tok fun t => .int (a₀ + ((i : Nat) : Int)) t)
    (rest₀ : ∀ I : Addr, (∀ p ∈ news, p.1 < I) → ItemsRest prog w A E h₀ env (.Name x px) body Q s [(I, "range_iterator")] [] xs m₀ news) :
    wpAny (model prog w) A (pyIter (.ref r)) (fun it s₂ => TurnsAt prog w A h₀ env (.Name x px) body Q E it s₂) E s := by
  refine wpAny_pyIter_range hr hsmall ?_
  have rest := rest₀ s.heap.objs.size fun p hp => Heap.lt_size (N p hp).1
  have W : Walks prog w A s.heap.objs.size [s.heap.objs.size] [s.heap.objs.size] n (fun i v => i < n ∧ ∃ t, v = .int (a₀ + i * 1) t)
      (fun i h => IsRangeIter h s.heap.objs.size (a₀ + (i : Nat) * 1) ((n : Int) - (i : Nat)) 1) := (Walks.range hh _ a₀ 1 n).bound
  have hnew := next_is_new F
  refine ktu_core (tk0 := s.toks) (keep := []) (KTurns.ofWalks W fun i v s Q E st q => wpAny_pure q) (by rw [hxs]; simp) (fun i v h hp => ?_) (fun i h st => ?_) (fun b hb => ?_) (fun b hb => by simpa using hb) (fun b hb => ?_) ?_ (fun p hp hI => ?_) ?_ (F.push _) (fun p hp => ⟨Heap.get?_push_of_some _ (N p hp).1, (N p hp).2⟩) trivial rest
  · obtain ⟨hi, t, rfl⟩ := hp
    refine ⟨Itm.tok fun t => .int (a₀ + ((i : Nat) : Int)) t, ?_, ⟨t, ?_⟩⟩
    · rw [hxs]
      simp [hi]
    · rw [Int.mul_one]
  · exact ⟨[(s.heap.objs.size, itR (a₀ + (i : Nat) * 1) ((n : Int) - (i : Nat)))], ⟨⟨rfl, rfl⟩, trivial⟩, fun p hp => by rw [List.mem_singleton.mp hp]; exact st⟩
  · have hb' : b = s.heap.objs.size := by simpa using hb
    rw [hb']
    exact ⟨List.mem_cons_self .., hnew⟩
  · have hb' : b = s.heap.objs.size := by simpa using hb
    exact .inl (by simp [hb'])
  · intro hI
    exact absurd F.ns.lt ((List.mem_singleton.mp hI) ▸ Nat.lt_irrefl _)
  · exact absurd (Heap.lt_size (N p hp).1) ((List.mem_singleton.mp hI) ▸ Nat.lt_irrefl _)
  · show IsRangeIter _ _ _ _ _
    rw [hn]
    simpa using Heap.get?_push_size _ rfl
def tks : Int → Nat → List Itm
  | _, 0 => []
  | a, n + 1 => Itm.tok (fun t => .int a t) :: tks (a + 1) n
theorem tks_eq : ∀ (n : Nat) (a : Int), tks a n = (List.range n).map fun i => Itm.tok fun t => .int (a + ((i : Nat) : Int)) t
  | 0, _ => rfl
  | n + 1, a => by
    rw [tks, tks_eq n (a + 1), List.range_succ_eq_map, List.map_cons, List.map_map]
    refine congr (congrArg List.cons ?_) (List.map_congr_left fun i _ => ?_)
    · exact congrArg (fun z : Int => Itm.tok fun t => .int z t) (Int.add_zero a).symm
    · exact congrArg (fun z : Int => Itm.tok fun t => .int z t) (by show a + 1 + (i : Int) = a + ((i + 1 : Nat) : Int); omega)
theorem iter_rt {prog : Program} {w : World} {A : Around} {E : Value → Shared → Prop} {s : Shared} {env : Env} {h₀ : Heap} {x : Str} {px : Pos} {body : List Stmt} {Q : Flow → Shared → Prop} {r : Addr} {a₀ b₀ : Int} {t₀ u₀ v₀ : Tok} {n : Nat} {m₀ : Str → Option Value} {news : List (Addr × Obj)}
    (hh : A.handled = none) (hr : IsRange s.heap r a₀ b₀ 1 t₀ u₀ v₀) (hsmall : Builtin.Range.small a₀ b₀ 1 = true) (hn : Builtin.Range.rangeSize a₀ b₀ 1 = (n : Int)) (F : Fr h₀ env.locals s.heap m₀) (N : News h₀ env.locals s.heap news)
    (rest₀ : ∀ I : Addr, (∀ p ∈ news, p.1 < I) → ItemsRest prog w A E h₀ env (.Name x px) body Q s [(I, "range_iterator")] [] (tks a₀ n) m₀ news) :
    wpAny (model prog w) A (pyIter (.ref r)) (fun it s₂ => TurnsAt prog w A h₀ env (.Name x px) body Q E it s₂) E s := iter_rangeTurns hh hr hsmall hn F N (tks_eq n a₀) rest₀

end
local macro_rules | `(tactic| walk_at "exec For Name Call cons nil") => `(tactic| (k_here; (rename Fr _ _ _ _ => lF'); (with_unfolding_all refine' For_turns lF' ?_; k_whole)))
local macro_rules | `(tactic| walk_at "pyIter ref") => `(tactic| (k_here; (with_reducible show wpAny _ _ (pyIter (Value.ref _)) (fun it s₂ => TurnsAt _ _ _ _ _ _ _ _ _ it s₂) _ _); k_dflt (refine iter_rt rfl (by assumption) (by decide) (by wtm_at "rnn") (by k_asm) (by k_asm) ?_); (dsimp only [tks, Int.reduceAdd]); intro i' l1; (try k_lt l1)))
section
theorem getD_small {ns : List Int} {k : Nat} (h : ∀ x ∈ ns, -1000 < x ∧ x < 1000) : -1000 < ns.getD k 0 ∧ ns.getD k 0 < 1000 := by
  rw [List.getD_eq_getElem?_getD]
  cases e : ns[k]? with
  | none => exact ⟨by decide, by decide⟩
  | some a => exact h a (List.mem_of_getElem? e)
theorem bits_getD {ns : List Int} {k : Nat} (h : ∀ x ∈ ns, -1000 < x ∧ x < 1000) : Builtin.Int.intBits (ns.getD k 0) ≤ 64 := by
  have hg := getD_small (k := k) h
  exact intBits_le_64 (by omega) (by omega)
theorem it_ints {prog : Program} {w : World} {A : Around} {E : Value → Shared → Prop} {s : Shared} {u : Tok} {Q : Value → Shared → Prop} {h₀ : Heap} {L D : Addr} {news : List (Addr × Obj)} {value slice : PySem.Expr} {its : Array Value} {ns : List Int} {n : Nat} {k : Int} (N : News h₀ L s.heap news) (hm : (D, listOf its n) ∈ news) (hi : IntsAre its.toList ns) (h0 : 0 ≤ k) (hk : k < (ns.length : Int)) (hl : ns.length < 1000) (h : ∀ t, Q (.int (ns.getD k.toNat 0) t) s)
    (hs : subscripted slice false (.ref D) (.int k u) = operate [.ref D, .int k u] (getItem (.ref D) (.int k u))) :
    wpAny (model prog w) A (subscriptTail value slice (.ref D) (.int k u)) Q E s := by
  have hlt : k.toNat < ns.length := by omega
  have e : ns[k.toNat]? = some (ns.getD k.toNat 0) := by
    rw [List.getD_eq_getElem?_getD, List.getElem?_eq_getElem hlt]
    rfl
  obtain ⟨t, ht⟩ := hi.get _ _ e
  exact item_litK (vs := its.toList) (PySem.IsL.isList (n := n) (N _ hm).1) h0 (by omega) ht (h t) hs
theorem emod_lb {a b : Int} (h : b ≠ 0) : 0 ≤ a % b := Int.emod_nonneg _ h
theorem ne_of_pos {b : Int} (h : 0 < b) : b ≠ 0 := by omega
theorem emod_ub {a b c : Int} (h : 0 < b) (h' : b ≤ c) : a % b < c := Int.lt_of_lt_of_le (Int.emod_lt_of_pos _ h) h'

end
local macro_rules | `(tactic| wtm_at "m_pos") => `(tactic| first | wtm_at "om0" | exact emod_lb (by decide) | exact emod_lb (ne_of_pos (by wtm_at "ra")) | wtm_at "om2")
local macro_rules | `(tactic| wtm_at "m_small") => `(tactic| first | wtm_at "om0" | exact Int.lt_of_lt_of_le (by wtm_at "ra") (by wtm_at "ra") | exact emod_ub (by decide) (by decide) | exact emod_ub (by wtm_at "ra") (by wtm_at "ra") | wtm_at "om2")
local macro_rules | `(tactic| wtm_at "m_ints2") => `(tactic| first | wtm_at "ra" | exact IntsAre.nil | (refine IntsAre.cons _ _ ?_; wtm_at "m_ints2"))
local macro_rules | `(tactic| wtm_at "m_mul") => `(tactic| exact PySem.IntMulOk.of_right (bits_getD (by wtm_at "rad")))
local macro_rules | `(tactic| wtm_at "m_mul") => `(tactic| exact PySem.IntMulOk.of_left (bits_getD (by wtm_at "rad")))
local macro_rules | `(tactic| wtm_at "rad") => `(tactic| first | wtm_at "ra" | decide)
local macro_rules | `(tactic| walk_at "binaryOp Mult int int") => `(tactic| refine mul_int ?_ (by wtm_at "m_mul"))
local macro_rules | `(tactic| walk_at "binaryOp Mult int int") => `(tactic| refine op_mul (by wtm_at "m_pos") (by wtm_at "m_small") (by wtm_at "m_val") ?_)
local macro_rules | `(tactic| wtm_at "m_it") => `(tactic| (k_dflt (refine it_ints (by k_asm) (by wtm_at "m_mem") (by wtm_at "m_ints2") (by wtm_at "m_pos") (by wtm_at "m_small") (by wtm_at "rad") ?_ (by with_unfolding_all rfl)); intro t'))
local macro_rules | `(tactic| wtm_at "m_it") => `(tactic| k_dflt (refine it_sub (by k_asm) (by wtm_at "m_mem") (by decide) (by decide) (by exact rfl) ?_ (by with_unfolding_all rfl)))
local macro_rules | `(tactic| wtm_at "m_sub1") => `(tactic| (k_here; (with_reducible show wpAny _ _ (subscriptTail _ _ (Value.ref _) (Value.int _ _)) _ _ _); wtm_at "m_it"))
local macro_rules | `(tactic| walk_at "subscriptTail Name Name ref int") => `(tactic| wtm_at "m_sub1")
local macro_rules | `(tactic| walk_at "subscriptTail Name BinOp ref int") => `(tactic| wtm_at "m_sub1")
section
def itms (a₀ : Int) : Nat → Nat → List Itm
  | _, 0 => []
  | i, k + 1 => Itm.tok (fun t => .int (a₀ + (i : Int)) t) :: itms a₀ (i + 1) k
theorem itms_range (a₀ : Int) : ∀ k i, itms a₀ i k = (List.range' i k).map fun i => Itm.tok fun t => .int (a₀ + ((i : Nat) : Int)) t
  | 0, _ => rfl
  | k + 1, i => by rw [itms, itms_range a₀ k (i + 1), List.range'_succ, List.map_cons]
theorem unrPostW_mono {h₀ : Heap} {L : Addr} {s₁ s₂ : Shared} {its : List (Addr × Obj)} {rest rest' : (Str → Option Value) → List (Addr × Obj) → Prop} {Q : Flow → Shared → Prop} {f : Flow} (h : UnrPostW h₀ L s₁ its rest Q f s₂) (hr : ∀ m n, rest m n → rest' m n) : UnrPostW h₀ L s₁ its rest' Q f s₂ := by
  have go : UnrEndW h₀ L s₁ its rest s₂ → UnrEndW h₀ L s₁ its rest' s₂ := fun ⟨h', tk, m', n', e, F, N, o, r⟩ => ⟨h', tk, m', n', e, F, N, o, hr _ _ r⟩
  cases f with
  | ret v => exact h
  | brk => exact h
  | next => exact go h
  | cont => exact go h
section
variable {prog : Program} {w : World} {A : Around} {E : Value → Shared → Prop} {s : Shared} {env : Env} {h₀ : Heap} {x : Str} {px : Pos} {body : List Stmt} {Q : Flow → Shared → Prop}
theorem rest_ofJ {I : Addr} {a₀ : Int} {n : Nat} (J : Nat → (Str → Option Value) → List (Addr × Obj) → Prop)
    (turn : ∀ (i : Nat) t h tk m₁ news₁ o, i < n → J i m₁ news₁ → o.cls = .type "range_iterator" → Fr h₀ env.locals h m₁ → News h₀ env.locals h ((I, o) :: news₁) →
      wpAny (model prog w) A (assign (.Name x px) env (.int (a₀ + (i : Int)) t)) (fun _ s₂ => wpAny (model prog w) A (execs body env) (UnrPostW h₀ env.locals { s with heap := h, toks := tk } [(I, o)] (fun m' n' => SubL [] n' ∧ J (i + 1) m' n') Q) E s₂) E { s with heap := h, toks := tk })
    (done : ∀ h tk m' news', J n m' news' → Fr h₀ env.locals h m' → News h₀ env.locals h news' → Q .next { s with heap := h, toks := tk }) :
    ∀ (k i : Nat), i + k = n → ∀ m₁ news₁, J i m₁ news₁ → ItemsRest prog w A E h₀ env (.Name x px) body Q s [(I, "range_iterator")] [] (itms a₀ i k) m₁ news₁
  | 0, i, hk, m₁, news₁, hJ => by
    have e : i = n := by omega
    subst e
    exact fun h tk F N => done h tk m₁ news₁ hJ F N
  | k + 1, i, hk, m₁, news₁, hJ => by
    intro v h tk hv F
    obtain ⟨t, rfl⟩ := hv
    intro o ho N
    refine wpAny_mono (turn i t h tk m₁ news₁ o (by omega) hJ ho F N) (fun _ s₂ h₂ => wpAny_mono h₂ (fun f s₃ p => unrPostW_mono p fun m n' hr => ⟨hr.1, rest_ofJ J turn done k (i + 1) (by omega) m n' hr.2⟩) fun _ _ e => e) fun _ _ e => e
theorem iter_rangeJ {r : Addr} {a₀ b₀ : Int} {t₀ u₀ v₀ : Tok} {n : Nat} {m₀ : Str → Option Value} {news : List (Addr × Obj)} (J : Nat → (Str → Option Value) → List (Addr × Obj) → Prop)
    (hh : A.handled = none) (hr : IsRange s.heap r a₀ b₀ 1 t₀ u₀ v₀) (hsmall : Builtin.Range.small a₀ b₀ 1 = true) (hn : Builtin.Range.rangeSize a₀ b₀ 1 = (n : Int)) (F : Fr h₀ env.locals s.heap m₀) (N : News h₀ env.locals s.heap news) (h0 : J 0 m₀ news)
    (turn : ∀ (I : Addr) (i : Nat) t h tk m₁ news₁ o, (∀ p ∈ news, p.1 < I) → i < n → J i m₁ news₁ → o.cls = .type "range_iterator" → Fr h₀ env.locals h m₁ → News h₀ env.locals h ((I, o) :: news₁) →
      wpAny (model prog w) A (assign (.Name x px) env (.int (a₀ + (i : Int)) t)) (fun _ s₂ => wpAny (model prog w) A (execs body env) (UnrPostW h₀ env.locals { s with heap := h, toks := tk } [(I, o)] (fun m' n' => SubL [] n' ∧ J (i + 1) m' n') Q) E s₂) E { s with heap := h, toks := tk })
    (done : ∀ h tk m' news', J n m' news' → Fr h₀ env.locals h m' → News h₀ env.locals h news' → Q .next { s with heap := h, toks := tk }) :
    wpAny (model prog w) A (pyIter (.ref r)) (fun it s₂ => TurnsAt prog w A h₀ env (.Name x px) body Q E it s₂) E s :=
  iter_rangeTurns hh hr hsmall hn F N (xs := itms a₀ 0 n) (by rw [itms_range, List.range_eq_range']) fun I hI =>
    rest_ofJ J (fun i t h tk m₁ news₁ o a b c d e => turn I i t h tk m₁ news₁ o hI a b c d e) done n 0 (Nat.zero_add n) m₀ news h0
end

end
section
/-- an int below the bound comes back; the yard has gone on by one -/
abbrev RetNx (g : Obj → List (Addr × Obj)) (D : Addr) (k : Int) (cap : Nat) (many : Int) : Heap → Addr → (Str → Option Value) → Shared → (Value → Shared → Prop) → Prop :=
  fun h₀ L m s Q => ∀ (r : Int) (t t' : Tok) (h' : Heap) (tk' : Nat), 0 ≤ r → r < many → Fr h₀ L h' m → News h₀ L h' (g (listOf #[.int (k + 1) t', .ref D] cap)) → Q (.int r t) { s with heap := h', toks := tk' }
theorem news_upd2 {h₀ h h' gh : Heap} {L L' Y : Addr} {m' : Str → Option Value} {news own n0 : List (Addr × Obj)} {g : Obj → List (Addr × Obj)} {o o' : Obj} (U : UpdF Y o news g) (N : News h₀ L h news) (hsub : ∀ p ∈ (Y, o) :: n0, p ∈ news) (G : Rest gh news ((Y, o) :: n0)) (F' : Fr gh L' h' m') (kN : News h₀ L h' own) (hm : (Y, o') ∈ own) (hs : ∀ p ∈ n0, p ∈ own) : News h₀ L h' (g o') := by
  have key : ∀ p ∈ news, p.1 ≠ Y → h'.get? p.1 = some p.2 ∧ p.1 ≠ L ∧ h₀.get? p.1 = none := by
    intro p hp hn
    by_cases hq : p.1 ∈ ((Y, o) :: n0).map (·.1)
    · obtain ⟨q, hq, e⟩ := List.mem_map.mp hq
      rcases List.mem_cons.mp hq with rfl | hq'
      · exact absurd e.symm hn
      · have e1 := (N p hp).1
        have e2 := (N q (hsub q hq)).1
        have e' : q.1 = p.1 := e
        rw [e', e1] at e2
        have e3 : p = q := Prod.ext e'.symm (Option.some.inj e2)
        exact kN p (hs p (e3 ▸ hq'))
    · exact ⟨F'.keep _ _ (G p hp hq), (N p hp).2.1, (N p hp).2.2⟩
  obtain ⟨pre, post, rfl, hg, a, b⟩ := U.split
  rw [hg]
  intro p hp
  rcases List.mem_append.mp hp with hp | hp
  · exact key p (List.mem_append.mpr (.inl hp)) (a p hp)
  · rcases List.mem_cons.mp hp with rfl | hp
    · exact kN _ hm
    · exact key p (List.mem_append.mpr (.inr (.tail _ hp))) (b p hp)
theorem ret_nx {g : Obj → List (Addr × Obj)} {D : Addr} {k x many : Int} {cap : Nat} {h₀ h' : Heap} {L : Addr} {m : Str → Option Value} {s : Shared} {Q : Value → Shared → Prop} {t t' : Tok} {tk' : Nat} (ret : RetNx g D k cap many h₀ L m s Q) (F : Fr h₀ L h' m) (N : News h₀ L h' (g (listOf #[.int (k + 1) t', .ref D] cap))) (h0 : 0 ≤ x) (h1 : x < many) : Q (.int x t) { s with heap := h', toks := tk' } := ret x t t' h' tk' h0 h1 F N
theorem map_take2 (f : Int → Int) (l : List Int) : (List.map f (List.take 2 l)).length ≤ 2 := by
  rw [List.length_map, List.length_take]; exact Nat.min_le_left _ _
theorem lst_ne {ys : List Value} {ns : List Int} {k : Int} {tk : Tok} {D : Addr} {cap : Nat} (hi : IntsAre ys ns) : LCg.lst ys ≠ listOf #[.int k tk, .ref D] cap := by
  intro e
  have e1 : (LCg.lst ys).data = (listOf #[.int k tk, .ref D] cap).data := by rw [e]
  have e2 : ys.toArray = #[.int k tk, .ref D] := (Data.seq.inj e1).1
  have e3 : ys = [.int k tk, .ref D] := by
    have := congrArg Array.toList e2
    simpa using this
  subst e3
  cases hi with
  | cons _ _ h => cases h
theorem next_c (news : List (Addr × Obj)) (g : Obj → List (Addr × Obj)) (Y D : Addr) (k many : Int) (ys : List Value) (ns : List Int) (tk tm : Tok) (cap : Nat)
    (hY : (Y, listOf #[.int k tk, .ref D] cap) ∈ news) (U : UpdF Y (listOf #[.int k tk, .ref D] cap) news g) (hD : (D, LCg.lst ys) ∈ news) (hi : IntsAre ys ns) (hl : ns.length ≤ 2) (k0 : 0 ≤ k) (k2 : k ≤ 10) (hm : 0 < many) (hm2 : many < 100) :
    Con 5 238 [.ref Y, .int many tm] news (RetNx g D k cap many) := by
  w_top off
  refine ⟨?_⟩
  intro w p loose mean mg mb dp un gd cn cs a ccd cl outer A₀ base h₀ L m s Q E B F X N T hk hd hu ret
  have hne : D ≠ Y := by
    obtain ⟨pre, post, e, hg, a, b⟩ := U.split
    rw [e] at hD
    rcases List.mem_append.mp hD with h | h
    · exact a _ h
    · rcases List.mem_cons.mp h with h | h
      · exact absurd (Prod.mk.inj h).2 (lst_ne hi)
      · exact b _ h
  have hl' : ys.length ≤ 2 := by rw [IntsAre.length hi]; exact hl
  have hsub9 : ∀ p ∈ ([(Y, listOf #[.int k tk, .ref D] cap), (D, LCg.lst ys)] : List (Addr × Obj)), p ∈ news := by
    intro p hp
    simp only [List.mem_cons, List.not_mem_nil, or_false] at hp
    rcases hp with rfl | rfl <;> assumption
  refine wpAny_call ?_
  k_dflt (refine' enterR (news₀ := [(Y, listOf #[.int k tk, .ref D] cap), (D, LCg.lst ys)]) ?k1 ?k2 ?k3 ?k4 ?k5 hsub9 ?kA ?kF ?kK ?k6 ?k7 ?k8 ?k9 ?kB ?_ ?c2 ?c3 ?c4 ?c5; (case kA => exact rfl); (case kF => exact rfl); (case kK => assumption); (case k1 => k_asm); (case k2 => k_asm); (case k3 => k_asm); (case k4 => k_asm); (case k5 => k_asm); (case k6 => k_is); (case k7 => k_is); (case k8 => ktr_room); (case k9 => exact BindsTo.of_eq rfl); (case c5 => decide); (case kB => exact locs rfl); (case c2 => exact rfl); (case c3 => exact rfl); (case c4 => exact rfl); k_whole)
  intro g' L' h' FG' F' N' B' X' T' G9
  (try dsimp only); (try k_lift B'); (try k_fold)
  k_steps
  all_goals (refine ret_nx ret (by k_asm) (news_upd2 U N hsub9 G9 (by assumption) (by assumption) (by wtm_at "m_mem") (by wtm_at "m_sub")) (Int.emod_nonneg _ (by omega)) (Int.emod_lt_of_pos _ hm))

end
local macro_rules | `(tactic| wtm_at "con") => `(tactic| ((with_reducible show Con _ 238 _ _ _); exact next_c _ _ _ _ _ _ _ _ _ _ _ (by wtm_at "m_mem") (by k_updF) (by wtm_at "m_mem") (by assumption) (by exact map_take2 _ _) (by decide) (by decide) (by decide) (by decide)))
local macro_rules | `(tactic| walk_at "call ref cons nil") => `(tactic| (k_here; (with_reducible show wpAny _ _ (call (Value.ref 238) _) _ _ _); wtm_at "cuse"; intro r9 t9 u9 h9 tk9 r0 r1 F9 N9; (try dsimp only at N9)))
section
def win1 (k sp : Int) : Bool := decide (1 ≤ sp) && decide (k / 2 ^ (sp - 1).toNat % 2 = 1)
/-- what by_windows reckons from a spot on -/
def bwf (x v k : Int) : Nat → Int → Option Int → Int
  | 0, _, _ => 0
  | n + 1, sp, none => if sp < 0 then 0 else if k / 2 ^ sp.toNat % 2 = 1 ∧ k < 2 ^ (sp + 1).toNat then (if win1 k sp = true then bwf x v k n (sp - 2) (some (x * (x * x % v) % v)) else bwf x v k n (sp - 1) (some x)) else 0
  | n + 1, sp, some f => if sp < 0 then f else if k / 2 ^ sp.toNat % 2 = 0 then bwf x v k n (sp - 1) (some (f * f % v)) else if sp = 0 ∧ 4 < k then bwf x v k n (sp - 1) (some (f * f % v * x % v)) else 0
def pwn (k x v : Int) : Int :=
  if k = 0 then 1 else if k = 1 then x else if k = 2 then x * x % v else if k = 3 then x * (x * x % v) % v else if k = 4 then (x * x % v) * (x * x % v) % v else if k = 5 then (x * x % v) * (x * x % v) % v * x % v else if k = 6 then (x * (x * x % v) % v) * (x * (x * x % v) % v) % v else (x * (x * x % v) % v) * (x * (x * x % v) % v) % v * x % v
theorem bwf_pwn {x v k : Int} (h1 : 1 ≤ k) (h7 : k ≤ 7) : bwf x v k 4 ((Builtin.Int.intBits k : Int) - 1) none = pwn k x v := by
  rcases k7 h1 h7 with rfl | rfl | rfl | rfl | rfl | rfl | rfl <;> rfl
theorem bits_le {k : Int} (h1 : 1 ≤ k) (h7 : k ≤ 7) : (Builtin.Int.intBits k : Int) - 1 ≤ 2 ∧ 0 ≤ (Builtin.Int.intBits k : Int) - 1 := by
  rcases k7 h1 h7 with rfl | rfl | rfl | rfl | rfl | rfl | rfl <;> decide
theorem sp3 {sp : Int} (h0 : 0 ≤ sp) (h2 : sp ≤ 2) : sp = 0 ∨ sp = 1 ∨ sp = 2 := (st h0).imp_right fun h => (st h).imp_right fun h => Int.le_antisymm h2 h
section
variable (news : List (Addr × Obj)) (l : Addr) (k sp wd : Int) (tx tt ts tw : Tok) (cap : Nat)
theorem bit_no {k : Int} {n : Nat} (h : decide (k / 2 ^ n % 2 = 1) = false) : k / 2 ^ n % 2 = 0 := (Int.emod_two_eq _).resolve_right (of_decide_eq_false h)
theorem wa_n1 (hl : (l, listOf #[.int k tx] cap) ∈ news) (hw : 6 ≤ wd) (hw2 : wd ≤ 9) (h0 : 0 ≤ sp) (h2 : sp ≤ 2) (hb : k / 2 ^ sp.toNat % 2 = 1) (h : win1 k sp = false) :
    Con 6 147 [.ref l, .int sp tt, .int 2 ts, .int wd tw] news (RetTI news 1 1) := by
  rcases sp3 h0 h2 with rfl | rfl | rfl
  · exact wA _ _ _ _ _ _ _ _ _ hl hw hw2 hb
  · exact wC1 _ _ _ _ _ _ _ _ _ hl hw hw2 (bit_no h) hb
  · exact wC2 _ _ _ _ _ _ _ _ _ hl hw hw2 (bit_no h) hb
theorem wa_n3 (hl : (l, listOf #[.int k tx] cap) ∈ news) (hw : 6 ≤ wd) (hw2 : wd ≤ 9) (h0 : 0 ≤ sp) (h2 : sp ≤ 2) (hb : k / 2 ^ sp.toNat % 2 = 1) (h : win1 k sp = true) :
    Con 6 147 [.ref l, .int sp tt, .int 2 ts, .int wd tw] news (RetTI news 3 2) := by
  rcases sp3 h0 h2 with rfl | rfl | rfl
  · exact absurd h Bool.false_ne_true
  · exact wB1 _ _ _ _ _ _ _ _ _ hl hw hw2 (of_decide_eq_true h) hb
  · exact wB2 _ _ _ _ _ _ _ _ _ hl hw hw2 (of_decide_eq_true h) hb
theorem bits_k (hl : (l, listOf #[.int k tx] cap) ∈ news) : Con 3 100 [.ref l, .int wd tw] news (RetI news (Builtin.Int.intBits k : Int)) := bits_c _ _ _ _ _ _ _ hl
end
abbrev bwm (l' f d : Addr) (fv : Value) (sp wd : Int) (tsp ts tw : Tok) (m₁ : Str → Option Value) : Str → Option Value :=
  fun q => if q = Str.ofString "e" then some (.ref l') else if q = Str.ofString "size" then some (.int 2 ts) else if q = Str.ofString "w" then some (.int wd tw) else if q = Str.ofString "times" then some (.ref f) else if q = Str.ofString "table" then some (.ref d) else if q = Str.ofString "found" then some fv else if q = Str.ofString "spot" then some (.int sp tsp) else m₁ q
theorem bwm_eq {l' f d : Addr} {fv : Value} {sp wd : Int} {tsp ts tw : Tok} {m : Str → Option Value} (ee : m (Str.ofString "e") = some (.ref l')) (es : m (Str.ofString "size") = some (.int 2 ts)) (ew : m (Str.ofString "w") = some (.int wd tw)) (et : m (Str.ofString "times") = some (.ref f)) (ed : m (Str.ofString "table") = some (.ref d)) (ef : m (Str.ofString "found") = some fv) (ep : m (Str.ofString "spot") = some (.int sp tsp)) :
    m = bwm l' f d fv sp wd tsp ts tw m := by
  funext q
  unfold bwm
  repeat' split
  all_goals first | (next e => rw [e]; assumption) | rfl
section
variable {prog : Program} {w : World} {A : Around} {E : Value → Shared → Prop} {env : Env} {test : PySem.Expr} {body orelse : List Stmt} {Q : Flow → Shared → Prop}
/-- between the turns -/
def BJ (g : Heap) (L : Addr) (s₀ : Shared) (news₀ : List (Addr × Obj)) (l l' f : Addr) (x v k wd : Int) (ts tw : Tok) (T : Int) (n : Nat) (s : Shared) : Prop :=
  ∃ (h : Heap) (tk q : Nat) (m₁ : Str → Option Value) (sp fi : Int) (tsp t t3 : Tok) (lf d r : Addr) (cp c2 c3 : Nat),
    s = { s₀ with heap := h, toks := tk } ∧ Fr g L h (bwm l' f d (.ref lf) sp wd tsp ts tw m₁) ∧
    News g L h ((lf, listOf #[.int fi t] cp) :: (d, listOf #[.ref l, .ref r] c2) :: (r, listOf #[.int (x * (x * x % v) % v) t3] c3) :: news₀) ∧ 0 < fi ∧ fi < v ∧ -1 ≤ sp ∧ sp ≤ 2 ∧ (sp + 1).toNat = n ∧ n < q ∧ bwf x v k q sp (some fi) = T
structure IHB (prog : Program) (w : World) (A : Around) (E : Value → Shared → Prop) (env : Env) (test : PySem.Expr) (body orelse : List Stmt) (Q : Flow → Shared → Prop) (g : Heap) (L : Addr) (s₀ : Shared) (news₀ : List (Addr × Obj)) (l l' f : Addr) (x v k wd : Int) (ts tw : Tok) (T : Int) (n : Nat) : Prop where
  go : ∀ n' s', n' < n → BJ g L s₀ news₀ l l' f x v k wd ts tw T n' s' → WhlRest prog w A E env test body orelse Q 0 s'
variable {g : Heap} {L : Addr} {s₀ : Shared} {news₀ : List (Addr × Obj)} {l l' f : Addr} {x v k wd : Int} {ts tw : Tok} {T : Int}
theorem bw_back {σ : Shared} {h : Heap} {tk n q : Nat} {m : Str → Option Value} {sp fi : Int} {tsp t t3 : Tok} {lf d r : Addr} {cp c2 c3 : Nat} {news : List (Addr × Obj)}
    (I : IHB prog w A E env test body orelse Q g L s₀ news₀ l l' f x v k wd ts tw T n)
    (hσ : σ = { s₀ with heap := h, toks := tk }) (F : Fr g L h m) (ee : m (Str.ofString "e") = some (.ref l')) (es : m (Str.ofString "size") = some (.int 2 ts)) (ew : m (Str.ofString "w") = some (.int wd tw)) (et : m (Str.ofString "times") = some (.ref f)) (ed : m (Str.ofString "table") = some (.ref d)) (ef : m (Str.ofString "found") = some (.ref lf)) (ep : m (Str.ofString "spot") = some (.int sp tsp))
    (N : News g L h news) (hf : (lf, listOf #[.int fi t] cp) ∈ news) (hd : (d, listOf #[.ref l, .ref r] c2) ∈ news) (hr : (r, listOf #[.int (x * (x * x % v) % v) t3] c3) ∈ news) (hs : ∀ p ∈ news₀, p ∈ news)
    (f0 : 0 < fi) (fv : fi < v) (s0 : -1 ≤ sp) (hn : sp + 1 < (n : Int)) (n3 : n ≤ 3) (hq : n ≤ q) (hT : bwf x v k q sp (some fi) = T) :
    WhlRest prog w A E env test body orelse Q 0 σ := by
  refine I.go (sp + 1).toNat _ (by omega) ⟨h, tk, q, m, sp, fi, tsp, t, t3, lf, d, r, cp, c2, c3, hσ, ?_, ?_, f0, fv, s0, by omega, rfl, by omega, hT⟩
  · rw [← bwm_eq ee es ew et ed ef ep]
    exact F
  · intro p hp
    rcases List.mem_cons.mp hp with rfl | hp
    · exact N _ hf
    · rcases List.mem_cons.mp hp with rfl | hp
      · exact N _ hd
      · rcases List.mem_cons.mp hp with rfl | hp
        · exact N _ hr
        · exact N p (hs p hp)
theorem bw_loop {σ : Shared} {h : Heap} {tk : Nat} {m : Str → Option Value} {sp : Int} {tsp t3 : Tok} {d r : Addr} {c2 c3 : Nat} {nw news : List (Addr × Obj)}
    (_G : Rest g nw news₀) (hσ : σ = { s₀ with heap := h, toks := tk }) (F : Fr g L h m) (ee : m (Str.ofString "e") = some (.ref l')) (es : m (Str.ofString "size") = some (.int 2 ts)) (ew : m (Str.ofString "w") = some (.int wd tw)) (et : m (Str.ofString "times") = some (.ref f)) (ed : m (Str.ofString "table") = some (.ref d)) (ef : m (Str.ofString "found") = some .none) (ep : m (Str.ofString "spot") = some (.int sp tsp))
    (N : News g L h news) (hd : (d, listOf #[.ref l, .ref r] c2) ∈ news) (hr : (r, listOf #[.int (x * (x * x % v) % v) t3] c3) ∈ news) (hs : ∀ p ∈ news₀, p ∈ news) (s0 : 0 ≤ sp) (s2 : sp ≤ 2) (hT : bwf x v k 4 sp none = T) (T0 : 0 < T) (hP : ∀ a b : Int, 0 < a → a < v → 0 < b → b < v → 0 < a * b % v) (hx : 0 < x) (hx2 : x < v)
    (tn1 : ∀ (h : Heap) (tk : Nat) (m₁ : Str → Option Value) (sp : Int) (tsp t3 : Tok) (d r : Addr) (c2 c3 n q : Nat), IHB prog w A E env test body orelse Q g L s₀ news₀ l l' f x v k wd ts tw T n → (n : Int) = sp + 1 → n ≤ q → 0 ≤ sp → sp ≤ 2 → k / 2 ^ sp.toNat % 2 = 1 → k < 2 ^ (sp + 1).toNat → win1 k sp = false → bwf x v k q (sp - 1) (some x) = T →
      Fr g L h (bwm l' f d .none sp wd tsp ts tw m₁) → News g L h ((d, listOf #[.ref l, .ref r] c2) :: (r, listOf #[.int (x * (x * x % v) % v) t3] c3) :: news₀) → WhlRest prog w A E env test body orelse Q (0 + 1) { s₀ with heap := h, toks := tk })
    (tn3 : ∀ (h : Heap) (tk : Nat) (m₁ : Str → Option Value) (sp : Int) (tsp t3 : Tok) (d r : Addr) (c2 c3 n q : Nat), IHB prog w A E env test body orelse Q g L s₀ news₀ l l' f x v k wd ts tw T n → (n : Int) = sp + 1 → n ≤ q → 1 ≤ sp → sp ≤ 2 → k / 2 ^ sp.toNat % 2 = 1 → k < 2 ^ (sp + 1).toNat → win1 k sp = true → bwf x v k q (sp - 2) (some (x * (x * x % v) % v)) = T →
      Fr g L h (bwm l' f d .none sp wd tsp ts tw m₁) → News g L h ((d, listOf #[.ref l, .ref r] c2) :: (r, listOf #[.int (x * (x * x % v) % v) t3] c3) :: news₀) → WhlRest prog w A E env test body orelse Q (0 + 1) { s₀ with heap := h, toks := tk })
    (ts0 : ∀ (h : Heap) (tk : Nat) (m₁ : Str → Option Value) (sp fi : Int) (tsp t t3 : Tok) (lf d r : Addr) (cp c2 c3 n q : Nat), IHB prog w A E env test body orelse Q g L s₀ news₀ l l' f x v k wd ts tw T n → (n : Int) = sp + 1 → n ≤ q → 0 ≤ sp → sp ≤ 2 → 0 < fi → fi < v → 0 < fi * fi % v → fi * fi % v < v → k / 2 ^ sp.toNat % 2 = 0 → bwf x v k q (sp - 1) (some (fi * fi % v)) = T →
      Fr g L h (bwm l' f d (.ref lf) sp wd tsp ts tw m₁) → News g L h ((lf, listOf #[.int fi t] cp) :: (d, listOf #[.ref l, .ref r] c2) :: (r, listOf #[.int (x * (x * x % v) % v) t3] c3) :: news₀) → WhlRest prog w A E env test body orelse Q (0 + 1) { s₀ with heap := h, toks := tk })
    (ts1 : ∀ (h : Heap) (tk : Nat) (m₁ : Str → Option Value) (fi : Int) (tsp t t3 : Tok) (lf d r : Addr) (cp c2 c3 n q : Nat), IHB prog w A E env test body orelse Q g L s₀ news₀ l l' f x v k wd ts tw T n → (n : Int) = 1 → n ≤ q → 4 < k → 0 < fi → fi < v → 0 < fi * fi % v → fi * fi % v < v → 0 < fi * fi % v * x % v → fi * fi % v * x % v < v → k / 2 ^ (0 : Int).toNat % 2 = 1 → bwf x v k q (-1) (some (fi * fi % v * x % v)) = T →
      Fr g L h (bwm l' f d (.ref lf) 0 wd tsp ts tw m₁) → News g L h ((lf, listOf #[.int fi t] cp) :: (d, listOf #[.ref l, .ref r] c2) :: (r, listOf #[.int (x * (x * x % v) % v) t3] c3) :: news₀) → WhlRest prog w A E env test body orelse Q (0 + 1) { s₀ with heap := h, toks := tk })
    (te : ∀ (h : Heap) (tk : Nat) (m₁ : Str → Option Value) (tsp t t3 : Tok) (lf d r : Addr) (cp c2 c3 : Nat),
      Fr g L h (bwm l' f d (.ref lf) (-1) wd tsp ts tw m₁) → News g L h ((lf, listOf #[.int T t] cp) :: (d, listOf #[.ref l, .ref r] c2) :: (r, listOf #[.int (x * (x * x % v) % v) t3] c3) :: news₀) → WhlRest prog w A E env test body orelse Q (0 + 1) { s₀ with heap := h, toks := tk }) :
    WhlRest prog w A E env test body orelse Q 0 σ := by
  have all : ∀ n, ∀ s, BJ g L s₀ news₀ l l' f x v k wd ts tw T n s → WhlRest prog w A E env test body orelse Q 0 s := by
    intro n
    induction n using Nat.strongRecOn with
    | ind n ih =>
      intro s hj
      obtain ⟨h, tk, q, m₁, sp, fi, tsp, t, t3, lf, d, r, cp, c2, c3, rfl, F, N, f0, fv, s0, s2, hn, hq, hT⟩ := hj
      have I : IHB prog w A E env test body orelse Q g L s₀ news₀ l l' f x v k wd ts tw T n := ⟨fun n' s' hn hj => ih n' hn s' hj⟩
      have p1 := hP fi fi f0 fv f0 fv
      have p2 : fi * fi % v < v := Int.emod_lt_of_pos _ (Int.lt_trans f0 fv)
      match q, hq, hT with
      | 0, hq, _ => omega
      | q + 1, hq, hB =>
        by_cases e : sp < 0
        · rw [bwf, if_pos e] at hB
          have e' : sp = -1 := by omega
          subst e'
          have hT' : fi = T := hB
          rw [hT'] at N
          exact te h tk m₁ tsp t t3 lf d r cp c2 c3 F N
        · rw [bwf, if_neg e] at hB
          by_cases e1 : k / 2 ^ sp.toNat % 2 = 0
          · rw [if_pos e1] at hB
            exact ts0 h tk m₁ sp fi tsp t t3 lf d r cp c2 c3 n q I (by omega) (by omega) (by omega) s2 f0 fv p1 p2 e1 hB F N
          · rw [if_neg e1] at hB
            by_cases e2 : sp = 0 ∧ 4 < k
            · rw [if_pos e2] at hB
              obtain ⟨rfl, hk⟩ := e2
              have p3 := hP _ x p1 p2 hx hx2
              exact ts1 h tk m₁ fi tsp t t3 lf d r cp c2 c3 n q I (by omega) (by omega) hk f0 fv p1 p2 p3 (Int.emod_lt_of_pos _ (Int.lt_trans f0 fv)) (by omega) hB F N
            · rw [if_neg e2] at hB
              omega
  have I : IHB prog w A E env test body orelse Q g L s₀ news₀ l l' f x v k wd ts tw T (sp + 1).toNat := ⟨fun n' s' _ hj => all n' s' hj⟩
  have N' : News g L h ((d, listOf #[.ref l, .ref r] c2) :: (r, listOf #[.int (x * (x * x % v) % v) t3] c3) :: news₀) := by
    intro p hp
    rcases List.mem_cons.mp hp with rfl | hp
    · exact N _ hd
    · rcases List.mem_cons.mp hp with rfl | hp
      · exact N _ hr
      · exact N p (hs p hp)
  have F' : Fr g L h (bwm l' f d .none sp wd tsp ts tw m) := by
    rw [← bwm_eq ee es ew et ed ef ep]
    exact F
  subst hσ
  rw [bwf, if_neg (by omega)] at hT
  by_cases e1 : k / 2 ^ sp.toNat % 2 = 1 ∧ k < 2 ^ (sp + 1).toNat
  · rw [if_pos e1] at hT
    cases e2 : win1 k sp with
    | true =>
      rw [if_pos e2] at hT
      have h1 : 1 ≤ sp := by
        have := (Bool.and_eq_true_iff.mp e2).1
        exact of_decide_eq_true this
      exact tn3 h tk m sp tsp t3 d r c2 c3 _ 3 I (by omega) (by omega) h1 s2 e1.1 e1.2 e2 hT F' N'
    | false =>
      rw [if_neg (by rw [e2]; exact Bool.false_ne_true)] at hT
      exact tn1 h tk m sp tsp t3 d r c2 c3 _ 3 I (by omega) (by omega) s0 s2 e1.1 e1.2 e2 hT F' N'
  · rw [if_neg e1] at hT
    omega
end
theorem pwn_pos {x v k : Int} (h1 : 1 ≤ k) (h7 : k ≤ 7) (hx : 0 < x) (hx2 : x < v) (hP : ∀ a b : Int, 0 < a → a < v → 0 < b → b < v → 0 < a * b % v) : 0 < pwn k x v := by
  have f1 := hP x x hx hx2 hx hx2
  have g1 : x * x % v < v := Int.emod_lt_of_pos _ (Int.lt_trans hx hx2)
  have f2 := hP x _ hx hx2 f1 g1
  have g2 : x * (x * x % v) % v < v := Int.emod_lt_of_pos _ (Int.lt_trans hx hx2)
  have f4 := hP _ _ f1 g1 f1 g1
  have g4 : (x * x % v) * (x * x % v) % v < v := Int.emod_lt_of_pos _ (Int.lt_trans hx hx2)
  have f6 := hP _ _ f2 g2 f2 g2
  have g6 : (x * (x * x % v) % v) * (x * (x * x % v) % v) % v < v := Int.emod_lt_of_pos _ (Int.lt_trans hx hx2)
  rcases k7 h1 h7 with rfl | rfl | rfl | rfl | rfl | rfl | rfl
  · exact hx
  · exact f1
  · exact f2
  · exact f4
  · exact hP _ x f4 g4 hx hx2
  · exact f6
  · exact hP _ x f6 g6 hx hx2
local macro_rules | `(tactic| wtm_at "con") => `(tactic| ((with_reducible show Con _ 147 _ _ _); exact wa_n1 _ _ _ _ _ _ _ _ _ _ (by wtm_at "m_mem") (by wtm_at "om") (by wtm_at "om") (by wtm_at "om") (by wtm_at "om") (by assumption) (by assumption)))
local macro_rules | `(tactic| wtm_at "con") => `(tactic| ((with_reducible show Con _ 147 _ _ _); exact wa_n3 _ _ _ _ _ _ _ _ _ _ (by wtm_at "m_mem") (by wtm_at "om") (by wtm_at "om") (by wtm_at "om") (by wtm_at "om") (by assumption) (by assumption)))
local macro_rules | `(tactic| wtm_at "con") => `(tactic| ((with_reducible show Con _ 147 [_, Value.int 0 _, _, _] _ _); exact wA _ _ _ _ _ _ _ _ _ (by wtm_at "m_mem") (by wtm_at "om") (by wtm_at "om") (by assumption)))
local macro_rules | `(tactic| wtm_at "con") => `(tactic| ((with_reducible show Con _ 100 _ _ _); exact bits_k _ _ _ _ _ _ _ (by wtm_at "m_mem")))
local macro_rules | `(tactic| wtm_at "bw_m") => `(tactic| exact rfl)
local macro_rules | `(tactic| wtm_at "bw_l") => `(tactic| k_dflt (refine bw_loop (by assumption) (by exact rfl) (by k_asm) (by exact rfl) (by exact rfl) (by exact rfl) (by exact rfl) (by exact rfl) (by exact rfl) (by exact rfl) (by k_asm) (by wtm_at "m_mem") (by wtm_at "m_mem") (by wtm_at "m_sub") (by assumption) (by assumption) (by assumption) (by assumption) (by assumption) (by assumption) (by assumption) ?_ ?_ ?_ ?_ ?_))
local macro_rules | `(tactic| walk_at "exec While Compare cons nil") => `(tactic| (k_here; k_dflt (refine whl_start 0 ?_); wtm_at "bw_l" <;> intros))
local macro_rules | `(tactic| walk_at "WhlRest") => `(tactic| k_dflt (exact bw_back (by assumption) (by exact rfl) (by k_asm) (by exact rfl) (by exact rfl) (by exact rfl) (by exact rfl) (by exact rfl) (by exact rfl) (by exact rfl) (by k_asm) (by wtm_at "m_mem") (by wtm_at "m_mem") (by wtm_at "m_mem") (by wtm_at "m_sub") (by assumption) (by assumption) (by wtm_at "om") (by wtm_at "om") (by wtm_at "om") (by wtm_at "om") (by assumption)))
local macro_rules | `(tactic| wtm_at "end_rm") => `(tactic| exact ret_m (by assumption) rfl (by k_asm) (by wtm_at "e_n1"))
theorem bw_c (news : List (Addr × Obj)) (f c' b rm l l' one : Addr) (oc o1 o2 o3 o4 : Obj) (vs : Array Value) (t : Tok) (dc pm ct : Value) (x v wd k : Int) (tx ty tv tw tz : Tok) (cap cap' capv : Nat)
    (hf : (f, mFn b dc pm c' ct) ∈ news) (hc : (c', oc) ∈ news) (hcd : oc.data = .fields vs) (hcv : vs[1]? = some (.str mQual t))
    (h1 : (b + 1 + 1 + 1 + 1, o1) ∈ news) (h2 : (b + 1 + 1 + 1, o2) ∈ news) (h3 : (b + 1 + 1, o3) ∈ news) (h4 : (b + 1, o4) ∈ news)
    (d1 : o1.data = .cell (some (.ref 231))) (d2 : o2.data = .cell (some (.ref 189))) (d3 : o3.data = .cell (some (.int wd tw))) (d4 : o4.data = .cell (some (.ref rm)))
    (hm : (rm, listOf #[.int v tv] capv) ∈ news) (hl : (l, listOf #[.int x tx] cap) ∈ news) (hl' : (l', listOf #[.int k ty] cap') ∈ news)
    (hx : 0 < x) (hx2 : x < v) (hv2 : v < 64) (hw : 6 ≤ wd) (hw2 : wd ≤ 9) (hP : ∀ a b : Int, 0 < a → a < v → 0 < b → b < v → 0 < a * b % v) (k1 : 1 ≤ k) (k7 : k ≤ 7) :
    ConD 17 154 [.ref l, .ref l', .int 2 tz, .int wd tw, .ref one, .ref f] news (RetM news (pwn k x v)) := by
  w_top off
  refine ⟨?_⟩
  intro w p loose mean mg mb dp un gd cn cs a ccd cl outer A₀ base h₀ L m s Q E CH B F X N T hk hd hu ret
  have f1 := hP x x hx hx2 hx hx2
  have g1 : x * x % v < v := Int.emod_lt_of_pos _ (Int.lt_trans hx hx2)
  have f2 := hP x _ hx hx2 f1 g1
  have g2 : x * (x * x % v) % v < v := Int.emod_lt_of_pos _ (Int.lt_trans hx hx2)
  have hT := bwf_pwn (x := x) (v := v) k1 k7
  have hT0 := pwn_pos k1 k7 hx hx2 hP
  have hb0 := (bits_le k1 k7).2
  have hb2 := (bits_le k1 k7).1
  have hsub9 : ∀ p ∈ ([(f, mFn b dc pm c' ct), (c', oc), (b + 1 + 1 + 1 + 1, o1), (b + 1 + 1 + 1, o2), (b + 1 + 1, o3), (b + 1, o4), (rm, listOf #[.int v tv] capv), (l, listOf #[.int x tx] cap), (l', listOf #[.int k ty] cap')] : List (Addr × Obj)), p ∈ news := by
    intro p hp
    simp only [List.mem_cons, List.not_mem_nil, or_false] at hp
    rcases hp with rfl | rfl | rfl | rfl | rfl | rfl | rfl | rfl | rfl <;> assumption
  refine wpAny_call ?_
  k_dflt (refine' enterR (news₀ := [(f, mFn b dc pm c' ct), (c', oc), (b + 1 + 1 + 1 + 1, o1), (b + 1 + 1 + 1, o2), (b + 1 + 1, o3), (b + 1, o4), (rm, listOf #[.int v tv] capv), (l, listOf #[.int x tx] cap), (l', listOf #[.int k ty] cap')]) ?k1 ?k2 ?k3 ?k4 ?k5 hsub9 ?kA ?kF ?kK ?k6 ?k7 ?k8 ?k9 ?kB ?_ ?c2 ?c3 ?c4 ?c5; (case kA => exact rfl); (case kF => exact rfl); (case kK => assumption); (case k1 => k_asm); (case k2 => k_asm); (case k3 => k_asm); (case k4 => k_asm); (case k5 => k_asm); (case k6 => k_is); (case k7 => k_is); (case k8 => ktr_room); (case k9 => exact BindsTo.of_eq rfl); (case c5 => decide); (case kB => exact locs rfl); (case c2 => exact rfl); (case c3 => exact rfl); (case c4 => exact rfl); k_whole)
  intro g' L' h' FG' F' N' B' X' T' G9
  (try dsimp only); (try k_lift B'); (try k_fold)
  k_steps
  all_goals wtm_at "end_rm"

end
section
theorem prime_of (v : Nat) (h : ∀ a, a < v → ∀ b, b < v → 0 < a → 0 < b → 0 < a * b % v) (a b : Int) (ha : 0 < a) (ha2 : a < (v : Int)) (hb : 0 < b) (hb2 : b < (v : Int)) : 0 < a * b % (v : Int) := by
  obtain ⟨a', rfl⟩ := Int.eq_ofNat_of_zero_le (Int.le_of_lt ha)
  obtain ⟨b', rfl⟩ := Int.eq_ofNat_of_zero_le (Int.le_of_lt hb)
  have := h a' (by omega) b' (by omega) (by omega) (by omega)
  rw [← Int.natCast_mul, ← Int.natCast_emod]
  exact Int.ofNat_lt.mpr this
theorem prime_7 (a b : Int) (ha : 0 < a) (ha2 : a < 7) (hb : 0 < b) (hb2 : b < 7) : 0 < a * b % 7 := prime_of 7 (by decide +kernel) a b ha ha2 hb hb2
theorem prime_13 (a b : Int) (ha : 0 < a) (ha2 : a < 13) (hb : 0 < b) (hb2 : b < 13) : 0 < a * b % 13 := prime_of 13 (by decide +kernel) a b ha ha2 hb hb2
theorem prime_11 (a b : Int) (ha : 0 < a) (ha2 : a < 11) (hb : 0 < b) (hb2 : b < 11) : 0 < a * b % 11 := prime_of 11 (by decide +kernel) a b ha ha2 hb hb2
theorem prime_31 (a b : Int) (ha : 0 < a) (ha2 : a < 31) (hb : 0 < b) (hb2 : b < 31) : 0 < a * b % 31 := prime_of 31 (by decide +kernel) a b ha ha2 hb hb2
theorem prime_29 (a b : Int) (ha : 0 < a) (ha2 : a < 29) (hb : 0 < b) (hb2 : b < 29) : 0 < a * b % 29 := prime_of 29 (by decide +kernel) a b ha ha2 hb hb2
theorem prime_43 (a b : Int) (ha : 0 < a) (ha2 : a < 43) (hb : 0 < b) (hb2 : b < 43) : 0 < a * b % 43 := prime_of 43 (by decide +kernel) a b ha ha2 hb hb2
theorem bwok_all {k x v wd : Int} (hk0 : 0 < k) (hk7 : k ≤ 7) (hx : 0 < x) (hx2 : x < v) (hv2 : v < 64) (hw : 6 ≤ wd) (hw2 : wd ≤ 9) (hP : ∀ a b : Int, 0 < a → a < v → 0 < b → b < v → 0 < a * b % v) : BWok k x v wd (pwn k x v) :=
  fun _ _ _ _ _ _ _ _ _ _ _ _ _ _ _ _ _ _ _ _ _ _ _ _ _ _ hf hc hcd hcv h1 h2 h3 h4 d1 d2 d3 d4 hm hl hl' => bw_c _ _ _ _ _ _ _ _ _ _ _ _ _ _ _ _ _ _ _ _ _ _ _ _ _ _ _ _ _ _ hf hc hcd hcv h1 h2 h3 h4 d1 d2 d3 d4 hm hl hl' hx hx2 hv2 hw hw2 hP hk0 hk7
theorem lpf_c (news : List (Addr × Obj)) (g : Obj → List (Addr × Obj)) (x k v wd y : Int) (tx te tv tw : Tok) (hT : (170, tabObj #[]) ∈ news) (U : UpdF 170 (tabObj #[]) news g) (hx : 0 < x) (hx2 : x < v) (hv : 1 < v) (hv2 : v < 64) (hw : 6 ≤ wd) (hw2 : wd ≤ 9) (hk0 : 0 < k) (hk7 : k ≤ 7) (hP : ∀ a b : Int, 0 < a → a < v → 0 < b → b < v → 0 < a * b % v) (e : pwn k x v = y) :
    ConD 20 259 [.int x tx, .int k te, .int v tv, .int wd tw] news (RetF news g y) :=
  pf_c _ _ _ _ _ _ _ _ _ _ _ hT U hx hx2 hv hv2 hw hw2 hk0 (by omega) (e ▸ bwok_all hk0 hk7 hx hx2 hv2 hw hw2 hP)
theorem lph_c (news : List (Addr × Obj)) (x k v wd y : Int) (tx te tv tw : Tok) (c' : Addr) (oc : Obj) (vs : Array Value) (tq : Tok) (hT : (170, mTab c') ∈ news) (hc : (c', oc) ∈ news) (hcd : oc.data = .fields vs) (hcv : vs[1]? = some (.str mQual tq)) (hx : 0 < x) (hx2 : x < v) (hv : 1 < v) (hv2 : v < 64) (hw : 6 ≤ wd) (hw2 : wd ≤ 9) (hk0 : 0 ≤ k) (hk7 : k ≤ 7) (hP : ∀ a b : Int, 0 < a → a < v → 0 < b → b < v → 0 < a * b % v) (e : pwn k x v = y) :
    ConD 20 259 [.int x tx, .int k te, .int v tv, .int wd tw] news (RetI news y) := by
  by_cases h : k = 0
  · subst h
    subst e
    exact ph0_c _ _ _ _ _ _ _ _ _ _ _ _ hT hc hcd hcv hx hx2 hv hv2 hw hw2
  · exact ph_c _ _ _ _ _ _ _ _ _ _ _ _ _ _ hT hc hcd hcv hx hx2 hv hv2 hw hw2 (by omega) (by omega) (e ▸ bwok_all (by omega) hk7 hx hx2 hv2 hw hw2 hP)
theorem le_of_range {k B : Int} (h : k < B) (hB : B ≤ 8) : k ≤ 7 := by omega

/-- the facts of a pair of primes -/
structure PairOk (v g k r : Int) : Prop where
  six : v = 3 ∨ v = 5 ∨ v = 7
  six6 : (v = 3 ∧ g = 7 ∧ r = 4) ∨ (v = 3 ∧ g = 13 ∧ r = 3) ∨ (v = 5 ∧ g = 11 ∧ r = 4) ∨ (v = 5 ∧ g = 31 ∧ r = 2) ∨ (v = 7 ∧ g = 29 ∧ r = 16) ∨ (v = 7 ∧ g = 43 ∧ r = 21)
  v3 : 3 ≤ v
  v7 : v ≤ 7
  vg : v < g
  g64 : g < 64
  hk : g / v = k
  k0 : 0 < k
  k7 : k ≤ 7
  hr : pwn k 2 g = r
  r1 : 1 < r
  rg : r < g
  hP : ∀ a b : Int, 0 < a → a < g → 0 < b → b < g → 0 < a * b % g
  hone : pwn v r g = 1
  hb1 : (r == 1) = false
  hs1 : ((List.map (fun k' => pwn k' r g) (rangeKs 0 (v - 0).toNat)).sum % g != 0) = false
  hs2 : (List.map (fun k' => pwn k' r g) (rangeKs 0 (v - 0).toNat)).length + 1 < scanBound
  hs3 : (firstMet (fun i => (List.map (fun k' => pwn k' r g) (rangeKs 0 (v - 0).toNat)).getD i 0) (List.map (fun k' => pwn k' r g) (rangeKs 0 (v - 0).toNat)).length).length = v.toNat
  hs4 : (((v.toNat : Nat) : Int) != v) = false
  hs5 : ((1 : Int) != 1) = false

def jacT (x v : Int) : Int := if v = 3 then (if x = 1 then 1 else -1) else if v = 5 then (if x = 1 ∨ x = 4 then 1 else -1) else (if x = 1 ∨ x = 2 ∨ x = 4 then 1 else -1)
theorem jac_all (news : List (Addr × Obj)) (l l' : Addr) (x v wd y : Int) (tx ty tw : Tok) (cap cap' : Nat)
    (hl : (l, listOf #[.int x tx] cap) ∈ news) (hl' : (l', listOf #[.int v ty] cap') ∈ news) (hw : 6 ≤ wd) (hw2 : wd ≤ 9) (hv : v = 3 ∨ v = 5 ∨ v = 7) (h1 : 1 ≤ x) (h2 : x < v) (e : jacT x v = y) :
    Con 11 133 [.ref l, .ref l', .int wd tw, .ref 231] news (RetI news y) := by
  refine jac_c news l l' x v wd y tx ty tw cap cap' hl hl' hw hw2 (by omega) h1 h2 (by omega) ?_
  subst e
  rcases hv with rfl | rfl | rfl
  · rcases (st h1).imp_right fun h => Int.le_antisymm (Int.le_of_lt_add_one h2) h with rfl | rfl <;> decide +kernel
  · rcases (st h1).imp_right fun h => (st h).imp_right fun h => (st h).imp_right fun h => Int.le_antisymm (Int.le_of_lt_add_one h2) h with rfl | rfl | rfl | rfl <;> decide +kernel
  · rcases k6 h1 (Int.le_of_lt_add_one h2) with rfl | rfl | rfl | rfl | rfl | rfl <;> decide +kernel
theorem eq_int_c {prog : Program} {w : World} {A : Around} {E : Value → Shared → Prop} {s : Shared} {a b : Int} {t u : Tok} {c : Bool} {Q : Value → Shared → Prop} (e : (a == b) = c) (h : Q (.bool c) s) : wpAny (model prog w) A (compareOp .Eq (.int a t) (.int b u)) Q E s := eq_int (e ▸ h)
def sgL (v : Int) : List Int := if v = 3 then [0, 1, -1] else if v = 5 then [0, 1, -1, -1, 1] else [0, 1, 1, -1, 1, -1, -1]
theorem newsTwo {h₀ : Heap} {L : Addr} {h : Heap} {p : Addr × Obj} {l : List (Addr × Obj)} (a : h.get? p.1 = some p.2 ∧ p.1 ≠ L ∧ h₀.get? p.1 = none) (b : ∀ q ∈ l, h.get? q.1 = some q.2 ∧ q.1 ≠ L ∧ h₀.get? q.1 = none) : ∀ q ∈ p :: l, h.get? q.1 = some q.2 ∧ q.1 ≠ L ∧ h₀.get? q.1 = none := by
  intro q hq
  rcases List.mem_cons.mp hq with rfl | hq
  · exact a
  · exact b q hq
theorem pair_3_7 : PairOk 3 7 2 4 where
  six := by decide
  six6 := by decide
  v3 := by decide
  v7 := by decide
  vg := by decide
  g64 := by decide
  hk := by decide
  k0 := by decide
  k7 := by decide
  hr := by decide
  r1 := by decide
  rg := by decide
  hP := prime_7
  hone := by decide
  hb1 := by decide
  hs1 := by decide +kernel
  hs2 := by decide +kernel
  hs3 := by decide +kernel
  hs4 := by decide
  hs5 := by decide
theorem pair_3_13 : PairOk 3 13 4 3 where
  six := by decide
  six6 := by decide
  v3 := by decide
  v7 := by decide
  vg := by decide
  g64 := by decide
  hk := by decide
  k0 := by decide
  k7 := by decide
  hr := by decide
  r1 := by decide
  rg := by decide
  hP := prime_13
  hone := by decide
  hb1 := by decide
  hs1 := by decide +kernel
  hs2 := by decide +kernel
  hs3 := by decide +kernel
  hs4 := by decide
  hs5 := by decide
theorem pair_5_11 : PairOk 5 11 2 4 where
  six := by decide
  six6 := by decide
  v3 := by decide
  v7 := by decide
  vg := by decide
  g64 := by decide
  hk := by decide
  k0 := by decide
  k7 := by decide
  hr := by decide
  r1 := by decide
  rg := by decide
  hP := prime_11
  hone := by decide
  hb1 := by decide
  hs1 := by decide +kernel
  hs2 := by decide +kernel
  hs3 := by decide +kernel
  hs4 := by decide
  hs5 := by decide
theorem pair_5_31 : PairOk 5 31 6 2 where
  six := by decide
  six6 := by decide
  v3 := by decide
  v7 := by decide
  vg := by decide
  g64 := by decide
  hk := by decide
  k0 := by decide
  k7 := by decide
  hr := by decide
  r1 := by decide
  rg := by decide
  hP := prime_31
  hone := by decide
  hb1 := by decide
  hs1 := by decide +kernel
  hs2 := by decide +kernel
  hs3 := by decide +kernel
  hs4 := by decide
  hs5 := by decide
theorem pair_7_29 : PairOk 7 29 4 16 where
  six := by decide
  six6 := by decide
  v3 := by decide
  v7 := by decide
  vg := by decide
  g64 := by decide
  hk := by decide
  k0 := by decide
  k7 := by decide
  hr := by decide
  r1 := by decide
  rg := by decide
  hP := prime_29
  hone := by decide
  hb1 := by decide
  hs1 := by decide +kernel
  hs2 := by decide +kernel
  hs3 := by decide +kernel
  hs4 := by decide
  hs5 := by decide
theorem pair_7_43 : PairOk 7 43 6 21 where
  six := by decide
  six6 := by decide
  v3 := by decide
  v7 := by decide
  vg := by decide
  g64 := by decide
  hk := by decide
  k0 := by decide
  k7 := by decide
  hr := by decide
  r1 := by decide
  rg := by decide
  hP := prime_43
  hone := by decide
  hb1 := by decide
  hs1 := by decide +kernel
  hs2 := by decide +kernel
  hs3 := by decide +kernel
  hs4 := by decide
  hs5 := by decide
abbrev cells (L : Addr) (o1 o2 o3 o4 o5 o6 o7 o8 t : Obj) : List (Addr × Obj) := [(L + 1 + 1 + 1 + 1 + 1 + 1 + 1 + 1, o8), (L + 1 + 1 + 1 + 1 + 1 + 1 + 1, o7), (L + 1 + 1 + 1 + 1 + 1 + 1, o6), (L + 1 + 1 + 1 + 1 + 1, o5), (L + 1 + 1 + 1 + 1, o4), (L + 1 + 1 + 1, o3), (L + 1 + 1, o2), (L + 1, o1), (170, t)]
structure Tail1 (prog : Program) (w : World) (A : Around) (rest : List Stmt) (env : Env) (Q : Flow → Shared → Prop) (E : Value → Shared → Prop) (h₀ : Heap) (L : Addr) (s : Shared) : Prop where
  go : ∀ (h' : Heap) (tk : Nat) (m' : Str → Option Value) (v g k r wd : Int) (tv tg tw : Tok) (o1 o2 o3 o4 o5 o6 o7 o8 : Obj) (x4 x5 x6 x7 x8 : Option Value),
      PairOk v g k r → 6 ≤ wd → wd ≤ 9 → o1.data = .cell (some (.int wd tw)) → o2.data = .cell (some (.int v tv)) → o3.data = .cell (some (.int g tg)) → o4.data = .cell x4 → o5.data = .cell x5 → o6.data = .cell x6 → o7.data = .cell x7 → o8.data = .cell x8 → Fr h₀ L h' m' → News h₀ L h' (cells L o1 o2 o3 o4 o5 o6 o7 o8 (tabObj #[])) →
      wpAny (model prog w) A (execs rest env) Q E { s with heap := h', toks := tk }
theorem cut1 {prog : Program} {w : World} {A : Around} {env : Env} {Q : Flow → Shared → Prop} {E : Value → Shared → Prop} {rest : List Stmt} {s : Shared} {h₀ : Heap} {L : Addr} {S0 S1 S2 : Stmt} {m : Str → Option Value} (_F : Fr h₀ L s.heap m)
    (main : Tail1 prog w A rest env Q E h₀ L s → wpAny (model prog w) A (execs (S0 :: S1 :: S2 :: rest) env) Q E s)
    (tail : ∀ (h' : Heap) (tk : Nat) (m' : Str → Option Value) (v g k r wd : Int) (tv tg tw : Tok) (o1 o2 o3 o4 o5 o6 o7 o8 : Obj) (x4 x5 x6 x7 x8 : Option Value),
      PairOk v g k r → 6 ≤ wd → wd ≤ 9 → o1.data = .cell (some (.int wd tw)) → o2.data = .cell (some (.int v tv)) → o3.data = .cell (some (.int g tg)) → o4.data = .cell x4 → o5.data = .cell x5 → o6.data = .cell x6 → o7.data = .cell x7 → o8.data = .cell x8 → Fr h₀ L h' m' → News h₀ L h' (cells L o1 o2 o3 o4 o5 o6 o7 o8 (tabObj #[])) →
      wpAny (model prog w) A (execs rest env) Q E { s with heap := h', toks := tk }) :
    wpAny (model prog w) A (execs (S0 :: S1 :: S2 :: rest) env) Q E s := main ⟨tail⟩
theorem use1 {prog : Program} {w : World} {A : Around} {env : Env} {Q : Flow → Shared → Prop} {E : Value → Shared → Prop} {rest : List Stmt} {s : Shared} {h₀ : Heap} {L : Addr} {σ : Shared} {news : List (Addr × Obj)} {h' : Heap} {tk : Nat} {m' : Str → Option Value} {v g k r wd : Int} {tv tg tw : Tok} {o1 o2 o3 o4 o5 o6 o7 o8 : Obj} {x4 x5 x6 x7 x8 : Option Value}
    (T : Tail1 prog w A rest env Q E h₀ L s) (hσ : σ = { s with heap := h', toks := tk }) (F : Fr h₀ L h' m') (N : News h₀ L h' news) (hs : ∀ q ∈ cells L o1 o2 o3 o4 o5 o6 o7 o8 (tabObj #[]), q ∈ news)
    (d1 : o1.data = .cell (some (.int wd tw))) (d2 : o2.data = .cell (some (.int v tv))) (d3 : o3.data = .cell (some (.int g tg))) (d4 : o4.data = .cell x4) (d5 : o5.data = .cell x5) (d6 : o6.data = .cell x6) (d7 : o7.data = .cell x7) (d8 : o8.data = .cell x8)  (p0 : PairOk v g k r) (w6 : 6 ≤ wd) (w9 : wd ≤ 9) :
    wpAny (model prog w) A (execs rest env) Q E σ :=
  hσ ▸ T.go _ _ _ _ _ _ _ _ _ _ _ _ _ _ _ _ _ _ _ _ _ _ _ _ p0 w6 w9 d1 d2 d3 d4 d5 d6 d7 d8 F (fun p hp => N p (hs p hp))
structure Tail2 (prog : Program) (w : World) (A : Around) (rest : List Stmt) (env : Env) (Q : Flow → Shared → Prop) (E : Value → Shared → Prop) (h₀ : Heap) (L : Addr) (s : Shared) : Prop where
  go : ∀ (h' : Heap) (tk : Nat) (m' : Str → Option Value) (v g k r wd : Int) (tv tg tw : Tok) (o1 o2 o3 o4 o5 o6 o7 o8 : Obj) (x4 x6 x7 x8 : Option Value) (D : Addr) (ys : List Value) (ps : Array Value),
      PairOk v g k r → 6 ≤ wd → wd ≤ 9 → o1.data = .cell (some (.int wd tw)) → o2.data = .cell (some (.int v tv)) → o3.data = .cell (some (.int g tg)) → o4.data = .cell x4 → o5.data = .cell (some (.ref D)) → o6.data = .cell x6 → o7.data = .cell x7 → o8.data = .cell x8 → IntsAre ys (List.map (fun k' => pwn k' r g) (rangeKs 0 (v - 0).toNat)) → (∀ q ∈ (cells L o1 o2 o3 o4 o5 o6 o7 o8 (tabObj ps)), q.1 ≠ D) → Fr h₀ L h' m' → News h₀ L h' ((D, LCg.lst ys) :: cells L o1 o2 o3 o4 o5 o6 o7 o8 (tabObj ps)) →
      wpAny (model prog w) A (execs rest env) Q E { s with heap := h', toks := tk }
theorem cut2 {prog : Program} {w : World} {A : Around} {env : Env} {Q : Flow → Shared → Prop} {E : Value → Shared → Prop} {rest : List Stmt} {s : Shared} {h₀ : Heap} {L : Addr} {S0 S1 S2 S3 : Stmt} {m : Str → Option Value} (_F : Fr h₀ L s.heap m)
    (main : Tail2 prog w A rest env Q E h₀ L s → wpAny (model prog w) A (execs (S0 :: S1 :: S2 :: S3 :: rest) env) Q E s)
    (tail : ∀ (h' : Heap) (tk : Nat) (m' : Str → Option Value) (v g k r wd : Int) (tv tg tw : Tok) (o1 o2 o3 o4 o5 o6 o7 o8 : Obj) (x4 x6 x7 x8 : Option Value) (D : Addr) (ys : List Value) (ps : Array Value),
      PairOk v g k r → 6 ≤ wd → wd ≤ 9 → o1.data = .cell (some (.int wd tw)) → o2.data = .cell (some (.int v tv)) → o3.data = .cell (some (.int g tg)) → o4.data = .cell x4 → o5.data = .cell (some (.ref D)) → o6.data = .cell x6 → o7.data = .cell x7 → o8.data = .cell x8 → IntsAre ys (List.map (fun k' => pwn k' r g) (rangeKs 0 (v - 0).toNat)) → (∀ q ∈ (cells L o1 o2 o3 o4 o5 o6 o7 o8 (tabObj ps)), q.1 ≠ D) → Fr h₀ L h' m' → News h₀ L h' ((D, LCg.lst ys) :: cells L o1 o2 o3 o4 o5 o6 o7 o8 (tabObj ps)) →
      wpAny (model prog w) A (execs rest env) Q E { s with heap := h', toks := tk }) :
    wpAny (model prog w) A (execs (S0 :: S1 :: S2 :: S3 :: rest) env) Q E s := main ⟨tail⟩
theorem use2 {prog : Program} {w : World} {A : Around} {env : Env} {Q : Flow → Shared → Prop} {E : Value → Shared → Prop} {rest : List Stmt} {s : Shared} {h₀ : Heap} {L : Addr} {σ : Shared} {news : List (Addr × Obj)} {h' : Heap} {tk : Nat} {m' : Str → Option Value} {v g k r wd : Int} {tv tg tw : Tok} {o1 o2 o3 o4 o5 o6 o7 o8 : Obj} {x4 x6 x7 x8 : Option Value} {D : Addr} {ys : List Value} {ps : Array Value}
    (T : Tail2 prog w A rest env Q E h₀ L s) (hσ : σ = { s with heap := h', toks := tk }) (F : Fr h₀ L h' m') (N : News h₀ L h' news) (hs : ∀ q ∈ cells L o1 o2 o3 o4 o5 o6 o7 o8 (tabObj ps), q ∈ news)
    (d1 : o1.data = .cell (some (.int wd tw))) (d2 : o2.data = .cell (some (.int v tv))) (d3 : o3.data = .cell (some (.int g tg))) (d4 : o4.data = .cell x4) (d5 : o5.data = .cell (some (.ref D))) (d6 : o6.data = .cell x6) (d7 : o7.data = .cell x7) (d8 : o8.data = .cell x8) (hD : (D, LCg.lst ys) ∈ news) (p0 : PairOk v g k r) (w6 : 6 ≤ wd) (w9 : wd ≤ 9) (hi : IntsAre ys (List.map (fun k' => pwn k' r g) (rangeKs 0 (v - 0).toNat))) (hne : ∀ q ∈ (cells L o1 o2 o3 o4 o5 o6 o7 o8 (tabObj ps)), q.1 ≠ D) :
    wpAny (model prog w) A (execs rest env) Q E σ :=
  hσ ▸ T.go _ _ _ _ _ _ _ _ _ _ _ _ _ _ _ _ _ _ _ _ _ _ _ _ _ _ p0 w6 w9 d1 d2 d3 d4 d5 d6 d7 d8 hi hne F (newsTwo (N _ hD) fun p hp => N p (hs p hp))
structure Tail3 (prog : Program) (w : World) (A : Around) (rest : List Stmt) (env : Env) (Q : Flow → Shared → Prop) (E : Value → Shared → Prop) (h₀ : Heap) (L : Addr) (s : Shared) : Prop where
  go : ∀ (h' : Heap) (tk : Nat) (m' : Str → Option Value) (v g k r wd : Int) (tv tg tw : Tok) (o1 o2 o3 o4 o5 o6 o7 o8 : Obj) (x4 x7 x8 : Option Value) (D : Addr) (ys : List Value) (S : Addr) (zs : Array Value) (n : Nat) (ps : Array Value),
      PairOk v g k r → 6 ≤ wd → wd ≤ 9 → o1.data = .cell (some (.int wd tw)) → o2.data = .cell (some (.int v tv)) → o3.data = .cell (some (.int g tg)) → o4.data = .cell x4 → o5.data = .cell (some (.ref D)) → o6.data = .cell (some (.ref S)) → o7.data = .cell x7 → o8.data = .cell x8 → IntsAre ys (List.map (fun k' => pwn k' r g) (rangeKs 0 (v - 0).toNat)) → IntsAre zs.toList (sgL v) → (∀ q ∈ (cells L o1 o2 o3 o4 o5 o6 o7 o8 (tabObj ps)), q.1 ≠ D) → (∀ q ∈ ((D, LCg.lst ys) :: cells L o1 o2 o3 o4 o5 o6 o7 o8 (tabObj ps)), q.1 ≠ S) → Fr h₀ L h' m' → News h₀ L h' ((S, listOf zs n) :: (D, LCg.lst ys) :: cells L o1 o2 o3 o4 o5 o6 o7 o8 (tabObj ps)) →
      wpAny (model prog w) A (execs rest env) Q E { s with heap := h', toks := tk }
theorem cut3 {prog : Program} {w : World} {A : Around} {env : Env} {Q : Flow → Shared → Prop} {E : Value → Shared → Prop} {rest : List Stmt} {s : Shared} {h₀ : Heap} {L : Addr} {S0 S1 : Stmt} {m : Str → Option Value} (_F : Fr h₀ L s.heap m)
    (main : Tail3 prog w A rest env Q E h₀ L s → wpAny (model prog w) A (execs (S0 :: S1 :: rest) env) Q E s)
    (tail : ∀ (h' : Heap) (tk : Nat) (m' : Str → Option Value) (v g k r wd : Int) (tv tg tw : Tok) (o1 o2 o3 o4 o5 o6 o7 o8 : Obj) (x4 x7 x8 : Option Value) (D : Addr) (ys : List Value) (S : Addr) (zs : Array Value) (n : Nat) (ps : Array Value),
      PairOk v g k r → 6 ≤ wd → wd ≤ 9 → o1.data = .cell (some (.int wd tw)) → o2.data = .cell (some (.int v tv)) → o3.data = .cell (some (.int g tg)) → o4.data = .cell x4 → o5.data = .cell (some (.ref D)) → o6.data = .cell (some (.ref S)) → o7.data = .cell x7 → o8.data = .cell x8 → IntsAre ys (List.map (fun k' => pwn k' r g) (rangeKs 0 (v - 0).toNat)) → IntsAre zs.toList (sgL v) → (∀ q ∈ (cells L o1 o2 o3 o4 o5 o6 o7 o8 (tabObj ps)), q.1 ≠ D) → (∀ q ∈ ((D, LCg.lst ys) :: cells L o1 o2 o3 o4 o5 o6 o7 o8 (tabObj ps)), q.1 ≠ S) → Fr h₀ L h' m' → News h₀ L h' ((S, listOf zs n) :: (D, LCg.lst ys) :: cells L o1 o2 o3 o4 o5 o6 o7 o8 (tabObj ps)) →
      wpAny (model prog w) A (execs rest env) Q E { s with heap := h', toks := tk }) :
    wpAny (model prog w) A (execs (S0 :: S1 :: rest) env) Q E s := main ⟨tail⟩
theorem use3 {prog : Program} {w : World} {A : Around} {env : Env} {Q : Flow → Shared → Prop} {E : Value → Shared → Prop} {rest : List Stmt} {s : Shared} {h₀ : Heap} {L : Addr} {σ : Shared} {news : List (Addr × Obj)} {h' : Heap} {tk : Nat} {m' : Str → Option Value} {v g k r wd : Int} {tv tg tw : Tok} {o1 o2 o3 o4 o5 o6 o7 o8 : Obj} {x4 x7 x8 : Option Value} {D : Addr} {ys : List Value} {S : Addr} {zs : Array Value} {n : Nat} {ps : Array Value}
    (T : Tail3 prog w A rest env Q E h₀ L s) (hσ : σ = { s with heap := h', toks := tk }) (F : Fr h₀ L h' m') (N : News h₀ L h' news) (hs : ∀ q ∈ cells L o1 o2 o3 o4 o5 o6 o7 o8 (tabObj ps), q ∈ news)
    (d1 : o1.data = .cell (some (.int wd tw))) (d2 : o2.data = .cell (some (.int v tv))) (d3 : o3.data = .cell (some (.int g tg))) (d4 : o4.data = .cell x4) (d5 : o5.data = .cell (some (.ref D))) (d6 : o6.data = .cell (some (.ref S))) (d7 : o7.data = .cell x7) (d8 : o8.data = .cell x8) (hD : (D, LCg.lst ys) ∈ news) (hS : (S, listOf zs n) ∈ news) (p0 : PairOk v g k r) (w6 : 6 ≤ wd) (w9 : wd ≤ 9) (hi : IntsAre ys (List.map (fun k' => pwn k' r g) (rangeKs 0 (v - 0).toNat))) (hz : IntsAre zs.toList (sgL v)) (hne : ∀ q ∈ (cells L o1 o2 o3 o4 o5 o6 o7 o8 (tabObj ps)), q.1 ≠ D) (hnS : ∀ q ∈ ((D, LCg.lst ys) :: cells L o1 o2 o3 o4 o5 o6 o7 o8 (tabObj ps)), q.1 ≠ S) :
    wpAny (model prog w) A (execs rest env) Q E σ :=
  hσ ▸ T.go _ _ _ _ _ _ _ _ _ _ _ _ _ _ _ _ _ _ _ _ _ _ _ _ _ _ _ _ p0 w6 w9 d1 d2 d3 d4 d5 d6 d7 d8 hi hz hne hnS F (newsTwo (N _ hS) (newsTwo (N _ hD) fun p hp => N p (hs p hp)))
/-- the six pairs of primes: one goes on -/
theorem it_six {prog : Program} {w : World} {A : Around} {E : Value → Shared → Prop} {s : Shared} {u : Tok} {Q : Value → Shared → Prop} {h₀ : Heap} {L D a0 a1 a2 a3 a4 a5 : Addr} {news cs : List (Addr × Obj)} {value slice : PySem.Expr} {n : Nat} {k : Int} {t0 t1 t2 t3 t4 t5 u0 u1 u2 u3 u4 u5 : Tok} {o1 o2 o3 o4 o5 o6 o7 o8 o : Obj}
    (N : News h₀ L s.heap news) (_hL : cs = cells L o1 o2 o3 o4 o5 o6 o7 o8 o) (hm : (D, listOf #[.ref a0, .ref a1, .ref a2, .ref a3, .ref a4, .ref a5] n) ∈ news)
    (m0 : (a0, { cls := .type "tuple", data := .seq #[.int 3 t0, .int 7 u0] }) ∈ news)
    (m1 : (a1, { cls := .type "tuple", data := .seq #[.int 3 t1, .int 13 u1] }) ∈ news)
    (m2 : (a2, { cls := .type "tuple", data := .seq #[.int 5 t2, .int 11 u2] }) ∈ news)
    (m3 : (a3, { cls := .type "tuple", data := .seq #[.int 5 t3, .int 31 u3] }) ∈ news)
    (m4 : (a4, { cls := .type "tuple", data := .seq #[.int 7 t4, .int 29 u4] }) ∈ news)
    (m5 : (a5, { cls := .type "tuple", data := .seq #[.int 7 t5, .int 43 u5] }) ∈ news)
    (h0 : 0 ≤ k) (h6 : k < 6) (hc : ∀ q ∈ cs, q ∈ news)
    (n0 : ∀ q ∈ cs, q.1 ≠ a0) (n1 : ∀ q ∈ cs, q.1 ≠ a1) (n2 : ∀ q ∈ cs, q.1 ≠ a2) (n3 : ∀ q ∈ cs, q.1 ≠ a3) (n4 : ∀ q ∈ cs, q.1 ≠ a4) (n5 : ∀ q ∈ cs, q.1 ≠ a5)
    (h : ∀ (v g k r : Int) (a : Addr) (t t' : Tok), PairOk v g k r → (∀ q ∈ cs, q.1 ≠ a) → News h₀ L s.heap ((a, { cls := .type "tuple", data := .seq #[.int v t, .int g t'] }) :: cs) → Q (.ref a) s)
    (hs : subscripted slice false (.ref D) (.int k u) = operate [.ref D, .int k u] (getItem (.ref D) (.int k u))) :
    wpAny (model prog w) A (subscriptTail value slice (.ref D) (.int k u)) Q E s := by
  have hk : k = 0 ∨ k = 1 ∨ k = 2 ∨ k = 3 ∨ k = 4 ∨ k = 5 := (st h0).imp_right fun h => (st h).imp_right fun h => (st h).imp_right fun h => (st h).imp_right fun h => (st h).imp_right fun h => Int.le_antisymm (Int.le_of_lt_add_one h6) h
  have key : ∀ (v g k r : Int) (a : Addr) (t t' : Tok), PairOk v g k r → (a, { cls := .type "tuple", data := .seq #[.int v t, .int g t'] }) ∈ news → (∀ q ∈ cs, q.1 ≠ a) → Q (.ref a) s :=
    fun v g k r a t t' p hm hn => h v g k r a t t' p hn (newsTwo (N _ hm) fun q hq => N q (hc q hq))
  rcases hk with rfl | rfl | rfl | rfl | rfl | rfl
  · exact it_sub N hm (by decide) (by decide) rfl (key _ _ _ _ _ _ _ pair_3_7 m0 n0) hs
  · exact it_sub N hm (by decide) (by decide) rfl (key _ _ _ _ _ _ _ pair_3_13 m1 n1) hs
  · exact it_sub N hm (by decide) (by decide) rfl (key _ _ _ _ _ _ _ pair_5_11 m2 n2) hs
  · exact it_sub N hm (by decide) (by decide) rfl (key _ _ _ _ _ _ _ pair_5_31 m3 n3) hs
  · exact it_sub N hm (by decide) (by decide) rfl (key _ _ _ _ _ _ _ pair_7_29 m4 n4) hs
  · exact it_sub N hm (by decide) (by decide) rfl (key _ _ _ _ _ _ _ pair_7_43 m5 n5) hs

end
local macro_rules | `(tactic| wtm_at "m_ub") => `(tactic| first | with_reducible assumption | decide | exact le_of_range (by assumption) (by decide) | wtm_at "om")
local macro_rules | `(tactic| wtm_at "m_lb") => `(tactic| first | with_reducible assumption | decide | wtm_at "om")
local macro_rules | `(tactic| wtm_at "m_prime") => `(tactic| first | assumption | exact prime_7 | exact prime_13 | exact prime_11 | exact prime_31 | exact prime_29 | exact prime_43)
local macro_rules | `(tactic| wtm_at "m_pw") => `(tactic| first | assumption | exact rfl)
local macro_rules | `(tactic| wtm_at "m_jac") => `(tactic| first | (refine (?_ : _ = (1 : Int)); decide) | (refine (?_ : _ = (-1 : Int)); decide) | exact rfl)
local macro_rules | `(tactic| wtm_at "con") => `(tactic| ((with_reducible show Con _ 133 _ _ _); exact jac_all _ _ _ _ _ _ _ _ _ _ _ _ (by wtm_at "m_mem") (by wtm_at "m_mem") (by wtm_at "om") (by wtm_at "om") (by first | decide | assumption) (by first | decide | wtm_at "om") (by first | decide | wtm_at "om") (by wtm_at "m_jac")))
local macro_rules | `(tactic| wtm_at "m_om") => `(tactic| first | with_reducible assumption | decide | wtm_at "om")
local macro_rules | `(tactic| wtm_at "conD") => `(tactic| ((with_reducible show ConD _ 259 _ _ _); exact lpf_c _ _ _ _ _ _ _ _ _ _ _ (by wtm_at "m_mem") (by k_updF) (by wtm_at "m_om") (by wtm_at "m_om") (by wtm_at "m_om") (by wtm_at "m_om") (by wtm_at "om") (by wtm_at "om") (by wtm_at "m_lb") (by wtm_at "m_ub") (by wtm_at "m_prime") (by wtm_at "m_pw")))
local macro_rules | `(tactic| walk_at "call ref cons nil") => `(tactic| (k_here; (with_reducible show wpAny _ _ (call (Value.ref 259) _) _ _ _); wtm_at "cuseD"; intro t9 tq9 c9 oc9 vs9 h9 tk9 F9 N9 d19 d29 l9; (try dsimp only at N9)))
local macro_rules | `(tactic| wtm_at "conD") => `(tactic| ((with_reducible show ConD _ 259 _ _ _); exact lph_c _ _ _ _ _ _ _ _ _ _ _ _ _ _ (by wtm_at "m_mem") (by wtm_at "m_mem") (by assumption) (by assumption) (by wtm_at "m_om") (by wtm_at "m_om") (by wtm_at "m_om") (by wtm_at "m_om") (by wtm_at "om") (by wtm_at "om") (by wtm_at "m_lb") (by wtm_at "m_ub") (by wtm_at "m_prime") (by wtm_at "m_pw")))
local macro_rules | `(tactic| wtm_at "m_eqi") => `(tactic| refine eq_int_c (c := false) (by decide +kernel) ?_)
local macro_rules | `(tactic| wtm_at "m_eqi") => `(tactic| refine eq_int_c (c := true) (by decide +kernel) ?_)
local macro_rules | `(tactic| walk_at "compareOp Eq int int") => `(tactic| (k_here; k_dflt (wtm_at "m_eqi")))
local macro_rules | `(tactic| wtm_at "m_ned") => `(tactic| first | exact List.forall_mem_nil _ | (refine List.forall_mem_cons.mpr ⟨?mA, ?mB⟩; (case mA => (dsimp only; first | k_ne | (refine Ne.symm ?_; k_ne))); (case mB => wtm_at "m_ned")))
local macro_rules | `(tactic| wtm_at "m_pair") => `(tactic| first | with_reducible assumption | exact pair_3_7 | exact pair_3_13 | exact pair_5_11 | exact pair_5_31 | exact pair_7_29 | exact pair_7_43)
local macro_rules | `(tactic| wtm_at "m_sg") => `(tactic| (with_unfolding_all first | assumption | exact IntsAre.cons _ _ (IntsAre.cons _ _ (IntsAre.cons _ _ IntsAre.nil)) | exact IntsAre.cons _ _ (IntsAre.cons _ _ (IntsAre.cons _ _ (IntsAre.cons _ _ (IntsAre.cons _ _ IntsAre.nil)))) | exact IntsAre.cons _ _ (IntsAre.cons _ _ (IntsAre.cons _ _ (IntsAre.cons _ _ (IntsAre.cons _ _ (IntsAre.cons _ _ (IntsAre.cons _ _ IntsAre.nil))))))))
local macro_rules | `(tactic| walk_at "execs cons Assign cons") => `(tactic| (k_here; (with_reducible rename Tail1 _ _ _ _ _ _ _ _ _ _ => T9); k_dflt (exact use1 T9 (by exact rfl) (by k_asm) (by k_asm) (by wtm_at "m_sub") (by wtm_at "ra") (by wtm_at "ra") (by wtm_at "ra") (by wtm_at "ra") (by wtm_at "ra") (by wtm_at "ra") (by wtm_at "ra") (by wtm_at "ra") (by wtm_at "m_pair") (by wtm_at "m_om") (by wtm_at "m_om") )))
local macro_rules | `(tactic| walk_at "execs cons Assign cons") => `(tactic| (k_here; (with_reducible rename Tail2 _ _ _ _ _ _ _ _ _ _ => T9); k_dflt (exact use2 T9 (by exact rfl) (by k_asm) (by k_asm) (by wtm_at "m_sub") (by wtm_at "ra") (by wtm_at "ra") (by wtm_at "ra") (by wtm_at "ra") (by wtm_at "ra") (by wtm_at "ra") (by wtm_at "ra") (by wtm_at "ra") (by wtm_at "m_mem") (by wtm_at "m_pair") (by wtm_at "m_om") (by wtm_at "m_om") (by wtm_at "ra") (by wtm_at "m_ned"))))
local macro_rules | `(tactic| walk_at "execs cons Assign cons") => `(tactic| (k_here; (with_reducible rename Tail3 _ _ _ _ _ _ _ _ _ _ => T9); k_dflt (exact use3 T9 (by exact rfl) (by k_asm) (by k_asm) (by wtm_at "m_sub") (by wtm_at "ra") (by wtm_at "ra") (by wtm_at "ra") (by wtm_at "ra") (by wtm_at "ra") (by wtm_at "ra") (by wtm_at "ra") (by wtm_at "ra") (by wtm_at "m_mem") (by wtm_at "m_mem") (by wtm_at "m_pair") (by wtm_at "m_om") (by wtm_at "m_om") (by wtm_at "ra") (by wtm_at "m_sg") (by wtm_at "m_ned") (by wtm_at "m_ned"))))
local macro_rules | `(tactic| wtm_at "m_six") => `(tactic| k_dflt (refine it_six (by k_asm) (by exact rfl) (by wtm_at "m_mem") (by wtm_at "m_mem") (by wtm_at "m_mem") (by wtm_at "m_mem") (by wtm_at "m_mem") (by wtm_at "m_mem") (by wtm_at "m_mem") (by wtm_at "om") (by wtm_at "om") (by wtm_at "m_sub") (by wtm_at "m_ned") (by wtm_at "m_ned") (by wtm_at "m_ned") (by wtm_at "m_ned") (by wtm_at "m_ned") (by wtm_at "m_ned") ?_ (by with_unfolding_all rfl)))
local macro_rules | `(tactic| walk_at "subscriptTail List cons Call ref int") => `(tactic| (k_here; (with_reducible show wpAny _ _ (subscriptTail _ _ (Value.ref _) (Value.int _ _)) _ _ _); wtm_at "m_six"; (dsimp only [cells]); intros))
section
/-- one sum of the law -/
def sumB (v g r b : Int) : Int := (List.map (fun k' => (sgL v).getD k'.toNat 0 * (List.map (fun k' => pwn k' r g) (rangeKs 0 (v - 0).toNat)).getD (k' * b % v).toNat 0) (rangeKs 1 (v - 1).toNat)).sum % g
def sumsB (v g r : Int) (i : Nat) : List Int := (List.range i).map fun (b : Nat) => sumB v g r (0 + (b : Int))
theorem sumsB_succ (v g r : Int) (i : Nat) : sumsB v g r (i + 1) = sumsB v g r i ++ [sumB v g r (0 + (i : Int))] := by
  unfold sumsB
  rw [List.range_succ, List.map_append]
  rfl
theorem sumsB_len (v g r : Int) (i : Nat) : (sumsB v g r i).length = i := by
  unfold sumsB
  rw [List.length_map, List.length_range]
structure PairOk2 (v g r : Int) : Prop where
  g0 : 0 < g
  v0 : 0 < v
  fA : 1 + (((v - 1).toNat : Nat) : Int) ≤ ((sgL v).length : Int)
  fB : (sgL v).length < 1000
  fC : ∀ x ∈ sgL v, -1000 < x ∧ x < 1000
  fD : v ≤ (((List.map (fun k' => pwn k' r g) (rangeKs 0 (v - 0).toNat))).length : Int)
  fE : ((List.map (fun k' => pwn k' r g) (rangeKs 0 (v - 0).toNat))).length < 1000
  fF : ∀ x ∈ (List.map (fun k' => pwn k' r g) (rangeKs 0 (v - 0).toNat)), -1000 < x ∧ x < 1000
  fH : 1 + (((v - 1).toNat : Nat) : Int) ≤ 1000000
  fJ : 0 + (((v - 0).toNat : Nat) : Int) ≤ ((sgL v).length : Int)
  fK : (1 : Int) < ((sumsB v g r v.toNat).length : Int)
  fL : (sumsB v g r v.toNat).length < 1000
  fM : ∀ x ∈ sumsB v g r v.toNat, -1000 < x ∧ x < 1000
  fP : sumsB v g r v.toNat = List.map (fun k' => (sgL v).getD k'.toNat 0 * (sumsB v g r v.toNat).getD 1 0 % g) (rangeKs 0 (v - 0).toNat)
  fQ : ((sumsB v g r v.toNat).getD (Int.toNat 1) 0 * (sumsB v g r v.toNat).getD (Int.toNat 1) 0 % g == (sgL v).getD (v - 1).toNat 0 * v % g) = true
  fN : 0 ≤ v - 1
  fO : v - 1 < ((sgL v).length : Int)
theorem pair2 {v g r : Int} (h : (v = 3 ∧ g = 7 ∧ r = 4) ∨ (v = 3 ∧ g = 13 ∧ r = 3) ∨ (v = 5 ∧ g = 11 ∧ r = 4) ∨ (v = 5 ∧ g = 31 ∧ r = 2) ∨ (v = 7 ∧ g = 29 ∧ r = 16) ∨ (v = 7 ∧ g = 43 ∧ r = 21)) : PairOk2 v g r := by
  rcases h with ⟨rfl, rfl, rfl⟩ | ⟨rfl, rfl, rfl⟩ | ⟨rfl, rfl, rfl⟩ | ⟨rfl, rfl, rfl⟩ | ⟨rfl, rfl, rfl⟩ | ⟨rfl, rfl, rfl⟩
  all_goals (constructor <;> decide +kernel)
structure JB (L D S M : Addr) (ys : List Value) (zs : Array Value) (n : Nat) (o1 o2 o3 o4 o5 o6 o7 : Obj) (ps : Array Value) (v g r : Int) (i : Nat) (news : List (Addr × Obj)) : Prop where
  ex : ∃ (us : Array Value) (c : Nat) (o8 : Obj) (x8 : Option Value), (M, listOf us c) ∈ news ∧ (S, listOf zs n) ∈ news ∧ (D, LCg.lst ys) ∈ news ∧ (∀ q ∈ (cells L o1 o2 o3 o4 o5 o6 o7 o8 (tabObj ps)), q ∈ news) ∧ o8.data = .cell x8 ∧ IntsAre us.toList (sumsB v g r i)
theorem JB.step {L D S M : Addr} {ys : List Value} {zs : Array Value} {n : Nat} {o1 o2 o3 o4 o5 o6 o7 : Obj} {ps : Array Value} {v g r y : Int} {t : Tok} {i : Nat} {news : List (Addr × Obj)} {us : Array Value} {c : Nat} {o8 : Obj} {x8 : Option Value} (hi : IntsAre us.toList (sumsB v g r i)) (hM : (M, listOf (us.push (.int y t)) c) ∈ news) (e : y = sumB v g r (0 + (i : Int))) (hS : (S, listOf zs n) ∈ news) (hD : (D, LCg.lst ys) ∈ news) (hs : ∀ q ∈ (cells L o1 o2 o3 o4 o5 o6 o7 o8 (tabObj ps)), q ∈ news) (h8 : o8.data = .cell x8) : JB L D S M ys zs n o1 o2 o3 o4 o5 o6 o7 ps v g r (i + 1) news := by
  subst e
  refine ⟨_, c, o8, x8, hM, hS, hD, hs, h8, ?_⟩
  rw [Array.toList_push, sumsB_succ]
  exact hi.append (IntsAre.cons _ _ IntsAre.nil)
section
variable {prog : Program} {w : World} {A : Around} {E : Value → Shared → Prop} {s : Shared} {env : Env} {h₀ : Heap} {x : Str} {px : Pos} {body : List Stmt} {Q : Flow → Shared → Prop}
theorem loopB {R : Addr} {t₀ u₀ v₀ : Tok} {m₀ : Str → Option Value} {news : List (Addr × Obj)} {D S M : Addr} {ys : List Value} {zs : Array Value} {n c₀ : Nat} {o1 o2 o3 o4 o5 o6 o7 o8 : Obj} {x8 : Option Value} {ps : Array Value} {v g r : Int} {L : Addr}
    {p1 p2 p3 p4 p5 p6 p7 p8 : Obj} {ps' : Array Value} (_hL : ∀ q ∈ (cells L p1 p2 p3 p4 p5 p6 p7 p8 (tabObj ps')), q.1 ≠ D)
    (hh : A.handled = none) (hr : IsRange s.heap R 0 v 1 t₀ u₀ v₀) (F : Fr h₀ env.locals s.heap m₀) (N : News h₀ env.locals s.heap news) (hv : v = 3 ∨ v = 5 ∨ v = 7) (_h2 : PairOk2 v g r)
    (hs : ∀ q ∈ (cells L o1 o2 o3 o4 o5 o6 o7 o8 (tabObj ps)), q ∈ news) (h8 : o8.data = .cell x8) (_h6 : o6.data = .cell (some (.ref S))) (_h7 : o7.data = .cell (some (.ref M))) (hM : (M, listOf #[] c₀) ∈ news) (hS : (S, listOf zs n) ∈ news) (hD : (D, LCg.lst ys) ∈ news)
    (turn : ∀ (I : Addr) (i : Nat) t h tk m₁ o us c o8 x8, (∀ q ∈ ((M, listOf #[] c₀) :: (S, listOf zs n) :: (D, LCg.lst ys) :: cells L o1 o2 o3 o4 o5 o6 o7 o8 (tabObj ps)), q.1 ≠ I) → (i : Int) < v → us.size = i → i < 8 → IntsAre us.toList (sumsB v g r i) → o8.data = .cell x8 → o.cls = .type "range_iterator" → Fr h₀ env.locals h m₁ →
      News h₀ env.locals h ((I, o) :: (M, listOf us c) :: (S, listOf zs n) :: (D, LCg.lst ys) :: cells L o1 o2 o3 o4 o5 o6 o7 o8 (tabObj ps)) →
      wpAny (model prog w) A (assign (.Name x px) env (.int (0 + (i : Int)) t)) (fun _ s₂ => wpAny (model prog w) A (execs body env) (UnrPostW h₀ env.locals { s with heap := h, toks := tk } [(I, o)] (fun _ n' => SubL [] n' ∧ JB L D S M ys zs n o1 o2 o3 o4 o5 o6 o7 ps v g r (i + 1) n') Q) E s₂) E { s with heap := h, toks := tk })
    (done : ∀ h tk m' us c o8 x8, IntsAre us.toList (sumsB v g r v.toNat) → o8.data = .cell x8 → Fr h₀ env.locals h m' →
      News h₀ env.locals h ((M, listOf us c) :: (S, listOf zs n) :: (D, LCg.lst ys) :: cells L o1 o2 o3 o4 o5 o6 o7 o8 (tabObj ps)) → Q .next { s with heap := h, toks := tk }) :
    wpAny (model prog w) A (pyIter (.ref R)) (fun it s₂ => TurnsAt prog w A h₀ env (.Name x px) body Q E it s₂) E s := by
  have hsmall : Builtin.Range.small 0 v 1 = true := by rcases hv with rfl | rfl | rfl <;> decide
  have hn : Builtin.Range.rangeSize 0 v 1 = (v.toNat : Int) := by rcases hv with rfl | rfl | rfl <;> decide
  refine iter_rangeJ (fun i _ news => JB L D S M ys zs n o1 o2 o3 o4 o5 o6 o7 ps v g r i news) hh hr hsmall hn F N ⟨#[], c₀, o8, x8, hM, hS, hD, hs, h8, IntsAre.nil⟩ ?_ ?_
  · intro I i t h tk m₁ news₁ o hI hi hJ ho F₁ N₁
    obtain ⟨us, c, o8', x8', hM', hS', hD', hs', h8', hi'⟩ := hJ
    have hsz : us.size = i := by
      have := hi'.length
      rw [sumsB_len] at this
      exact this
    refine turn I i t h tk m₁ o us c o8' x8' (fun q hq => ?_) (by omega) hsz (by omega) hi' h8' ho F₁ ?_
    · have key : ∃ o', (q.1, o') ∈ news := by
        rcases List.mem_cons.mp hq with rfl | hq
        · exact ⟨_, hM⟩
        rcases List.mem_cons.mp hq with rfl | hq
        · exact ⟨_, hS⟩
        rcases List.mem_cons.mp hq with rfl | hq
        · exact ⟨_, hD⟩
        rcases List.mem_cons.mp hq with rfl | hq
        · exact ⟨_, hs _ (.head _)⟩
        · exact ⟨q.2, hs _ (.tail _ hq)⟩
      obtain ⟨o', ho'⟩ := key
      exact Nat.ne_of_lt (hI (q.1, o') ho')
    · refine newsTwo (N₁ _ (.head _)) (newsTwo (N₁ _ (.tail _ hM')) (newsTwo (N₁ _ (.tail _ hS')) (newsTwo (N₁ _ (.tail _ hD')) fun q hq => N₁ _ (.tail _ (hs' q hq)))))
  · intro h tk m' news' hJ F₁ N₁
    obtain ⟨us, c, o8', x8', hM', hS', hD', hs', h8', hi'⟩ := hJ
    exact done h tk m' us c o8' x8' hi' h8' F₁ (newsTwo (N₁ _ hM') (newsTwo (N₁ _ hS') (newsTwo (N₁ _ hD') fun q hq => N₁ _ (hs' q hq))))
end

end
local macro_rules | `(tactic| wtm_at "lB") => `(tactic| k_dflt (refine loopB (by wtm_at "ra") (by exact rfl) (by assumption) (by k_asm) (by k_asm) (by assumption) (by assumption) (by wtm_at "m_sub") (by assumption) (by wtm_at "ra") (by wtm_at "ra") (by wtm_at "m_mem") (by wtm_at "m_mem") (by wtm_at "m_mem") ?_ ?_))
local macro_rules | `(tactic| walk_at "pyIter ref") => `(tactic| (k_here; (with_reducible show wpAny _ _ (pyIter (Value.ref _)) (fun it s₂ => TurnsAt _ _ _ _ _ _ _ _ _ it s₂) _ _); wtm_at "lB" <;> (dsimp only [cells]) <;> intros))
local macro_rules | `(tactic| wtm_at "m_eqi") => `(tactic| refine eq_int_c (c := true) (by first | wtm_at "ra" | decide +kernel | assumption) ?_)
local macro_rules | `(tactic| walk_at "JB") => `(tactic| k_dflt (exact JB.step (by assumption) (by wtm_at "m_mem") (by exact rfl) (by wtm_at "m_mem") (by wtm_at "m_mem") (by wtm_at "m_sub") (by assumption)))
section
theorem post_true (ns : List Int) : PySem.Challenge.rw_xw0112_01.row.claim.post [ofPy (PyData.list (List.map PyData.int ns))] (WData.bool true) [ofPy (PyData.list (List.map PyData.int ns))] = true := by
  wrow_post

end
local macro_rules | `(tactic| wrow_close) => `(tactic| (w_end; (with_reducible show GoodW _ _ _ _ _ (.ok (.ret (.bool true))) _); refine goodW_bool (by assumption) (by assumption) (raisesW_false ?_) (post_true _); wrow_none_raised))
section
def sgP (v : Int) (i : Nat) : List Int := 0 :: (List.range i).map fun (b : Nat) => jacT (1 + (b : Int)) v
theorem sgP_succ (v : Int) (i : Nat) : sgP v (i + 1) = sgP v i ++ [jacT (1 + (i : Int)) v] := by
  unfold sgP
  rw [List.range_succ, List.map_append]
  rfl
theorem sgP_len (v : Int) (i : Nat) : (sgP v i).length = i + 1 := by
  unfold sgP
  rw [List.length_cons, List.length_map, List.length_range]
theorem sgP_all {v : Int} (hv : v = 3 ∨ v = 5 ∨ v = 7) : sgP v (v - 1).toNat = sgL v := by rcases hv with rfl | rfl | rfl <;> decide
theorem mpF {P : Prop} {b : Bool} (f : P → b = false) (h : P) : b = false := f h
theorem sq_facts {v : Int} (hv : v = 3 ∨ v = 5 ∨ v = 7) {i : Nat} (hi : 1 + (i : Int) < v) : (((List.map (fun k' => k' * k' % v) (rangeKs 1 (v - 1).toNat)).any fun x => x == 1 + (i : Int)) = true → (jacT (1 + (i : Int)) v != 1) = false) ∧ (((List.map (fun k' => k' * k' % v) (rangeKs 1 (v - 1).toNat)).any fun x => x == 1 + (i : Int)) = false → (jacT (1 + (i : Int)) v != -1) = false) ∧ (((List.map (fun k' => k' * k' % v) (rangeKs 1 (v - 1).toNat)).any fun x => x == 1 + (i : Int)) = false → (jacT (1 + (i : Int)) v != 0 - 1) = false) := by
  rcases hv with rfl | rfl | rfl
  · have h : i = 0 ∨ i = 1 := by omega
    rcases h with rfl | rfl <;> decide
  · have h : i = 0 ∨ i = 1 ∨ i = 2 ∨ i = 3 := by omega
    rcases h with rfl | rfl | rfl | rfl <;> decide
  · have h : i = 0 ∨ i = 1 ∨ i = 2 ∨ i = 3 ∨ i = 4 ∨ i = 5 := by omega
    rcases h with rfl | rfl | rfl | rfl | rfl | rfl <;> decide
structure JA (L D S Z : Addr) (ys qs : List Value) (o1 o2 o3 o4 o5 o6 o7 o8 : Obj) (ps : Array Value) (v : Int) (sq : Str) (i : Nat) (m : Str → Option Value) (news : List (Addr × Obj)) : Prop where
  ex : m sq = some (.ref Z) ∧ ∃ (us : Array Value) (c : Nat), (S, listOf us c) ∈ news ∧ (Z, LCg.lst qs) ∈ news ∧ (D, LCg.lst ys) ∈ news ∧ (∀ q ∈ (cells L o1 o2 o3 o4 o5 o6 o7 o8 (tabObj ps)), q ∈ news) ∧ IntsAre us.toList (sgP v i)
theorem JA.step {L D S Z : Addr} {ys qs : List Value} {o1 o2 o3 o4 o5 o6 o7 o8 : Obj} {ps : Array Value} {v y : Int} {t : Tok} {sq : Str} {i : Nat} {m : Str → Option Value} {news : List (Addr × Obj)} {us : Array Value} {c : Nat} (hi : IntsAre us.toList (sgP v i)) (hm : m sq = some (.ref Z)) (hS : (S, listOf (us.push (.int y t)) c) ∈ news) (e : y = jacT (1 + (i : Int)) v) (hZ : (Z, LCg.lst qs) ∈ news) (hD : (D, LCg.lst ys) ∈ news) (hs : ∀ q ∈ (cells L o1 o2 o3 o4 o5 o6 o7 o8 (tabObj ps)), q ∈ news) : JA L D S Z ys qs o1 o2 o3 o4 o5 o6 o7 o8 ps v sq (i + 1) m news := by
  subst e
  refine ⟨hm, _, c, hS, hZ, hD, hs, ?_⟩
  rw [Array.toList_push, sgP_succ]
  exact hi.append (IntsAre.cons _ _ IntsAre.nil)
section
variable {prog : Program} {w : World} {A : Around} {E : Value → Shared → Prop} {s : Shared} {env : Env} {h₀ : Heap} {x : Str} {px : Pos} {body : List Stmt} {Q : Flow → Shared → Prop}
theorem it_last {u : Tok} {Q : Value → Shared → Prop} {L D : Addr} {news : List (Addr × Obj)} {value slice : PySem.Expr} {us : Array Value} {n : Nat} {k : Int} {y : Value} (N : News h₀ L s.heap news) (hm : (D, listOf (us.push y) n) ∈ news) (hk : k = (us.size : Int)) (hl : us.size < 1000) (h : Q y s)
    (hs : subscripted slice false (.ref D) (.int k u) = operate [.ref D, .int k u] (getItem (.ref D) (.int k u))) :
    wpAny (model prog w) A (subscriptTail value slice (.ref D) (.int k u)) Q E s := by
  subst hk
  refine item_litK (vs := (us.push y).toList) (PySem.IsL.isList (n := n) (N _ hm).1) (by omega) (by omega) ?_ h hs
  rw [Int.toNat_natCast, Array.toList_push, List.getElem?_append_right (by simp)]
  simp
theorem loopA {R : Addr} {t₀ u₀ v₀ : Tok} {m₀ : Str → Option Value} {news : List (Addr × Obj)} {D S Z : Addr} {ys qs : List Value} {c₀ : Nat} {tz : Tok} {o1 o2 o3 o4 o5 o6 o7 o8 : Obj} {ps : Array Value} {v : Int} {L : Addr}
    {p1 p2 p3 p4 p5 p6 p7 p8 : Obj} {ps' : Array Value} (sq : Str) (_hL : ∀ q ∈ (cells L p1 p2 p3 p4 p5 p6 p7 p8 (tabObj ps')), q.1 ≠ D)
    (hh : A.handled = none) (hr : IsRange s.heap R 1 v 1 t₀ u₀ v₀) (F : Fr h₀ env.locals s.heap m₀) (hq : m₀ sq = some (.ref Z)) (N : News h₀ env.locals s.heap news) (hv : v = 3 ∨ v = 5 ∨ v = 7)
    (hs : ∀ q ∈ (cells L o1 o2 o3 o4 o5 o6 o7 o8 (tabObj ps)), q ∈ news) (_h6 : o6.data = .cell (some (.ref S))) (hS : (S, listOf #[.int 0 tz] c₀) ∈ news) (hZ : (Z, LCg.lst qs) ∈ news) (hD : (D, LCg.lst ys) ∈ news)
    (turn : ∀ (I : Addr) (i : Nat) t h tk (m₁ : Str → Option Value) o us c, (∀ q ∈ ((S, listOf #[.int 0 tz] c₀) :: (Z, LCg.lst qs) :: (D, LCg.lst ys) :: cells L o1 o2 o3 o4 o5 o6 o7 o8 (tabObj ps)), q.1 ≠ I) → 1 + (i : Int) < v → us.size = i + 1 → i < 8 → IntsAre us.toList (sgP v i) → (((List.map (fun k' => k' * k' % v) (rangeKs 1 (v - 1).toNat)).any fun x => x == 1 + (i : Int)) = true → (jacT (1 + (i : Int)) v != 1) = false) → (((List.map (fun k' => k' * k' % v) (rangeKs 1 (v - 1).toNat)).any fun x => x == 1 + (i : Int)) = false → (jacT (1 + (i : Int)) v != -1) = false) → (((List.map (fun k' => k' * k' % v) (rangeKs 1 (v - 1).toNat)).any fun x => x == 1 + (i : Int)) = false → (jacT (1 + (i : Int)) v != 0 - 1) = false) → o.cls = .type "range_iterator" → Fr h₀ env.locals h (fun y => if y = sq then some (.ref Z) else m₁ y) →
      News h₀ env.locals h ((I, o) :: (S, listOf us c) :: (Z, LCg.lst qs) :: (D, LCg.lst ys) :: cells L o1 o2 o3 o4 o5 o6 o7 o8 (tabObj ps)) →
      wpAny (model prog w) A (assign (.Name x px) env (.int (1 + (i : Int)) t)) (fun _ s₂ => wpAny (model prog w) A (execs body env) (UnrPostW h₀ env.locals { s with heap := h, toks := tk } [(I, o)] (fun m' n' => SubL [] n' ∧ JA L D S Z ys qs o1 o2 o3 o4 o5 o6 o7 o8 ps v sq (i + 1) m' n') Q) E s₂) E { s with heap := h, toks := tk })
    (done : ∀ h tk m' us c, IntsAre us.toList (sgL v) → Fr h₀ env.locals h m' →
      News h₀ env.locals h ((S, listOf us c) :: (D, LCg.lst ys) :: cells L o1 o2 o3 o4 o5 o6 o7 o8 (tabObj ps)) → Q .next { s with heap := h, toks := tk }) :
    wpAny (model prog w) A (pyIter (.ref R)) (fun it s₂ => TurnsAt prog w A h₀ env (.Name x px) body Q E it s₂) E s := by
  have hsmall : Builtin.Range.small 1 v 1 = true := by rcases hv with rfl | rfl | rfl <;> decide
  have hn : Builtin.Range.rangeSize 1 v 1 = ((v - 1).toNat : Int) := by rcases hv with rfl | rfl | rfl <;> decide
  refine iter_rangeJ (JA L D S Z ys qs o1 o2 o3 o4 o5 o6 o7 o8 ps v sq) hh hr hsmall hn F N ⟨hq, #[.int 0 tz], c₀, hS, hZ, hD, hs, IntsAre.cons _ _ IntsAre.nil⟩ ?_ ?_
  · intro I i t h tk m₁ news₁ o hI hi hJ ho F₁ N₁
    obtain ⟨hm, us, c, hS', hZ', hD', hs', hi'⟩ := hJ
    have hsz : us.size = i + 1 := by
      have := hi'.length
      rw [sgP_len] at this
      exact this
    have e : m₁ = fun y => if y = sq then some (.ref Z) else m₁ y := by
      funext y
      by_cases h : y = sq
      · rw [if_pos h, h, hm]
      · rw [if_neg h]
    rw [e] at F₁
    have hlt : 1 + (i : Int) < v := by omega
    refine turn I i t h tk m₁ o us c (fun q hq => ?_) hlt hsz (by omega) hi' (sq_facts hv hlt).1 (sq_facts hv hlt).2.1 (sq_facts hv hlt).2.2 ho F₁ ?_
    · have key : ∃ o', (q.1, o') ∈ news := by
        rcases List.mem_cons.mp hq with rfl | hq
        · exact ⟨_, hS⟩
        rcases List.mem_cons.mp hq with rfl | hq
        · exact ⟨_, hZ⟩
        rcases List.mem_cons.mp hq with rfl | hq
        · exact ⟨_, hD⟩
        · exact ⟨q.2, hs _ hq⟩
      obtain ⟨o', ho'⟩ := key
      exact Nat.ne_of_lt (hI (q.1, o') ho')
    · refine newsTwo (N₁ _ (.head _)) (newsTwo (N₁ _ (.tail _ hS')) (newsTwo (N₁ _ (.tail _ hZ')) (newsTwo (N₁ _ (.tail _ hD')) fun q hq => N₁ _ (.tail _ (hs' q hq)))))
  · intro h tk m' news' hJ F₁ N₁
    obtain ⟨hm, us, c, hS', hZ', hD', hs', hi'⟩ := hJ
    rw [sgP_all hv] at hi'
    exact done h tk m' us c hi' F₁ (newsTwo (N₁ _ hS') (newsTwo (N₁ _ hD') fun q hq => N₁ _ (hs' q hq)))
end

end
local macro_rules | `(tactic| wtm_at "lA") => `(tactic| k_dflt (refine loopA (Str.ofString "squares") (by wtm_at "ra") (by exact rfl) (by assumption) (by k_asm) (by exact rfl) (by k_asm) (by assumption) (by wtm_at "m_sub") (by wtm_at "ra") (by wtm_at "m_mem") (by wtm_at "m_mem") (by wtm_at "m_mem") ?_ ?_))
local macro_rules | `(tactic| walk_at "pyIter ref") => `(tactic| (k_here; (with_reducible show wpAny _ _ (pyIter (Value.ref _)) (fun it s₂ => TurnsAt _ _ _ _ _ _ _ _ _ it s₂) _ _); wtm_at "lA" <;> (dsimp only [cells]) <;> intros))
local macro_rules | `(tactic| walk_at "ite") => `(tactic| refine ite_isFalse (mpF (by wtm_at "ra") (by wtm_at "ra")) ?_)
local macro_rules | `(tactic| walk_at "JA") => `(tactic| k_dflt (exact JA.step (by assumption) (by exact rfl) (by wtm_at "m_mem") (by exact rfl) (by wtm_at "m_mem") (by wtm_at "m_mem") (by wtm_at "m_sub")))
local macro_rules | `(tactic| wtm_at "m_it") => `(tactic| k_dflt (refine it_last (by k_asm) (by wtm_at "m_memp") (by wtm_at "om") (by wtm_at "om") ?_ (by with_unfolding_all rfl)))
local macro_rules | `(tactic| wtm_at "m_memp") => `(tactic| with_reducible first | exact List.mem_cons_self | (refine List.mem_cons_of_mem _ ?_; wtm_at "m_memp") | fail "m_memp")
section
theorem sub_mk {T R : Prop} {h : T → R} (x : T) : ((⟨T, h⟩ : { T : Prop // T → R })).1 := x
theorem cwx : PySem.Challenge.rw_xw0112_01.Holds := Mine.hd.2 (by
  delta Mine.hd
  refine sub_mk ?_
  k_go0
  all_goals try k_fold
  refine' cut1 ?cF ?cmain ?ctail
  case cF => k_asm
  case cmain =>
    intro hT
    k_steps
  case ctail =>
    dsimp only [cells]
    intro h' tk m' v g k r wd tv tg tw o1 o2 o3 o4 o5 o6 o7 o8 x4 x5 x6 x7 x8 p0 w6 w9 d1 d2 d3 d4 d5 d6 d7 d8 F' N'
    refine' cut2 ?cF ?cmain ?ctail
    case cF => k_asm
    case cmain =>
      intro hT
      have hp' := p0
      obtain ⟨_, _, v3, v7, vg, g64, hk, k0, k7, hr, r1, rg, hP, hone, hb1, hs1, hs2, hs3, hs4, hs5⟩ := p0
      k_steps
    case ctail =>
      clear F' N' d1 d2 d3 d4 d5 d6 d7 d8 p0 o1 o2 o3 o4 o5 o6 o7 o8
      dsimp only [cells]
      intro h' tk m' v g k r wd tv tg tw o1 o2 o3 o4 o5 o6 o7 o8 x4 x6 x7 x8 D ys ps p0 w6 w9 d1 d2 d3 d4 d5 d6 d7 d8 hi hne F' N'
      refine' cut3 ?cF ?cmain ?ctail
      case cF => k_asm
      case cmain =>
        intro hT
        have hv := p0.six
        have v3 := p0.v3
        have v7 := p0.v7
        obtain ⟨g0, v0, fA, fB, fC, fD, fE, fF, fH, _⟩ := pair2 p0.six6
        k_steps
      case ctail =>
        clear F' N' d1 d2 d3 d4 d5 d6 d7 d8 p0 hi hne ys D o1 o2 o3 o4 o5 o6 o7 o8
        dsimp only [cells]
        intro h' tk m' v g k r wd tv tg tw o1 o2 o3 o4 o5 o6 o7 o8 x4 x7 x8 D ys S zs n ps p0 w6 w9 d1 d2 d3 d4 d5 d6 d7 d8 hi hz hne hnS F' N'
        have h6 := p0.six6
        have hv := p0.six
        obtain ⟨g0, v0, fA, fB, fC, fD, fE, fF, fH, fJ, fK, fL, fM, fP, fQ, fN, fO⟩ := pair2 h6
        have h2 := pair2 h6
        clear p0
        k_steps)

end

end Mine
theorem PySem.Challenge.cw_xw0112_01_holds : PySem.Challenge.rw_xw0112_01.Holds :=
  Mine.cwx
