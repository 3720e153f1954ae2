import PyProof.Rows.All
import Wide.All
import OpenK.AllK
import Wide.FinOn
import Lean
import PySem.Challenge.RW_nu0218_01
open PySem PySem.W PyProof.Rows
set_option Elab.async false
set_option maxRecDepth 100000
set_option maxHeartbeats 0
set_option rowWalk.seconds 0
namespace Mine
open_top hd for PySem.Challenge.rw_nu0218_01
section
local macro_rules | `(tactic| k_all) => `(tactic| with_reducible assumption)
local macro_rules | `(tactic| units_room) => `(tactic| ((have hcL9 := cLine_is); (try simp only [units_under_make, units_in1, units_deeper, Around.mark_units, units_caller]); (try dsimp only [ktrTop]); omega))

theorem pow_any {prog : Program} {w : World} {A : Around} {E : Value → Shared → Prop} {s : Shared} {a n : Int} {t u : Tok} {Q : Value → Shared → Prop} (hn : 0 ≤ n) (hn2 : n ≤ 1000000) (ha : a.natAbs < 2 ^ 64)
    (h : ∀ z : Int, Q (.int z s.toks) { s with toks := s.toks + 1 }) : wpAny (model prog w) A (binaryOp .Pow (.int a t) (.int n u)) Q E s := pow_int_small hn hn2 ha (h _)
theorem pw1 {c i : Int} (h0 : 0 ≤ i) (h1 : i ≤ 1000) : (Int.fmod c 2147483587 + 20947 * i + 3571).natAbs < 2 ^ 64 := by
  have a := Int.fmod_nonneg_of_pos c (b := 2147483587) (by decide)
  have b := Int.fmod_lt_of_pos c (b := 2147483587) (by decide)
  omega
theorem pw2 {c i : Int} (h0 : 0 ≤ i) (h1 : i ≤ 1000) : (Int.fmod c 2147483629 * (2 * i + 7207) + 20947 * i * i + 31).natAbs < 2 ^ 64 := by
  have a := Int.fmod_nonneg_of_pos c (b := 2147483629) (by decide)
  have b := Int.fmod_lt_of_pos c (b := 2147483629) (by decide)
  have c1 : 0 ≤ Int.fmod c 2147483629 * (2 * i + 7207) := Int.mul_nonneg a (by omega)
  have c2 : Int.fmod c 2147483629 * (2 * i + 7207) ≤ 2147483629 * 9207 := Int.mul_le_mul (by omega) (by omega) (by omega) (by omega)
  have d1 : 0 ≤ 20947 * i * i := Int.mul_nonneg (by omega) h0
  have d2 : 20947 * i * i ≤ 20947000 * 1000 := Int.mul_le_mul (by omega) h1 h0 (by omega)
  omega
local macro_rules | `(tactic| walk_at "binaryOp Pow int int") => `(tactic| ((with_reducible refine pow_any ?kb1 ?kb2 ?kb3 ?_); (case kb1 => decide); (case kb2 => decide); (case kb3 => first | exact pw1 (by assumption) (by assumption) | exact pw2 (by assumption) (by assumption)); intro z9))

theorem gr (c many : Int) (hm : 1 ≤ many) (h : 10 ^ Int.toNat 18 ≤ if c < 0 then -c else c) : 0 ≤ (2 * ((if c < 0 then -c else c) - 10 ^ Int.toNat 18) + if decide (c < 0) = true then 1 else 0).fdiv many := by
  refine Int.fdiv_nonneg ?_ (by omega)
  by_cases hc : c < 0 <;> simp only [hc, if_true, if_false, decide_true, decide_false, Bool.false_eq_true] at h ⊢ <;> omega

abbrev penObj (ca : Addr) (i : Int) (ti : Tok) (r : Int) (tr : Tok) : Obj := W.listOf #[Value.ref ca, Value.int i ti, Value.int r tr] 0

theorem draw_spec {w : World} {p : Program} {loose : List Str} {mean : ExcName → Option Value} {mg mb : Str → Option Value}
    (many : Int) (tm : Tok) (pa ca : Addr) (i r : Int) (ti tr : Tok) (ys : List Value) (ns : List Int) (rest : List (Addr × Obj))
    (dp un : Nat) (gd : Option (List Code)) (cn : Str) (cs : Scope) (a : Addr) (ccd : Value) (cl : List (Str × Addr)) (outer : List Env) (A₀ : Around) (base h₀ : Heap) (L : Addr) (m : Str → Option Value) (s : Shared) (Q E : Value → Shared → Prop)
    (B : Below A₀ base outer h₀) (F : Fr h₀ L s.heap m) (X : (hd.heap_39 w.params).In h₀)
    (N : News h₀ L s.heap ((pa, penObj ca i ti r tr) :: (ca, LCg.lst ys) :: rest))
    (T : Top p loose mean mg mb h₀) (hk : cs.kind = .function)
    (hrest : ∀ q ∈ rest, q.1 ≠ pa) (hca : @LT.lt Nat _ ca pa) (hI : IntsAre ys ns) (hlen : ns.length ≤ 40) (h0 : 0 ≤ i) (h1 : i ≤ 1000) (h2 : 0 ≤ r) (h3 : 1 ≤ many) (h4 : many ≤ 1000)
    (hd : dp + 1 < recursionLimit) (hu : un + 1000 < cLine)
    (hret : ∀ (d : Int) (t : Tok) (i' : Int) (ti' : Tok) (r' : Int) (tr' : Tok) (h' : Heap) (tk' : Nat), 0 ≤ d → d < many → i ≤ i' → i' ≤ i + 1 → 0 ≤ r' → Fr h₀ L h' m →
      News h₀ L h' ((pa, penObj ca i' ti' r' tr') :: (ca, LCg.lst ys) :: rest) → Q (.int d t) { s with heap := h', toks := tk' }) :
    wpAny (model PySem.Challenge.rw_nu0218_01.row.prog w) (ktrTop dp un gd cn cs L a ccd cl outer) (call (.ref 196) [.ref pa, .int many tm]) Q E s := by
  w_top off; revert X; k_fill; intro X; refine wpAny_call ?_
  k_dflt cell_enter
  k_steps
  all_goals first
    | (exfalso; exact absurd (List.eq_nil_of_length_eq_zero (by omega)) (of_decide_eq_false (p := ns = []) (by assumption)))
    | (refine hret _ _ _ _ _ _ _ _ ?_ ?_ ?_ ?_ ?_ (by assumption) (by first | assumption | (refine cb_drop (by assumption) ?_; kcj_all)) <;> first | assumption | omega | exact Int.fmod_nonneg_of_pos _ (by omega) | exact Int.fmod_lt_of_pos _ (by omega) | exact Int.fdiv_nonneg h2 (by omega) | exact gr _ _ h3 (by assumption))
end
section
def Off (d : Addr) : List (Addr × Obj) → Prop
  | [] => True
  | [p] => @LT.lt Nat _ p.1 d
  | p :: q :: r => @LT.lt Nat _ p.1 d ∧ Off d (q :: r)
def Apart (d : Addr) : List (Addr × Obj) → Prop
  | [] => True
  | [p] => @Ne Nat p.1 d
  | p :: q :: r => @Ne Nat p.1 d ∧ Apart d (q :: r)
theorem Off.ne {d : Addr} : ∀ {l : List (Addr × Obj)}, Off d l → ∀ q ∈ l, q.1 ≠ d
  | [], _, _, h => by cases h
  | [p], h, q, hq => by cases List.mem_singleton.mp hq; exact Nat.ne_of_lt h
  | p :: x :: r, h, q, hq => by
    rcases List.mem_cons.mp hq with rfl | hq
    · exact Nat.ne_of_lt h.1
    · exact Off.ne h.2 q hq
section
variable {w : World} {p : Program} {loose : List Str} {mean : ExcName → Option Value} {mg mb : Str → Option Value}
    {many K : Int} {tm : Tok} {pa ca : Addr} {i r : Int} {ti tr : Tok} {ys : List Value} {ns : List Int} {rest : List (Addr × Obj)}
    {dp un : Nat} {gd : Option (List Code)} {cn : Str} {cs : Scope} {a : Addr} {ccd : Value} {cl : List (Str × Addr)} {outer : List Env} {A₀ : Around} {base h₀ : Heap} {L : Addr} {m : Str → Option Value} {s : Shared} {Q E : Value → Shared → Prop}
theorem draw_one {x : Addr × Obj}
    (B : Below A₀ base outer h₀) (F : Fr h₀ L s.heap m) (X : (hd.heap_39 w.params).In h₀)
    (N : News h₀ L s.heap (x :: (pa, penObj ca i ti r tr) :: (ca, LCg.lst ys) :: rest))
    (T : Top p loose mean mg mb h₀) (hk : cs.kind = .function)
    (hx : @LT.lt Nat _ pa x.1) (hrest : Off pa rest) (hca : @LT.lt Nat _ ca pa) (hI : IntsAre ys ns) (hlen : ns.length ≤ 40) (h0 : 0 ≤ i) (h1 : i ≤ K) (hK : K ≤ 1000) (h2 : 0 ≤ r) (h3 : 1 ≤ many) (h4 : many ≤ 1000)
    (hd : dp + 1 < recursionLimit) (hu : un + 1000 < cLine)
    (hret : ∀ (d : Int) (t : Tok) (i' : Int) (ti' : Tok) (r' : Int) (tr' : Tok) (h' : Heap) (tk' : Nat), 0 ≤ d → d < many → 0 ≤ i' → i' ≤ K + 1 → 0 ≤ r' → Fr h₀ L h' m →
      News h₀ L h' (x :: (pa, penObj ca i' ti' r' tr') :: (ca, LCg.lst ys) :: rest) → Q (.int d t) { s with heap := h', toks := tk' }) :
    wpAny (model PySem.Challenge.rw_nu0218_01.row.prog w) (ktrTop dp un gd cn cs L a ccd cl outer) (call (.ref 196) [.ref pa, .int many tm]) Q E s := by
  have sw : ∀ {b c : Addr × Obj} {h : Heap} {l : List (Addr × Obj)}, News h₀ L h (b :: c :: x :: l) → News h₀ L h (x :: b :: c :: l) := fun N p hp => N p (by
    rcases List.mem_cons.mp hp with rfl | hp
    · exact .tail _ (.tail _ (.head _))
    · rcases List.mem_cons.mp hp with rfl | hp
      · exact .head _
      · rcases List.mem_cons.mp hp with rfl | hp
        · exact .tail _ (.head _)
        · exact .tail _ (.tail _ (.tail _ hp)))
  have ws : ∀ {b c : Addr × Obj} {h : Heap} {l : List (Addr × Obj)}, News h₀ L h (x :: b :: c :: l) → News h₀ L h (b :: c :: x :: l) := fun N p hp => N p (by
    rcases List.mem_cons.mp hp with rfl | hp
    · exact .tail _ (.head _)
    · rcases List.mem_cons.mp hp with rfl | hp
      · exact .tail _ (.tail _ (.head _))
      · rcases List.mem_cons.mp hp with rfl | hp
        · exact .head _
        · exact .tail _ (.tail _ (.tail _ hp)))
  refine draw_spec many tm pa ca i r ti tr ys ns (x :: rest) dp un gd cn cs a ccd cl outer A₀ base h₀ L m s Q E B F X (ws N) T hk (fun q hq => ?_) hca hI hlen h0 (Int.le_trans h1 hK) h2 h3 h4 hd hu fun d t i' ti' r' tr' h' tk' e1 e2 e3 e4 e5 F' N' => hret d t i' ti' r' tr' h' tk' e1 e2 (Int.le_trans h0 e3) (Int.le_trans e4 (Int.add_le_add_right h1 1)) e5 F' (sw N')
  rcases List.mem_cons.mp hq with rfl | hq
  · exact Nat.ne_of_gt hx
  · exact hrest.ne q hq
theorem draw_first {x : Addr × Obj}
    (B : Below A₀ base outer h₀) (F : Fr h₀ L s.heap m) (X : (hd.heap_39 w.params).In h₀)
    (N : News h₀ L s.heap ((pa, penObj ca i ti r tr) :: (ca, LCg.lst ys) :: x :: rest))
    (T : Top p loose mean mg mb h₀) (hk : cs.kind = .function)
    (hoff : Off pa ((ca, LCg.lst ys) :: x :: rest)) (hr : Off pa (x :: rest) → Off pa rest) (hap : Apart ca (x :: rest)) (hr2 : Apart ca (x :: rest) → Apart ca rest) (hI : IntsAre ys ns) (hlen : ns.length ≤ 40) (h0 : 0 ≤ i) (h1 : i ≤ K) (hK : K ≤ 1000) (h2 : 0 ≤ r) (h3 : 1 ≤ many) (h4 : many ≤ 1000)
    (hd : dp + 1 < recursionLimit) (hu : un + 1000 < cLine)
    (hret : ns.length ≤ 40 → Off pa rest → Apart ca rest → @LT.lt Nat _ ca pa → ∀ (d : Int) (t : Tok) (i' : Int) (ti' : Tok) (r' : Int) (tr' : Tok) (h' : Heap) (tk' : Nat), 0 ≤ d → d < many → 0 ≤ i' → i' ≤ K + 1 → 0 ≤ r' → Fr h₀ L h' m →
      News h₀ L h' ((pa, penObj ca i' ti' r' tr') :: (ca, LCg.lst ys) :: rest) → Q (.int d t) { s with heap := h', toks := tk' }) :
    wpAny (model PySem.Challenge.rw_nu0218_01.row.prog w) (ktrTop dp un gd cn cs L a ccd cl outer) (call (.ref 196) [.ref pa, .int many tm]) Q E s := by
  have o := hr hoff.2
  exact draw_spec many tm pa ca i r ti tr ys ns rest dp un gd cn cs a ccd cl outer A₀ base h₀ L m s Q E B F X (fun p hp => N p (by
    rcases List.mem_cons.mp hp with rfl | hp
    · exact .head _
    · rcases List.mem_cons.mp hp with rfl | hp
      · exact .tail _ (.head _)
      · exact .tail _ (.tail _ (.tail _ hp)))) T hk o.ne hoff.1 hI hlen h0 (Int.le_trans h1 hK) h2 h3 h4 hd hu fun d t i' ti' r' tr' h' tk' e1 e2 e3 e4 e5 F' N' => hret hlen o (hr2 hap) hoff.1 d t i' ti' r' tr' h' tk' e1 e2 (Int.le_trans h0 e3) (Int.le_trans e4 (Int.add_le_add_right h1 1)) e5 F' N'
end
end
section
open PySem.Calls PySem.Spec
theorem wp_id {M : Model} {α : Type} {t : Sem α} {A : Around} {Q : α → Shared → Prop} {E : Value → Shared → Prop} {s : Shared} (h : wpAny M A t Q E s) : wpAny M A t Q E s := h

def TupAt (ax : Addr) (its : Array Value) (news : List (Addr × Obj)) : Prop := ∃ o, (ax, o) ∈ news ∧ o.cls = .type "tuple" ∧ ∃ n, o.data = .seq its n
theorem TupAt.tup {h₀ h : Heap} {L ax : Addr} {its : Array Value} {news : List (Addr × Obj)} (x : TupAt ax its news) (N : News h₀ L h news) : h.IsTuple ax its := by
  obtain ⟨o, hm, r⟩ := x
  exact ⟨o, (N _ hm).1, r⟩
section
variable {prog : Program} {w : World} {A : Around} {E : Value → Shared → Prop} {s : Shared} {h₀ : Heap} {L : Addr} {m : Str → Option Value} {env : Env}
theorem tup_st {ax I : Addr} {its : Array Value} : ∀ i (h h' : Heap) (o : Obj) (nw : List (Addr × Obj)), (h.IsTupleIter I ax i ∧ h.IsTuple ax its) → h.get? I = some o → h'.get? I = some o → (∀ b o, h₀.get? b = some o → h'.get? b = some o) → News h₀ L h' nw → TupAt ax its nw → (h'.IsTupleIter I ax i ∧ h'.IsTuple ax its) :=
  fun _ _ _ o _ st e e' _ N S => ⟨by obtain ⟨o', q, r⟩ := st.1; rw [e] at q; cases q; exact ⟨o, e', r⟩, S.tup N⟩

def CompTup (prog : Program) (w : World) (A : Around) (h₀ : Heap) (L : Addr) (m : Str → Option Value) (env : Env) (elt : Expr) (x : Str) (scope : Scope) (cl : List (Str × Addr)) (Fin : Shared → List Value → List (Addr × Obj) → Prop) (xv : Value) (s₁ : Shared) : Prop :=
  ∃ ax its news, xv = .ref ax ∧ A.handled = none ∧ Fr h₀ L s₁.heap m ∧ News h₀ L s₁.heap news ∧ TupAt ax its news ∧ its.size ≤ sizeLine ∧
    ∀ s₂ : Shared, (∃ h, s₂ = { s₁ with heap := h }) → LCg.CompRest prog w A h₀ L m env elt x scope cl s₂ (TupAt ax its) (fun i v => its[i]? = some v) (Fin s₂) its.size 0 [] news
theorem CompTup.ledger {elt : Expr} {x : Str} {scope : Scope} {cl : List (Str × Addr)} {Fin : Shared → List Value → List (Addr × Obj) → Prop} {ax : Addr} {its : Array Value} {k : Nat} {dd : Option Addr} {sl : Array (Option Value)} {news : List (Addr × Obj)} {s₁ : Shared}
    (hh : A.handled = none) (F : Fr h₀ L s₁.heap m) (N : News h₀ L s₁.heap news) (hm : (ax, ({ cls := .type "tuple", dict := dd, data := .seq its k, slots := sl } : Obj)) ∈ news) (hsz : its.size ≤ sizeLine)
    (h : ∀ g, LCg.CompRest prog w A h₀ L m env elt x scope cl { s₁ with heap := g } (TupAt ax its) (fun i v => its[i]? = some v) (Fin { s₁ with heap := g }) its.size 0 [] news) :
    CompTup prog w A h₀ L m env elt x scope cl Fin (.ref ax) s₁ := ⟨ax, its, news, rfl, hh, F, N, ⟨_, hm, rfl, _, rfl⟩, hsz, fun _ ⟨g, e⟩ => e ▸ h g⟩

theorem ListComp_V {elt iter : Expr} {x : Str} {px : Pos} {scope : Scope} {cl : List (Str × Addr)} {pos : Pos} {Q : Value → Shared → Prop} (F₀ : Fr h₀ L s.heap m)
    (hclos : closureFor scope env = pure cl) (hcell : ∀ y ∈ scope.names, y.2 ≠ .cell) (hkind : scope.kind = .function)
    (hnames : ∀ y ∈ scope.names, y.2 = .local → scope.names.lookup y.1 = some .local) (hx : scope.names.lookup x = some .local)
    (h : wpAny (model prog w) A (eval iter env) (CompTup prog w A h₀ L m env elt x scope cl (fun s₂ => LCg.FinE h₀ L m s₂ Q)) E s)
    (hs : ∀ x, foldedSetIterable iter env x = pure x := by intro _; rfl) :
    wpAny (model prog w) A (eval (.ListComp elt [⟨.Name x px, iter, [], 0⟩] scope pos) env) Q E s := by
  rw [eval_ListComp]
  refine wpAny_comprehension_free (use := none) rfl hs hclos hkind hnames (wpAny_mono h (fun xv s₁ h₁ => ?_) fun _ _ e => e)
  rcases h₁ with ⟨ax, its, news, rfl, hh, F, N, S, hsz, R⟩
  have hl := S.tup N
  have hlt : ax < s₁.heap.objs.size := by obtain ⟨_, e, _⟩ := hl; exact Heap.lt_size e
  refine wpAny_pyIter_tuple hl ?_
  have up : ∀ b o, s₁.heap.get? b = some o → (s₁.heap.push { cls := .type "tuple_iterator", data := .fields #[.ref ax, .int 0 0] }).get? b = some o := fun b o e => Heap.get?_push_of_some _ e
  refine LCg.block_U (Walks.tuple hh s₁.heap.objs.size ax (Nat.ne_of_lt hlt) its) hsz (fun i h st => by obtain ⟨o, e, _⟩ := st.1; exact ⟨o, e⟩) tup_st hcell hkind hx ⟨⟨_, Heap.get?_push_size _ rfl, rfl, rfl⟩, hl.push _⟩ (fun b hb => ?_)
    (F.keeps up) (N.grown up) (Nat.ne_of_lt F.ns.lt) (next_is_new F) (fun p hp => Nat.ne_of_lt (Heap.lt_size (N p hp).1)) S (R _ ⟨_, rfl⟩) ?_
  · show b < (s₁.heap.push _).objs.size
    rw [Heap.size_push]
    rcases List.mem_cons.mp hb with rfl | hb
    · exact Nat.lt_succ_self _
    · rw [List.mem_singleton.mp hb]; exact Nat.lt_succ_of_lt hlt
  · intro D C h tk m' ys news' F' N' o1 hn hC₀ hD₀ hCL hDL hCD offC fin
    refine ⟨m', hn, fun h'' hs'' => fin D h'' tk (F'.change hs'' hCL hC₀) (fun p hp => ?_) o1⟩
    refine ⟨hs''.extBut _ _ ?_ (N' p hp).1, (N' p hp).2⟩
    rcases List.mem_cons.mp hp with rfl | hp
    · exact Ne.symm hCD
    · exact offC p hp
end
end
section
open PySem.Calls PySem.Spec
def eight (f n r : Int) : List Int := [f / 256, f % 256, n / 256, n % 256, r / 16777216 % 256, r / 65536 % 256, r / 256 % 256, r % 256]
def rowInts (a f n r : Int) : List Int := List.replicate a.toNat 7 ++ eight f n r
theorem flat_rep (k : Nat) (x : Int) : (List.replicate k [x]).flatten = List.replicate k x := by
  induction k with
  | zero => rfl
  | succ k ih => rw [List.replicate_succ, List.replicate_succ, List.flatten_cons, ih]; rfl
theorem row_eq (a f n r : Int) : ((List.replicate a.toNat [7]).flatten ++ [f.fdiv (2 ^ Int.toNat 8), Builtin.bitAnd f 255, n.fdiv (2 ^ Int.toNat 8), Builtin.bitAnd n 255]) ++
    [Builtin.bitAnd (r.fdiv (2 ^ Int.toNat 24)) 255, Builtin.bitAnd (r.fdiv (2 ^ Int.toNat 16)) 255, Builtin.bitAnd (r.fdiv (2 ^ Int.toNat 8)) 255, Builtin.bitAnd (r.fdiv (2 ^ Int.toNat 0)) 255] = rowInts a f n r := by
  have e8 : (2 : Int) ^ Int.toNat 8 = 256 := by decide
  have e16 : (2 : Int) ^ Int.toNat 16 = 65536 := by decide
  have e24 : (2 : Int) ^ Int.toNat 24 = 16777216 := by decide
  have e0 : (2 : Int) ^ Int.toNat 0 = 1 := by decide
  rw [e8, e16, e24, e0]
  rw [flat_rep, List.append_assoc]
  simp only [bitAnd_m8, Int.fdiv_eq_ediv_of_nonneg _ (show (0 : Int) ≤ 256 by decide), Int.fdiv_eq_ediv_of_nonneg _ (show (0 : Int) ≤ 65536 by decide), Int.fdiv_eq_ediv_of_nonneg _ (show (0 : Int) ≤ 16777216 by decide), Int.fdiv_eq_ediv_of_nonneg _ (show (0 : Int) ≤ 1 by decide), Int.ediv_one]
  rfl
theorem row_len {a f n r : Int} (h : 0 ≤ a) : ((rowInts a f n r).length : Int) = a + 8 := by
  simp only [rowInts, eight, List.length_append, List.length_replicate, List.length_cons, List.length_nil]
  omega

theorem row_zlen {zs : List Value} {a f n r : Int} (hR : IntsAre zs (rowInts a f n r)) (h : 0 ≤ a) : (zs.length : Int) = a + 8 := by
  rw [hR.length]; exact row_len h
theorem row_in {a f n r : Int} {k : Nat} (f0 : 0 ≤ f) (f1 : f ≤ 257) (n0 : 0 ≤ n) (n1 : n ≤ 257) (r0 : 0 ≤ r) (r1 : r ≤ 4294967295) : KBa.In ((rowInts a f n r).take k) := by
  intro x hx
  have hx := List.mem_of_mem_take hx
  unfold rowInts eight at hx
  rcases List.mem_append.mp hx with h | h
  · have := List.eq_of_mem_replicate h
    omega
  · simp only [List.mem_cons, List.not_mem_nil, or_false] at h
    omega
theorem row_take_len {a f n r z : Int} (ha : 0 ≤ a) (h0 : a ≤ z) (h1 : z ≤ a + 8) : ((((rowInts a f n r).take z.toNat).length : Nat) : Int) = z := by
  have h := row_len (f := f) (n := n) (r := r) ha
  rw [List.length_take]
  omega
def dueOf (a z f n : Int) : Option Int := if z < a + 2 then some a else if f ≠ 1 then some a else if z < a + 4 then some (a + 2) else if ¬ (1 ≤ n ∧ n ≤ 8) then some (a + 2) else if z < a + 8 then some (a + 4) else none
def DueIs (a z f n r : Int) (v : Value) (x : Int) : Prop := match dueOf a z f n with
  | some e => (∃ t, v = .str (PySem.Str.ofString "fault") t) ∧ x = e
  | none => (∃ t, v = .int n t) ∧ x = a + r
theorem DueIs.fault {a z f n r e : Int} {t : Tok} (h : dueOf a z f n = some e) : DueIs a z f n r (.str (PySem.Str.ofString "fault") t) e := by
  unfold DueIs; rw [h]; exact ⟨⟨_, rfl⟩, rfl⟩
theorem DueIs.fine {a z f n r : Int} {t : Tok} (h : dueOf a z f n = none) : DueIs a z f n r (.int n t) (a + r) := by
  unfold DueIs; rw [h]; exact ⟨⟨_, rfl⟩, rfl⟩

theorem due1 {a z f n : Int} (h : z < a + 2) : dueOf a z f n = some a := by unfold dueOf; rw [if_pos h]
theorem due2 {a z f n : Int} (h : ¬ z < a + 2) (h2 : ¬ f = 1) : dueOf a z f n = some a := by unfold dueOf; rw [if_neg h, if_pos h2]
theorem due3 {a z f n : Int} (h : ¬ z < a + 2) (h2 : f = 1) (h3 : z < a + 4) : dueOf a z f n = some (a + 2) := by unfold dueOf; rw [if_neg h, if_neg (fun q => q h2), if_pos h3]
theorem due4 {a z f n : Int} (h : ¬ z < a + 2) (h2 : f = 1) (h3 : ¬ z < a + 4) (h4 : ¬ 1 ≤ n) : dueOf a z f n = some (a + 2) := by unfold dueOf; rw [if_neg h, if_neg (fun q => q h2), if_neg h3, if_pos (fun q => h4 q.1)]
theorem due5 {a z f n : Int} (h : ¬ z < a + 2) (h2 : f = 1) (h3 : ¬ z < a + 4) (h4 : ¬ n ≤ 8) : dueOf a z f n = some (a + 2) := by unfold dueOf; rw [if_neg h, if_neg (fun q => q h2), if_neg h3, if_pos (fun q => h4 q.2)]
theorem due6 {a z f n : Int} (h : ¬ z < a + 2) (h2 : f = 1) (h3 : ¬ z < a + 4) (h4 : 1 ≤ n) (h5 : n ≤ 8) (h6 : z < a + 8) : dueOf a z f n = some (a + 4) := by unfold dueOf; rw [if_neg h, if_neg (fun q => q h2), if_neg h3, if_neg (fun q => q ⟨h4, h5⟩), if_pos h6]
theorem due7 {a z f n : Int} (h : ¬ z < a + 2) (h2 : f = 1) (h3 : ¬ z < a + 4) (h4 : 1 ≤ n) (h5 : n ≤ 8) (h6 : ¬ z < a + 8) : dueOf a z f n = none := by unfold dueOf; rw [if_neg h, if_neg (fun q => q h2), if_neg h3, if_neg (fun q => q ⟨h4, h5⟩), if_neg h6]
abbrev tup2 (v w : Value) : Obj := { cls := .type "tuple", data := .seq #[v, w] }

section
variable {prog : Program} {w : World} {A : Around} {E : Value → Shared → Prop} {s : Shared} {h₀ : Heap} {L : Addr} {m : Str → Option Value}
theorem row_add {Q : Value → Shared → Prop} {d dt d2 l4 d3 l7 pa ca c1 c2 c3 c4 c5 tb : Addr} {Odt Ol4 Od3 Ol7 Opa Oca P1 P2 P3 P4 P5 P6 : Obj} {ws ys : List Value} {ns ms rs : List Int}
    (F : Fr h₀ L s.heap m) (N : News h₀ L s.heap [(d, LCg.lst ys), (dt, Odt), (d2, W.listOf ws.toArray 0), (l4, Ol4), (d3, Od3), (l7, Ol7), (pa, Opa), (ca, Oca), (c5, P5), (c4, P4), (c3, P3), (c2, P2), (c1, P1), (tb, P6)])
    (hi : IntsAre ws ns) (hj : IntsAre ys ms) (he : ns ++ ms = rs) (hz : rs.length ≤ 16777216)
    (h : ∀ D zs h', Fr h₀ L h' m → News h₀ L h' [(D, W.listOf (List.toArray zs) 0), (pa, Opa), (ca, Oca), (c5, P5), (c4, P4), (c3, P3), (c2, P2), (c1, P1), (tb, P6)] →
      (@LT.lt Nat _ pa D ∧ @LT.lt Nat _ ca D ∧ @LT.lt Nat _ c5 D ∧ @LT.lt Nat _ c4 D ∧ @LT.lt Nat _ c3 D ∧ @LT.lt Nat _ c2 D ∧ @LT.lt Nat _ c1 D ∧ @LT.lt Nat _ tb D) → IntsAre zs rs → Q (.ref D) { s with heap := h' }) :
    wpAny (model prog w) A (binaryOp .Add (.ref d2) (.ref d)) Q E s := by
  subst he
  refine kmk_add_ints F N (News.isList N (items := ws.toArray) (n := 0) (d := none) (sl := #[]) (by simp only [List.mem_cons, true_or, or_true])) (News.isList N (items := ys.toArray) (n := ys.length) (d := none) (sl := #[]) (by simp only [List.mem_cons, true_or])) hi hj (fun D us h' F' N' l1 hI => ?_) (by rw [sizeLine_eq]; simpa using hz)
  refine h D us h' F' (fun p hp => N' p ?_) ?_ hI
  · simp only [List.mem_cons, List.not_mem_nil, or_false] at hp ⊢; grind
  · simp only [List.forall_mem_cons] at l1
    obtain ⟨_, _, _, _, _, _, a1, a2, a3, a4, a5, a6, a7, a8, _⟩ := l1
    exact ⟨a1, a2, a3, a4, a5, a6, a7, a8⟩

def SizeP (h₀ : Heap) (L : Addr) (m : Str → Option Value) (s : Shared) (D pa ca : Addr) (O : Obj) (ys : List Value) (rest : List (Addr × Obj)) (lo hi : Int) (v : Value) (s' : Shared) : Prop :=
  ∃ z t h' tk i ti r tr, v = .int z t ∧ s' = { s with heap := h', toks := tk } ∧ Fr h₀ L h' m ∧ News h₀ L h' ((D, O) :: (pa, penObj ca i ti r tr) :: (ca, LCg.lst ys) :: rest) ∧ lo ≤ z ∧ z ≤ hi ∧ 0 ≤ i ∧ i ≤ 900 ∧ 0 ≤ r
theorem SizeP.intro {D pa ca : Addr} {O : Obj} {ys : List Value} {rest : List (Addr × Obj)} {lo hi z i r : Int} {t ti tr : Tok} {h' : Heap} {tk : Nat} (F : Fr h₀ L h' m) (N : News h₀ L h' ((D, O) :: (pa, penObj ca i ti r tr) :: (ca, LCg.lst ys) :: rest))
    (h1 : lo ≤ z) (h2 : z ≤ hi) (h3 : 0 ≤ i) (h4 : i ≤ 900) (h5 : 0 ≤ r) : SizeP h₀ L m s D pa ca O ys rest lo hi (.int z t) { s with heap := h', toks := tk } := ⟨z, t, h', tk, i, ti, r, tr, rfl, rfl, F, N, h1, h2, h3, h4, h5⟩
theorem size_cut {t : Sem Value} {Q : Value → Shared → Prop} {D pa ca : Addr} {O : Obj} {ys : List Value} {i r : Int} {ti tr : Tok} {rest : List (Addr × Obj)} (lo hi : Int) (_ : Fr h₀ L s.heap m) (_ : News h₀ L s.heap ((D, O) :: (pa, penObj ca i ti r tr) :: (ca, LCg.lst ys) :: rest))
    (h1 : wpAny (model prog w) A t (SizeP h₀ L m s D pa ca O ys rest lo hi) E s)
    (h2 : ∀ z t h' tk i ti r tr, Fr h₀ L h' m → News h₀ L h' ((D, O) :: (pa, penObj ca i ti r tr) :: (ca, LCg.lst ys) :: rest) → lo ≤ z → z ≤ hi → 0 ≤ i → i ≤ 900 → 0 ≤ r → Q (.int z t) { s with heap := h', toks := tk }) : wpAny (model prog w) A t Q E s :=
  wpAny_mono h1 (fun v s' q => by obtain ⟨z, t, h', tk, i, ti, r, tr, e1, e2, F, N, a1, a2, a3, a4, a5⟩ := q; subst e1 e2; exact h2 z t h' tk i ti r tr F N a1 a2 a3 a4 a5) fun _ _ e => e

theorem size_cut2 {t : Sem Value} {Q : Value → Shared → Prop} {D pa ca : Addr} {zs ys : List Value} {a f n r0 i r : Int} {ti tr : Tok} {rest : List (Addr × Obj)} (F : Fr h₀ L s.heap m) (N : News h₀ L s.heap ((D, W.listOf (List.toArray zs) 0) :: (pa, penObj ca i ti r tr) :: (ca, LCg.lst ys) :: rest))
    (_ : IntsAre zs (rowInts a f n r0))
    (h1 : wpAny (model prog w) A t (SizeP h₀ L m s D pa ca (W.listOf (List.toArray zs) 0) ys rest a (a + 8)) E s)
    (h2 : ∀ z t h' tk i ti r tr, Fr h₀ L h' m → News h₀ L h' ((D, W.listOf (List.toArray zs) 0) :: (pa, penObj ca i ti r tr) :: (ca, LCg.lst ys) :: rest) → a ≤ z → z ≤ a + 8 → 0 ≤ i → i ≤ 900 → 0 ≤ r → Q (.int z t) { s with heap := h', toks := tk }) : wpAny (model prog w) A t Q E s :=
  size_cut a (a + 8) F N h1 h2
def DueP (h₀ : Heap) (L : Addr) (x : Str) (m : Str → Option Value) (s : Shared) (keep : List (Addr × Obj)) (a z f n r : Int) (v : Flow) (s' : Shared) : Prop :=
  ∃ D u y t h' tk, v = .next ∧ s' = { s with heap := h', toks := tk } ∧ Fr h₀ L h' (fun q => if q = x then some (.ref D) else m q) ∧ News h₀ L h' ((D, tup2 u (.int y t)) :: keep) ∧ (∀ p ∈ keep, @LT.lt Nat _ p.1 D) ∧ DueIs a z f n r u y
theorem fr_twice {x : Str} {h : Heap} {D : Addr} {v : Value} (F : Fr h₀ L h (fun q => if q = x then some (.ref D) else if q = x then some v else m q)) : Fr h₀ L h (fun q => if q = x then some (.ref D) else m q) := by
  have e : (fun q => if q = x then some (Value.ref D) else if q = x then some v else m q) = (fun q => if q = x then some (.ref D) else m q) := by
    funext q
    by_cases h : q = x
    · rw [if_pos h, if_pos h]
    · rw [if_neg h, if_neg h, if_neg h]
  rw [← e]; exact F
theorem DueP.intro {x : Str} {keep all : List (Addr × Obj)} {a z f n r y : Int} {u : Value} {D : Addr} {t : Tok} {h' : Heap} {tk : Nat}
    (F : Fr h₀ L h' (fun q => if q = x then some (.ref D) else m q)) (N : News h₀ L h' all) (hs : ∀ p ∈ (D, tup2 u (.int y t)) :: keep, p ∈ all) (o : ∀ p ∈ keep, @LT.lt Nat _ p.1 D) (d : DueIs a z f n r u y) :
    DueP h₀ L x m s keep a z f n r .next { s with heap := h', toks := tk } := ⟨D, u, y, t, h', tk, rfl, rfl, F, cb_drop N hs, o, d⟩
theorem due_cut2 {t : Sem Flow} {Q : Flow → Shared → Prop} {x : Str} {d : Addr} {P : Obj} {vd : Value} {keep : List (Addr × Obj)} {a z f n r : Int} {zs : List Value}
    (F : Fr h₀ L s.heap (fun q => if q = x then some vd else m q)) (N : News h₀ L s.heap ((d, P) :: keep)) (_ : IntsAre zs (rowInts a f n r)) (_ : z ≤ a + 8)
    (h1 : wpAny (model prog w) A t (DueP h₀ L x m s keep a z f n r) E s)
    (h2 : ∀ D u y t h' tk, Fr h₀ L h' (fun q => if q = x then some (.ref D) else m q) → News h₀ L h' ((D, tup2 u (.int y t)) :: keep) → (∀ p ∈ keep, @LT.lt Nat _ p.1 D) → DueIs a z f n r u y → Q .next { s with heap := h', toks := tk }) : wpAny (model prog w) A t Q E s :=
  wpAny_mono h1 (fun v s' q => by obtain ⟨D, u, y, t, h', tk, e1, e2, F, N, o, d⟩ := q; subst e1 e2; exact h2 D u y t h' tk F N o d) fun _ _ e => e
def HeardP (h₀ : Heap) (L : Addr) (m : Str → Option Value) (s : Shared) (keep : List (Addr × Obj)) (a z f n r : Int) (v : Value) (s' : Shared) : Prop :=
  ∃ D u y t h' tk, v = .ref D ∧ s' = { s with heap := h', toks := tk } ∧ Fr h₀ L h' m ∧ News h₀ L h' ((D, tup2 u (.int y t)) :: keep) ∧ DueIs a z f n r u y
theorem HeardP.intro {keep all : List (Addr × Obj)} {a z f n r y : Int} {u : Value} {D : Addr} {t : Tok} {h' : Heap} {tk : Nat}
    (F : Fr h₀ L h' m) (N : News h₀ L h' all) (hs : ∀ p ∈ (D, tup2 u (.int y t)) :: keep, p ∈ all) (d : DueIs a z f n r u y) :
    HeardP h₀ L m s keep a z f n r (.ref D) { s with heap := h', toks := tk } := ⟨D, u, y, t, h', tk, rfl, rfl, F, cb_drop N hs, d⟩
theorem heard_cut {t : Sem Value} {Q : Value → Shared → Prop} {g1 g2 g3 : Addr × Obj} {Dd : Addr} {u0 : Value} {y0 : Int} {t0 : Tok} {keep : List (Addr × Obj)} {a z f n r : Int}
    (_ : Fr h₀ L s.heap m) (_ : News h₀ L s.heap (g1 :: g2 :: (Dd, tup2 u0 (.int y0 t0)) :: g3 :: keep)) (hd : DueIs a z f n r u0 y0)
    (h1 : wpAny (model prog w) A t (HeardP h₀ L m s ((Dd, tup2 u0 (.int y0 t0)) :: keep) a z f n r) E s)
    (h2 : ∀ D e t1 t2 t3 h' tk, u0 = .str (PySem.Str.ofString "fault") t3 → y0 = e → Fr h₀ L h' m → News h₀ L h' ((D, tup2 (.str (PySem.Str.ofString "fault") t1) (.int e t2)) :: (Dd, tup2 (.str (PySem.Str.ofString "fault") t3) (.int e t0)) :: keep) → Q (.ref D) { s with heap := h', toks := tk })
    (h3 : ∀ D t1 t2 t3 h' tk, u0 = .int n t3 → y0 = a + r → Fr h₀ L h' m → News h₀ L h' ((D, tup2 (.int n t1) (.int (a + r) t2)) :: (Dd, tup2 (.int n t3) (.int (a + r) t0)) :: keep) → Q (.ref D) { s with heap := h', toks := tk }) : wpAny (model prog w) A t Q E s := by
  refine wpAny_mono h1 (fun v s' q => ?_) fun _ _ e => e
  obtain ⟨D, u, y, t, h', tk, e1, e2, F, N, d⟩ := q
  subst e1 e2
  unfold DueIs at hd d
  cases hx : dueOf a z f n with
  | none =>
    rw [hx] at hd d
    obtain ⟨⟨t3, rfl⟩, rfl⟩ := hd
    obtain ⟨⟨t1, rfl⟩, rfl⟩ := d
    exact h3 D t1 t t3 h' tk rfl rfl F N
  | some e =>
    rw [hx] at hd d
    obtain ⟨⟨t3, rfl⟩, rfl⟩ := hd
    obtain ⟨⟨t1, rfl⟩, rfl⟩ := d
    exact h2 D _ t1 t t3 h' tk rfl rfl F N
end
end
section
open PySem.Calls PySem.Spec
open Sem (wp)
abbrev excNew (C t : Addr) : Obj := { cls := .ref C, data := .fields #[.ref t, .none, .none, .none, .bool false, .none] }
abbrev tupObj (rest : List Value) : Obj := { cls := .type "tuple", data := .seq rest.toArray }
abbrev excHeap (h : Heap) (C : Addr) (rest : List Value) : Heap := (h.push (tupObj rest)).push (excNew C h.objs.size)

section
variable {prog : Program} {w : World} {A : Around} {E : Value → Shared → Prop} {h : Heap} {g : Array GenState} {d : Drawn} {t : Nat} {os : OsState}
variable {nm q : Str} {C N S fI : Addr} {bs bmB : List Value} {hdct : Bool} {sn : List Str} {sub : List Value} {ab : Bool} {col : Option Bool} {dd : Option Addr} {k0 k1 k2 k3 k5 : Option Value} {B newId initId : String}

theorem heir_check (Fb : ExcBaseFacts B newId initId bmB) {M : Model} {rest : List Value} {Q : Unit → Shared → Prop} (hC : h.get? C = some (excClassObj nm q C N bs (.ref S :: bmB) hdct sn sub ab col dd k0 k1 k2 k3 k5 newId))
    (hq : Q () ⟨h, g, d, t, os⟩) : wpAny M A (checkBuiltinCall newId ⟨.ref C :: rest, []⟩) Q E ⟨h, g, d, t, os⟩ := by
  have hB : (Value.ref C :: .ref S :: bmB).contains (.type B) = true := by rw [List.contains_cons, List.contains_cons, Fb.hasB, Bool.or_true, Bool.or_true]
  have hst := Fb.noStar
  simp only [checkBuiltinCall, Fb.newKind, Fb.newSplit, Fb.newRow]
  repeat (first | refine wpAny_loadPart_at hC ?_ | (refine wpAny_isSubtype_exc hC ?_; rw [hB]) | refine wpAny_staticBase_exc hC ?_ | refine wpAny_madeBy_exc hC ?_ | simp only [bne_self_eq_false, Bool.false_eq_true, if_false] | wp_step)
  exact hq

theorem heir_new (Fb : ExcBaseFacts B newId initId bmB) {R : Result → Shared → Prop} {rest : List Value} (hC : h.get? C = some (excClassObj nm q C N bs (.ref S :: bmB) hdct sn sub ab col dd k0 k1 k2 k3 k5 newId))
    (hr : rest.length ≤ sizeLine) (hq : R (.ok (.ret (.ref (h.objs.size + 1)))) ⟨excHeap h C rest, g, d, t, os⟩) :
    codeAny (model prog w) A (.builtin newId ⟨.ref C :: rest, []⟩) R ⟨h, g, d, t, os⟩ := by
  have he := Fb.ends
  have h1 : (Value.ref C :: .ref S :: bmB).contains (.type B) = true := by rw [List.contains_cons, List.contains_cons, Fb.hasB, Bool.or_true, Bool.or_true]
  have h2 : (Value.ref C :: .ref S :: bmB).contains (.type "AttributeError") = false := by rw [List.contains_cons, List.contains_cons, Fb.noAttr]; rfl
  have h3 : (Value.ref C :: .ref S :: bmB).contains (.type "NameError") = false := by rw [List.contains_cons, List.contains_cons, Fb.noName]; rfl
  refine codeAny_builtinAt Fb.entry ?_
  unfold Builtin.«BaseException.__new__»
  refine PySem.wpAt_bind ?_
  show PySem.wpAt _ _ _ (stack >>= _) _ _ _
  refine PySem.wpAt_bind (PySem.wpAt_stack fun p below => PySem.wpAt_of_wpAny ?_)
  wp_walk
  refine PySem.wpAt_of_wpAny ?_
  rw [Fb.owner]
  repeat (first | with_reducible refine wpAny_madeHere_exc Fb.canon hC ?_ | with_reducible refine wpAny_loadPart_at hC ?_ | (with_reducible refine wpAny_isSubtype_exc hC ?_; first | rw [h1] | rw [h2] | rw [h3]) | wp_step)
  show R _ _
  rw [Heap.size_push]
  exact hq

theorem heir_lookup {M : Model} {bm : List Value} {mN mS : Str → Option Value} {c0 : Value} {dS : Option Addr} {cdS : ClassData} {slS : Array (Option Value)} {name : Str} {v : Value} {Q : Option Value → Shared → Prop}
    (hC : h.get? C = some (excClassObj nm q C N bs (.ref S :: bm) hdct sn sub ab col dd k0 k1 k2 k3 k5 newId)) (hn : h.Ns N mN) (hni : mN name = none)
    (hS : h.get? S = some { cls := c0, dict := dS, data := .cls cdS, slots := slS }) (hnS : h.Ns cdS.ns mS) (hiS : mS name = some v) (hq : Q (some v) ⟨h, g, d, t, os⟩) :
    wpAny M A (typeLookup (.ref C) name) Q E ⟨h, g, d, t, os⟩ := by
  rw [typeLookup_eq]
  refine wpAny_bind (wpAny_mroOf_exc hC ?_)
  rw [lookupAlong_cons]
  refine wpAny_bind (wpAny_classOwn_exc hC hn ?_)
  rw [hni, lookupAlong_cons]
  refine wpAny_bind (wpAny_classOwn_cls hS hnS ?_)
  rw [hiS]
  exact wpAny_pure hq

theorem heir_call {mN mS : Str → Option Value} {c0 : Value} {dS : Option Addr} {cdS : ClassData} {slS : Array (Option Value)} {oI : Obj} (Fb : ExcBaseFacts B newId initId bmB) {rest : List Value} {Q : Value → Shared → Prop}
    (hC : h.get? C = some (excClassObj nm q C N bs (.ref S :: bmB) hdct sn sub ab col dd k0 k1 k2 k3 k5 newId)) (hn : h.Ns N mN) (hni : mN "__init__" = none)
    (hS : h.get? S = some { cls := c0, dict := dS, data := .cls cdS, slots := slS }) (hnS : h.Ns cdS.ns mS) (hiS : mS "__init__" = some (.ref fI)) (hfI : h.get? fI = some oI) (hfc : oI.cls = .type "function") (hr : rest.length ≤ sizeLine)
    (hq : wpAny (model prog w) (A.under (.builtin "type.__call__" ⟨.ref C :: rest, []⟩)) (call (.ref fI) (.ref (h.objs.size + 1) :: rest)) (fun r s' => r = .none ∧ Q (.ref (h.objs.size + 1)) s') E ⟨excHeap h C rest, g, d, t, os⟩) :
    wpAny (model prog w) A (call (.ref C) rest) Q E ⟨h, g, d, t, os⟩ := by
  have up : ∀ b o, h.get? b = some o → (excHeap h C rest).get? b = some o := fun b o e => Heap.get?_push_of_some _ (Heap.get?_push_of_some _ e)
  have main : ∀ {Q' : Fin → Shared → Prop}, (∀ s', Q (.ref (h.objs.size + 1)) s' → Q' (.done (.ret (.ref (h.objs.size + 1)))) s') →
      wpAny (model prog w) (A.under (.builtin "type.__call__" ⟨.ref C :: rest, []⟩)) (Builtin.«type.__call__» ⟨.ref C :: rest, []⟩) Q' E ⟨h, g, d, t, os⟩ := by
    intro Q' hQ'
    repeat (first | with_reducible refine wpAny_loadPart_at hC ?_ | with_reducible refine wpAny_madeBy_exc hC ?_ | wp_step)
    refine codeAny_call_builtin_code (Code.quiet_builtin _ Fb.quiet) (heir_check Fb hC ?_)
    refine heir_new Fb hC hr ?_
    show wpAny _ _ _ _ _ _
    have hC' := up _ _ hC
    have hget : (excHeap h C rest).get? (h.objs.size + 1) = some (excNew C h.objs.size) := by heap_get
    have hcC : (Value.ref C :: .ref S :: bmB).contains (.ref C) = true := by simp
    unfold isInstance
    repeat (first | with_reducible refine wpAny_loadPart_at hget ?_ | (with_reducible refine wpAny_isSubtype_exc hC' ?_; rw [hcC]) | wp_step)
    show wpAny _ _ (typeLookup (.ref C) _) _ _ _
    refine heir_lookup hC' (hn.keeps up) hni (up _ _ hS) (hnS.keeps up) hiS ?_
    refine wpAny_holding (wpAny_bind ?_)
    unfold bindSpecial
    refine wpAny_bind (wpAny_typeOf (T := "function") ⟨_, up _ _ hfI, hfc⟩ ?_)
    rw [if_pos (by decide)]
    refine wpAny_pure (wpAny_bind (wpAny_mono hq (fun r s' hr' => ?_) fun _ _ x => x))
    obtain ⟨rfl, hQ⟩ := hr'
    wp_walk
    exact hQ' _ hQ
  have f1 := tc_lookup
  have f2 := tc_bind (.ref C)
  have hT : (⟨h, g, d, t, os⟩ : Shared).TypeIs (.ref C) "type" := ⟨_, hC, rfl⟩
  refine wpAny_call (codeAny_of_tree ?_)
  show wpAny _ _ (callAny (.ref C) _) _ _ _
  repeat (any_goals (first | assumption | with_reducible refine wpAny_loadPart_at hC ?_ | wp_step))
  refine ⟨rfl, ?_⟩
  refine codeAny_call_builtin_at (Code.quiet_builtin _ (by decide +kernel)) entry_typeCall (wpAny_check_type_call_sub hC (main ?_))
  exact fun s' x => x
end
end
section
open PySem.Calls PySem.Spec
theorem ns_some_of {K : Frag} {h : Heap} {N : Addr} {mg : Str → Option Value} {n : Str} {v : Value} (X : K.In h) (G : h.Ns N mg) (e : nsIn K N n = some (some v)) : mg n = some v := by
  obtain ⟨o, es, ep, ho, hd', _, hf⟩ := G
  unfold nsIn at e
  split at e
  · rename_i c d es' n' sl q
    have := X _ _ q
    rw [ho] at this
    cases this
    cases hd'
    split at e
    · rename_i en he
      cases e
      rw [← hf]
      unfold nsFind findBy
      rw [← Array.find?_toList, he]
      rfl
    · split at e <;> cases e
  · cases e
abbrev excBm : List Value := [.type "Exception", .type "BaseException", .type "object"]
theorem k61 (p : Params) : ∃ hdct sn sub ab col dd k0 k1 k2 k3 k5 nm q bs, List.lookup 61 (hd.heap_39 p) = some (excClassObj nm q 61 60 bs (.ref 48 :: excBm) hdct sn sub ab col dd k0 k1 k2 k3 k5 "Exception.__new__") :=
  ⟨_, _, _, _, _, _, _, _, _, _, _, _, _, _, rfl⟩
theorem k48 (p : Params) : ∃ c0 dd cd sl, List.lookup 48 (hd.heap_39 p) = some { cls := c0, dict := dd, data := .cls cd, slots := sl } ∧ cd.ns = 47 :=
  ⟨_, _, _, _, rfl, rfl⟩
theorem k38 (p : Params) : ∃ o, List.lookup 38 (hd.heap_39 p) = some o ∧ o.cls = .type "function" := ⟨_, rfl, rfl⟩
theorem n60 (p : Params) : nsOkIn (hd.heap_39 p) 60 = true := by kernel_rfl
theorem n47 (p : Params) : nsOkIn (hd.heap_39 p) 47 = true := by kernel_rfl
theorem i60 (p : Params) : nsIn (hd.heap_39 p) 60 "__init__" = some none := rfl
theorem i47 (p : Params) : nsIn (hd.heap_39 p) 47 "__init__" = some (some (.ref 38)) := rfl
section
variable {prog : Program} {w : World} {A : Around} {E : Value → Shared → Prop} {s : Shared} {h₀ : Heap} {L : Addr} {m : Str → Option Value}
theorem make_fault {Q : Value → Shared → Prop} {news : List (Addr × Obj)} {rest : List Value} (F : Fr h₀ L s.heap m) (X : (hd.heap_39 w.params).In h₀) (N : News h₀ L s.heap news) (hr : rest.length ≤ sizeLine)
    (hq : ∀ e t h', Fr h₀ L h' m → News h₀ L h' ((e, excNew 61 t) :: (t, tupObj rest) :: news) → (∀ p ∈ news, @LT.lt Nat _ p.1 t) → @LT.lt Nat _ t e →
      wpAny (model prog w) (A.under (.builtin "type.__call__" ⟨.ref 61 :: rest, []⟩)) (call (.ref 38) (.ref e :: rest)) (fun r s' => r = .none ∧ Q (.ref e) s') E { s with heap := h' }) :
    wpAny (model prog w) A (call (.ref 61) rest) Q E s := by
  have X' := X.keeps F.keep
  obtain ⟨hdct, sn, sub, ab, col, dd, k0, k1, k2, k3, k5, nm, q, bs, e61⟩ := k61 w.params
  obtain ⟨c0, dS, cdS, slS, e48, ens⟩ := k48 w.params
  obtain ⟨oI, e38, ec38⟩ := k38 w.params
  have N60 := Heap.Ns.of_isNs (isNs_of_in X' (n60 w.params))
  have N47 := Heap.Ns.of_isNs (isNs_of_in X' (n47 w.params))
  have hni := ns_none_of X' N60 (i60 w.params)
  have hi := ns_some_of X' N47 (i47 w.params)
  refine heir_call PySem.F.excBase_Exception (X' _ _ e61) N60 hni (X' _ _ e48) (by rw [ens]; exact N47) hi (X' _ _ e38) ec38 hr ?_
  have N1 := News.push F N (tupObj rest)
  have F1 := F.push (tupObj rest)
  have N2 := News.push F1 N1 (excNew 61 s.heap.objs.size)
  have F2 := F1.push (excNew 61 s.heap.objs.size)
  rw [Heap.size_push] at N2
  exact hq _ _ _ F2 N2 (fun p hp => Heap.lt_size (N p hp).1) (Nat.lt_succ_self _)
end
end
section
open PySem.Calls PySem.Spec
def ExcAt (h base : Heap) (e : Addr) (cls : Value) (D : Addr) (fl : Value) : Prop :=
  ∃ oe vs T oT ts, h.get? e = some oe ∧ oe.cls = cls ∧ oe.dict = some D ∧ oe.data = .fields vs ∧ vs[1]? = some (.ref T) ∧ base.get? T = none ∧ T ≠ e ∧ h.get? T = some oT ∧ oT.data = .fields ts ∧ ts[3]? = some fl
theorem mapFields_dict (o : Obj) (f : Array Value → Array Value) : (Obj.mapFields f o).dict = o.dict := by
  unfold Obj.mapFields; split <;> rfl
section
variable {M : Model} {A : Around} {E : Value → Shared → Prop} {s : Shared}

theorem land_flight {base : Heap} {l : List Env} {e D : Addr} {cls fl : Value} {Q : Unit → Shared → Prop} (hb : base.StaysIn s.heap) (hen : base.get? e = none) (hl : s.heap.FunFrames base l) (x : ExcAt s.heap base e cls D fl)
    (h : ∀ h', base.StaysIn h' → h'.FunFrames base l → ExcAt h' base e cls D .none → s.heap.UpToSlots h' → Q () { s with heap := h' }) : wpAny M A (setFlight (.ref e) none) Q E s := by
  obtain ⟨oe, vs, T, oT, ts, he, hc, hD, hd, h1, hT, hTe, hoT, hdT, h3⟩ := x
  unfold setFlight
  refine wpAny_bind (wpAny_field he hd h1 ?_)
  rw [if_pos (show (Value.ref T != Value.none) = true from by simp)]
  refine wpAny_setField hoT hdT (Array.getElem?_eq_some_iff.mp h3).1 ?_
  have off : ∀ b, b ≠ T → (s.heap.update T (Obj.mapFields (·.setIfInBounds 3 ((none : Option Addr).elim Value.none fun f => rawInt f)))).get? b = s.heap.get? b := fun b hbT => Heap.get?_update_other _ _ (Ne.symm hbT)
  have nf : ∀ b o, s.heap.get? b = some o → (∀ ws, o.data ≠ .fields ws) → b ≠ T := fun b o hbo hn q => by
    rw [q, hoT] at hbo; cases hbo; exact hn ts hdT
  have z3 : 3 < ts.size := (Array.getElem?_eq_some_iff.mp h3).1
  refine h _ (fun b o hbo => (off b fun q => by rw [q, hT] at hbo; cases hbo).trans (hb b o hbo)) (hl.of_keeps fun b o hbo hn => ⟨o, (off b (nf b o hbo hn)).trans hbo, rfl⟩) ?_ fun b o hbo hn => ⟨o.slots, (off b (nf b o hbo hn)).trans hbo⟩
  exact ⟨oe, vs, T, _, _, (off e (Ne.symm hTe)).trans he, hc, hD, hd, h1, hT, hTe, Heap.get?_update_self _ hoT (Obj.isFreed_of_fields (Obj.data_mapFields hdT _)), Obj.data_mapFields hdT _, by simp [z3]⟩

theorem entry_made {base : Heap} {env : Env} {outer : List Env} {L e D : Addr} {oe : Obj} {vs : Array Value} {head : Value} {hadNext : Bool} {Q : Unit → Shared → Prop}
    (hfr : A.frames = some (env :: outer)) (hl : s.heap.FunFrames base (env :: outer)) (hf : env.frame = some L) (he : s.heap.get? e = some oe) (hb : base.StaysIn s.heap) (hen : base.get? e = none) (hd : oe.data = .fields vs) (hz : 1 < vs.size) (hD : oe.dict = some D)
    (h : ∀ h', base.StaysIn h' → h'.FunFrames base (env :: outer) → ExcAt h' base e oe.cls D (rawInt L) → s.heap.UpToSlots h' → Q () { s with heap := h' }) :
    wpAny M A (do let a ← frameOf env; let pl ← entryPlaceOf L hadNext; let b ← EntryCells.newEntry head a .none (rawInt L) .none pl; setField (.ref e) 1 b) Q E s := by
  have eoff : e ∉ (env :: outer).filterMap (·.frame) := fun hm => by
    obtain ⟨_, o, ho, hn⟩ := hl.mem hm
    rw [he] at ho; cases ho; exact hn vs hd
  refine wpAny_bind (wpAny_frameOf_fun hfr hl hf fun h₁ so => ?_)
  refine wpAny_bind (wpAny_entryPlaceOf fun pl hpl => ?_)
  unfold EntryCells.newEntry newFields
  refine wpAny_bind (wpAny_newObj_type ?_ (hpl.sizeOk5 _ _ _ _ _))
  generalize hTo : ({ cls := .type "traceback", dict := none, data := .fields ([head, .ref L, .none, rawInt L, .none] ++ (if pl.isEmpty then List.replicate 6 Value.none else pl)).toArray } : Obj) = oT
  have he1 : h₁.get? e = some oe := (so.2.1 e eoff).trans he
  have hb1 : base.StaysIn h₁ := fun b o hbo => (so.2.1 b fun hm => by rw [(hl.mem hm).1] at hbo; cases hbo).trans (hb b o hbo)
  have free : oT.isFreed = false := by rw [← hTo]; rfl
  refine wpAny_setField (Heap.get?_push_of_some oT he1) hd hz ?_
  have Tne : h₁.objs.size ≠ e := Nat.ne_of_gt (Heap.lt_size he1)
  have up : ∀ b o, b ≠ e → h₁.get? b = some o → ((h₁.push oT).update e (Obj.mapFields (·.setIfInBounds 1 (Value.ref h₁.objs.size)))).get? b = some o := fun b o q hbo => by
    rw [Heap.get?_update_other _ _ (Ne.symm q)]; exact Heap.get?_push_of_some _ hbo
  have nf : ∀ b o, s.heap.get? b = some o → (∀ ws, o.data ≠ .fields ws) → b ≠ e := fun b o hbo hn q => by
    rw [q, he] at hbo; cases hbo; exact hn vs hd
  have d2 := Obj.data_mapFields hd (·.setIfInBounds 1 (Value.ref h₁.objs.size))
  refine h _ (fun b o hbo => up b o (fun q => by rw [q, hen] at hbo; cases hbo) (hb1 b o hbo)) (hl.of_keeps fun b o hbo hn => ?_) ?_ fun b o hbo hn => ?_
  · obtain ⟨sl, e1⟩ := so.2.2 b o hbo
    exact ⟨_, up b _ (nf b o hbo hn) e1, rfl⟩
  · refine ⟨_, _, h₁.objs.size, oT, _, Heap.get?_update_self _ (Heap.get?_push_of_some oT he1) (Obj.isFreed_of_fields d2), Obj.cls_mapFields _ _, (mapFields_dict _ _).trans hD, d2, by simp [hz], hb1.fresh, Tne, ?_, by rw [← hTo], ?_⟩
    · rw [Heap.get?_update_other _ _ (Ne.symm Tne)]; exact Heap.get?_push_size _ free
    · rcases hpl with rfl | ⟨_, _, _, _, _, _, _, rfl⟩ <;> simp
  · obtain ⟨sl, e1⟩ := so.2.2 b o hbo
    exact ⟨sl, up b _ (nf b o hbo hn) e1⟩

theorem note_first {base : Heap} {env : Env} {outer : List Env} {L e D : Addr} {oe : Obj} {vs : Array Value} {Q : Unit → Shared → Prop}
    (hfr : A.frames = some (env :: outer)) (hl : s.heap.FunFrames base (env :: outer)) (hf : env.frame = some L) (he : s.heap.get? e = some oe) (hb : base.StaysIn s.heap) (hen : base.get? e = none) (hd : oe.data = .fields vs) (h1 : vs[1]? = some .none) (hD : oe.dict = some D)
    (h : ∀ h', base.StaysIn h' → h'.FunFrames base (env :: outer) → ExcAt h' base e oe.cls D (rawInt L) → s.heap.UpToSlots h' → Q () { s with heap := h' }) : wpAny M A (noteFrame (.ref e) env) Q E s := by
  unfold noteFrame
  simp only [hf]
  refine wpAny_bind (wpAny_field he hd h1 ?_)
  rw [if_neg (by decide)]
  exact entry_made hfr hl hf he hb hen hd (Array.getElem?_eq_some_iff.mp h1).1 hD h

theorem note_next {base : Heap} {env : Env} {outer : List Env} {L e D : Addr} {cls : Value} {Q : Unit → Shared → Prop}
    (hfr : A.frames = some (env :: outer)) (hl : s.heap.FunFrames base (env :: outer)) (hf : env.frame = some L) (hb : base.StaysIn s.heap) (hen : base.get? e = none) (x : ExcAt s.heap base e cls D .none)
    (h : ∀ h', base.StaysIn h' → h'.FunFrames base (env :: outer) → ExcAt h' base e cls D (rawInt L) → s.heap.UpToSlots h' → Q () { s with heap := h' }) : wpAny M A (noteFrame (.ref e) env) Q E s := by
  obtain ⟨oe, vs, T, oT, ts, he, hc, hD, hd, h1, hT, hTe, hoT, hdT, h3⟩ := x
  subst hc
  unfold noteFrame
  simp only [hf]
  refine wpAny_bind (wpAny_field he hd h1 ?_)
  rw [if_pos (show (Value.ref T != Value.none) = true from by simp)]
  refine wpAny_bind (wpAny_field hoT hdT h3 ?_)
  rw [if_neg (show ¬ ((Value.none == rawInt L) = true) from by simp [rawInt])]
  refine wpAny_bind (wpAny_setField hoT hdT (Array.getElem?_eq_some_iff.mp h3).1 ?_)
  have off : ∀ b, b ≠ T → (s.heap.update T (Obj.mapFields (·.setIfInBounds 3 Value.none))).get? b = s.heap.get? b := fun b hbT => Heap.get?_update_other _ _ (Ne.symm hbT)
  have nf : ∀ b o, s.heap.get? b = some o → (∀ ws, o.data ≠ .fields ws) → b ≠ T := fun b o hbo hn q => by
    rw [q, hoT] at hbo; cases hbo; exact hn ts hdT
  refine entry_made hfr (hl.of_keeps fun b o hbo hn => ⟨o, (off b (nf b o hbo hn)).trans hbo, rfl⟩) hf ((off e (Ne.symm hTe)).trans he) (fun b o hbo => (off b fun q => by rw [q, hT] at hbo; cases hbo).trans (hb b o hbo)) hen hd (Array.getElem?_eq_some_iff.mp h1).1 hD
    fun h' a1 a2 a3 a4 => h h' a1 a2 a3 fun b o hbo hn => a4 b o ((off b (nf b o hbo hn)).trans hbo) hn

theorem leave_first {base : Heap} {env : Env} {outer : List Env} {L e D : Addr} {oe : Obj} {vs : Array Value} {Q : Unit → Shared → Prop}
    (hfr : A.frames = some (env :: outer)) (hl : s.heap.FunFrames base (env :: outer)) (hf : env.frame = some L) (he : s.heap.get? e = some oe) (hb : base.StaysIn s.heap) (hen : base.get? e = none) (hd : oe.data = .fields vs) (h1 : vs[1]? = some .none) (hD : oe.dict = some D)
    (h : ∀ h', base.StaysIn h' → h'.FunFrames base outer → ExcAt h' base e oe.cls D .none → s.heap.UpToSlots h' → Q () { s with heap := h' }) : wpAny M A (leaving env (.ref e)) Q E s := by
  unfold leaving
  exact wpAny_bind (note_first hfr hl hf he hb hen hd h1 hD fun h' a1 a2 a3 a4 => land_flight a1 hen a2 a3 fun h'' b1 b2 b3 b4 => h h'' b1 b2.2.2 b3 (a4.trans b4))
theorem leave_next {base : Heap} {env : Env} {outer : List Env} {L e D : Addr} {cls : Value} {Q : Unit → Shared → Prop}
    (hfr : A.frames = some (env :: outer)) (hl : s.heap.FunFrames base (env :: outer)) (hf : env.frame = some L) (hb : base.StaysIn s.heap) (hen : base.get? e = none) (x : ExcAt s.heap base e cls D .none)
    (h : ∀ h', base.StaysIn h' → h'.FunFrames base outer → ExcAt h' base e cls D .none → s.heap.UpToSlots h' → Q () { s with heap := h' }) : wpAny M A (leaving env (.ref e)) Q E s := by
  unfold leaving
  exact wpAny_bind (note_next hfr hl hf hb hen x fun h' a1 a2 a3 a4 => land_flight a1 hen a2 a3 fun h'' b1 b2 b3 b4 => h h'' b1 b2.2.2 b3 (a4.trans b4))
end
end
section
open PySem.Calls PySem.Spec
def RaisedF (base G : Heap) (l : List Env) (e D : Addr) (news : List (Addr × Obj)) (h : Heap) : Prop :=
  ∃ B, base.StaysIn B ∧ (∀ b o, G.get? b = some o → b ∉ l.filterMap (·.frame) → B.get? b = some o) ∧ (∀ q ∈ news, B.get? q.1 = some q.2 ∧ G.get? q.1 = none ∧ base.get? q.1 = none) ∧
    B.StaysIn h ∧ B.get? e = none ∧ h.FunFrames B l ∧ ExcAt h B e (.ref 61) D .none

theorem frame_mem {env : Env} {outer : List Env} {L b : Addr} (hf : env.frame = some L) (hm : b ∈ (env :: outer).filterMap (·.frame)) : b = L ∨ b ∈ outer.filterMap (·.frame) := by
  rw [List.filterMap_cons, hf] at hm
  exact List.mem_cons.mp hm

section
variable {M : Model} {A : Around} {E : Value → Shared → Prop} {s' : Shared} {base g g₂ : Heap} {outer : List Env} {env : Env} {L e D : Addr} {m : Str → Option Value} {Q : Unit → Shared → Prop} {news : List (Addr × Obj)}
theorem fault_leaves {oe : Obj} {vs : Array Value} (K : Below A base outer g) (F : Fr g L s'.heap m) (N : News g L s'.heap ((e, oe) :: news)) (hne : ∀ q ∈ news, q.1 ≠ e) (hc : oe.cls = .ref 61) (hD : oe.dict = some D) (hd : oe.data = .fields vs) (h1 : vs[1]? = some .none)
    (hf : env.frame = some L) (hk : env.scope.kind ≠ .module)
    (hQ : ∀ h', RaisedF base g outer e D news h' → g.UpToSlots h' → Q () { s' with heap := h' }) : wpAny M (A.deeper env) (leaving env (.ref e)) Q E s' := by
  obtain ⟨he, heL, hge⟩ := N _ List.mem_cons_self
  obtain ⟨oL, esL, epL, hoL, hdL, _⟩ := F.ns
  have gL : g.get? L = none := kts_self F
  have bL : base.get? L = none := fresh_of_stays K.stays gL
  have be : base.get? e = none := fresh_of_stays K.stays hge
  have outerIn : ∀ b ∈ outer.filterMap (·.frame), ∃ o, g.get? b = some o ∧ ∀ ws, o.data ≠ .fields ws := fun b hb => (K.frames.mem hb).2
  have fr : s'.heap.FunFrames base (env :: outer) := ⟨hk, ⟨L, oL, hf, bL, hoL, fun ws q => by rw [hdL] at q; cases q⟩, K.frames.of_keeps fun b o hb _ => ⟨o, F.keep b o hb, rfl⟩⟩
  let hid : List Addr := e :: (env :: outer).filterMap (·.frame)
  have toB : ∀ b o, s'.heap.get? b = some o → b ∉ hid → (hideAll s'.heap hid).get? b = some o := fun b o q nm => hideAll_get _ q nm
  have st : base.StaysIn (hideAll s'.heap hid) := fun b o q => toB b o (F.keep _ _ (K.stays b o q)) fun hm => by
    rcases List.mem_cons.mp hm with z | z
    · rw [z, be] at q; cases q
    · rcases frame_mem hf z with z | z
      · rw [z, bL] at q; cases q
      · rw [(K.frames.mem z).1] at q; cases q
  have sg : ∀ b o, g.get? b = some o → b ∉ outer.filterMap (·.frame) → (hideAll s'.heap hid).get? b = some o := fun b o q nm => toB b o (F.keep _ _ q) fun hm => by
    rcases List.mem_cons.mp hm with z | z
    · rw [z, hge] at q; cases q
    · rcases frame_mem hf z with z | z
      · rw [z, gL] at q; cases q
      · exact nm z
  have hl : ∀ q ∈ news, (hideAll s'.heap hid).get? q.1 = some q.2 ∧ g.get? q.1 = none ∧ base.get? q.1 = none := fun q hq => by
    obtain ⟨n1, n2, n3⟩ := N q (List.mem_cons_of_mem _ hq)
    refine ⟨toB _ _ n1 fun hm => ?_, n3, fresh_of_stays K.stays n3⟩
    rcases List.mem_cons.mp hm with z | z
    · exact hne q hq z
    · rcases frame_mem hf z with z | z
      · exact n2 z
      · obtain ⟨o, ho, _⟩ := outerIn _ z
        rw [n3] at ho; cases ho
  have hin : ∀ x ∈ (env :: outer), ∀ b, x.frame = some b → b ∈ hid := fun x hx b hb => List.mem_cons_of_mem _ (List.mem_filterMap.mpr ⟨x, hx, hb⟩)
  refine leave_first (base := hideAll s'.heap hid) (Around.frames_deeper K.stack) (funFrames_hide fr hin) hf he (fun b o q => of_hideAll _ q) (hideAll_none _ List.mem_cons_self) hd h1 hD fun h' a1 a2 a3 a4 => ?_
  rw [hc] at a3
  exact hQ h' ⟨_, st, sg, hl, a1, hideAll_none _ List.mem_cons_self, a2, a3⟩ ((Heap.UpToSlots.of_keeps F.keep).trans a4)

theorem fault_goes_on (K : Below A base outer g) (F : Fr g L g₂ m) (R : RaisedF base g₂ (env :: outer) e D news s'.heap) (hsm : g₂.UpToSlots s'.heap) (hf : env.frame = some L)
    (hQ : ∀ h', RaisedF base g outer e D news h' → g.UpToSlots h' → Q () { s' with heap := h' }) : wpAny M (A.deeper env) (leaving env (.ref e)) Q E s' := by
  obtain ⟨B, hB, hBG, hl, b1, b2, b3, b4⟩ := R
  refine leave_next (Around.frames_deeper K.stack) b3 hf b1 b2 b4 fun h' a1 a2 a3 a4 => ?_
  refine hQ h' ⟨B, hB, fun b o q nm => hBG b o (F.keep b o q) fun hm => ?_, fun q hq => ⟨(hl q hq).1, kts_none F.keep (hl q hq).2.1, (hl q hq).2.2⟩, a1, b2, a2, a3⟩ ((Heap.UpToSlots.of_keeps F.keep).trans (hsm.trans a4))
  rcases frame_mem hf hm with z | z
  · rw [z, kts_self F] at q; cases q
  · exact nm z
end

section
variable {prog : Program} {w : World} {A₀ : Around} {E : Value → Shared → Prop} {s' : Shared} {base g g₀ G : Heap} {outer : List Env} {L a e D : Addr} {m : Str → Option Value} {name : Str} {scope : Scope} {cd : Value}
  {n : Str} {b₀ : Stmt} {suite : List Stmt} {pos np : Pos} {rest : List ExceptHandler} {Q : Flow → Shared → Prop} {news : List (Addr × Obj)} {KF : Frag}
  {p : Program} {loose : List Str} {mean : ExcName → Option Value} {mg mb : Str → Option Value} {x : Str}
theorem fault_caught (R : RaisedF base G (envOf name scope L a cd :: outer) e D news s'.heap) (F : Fr g L G m) (K : Below A₀ base outer g) (hsm : G.UpToSlots s'.heap) (XB : KF.In base) (TB : Top p loose mean mg mb base)
    (Dk : KtsDicts (outer.filterMap (·.frame)) g) (T0 : KtsTurn (outer.filterMap (·.frame)) g₀ g)
    (ex : nsIn KF mainGlobals x = some (some (.ref 61))) (q : ktsIn KF 61 "BaseException" = true)
    (k : ∀ h' g' tk oe vs, KtsTurn (outer.filterMap (·.frame)) g₀ g' → Fr g' L h' (fun y => if y = n then some (.ref e) else m y) → News g' L h' ((e, oe) :: news) → oe.cls = .ref 61 → oe.dict = some D → oe.data = .fields vs → Below A₀ base outer g' → KF.In g' → Top p loose mean mg mb g' → KtsDicts (outer.filterMap (·.frame)) g' →
      wpAny (model prog w) ((A₀.deeper (envOf name scope L a cd)).mark (some (.ref e))) (execs (b₀ :: suite) (envOf name scope L a cd))
        (fun f s₄ => wpAny (model prog w) (A₀.deeper (envOf name scope L a cd)) (do bindName (envOf name scope L a cd) n .none; unbindBehindTheSuite (envOf name scope L a cd) n pos) (fun _ s₅ => Q f s₅) E s₄)
        (AsSuiteRaised (model prog w) ((A₀.deeper (envOf name scope L a cd)).mark (some (.ref e))) (envOf name scope L a cd) n pos (notedBy (model prog w) ((A₀.deeper (envOf name scope L a cd)).mark (some (.ref e))) (envOf name scope L a cd) (cameBackBy (model prog w) (A₀.deeper (envOf name scope L a cd)) (envOf name scope L a cd) E)))
        { s' with heap := h', toks := tk })
    (hk : scope.kind = .function := by rfl) (hlo : (envOf name scope L a cd).kindOf n = some .local := by rfl) (hx : (envOf name scope L a cd).kindOf x = some .globalImplicit := by rfl) (hd : (x == ("__debug__" : Str)) = false := by decide) :
    wpAny (model prog w) (A₀.deeper (envOf name scope L a cd)) (noteFrame (.ref e) (envOf name scope L a cd))
      (fun _ s₂ => wpAny (model prog w) (A₀.deeper (envOf name scope L a cd)) (setFlight (.ref e) none) (fun _ s₃ =>
        wpAny (model prog w) (A₀.deeper (envOf name scope L a cd)) (handleBy (.ref e) (envOf name scope L a cd) (.ExceptHandler (some (.Name x np)) (some n) (b₀ :: suite) pos :: rest)) Q E s₃) E s₂) E s' := by
  obtain ⟨B, hB, hBG, hl, b1, b2, b3, b4⟩ := R
  have hL : B.get? L = none := by
    obtain ⟨_, ⟨L', _, hf, hn', _⟩, _⟩ := b3
    obtain rfl : L = L' := Option.some.inj hf
    exact hn'
  refine note_next (Around.frames_deeper K.stack) b3 rfl b1 b2 b4 fun h₄ a1 a2 a3 a4 => ?_
  refine land_flight a1 b2 a2 a3 fun h₅ c1 c2 c3 c4 => ?_
  have sm₅ := hsm.trans (a4.trans c4)
  obtain ⟨g₅, T₅, F₅, K₅⟩ := kts_ground K F hBG c1 sm₅
  have X₅ : KF.In g₅ := XB.keeps K₅.stays
  have P₅ : TopRead p loose mg mb g₅ := topRead_of (TB.keeps K₅.stays)
  obtain ⟨oe5, _, _, _, _, he5, hc5, _⟩ := id c3
  refine wpAny_handleBy_cons (codeAny_handlers_test (name_K F₅ X₅ P₅ ex ?_ hk hx hd)) (by intro z; cases z)
  obtain ⟨nm, qn, N, bs, bm, hdct, sn, sub, ab, col, dd, k0, k1, k2, k3, k5, newId, hC, hbase, _⟩ := kts_cls (X₅.keeps F₅.keep) q
  refine wpAny_excMatches_sub_self hC he5 hc5 hbase (codeAny_handlers_suite_as ?_)
  refine land_flight c1 b2 c2 c3 fun h₆ d1 d2 d3 d4 => ?_
  have sm₆ := sm₅.trans d4
  obtain ⟨g₆, T₆, F₆, K₆⟩ := kts_ground K F hBG d1 sm₆
  obtain ⟨oe, vs, _, _, _, he6, hc6, hD6, hd6, _⟩ := id d3
  have ne₆ : g₆.get? e = none := T₆.none_ _ (kts_fresh F hBG b2 fun o ho hm => by
    obtain ⟨_, o', ho', hd'⟩ := K.frames.mem hm
    rw [ho] at ho'
    cases ho'
    obtain ⟨sl, hs⟩ := sm₆ _ _ (F.keep _ _ ho) hd'
    rw [he6] at hs
    cases hs
    exact hd' _ hd6)
  have Ne := News.more F₆ (News.nil (h := h₆)) he6 (fun es n z => by rw [hd6] at z; cases z) ne₆
  have Nl : News g₆ L h₆ ((e, oe) :: news) := fun r hr => by
    rcases List.mem_cons.mp hr with rfl | hr
    · exact Ne _ List.mem_cons_self
    · exact ⟨d1 _ _ (hl r hr).1, (fun z => by have := (hl r hr).1; rw [z, hL] at this; cases this), T₆.none_ _ (kts_none F.keep (hl r hr).2.1)⟩
  refine stN F₆ Nl (fun h₇ F₇ N₇ => ?_) hk hlo
  exact k h₇ g₆ _ oe vs (T0.trans T₆) F₇ N₇ hc6 hD6 hd6 K₆ (XB.keeps K₆.stays) (TB.keeps K₆.stays) (Dk.turn T₆)
end
end
section
open PySem.Calls PySem.Spec
abbrev excDone (C D t : Addr) : Obj := { cls := .ref C, dict := some D, data := .fields #[.ref t, .none, .none, .none, .bool false, .none] }
def FaultP (E : Value → Shared → Prop) (v : Value) (s₁ : Shared) : Prop :=
  ∃ e D t nm qn N bs bm hdct sn sub ab col dd k0 k1 k2 k3 k5 newId, v = .ref e ∧ s₁.heap.get? 61 = some (excClassObj nm qn 61 N bs bm hdct sn sub ab col dd k0 k1 k2 k3 k5 newId) ∧ bm.contains (.type "BaseException") = true ∧
    s₁.heap.get? e = some (excDone 61 D t) ∧ E (.ref e) s₁
def MadeP (Q : Value → Shared → Prop) (e : Addr) (r : Value) (s' : Shared) : Prop := r = .none ∧ Q (.ref e) s'
theorem MadeP.intro {Q : Value → Shared → Prop} {e : Addr} {s' : Shared} (h : Q (.ref e) s') : MadeP Q e .none s' := ⟨rfl, h⟩
section
variable {M : Model} {A : Around} {E : Value → Shared → Prop} {s : Shared} {env : Env}
theorem raise_fault {ex : Expr} {pos : Pos} {Q : Flow → Shared → Prop} (hh : A.handled = none) (h : wpAny M A (eval ex env) (FaultP E) E s) : wpAny M A (exec (.Raise (some ex) none pos) env) Q E s := by
  show wpAny M A (do standAt pos; raiseStmt env (some (do let v ← eval ex env; standAt pos; pure v)) none) Q E s
  refine wpAny_bind (wpAny_standAt ?_)
  unfold raiseStmt
  refine wpAny_bind (wpAny_bind (wpAny_mono h (fun v s₁ h₁ => wpAny_bind (wpAny_standAt (wpAny_pure ?_))) fun _ _ x => x))
  obtain ⟨e, D, t, nm, qn, N, bs, bm, hdct, sn, sub, ab, col, dd, k0, k1, k2, k3, k5, newId, rfl, hC, hb, he, hE⟩ := h₁
  have hcB : (Value.ref 61 :: bm).contains (.type "BaseException") = true := by rw [List.contains_cons, hb, Bool.or_true]
  obtain ⟨hp, g, d, tk, os⟩ := s₁
  repeat (first | with_reducible refine wpAny_loadPart_at he ?_ | with_reducible refine wpAny_loadPart_at hC ?_ | (with_reducible refine wpAny_isSubtype_exc hC ?_; rw [hcB]) | wp_step)
  exact wpAny_raiseNew_none hh hE
end
theorem k61b (p : Params) : ktsIn (hd.heap_39 p) 61 "BaseException" = true := by kernel_rfl
theorem FaultP.intro {E : Value → Shared → Prop} {p : Params} {h₀ : Heap} {L : Addr} {m : Str → Option Value} {news : List (Addr × Obj)} {s : Shared} {e D t : Addr} (F : Fr h₀ L s.heap m) (X : (hd.heap_39 p).In h₀) (N : News h₀ L s.heap news) (hm : (e, excDone 61 D t) ∈ news) (h : E (.ref e) s) : FaultP E (.ref e) s := by
  obtain ⟨nm, qn, N', bs, bm, hdct, sn, sub, ab, col, dd, k0, k1, k2, k3, k5, newId, hC, hb, _⟩ := kts_cls (X.keeps F.keep) (k61b p)
  exact ⟨e, D, t, nm, qn, N', bs, bm, hdct, sn, sub, ab, col, dd, k0, k1, k2, k3, k5, newId, rfl, hC, hb, (N _ hm).1, h⟩
theorem make_faultP {prog : Program} {w : World} {A : Around} {E : Value → Shared → Prop} {s : Shared} {h₀ : Heap} {L : Addr} {m : Str → Option Value} {Q : Value → Shared → Prop} {news : List (Addr × Obj)} {rest : List Value} (F : Fr h₀ L s.heap m) (X : (hd.heap_39 w.params).In h₀) (N : News h₀ L s.heap news) (hr : rest.length ≤ sizeLine)
    (hq : ∀ e t h', Fr h₀ L h' m → News h₀ L h' ((e, excNew 61 t) :: (t, tupObj rest) :: news) → (∀ p ∈ news, @LT.lt Nat _ p.1 t) → @LT.lt Nat _ t e →
      wpAny (model prog w) (A.under (.builtin "type.__call__" ⟨.ref 61 :: rest, []⟩)) (call (.ref 38) (.ref e :: rest)) (MadeP Q e) E { s with heap := h' }) :
    wpAny (model prog w) A (call (.ref 61) rest) Q E s := make_fault F X N hr hq
end
section
open PySem.Calls PySem.Spec
section
variable {prog : Program} {w : World} {A₀ A : Around} {s : Shared} {base h₀ : Heap} {env : Env} {L : Addr} {m : Str → Option Value} {news : List (Addr × Obj)} {K : Frag} {p : Program} {loose : List Str} {mean : ExcName → Option Value} {mg mb : Str → Option Value}
    {R : Result → Shared → Prop} {name qual : Str} {params : Arguments} {body : List Stmt} {scope : Scope} {dV kV doc pm cdv ct oc : Value} {an od : Option Addr} {osl : Array (Option Value)} {f : Addr} {args : Args} {binds : List (Str × Value)}
theorem code_tryF (B : Below A₀ base [] h₀) (F : Fr h₀ L s.heap m) (X₀ : K.In h₀) (N : News h₀ L s.heap news) (T : Top p loose mean mg mb h₀) (hA : A.frames = some [env]) (hf : env.frame = some L) (hke : env.scope.kind = .function)
    (ho : K.lookup f = some ⟨oc, od, .func (fnOf name qual params body scope dV kV doc pm an cdv ct), osl⟩) (hcd : codeIn K cdv qual = true) (hroom : A.depth < recursionLimit)
    (hbind : BindsTo s (fnOf name qual params body scope dV kV doc pm an cdv ct) args binds) (hloc : ∀ y ∈ binds, scope.names.lookup y.1 = some .local)
    (h : ∀ g L' h₁, Fr h₀ L g m → Fr g L' h₁ (fun y => binds.reverse.lookup y) → News g L' h₁ news → Below A base [env] g → K.In g → Top p loose mean mg mb g → KtsDicts ([env].filterMap (·.frame)) g →
      wpAny (model prog w) (A.deeper (envOf qual scope L' f cdv)) (execs body (envOf qual scope L' f cdv))
        (fun fl s' => LeaveS0 ([env].filterMap (·.frame)) h₀ L m g R (match fl with | .ret v => v | _ => .none) s')
        (fun e s' => wpAny (model prog w) (A.deeper (envOf qual scope L' f cdv)) (leaving (envOf qual scope L' f cdv) e) (fun _ s'' => R (.error e) s'') (fun e' s'' => R (.error e') s'') s')
        { s with heap := h₁, toks := s.toks + binds.length })
    (hco : scope.isCoroutine = false) (hgen : scope.isGenerator = false) (hk : scope.kind = .function)
    (hcell : ∀ x ∈ scope.names, x.2 ≠ .cell) : codeAny (model prog w) A (.call (.ref f) args) R s := by
  obtain ⟨FG, B₂, st, _⟩ := groundX (R := R) B F N hA hf hke
  obtain ⟨oL, es, ep, hLg, hLd, hLk, hLf⟩ := FG.ns
  have fm : ∀ b ∈ [env].filterMap (·.frame), b = L := fun b hb => by
    rcases frame_mem hf hb with z | z
    · exact z
    · simp at z
  have X := X₀.keeps F.keep
  refine codeAny_call_def (fd := fnOf name qual params body scope dV kV doc pm an cdv ct) (body := body) (binds := binds) hroom (X _ _ ho) rfl (T.nolimit.keeps F.keep) (codeRec_of X hcd) rfl hbind hcell hloc (fun h₁ hns hk₁ => ?_) hco hgen hk
  refine wpAny_mono (h _ s.heap.objs.size h₁ FG ⟨hns, fun b o e => hk₁ b o (of_hideAll _ e), Nat.le_of_eq (hideAll_size _ _)⟩
    (fun p hp => ⟨hk₁ _ _ (N p hp).1, Nat.ne_of_lt (Heap.lt_size (N p hp).1), hideAll_none _ (List.mem_map_of_mem hp)⟩) B₂ (X₀.keeps st) (T.keeps st) (fun b hb => by
      rw [fm b hb]; exact ⟨oL, es, ep, hLg, hLd⟩)) (fun fl s' hl => ?_) fun _ _ y => y
  obtain ⟨g', L', m', news', T', F', N', k⟩ := hl
  have nL₀ : h₀.get? L = none := kts_self F
  obtain ⟨sl, hs⟩ := T'.up hLg
  refine k ⟨⟨_, es, ep, F'.keep _ _ hs, hLd, hLk, hLf⟩, fun b o e => F'.keep b o (T'.other b o (st b o e) (fun q => by
    rw [fm b q, nL₀] at e
    cases e)), F.above⟩ fun p hp => ⟨(N' p hp).1, fun q => ?_, ?_⟩
  · have := (N' p hp).2.2; rw [q, hs] at this; cases this
  · cases q : h₀.get? p.1 with
    | none => rfl
    | some o =>
      obtain ⟨sl', hs'⟩ := T'.up (st _ _ q)
      have := (N' p hp).2.2
      rw [hs'] at this
      cases this
end
end
section
open PySem.Calls PySem.Spec
open Sem (wp)
abbrev wrapObj (x : Addr) : Obj := { cls := .type "method-wrapper", data := .fields #[.builtin "Exception.__init__", .ref x] }
theorem slot_wget : Slot "wrapper_descriptor" "__get__" "wrapper_descriptor.__get__" :=
  .of (owner := "wrapper_descriptor") (n := "__get__") (by rw [typeLookup_type, builtinLookup_eq_fast]; kernel_rfl) (by decide +kernel) (by decide +kernel) (by decide +kernel)
    (by first | exact .inl (by decide +kernel) | exact .inr (by decide +kernel)) (by rw [isSubtype_type]; kernel_rfl)
theorem entry_wget : entryFor table "wrapper_descriptor.__get__" = some Builtin.«wrapper_descriptor.__get__» := entryFor_of_tree (by kernel_rfl)
theorem args_wget (a b c : Value) : argsOk "wrapper_descriptor.__get__" ⟨[a, b, c], []⟩ := by unfold argsOk; kernel_rfl
theorem type_xi : typeOf (.builtin "Exception.__init__") = pure (.type "wrapper_descriptor") := by show builtinType _ = _; rw [builtinType_eq_fast]; kernel_rfl
theorem cut_xi : "Exception.__init__".cutAt '.' = ["Exception", "__init__"] := by first | decide +kernel | kernel_rfl
section
variable {prog : Program} {w : World} {M : Model} {A : Around} {E : Value → Shared → Prop} {h : Heap} {g : Array GenState} {d : Drawn} {t : Nat} {os : OsState}
theorem run_wget {x C : Addr} {P : Fin → Shared → Prop} (hi : Looks M h (isInstance (.ref x) (.type "Exception")) true) (hq : P (.done (.ret (.ref h.objs.size))) ⟨h.push (wrapObj x), g, d, t, os⟩) :
    wpAny M A (Builtin.«wrapper_descriptor.__get__» ⟨[.builtin "Exception.__init__", .ref x, .ref C], []⟩) P E ⟨h, g, d, t, os⟩ := by
  unfold Builtin.«wrapper_descriptor.__get__»
  refine wpAny_bind (wpAny_of_eq (a := (.builtin "Exception.__init__", some (.ref x), some (.ref C))) (by first | rfl | kernel_rfl) ?_)
  refine wpAny_bind (wpAny_bind (wpAny_of_eq (a := ((PySem.Str.ofString "__init__" : PySem.Str), Value.type "Exception")) ?_ ?_))
  · show (pure (PySem.Str.ofString (("Exception.__init__".cutAt '.').getLastD ""), Value.type (".".intercalate ("Exception.__init__".cutAt '.').dropLast)) : Sem _) = _
    rw [cut_xi]
    rfl
  refine wpAny_bind (Looks.at hi ?_)
  rw [if_neg (by decide)]
  exact wpAny_pure (wpAny_bind (wpAny_newObj_type (wpAny_pure hq)))

theorem sup_ga {so D x C : Addr} {l₀ l : List Value} {K : Frag} {name : PySem.Str} {tk : Tok} {Q : Fin → Shared → Prop}
    (hso : h.get? so = some { cls := .type "super", dict := none, data := .fields #[.ref D, .ref x, .ref C], slots := #[] }) (hno : Looks (model prog w) h (opaqueClassAbove (.ref C)) none)
    (hC : Looks (model prog w) h (mroOf (.ref C)) l₀) (hl : (l₀.dropWhile (· != .ref D)).drop 1 = l) (X : K.In h)
    (hf : alongIn K name l = some (some (.builtin "Exception.__init__"))) (hi : Looks (model prog w) h (isInstance (.ref x) (.type "Exception")) true) (hxC : x ≠ C) (hn : (name == ("__class__" : PySem.Str)) = false)
    (hq : Q (.done (.ret (.ref h.objs.size))) ⟨h.push (wrapObj x), g, d, t, os⟩) :
    wpAny (model prog w) A (Builtin.«super.__getattribute__» ⟨[.ref so, .str name tk], []⟩) Q E ⟨h, g, d, t, os⟩ := by
  have hlk := slot_wget.lookup
  have hne : (Value.ref x == Value.ref C) = false := by simp [hxC]
  have hdt : ({ cls := .type "super", dict := none, data := .fields #[.ref D, .ref x, .ref C], slots := #[] } : Obj).data = .fields #[.ref D, .ref x, .ref C] := rfl
  have f0 : (#[.ref D, .ref x, .ref C] : Array Value)[0]? = some (.ref D) := rfl
  have f1 : (#[.ref D, .ref x, .ref C] : Array Value)[1]? = some (.ref x) := rfl
  have f2 : (#[.ref D, .ref x, .ref C] : Array Value)[2]? = some (.ref C) := rfl
  have hrun : ∀ {A : Around}, wpAny (model prog w) A (call (.builtin "wrapper_descriptor.__get__") [.builtin "Exception.__init__", .ref x, .ref C]) (fun v s' => v = .ref h.objs.size ∧ s' = ⟨h.push (wrapObj x), g, d, t, os⟩) (fun _ _ => False) ⟨h, g, d, t, os⟩ :=
    wpAny_call_entry slot_wget type_xi entry_wget (run_wget hi ⟨_, rfl, rfl, rfl⟩) (args_wget _ _ _)
  unfold Builtin.«super.__getattribute__»
  repeat (first
    | (with_reducible refine wpAny_field hso hdt f0 ?_) | (with_reducible refine wpAny_field hso hdt f1 ?_) | (with_reducible refine wpAny_field hso hdt f2 ?_)
    | (with_reducible refine ks_wpAny_notOpaque hno ?_)
    | (with_reducible refine Looks.at hC ?_; rw [hl])
    | (refine ks_forIn_along X (fun _ _ => rfl) rfl ?_ hf)
    | (with_reducible refine wpAny_of_eq type_xi ?_)
    | (with_reducible refine wpAny_mono hrun (fun v s' hv => ?_) (fun _ _ z => z.elim); obtain ⟨rfl, rfl⟩ := hv)
    | (simp only [hn, hne, Bool.or_false, Bool.false_eq_true, if_false])
    | wp_step
    | dsimp only)
  all_goals exact hq

theorem sup_method {so D x C : Addr} {l₀ l : List Value} {K : Frag} {name : PySem.Str} {pl : Sem Bool} {Q : Value × List Value → Shared → Prop}
    (hso : h.get? so = some { cls := .type "super", dict := none, data := .fields #[.ref D, .ref x, .ref C], slots := #[] }) (hno : Looks (model prog w) h (opaqueClassAbove (.ref C)) none)
    (hC : Looks (model prog w) h (mroOf (.ref C)) l₀) (hl : (l₀.dropWhile (· != .ref D)).drop 1 = l) (X : K.In h)
    (hf : alongIn K name l = some (some (.builtin "Exception.__init__"))) (hi : Looks (model prog w) h (isInstance (.ref x) (.type "Exception")) true) (hxC : x ≠ C) (hn : (name == ("__class__" : PySem.Str)) = false)
    (hq : Q (.ref h.objs.size, []) ⟨h.push (wrapObj x), g, d, t + 1, os⟩) :
    wpAny (model prog w) A (getMethod (.ref so) name pl) Q E ⟨h, g, d, t, os⟩ := by
  have hlk := F.ks_slot_super_ga.lookup
  have hcan := F.ks_canon_super_ga
  have hT : ∀ t', (⟨h, g, d, t', os⟩ : Shared).TypeIs (.ref so) "super" := fun _ => ⟨_, hso, rfl⟩
  unfold getMethod
  refine wpAny_bind (wpAny_specialOf (hT _) hlk ?_)
  show wpAny _ _ (if (Manifest.canonical "super.__getattribute__" != "object.__getattribute__") = true then _ else _) _ _ _
  rw [if_pos hcan]
  unfold getAttr getAttrBy
  refine wpAny_bind (wpAny_bind (wpAny_mkText (wpAny_holding (wpAny_bind (wpAny_typeOf (hT _) (wpAny_bind (wpAny_of_eq hlk ?_)))))))
  show wpAny _ _ (getAttrByItsOwn (.ref so) (.str name t) (.type "super") (.builtin "super.__getattribute__") true false) _ _ _
  unfold getAttrByItsOwn hookBefore callGetattribute boundAndCalled
  refine wpAny_bind (wpAny_of_eq (show (if onTheHeap (.type "super") then typeLookup (.type "super") "__getattr__" else pure none) = pure none from rfl) ?_)
  refine wpAny_bind (wpAny_attempt (wpAny_holding ?_))
  show wpAny _ _ (bindSpecial (.builtin "super.__getattribute__") (.ref so) >>= _) _ _ _
  refine wpAny_bind (wpAny_of_eq (F.ks_slot_super_ga.bind _) ?_)
  refine wpAny_mono (Q := fun v s' => v = .ref h.objs.size ∧ s' = ⟨h.push (wrapObj x), g, d, t + 1, os⟩) (E := fun _ _ => False)
    (wpAny_call_entry F.ks_slot_super_ga (hT _) F.ks_entry_super_ga (sup_ga hso hno hC hl X hf hi hxC hn ⟨_, rfl, rfl, rfl⟩) (F.ks_gaArgs_super _ _)) (fun v s' hv => ?_) fun _ _ z => z.elim
  obtain ⟨rfl, rfl⟩ := hv
  exact wpAny_pure (wpAny_pure hq)
end
end
section
open PySem.Calls PySem.Spec PySem.Builtin
open PySem.Builtin.ObjectAttr
theorem kc61 (p : Params) : ∃ cd, clsIn (hd.heap_39 p) 61 = some cd ∧ cd.mro = .ref 61 :: .ref 48 :: excBm ∧ cd.hasDict = true := ⟨_, rfl, rfl, rfl⟩
theorem kset (p : Params) : findIn (hd.heap_39 p) (.ref 61) "__setattr__" = some (some (.builtin "object.__setattr__")) := by kernel_rfl
theorem kget (p : Params) : findIn (hd.heap_39 p) (.ref 61) "__getattribute__" = some (some (.builtin "BaseException.__getattribute__")) := by kernel_rfl
theorem khook (p : Params) : findIn (hd.heap_39 p) (.ref 61) "__getattr__" = some none := by kernel_rfl
theorem khook2 (p : Params) : (if onTheHeap (.ref 61) then findIn (hd.heap_39 p) (.ref 61) "__getattr__" else some none) = some none := by kernel_rfl
theorem kta (p : Params) : takerIn (hd.heap_39 p) 61 "at" = some none := by kernel_rfl
theorem ktw (p : Params) : takerIn (hd.heap_39 p) 61 "what" = some none := by kernel_rfl
theorem ksup (p : Params) : ks_superIn (hd.heap_39 p) 61 48 "__init__" = some (some (.builtin "Exception.__init__")) := by kernel_rfl
theorem kmE (p : Params) : mroIn (hd.heap_39 p) 61 (.type "Exception") = some true := by kernel_rfl
theorem kmB (p : Params) : mroIn (hd.heap_39 p) 61 (.type "BaseException") = some true := by kernel_rfl
theorem kmO (p : Params) : mroIn (hd.heap_39 p) 61 (.type "object") = some true := by kernel_rfl
theorem kop (p : Params) : nsIn (hd.heap_39 p) cStatics "thirdparty.any" = some none := by kernel_rfl
theorem refuse61 (self : Value) : refuseLoop self "__setattr__" (.ref 61 :: .ref 48 :: excBm) = pure () := by
  rw [refuseLoop_ref, refuseLoop_ref]; exact PySem.F.store_Exception.passes self

section
variable {prog : Program} {w : World} {A : Around} {E : Value → Shared → Prop} {s : Shared} {R : Result → Shared → Prop} {h₀ : Heap} {L : Addr} {m : Str → Option Value} {x : Addr} {ox : Obj} {od : Option Obj} {name : Str} {v : Value} {tk : Tok}

theorem osx_open {r : Option Value} (X : (hd.heap_39 w.params).In s.heap) (I : InstAt s.heap x ox 61 od) (ht : takerIn (hd.heap_39 w.params) 61 name = some r)
    (h : ∀ b, wpAny (model prog w) A.in1 (match r with | some a => setByDescriptor a (.ref x) v | none => storeInOwnDict (.ref x) (.ref 61) (.str name tk) name v b)
      (fun fin s' => match fin with | .done f => R (.ok f) s' | .again c' => c'.quiet = true ∧ codeAny (model prog w) A c' R s') (fun e s' => R (.error e) s') s) :
    codeAny (model prog w) A (.call (.builtin "object.__setattr__") ⟨[.ref x, .str name tk, v], []⟩) R s := by
  have SF := PySem.F.store_object
  obtain ⟨cd, hc, ho, _⟩ := kc61 w.params
  have sub : Looks (model prog w) s.heap (isInstance (.ref x) (.type "object")) true := I.type.andThen (looks_mroIn X (kmO w.params))
  refine codeAny_call_builtin SF.slot.plain SF.entry (@check_slot (model prog w) _ _ s "object.__setattr__" "object" "__setattr__" (.ref x) [.str name tk, v] [] _ SF.kind SF.split sub (SF.args (.ref x) (.str name tk) v) ?_)
  obtain ⟨attr, ha, hr⟩ := Option.bind_eq_some_iff.mp ht
  have hm : Looks (model prog w) s.heap (mroOf (.ref 61)) cd.mro := (looks_clsIn X hc).andThen .now
  have L3 : Looks (model prog w) s.heap (storeTaker? attr) r := by
    cases attr with
    | none => cases hr; exact .now
    | some a =>
      obtain ⟨b, hb, rfl⟩ := Option.map_eq_some_iff.mp hr
      refine (looks_takesIn X hb).andThen ?_
      cases b <;> exact .now
  rw [osa_eq, refuse_eq]
  refine wpAny_bind (wpAny_bind (I.type.here (wpAny_bind (hm.here ?_))))
  rw [ho, refuse61]
  refine wpAny_pure (wpAny_bind (I.type.here (wpAny_bind ((looks_findIn X ha).here (wpAny_bind (L3.here ?_))))))
  exact h _

abbrev dict1 (h1 : Int) (n1 : Str) (t1 : Tok) (v1 : Value) : Obj := { cls := .type "dict", data := .dict #[⟨h1, .str n1 t1, v1⟩] 1 }
abbrev dict2 (h1 h2 : Int) (n1 n2 : Str) (t1 t2 : Tok) (v1 v2 : Value) : Obj := { cls := .type "dict", data := .dict #[⟨h1, .str n1 t1, v1⟩, ⟨h2, .str n2 t2, v2⟩] 2 }

theorem put_in {Q : Fin → Shared → Prop} {E : Value → Shared → Prop} {dx : Addr} {o o' : Obj} {es : Array DictEntry} {n : Nat} {es' : List DictEntry} {n' : Nat} {pre post : List (Addr × Obj)} (F : Fr h₀ L s.heap m) (N : News h₀ L s.heap (pre ++ (dx, o) :: post)) (h1 : ∀ p ∈ pre, p.1 ≠ dx) (h2 : ∀ p ∈ post, p.1 ≠ dx)
    (ho : o.data = .dict es n) (c : (!es.any (·.key.isStr name) && es.any (·.refKey)) = false)
    (e : Obj.putName name (PyData.keyHash w.params name) (.str name s.toks) v o = o') (e' : o'.data = .dict es'.toArray n') (hz : es'.length ≤ 1000)
    (h : ∀ h', Fr h₀ L h' m → News h₀ L h' (pre ++ (dx, o') :: post) → Q (.done (.ret .none)) { s with heap := h', toks := s.toks + 1 }) :
    wpAny (model prog w) A (storeInDict dx (.str name tk) name v) Q E s := by
  obtain ⟨U1, U2⟩ := news_upd (f := Obj.putName name (PyData.keyHash w.params name) (.str name s.toks) v) F N h1 h2 e (by obtain ⟨_, _, dd, _⟩ := o'; cases e'; rfl)
  have D := (N (dx, o) (by simp)).1
  have D' := (U2 (dx, o') (by simp)).1
  unfold storeInDict newKeyGuard
  refine wpAny_bind (wpAny_pure (wpAny_bind ?_))
  unfold nsSet
  refine wpAny_bind (wpAny_bind (wpAny_askSetting (wpAny_pure (wpAny_bind (wpAny_mkText (wpAny_bind (wpAny_loadPart D ?_)))))))
  rw [ho]
  dsimp only
  rw [aRefKeyMayBeTheName_at, c]
  refine wpAny_updatePart D ?_
  refine wpAny_bind (wpAny_lookBehind D' (by rw [e']; exact pastItsLine_dict (by rw [List.size_toArray, sizeLine_eq]; omega)) ?_)
  exact wpAny_pure (h _ U1 U2)

theorem own_dict_new {Q : Fin → Shared → Prop} {E : Value → Shared → Prop} {b : Bool} {pre post : List (Addr × Obj)} (F : Fr h₀ L s.heap m) (N : News h₀ L s.heap (pre ++ (x, ox) :: post)) (X : (hd.heap_39 w.params).In s.heap)
    (I : InstAt s.heap x ox 61 none) (h1 : ∀ p ∈ pre, p.1 ≠ x) (h2 : ∀ p ∈ post, p.1 ≠ x)
    (h : ∀ D h' hk tk', Fr h₀ L h' m → News h₀ L h' ((D, dict1 hk name tk' v) :: (pre ++ (x, { ox with dict := some D }) :: post)) → (∀ p ∈ pre ++ (x, ox) :: post, @LT.lt Nat _ p.1 D) → Q (.done (.ret .none)) { s with heap := h', toks := s.toks + 1 }) :
    wpAny (model prog w) A (storeInOwnDict (.ref x) (.ref 61) (.str name tk) name v b) Q E s := by
  obtain ⟨cd, hc, _, hd'⟩ := kc61 w.params
  obtain ⟨hx, hcl, hn, hdd⟩ := I
  obtain ⟨oc, odi, oda, osl⟩ := ox
  dsimp only at hcl hdd
  subst hcl
  cases odi with
  | some dx => exact hdd.elim
  | none =>
  refine wpAny_bind (wpAny_pure ?_)
  refine wpAny_bind (wpAny_bind (wpAny_loadPart hx (wpAny_bind ((looks_clsIn X hc).here ?_))))
  rw [hd', if_neg (by decide)]
  refine wpAny_bind (wpAny_pure ?_)
  dsimp only
  have nc : ∀ c, oda ≠ .cls c := by
    intro c q
    subst q
    exact absurd hn (by simp [notCls])
  have N1 := News.push F N { cls := .type "dict", data := .dict #[] }
  have F1 := F.push { cls := .type "dict", data := .dict #[] }
  have lt1 : ∀ p ∈ pre ++ (x, (⟨.ref 61, none, oda, osl⟩ : Obj)) :: post, @LT.lt Nat _ p.1 s.heap.objs.size := fun p hp => Heap.lt_size (N p hp).1
  have hx1 : (s.heap.push { cls := .type "dict", data := .dict #[] }).get? x = some ⟨.ref 61, none, oda, osl⟩ := Heap.get?_push_of_some _ hx
  have ltx : @LT.lt Nat _ x s.heap.objs.size := Heap.lt_size hx
  obtain ⟨F2, N2⟩ := news_upd (pre := (s.heap.objs.size, { cls := .type "dict", data := .dict #[] }) :: pre) (f := fun o => { cls := o.cls, dict := some s.heap.objs.size, data := o.data, slots := o.slots }) F1 N1
    (fun p hp => by
      rcases List.mem_cons.mp hp with rfl | hp
      · exact Nat.ne_of_gt ltx
      · exact h1 p hp) h2 rfl (by
      have hfr := (Heap.get?_some_iff.mp hx).2
      cases oda <;> first | rfl | exact hfr)
  split
  · exact absurd rfl (nc _)
  · refine wpAny_bind (wpAny_alloc' ?_)
    refine wpAny_bind (wpAny_update' hx1 ?_)
    refine wpAny_pure ?_
    refine put_in (s := { s with heap := _ }) (pre := []) F2 N2 (fun p hp => absurd hp List.not_mem_nil) (fun p hp => ?_) rfl (by simp) rfl (es' := [⟨_, .str name s.toks, v⟩]) (n' := 1) rfl (by simp) fun h' F' N' => ?_
    · rcases List.mem_append.mp hp with q | q
      · exact Nat.ne_of_lt (lt1 p (List.mem_append_left _ q))
      · rcases List.mem_cons.mp q with rfl | q
        · exact Nat.ne_of_lt ltx
        · exact Nat.ne_of_lt (lt1 p (List.mem_append_right _ (.tail _ q)))
    · exact h _ h' _ _ F' N' lt1

theorem set_first {Q : Unit → Shared → Prop} {pre post : List (Addr × Obj)} {t : Addr} (F : Fr h₀ L s.heap m) (X : (hd.heap_39 w.params).In h₀) (N : News h₀ L s.heap (pre ++ (x, excNew 61 t) :: post)) (h1 : ∀ p ∈ pre, p.1 ≠ x) (h2 : ∀ p ∈ post, p.1 ≠ x)
    (ht : takerIn (hd.heap_39 w.params) 61 name = some none)
    (h : ∀ D h' hk tk' k, Fr h₀ L h' m → News h₀ L h' ((D, dict1 hk name tk' v) :: (pre ++ (x, excDone 61 D t) :: post)) → (∀ p ∈ pre ++ (x, excNew 61 t) :: post, @LT.lt Nat _ p.1 D) → Q () { s with heap := h', toks := k }) :
    wpAny (model prog w) A (setAttr (.ref x) name v) Q E s := by
  have X' := X.keeps F.keep
  have I : InstAt s.heap x (excNew 61 t) 61 none := ⟨(N (x, excNew 61 t) (by simp)).1, rfl, rfl, trivial⟩
  refine set_plain X' I (kset _) ?_
  refine osx_open (s := { s with toks := s.toks + 1 }) X' I ht fun b => ?_
  exact own_dict_new (s := { s with toks := s.toks + 1 }) F N X' I h1 h2 fun D h' hk tk' F' N' l => h D h' hk tk' _ F' N' l

theorem set_next {Q : Unit → Shared → Prop} {pre post : List (Addr × Obj)} {t D : Addr} {hk : Int} {n1 : Str} {t1 : Tok} {v1 : Value} (F : Fr h₀ L s.heap m) (X : (hd.heap_39 w.params).In h₀) (N : News h₀ L s.heap ((D, dict1 hk n1 t1 v1) :: (pre ++ (x, excDone 61 D t) :: post)))
    (h2 : ∀ p ∈ pre ++ (x, excDone 61 D t) :: post, p.1 ≠ D)
    (ht : takerIn (hd.heap_39 w.params) 61 name = some none) (hn : ((Value.str n1 t1).isStr name) = false) (hf : ∀ h2 t2, Obj.putName name h2 (.str name t2) v (dict1 hk n1 t1 v1) = dict2 hk h2 n1 name t1 t2 v1 v)
    (h : ∀ h' hk2 tk' k, Fr h₀ L h' m → News h₀ L h' ((D, dict2 hk hk2 n1 name t1 tk' v1 v) :: (pre ++ (x, excDone 61 D t) :: post)) → Q () { s with heap := h', toks := k }) :
    wpAny (model prog w) A (setAttr (.ref x) name v) Q E s := by
  have X' := X.keeps F.keep
  have I : InstAt s.heap x (excDone 61 D t) 61 (some (dict1 hk n1 t1 v1)) := ⟨(N (x, excDone 61 D t) (by simp)).1, rfl, rfl, (N (D, _) (by simp)).1⟩
  refine set_plain X' I (kset _) ?_
  refine osx_open (s := { s with toks := s.toks + 1 }) X' I ht fun b => ?_
  obtain ⟨cd, hc, _, hd'⟩ := kc61 w.params
  refine wpAny_bind (wpAny_pure ?_)
  refine wpAny_bind (wpAny_bind (wpAny_loadPart I.at_ (wpAny_bind ((looks_clsIn X' hc).at ?_))))
  rw [hd', if_neg (by decide)]
  refine wpAny_bind (wpAny_pure ?_)
  refine wpAny_pure ?_
  refine put_in (s := { s with toks := s.toks + 1 }) (pre := []) F N (fun p hp => absurd hp List.not_mem_nil) h2 rfl ?_ (hf _ _) (es' := [⟨_, .str n1 t1, v1⟩, ⟨_, .str name _, v⟩]) (n' := 2) rfl (by simp) fun h' F' N' => ?_
  · simp [hn, DictEntry.refKey]
  · exact h h' _ _ _ F' N'

theorem exc_get {Q : Value → Shared → Prop} {expr : Bool} (X : (hd.heap_39 w.params).In s.heap) (I : InstAt s.heap x ox 61 od) (hf : findObj (hd.heap_39 w.params) 61 od name = some (.value v)) (hh : handedIn v = true) (h : Q v { s with toks := s.toks + 1 }) :
    wpAny (model prog w) A (getAttr (.ref x) name expr) Q E s := by
  obtain ⟨hp, g, d, t, os⟩ := s
  have L0 := I.type (M := model prog w)
  have L1 := looks_findIn (M := model prog w) X (kget _)
  have L2 := looks_findIn (M := model prog w) X (khook _)
  have L3 : Looks (model prog w) hp (isInstance (.ref x) (.type "BaseException")) true := I.type.andThen (looks_mroIn X (kmB w.params))
  have hk : builtinKind "BaseException.__getattribute__" = some .slot := by decide +kernel
  have hsplit : splitId "BaseException.__getattribute__" = some ("BaseException", "__getattribute__") := by decide +kernel
  have GA := PySem.F.attr_Exception.ga
  have f3 := GA.bind (.ref x)
  have L4 := looks_find (M := model prog w) X I hf
  unfold getAttr getAttrBy
  refine wpAny_bind (wpAny_mkText (wpAny_holding (wpAny_bind (L0.at (wpAny_bind (L1.at ?_))))))
  show wpAny _ _ (getAttrByItsOwn (.ref x) (.str name t) (.ref 61) (.builtin "BaseException.__getattribute__") true expr) _ _ _
  unfold getAttrByItsOwn
  refine wpAny_bind (Looks.at (looks_hook X (r := none) (mc := .ref 61) (khook2 _)) ?_)
  unfold callGetattribute
  rw [if_neg (by cases expr <;> decide)]
  unfold boundAndCalled
  refine wpAny_bind (wpAny_attempt (wpAny_holding ?_))
  refine wpAny_bind (wpAny_of_eq f3 ?_)
  have hcall : wpAny (model prog w) A (call (.builtin "BaseException.__getattribute__") [.ref x, .str name t]) (fun v' s' => v' = v ∧ s' = ⟨hp, g, d, t + 1, os⟩) (fun _ _ => False) ⟨hp, g, d, t + 1, os⟩ := by
    refine wpAny_call (codeAny_call_builtin GA.plain F.entry_bexc_ga (@check_slot (model prog w) _ _ ⟨hp, g, d, t + 1, os⟩ "BaseException.__getattribute__" "BaseException" "__getattribute__" (.ref x) [.str name t] [] _ hk hsplit L3 (F.args_bexc_ga _ _) ?_))
    refine wpAny_bind (wpAny_pure (wpAny_bind (wpAny_pure (wpAny_bind (L0.at (wpAny_bind (L4.at ?_)))))))
    exact wpAny_pure ⟨rfl, rfl⟩
  refine wpAny_mono hcall (fun v' s' hv => ?_) fun _ _ z => z.elim
  obtain ⟨rfl, rfl⟩ := hv
  show wpAny _ _ (handedOut v') _ _ _
  rw [handedOut_of hh]; exact wpAny_pure h
end
end
section
open PySem.Calls PySem.Spec PySem.Builtin
section
variable {prog : Program} {w : World} {A : Around} {E : Value → Shared → Prop} {s : Shared} {h₀ : Heap} {L : Addr} {m : Str → Option Value} {x so t : Addr} {news : List (Addr × Obj)}
theorem inst_new (N : News h₀ L s.heap news) (hm : (x, excNew 61 t) ∈ news) : InstAt s.heap x (excNew 61 t) 61 none := ⟨(N _ hm).1, rfl, rfl, trivial⟩
theorem sup_methodN {pl : Sem Bool} {Q : Value × List Value → Shared → Prop} (F : Fr h₀ L s.heap m) (X₀ : (hd.heap_39 w.params).In h₀) (N : News h₀ L s.heap news) (hso : (so, ks_superObj 48 x 61) ∈ news) (hx : (x, excNew 61 t) ∈ news)
    (h : ∀ q h' k, Fr h₀ L h' m → News h₀ L h' ((q, wrapObj x) :: news) → (∀ p ∈ news, @LT.lt Nat _ p.1 q) → Q (.ref q, []) { s with heap := h', toks := k }) : wpAny (model prog w) A (getMethod (.ref so) "__init__" pl) Q E s := by
  have X := X₀.keeps F.keep
  obtain ⟨hh, g, d, t', os⟩ := s
  obtain ⟨cd, hc, hm, hd'⟩ := kc61 w.params
  have I : InstAt hh x (excNew 61 t) 61 none := ⟨(N _ hx).1, rfl, rfl, trivial⟩
  have hs := ksup w.params
  unfold ks_superIn at hs
  rw [hc] at hs
  have hi : Looks (model prog w) hh (isInstance (.ref x) (.type "Exception")) true := I.type.andThen (looks_mroIn X (kmE w.params))
  refine sup_method (N _ hso).1 (looks_opaque X (kop _)) (l₀ := cd.mro) ?_ rfl X hs hi (ks_ne X I hc) (by decide) ?_
  · exact fun A Q E s k q => wpAny_bind ((looks_clsIn X hc) A _ E s k (wpAny_pure q))
  · exact h _ _ _ (F.push _) (News.push F N _) fun p hp => Heap.lt_size (N p hp).1

def WrapAt (q x : Addr) (h : Heap) : Prop := h.get? q = some (wrapObj x)
theorem WrapAt.of {q : Addr} {h : Heap} (N : News h₀ L h news) (hm : (q, wrapObj x) ∈ news) : WrapAt q x h := N.get hm
theorem callWith_wrapF {pos : Pos} {u : Addr} {first : List Value} {args : List (Bool × Sem Value)} {Q : Value → Shared → Prop} {M : Model} (hplain : args.any (·.1) = false)
    (h : wpAny M A (evalArgs (.ref u) true args []) (fun a s₁ => WrapAt u x s₁.heap ∧ wpAny M A (call (.ref u) (first ++ a.pos) a.kw) Q E s₁) E s) : wpAny M A (callWith pos (.ref u) first args []) Q E s := by
  unfold callWith
  refine wpAny_bind (wpAny_holding (wpAny_mono h (fun a s₁ h₁ => wpAny_bind (wpAny_standAt ?_)) fun _ _ x => x))
  obtain ⟨ho, hcall⟩ := h₁
  simp only [hplain, List.any_nil, Bool.or_false]
  refine wpAny_bind (m := keeperOf (.ref u)) ?_
  unfold keeperOf
  refine wpAny_bind (wpAny_load ho ?_)
  simp only [show (Value.type "method-wrapper" != Value.type "method") = true by decide, show (Value.type "method-wrapper" == Value.type "builtin_function_or_method" || Value.type "method-wrapper" == Value.type "method-wrapper") = true by decide, if_true]
  refine wpAny_pure ?_
  exact wpAny_bind (wpAny_mono hcall (fun r s₂ hr => wpAny_bind (wpAny_holding (wpAny_point (wpAny_pure hr)))) fun _ _ x => x)
theorem callWith_wrap {pos : Pos} {u : Addr} {first : List Value} {env : Env} {e : Expr} {rest : List Expr} {Q : Value → Shared → Prop} {M : Model} (_N : News h₀ L s.heap news) (_hm : (u, wrapObj x) ∈ news)
    (h : wpAny M A (spliced (backTo pos (starEach (e :: rest) env))) (fun vs s₁ => WrapAt u x s₁.heap ∧ wpAny M A (call (.ref u) (first ++ vs)) Q E s₁) E s)
    (he : starEach (e :: rest) env = (false, eval e env) :: starEach rest env := by rfl) (hplain : (backTo pos (starEach rest env)).any (·.1) = false := by rfl) :
    wpAny M A (callWith pos (.ref u) first (backTo pos (starEach (e :: rest) env)) []) Q E s := by
  rw [he] at h ⊢
  refine callWith_wrapF (x := x) (by show (false || (backTo pos (starEach rest env)).any (·.1)) = false; rw [hplain]; rfl) ?_
  exact evalArgs_plain h

theorem bound_xi {M : Model} {h : Heap} {g : Array GenState} {d : Drawn} {tk : Nat} {os : OsState} {nm q : Str} {C N : Addr} {bs bm : List Value} {hdct : Bool} {sn : List Str} {sub : List Value} {ab : Bool} {col : Option Bool} {dd : Option Addr} {k0 k1 k2 k3 k5 : Option Value} {newId : String} {oe : Obj} {rest : List Value} {Q : Unit → Shared → Prop}
    (hC : h.get? C = some (excClassObj nm q C N bs bm hdct sn sub ab col dd k0 k1 k2 k3 k5 newId)) (he : h.get? x = some oe) (hcls : oe.cls = .ref C) (hq : Q () ⟨h, g, d, tk, os⟩) : wpAny M A (checkBoundCall "Exception.__init__" ⟨.ref x :: rest, []⟩) Q E ⟨h, g, d, tk, os⟩ := by
  have F := PySem.F.excBase_Exception
  have hk := F.initKind
  have hr := F.initRow
  have hshort := F.noStar
  unfold checkBoundCall
  rw [hr]
  dsimp only
  rw [hk]
  dsimp only
  rw [if_pos (by decide)]
  repeat (first | (with_reducible refine wpAny_loadPart_at he ?_; rw [hcls]) | with_reducible refine wpAny_loadPart_at hC ?_ | wp_step)
  refine wpAny_onRaise ?_
  rw [show ∀ (a b : String) (n : Nat), Bind.check ⟨.positional, "*", "Exception", .self, [⟨"args", .varPos, false⟩]⟩ a b n (List.map (fun x => x.fst) ({ pos := Value.ref x :: rest } : Args).kw) = pure () from
    fun a b n => check_star_args _ _ _ _ _ _]
  exact wpAny_pure hq

theorem call_wrap {u : Addr} {pre post : List (Addr × Obj)} {rest : List Value} {Q : Value → Shared → Prop} (F : Fr h₀ L s.heap m) (X : (hd.heap_39 w.params).In h₀) (N : News h₀ L s.heap ((u, wrapObj x) :: (pre ++ (x, excNew 61 t) :: post)))
    (h1 : ∀ p ∈ (u, wrapObj x) :: pre, p.1 ≠ x) (h2 : ∀ p ∈ post, p.1 ≠ x) (hr : rest.length ≤ sizeLine)
    (h : ∀ t' h' k, Fr h₀ L h' m → News h₀ L h' ((t', tupObj rest) :: (u, wrapObj x) :: (pre ++ (x, excNew 61 t') :: post)) → (∀ p ∈ (u, wrapObj x) :: (pre ++ (x, excNew 61 t) :: post), @LT.lt Nat _ p.1 t') → Q .none { s with heap := h', toks := k }) :
    wpAny (model prog w) A (call (.ref u) rest) Q E s := by
  have ho := (N (u, wrapObj x) (by simp)).1
  have hx := (N (x, excNew 61 t) (by simp)).1
  obtain ⟨nm, qn, N', bs, bm, hdct, sn, sub, ab, col, dd, k0, k1, k2, k3, k5, newId, hC, hb, _⟩ := kts_cls (X.keeps F.keep) (k61b w.params)
  obtain ⟨hh, g, d, tk, os⟩ := s
  refine wpAny_call (codeAny_of_tree ?_)
  show wpAny _ A.in1 (callAny (.ref u) ⟨rest, []⟩) _ _ _
  simp only [callAny]
  refine wpAny_bind (wpAny_load ho ?_)
  simp only [show (Value.type "method-wrapper" == Value.type "method" || Value.type "method-wrapper" == Value.type "builtin_function_or_method" || Value.type "method-wrapper" == Value.type "method-wrapper") = true by decide, if_true]
  refine KFB.if_so (by decide) ?_
  refine wpAny_bind (bound_xi hC hx rfl ?_)
  refine wpAny_bind (wpAny_pure (wpAny_pure ?_))
  refine ⟨Code.quiet_builtin _ (by decide +kernel), codeAny_builtin PySem.F.excBase_Exception.initEntry ?_⟩
  have ltx : @LT.lt Nat _ x hh.objs.size := Heap.lt_size hx
  have N1 := News.push F N (tupObj rest)
  have F1 := F.push (tupObj rest)
  have hx1 : (hh.push (tupObj rest)).get? x = some (excNew 61 t) := Heap.get?_push_of_some _ hx
  obtain ⟨F2, N2⟩ := news_upd (pre := (hh.objs.size, tupObj rest) :: (u, wrapObj x) :: pre) (o' := excNew 61 hh.objs.size) (f := Obj.mapFields (·.setIfInBounds 0 (.ref hh.objs.size))) F1 N1
    (fun p hp => by
      rcases List.mem_cons.mp hp with rfl | hp
      · exact Nat.ne_of_gt ltx
      · exact h1 p hp) h2 rfl rfl
  have lt1 : ∀ p ∈ (u, wrapObj x) :: (pre ++ (x, excNew 61 t) :: post), @LT.lt Nat _ p.1 hh.objs.size := fun p hp => Heap.lt_size (N p hp).1
  have fin := h _ _ tk F2 N2 lt1
  unfold Builtin.«BaseException.__init__»
  refine wpAny_bind (wpAny_newTuple ?_ hr)
  unfold PySem.Builtin.BaseException.bexcPut
  refine wpAny_bind (wpAny_bind (wpAny_field hx1 rfl rfl (wpAny_bind (wpAny_setField hx1 rfl (Nat.zero_lt_succ _) ?_))))
  unfold letGo letGo
  refine wpAny_bind (wpAny_holding (wpAny_point (wpAny_pure ?_)))
  exact wpAny_pure fin
end
end
section
open PySem.Calls PySem.Spec PySem.Builtin
theorem find_at (p : Params) (hk1 hk2 : Int) (t1 t2 : Tok) (v1 : Value) (a : Int) (t : Tok) : findObj (hd.heap_39 p) 61 (some (dict2 hk1 hk2 "what" "at" t1 t2 v1 (.int a t))) "at" = some (.value (.int a t)) := by kernel_rfl
theorem row_take_of {ws : List Value} {k : Nat} {a f n r : Int} (_ : IntsAre ws (List.take k (rowInts a f n r))) (ha : 0 ≤ a) : ((rowInts a f n r).length : Int) = a + 8 := row_len ha
section
variable {prog : Program} {w : World} {A : Around} {E : Value → Shared → Prop} {s : Shared} {h₀ : Heap} {L : Addr} {m : Str → Option Value} {e D : Addr} {news : List (Addr × Obj)}
theorem lift_e {h : Heap} {d0 d1 d2 d3 e0 : Addr × Obj} {rest : List (Addr × Obj)} (N : News h₀ L h (d0 :: d1 :: d2 :: d3 :: e0 :: rest)) : News h₀ L h (e0 :: d0 :: rest) :=
  cb_drop N (fun p hp => by simp only [List.mem_cons] at hp ⊢; grind)
theorem get_at {Q : Value → Shared → Prop} {expr : Bool} {oe : Obj} {vs : Array Value} {hk1 hk2 : Int} {t1 t2 : Tok} {v1 : Value} {a : Int} {t : Tok} (F : Fr h₀ L s.heap m) (X₀ : (hd.heap_39 w.params).In h₀) (N : News h₀ L s.heap news) (he : (e, oe) ∈ news) (hc : oe.cls = .ref 61) (hd : oe.dict = some D) (hdata : oe.data = .fields vs)
    (hD : (D, dict2 hk1 hk2 "what" "at" t1 t2 v1 (.int a t)) ∈ news) (h : Q (.int a t) { s with toks := s.toks + 1 }) : wpAny (model prog w) A (getAttr (.ref e) "at" expr) Q E s := by
  have X := X₀.keeps F.keep
  refine exc_get (od := some (dict2 hk1 hk2 "what" "at" t1 t2 v1 (.int a t))) X ⟨(N _ he).1, hc, ?_, ?_⟩ (find_at _ hk1 hk2 t1 t2 v1 a t) rfl h
  · unfold notCls; rw [hdata]
  · rw [hd]; exact (N _ hD).1
end
end
section
open PySem.Calls PySem.Spec PySem.Builtin
theorem ite_false_p {a b : Prop} (h : b) : if false = true then a else b := h
theorem ite_true_p {a b : Prop} (h : a) : if true = true then a else b := h
abbrev kindsL : List PySem.Str := ["adjust", "pair", "cursive", "base", "component", "mark", "context", "chain"]
theorem kindsK {h : Heap} (p : Params) (X : (hd.heap_39 p).In h) : ∃ items, IsTup h 170 items ∧ StrsAre items.toList kindsL :=
  ⟨_, tupK (l := [_, _, _, _, _, _, _, _]) X rfl, by repeat constructor⟩
section
variable {prog : Program} {w : World} {A : Around} {E : Value → Shared → Prop} {s : Shared} {h₀ : Heap} {L : Addr} {m : Str → Option Value}
theorem notin_kinds {x : Str} {u : Tok} {b : Bool} {Q : Value → Shared → Prop} (F : Fr h₀ L s.heap m) (X : (hd.heap_39 w.params).In h₀) (hb : (kindsL.any (· == x)) = b) (h : Q (.bool (!b)) s) : wpAny (model prog w) A (compareOp .NotIn (.str x u) (.ref 170)) Q E s := by
  obtain ⟨items, h1, h2⟩ := kindsK w.params (X.keeps F.keep)
  exact notin_tuple_strs h1 h2 (by rw [hb]; exact h)

abbrev tabTwo (c : Addr) : Obj := tabObj (#[] ++ #[rawInt ((119 : Nat) : Int), rawInt ((18 : Nat) : Int), Value.ref c])
def NextP (h₀ : Heap) (L : Addr) (m : Str → Option Value) (s : Shared) (keep : List (Addr × Obj)) (v : Flow) (s' : Shared) : Prop :=
  ∃ h' tk c, v = .next ∧ s' = { s with heap := h', toks := tk } ∧ Fr h₀ L h' m ∧ News h₀ L h' (keep ++ [(212, tabTwo c)])
theorem NextP.intro {keep all : List (Addr × Obj)} {h' : Heap} {tk : Nat} (c : Addr) (F : Fr h₀ L h' m) (N : News h₀ L h' all) (hs : ∀ p ∈ keep ++ [(212, tabTwo c)], p ∈ all) : NextP h₀ L m s keep .next { s with heap := h', toks := tk } :=
  ⟨h', tk, c, rfl, rfl, F, cb_drop N hs⟩
theorem next_cut {t : Sem Flow} {Q : Flow → Shared → Prop} {d r pa ca x5 x6 x7 x8 x9 : Addr} {O1 O2 O3 O4 O5 O6 O7 O8 O9 O10 : Obj} (_ : Fr h₀ L s.heap m) (_ : News h₀ L s.heap [(d, O1), (r, O2), (pa, O3), (ca, O4), (x5, O5), (x6, O6), (x7, O7), (x8, O8), (x9, O9), (212, O10)])
    (h1 : wpAny (model prog w) A t (NextP h₀ L m s [(d, O1), (pa, O3), (ca, O4), (x5, O5), (x6, O6), (x7, O7), (x8, O8), (x9, O9)]) E s) (h2 : ∀ h' tk c, Fr h₀ L h' m → News h₀ L h' [(d, O1), (pa, O3), (ca, O4), (x5, O5), (x6, O6), (x7, O7), (x8, O8), (x9, O9), (212, tabTwo c)] → Q .next { s with heap := h', toks := tk }) : wpAny (model prog w) A t Q E s :=
  wpAny_mono h1 (fun v s' q => by obtain ⟨h', tk, c, e1, e2, F, N⟩ := q; subst e1 e2; exact h2 h' tk c F N) fun _ _ e => e
theorem strs_at {vs : List Value} {ys : List Str} (h : StrsAre vs ys) : ∀ i, i < ys.length → ∃ y t, vs[i]? = some (.str y t) ∧ y ∈ ys := by
  induction h with
  | nil => intro i hi; exact absurd hi (Nat.not_lt_zero _)
  | cons y t _ ih =>
    intro i hi
    cases i with
    | zero => exact ⟨y, t, rfl, .head _⟩
    | succ i =>
      obtain ⟨y', t', e, hm⟩ := ih i (by simpa using hi)
      exact ⟨y', t', by simpa using e, .tail _ hm⟩
theorem word_menu {value slice : PySem.Expr} {l : Addr} {vs : List Value} {ys : List Str} {k : Int} {u : Tok} {Q : Value → Shared → Prop} (ht : s.heap.IsList l vs.toArray) (hi' : StrsAre vs ys)
    (h0 : 0 ≤ k) (h1 : k < ys.length) (hfit : k < 2 ^ 63) (hb : ys.all (fun y => !(kindsL.any (· == y))) = true) (h : ∀ v t, (kindsL.any (· == v)) = false → Q (.str v t) s)
    (hs : subscripted slice false (.ref l) (.int k u) = operate [.ref l, .int k u] (getItem (.ref l) (.int k u)) := by with_unfolding_all rfl) :
    wpAny (model prog w) A (subscriptTail value slice (.ref l) (.int k u)) Q E s := by
  obtain ⟨y, t, hx, hm⟩ := strs_at hi' k.toNat (by omega)
  have hy : (kindsL.any (· == y)) = false := by
    have := (List.all_eq_true.mp hb) y hm
    simpa using this
  exact tail_any ht.typeIs slot_list_getitem.lookup (wpAny_getItem_list ht h0 hfit (x := .str y t) (by simpa using hx) (h _ t hy)) hs
theorem drop_strs {vs : List Value} {ys : List Str} (h : StrsAre vs ys) : ∀ i, StrsAre (vs.drop i) (ys.drop i) := by
  induction h with
  | nil => intro i; simp; exact .nil
  | cons y t hr ih =>
    intro i
    cases i with
    | zero => exact .cons y t hr
    | succ i => simpa using ih i
theorem tuple_index_strs {t : Addr} {items : Array Value} {ys : List Str} {x : Str} {u : Tok} {j : Nat} {P : Fin → Shared → Prop} (ht : IsTup s.heap t items) (hi : StrsAre items.toList ys) (hj : ys.findIdx? (· == x) = some j)
    (h : P (.done (.ret (.int j s.toks))) { s with toks := s.toks + 1 }) : wpAny (model prog w) A (Builtin.«tuple.index» ⟨[.ref t, .str x u], []⟩) P E s := by
  unfold Builtin.«tuple.index»
  refine wpAny_bind (wpAny_of_eq (a := (.ref t, [.str x u])) rfl ?_)
  refine wpAny_bind (tupleItemsOf_ ht ?_)
  refine wpAny_bind (wpAny_pure (wpAny_bind (wpAny_pure ?_)))
  dsimp only
  rw [Nat.min_self, Std.Legacy.Range.forIn_eq_forIn_range']
  refine wpAny_bind (wpAny_mono (wpAny_forIn_list _ (fun (rest : List Nat) (b : Option PySem.Fin × Unit) s' => b.1 = none ∧ s' = s ∧ ∃ i j', rest = List.range' i (items.size - i) 1 ∧ i ≤ items.size ∧ (ys.drop i).findIdx? (· == x) = some j' ∧ i + j' = j) (fun (b : Option PySem.Fin × Unit) s' => b.1 = some (PySem.Fin.done (.ret (.int j s.toks))) ∧ s' = { s with toks := s.toks + 1 }) ?_ ?_ _ _ ?_) ?_ fun _ _ e => e)
  · rintro k rest b s' ⟨hb, rfl, i, j', e1, hi', e2, e3⟩
    have hd := drop_strs hi i
    cases hy : ys.drop i with
    | nil => rw [hy] at e2; cases e2
    | cons y yr =>
      rw [hy] at hd e2
      cases hv : items.toList.drop i with
      | nil => rw [hv] at hd; cases hd
      | cons v vr =>
        rw [hv] at hd
        cases hd with
        | cons _ ty hr =>
          have hlt : i < items.size := by
            have := congrArg List.length hv
            simp at this
            omega
          have hs : items.size - i = (items.size - (i + 1)) + 1 := by omega
          rw [hs, List.range'_succ] at e1
          obtain ⟨rfl, rfl⟩ := List.cons.inj e1
          have hg : items[k]? = some (.str y ty) := by
            rw [← Array.getElem?_toList]
            have : (items.toList.drop k)[0]? = some (.str y ty) := by rw [hv]; rfl
            simpa using this
          simp only [hg]
          refine wpAny_bind (eqBool_str ?_)
          rw [List.findIdx?_cons] at e2
          cases hyx : (y == x) with
          | true =>
            rw [hyx] at e2
            simp at e2
            subst e2
            have e3' : k = j := by omega
            subst e3'
            refine wpAny_bind (wpAny_bind (wpAny_mkInt (wpAny_pure ?_)))
            exact wpAny_pure ⟨rfl, rfl⟩
          | false =>
            rw [hyx] at e2
            simp at e2
            obtain ⟨j2, e4, e5⟩ := e2
            refine wpAny_pure ⟨rfl, rfl, k + 1, j2, by simp, by omega, ?_, by omega⟩
            have : ys.drop (k + 1) = yr := by
              have := congrArg (List.drop 1) hy
              simpa [List.drop_drop] using this
            rw [this]; exact e4
  · rintro b s' ⟨hb, rfl, i, j', e1, hi', e2, e3⟩
    have : items.size - i = 0 := by
      have := congrArg List.length e1
      simpa using this.symm
    have hl := drop_strs hi i
    have h0 : items.toList.drop i = [] := List.drop_of_length_le (by simp; omega)
    rw [h0] at hl
    generalize List.drop i ys = zs at hl e2
    cases hl
    cases e2
  · exact ⟨rfl, rfl, 0, j, by simp [Std.Legacy.Range.size], Nat.zero_le _, by simpa using hj, by omega⟩
  · rintro b s' ⟨hb, rfl⟩
    obtain ⟨b1, b2⟩ := b
    cases hb
    exact wpAny_pure h
end
end
section
open PySem.Calls PySem.Spec
def Holds (g : Heap) (rest : List (Addr × Obj)) : Prop := ∀ q ∈ rest, g.get? q.1 = some q.2
theorem Holds.join {h₀ g : Heap} {L L' : Addr} {s0 h' : Heap} {m' : Str → Option Value} {l rest : List (Addr × Obj)} (H : Holds g rest) (N0 : News h₀ L s0 rest) (F' : Fr g L' h' m') (N : News h₀ L h' l) : News h₀ L h' (l ++ rest) := fun p hp => by
  rcases List.mem_append.mp hp with hp | hp
  · exact N p hp
  · exact ⟨F'.keep _ _ (H p hp), (N0 p hp).2⟩
theorem lift6 {h₀ h : Heap} {L : Addr} {d0 d1 d2 d3 e0 t0 : Addr × Obj} {rest : List (Addr × Obj)} (N : News h₀ L h ([d0, d1, d2, d3, e0, t0] ++ rest)) : News h₀ L h (e0 :: d0 :: rest) :=
  cb_drop N (fun p hp => by
    rcases List.mem_cons.mp hp with rfl | hp
    · exact .tail _ (.tail _ (.tail _ (.tail _ (.head _))))
    · rcases List.mem_cons.mp hp with rfl | hp
      · exact .head _
      · exact List.mem_append_right _ hp)
section
variable {prog : Program} {w : World} {A₀ A : Around} {s : Shared} {base h₀ : Heap} {env : Env} {outer : List Env} {L : Addr} {m : Str → Option Value} {rest : List (Addr × Obj)} {K : Frag} {p : Program} {loose : List Str} {mean : ExcName → Option Value} {mg mb : Str → Option Value}
    {R : Result → Shared → Prop} {name qual : Str} {params : Arguments} {body : List Stmt} {scope : Scope} {dV kV doc pm cdv ct oc : Value} {an od : Option Addr} {osl : Array (Option Value)} {f cc : Addr} {args : Args} {binds : List (Str × Value)}
theorem code_rest (B : Below A₀ base outer h₀) (F : Fr h₀ L s.heap m) (X₀ : K.In h₀) (Nr : News h₀ L s.heap rest) (T : Top p loose mean mg mb h₀) (hA : A.frames = some (env :: outer)) (hf : env.frame = some L) (hke : env.scope.kind = .function)
    (ho : K.lookup f = some ⟨oc, od, .func (fnOf name qual params body scope dV kV doc pm an cdv ct), osl⟩) (hcd : codeIn K cdv qual = true) (hroom : A.depth < recursionLimit)
    (hbind : BindsTo s (fnOf name qual params body scope dV kV doc pm an cdv ct) args binds) (hloc : ∀ y ∈ binds, scope.names.lookup y.1 = some .local)
    (h : ∀ g L' h₁, Fr h₀ L g m → Holds g rest → Fr g L' h₁ (fun y => binds.reverse.lookup y) → News g L' h₁ [] → Below A base (env :: outer) g → K.In g → Top p loose mean mg mb g →
      wpAny (model prog w) (A.deeper (envOf qual scope L' f cdv)) (execs body (envOf qual scope L' f cdv))
        (fun fl s' => LeaveK h₀ L m g R (match fl with | .ret v => v | _ => .none) s')
        (fun e s' => wpAny (model prog w) (A.deeper (envOf qual scope L' f cdv)) (leaving (envOf qual scope L' f cdv) e) (fun _ s'' => R (.error e) s'') (fun e' s'' => R (.error e') s'') s')
        { s with heap := h₁, toks := s.toks + binds.length })
    (hco : scope.isCoroutine = false) (hgen : scope.isGenerator = false) (hk : scope.kind = .function)
    (hcell : ∀ x ∈ scope.names, x.2 ≠ .cell) : codeAny (model prog w) A (.call (.ref f) args) R s := by
  obtain ⟨FG, BG, st, lv⟩ := groundX (R := R) B F (News.nil (h := s.heap)) hA hf hke
  have X := X₀.keeps F.keep
  refine codeAny_call_def (fd := fnOf name qual params body scope dV kV doc pm an cdv ct) (body := body) (binds := binds) hroom (X _ _ ho) rfl (T.nolimit.keeps F.keep) (codeRec_of X hcd) rfl hbind hcell hloc (fun h₁ hns hk₁ => ?_) hco hgen hk
  exact wpAny_mono (h _ s.heap.objs.size h₁ FG (fun q hq => (Nr q hq).1) ⟨hns, fun b o e => hk₁ b o (of_hideAll _ e), Nat.le_of_eq (hideAll_size _ _)⟩ News.nil BG (X₀.keeps st) (T.keeps st)) (fun fl s' hl => lv _ _ hl) fun _ _ y => y

theorem ks_code_rest {news : List (Addr × Obj)} (B : Below A₀ base outer h₀) (F : Fr h₀ L s.heap m) (X₀ : K.In h₀) (N : News h₀ L s.heap news) (Nr : News h₀ L s.heap rest) (hne : ∀ q ∈ rest, q.1 ∉ news.map (·.1)) (T : Top p loose mean mg mb h₀) (hA : A.frames = some (env :: outer)) (hf : env.frame = some L) (hke : env.scope.kind = .function)
    (ho : K.lookup f = some ⟨oc, od, .func (ksFn name qual params body scope dV kV doc pm an cdv ct cc), osl⟩) (hcd : codeIn K cdv qual = true) (hroom : A.depth < recursionLimit)
    (hbind : BindsTo s (ksFn name qual params body scope dV kV doc pm an cdv ct cc) args binds) (hloc : ∀ y ∈ binds, scope.names.lookup y.1 = some .local)
    (h : ∀ g L' h₁, Fr h₀ L g m → Holds g rest → Fr g L' h₁ (fun y => binds.reverse.lookup y) → News g L' h₁ news → Below A base (env :: outer) g → K.In g → Top p loose mean mg mb g → (∀ p ∈ news, @LT.lt Nat _ p.1 L') →
      _root_.PySem.wpAt (model prog w) (A.deeper (ksEnv qual scope L' f cdv cc)) (.func body (ksEnv qual scope L' f cdv cc)) (execs body (ksEnv qual scope L' f cdv cc))
        (fun fl s' => LeaveK h₀ L m g R (match fl with | .ret v => v | _ => .none) s')
        (fun e s' => wpAny (model prog w) (A.deeper (ksEnv qual scope L' f cdv cc)) (leaving (ksEnv qual scope L' f cdv cc) e) (fun _ s'' => R (.error e) s'') (fun e' s'' => R (.error e') s'') s')
        { s with heap := h₁, toks := s.toks + binds.length })
    (hcell : ∀ x ∈ scope.names, x.2 ≠ .cell) (hco : scope.isCoroutine = false) (hgen : scope.isGenerator = false) (hk : scope.kind = .function) : codeAny (model prog w) A (.call (.ref f) args) R s := by
  obtain ⟨FG, BG, st, lv⟩ := groundX (R := R) B F N hA hf hke
  refine ks_codeAny_call_defAt (fd := ksFn name qual params body scope dV kV doc pm an cdv ct cc) (body := body) (binds := binds) hroom ((X₀.keeps F.keep) _ _ ho) rfl (T.nolimit.keeps F.keep) (codeRec_of (X₀.keeps F.keep) hcd) rfl hbind hcell hloc (fun h₁ hns hk₁ => ?_) hco hgen hk
  exact ks_wpAt_mono (h _ s.heap.objs.size h₁ FG (fun q hq => hideAll_get _ (Nr q hq).1 (hne q hq)) ⟨hns, fun b o e => hk₁ b o (of_hideAll _ e), Nat.le_of_eq (hideAll_size _ _)⟩
    (fun p hp => ⟨hk₁ _ _ (N p hp).1, Nat.ne_of_lt (Heap.lt_size (N p hp).1), hideAll_none _ (List.mem_map_of_mem hp)⟩) BG (X₀.keeps st) (T.keeps st) (fun p hp => Heap.lt_size (N p hp).1)) (fun fl s' hl => lv _ _ hl) fun _ _ y => y
end

section
variable {M : Model} {A : Around} {E : Value → Shared → Prop} {s' : Shared} {base g g₂ : Heap} {outer : List Env} {env : Env} {L e D : Addr} {m : Str → Option Value} {Q : Unit → Shared → Prop} {news rest : List (Addr × Obj)}
theorem fault_goes_rest {s0 : Heap} (K : Below A base outer g) (F : Fr g L g₂ m) (R : RaisedF base g₂ (env :: outer) e D news s'.heap) (hsm : g₂.UpToSlots s'.heap) (H : Holds g₂ rest) (N0 : News g L s0 rest) (hf : env.frame = some L)
    (hQ : ∀ h', RaisedF base g outer e D (news ++ rest) h' → g.UpToSlots h' → Q () { s' with heap := h' }) : wpAny M (A.deeper env) (leaving env (.ref e)) Q E s' := by
  obtain ⟨B, hB, hBG, hl, b1, b2, b3, b4⟩ := R
  refine leave_next (Around.frames_deeper K.stack) b3 hf b1 b2 b4 fun h' a1 a2 a3 a4 => ?_
  refine hQ h' ⟨B, hB, fun b o q nm => hBG b o (F.keep b o q) fun hm => ?_, fun q hq => ?_, a1, b2, a2, a3⟩ ((Heap.UpToSlots.of_keeps F.keep).trans (hsm.trans a4))
  · rcases frame_mem hf hm with z | z
    · rw [z, kts_self F] at q; cases q
    · exact nm z
  · rcases List.mem_append.mp hq with hq | hq
    · exact ⟨(hl q hq).1, kts_none F.keep (hl q hq).2.1, (hl q hq).2.2⟩
    · have n := N0 q hq
      refine ⟨hBG _ _ (H q hq) fun hm => ?_, n.2.2, fresh_of_stays K.stays n.2.2⟩
      rcases frame_mem hf hm with z | z
      · exact n.2.1 z
      · obtain ⟨_, o, ho, _⟩ := K.frames.mem z
        rw [n.2.2] at ho; cases ho
end
theorem raised_drop {base G h : Heap} {l : List Env} {e D : Addr} {d : Addr × Obj} {news : List (Addr × Obj)} (R : RaisedF base G l e D (d :: news) h) : RaisedF base G l e D [d] h := by
  obtain ⟨B, hB, hBG, hl, b⟩ := R
  exact ⟨B, hB, hBG, fun q hq => hl q (by rcases List.mem_cons.mp hq with rfl | hq; exact .head _; cases hq), b⟩
theorem head_rest {h₀ h : Heap} {L : Addr} {d : Addr × Obj} {l rest : List (Addr × Obj)} (N : News h₀ L h ((d :: l) ++ rest)) : News h₀ L h (d :: rest) :=
  cb_drop N (fun p hp => by
    rcases List.mem_cons.mp hp with rfl | hp
    · exact .head _
    · exact List.mem_append_right _ hp)
end
section
open PySem.Calls PySem.Spec PySem.Builtin
def beNum (t : Int) : List Int → Int
  | [] => t
  | c :: r => beNum (t * 256 + c) r
theorem clip_at {n : Nat} {x : Int} (h0 : 0 ≤ x) (h1 : x ≤ n) : clipAt n x = x.toNat := by
  unfold clipAt
  rw [if_neg (Int.not_lt.mpr h0), Int.min_eq_left h1, Int.max_eq_right h0]
theorem slice_in {B : Array UInt8} {l : List Int} {x c : Int} (hb : KBw.bInts B = List.take (clipAt l.length (x + c) - clipAt l.length x) (List.drop (clipAt l.length x) l)) (h0 : 0 ≤ x) (hc : 0 ≤ c) (h : ¬ ((l.length : Int) < x + c)) :
    KBw.bInts B = List.take c.toNat (List.drop x.toNat l) := by
  have h := Int.not_lt.mp h
  rw [hb, clip_at h0 (Int.le_trans (Int.le_add_of_nonneg_right hc) h), clip_at (Int.add_nonneg h0 hc) h, Int.toNat_add h0 hc, Nat.add_sub_cancel_left]
theorem or_256 {x y : Int} (hx : 0 ≤ x) (hy : 0 ≤ y) (hy2 : y < 256) : Builtin.bitOr (x * 256) y = x * 256 + y := by
  have hz : x.toNat * 256 &&& y.toNat = 0 := by
    have e : y.toNat &&& 2 ^ 8 - 1 = y.toNat := by
      rw [Nat.and_two_pow_sub_one_eq_mod]
      exact Nat.mod_eq_of_lt ((Int.toNat_lt hy).mpr hy2)
    rw [← e, Nat.and_comm y.toNat, ← Nat.and_assoc, Nat.and_two_pow_sub_one_eq_mod _ 8, show 256 = 2 ^ 8 from rfl, Nat.mul_mod_left, Nat.zero_and]
  rw [bitOr_and, bitAnd_pp (Int.mul_nonneg hx (by decide)) hy, Int.toNat_mul hx (by decide), show Int.toNat 256 = 256 from rfl, hz]
  exact Int.sub_zero _
section
variable {prog : Program} {w : World} {A : Around} {E : Value → Shared → Prop} {s : Shared} {Q : Value → Shared → Prop} {t u : Tok} {x y : Int}
theorem or256_v (hx : 0 ≤ x) (hy : 0 ≤ y) (hy2 : y < 256) (h : Q (.int (x * 256 + y) s.toks) { s with toks := s.toks + 1 }) : wpAny (model prog w) A (binaryOp .BitOr (.int (x * 256) t) (.int y u)) Q E s :=
  or_int (by rw [or_256 hx hy hy2]; exact h)
theorem shl_v (h0 : 0 ≤ x) (h1 : x < 4294967296) (h : Q (.int (x * 256) s.toks) { s with toks := s.toks + 1 }) : wpAny (model prog w) A (binaryOp .LShift (.int x t) (.int 8 u)) Q E s := by
  refine lshift_int_small (by decide) (by decide) ?_ ?_
  · rw [← Int.toNat_of_nonneg h0, Int.natAbs_natCast]
    exact Nat.lt_trans ((Int.toNat_lt h0).mpr h1) (by decide)
  · exact h
end
section
variable {prog : Program} {w : World} {A : Around} {E : Value → Shared → Prop} {s : Shared} {env : Env} {h₀ : Heap} {x : PySem.Str} {body : List Stmt} {Q : Flow → Shared → Prop}
def reach : Nat → Int
  | 0 => 4294967296
  | 1 => 16777216
  | 2 => 65536
  | 3 => 256
  | _ => 1
theorem reach_pos (n : Nat) : 0 < reach n := by
  unfold reach
  split <;> decide
theorem lt_256 {t c B : Int} (h : t < B) (hc : c < 256) : t * 256 + c < B * 256 := by
  have q := Int.mul_le_mul_of_nonneg_right (c := 256) (show t + 1 ≤ B from h) (by decide)
  rw [Int.add_mul, Int.one_mul] at q
  exact Int.lt_of_lt_of_le (Int.add_lt_add_left hc _) q
theorem reach_step {t c : Int} {n : Nat} (hn : n ≤ 3) (h : t < reach (n + 1)) (hc : c < 256) : t * 256 + c < reach n ∧ t < 4294967296 := by
  rcases n with _ | _ | _ | _ | n
  · exact ⟨lt_256 h hc, Int.lt_trans h (by decide)⟩
  · exact ⟨lt_256 h hc, Int.lt_trans h (by decide)⟩
  · exact ⟨lt_256 h hc, Int.lt_trans h (by decide)⟩
  · exact ⟨lt_256 h hc, Int.lt_trans h (by decide)⟩
  · exact absurd hn (Nat.not_le_of_gt (Nat.le_add_left 4 n))
theorem bytes_loop {a : PySem.Str} {I : Addr} {m0 : PySem.Str → Option Value} {news : List (Addr × Obj)} {l : List Int} (hl : l.length ≤ 4)
    (step : ∀ (t c : Int) (tt : Tok) (oc : Option Value) (r : List Int), 0 ≤ t → t < 4294967296 → 0 ≤ c → c < 256 → ∀ (u : Tok) (it : Obj) h tk,
      Fr h₀ env.locals h (fun y => if y = x then some (.int c u) else if y = a then some (.int t tt) else if y = x then oc else m0 y) → News h₀ env.locals h ((I, it) :: news) →
      (∀ tt', BytesRest prog w A E h₀ env x body Q s I r (fun y => if y = a then some (.int (t * 256 + c) tt') else if y = x then some (.int c u) else if y = a then some (.int t tt) else if y = x then oc else m0 y) news) →
      wpAny (model prog w) A (execs body env) (UnrPost h₀ env.locals { s with heap := h, toks := tk } I it (BytesRest prog w A E h₀ env x body Q s I r) Q) E { s with heap := h, toks := tk })
    (done : ∀ tt oc h tk, Fr h₀ env.locals h (fun y => if y = a then some (.int (beNum 0 l) tt) else if y = x then oc else m0 y) → News h₀ env.locals h news → Q .next { s with heap := h, toks := tk })
    (t0 : Tok) : BytesRest prog w A E h₀ env x body Q s I l (fun y => if y = a then some (.int 0 t0) else m0 y) news := by
  have go : ∀ (r : List Int) (t : Int) (tt : Tok) (oc : Option Value) (m : PySem.Str → Option Value), 0 ≤ t → t < reach r.length → r.length ≤ 4 → beNum t r = beNum 0 l → (∀ y, m y = if y = a then some (.int t tt) else if y = x then oc else m0 y) → BytesRest prog w A E h₀ env x body Q s I r m news := by
    intro r
    induction r with
    | nil =>
      intro t tt oc m _ _ _ he hm h tk F N
      have hm' : m = _ := funext hm
      subst hm'
      rw [show t = beNum 0 l from he] at F
      exact done tt oc h tk F N
    | cons c r ih =>
      intro t tt oc m h0 h1 h2 he hm c0 c1 u it h tk F N
      have hm' : m = _ := funext hm
      subst hm'
      have q := reach_step (Nat.le_of_succ_le_succ h2) h1 c1
      refine step t c tt oc r h0 q.2 c0 c1 u it h tk F N fun tt' => ?_
      refine ih (t * 256 + c) tt' (some (.int c u)) _ (Int.add_nonneg (Int.mul_nonneg h0 (by decide)) c0) q.1 (Nat.le_of_succ_le h2) he fun y => ?_
      by_cases ya : y = a
      · rw [if_pos ya, if_pos ya]
      · rw [if_neg ya, if_neg ya, if_neg ya]
        by_cases yx : y = x
        · rw [if_pos yx, if_pos yx]
        · rw [if_neg yx, if_neg yx, if_neg yx]
  refine go l 0 t0 (m0 x) _ (Int.le_refl _) ?_ hl rfl fun y => ?_
  · exact reach_pos _
  by_cases ya : y = a
  · rw [if_pos ya, if_pos ya]
  · rw [if_neg ya, if_neg ya]
    by_cases yx : y = x
    · rw [if_pos yx, yx]
    · rw [if_neg yx]
end
theorem be_row {a f n r z : Int} {k c : Nat} {v : Int} (ha : 0 ≤ a) (hz : a + k + c ≤ z) (hv : beNum 0 (List.take c (List.drop k (eight f n r))) = v) :
    beNum 0 (List.take c (List.drop (a.toNat + k) (List.take z.toNat (rowInts a f n r)))) = v := by
  have h := Int.toNat_le_toNat hz
  rw [Int.toNat_add (Int.add_nonneg ha (Int.natCast_nonneg k)) (Int.natCast_nonneg c), Int.toNat_add ha (Int.natCast_nonneg k), Int.toNat_natCast, Int.toNat_natCast, Nat.add_comm] at h
  rw [← hv, List.drop_take, List.take_take, Nat.min_eq_left (Nat.le_sub_of_add_le h), ← List.drop_drop]
  unfold rowInts
  rw [List.drop_left' List.length_replicate]
theorem be2 (f : Int) : (0 * 256 + f / 256) * 256 + f % 256 = f := by
  rw [Int.zero_mul, Int.zero_add]
  exact Int.ediv_mul_add_emod _ _
theorem st {r k : Int} (hk : 0 ≤ k) : r / (k * 256) * 256 + r / k % 256 = r / k := by
  rw [← Int.ediv_ediv_of_nonneg hk]
  exact Int.ediv_mul_add_emod _ _
theorem be4 {r : Int} (r0 : 0 ≤ r) (r1 : r ≤ 4294967295) : (((0 * 256 + r / 16777216 % 256) * 256 + r / 65536 % 256) * 256 + r / 256 % 256) * 256 + r % 256 = r := by
  have e1 : r / 16777216 * 256 + r / 65536 % 256 = r / 65536 := st (k := 65536) (by decide)
  have e2 : r / 65536 * 256 + r / 256 % 256 = r / 256 := st (k := 256) (by decide)
  rw [Int.zero_mul, Int.zero_add, Int.emod_eq_of_lt (Int.ediv_nonneg r0 (by decide)) (Int.ediv_lt_of_lt_mul (by decide) (Int.lt_of_le_of_lt r1 (by decide))), e1, e2]
  exact Int.ediv_mul_add_emod _ _
theorem be_f {a f n r z : Int} (ha : 0 ≤ a) (hz : a + 2 ≤ z) : beNum 0 (List.take (Int.toNat 2) (List.drop a.toNat (List.take z.toNat (rowInts a f n r)))) = f :=
  be_row (k := 0) (c := 2) ha (by rw [show ((0 : Nat) : Int) = 0 from rfl, Int.add_zero]; exact hz) (be2 f)
theorem be_n {a f n r z : Int} (ha : 0 ≤ a) (hz : a + 2 + 2 ≤ z) : beNum 0 (List.take (Int.toNat 2) (List.drop (a + 2).toNat (List.take z.toNat (rowInts a f n r)))) = n := by
  rw [Int.toNat_add ha (by decide)]
  exact be_row (k := 2) (c := 2) ha hz (be2 n)
theorem be_r {a f n r z : Int} (ha : 0 ≤ a) (hz : a + 2 + 2 + 4 ≤ z) (r0 : 0 ≤ r) (r1 : r ≤ 4294967295) : beNum 0 (List.take (Int.toNat 4) (List.drop (a + 2 + 2).toNat (List.take z.toNat (rowInts a f n r)))) = r := by
  rw [Int.add_assoc a 2 2, Int.toNat_add ha (by decide)]
  exact be_row (k := 4) (c := 4) ha (by rw [Int.add_assoc a 2 2] at hz; exact hz) (be4 r0 r1)
theorem len4 {c x : Int} {l : List Int} (hc : c ≤ 4) : (List.take c.toNat (List.drop x.toNat l)).length ≤ 4 :=
  Nat.le_trans (List.length_take_le _ _) (Int.toNat_le.mpr hc)
end
theorem item_any {prog : Program} {w : World} {A : Around} {E : Value → Shared → Prop} {s : Shared} {value slice : PySem.Expr} {l : Addr} {vs : List Value} {P : Value → Prop} {k : Int} {u : Tok} {Q : Value → Shared → Prop} (ht : s.heap.IsList l vs.toArray) (hP : ∀ v ∈ vs, P v)
    (h0 : 0 ≤ k) (h1 : k < vs.length) (hfit : k < 2 ^ 63) (h : ∀ v, P v → Q v s)
    (hs : subscripted slice false (.ref l) (.int k u) = operate [.ref l, .int k u] (getItem (.ref l) (.int k u)) := by with_unfolding_all rfl) :
    wpAny (model prog w) A (subscriptTail value slice (.ref l) (.int k u)) Q E s := by
  have hk : k.toNat < vs.length := by omega
  exact tail_any ht.typeIs slot_list_getitem.lookup (wpAny_getItem_list ht h0 hfit (x := vs[k.toNat]) (by simp [hk]) (h _ (hP _ (List.getElem_mem hk)))) hs
theorem drop_head {h₀ h : Heap} {L : Addr} {x : Addr × Obj} {l : List (Addr × Obj)} (N : News h₀ L h (x :: l)) : News h₀ L h l := fun p hp => N p (.tail _ hp)
theorem drop_second {h₀ h : Heap} {L : Addr} {x y : Addr × Obj} {l : List (Addr × Obj)} (N : News h₀ L h (x :: y :: l)) : News h₀ L h (x :: l) := fun p hp => N p (by
  rcases List.mem_cons.mp hp with rfl | hp
  · exact .head _
  · exact .tail _ (.tail _ hp))
section
local macro_rules | `(tactic| units_room) => `(tactic| ((have hcL9 := cLine_is); (try simp only [units_under_make, units_in1, units_deeper, Around.mark_units, units_caller]); (try dsimp only [ktrTop]); omega))
theorem pick_call {P : Value → Prop} {vs : List Value} {l : Addr} {pre : List (Addr × Obj)} {w : World} {p : Program} {loose : List Str} {mean : ExcName → Option Value} {mg mb : Str → Option Value}
    {K : Int} {pa ca : Addr} {i r : Int} {ti tr : Tok} {ys : List Value} {ns : List Int} {rest : List (Addr × Obj)}
    {dp un : Nat} {gd : Option (List Code)} {cn : Str} {cs : Scope} {a : Addr} {ccd : Value} {cl : List (Str × Addr)} {outer : List Env} {A₀ : Around} {base h₀ : Heap} {L : Addr} {m : Str → Option Value} {s : Shared} {Q E : Value → Shared → Prop}
    (B : Below A₀ base outer h₀) (F : Fr h₀ L s.heap m) (X : (hd.heap_39 w.params).In h₀)
    (N : News h₀ L s.heap ((l, W.listOf vs.toArray 0) :: (pre ++ (pa, penObj ca i ti r tr) :: (ca, LCg.lst ys) :: rest)))
    (T : Top p loose mean mg mb h₀) (hk : cs.kind = .function)
    (hx : @LT.lt Nat _ pa l) (hrest : Off pa rest) (hca : @LT.lt Nat _ ca pa) (hI : IntsAre ys ns) (hlen : ns.length ≤ 40) (h0 : 0 ≤ i) (h1 : i ≤ K) (hK : K ≤ 1000) (h2 : 0 ≤ r)
    (hP : ∀ v ∈ vs, P v) (v0 : 1 ≤ vs.length) (v1 : vs.length ≤ 1000)
    (hd : dp + 2 < recursionLimit) (hu : un + 1500 < cLine)
    (hret : ∀ (v : Value) (i' : Int) (ti' : Tok) (r' : Int) (tr' : Tok) (h' : Heap) (tk' : Nat), P v → 0 ≤ i' → i' ≤ K + 1 → 0 ≤ r' → Fr h₀ L h' m →
      News h₀ L h' ((pa, penObj ca i' ti' r' tr') :: (ca, LCg.lst ys) :: rest) → Q v { s with heap := h', toks := tk' }) :
    wpAny (model PySem.Challenge.rw_nu0218_01.row.prog w) (ktrTop dp un gd cn cs L a ccd cl outer) (call (.ref 203) [.ref pa, .ref l]) Q E s := by
  have N0 : News h₀ L s.heap ((l, W.listOf vs.toArray 0) :: (pa, penObj ca i ti r tr) :: (ca, LCg.lst ys) :: rest) := fun q hq => N q (by
    rcases List.mem_cons.mp hq with rfl | hq
    · exact .head _
    · exact .tail _ (List.mem_append_right _ hq))
  clear N
  w_top off; revert X; k_fill; intro X; refine wpAny_call ?_
  k_dflt cell_enter
  repeat' (first
    | (k_unfold; (try dsimp only))
    | with_reducible (
  (with_reducible show wpAny _ _ (subscriptTail (Expr.Name _ _) (Expr.Call _ _ _ _) (Value.ref _) (Value.int _ _)) _ _ _)
  k_here
  (with_reducible show wpAny _ _ (subscriptTail _ _ (Value.ref _) (Value.int _ _)) _ _ _)
  k_dflt (refine item_any (News.isList (by k_asm) (by k_mem)) (by assumption) (by assumption) (by assumption) (by omega) ?_)
  intro v' hv')
    | with_reducible (
  k_here
  (with_reducible show wpAny _ _ (PySem.call (Value.ref 196) [_, _]) _ _ _)
  k_dflt (refine' draw_one ?qB ?qF ?qX ?qN ?qT ?qk ?qx ?qrest ?qca ?qI ?qlen ?q0 ?q1 ?qK ?q2 ?q3 ?q4 ?qd ?qu ?_; (case qN => k_asm); (case qB => k_asm); (case qF => k_asm); (case qX => k_asm); (case qT => k_asm); (case qk => exact rfl); (case qx => assumption); (case qrest => assumption); (case qca => assumption); (case qI => assumption); (case qlen => assumption); (case q0 => assumption); (case q1 => assumption); (case qK => omega); (case q2 => assumption); (case q3 => omega); (case q4 => omega); (case qd => ktr_room); (case qu => ktr_units))
  intro d' t' i' ti' r' tr' h' tk' hd0' hd1' hi0' hi1' hr0' F' N')
    | with_reducible (
  k_here
  (with_reducible show wpAny _ _ (PySem.call (Value.builtin "len") [Value.ref _]) _ _ _)
  k_dflt (refine KM.len_K (by k_asm) (by k_mem) List.size_toArray (by omega) ?_))
    | (k_end; kc_close)
    | walk1
    | (dsimp only; walk1)
    | (leave1; walk_say "STEP leave1"; (try dsimp only))
    | fail "no step")
  all_goals
    ((rename News h₀ L _ _ => kN)
     (rename Fr h₀ L _ _ => kF)
     (rename P _ => kP)
     refine hret _ _ _ _ _ _ _ kP ?_ ?_ ?_ kF (drop_head kN) <;> assumption)
end
section
variable {vs : List Value} {l : Addr} {pre : List (Addr × Obj)} {w : World} {p : Program} {loose : List Str} {mean : ExcName → Option Value} {mg mb : Str → Option Value}
    {K : Int} {pa ca : Addr} {i r : Int} {ti tr : Tok} {ys : List Value} {ns : List Int} {rest : List (Addr × Obj)}
theorem ints_in {ws : List Int} {lo hi : Int} (h : IntsAre vs ws) (hb : ws.all (fun x => decide (lo ≤ x) && decide (x ≤ hi)) = true) : ∀ v ∈ vs, ∃ x t, v = .int x t ∧ lo ≤ x ∧ x ≤ hi := by
  induction h with
  | nil => intro v hv; cases hv
  | cons x t hr ih =>
    rw [List.all_cons, Bool.and_eq_true, Bool.and_eq_true, decide_eq_true_iff, decide_eq_true_iff] at hb
    intro v hv
    rcases List.mem_cons.mp hv with rfl | hv
    · exact ⟨x, t, rfl, hb.1⟩
    · exact ih hb.2 v hv
theorem words_in {ws : List Str} (h : StrsAre vs ws) (hb : ws.all (fun y => !(kindsL.any (· == y))) = true) : ∀ v ∈ vs, ∃ x t, v = .str x t ∧ (kindsL.any (· == x)) = false := by
  induction h with
  | nil => intro v hv; cases hv
  | cons x t hr ih =>
    rw [List.all_cons, Bool.and_eq_true] at hb
    intro v hv
    rcases List.mem_cons.mp hv with rfl | hv
    · exact ⟨x, t, rfl, by simpa using hb.1⟩
    · exact ih hb.2 v hv
theorem pick_int (lo hi : Int) {ws : List Int}
    {dp un : Nat} {gd : Option (List Code)} {cn : Str} {cs : Scope} {a : Addr} {ccd : Value} {cl : List (Str × Addr)} {outer : List Env} {A₀ : Around} {base h₀ : Heap} {L : Addr} {m : Str → Option Value} {s : Shared} {Q E : Value → Shared → Prop}
    (B : Below A₀ base outer h₀) (F : Fr h₀ L s.heap m) (X : (hd.heap_39 w.params).In h₀)
    (N : News h₀ L s.heap ((l, W.listOf vs.toArray 0) :: (pre ++ (pa, penObj ca i ti r tr) :: (ca, LCg.lst ys) :: rest)))
    (T : Top p loose mean mg mb h₀) (hk : cs.kind = .function)
    (hx : @LT.lt Nat _ pa l) (hrest : Off pa rest) (hca : @LT.lt Nat _ ca pa) (hI : IntsAre ys ns) (hlen : ns.length ≤ 40) (h0 : 0 ≤ i) (h1 : i ≤ K) (hK : K ≤ 1000) (h2 : 0 ≤ r)
    (hi' : IntsAre vs ws) (hb : ws.all (fun x => decide (lo ≤ x) && decide (x ≤ hi)) = true) (v0 : 1 ≤ vs.length) (v1 : vs.length ≤ 1000)
    (hd : dp + 2 < recursionLimit) (hu : un + 1500 < cLine)
    (hret : ∀ (x : Int) (t : Tok) (i' : Int) (ti' : Tok) (r' : Int) (tr' : Tok) (h' : Heap) (tk' : Nat), lo ≤ x → x ≤ hi → 0 ≤ i' → i' ≤ K + 1 → 0 ≤ r' → Fr h₀ L h' m →
      News h₀ L h' ((pa, penObj ca i' ti' r' tr') :: (ca, LCg.lst ys) :: rest) → Q (.int x t) { s with heap := h', toks := tk' }) :
    wpAny (model PySem.Challenge.rw_nu0218_01.row.prog w) (ktrTop dp un gd cn cs L a ccd cl outer) (call (.ref 203) [.ref pa, .ref l]) Q E s :=
  pick_call B F X N T hk hx hrest hca hI hlen h0 h1 hK h2 (ints_in hi' hb) v0 v1 hd hu fun v i' ti' r' tr' h' tk' hv a b c F' N' => by
    obtain ⟨x, t, rfl, q⟩ := hv
    exact hret x t i' ti' r' tr' h' tk' q.1 q.2 a b c F' N'
theorem pick_word {ws : List Str}
    {dp un : Nat} {gd : Option (List Code)} {cn : Str} {cs : Scope} {a : Addr} {ccd : Value} {cl : List (Str × Addr)} {outer : List Env} {A₀ : Around} {base h₀ : Heap} {L : Addr} {m : Str → Option Value} {s : Shared} {Q E : Value → Shared → Prop}
    (B : Below A₀ base outer h₀) (F : Fr h₀ L s.heap m) (X : (hd.heap_39 w.params).In h₀)
    (N : News h₀ L s.heap ((l, W.listOf vs.toArray 0) :: (pre ++ (pa, penObj ca i ti r tr) :: (ca, LCg.lst ys) :: rest)))
    (T : Top p loose mean mg mb h₀) (hk : cs.kind = .function)
    (hx : @LT.lt Nat _ pa l) (hrest : Off pa rest) (hca : @LT.lt Nat _ ca pa) (hI : IntsAre ys ns) (hlen : ns.length ≤ 40) (h0 : 0 ≤ i) (h1 : i ≤ K) (hK : K ≤ 1000) (h2 : 0 ≤ r)
    (hi' : StrsAre vs ws) (hb : ws.all (fun y => !(kindsL.any (· == y))) = true) (v0 : 1 ≤ vs.length) (v1 : vs.length ≤ 1000)
    (hd : dp + 2 < recursionLimit) (hu : un + 1500 < cLine)
    (hret : ∀ (x : Str) (t : Tok) (i' : Int) (ti' : Tok) (r' : Int) (tr' : Tok) (h' : Heap) (tk' : Nat), (kindsL.any (· == x)) = false → Fr h₀ L h' m →
      News h₀ L h' ((pa, penObj ca i' ti' r' tr') :: (ca, LCg.lst ys) :: rest) → Q (.str x t) { s with heap := h', toks := tk' }) :
    wpAny (model PySem.Challenge.rw_nu0218_01.row.prog w) (ktrTop dp un gd cn cs L a ccd cl outer) (call (.ref 203) [.ref pa, .ref l]) Q E s :=
  pick_call B F X N T hk hx hrest hca hI hlen h0 h1 hK h2 (words_in hi' hb) v0 v1 hd hu fun v i' ti' r' tr' h' tk' hv a b c F' N' => by
    obtain ⟨x, t, rfl, q⟩ := hv
    exact hret x t i' ti' r' tr' h' tk' q F' N'
end
section
theorem fault_call {w : World} {p : Program} {loose : List Str} {mean : ExcName → Option Value} {mg mb : Str → Option Value}
    (what : Str) (tw : Tok) (at' : Int) (ta : Tok) (rest : List (Addr × Obj))
    (dp un : Nat) (gd : Option (List Code)) (cn : Str) (cs : Scope) (a : Addr) (ccd : Value) (cl : List (Str × Addr)) (outer : List Env) (A₀ : Around) (base h₀ : Heap) (L : Addr) (m : Str → Option Value) (s : Shared) (ek E : Value → Shared → Prop)
    (B : Below A₀ base outer h₀) (F : Fr h₀ L s.heap m) (X : (hd.heap_39 w.params).In h₀)
    (N : News h₀ L s.heap rest)
    (T : Top p loose mean mg mb h₀) (hk : cs.kind = .function)
    (hd : dp + 1 < recursionLimit) (hu : un + 1000 < cLine)
    (hret : ∀ e D t' hk1 hk2 t1 t2 ta' h' tk, Fr h₀ L h' m → News h₀ L h' ((e, excDone 61 D t') :: (D, dict2 hk1 hk2 "what" "at" t1 t2 (.str what tw) (.int at' ta')) :: rest) →
      (∀ q ∈ (D, dict2 hk1 hk2 "what" "at" t1 t2 (.str what tw) (.int at' ta')) :: rest, q.1 ≠ e) → ek (.ref e) { s with heap := h', toks := tk }) :
    wpAny (model PySem.Challenge.rw_nu0218_01.row.prog w) (ktrTop dp un gd cn cs L a ccd cl outer) (call (.ref 61) [.str what tw, .int at' ta]) (FaultP ek) E s := by
  w_top off; revert X; k_fill; intro X
  refine make_faultP F X N (Nat.le_of_ble_eq_true rfl) ?_
  intro e t h1 F1 N1 la0 lb0
  have Nr : News h₀ L h1 rest := cb_drop N1 (fun p hp => .tail _ (.tail _ hp))
  have Ni : News h₀ L h1 [(e, excNew 61 t), (t, tupObj [.str what tw, .int at' ta])] := cb_drop N1 (fun p hp => by simp only [List.mem_cons, List.not_mem_nil, or_false] at hp ⊢; rcases hp with h | h <;> simp [h])
  have hne : ∀ q ∈ rest, q.1 ∉ ([(e, excNew 61 t), (t, tupObj [.str what tw, .int at' ta])] : List (Addr × Obj)).map (·.1) := fun q hq => by
    have := la0 q hq
    simp only [List.map_cons, List.map_nil, List.mem_cons, List.not_mem_nil, or_false, not_or]
    exact ⟨Nat.ne_of_lt (Nat.lt_trans this lb0), Nat.ne_of_lt this⟩
  clear N1 F N
  refine wpAny_call ?_
  k_dflt (
  refine' ks_code_rest ?k1 ?k2 ?k3 ?k4 Nr hne ?k5 ?kA ?kF ?kK ?k6 ?k7 ?k8 ?k9 ?kB ?_ ?c1 ?c2 ?c3 ?c4
  (case kA => exact rfl)
  (case kF => exact rfl)
  (case kK => exact hk)
  (case k1 => k_asm)
  (case k2 => k_asm)
  (case k3 => k_asm)
  (case k4 => exact Ni)
  (case k5 => k_asm)
  (case k6 => k_is)
  (case k7 => k_is)
  (case k8 => ktr_room)
  (case k9 => exact binds_K (by k_in) rfl (by k_is) rfl rfl rfl)
  (case kB => exact locs rfl)
  (case c1 => decide)
  (case c2 => exact rfl)
  (case c3 => exact rfl)
  (case c4 => exact rfl))
  intro g' L' h' FG' Hg F' N' B' X' T' l3
  (try k_lt l3)
  (try dsimp only)
  (try k_lift B')
  repeat' (first
    | (k_unfold; (try dsimp only))
    | with_reducible (
  ks_step "eval Call"
  k_dflt (refine ks_wpAt_MethodCall ?_))
    | with_reducible (
  ks_step "exec Expr"
  k_dflt (refine ks_wpAt_Expr_any ?_))
    | with_reducible (
  k_here
  (with_reducible show wpAny _ _ (setAttr (Value.ref _) (PySem.Str.ofString "at") _) _ _ _)
  (with_reducible rename News _ _ _ ((_, dict1 _ _ _ _) :: _) => n9)
  k_dflt (first
    | (refine' set_next (pre := [_, _, _]) ?kF ?kX ?kN ?k2 ?k3 ?k4 ?k5 ?_; (case kN => k_asm); (case kF => k_asm); (case kX => k_asm); (case k2 => k_all); (case k3 => exact kta _); (case k4 => rfl); (case k5 => (intro _ _; rfl)))
    | fail "set_next")
  intro h' hk' tk1' tk' F' N'
  (try simp only [List.nil_append, List.cons_append] at N'))
    | with_reducible (
  k_here
  (with_reducible show wpAny _ _ (setAttr (Value.ref _) (PySem.Str.ofString "what") _) _ _ _)
  k_dflt (first
    | (refine' set_first (pre := [_, _, _]) ?kF ?kX ?kN ?k1 ?k2 ?k3 ?_; (case kN => k_asm); (case kF => k_asm); (case kX => k_asm); (case k1 => k_all); (case k2 => k_all); (case k3 => exact ktw _))
    | fail "set_first")
  intro D' h' hk' tk1' tk' F' N' l1
  (try simp only [List.nil_append, List.cons_append] at N' l1)
  (try k_lt l1))
    | with_reducible (
  k_here
  (with_reducible show wpAny _ _ (PySem.call (Value.ref _) [Value.str _ _]) _ _ _)
  (with_reducible rename News _ _ _ ((_, wrapObj _) :: _) => n9)
  k_dflt (refine' call_wrap (pre := [_]) ?kF ?kX ?kN ?k1 ?k2 ?k3 ?_; (case kN => k_asm); (case kF => k_asm); (case kX => k_asm); (case k1 => k_all); (case k2 => k_all); (case k3 => exact Nat.le_of_ble_eq_true rfl))
  intro t' h' tk' F' N' l1
  (try simp only [List.nil_append, List.cons_append] at N' l1)
  (try k_lt l1))
    | with_reducible (
  (with_reducible show WrapAt _ _ _ ∧ _)
  k_dflt (refine ⟨WrapAt.of (by k_asm) (by k_mem), ?_⟩)
  (try dsimp only [List.nil_append, List.cons_append]))
    | with_reducible (
  k_here
  (with_reducible show wpAny _ _ (callWith _ (Value.ref _) _ (backTo _ (starEach (_ :: _) _)) []) _ _ _)
  (with_reducible rename News _ _ _ ((_, wrapObj _) :: _) => n9)
  k_dflt (refine callWith_wrap (by k_asm) (by k_mem) ?_)
  k_whole)
    | with_reducible (
  k_here
  (with_reducible show wpAny _ _ (getMethod (Value.ref _) (PySem.Str.ofString "__init__") _) _ _ _)
  k_dflt (refine sup_methodN (by k_asm) (by k_asm) (by k_asm) (by k_mem) (by k_mem) ?_)
  intro q' h' tk' F' N' l1
  (try k_lt l1))
    | with_reducible (
  ks_step "attributeBase Call"
  k_here
  k_dflt (refine ks_node (by k_asm) (by k_asm) (by k_asm) (by k_asm) (by k_is) (by rfl) (by rfl) (inst_new (by k_asm) (by k_mem)) (by k_is) (by rfl) (by first | rfl | decide +kernel) (by k_is) (by k_is) (by k_is) (by k_is) (by decide) (by rfl) (by rfl) (by rfl) (by rfl) (by decide +kernel) (by first | boot_by_name | rfl | kernel_rfl) ?_)
  intro so' h' F' N' l1
  (try k_lt l1))
    | with_reducible (
  k_here
  (with_reducible show wpAny _ _ (PySem.call (Value.ref 38) _) _ _ _)
  k_dflt (
  refine wpAny_call ?_
  refine' ks_code_super ?k1 ?k2 ?k3 ?k4 ?k5 ?kA ?kF ?kK ?k6 ?k7 ?k8 ?k9 ?kB ?_ ?c1 ?c2 ?c3 ?c4
  (case kA => exact rfl)
  (case kF => exact rfl)
  (case kK => first | exact rfl | assumption)
  (case k1 => k_asm)
  (case k2 => k_asm)
  (case k3 => k_asm)
  (case k4 => k_asm)
  (case k5 => k_asm)
  (case k6 => k_is)
  (case k7 => k_is)
  (case k8 => first | k_room | ktr_room)
  (case k9 => exact binds_K (by k_in) rfl (by k_is) rfl rfl rfl)
  (case kB => exact locs rfl)
  (case c1 => decide)
  (case c2 => exact rfl)
  (case c3 => exact rfl)
  (case c4 => exact rfl))
  intro g' L' h' FG' F' N' B' X' T' l1
  (try k_lt l1)
  (try dsimp only)
  (try k_lift B'))
    | with_reducible (
  (with_reducible show MadeP _ _ _ _ )
  k_dflt (refine MadeP.intro ?_))
    | (k_end; kc_close)
    | walk1
    | (dsimp only; walk1)
    | (leave1; walk_say "STEP leave1"; (try dsimp only))
    | fail "no step")
  rename News h₀ L _ _ => kN
  rename Fr h₀ L _ _ => kF
  have J := Holds.join Hg Nr (by assumption) kN
  refine FaultP.intro kF X kN (by k_mem) (hret _ _ _ _ _ _ _ _ _ _ kF (lift6 J) ?_)
  · intro q hq
    rcases List.mem_cons.mp hq with rfl | hq
    · exact Nat.ne_of_gt (by omega)
    · exact Nat.ne_of_lt (Nat.lt_trans (la0 q hq) lb0)
theorem fault_call1 {w : World} {p : Program} {loose : List Str} {mean : ExcName → Option Value} {mg mb : Str → Option Value}
    (what : Str) (tw : Tok) (rest : List (Addr × Obj))
    (dp un : Nat) (gd : Option (List Code)) (cn : Str) (cs : Scope) (a : Addr) (ccd : Value) (cl : List (Str × Addr)) (outer : List Env) (A₀ : Around) (base h₀ : Heap) (L : Addr) (m : Str → Option Value) (s : Shared) (ek E : Value → Shared → Prop)
    (B : Below A₀ base outer h₀) (F : Fr h₀ L s.heap m) (X : (hd.heap_39 w.params).In h₀)
    (N : News h₀ L s.heap rest)
    (T : Top p loose mean mg mb h₀) (hk : cs.kind = .function)
    (hd : dp + 1 < recursionLimit) (hu : un + 1000 < cLine)
    (hret : ∀ e D t' hk1 hk2 t1 t2 ta' h' tk, Fr h₀ L h' m → News h₀ L h' ((e, excDone 61 D t') :: (D, dict2 hk1 hk2 "what" "at" t1 t2 (.str what tw) (.int (-1) ta')) :: rest) →
      (∀ q ∈ (D, dict2 hk1 hk2 "what" "at" t1 t2 (.str what tw) (.int (-1) ta')) :: rest, q.1 ≠ e) → ek (.ref e) { s with heap := h', toks := tk }) :
    wpAny (model PySem.Challenge.rw_nu0218_01.row.prog w) (ktrTop dp un gd cn cs L a ccd cl outer) (call (.ref 61) [.str what tw]) (FaultP ek) E s := by
  w_top off; revert X; k_fill; intro X
  refine make_faultP F X N (Nat.le_of_ble_eq_true rfl) ?_
  intro e t h1 F1 N1 la0 lb0
  have Nr : News h₀ L h1 rest := cb_drop N1 (fun p hp => .tail _ (.tail _ hp))
  have Ni : News h₀ L h1 [(e, excNew 61 t), (t, tupObj [.str what tw])] := cb_drop N1 (fun p hp => by simp only [List.mem_cons, List.not_mem_nil, or_false] at hp ⊢; rcases hp with h | h <;> simp [h])
  have hne : ∀ q ∈ rest, q.1 ∉ ([(e, excNew 61 t), (t, tupObj [.str what tw])] : List (Addr × Obj)).map (·.1) := fun q hq => by
    have := la0 q hq
    simp only [List.map_cons, List.map_nil, List.mem_cons, List.not_mem_nil, or_false, not_or]
    exact ⟨Nat.ne_of_lt (Nat.lt_trans this lb0), Nat.ne_of_lt this⟩
  clear N1 F N
  refine wpAny_call ?_
  k_dflt (
  refine' ks_code_rest ?k1 ?k2 ?k3 ?k4 Nr hne ?k5 ?kA ?kF ?kK ?k6 ?k7 ?k8 ?k9 ?kB ?_ ?c1 ?c2 ?c3 ?c4
  (case kA => exact rfl)
  (case kF => exact rfl)
  (case kK => exact hk)
  (case k1 => k_asm)
  (case k2 => k_asm)
  (case k3 => k_asm)
  (case k4 => exact Ni)
  (case k5 => k_asm)
  (case k6 => k_is)
  (case k7 => k_is)
  (case k8 => ktr_room)
  (case k9 => exact binds_K (by k_in) rfl (by k_is) rfl rfl rfl)
  (case kB => exact locs rfl)
  (case c1 => decide)
  (case c2 => exact rfl)
  (case c3 => exact rfl)
  (case c4 => exact rfl))
  intro g' L' h' FG' Hg F' N' B' X' T' l3
  (try k_lt l3)
  (try dsimp only)
  (try k_lift B')
  repeat' (first
    | (k_unfold; (try dsimp only))
    | with_reducible (
  ks_step "eval Call"
  k_dflt (refine ks_wpAt_MethodCall ?_))
    | with_reducible (
  ks_step "exec Expr"
  k_dflt (refine ks_wpAt_Expr_any ?_))
    | with_reducible (
  k_here
  (with_reducible show wpAny _ _ (setAttr (Value.ref _) (PySem.Str.ofString "at") _) _ _ _)
  (with_reducible rename News _ _ _ ((_, dict1 _ _ _ _) :: _) => n9)
  k_dflt (first
    | (refine' set_next (pre := [_, _, _]) ?kF ?kX ?kN ?k2 ?k3 ?k4 ?k5 ?_; (case kN => k_asm); (case kF => k_asm); (case kX => k_asm); (case k2 => k_all); (case k3 => exact kta _); (case k4 => rfl); (case k5 => (intro _ _; rfl)))
    | fail "set_next")
  intro h' hk' tk1' tk' F' N'
  (try simp only [List.nil_append, List.cons_append] at N'))
    | with_reducible (
  k_here
  (with_reducible show wpAny _ _ (setAttr (Value.ref _) (PySem.Str.ofString "what") _) _ _ _)
  k_dflt (first
    | (refine' set_first (pre := [_, _, _]) ?kF ?kX ?kN ?k1 ?k2 ?k3 ?_; (case kN => k_asm); (case kF => k_asm); (case kX => k_asm); (case k1 => k_all); (case k2 => k_all); (case k3 => exact ktw _))
    | fail "set_first")
  intro D' h' hk' tk1' tk' F' N' l1
  (try simp only [List.nil_append, List.cons_append] at N' l1)
  (try k_lt l1))
    | with_reducible (
  k_here
  (with_reducible show wpAny _ _ (PySem.call (Value.ref _) [Value.str _ _]) _ _ _)
  (with_reducible rename News _ _ _ ((_, wrapObj _) :: _) => n9)
  k_dflt (refine' call_wrap (pre := [_]) ?kF ?kX ?kN ?k1 ?k2 ?k3 ?_; (case kN => k_asm); (case kF => k_asm); (case kX => k_asm); (case k1 => k_all); (case k2 => k_all); (case k3 => exact Nat.le_of_ble_eq_true rfl))
  intro t' h' tk' F' N' l1
  (try simp only [List.nil_append, List.cons_append] at N' l1)
  (try k_lt l1))
    | with_reducible (
  (with_reducible show WrapAt _ _ _ ∧ _)
  k_dflt (refine ⟨WrapAt.of (by k_asm) (by k_mem), ?_⟩)
  (try dsimp only [List.nil_append, List.cons_append]))
    | with_reducible (
  k_here
  (with_reducible show wpAny _ _ (callWith _ (Value.ref _) _ (backTo _ (starEach (_ :: _) _)) []) _ _ _)
  (with_reducible rename News _ _ _ ((_, wrapObj _) :: _) => n9)
  k_dflt (refine callWith_wrap (by k_asm) (by k_mem) ?_)
  k_whole)
    | with_reducible (
  k_here
  (with_reducible show wpAny _ _ (getMethod (Value.ref _) (PySem.Str.ofString "__init__") _) _ _ _)
  k_dflt (refine sup_methodN (by k_asm) (by k_asm) (by k_asm) (by k_mem) (by k_mem) ?_)
  intro q' h' tk' F' N' l1
  (try k_lt l1))
    | with_reducible (
  ks_step "attributeBase Call"
  k_here
  k_dflt (refine ks_node (by k_asm) (by k_asm) (by k_asm) (by k_asm) (by k_is) (by rfl) (by rfl) (inst_new (by k_asm) (by k_mem)) (by k_is) (by rfl) (by first | rfl | decide +kernel) (by k_is) (by k_is) (by k_is) (by k_is) (by decide) (by rfl) (by rfl) (by rfl) (by rfl) (by decide +kernel) (by first | boot_by_name | rfl | kernel_rfl) ?_)
  intro so' h' F' N' l1
  (try k_lt l1))
    | with_reducible (
  k_here
  (with_reducible show wpAny _ _ (PySem.call (Value.ref 38) _) _ _ _)
  k_dflt (
  refine wpAny_call ?_
  refine' ks_code_super ?k1 ?k2 ?k3 ?k4 ?k5 ?kA ?kF ?kK ?k6 ?k7 ?k8 ?k9 ?kB ?_ ?c1 ?c2 ?c3 ?c4
  (case kA => exact rfl)
  (case kF => exact rfl)
  (case kK => first | exact rfl | assumption)
  (case k1 => k_asm)
  (case k2 => k_asm)
  (case k3 => k_asm)
  (case k4 => k_asm)
  (case k5 => k_asm)
  (case k6 => k_is)
  (case k7 => k_is)
  (case k8 => first | k_room | ktr_room)
  (case k9 => exact binds_K (by k_in) rfl (by k_is) rfl rfl rfl)
  (case kB => exact locs rfl)
  (case c1 => decide)
  (case c2 => exact rfl)
  (case c3 => exact rfl)
  (case c4 => exact rfl))
  intro g' L' h' FG' F' N' B' X' T' l1
  (try k_lt l1)
  (try dsimp only)
  (try k_lift B'))
    | with_reducible (
  (with_reducible show MadeP _ _ _ _ )
  k_dflt (refine MadeP.intro ?_))
    | (k_end; kc_close)
    | walk1
    | (dsimp only; walk1)
    | (leave1; walk_say "STEP leave1"; (try dsimp only))
    | fail "no step")
  rename News h₀ L _ _ => kN
  rename Fr h₀ L _ _ => kF
  have J := Holds.join Hg Nr (by assumption) kN
  refine FaultP.intro kF X kN (by k_mem) (hret _ _ _ _ _ _ _ _ _ _ kF (lift6 J) ?_)
  · intro q hq
    rcases List.mem_cons.mp hq with rfl | hq
    · exact Nat.ne_of_gt (by omega)
    · exact Nat.ne_of_lt (Nat.lt_trans (la0 q hq) lb0)
end
section
local macro_rules | `(tactic| units_room) => `(tactic| ((have hcL9 := cLine_is); (try simp only [units_under_make, units_in1, units_deeper, Around.mark_units, units_caller]); (try dsimp only [ktrTop]); omega))
local macro_rules | `(tactic| k_room) => `(tactic| ktr_room)
theorem num_call {w : World} {p : Program} {loose : List Str} {mean : ExcName → Option Value} {mg mb : Str → Option Value}
    (l : List Int) (x c v z : Int) (tb tx tc : Tok) (rest : List (Addr × Obj))
    (dp un : Nat) (gd : Option (List Code)) (cn : Str) (cs : Scope) (a' : Addr) (ccd : Value) (cl : List (Str × Addr)) (outer : List Env) (A₀ : Around) (base h₀ : Heap) (L : Addr) (m : Str → Option Value) (s : Shared) (Q E : Value → Shared → Prop)
    (B : Below A₀ base outer h₀) (F : Fr h₀ L s.heap m) (X : (hd.heap_39 w.params).In h₀)
    (N : News h₀ L s.heap rest)
    (T : Top p loose mean mg mb h₀) (hk : cs.kind = .function)
    (hd : dp + 4 < recursionLimit) (hu : un + 3000 < cLine)
    (hl : KBa.In l) (hz : (l.length : Int) = z) (z1 : z ≤ 1000) (x0 : 0 ≤ x) (c0 : 0 ≤ c) (c4 : c ≤ 4)
    (hv : x + c ≤ z → beNum 0 (List.take c.toNat (List.drop x.toNat l)) = v)
    (hQ : x + c ≤ z → ∀ t h' tk, Fr h₀ L h' m → News h₀ L h' rest → Q (.int v t) { s with heap := h', toks := tk })
    (hE : z < x + c → ∀ e D G hk1 hk2 t1 t2 v1 t h' tk, Fr h₀ L G m → Holds G rest → RaisedF base G (envX cn cs L a' ccd cl :: outer) e D [(D, dict2 hk1 hk2 "what" "at" t1 t2 v1 (.int x t))] h' → G.UpToSlots h' → E (.ref e) { s with heap := h', toks := tk }) :
    wpAny (model PySem.Challenge.rw_nu0218_01.row.prog w) (ktrTop dp un gd cn cs L a' ccd cl outer) (call (.ref 77) [.bytes (byteArr l) tb, .int x tx, .int c tc]) Q E s := by
  w_top off; revert X; k_fill; intro X
  subst hz
  refine wpAny_call ?_
  k_dflt (
  refine' code_rest ?k1 ?k2 ?k3 N ?k5 ?kA ?kF ?kK ?k6 ?k7 ?k8 ?k9 ?kB ?_ ?c2 ?c3 ?c4 ?c5
  (case kA => exact rfl)
  (case kF => exact rfl)
  (case kK => exact hk)
  (case k1 => k_asm)
  (case k2 => k_asm)
  (case k3 => k_asm)
  (case k5 => k_asm)
  (case k6 => k_is)
  (case k7 => k_is)
  (case k8 => ktr_room)
  (case k9 => exact BindsTo.of_eq rfl)
  (case kB => exact locs rfl)
  (case c2 => exact rfl)
  (case c3 => exact rfl)
  (case c4 => exact rfl)
  (case c5 => decide))
  k_whole
  intro g' L' h' FG' Hg F' N' B' X' T'
  (try dsimp only)
  (try k_lift B')
  (try k_fold)
  repeat' (first
    | (k_unfold; (try dsimp only))
    | with_reducible (
  (with_reducible show wpAny _ _ (leaving _ (Value.ref _)) _ _ _)
  k_here
  k_dflt (first
    | (refine' fault_goes_on ?kK ?kF ?kR ?kU ?kf ?_; (case kR => assumption); (case kU => assumption); (case kK => assumption); (case kF => assumption); (case kf => exact rfl))
    | (refine' fault_leaves ?kK ?kF ?kN ?kne ?q1 ?q2 ?q3 ?q4 ?q5 ?kk ?_; (case kN => k_asm); (case kF => k_asm); (case kK => k_asm); (case q1 => exact rfl); (case q2 => exact rfl); (case q3 => exact rfl); (case q4 => exact rfl); (case q5 => exact rfl); (case kne => assumption); (case kk => first | decide | (intro z; cases z)))
    | fail "fault: leaving")
  k_whole
  intro h' R' U'
  (try dsimp only at R' U'))
    | with_reducible (
  k_here
  (with_reducible show wpAny _ _ (PySem.call (Value.ref 61) [_, _]) _ _ _)
  k_dflt (refine' fault_call _ _ _ _ _ _ _ _ _ _ _ _ _ _ _ _ _ _ _ _ _ _ ?kB ?kF ?kX ?kN ?kT ?kk ?kd ?ku ?_; (case kN => k_asm); (case kB => k_asm); (case kF => k_asm); (case kX => k_asm); (case kT => k_asm); (case kk => exact rfl); (case kd => ktr_room); (case ku => ktr_units))
  intro e' D' t' hk1' hk2' t1' t2' ta' h' tk' F' N' hne')
    | with_reducible (
  k_here
  (with_reducible show wpAny _ _ (binaryOp Operator.BitOr (Value.int _ _) (Value.int _ _)) _ _ _)
  k_dflt (refine or256_v (by assumption) (by assumption) (by assumption) ?_))
    | with_reducible (
  k_here
  (with_reducible show wpAny _ _ (binaryOp Operator.LShift (Value.int _ _) (Value.int _ _)) _ _ _)
  k_dflt (refine shl_v (by assumption) (by assumption) ?_))
    | with_reducible (
  (with_reducible show BytesRest _ _ _ _ _ _ _ _ _ _ _ _ _ _)
  (with_reducible rename (∀ _ : Tok, BytesRest _ _ _ _ _ _ _ _ _ _ _ _ _ _) => h9)
  k_dflt (exact h9 _))
    | with_reducible (
  (with_reducible show wpAny _ _ (pyIter (Value.bytes _ _)) (fun it s₂ => LoopAtV _ _ _ _ _ _ _ _ _ it s₂) _ _)
  k_here
  (with_reducible rename (KBw.bInts (KBy.picked _ _ _) = _) => kb9)
  have kb8 := slice_in kb9 (by assumption) (by assumption) (by assumption)
  clear kb9
  (rename Fr _ _ _ _ => lF')
  (rename News _ _ _ _ => lN')
  (with_unfolding_all refine iter_bytesUnr (by rfl) lF' lN' kb8 ?_)
  clear lF' lN'
  intro i' l1
  (k_dflt (refine bytes_loop (a := PySem.Str.ofString "total") (len4 (by assumption)) (fun t' c' tt' oc' r' ht0' ht1' hc0' hc1' u' it' h' tk' F' N' K' => ?_) (fun tt' oc' h' tk' F' N' => ?_) _)))
    | with_reducible (
  with_reducible (first | refine ite_false_p ?_ | refine ite_true_p ?_))
    | with_reducible (
  k_here
  (with_reducible show wpAny _ _ (exec (Stmt.For (Expr.Name _ _) (Expr.Subscript _ (Expr.Slice _ _ _ _) _) _ _ _) _) _ _ _)
  (rename Fr _ _ _ _ => lF')
  (with_unfolding_all refine' For_invVF lF' ?k1 ?k2 ?_; (case k1 => exact rfl); (case k2 => exact rfl))
  k_whole)
    | with_reducible (
  k_here
  (with_reducible show wpAny _ _ (exec (Stmt.Raise (some (Expr.Call (Expr.Name _ _) _ _ _)) none _) _) _ _ _)
  k_dflt (refine raise_fault rfl ?_))
    | (k_end; kc_close)
    | walk1
    | (dsimp only; walk1)
    | (leave1; walk_say "STEP leave1"; (try dsimp only))
    | fail "no step")
  all_goals first
    | (refine' hE (by assumption) _ _ _ _ _ _ _ _ _ _ _ FG' Hg ?hR ?hU
       (case hR => exact raised_drop (by assumption))
       (case hU => assumption))
    | ((rename News h₀ L _ _ => kN)
       (rename Fr h₀ L _ _ => kF)
       (have J := Holds.join Hg N (by assumption) kN)
       (have hx := Int.not_lt.mp (by assumption))
       (rw [hv hx])
       exact hQ hx _ _ _ kF J)
end
section
local macro_rules | `(tactic| units_room) => `(tactic| ((have hcL9 := cLine_is); (try simp only [units_under_make, units_in1, units_deeper, Around.mark_units, units_caller]); (try dsimp only [ktrTop]); omega))
local macro_rules | `(tactic| k_room) => `(tactic| ktr_room)
theorem behind_call {w : World} {p : Program} {loose : List Str} {mean : ExcName → Option Value} {mg mb : Str → Option Value}
    (a z f n r : Int) (tb ta : Tok) (rest : List (Addr × Obj))
    (dp un : Nat) (gd : Option (List Code)) (cn : Str) (cs : Scope) (a' : Addr) (ccd : Value) (cl : List (Str × Addr)) (outer : List Env) (A₀ : Around) (base h₀ : Heap) (L : Addr) (m : Str → Option Value) (s : Shared) (Q E : Value → Shared → Prop)
    (B : Below A₀ base outer h₀) (F : Fr h₀ L s.heap m) (X : (hd.heap_39 w.params).In h₀)
    (N : News h₀ L s.heap rest)
    (T : Top p loose mean mg mb h₀) (hk : cs.kind = .function)
    (hd : dp + 8 < recursionLimit) (hu : un + 5000 < cLine)
    (hR : KBa.In (List.take z.toNat (rowInts a f n r)))
    (a0 : 0 ≤ a) (a4 : a ≤ 4) (z0 : a ≤ z) (z1 : z ≤ a + 8) (f0 : 0 ≤ f) (f1 : f ≤ 257) (n0 : 0 ≤ n) (n1 : n ≤ 257) (r0 : 0 ≤ r) (r1 : r ≤ 4294967295)
    (hQ : dueOf a z f n = none → ∀ D t1 t2 h' tk, Fr h₀ L h' m → News h₀ L h' ((D, tup2 (.int n t1) (.int (a + r) t2)) :: rest) → Q (.ref D) { s with heap := h', toks := tk })
    (hE : ∀ x, dueOf a z f n = some x → ∀ e D G hk1 hk2 t1 t2 v1 t h' tk, Fr h₀ L G m → Holds G rest → RaisedF base G (envX cn cs L a' ccd cl :: outer) e D [(D, dict2 hk1 hk2 "what" "at" t1 t2 v1 (.int x t))] h' → G.UpToSlots h' → E (.ref e) { s with heap := h', toks := tk }) :
    wpAny (model PySem.Challenge.rw_nu0218_01.row.prog w) (ktrTop dp un gd cn cs L a' ccd cl outer) (call (.ref 184) [.bytes (byteArr (List.take z.toNat (rowInts a f n r))) tb, .int a ta]) Q E s := by
  w_top off; revert X; k_fill; intro X
  refine wpAny_call ?_
  k_dflt (
  refine' code_rest ?k1 ?k2 ?k3 N ?k5 ?kA ?kF ?kK ?k6 ?k7 ?k8 ?k9 ?kB ?_ ?c2 ?c3 ?c4 ?c5
  (case kA => exact rfl)
  (case kF => exact rfl)
  (case kK => exact hk)
  (case k1 => k_asm)
  (case k2 => k_asm)
  (case k3 => k_asm)
  (case k5 => k_asm)
  (case k6 => k_is)
  (case k7 => k_is)
  (case k8 => ktr_room)
  (case k9 => exact BindsTo.of_eq rfl)
  (case kB => exact locs rfl)
  (case c2 => exact rfl)
  (case c3 => exact rfl)
  (case c4 => exact rfl)
  (case c5 => decide))
  k_whole
  intro g' L' h' FG' Hg F' N' B' X' T'
  (try dsimp only)
  (try k_lift B')
  (try k_fold)
  repeat' (first
    | (k_unfold; (try dsimp only))
    | with_reducible (
  (with_reducible show wpAny _ _ (leaving _ (Value.ref _)) _ _ _)
  k_here
  k_dflt (first
    | (refine' fault_goes_rest ?kK ?kF ?kR ?kU ?kH ?kN ?kf ?_; (case kR => assumption); (case kH => assumption); (case kU => assumption); (case kK => assumption); (case kF => assumption); (case kN => assumption); (case kf => exact rfl))
    | (refine' fault_goes_on ?kK ?kF ?kR ?kU ?kf ?_; (case kR => assumption); (case kU => assumption); (case kK => assumption); (case kF => assumption); (case kf => exact rfl))
    | (refine' fault_leaves ?kK ?kF ?kN ?kne ?q1 ?q2 ?q3 ?q4 ?q5 ?kk ?_; (case kN => k_asm); (case kF => k_asm); (case kK => k_asm); (case q1 => exact rfl); (case q2 => exact rfl); (case q3 => exact rfl); (case q4 => exact rfl); (case q5 => exact rfl); (case kne => assumption); (case kk => first | decide | (intro z; cases z)))
    | fail "fault: leaving")
  k_whole
  intro h' R' U'
  (try dsimp only [List.cons_append, List.nil_append] at R' U'))
    | with_reducible (
  k_here
  (with_reducible show wpAny _ _ (PySem.call (Value.ref 77) [_, _, _]) _ _ _)
  k_dflt (refine' num_call _ _ _ _ _ _ _ _ _ _ _ _ _ _ _ _ _ _ _ _ _ _ _ _ _ _ ?kB ?kF ?kX ?kN ?kT ?kk ?kd ?ku ?kl ?kz ?z1 ?x0 ?c0 ?c4 ?kv (fun hx' t' h' tk' F' N' => ?_) (fun hx' e' D' G' hk1' hk2' t1' t2' v1' t' h' tk' F' H' R' U' => ?_); (case kN => k_asm); (case kB => k_asm); (case kF => k_asm); (case kX => k_asm); (case kT => k_asm); (case kk => exact rfl); (case kd => ktr_room); (case ku => ktr_units); (case kl => assumption); (case kz => refine row_take_len ?_ ?_ ?_ <;> assumption); (case z1 => omega); (case x0 => first | assumption | omega); (case c0 => decide); (case c4 => decide); (case kv => (intro h9; first | (refine be_r ?_ h9 ?_ ?_ <;> assumption) | (refine be_n ?_ h9 <;> assumption) | (refine be_f ?_ h9 <;> assumption))))
  )
    | with_reducible (
  k_here
  (with_reducible show wpAny _ _ (PySem.call (Value.ref 61) [_, _]) _ _ _)
  k_dflt (refine' fault_call _ _ _ _ _ _ _ _ _ _ _ _ _ _ _ _ _ _ _ _ _ _ ?kB ?kF ?kX ?kN ?kT ?kk ?kd ?ku ?_; (case kN => k_asm); (case kB => k_asm); (case kF => k_asm); (case kX => k_asm); (case kT => k_asm); (case kk => exact rfl); (case kd => ktr_room); (case ku => ktr_units))
  intro e' D' t' hk1' hk2' t1' t2' ta' h' tk' F' N' hne')
    | with_reducible (
  with_reducible (first | refine ite_false_p ?_ | refine ite_true_p ?_))
    | with_reducible (
  k_here
  (with_reducible show wpAny _ _ (exec (Stmt.Raise (some (Expr.Call (Expr.Name _ _) _ _ _)) none _) _) _ _ _)
  k_dflt (refine raise_fault rfl ?_))
    | (k_end; kc_close)
    | walk1
    | (dsimp only; walk1)
    | (leave1; walk_say "STEP leave1"; (try dsimp only))
    | fail "no step")
  all_goals first
    | (refine' hE _ ?hx _ _ _ _ _ _ _ _ _ _ _ FG' Hg ?hR ?hU
       (case hR => exact raised_drop (by assumption))
       (case hU => assumption)
       (case hx => (unfold dueOf; (repeat' split) <;> first | rfl | (exfalso; omega) | exact congrArg some (by omega))))
    | ((rename News h₀ L _ _ => kN)
       (rename Fr h₀ L _ _ => kF)
       (have J := Holds.join Hg N (by assumption) kN)
       exact hQ (by unfold dueOf; (repeat' split) <;> first | rfl | (exfalso; omega)) _ _ _ _ _ kF (head_rest J))
end
section
variable {prog : Program} {w : World} {A : Around} {E : Value → Shared → Prop} {s : Shared} {h₀ : Heap} {L : Addr} {m : Str → Option Value}
theorem kinds_method {pl : Sem Bool} {Q : Value × List Value → Shared → Prop} (F : Fr h₀ L s.heap m) (X : (hd.heap_39 w.params).In h₀) (h : Q (.builtin "tuple.index", [.ref 170]) s) : wpAny (model prog w) A (getMethod (.ref 170) (PySem.Str.ofString "index") pl) Q E s := by
  obtain ⟨o, ho, hc, hd⟩ := (⟨_, (X.keeps F.keep) _ _ rfl, rfl, rfl⟩ : ∃ o, s.heap.get? 170 = some o ∧ o.cls = .type "tuple" ∧ o.dict = none)
  exact getMethod_builtin ⟨o, ho, hc⟩ PySem.F.plainAttrs_tuple PySem.F.slot_tuple_index PySem.F.type_tuple_index (fun a e => by cases e; exact ⟨o, ho, hd⟩) h
theorem kinds_index {x : Str} {u : Tok} {j : Nat} {Q : Value → Shared → Prop} (F : Fr h₀ L s.heap m) (X : (hd.heap_39 w.params).In h₀) (hj : kindsL.findIdx? (· == x) = some j) (h : Q (.int j s.toks) { s with toks := s.toks + 1 }) :
    wpAny (model prog w) A (PySem.call (.builtin "tuple.index") [.ref 170, .str x u]) Q E s := by
  obtain ⟨items, h1, h2⟩ := kindsK w.params (X.keeps F.keep)
  obtain ⟨o, ho, hc, hd⟩ := id h1
  exact PySem.wpAny_call_entry PySem.F.slot_tuple_index ⟨o, ho, hc⟩ PySem.F.entry_tuple_index (tuple_index_strs h1 h2 hj ⟨_, rfl, h⟩) (PySem.F.args_tuple_index_2 _ _)
theorem kidx0 : List.findIdx? (fun y => y == PySem.Str.ofString "adjust") kindsL = some 0 := by decide +kernel
theorem kidx1 : List.findIdx? (fun y => y == PySem.Str.ofString "pair") kindsL = some 1 := by decide +kernel
theorem kidx2 : List.findIdx? (fun y => y == PySem.Str.ofString "cursive") kindsL = some 2 := by decide +kernel
theorem kidx3 : List.findIdx? (fun y => y == PySem.Str.ofString "base") kindsL = some 3 := by decide +kernel
theorem kidx4 : List.findIdx? (fun y => y == PySem.Str.ofString "component") kindsL = some 4 := by decide +kernel
theorem kidx5 : List.findIdx? (fun y => y == PySem.Str.ofString "mark") kindsL = some 5 := by decide +kernel
theorem kidx6 : List.findIdx? (fun y => y == PySem.Str.ofString "context") kindsL = some 6 := by decide +kernel
theorem kidx7 : List.findIdx? (fun y => y == PySem.Str.ofString "chain") kindsL = some 7 := by decide +kernel
theorem kinds_cut {t : Sem Flow} {Q : Flow → Shared → Prop} {d r pa ca x5 x6 x7 x8 x9 : Addr} {O1 O2 O3 O4 O5 O6 O7 O8 O9 : Obj} {c : Addr} (_ : Fr h₀ L s.heap m) (_ : News h₀ L s.heap [(d, O1), (r, O2), (pa, O3), (ca, O4), (x5, O5), (x6, O6), (x7, O7), (x8, O8), (x9, O9), (212, tabTwo c)])
    (h1 : wpAny (model prog w) A t (NextP h₀ L m s [(pa, O3), (ca, O4), (x5, O5), (x6, O6), (x7, O7), (x8, O8), (x9, O9)]) E s) (h2 : ∀ h' tk c, Fr h₀ L h' m → News h₀ L h' [(pa, O3), (ca, O4), (x5, O5), (x6, O6), (x7, O7), (x8, O8), (x9, O9), (212, tabTwo c)] → Q .next { s with heap := h', toks := tk }) : wpAny (model prog w) A t Q E s :=
  wpAny_mono h1 (fun v s' q => by obtain ⟨h', tk, c, e1, e2, F, N⟩ := q; subst e1 e2; exact h2 h' tk c F N) fun _ _ e => e
theorem any_of_find {x : Str} {j : Nat} (h : kindsL.findIdx? (· == x) = some j) : (kindsL.any (· == x)) = true := by
  rw [List.any_eq_true]
  obtain ⟨hj, hx, _⟩ := List.findIdx?_eq_some_iff_getElem.mp h
  exact ⟨_, List.getElem_mem hj, hx⟩
end
section
local macro_rules | `(tactic| units_room) => `(tactic| ((have hcL9 := cLine_is); (try simp only [units_under_make, units_in1, units_deeper, Around.mark_units, units_caller]); (try dsimp only [ktrTop]); omega))
local macro_rules | `(tactic| k_room) => `(tactic| ktr_room)
theorem pos_ok {w : World} {p : Program} {loose : List Str} {mean : ExcName → Option Value} {mg mb : Str → Option Value}
    (x : Str) (tx : Tok) (j : Nat) (rest : List (Addr × Obj))
    (dp un : Nat) (gd : Option (List Code)) (cn : Str) (cs : Scope) (a' : Addr) (ccd : Value) (cl : List (Str × Addr)) (outer : List Env) (A₀ : Around) (base h₀ : Heap) (L : Addr) (m : Str → Option Value) (s : Shared) (Q E : Value → Shared → Prop)
    (B : Below A₀ base outer h₀) (F : Fr h₀ L s.heap m) (X : (hd.heap_39 w.params).In h₀)
    (N : News h₀ L s.heap rest)
    (T : Top p loose mean mg mb h₀) (hk : cs.kind = .function)
    (hd : dp + 4 < recursionLimit) (hu : un + 3000 < cLine)
    (hj : kindsL.findIdx? (· == x) = some j)
    (hQ : ∀ t h' tk, Fr h₀ L h' m → News h₀ L h' rest → Q (.int (j + 1) t) { s with heap := h', toks := tk }) :
    wpAny (model PySem.Challenge.rw_nu0218_01.row.prog w) (ktrTop dp un gd cn cs L a' ccd cl outer) (call (.ref 177) [.str x tx]) Q E s := by
  have hx9 := any_of_find hj
  w_top off; revert X; k_fill; intro X
  refine wpAny_call ?_
  k_dflt (
  refine' code_rest ?k1 ?k2 ?k3 N ?k5 ?kA ?kF ?kK ?k6 ?k7 ?k8 ?k9 ?kB ?_ ?c2 ?c3 ?c4 ?c5
  (case kA => exact rfl)
  (case kF => exact rfl)
  (case kK => exact hk)
  (case k1 => k_asm)
  (case k2 => k_asm)
  (case k3 => k_asm)
  (case k5 => k_asm)
  (case k6 => k_is)
  (case k7 => k_is)
  (case k8 => ktr_room)
  (case k9 => exact BindsTo.of_eq rfl)
  (case kB => exact locs rfl)
  (case c2 => exact rfl)
  (case c3 => exact rfl)
  (case c4 => exact rfl)
  (case c5 => decide))
  k_whole
  intro g' L' h' FG' Hg F' N' B' X' T'
  (try dsimp only)
  (try k_lift B')
  (try k_fold)
  repeat' (first
    | (k_unfold; (try dsimp only))
    | with_reducible (
  k_here
  (with_reducible show wpAny _ _ (PySem.call (Value.builtin "tuple.index") [Value.ref 170, Value.str _ _]) _ _ _)
  k_dflt (refine kinds_index (by k_asm) (by k_asm) (by assumption) ?_))
    | with_reducible (
  k_here
  (with_reducible show wpAny _ _ (getMethod (Value.ref 170) (PySem.Str.ofString "index") _) _ _ _)
  k_dflt (refine kinds_method (by k_asm) (by k_asm) ?_))
    | with_reducible (
  k_here
  (with_reducible show wpAny _ _ (compareOp CmpOp.NotIn (Value.str _ _) (Value.ref 170)) _ _ _)
  k_dflt (refine notin_kinds (by k_asm) (by k_asm) (by assumption) ?_)
  (try simp only [Bool.not_true, Bool.not_false]))
    | with_reducible (
  (with_reducible show wpAny _ _ (leaving _ (Value.ref _)) _ _ _)
  k_here
  k_dflt (first
    | (refine' fault_goes_on ?kK ?kF ?kR ?kU ?kf ?_; (case kR => assumption); (case kU => assumption); (case kK => assumption); (case kF => assumption); (case kf => exact rfl))
    | (refine' fault_leaves ?kK ?kF ?kN ?kne ?q1 ?q2 ?q3 ?q4 ?q5 ?kk ?_; (case kN => k_asm); (case kF => k_asm); (case kK => k_asm); (case q1 => exact rfl); (case q2 => exact rfl); (case q3 => exact rfl); (case q4 => exact rfl); (case q5 => exact rfl); (case kne => assumption); (case kk => first | decide | (intro z; cases z)))
    | fail "fault: leaving")
  k_whole
  intro h' R' U'
  (try dsimp only at R' U'))
    | with_reducible (
  k_here
  (with_reducible show wpAny _ _ (PySem.call (Value.ref 61) [_]) _ _ _)
  k_dflt (refine' fault_call1 _ _ _ _ _ _ _ _ _ _ _ _ _ _ _ _ _ _ _ _ ?kB ?kF ?kX ?kN ?kT ?kk ?kd ?ku ?_; (case kN => k_asm); (case kB => k_asm); (case kF => k_asm); (case kX => k_asm); (case kT => k_asm); (case kk => exact rfl); (case kd => ktr_room); (case ku => ktr_units))
  intro e' D' t' hk1' hk2' t1' t2' ta' h' tk' F' N' hne')
    | with_reducible (
  with_reducible (first | refine ite_false_p ?_ | refine ite_true_p ?_))
    | with_reducible (
  k_here
  (with_reducible show wpAny _ _ (exec (Stmt.Raise (some (Expr.Call (Expr.Name _ _) _ _ _)) none _) _) _ _ _)
  k_dflt (refine raise_fault rfl ?_))
    | (k_end; kc_close)
    | walk1
    | (dsimp only; walk1)
    | (leave1; walk_say "STEP leave1"; (try dsimp only))
    | fail "no step")
  all_goals
    (rename News h₀ L _ _ => kN)
    (rename Fr h₀ L _ _ => kF)
    (have J := Holds.join Hg N (by assumption) kN)
    exact hQ _ _ _ kF J
theorem pos_bad {w : World} {p : Program} {loose : List Str} {mean : ExcName → Option Value} {mg mb : Str → Option Value}
    (x : Str) (tx : Tok) (rest : List (Addr × Obj))
    (dp un : Nat) (gd : Option (List Code)) (cn : Str) (cs : Scope) (a' : Addr) (ccd : Value) (cl : List (Str × Addr)) (outer : List Env) (A₀ : Around) (base h₀ : Heap) (L : Addr) (m : Str → Option Value) (s : Shared) (Q E : Value → Shared → Prop)
    (B : Below A₀ base outer h₀) (F : Fr h₀ L s.heap m) (X : (hd.heap_39 w.params).In h₀)
    (N : News h₀ L s.heap rest)
    (T : Top p loose mean mg mb h₀) (hk : cs.kind = .function)
    (hd : dp + 4 < recursionLimit) (hu : un + 3000 < cLine)
    (hx9 : (kindsL.any (· == x)) = false)
    (hE : ∀ e D G hk1 hk2 t1 t2 v1 t h' tk, Fr h₀ L G m → Holds G rest → RaisedF base G (envX cn cs L a' ccd cl :: outer) e D [(D, dict2 hk1 hk2 "what" "at" t1 t2 v1 (.int (-1) t))] h' → G.UpToSlots h' → E (.ref e) { s with heap := h', toks := tk }) :
    wpAny (model PySem.Challenge.rw_nu0218_01.row.prog w) (ktrTop dp un gd cn cs L a' ccd cl outer) (call (.ref 177) [.str x tx]) Q E s := by
  w_top off; revert X; k_fill; intro X
  refine wpAny_call ?_
  k_dflt (
  refine' code_rest ?k1 ?k2 ?k3 N ?k5 ?kA ?kF ?kK ?k6 ?k7 ?k8 ?k9 ?kB ?_ ?c2 ?c3 ?c4 ?c5
  (case kA => exact rfl)
  (case kF => exact rfl)
  (case kK => exact hk)
  (case k1 => k_asm)
  (case k2 => k_asm)
  (case k3 => k_asm)
  (case k5 => k_asm)
  (case k6 => k_is)
  (case k7 => k_is)
  (case k8 => ktr_room)
  (case k9 => exact BindsTo.of_eq rfl)
  (case kB => exact locs rfl)
  (case c2 => exact rfl)
  (case c3 => exact rfl)
  (case c4 => exact rfl)
  (case c5 => decide))
  k_whole
  intro g' L' h' FG' Hg F' N' B' X' T'
  (try dsimp only)
  (try k_lift B')
  (try k_fold)
  repeat' (first
    | (k_unfold; (try dsimp only))
    | with_reducible (
  k_here
  (with_reducible show wpAny _ _ (PySem.call (Value.builtin "tuple.index") [Value.ref 170, Value.str _ _]) _ _ _)
  k_dflt (refine kinds_index (by k_asm) (by k_asm) (by assumption) ?_))
    | with_reducible (
  k_here
  (with_reducible show wpAny _ _ (getMethod (Value.ref 170) (PySem.Str.ofString "index") _) _ _ _)
  k_dflt (refine kinds_method (by k_asm) (by k_asm) ?_))
    | with_reducible (
  k_here
  (with_reducible show wpAny _ _ (compareOp CmpOp.NotIn (Value.str _ _) (Value.ref 170)) _ _ _)
  k_dflt (refine notin_kinds (by k_asm) (by k_asm) (by assumption) ?_)
  (try simp only [Bool.not_true, Bool.not_false]))
    | with_reducible (
  (with_reducible show wpAny _ _ (leaving _ (Value.ref _)) _ _ _)
  k_here
  k_dflt (first
    | (refine' fault_goes_on ?kK ?kF ?kR ?kU ?kf ?_; (case kR => assumption); (case kU => assumption); (case kK => assumption); (case kF => assumption); (case kf => exact rfl))
    | (refine' fault_leaves ?kK ?kF ?kN ?kne ?q1 ?q2 ?q3 ?q4 ?q5 ?kk ?_; (case kN => k_asm); (case kF => k_asm); (case kK => k_asm); (case q1 => exact rfl); (case q2 => exact rfl); (case q3 => exact rfl); (case q4 => exact rfl); (case q5 => exact rfl); (case kne => assumption); (case kk => first | decide | (intro z; cases z)))
    | fail "fault: leaving")
  k_whole
  intro h' R' U'
  (try dsimp only at R' U'))
    | with_reducible (
  k_here
  (with_reducible show wpAny _ _ (PySem.call (Value.ref 61) [_]) _ _ _)
  k_dflt (refine' fault_call1 _ _ _ _ _ _ _ _ _ _ _ _ _ _ _ _ _ _ _ _ ?kB ?kF ?kX ?kN ?kT ?kk ?kd ?ku ?_; (case kN => k_asm); (case kB => k_asm); (case kF => k_asm); (case kX => k_asm); (case kT => k_asm); (case kk => exact rfl); (case kd => ktr_room); (case ku => ktr_units))
  intro e' D' t' hk1' hk2' t1' t2' ta' h' tk' F' N' hne')
    | with_reducible (
  with_reducible (first | refine ite_false_p ?_ | refine ite_true_p ?_))
    | with_reducible (
  k_here
  (with_reducible show wpAny _ _ (exec (Stmt.Raise (some (Expr.Call (Expr.Name _ _) _ _ _)) none _) _) _ _ _)
  k_dflt (refine raise_fault rfl ?_))
    | (k_end; kc_close)
    | walk1
    | (dsimp only; walk1)
    | (leave1; walk_say "STEP leave1"; (try dsimp only))
    | fail "no step")
  all_goals
    (refine' hE _ _ _ _ _ _ _ _ _ _ _ FG' Hg ?hR ?hU)
    (case hR => exact raised_drop (by assumption))
    (case hU => assumption)
end
section
local macro_rules | `(tactic| k_ne) => `(tactic| (
  refine neN ?_
  (try dsimp only)
  first
    | ((repeat (with_reducible rename (Apart _ _) => h9; dsimp only [Apart] at h9))
       (repeat (with_reducible rename (Off _ _) => h9; dsimp only [Off] at h9))
       (repeat' (with_reducible rename (_ ∧ _) => h9; first | (simp only [h9, ne_eq, not_false_eq_true]; done) | (refine Nat.ne_of_gt ?_; simp only [h9]; done) | (refine Nat.ne_of_lt ?_; simp only [h9]; done) | (refine Ne.symm ?_; simp only [h9, ne_eq, not_false_eq_true]; done) | clear h9))
       done)
    | omega))
local macro_rules | `(tactic| lcg_src) => `(tactic| exact ⟨_, by k_mem, rfl, _, rfl⟩)
local macro_rules | `(tactic| lcg_off) => `(tactic| (simp only [LCg.Off3, and_true]; with_reducible assumption))
local macro_rules | `(tactic| kbe_in) => `(tactic| exact row_in (by assumption) (by assumption) (by assumption) (by assumption) (by assumption) (by assumption))
theorem law_holds : PySem.Challenge.rw_nu0218_01.Holds := hd (by
  k_go0
  (rename Shared => s9)
  (obtain ⟨hp9, gn9, dr9, tk9, os9⟩ := s9)
  (dsimp only at *)
  k_unmd
  k_fold
  repeat' (first
    | (k_unfold; (try dsimp only))
    | with_reducible (
  k_here
  (with_reducible show wpAny _ _ (exec (Stmt.If (Expr.Compare (Expr.ListComp _ _ _ _) [CmpOp.NotEq] _ _) _ _ _) _) _ _ _)
  (fail_if_success (with_reducible show wpAny _ _ _ (NextP _ _ _ _ _) _ _))
  k_dflt (refine kinds_cut (by k_asm) (by k_asm) ?_ (fun h' tk' c' F' N' => ?_))
  rotate_left
  (k_sweep)
  rotate_left)
    | with_reducible (
  k_here
  (with_reducible show wpAny _ _ (PySem.call (Value.ref 177) [_]) _ _ _)
  (with_reducible rename (List.any _ _ = false) => h9)
  k_dflt (refine' pos_bad _ _ _ _ _ _ _ _ _ _ _ _ _ _ _ _ _ _ _ _ ?kB ?kF ?kX ?kN ?kT ?kk ?kd ?ku ?kj ?_; (case kN => k_asm); (case kB => k_asm); (case kF => k_asm); (case kX => k_asm); (case kT => k_asm); (case kk => exact rfl); (case kd => ktr_room); (case ku => ktr_units); (case kj => exact h9))
  intro e' D' G' hk1' hk2' t1' t2' v1' t' h' tk' F' H' R' U')
    | with_reducible (
  k_here
  (with_reducible show wpAny _ _ (PySem.call (Value.ref 177) [Value.str (PySem.Str.ofString _) _]) _ _ _)
  k_dflt (refine' pos_ok _ _ _ _ _ _ _ _ _ _ _ _ _ _ _ _ _ _ _ _ _ ?kB ?kF ?kX ?kN ?kT ?kk ?kd ?ku ?kj ?_; (case kN => k_asm); (case kB => k_asm); (case kF => k_asm); (case kX => k_asm); (case kT => k_asm); (case kk => exact rfl); (case kd => ktr_room); (case ku => ktr_units); (case kj => first | exact kidx0 | exact kidx1 | exact kidx2 | exact kidx3 | exact kidx4 | exact kidx5 | exact kidx6 | exact kidx7))
  intro t' h' tk' F' N')
    | with_reducible (
  (with_reducible show wpAny _ _ (leaving _ (Value.ref _)) _ _ _)
  k_here
  (with_reducible rename Holds _ _ => h9)
  k_dflt (refine' fault_goes_rest ?kK ?kF ?kR ?kU ?kH ?kN ?kf ?_; (case kR => assumption); (case kH => assumption); (case kU => assumption); (case kK => assumption); (case kF => assumption); (case kN => assumption); (case kf => exact rfl))
  k_whole
  intro h' R' U'
  (try dsimp only [List.cons_append, List.nil_append] at R' U'))
    | with_reducible (
  k_here
  (with_reducible show wpAny _ _ (PySem.call (Value.ref 184) [_, _]) _ _ _)
  k_dflt (refine' behind_call _ _ _ _ _ _ _ _ _ _ _ _ _ _ _ _ _ _ _ _ _ _ _ _ _ ?kB ?kF ?kX ?kN ?kT ?kk ?kd ?ku ?kR ?a0 ?a4 ?z0 ?z1 ?f0 ?f1 ?n0 ?n1 ?r0 ?r1 ?kQ ?kE; (case kN => k_asm); (case kB => k_asm); (case kF => k_asm); (case kX => k_asm); (case kT => k_asm); (case kk => exact rfl); (case kd => ktr_room); (case ku => ktr_units); (case kR => assumption); (case a0 => assumption); (case a4 => omega); (case z0 => assumption); (case z1 => assumption); (case f0 => assumption); (case f1 => assumption); (case n0 => assumption); (case n1 => assumption); (case r0 => assumption); (case r1 => assumption))
  (case' kQ => (intro hx' D' t1' t2' h' tk' F' N'))
  (case' kE => (intro x' hx' e' D' G' hk1' hk2' t1' t2' v1' t' h' tk' F' H' R' U')))
    | with_reducible (
  (with_reducible show NextP _ _ _ _ _ _ _ )
  k_dflt (refine' NextP.intro _ ?npF ?npN ?npK; (case npN => k_asm); (case npF => k_asm); (case npK => (simp only [List.cons_append, List.nil_append]; kcj_all))))
    | with_reducible (
  k_here
  (with_reducible show wpAny _ _ (exec (Stmt.If (Expr.Compare (Expr.Call (Expr.Name (PySem.Str.ofString "_law_heard") _) _ _ _) [CmpOp.NotEq] _ _) _ _ _) _) _ _ _)
  (fail_if_success (with_reducible show wpAny _ _ _ (NextP _ _ _ _ _) _ _))
  k_dflt (refine next_cut (by k_asm) (by k_asm) ?_ (fun h' tk' c' F' N' => ?_)))
    | with_reducible (
  with_reducible (first | refine ite_false_p ?_ | refine ite_true_p ?_))
    | with_reducible (
  k_here
  (with_reducible show wpAny _ _ (getAttr (Value.ref _) (PySem.Str.ofString "at") _) _ _ _)
  (with_reducible rename (Obj.cls _ = Value.ref 61) => c9)
  k_dflt (refine get_at (by k_asm) (by k_asm) (by k_asm) (by k_mem) (by assumption) (by assumption) (by assumption) (by k_mem) ?_))
    | with_reducible (
  (with_reducible show wpAny _ _ (noteFrame (Value.ref _) _) _ _ _)
  k_here
  k_dflt (refine' fault_caught ?R ?F ?K ?U ?XB ?TB ?D ?T0 ?ex ?q ?_; (case R => assumption); (case F => assumption); (case K => assumption); (case U => assumption); (case XB => assumption); (case TB => assumption); (case D => assumption); (case T0 => first | assumption | exact KtsTurn.refl); (case ex => k_is); (case q => exact k61b _))
  k_whole
  intro h' g' tk' oe' vs' T' F' N' c1' c2' c3' K' X' P' D'
  (try k_lift K')
  (try k_sweep))
    | with_reducible (
  k_here
  refine wp_id ?_
  (with_reducible show wpAny _ _ (eval (Expr.ListComp (Expr.Call _ _ _ _) [⟨Expr.Name _ _, Expr.Name _ _, _, _⟩] _ _) _) _ _ _)
  k_dflt (refine LCg.ListComp_U (F₀ := by k_asm) (by with_unfolding_all rfl) (by decide) (by rfl) (by decide) (by rfl) ?_))
    | with_reducible (
  k_closed; k_dflt (first | refine ite_neg (by decide) ?_ | refine ite_pos (by decide) ?_))
    | with_reducible (
  (with_reducible show HeardP _ _ _ _ _ _ _ _ _ _ _ _ )
  k_dflt (refine HeardP.intro ?a1 (by k_asm) (by kcj_all) ?a3)
  (case a1 => k_asm)
  (case a3 => k_dflt (first | exact DueIs.fault (by assumption) | exact DueIs.fine (by assumption))))
    | with_reducible (
  k_here
  (with_reducible show wpAny _ _ (PySem.call (Value.ref 210) [_]) _ _ _)
  (fail_if_success (with_reducible show wpAny _ _ _ (HeardP _ _ _ _ _ _ _ _ _ _) _ _))
  k_dflt (refine heard_cut (by k_asm) (by k_asm) (by assumption) ?_ (fun D' e' t1' t2' t3' h' tk' q1' q2' F' N' => ?_) (fun D' t1' t2' t3' h' tk' q1' q2' F' N' => ?_))
  rotate_left
  subst q1' q2'
  rotate_left
  subst q1' q2'
  rotate_left
  k_dflt (
  refine wpAny_call ?_
  refine' code_tryF ?k1 ?k2 ?k3 ?k4 ?k5 ?kA ?kf ?kh ?k6 ?k7 ?k8 ?k9 ?kB ?_ ?c2 ?c3 ?c4 ?c5
  (case kA => exact rfl)
  (case kf => exact rfl)
  (case kh => exact rfl)
  (case k2 => k_asm); (case k1 => k_asm); (case k3 => k_asm); (case k4 => k_asm); (case k5 => k_asm); (case k6 => k_is); (case k7 => k_is); (case k8 => k_room);
  (case k9 => exact BindsTo.of_eq rfl); (case kB => exact locs rfl); (case c2 => exact rfl); (case c3 => exact rfl); (case c4 => exact rfl); (case c5 => decide))
  k_whole
  intro g' L' h' FG' F' N' B' X' T' D'
  (try dsimp only)
  (try k_lift B')
  (try k_fold))
    | with_reducible (
  (with_reducible show DueP _ _ _ _ _ _ _ _ _ _ _ _ _ )
  k_dflt (refine DueP.intro ?a1 (by k_asm) (by kcj_all) ?a2 ?a3)
  (case a1 => k_dflt (first | k_asm | exact fr_twice (by k_asm)))
  (case a2 => (simp only [List.forall_mem_cons]; (repeat' (first | omega | exact List.forall_mem_nil _ | apply And.intro))))
  (case a3 => k_dflt (first
    | exact DueIs.fault (by with_reducible first | exact due1 (by assumption) | exact due2 (by assumption) (by assumption) | exact due3 (by assumption) (by assumption) (by assumption) | exact due4 (by assumption) (by assumption) (by assumption) (by assumption) | exact due5 (by assumption) (by assumption) (by assumption) (by assumption) | exact due6 (by assumption) (by assumption) (by assumption) (by assumption) (by assumption) (by assumption))
    | exact DueIs.fine (due7 (by assumption) (by assumption) (by assumption) (by assumption) (by assumption) (by assumption))
    | exact DueIs.fault (by (unfold dueOf; (repeat' split) <;> first | rfl | (exfalso; omega)))
    | exact DueIs.fine (by (unfold dueOf; (repeat' split) <;> first | rfl | (exfalso; omega))))))
    | with_reducible (
  (with_reducible show wpAny _ _ (exec (Stmt.If (Expr.Compare _ [CmpOp.Lt] _ _) (_ :: _) (_ :: _) _) _) _ _ _)
  k_here
  (with_reducible show wpAny _ _ (exec (Stmt.If (Expr.Compare _ [CmpOp.Lt] _ _) _ _ _) _) _ _ _)
  (fail_if_success (with_reducible show wpAny _ _ _ (DueP _ _ _ _ _ _ _ _ _ _ _) _ _))
  k_dflt (refine due_cut2 (by k_asm) (by k_asm) (by assumption) (by assumption) ?_ (fun D' u' y' t' h' tk' F' N' o' hd' => ?_))
  rotate_left
  k_lt o'
  rotate_left)
    | with_reducible (
  k_here
  (with_reducible show wpAny _ _ (PySem.call (Value.builtin "len") [Value.ref _]) _ _ _)
  k_dflt (refine KM.len_K (by k_asm) (by k_mem) List.size_toArray (by omega) ?_))
    | with_reducible (
  (with_reducible show SizeP _ _ _ _ _ _ _ _ _ _ _ _ _ _ )
  k_dflt (refine SizeP.intro (by k_asm) (by k_asm) ?a1 ?a2 ?a3 ?a4 ?a5)
  (case a1 => (try simp only [List.size_toArray]); omega)
  (case a2 => (try simp only [List.size_toArray]); omega)
  (case a3 => omega)
  (case a4 => omega)
  (case a5 => omega))
    | with_reducible (
  (with_reducible show wpAny _ _ (eval (Expr.IfExp _ _ _ _) _) _ _ _)
  k_here
  (fail_if_success (with_reducible show wpAny _ _ _ (SizeP _ _ _ _ _ _ _ _ _ _ _ _) _ _))
  k_dflt (refine size_cut2 (by k_asm) (by k_asm) (by assumption) ?_ (fun z' t' h' tk' i' ti' r' tr' F' N' hz0' hz1' hi0' hi1' hr0' => ?_)))
    | with_reducible (
  k_here
  (with_reducible show wpAny _ _ (binaryOp Operator.Add (Value.ref _) (Value.ref _)) _ _ _)
  k_dflt (refine row_add (rs := rowInts _ _ _ _) (by k_asm) (by k_asm) (by assumption) (by (repeat (first | exact IntsAre.nil | refine IntsAre.cons _ _ ?_))) (row_eq _ _ _ _) ?z ?_)
  (case z => ((repeat (with_reducible rename (_ ∧ _) => h8; clear h8)); have h9 := row_len (f := 0) (n := 0) (r := 0) (by assumption); simp only [rowInts, eight, List.length_append, List.length_replicate, List.length_cons, List.length_nil] at h9 ⊢; omega))
  (repeat (with_reducible rename News _ _ _ _ => h9; clear h9))
  (repeat (with_reducible rename Fr _ _ _ _ => h9; clear h9))
  (repeat (with_reducible rename (@Ne Nat _ _ ∧ _) => h9; clear h9))
  (repeat (with_reducible rename ((@Ne Nat _ _ ∧ _) ∧ _) => h9; clear h9))
  intro D' zs' h' F' N' l1 hI'
  have hz8' := row_zlen hI' (by assumption))
    | (
  k_here
  (with_reducible show wpAny _ _ (binaryOp Operator.Mult (Value.ref _) (Value.int _ _)) _ _ _)
  (rename News _ _ _ _ => h9)
  (replace h9 := drop_second h9)
  km_mul KM.mul)
    | with_reducible (
  k_here
  (with_reducible show wpAny _ _ (PySem.call (Value.ref 203) [_, _]) _ _ _)
  (with_reducible rename (@LT.lt Nat _ _ _ ∧ _) => h9)
  k_dflt (first
    | (refine' pick_int (pre := []) 0 257 ?qB ?qF ?qX ?qN ?qT ?qk ?qx ?qrest ?qca ?qI ?qlen ?q0 ?q1 ?qK ?q2 ?qv ?qb ?q3 ?q4 ?qd ?qu (fun x' t' i' ti' r' tr' h' tk' hm0' hm1' hi0' hi1' hr0' F' N' => ?_); (case qN => k_asm); (case qv => l_ints); (case qb => decide))
    | (refine' pick_int (pre := [_]) 0 257 ?qB ?qF ?qX ?qN ?qT ?qk ?qx ?qrest ?qca ?qI ?qlen ?q0 ?q1 ?qK ?q2 ?qv ?qb ?q3 ?q4 ?qd ?qu (fun x' t' i' ti' r' tr' h' tk' hm0' hm1' hi0' hi1' hr0' F' N' => ?_); (case qN => k_asm); (case qv => l_ints); (case qb => decide))
    | (refine' pick_int (pre := []) 0 4294967295 ?qB ?qF ?qX ?qN ?qT ?qk ?qx ?qrest ?qca ?qI ?qlen ?q0 ?q1 ?qK ?q2 ?qv ?qb ?q3 ?q4 ?qd ?qu (fun x' t' i' ti' r' tr' h' tk' hm0' hm1' hi0' hi1' hr0' F' N' => ?_); (case qN => k_asm); (case qv => l_ints); (case qb => decide))
    | (refine' pick_word (pre := []) ?qB ?qF ?qX ?qN ?qT ?qk ?qx ?qrest ?qca ?qI ?qlen ?q0 ?q1 ?qK ?q2 ?qv ?qb ?q3 ?q4 ?qd ?qu (fun x' t' i' ti' r' tr' h' tk' hm0' F' N' => ?_); (case qN => k_asm); (case qv => (repeat constructor)); (case qb => decide +kernel))
    | fail "pick: no ledger")
  k_dflt ((case qx => first | exact h9.1 | exact h9.2.1); (case qrest => (clear h9; (with_reducible rename (Off _ _) => h9); exact h9)); (case qca => with_reducible assumption); (case qB => k_asm); (case qF => k_asm); (case qX => k_asm); (case qT => k_asm); (case qk => exact rfl); (case qI => k_asm); (case qlen => with_reducible assumption); (case q0 => first | with_reducible assumption | exact Int.le_refl _); (case q1 => with_reducible assumption); (case qK => decide); (case q2 => with_reducible assumption); (case q3 => exact Nat.le_of_ble_eq_true rfl); (case q4 => exact Nat.le_of_ble_eq_true rfl); (case qd => ktr_room); (case qu => ktr_units))
  (clear h9))
    | with_reducible (
  (with_reducible show CompTup _ _ _ _ _ _ _ _ _ _ _ _ _ _ )
  k_here
  k_dflt (refine CompTup.ledger (by rfl) (by k_asm) (by k_asm) (by k_mem) (by first | size_fits | exact Nat.le_of_ble_eq_true rfl) ?_; intro g'; lcg_lit))
    | with_reducible (
  k_here
  refine wp_id ?_
  (with_reducible show wpAny _ _ (eval (Expr.ListComp _ [⟨Expr.Name _ _, Expr.Tuple _ _ _, _, _⟩] _ _) _) _ _ _)
  k_dflt (refine ListComp_V (F₀ := by k_asm) (by with_unfolding_all rfl) (by decide) (by rfl) (by decide) (by rfl) ?_))
    | with_reducible (
  k_here
  (with_reducible show wpAny _ _ (PySem.call (Value.ref 196) [_, _]) _ _ _)
  k_dflt (first
    | (refine' draw_one ?qB ?qF ?qX ?qN ?qT ?qk ?qx ?qrest ?qca ?qI ?qlen ?q0 ?q1 ?qK ?q2 ?q3 ?q4 ?qd ?qu (fun d' t' i' ti' r' tr' h' tk' hd0' hd1' hi0' hi1' hr0' F' N' => ?_); (case qN => k_asm); (case qx => first | ((with_reducible rename (@LT.lt Nat _ _ _ ∧ _) => h9); exact h9.1) | omega); (case qrest => ((with_reducible rename (Off _ _) => h9); exact h9)); (case qca => with_reducible assumption))
    | (refine' draw_first ?qB ?qF ?qX ?qN ?qT ?qk ?qoff ?qr ?qap ?qr2 ?qI ?qlen ?q0 ?q1 ?qK ?q2 ?q3 ?q4 ?qd ?qu (fun hlen' hoff' hap' hca' d' t' i' ti' r' tr' h' tk' hd0' hd1' hi0' hi1' hr0' F' N' => ?_); (case qN => k_asm); (case qoff => ((with_reducible rename (@LT.lt Nat _ _ _ ∧ _) => h9); exact h9)); (case qr => exact And.right); (case qap => ((with_reducible rename (@Ne Nat _ _ ∧ _) => h9); exact h9)); (case qr2 => exact And.right))
    | fail "draw: no ledger")
  k_dflt ((case qB => k_asm); (case qF => k_asm); (case qX => k_asm); (case qT => k_asm); (case qk => exact rfl); (case qI => k_asm); (case qlen => first | with_reducible assumption | exact Nat.le_trans (Nat.le_of_eq (List.length_map _)) (List.length_take_le _ _)); (case q0 => first | with_reducible assumption | exact Int.le_refl _); (case q1 => first | with_reducible assumption | exact Int.le_refl _); (case qK => decide); (case q2 => first | with_reducible assumption | exact Int.le_refl _); (case q3 => decide); (case q4 => decide); (case qd => ktr_room); (case qu => ktr_units))
  (repeat (with_reducible rename (@Ne Nat _ _ ∧ _) => h9; clear h9)))
    | with_reducible (
  k_here
  (with_reducible show wpAny _ _ (PySem.call (Value.ref 210) [_]) _ _ _)
  k_dflt (
  refine wpAny_call ?_
  refine' code_tryF ?k1 ?k2 ?k3 ?k4 ?k5 ?kA ?kf ?kh ?k6 ?k7 ?k8 ?k9 ?kB ?_ ?c2 ?c3 ?c4 ?c5
  (case kA => exact rfl)
  (case kf => exact rfl)
  (case kh => exact rfl)
  (case k2 => k_asm); (case k1 => k_asm); (case k3 => k_asm); (case k4 => k_asm); (case k5 => k_asm); (case k6 => k_is); (case k7 => k_is); (case k8 => k_room);
  (case k9 => exact BindsTo.of_eq rfl); (case kB => exact locs rfl); (case c2 => exact rfl); (case c3 => exact rfl); (case c4 => exact rfl); (case c5 => decide))
  k_whole
  intro g' L' h' FG' F' N' B' X' T' D'
  (try dsimp only)
  (try k_lift B')
  (try k_fold))
    | (k_end; kc_close)
    | walk1
    | (dsimp only; walk1)
    | (leave1; walk_say "STEP leave1"; (try dsimp only))
    | fail "no step"))
end
end Mine
theorem PySem.Challenge.cw_nu0218_01_holds : PySem.Challenge.rw_nu0218_01.Holds :=
  Mine.law_holds
