import PyProof.Rows.All
import Wide.All
import OpenK.AllK
import Wide.FinOn
import PySem.Challenge.RW_nz0274_01
open PySem PySem.W PySem.Calls PyProof.Rows
set_option Elab.async false
set_option maxRecDepth 100000
set_option compiler.extract_closed false
set_option linter.all false
set_option maxHeartbeats 8000000
namespace Mine
open_top hd for PySem.Challenge.rw_nz0274_01
section
section
variable {prog : Program} {w : World} {A₀ A : Around} {s : Shared} {base h₀ : Heap} {outer : List Env} {L : Addr} {m : Str → Option Value} {env : Env} {K : Frag}
  {R : Result → Shared → Prop} {name qual : Str} {params : Arguments} {body : List Stmt} {scope : Scope} {dV kV doc pm cdv ct oc : Value} {an od : Option Addr} {osl : Array (Option Value)} {f : Addr} {args : Args} {binds : List (Str × Value)}
  {p : Program} {loose : List Str} {mean : ExcName → Option Value} {mg mb : Str → Option Value}

theorem enterP (B : Below A₀ base outer h₀) (F : Fr h₀ L s.heap m) (X : K.In h₀) (T : Top p loose mean mg mb h₀) (hA : A.frames = some (env :: outer)) (hf : env.frame = some L) (hke : env.scope.kind = .function)
    (ho : K.lookup f = some ⟨oc, od, .func (fnOf name qual params body scope dV kV doc pm an cdv ct), osl⟩) (hcd : codeIn K cdv qual = true) (hroom : A.depth < recursionLimit)
    (hbind : BindsTo s (fnOf name qual params body scope dV kV doc pm an cdv ct) args binds) (hloc : ∀ y ∈ binds, scope.names.lookup y.1 = some .local)
    (h : ∀ L' h₁, Fr s.heap L' h₁ (fun y => binds.reverse.lookup y) → News s.heap L' h₁ [] → Below A base (env :: outer) s.heap → K.In s.heap → Top p loose mean mg mb s.heap →
      wpAny (model prog w) (A.deeper (envOf qual scope L' f cdv)) (execs body (envOf qual scope L' f cdv))
        (fun fl s' => R (.ok (.ret (match fl with | .ret v => v | _ => .none))) s') (fun _ _ => False)
        { s with heap := h₁, toks := s.toks + binds.length })
    (hcell : ∀ x ∈ scope.names, x.2 ≠ .cell) (hco : scope.isCoroutine = false := by rfl) (hgen : scope.isGenerator = false := by rfl) (hk : scope.kind = .function := by rfl) :
    codeAny (model prog w) A (.call (.ref f) args) R s := by
  have Xs := X.keeps F.keep
  refine codeAny_call_def (fd := fnOf name qual params body scope dV kV doc pm an cdv ct) (body := body) (binds := binds) hroom (Xs _ _ ho) rfl (T.nolimit.keeps F.keep) (codeRec_of Xs hcd) rfl hbind hcell hloc (fun h₁ hns hk₁ => ?_) hco hgen hk
  have B₁ := pushX B F hf hke
  refine wpAny_mono (h s.heap.objs.size h₁ ⟨hns, hk₁, Nat.le_refl _⟩ News.nil ⟨hA, fun b o e => F.keep b o (B.stays b o e), B₁.frames⟩ Xs (T.keeps F.keep)) (fun fl s' hl => hl) (fun e s' x => x.elim)
end


section
open PyProof.V PySem.Spec
variable {prog : Program} {w : World} {A : Around} {E : Value → Shared → Prop} {s : Shared} {env : Env} {h₀ : Heap} {target : Expr} {body : List Stmt} {Q : Flow → Shared → Prop}
/-- a loop over a list of the base: what the walk's core asks of addresses, once for all iterators -/
theorem base_core {target : Expr} {I l : Addr} {o : Obj} {ws : List (Addr × String)} {n : Nat} {P Md : Nat → Value → Heap → Prop} {St : Nat → Heap → Prop} {xs : List Itm} {m₀ : Str → Option Value} {news : List (Addr × Obj)} {h' : Heap}
    (F : Fr h₀ env.locals s.heap m₀) (N : News h₀ env.locals s.heap news) (hl : h₀.get? l = some o) (new : ∀ b ∈ ws.map (·.1), s.heap.objs.size ≤ b)
    (W : KTurns prog w A target I (ws.map (·.1) ++ [l]) (ws.map (·.1)) n P Md St) (hn : n = xs.length) (hP : ∀ i v h, P i v h → ∃ a, xs[i]? = some a ∧ a.Is v h) (hobj : ∀ i h, St i h → ∃ its, Objs ws its ∧ ∀ p ∈ its, h.get? p.1 = some p.2)
    (hst : St 0 h') (F' : Fr h₀ env.locals h' m₀) (N' : News h₀ env.locals h' news) (rest : ItemsRest prog w A E h₀ env target body Q s ws [] xs m₀ news) : TurnsAt prog w A h₀ env target body Q E (.ref I) { s with heap := h', toks := s.toks } :=
  have low : ∀ {b : Addr}, b < s.heap.objs.size → b ∉ ws.map (·.1) := fun lt hb => Nat.lt_irrefl _ (Nat.lt_of_lt_of_le lt (new _ hb))
  ktg_core (tk0 := s.toks) (keep := []) W hn hP hobj (fun b hb => ⟨List.mem_append_left _ hb, ktu_new F (new b hb)⟩) (fun _ hb => hb)
    (fun b hb => (List.mem_append.mp hb).imp_right fun q => .inr ⟨o, by rw [List.mem_singleton.mp q]; exact hl⟩)
    (fun hb => (List.mem_append.mp hb).elim (low F.ns.lt) fun q => Nat.lt_irrefl _ (Nat.lt_of_lt_of_le (Heap.lt_size hl) (List.mem_singleton.mp q ▸ F.above)))
    (fun p hp => low (Heap.lt_size (N p hp).1)) hst F' N' trivial rest
/-- a loop over enumerate of a list that stands in the frame's ground, turn by turn -/
theorem enum_base {elts : List Expr} {k : Nat} {pos : Pos} {l : Addr} {vs : List Value} {xs : List Itm} {m₀ : Str → Option Value} {news : List (Addr × Obj)}
    (hh : A.handled = none) (F : Fr h₀ env.locals s.heap m₀) (N : News h₀ env.locals s.heap news) (hl₀ : h₀.IsList l vs.toArray) (hx : enumItems 0 vs = xs)
    (rest₀ : ∀ I : Addr, (∀ p ∈ news, p.1 < I) → ItemsRest prog w A E h₀ env (.Tuple elts k pos) body Q s [(I + 1, "enumerate"), (I, "list_iterator")] [] xs m₀ news) :
    wpAny (model prog w) A (call (.type "enumerate") [.ref l]) (fun xv s₁ => wpAny (model prog w) A (pyIter xv) (fun it s₂ => TurnsAt prog w A h₀ env (.Tuple elts k pos) body Q E it s₂) E s₁) E s := by
  subst hx
  obtain ⟨o, ho, r⟩ := id hl₀
  have hl : s.heap.IsList l vs.toArray := ⟨o, F.keep _ _ ho, r⟩
  obtain lt := Heap.lt_size (F.keep _ _ ho)
  refine call_enumerate_list hl fun h' hE hI _ grow => wpAny_pyIter_enum hE ?_
  refine base_core (ws := [(s.heap.objs.size + 1, "enumerate"), (s.heap.objs.size, "list_iterator")]) F N ho (List.forall_mem_cons.mpr ⟨Nat.le_succ _, List.forall_mem_cons.mpr ⟨Nat.le_refl _, List.forall_mem_nil _⟩⟩)
    (KTurns.ofWalksU (WalksT.enumerate hh (s.heap.objs.size + 1) s.heap.objs.size l (Nat.succ_ne_self _) (Nat.ne_of_lt (Nat.lt_succ_of_lt lt)) (Nat.ne_of_lt lt) vs.toArray).toU) (by simp [enumItems_length]) (fun i v h q => ?_) (fun i h st => ?_)
    ⟨⟨.none, hE⟩, hI, hl.at fun o e => grow l o e⟩ (F.keeps grow) (N.grown grow) (rest₀ _ fun p hp => Heap.lt_size (N p hp).1)
  · obtain ⟨T, _, rfl, ⟨t, y, hy, rfl⟩, hT⟩ := q
    exact ⟨_, enumItems_get vs 0 i (v := y) (by simpa using hy), T, t, rfl, by rw [Nat.zero_add]; exact hT⟩
  · obtain ⟨⟨_, he⟩, ⟨oi, hi, ci, _⟩, _⟩ := st
    exact ⟨[(_, _), (_, oi)], ⟨⟨rfl, rfl⟩, ⟨rfl, ci⟩, trivial⟩, List.forall_mem_cons.mpr ⟨he, List.forall_mem_cons.mpr ⟨hi, List.forall_mem_nil _⟩⟩⟩
theorem enum_step {elts : List Expr} {k : Nat} {pos : Pos} {l : Addr} {vs : List Value} {xs : List Itm} {m₀ : Str → Option Value} {news : List (Addr × Obj)}
    (hh : A.handled = none := by rfl) (F : Fr h₀ env.locals s.heap m₀ := by assumption) (N : News h₀ env.locals s.heap news := by assumption) (hl₀ : h₀.IsList l vs.toArray := by assumption) (hx : enumItems 0 vs = xs := by rfl)
    (h : ∀ I : Addr, (∀ p ∈ news, p.1 < I) → ItemsRest prog w A E h₀ env (.Tuple elts k pos) body Q s [(I + 1, "enumerate"), (I, "list_iterator")] [] xs m₀ news) :
    wpAny (model prog w) A (call (.type "enumerate") [.ref l]) (fun xv s₁ => wpAny (model prog w) A (pyIter xv) (fun it s₂ => TurnsAt prog w A h₀ env (.Tuple elts k pos) body Q E it s₂) E s₁) E s := enum_base hh F N hl₀ hx h
end

/-- the three texts -/
def txt : Fin 3 → Str
  | 0 => "" | 1 => "A" | 2 => "AB"
theorem txt_ne : ∀ i j : Fin 3, (txt i != txt j) = decide (i ≠ j) := by decide +kernel
theorem txt_lt : ∀ i j : Fin 3, decide ((txt i).cps.toList < (txt j).cps.toList) = decide (i < j) := by decide +kernel

/-- a row as data, with the places where it stands -/
structure RowD where
  a : Addr
  l : Addr
  n : Int
  t : Tok
  x : Int
  tx : Tok
  k : Fin 3
  ty : Tok

def RowAt (h : Heap) (r : RowD) : Prop :=
  IsTup h r.a #[.int r.n r.t, .ref r.l] ∧ h.IsList r.l #[.int r.x r.tx, .str (txt r.k) r.ty]
theorem RowAt.keeps {h h' : Heap} {r : RowD} (x : RowAt h r) (k : h.StaysIn h') : RowAt h' r := ⟨stays_tup k x.1, stays_list k x.2⟩

def KeysAt (h : Heap) (k : Addr) (b1 b2 : Bool) : Prop :=
  ∃ p q s1 s2 t1 t2, h.IsList k #[.ref p, .ref q] ∧ IsTup h p #[.str s1 t1, .bool b1] ∧ IsTup h q #[.str s2 t2, .bool b2]
theorem KeysAt.keeps {h h' : Heap} {a : Addr} {b1 b2 : Bool} (x : KeysAt h a b1 b2) (k : h.StaysIn h') : KeysAt h' a b1 b2 := by
  obtain ⟨p, q, s1, s2, t1, t2, h1, h2, h3⟩ := x
  exact ⟨p, q, s1, s2, t1, t2, stays_list k h1, stays_tup k h2, stays_tup k h3⟩

/-- does a row stand ahead of another one -/
def ahead (b1 b2 : Bool) (r q : RowD) : Bool :=
  if r.x ≠ q.x then decide (r.x < q.x) != b1 else if r.k ≠ q.k then decide (r.k < q.k) != b2 else decide (r.n < q.n)

/-- where a call may be made: the caller's frame over its ground -/
def Gd (w : World) (A : Around) (s : Shared) : Prop :=
  ∃ (A₀ : Around) (base : Heap) (outer : List Env) (h₀ : Heap) (L : Addr) (m : Str → Option Value) (env : Env) (p : Program) (loose : List Str) (mean : ExcName → Option Value) (mg mb : Str → Option Value),
    Below A₀ base outer h₀ ∧ Fr h₀ L s.heap m ∧ (hd.heap_39 w.params).In h₀ ∧ Top p loose mean mg mb h₀ ∧ A.frames = some (env :: outer) ∧ env.frame = some L ∧ env.scope.kind = .function
theorem Gd.up {w : World} {A : Around} {s s' : Shared} (G : Gd w A s) (k : s.heap.StaysIn s'.heap) : Gd w A s' := by
  obtain ⟨A₀, base, outer, h₀, L, m, env, p, loose, mean, mg, mb, B, F, r⟩ := G
  exact ⟨A₀, base, outer, h₀, L, m, env, p, loose, mean, mg, mb, B, F.keeps k, r⟩
end
section
local macro_rules | `(tactic| walk_at "exec For Tuple Call cons nil") => `(tactic| (k_here; (rename Fr _ _ _ _ => lF'); (with_unfolding_all refine' For_turns lF' ?_; k_whole)))
local macro_rules | `(tactic| walk_at "call type:enumerate") => `(tactic| (k_here; (with_unfolding_all refine enum_step (h := ?_)); intro i' l1; (try k_lt l1)))

set_option maxHeartbeats 4000000 in
theorem is_ahead_code {w : World} {s : Shared} {R : Result → Shared → Prop} {e1 e2 : Env} (G : Gd w ((callerA.deeper e1).deeper e2) s) {ka : Addr} {b1 b2 : Bool} {r1 r2 : RowD} (hk : KeysAt s.heap ka b1 b2) (h1 : RowAt s.heap r1) (h2 : RowAt s.heap r2)
  (hR : ∀ h' tk b, b = ahead b1 b2 r1 r2 → s.heap.StaysIn h' → R (.ok (.ret (.bool b))) { s with heap := h', toks := tk }) :
  codeAny (model PySem.Challenge.pw_nz0274_01 w) ((callerA.deeper e1).deeper e2) (.call (.ref 99) ⟨[.ref ka, .ref r1.a, .ref r2.a], []⟩) R s := by
  w_top off
  obtain ⟨A₀, base, outer, h₀, L, m, env, p, loose, mean, mg, mb, B, F, X, T, hA, hf, hke⟩ := G
  obtain ⟨p, q, s1, s2, t1, t2, hk1, hk2, hk3⟩ := hk
  obtain ⟨h1a, h1b⟩ := h1
  obtain ⟨h2a, h2b⟩ := h2
  refine enterP B F X T hA hf hke (by k_is) (by k_is) (by k_room) (BindsTo.of_eq rfl) (locs rfl) ?_ (by decide)
  clear B F X T hA hf hke
  intro L' h₁ F N B X T
  k_steps
  · refine hR _ _ _ ?_ (Fr.keep (by assumption))
    have hx : r1.x ≠ r2.x := by assumption
    unfold ahead; rw [if_pos hx]
  · refine hR _ _ _ ?_ (Fr.keep (by assumption))
    have hx : r1.x = r2.x := by assumption
    have hy : (txt r1.k != txt r2.k) = true := by assumption
    rw [txt_ne] at hy
    unfold ahead; rw [if_neg (fun h => h hx), if_pos (of_decide_eq_true hy), ← txt_lt]
  · refine hR _ _ _ ?_ (Fr.keep (by assumption))
    have hx : r1.x = r2.x := by assumption
    have hy : (txt r1.k != txt r2.k) = false := by assumption
    rw [txt_ne] at hy
    unfold ahead; rw [if_neg (fun h => h hx), if_neg (of_decide_eq_false hy)]
end
section
set_option maxHeartbeats 4000000 in
theorem is_behind_code {w : World} {s : Shared} {R : Result → Shared → Prop} {e1 e2 : Env} (G : Gd w ((callerA.deeper e1).deeper e2) s) {ka : Addr} {b1 b2 : Bool} {r1 r2 : RowD} (hk : KeysAt s.heap ka b1 b2) (h1 : RowAt s.heap r1) (h2 : RowAt s.heap r2)
  (hR : ∀ h' tk b, b = ahead b1 b2 r2 r1 → s.heap.StaysIn h' → R (.ok (.ret (.bool b))) { s with heap := h', toks := tk }) :
  codeAny (model PySem.Challenge.pw_nz0274_01 w) ((callerA.deeper e1).deeper e2) (.call (.ref 120) ⟨[.ref ka, .ref r1.a, .ref r2.a], []⟩) R s := by
  w_top off
  obtain ⟨A₀, base, outer, h₀, L, m, env, p, loose, mean, mg, mb, B, F, X, T, hA, hf, hke⟩ := G
  obtain ⟨p, q, s1, s2, t1, t2, hk1, hk2, hk3⟩ := hk
  obtain ⟨h1a, h1b⟩ := h1
  obtain ⟨h2a, h2b⟩ := h2
  refine enterP B F X T hA hf hke (by k_is) (by k_is) (by k_room) (BindsTo.of_eq rfl) (locs rfl) ?_ (by decide)
  clear B F X T hA hf hke
  intro L' h₁ F N B X T
  k_steps
  · refine hR _ _ _ ?_ (Fr.keep (by assumption))
    have hx : r1.x ≠ r2.x := by assumption
    unfold ahead; rw [if_pos (Ne.symm hx)]
  · refine hR _ _ _ ?_ (Fr.keep (by assumption))
    have hx : r1.x = r2.x := by assumption
    have hy : (txt r1.k != txt r2.k) = true := by assumption
    rw [txt_ne] at hy
    unfold ahead; rw [if_neg (fun h => h hx.symm), if_pos (Ne.symm (of_decide_eq_true hy)), ← txt_lt]
  · refine hR _ _ _ ?_ (Fr.keep (by assumption))
    have hx : r1.x = r2.x := by assumption
    have hy : (txt r1.k != txt r2.k) = false := by assumption
    rw [txt_ne] at hy
    unfold ahead; rw [if_neg (fun h => h hx.symm), if_neg (fun h => of_decide_eq_false hy (Ne.symm h))]
end
section
/-- a row as a value -/
abbrev rv (r : RowD) : Value := .ref r.a
abbrev rvs (xs : List RowD) : List Value := xs.map rv

/-- two lists merged -/
def merge (b1 b2 : Bool) : List RowD → List RowD → List RowD
  | [], ys => ys
  | x :: xs, [] => x :: xs
  | x :: xs, y :: ys => if ahead b1 b2 x y then x :: merge b1 b2 xs (y :: ys) else y :: merge b1 b2 (x :: xs) ys
termination_by xs ys => xs.length + ys.length

theorem merge_one {b1 b2 : Bool} {xs ys : List RowD} {i j : Nat} (hi : i < xs.length) (h : ys.length ≤ j) : merge b1 b2 (xs.drop i) (ys.drop j) = xs[i] :: merge b1 b2 (xs.drop (i + 1)) (ys.drop j) := by
  rw [List.drop_eq_nil_of_le h, List.drop_eq_getElem_cons hi]
  cases q : xs.drop (i + 1) with
  | nil => simp only [merge]
  | cons a b => simp only [merge]
theorem merge_two {b1 b2 : Bool} {xs ys : List RowD} {i j : Nat} (hj : j < ys.length) (h : xs.length ≤ i) : merge b1 b2 (xs.drop i) (ys.drop j) = ys[j] :: merge b1 b2 (xs.drop i) (ys.drop (j + 1)) := by
  rw [List.drop_eq_nil_of_le h, List.drop_eq_getElem_cons hj]
  simp only [merge]
theorem merge_left {b1 b2 : Bool} {xs ys : List RowD} {i j : Nat} (hi : i < xs.length) (hj : j < ys.length) (h : ahead b1 b2 xs[i] ys[j] = true) : merge b1 b2 (xs.drop i) (ys.drop j) = xs[i] :: merge b1 b2 (xs.drop (i + 1)) (ys.drop j) := by
  rw [List.drop_eq_getElem_cons hi, List.drop_eq_getElem_cons hj]
  simp only [merge, h, if_true]
theorem merge_right {b1 b2 : Bool} {xs ys : List RowD} {i j : Nat} (hi : i < xs.length) (hj : j < ys.length) (h : ahead b1 b2 xs[i] ys[j] = false) : merge b1 b2 (xs.drop i) (ys.drop j) = ys[j] :: merge b1 b2 (xs.drop i) (ys.drop (j + 1)) := by
  rw [List.drop_eq_getElem_cons hi, List.drop_eq_getElem_cons hj]
  simp only [merge, h, Bool.false_eq_true, if_false]

theorem Gd.mk' {w : World} {A₀ : Around} {s : Shared} {base h₀ : Heap} {outer : List Env} {L : Addr} {m : Str → Option Value} {env : Env} {p : Program} {loose : List Str} {mean : ExcName → Option Value} {mg mb : Str → Option Value}
    (B : Below A₀ base outer h₀) (F : Fr h₀ L s.heap m) (X : (hd.heap_39 w.params).In h₀) (T : Top p loose mean mg mb h₀) (hf : env.frame = some L) (hke : env.scope.kind = .function) : Gd w (A₀.deeper env) s :=
  ⟨A₀, base, outer, h₀, L, m, env, p, loose, mean, mg, mb, B, F, X, T, Around.frames_deeper B.stack, hf, hke⟩
theorem rowAt_get {g h' : Heap} {xs : List RowD} {i : Nat} (h : ∀ r ∈ xs, RowAt g r) (hi : i < xs.length) (k : g.StaysIn h') : RowAt h' (xs[i]'hi) := (h _ (List.getElem_mem hi)).keeps k

theorem item_rows {prog : Program} {w : World} {A : Around} {E : Value → Shared → Prop} {s : Shared} {value slice : Expr} {g : Heap} {L l : Addr} {m : Str → Option Value} {xs : List RowD} {i : Nat} {u : Tok} {Q : Value → Shared → Prop}
    (F : Fr g L s.heap m) (hl : g.IsList l (rvs xs).toArray) (hi : i < xs.length) (hhi : xs.length ≤ 100) (h : Q (.ref (xs[i]'hi).a) s)
    (hs : subscripted slice false (.ref l) (.int (i : Int) u) = operate [.ref l, .int (i : Int) u] (getItem (.ref l) (.int (i : Int) u)) := by with_unfolding_all rfl) :
    wpAny (model prog w) A (subscriptTail value slice (.ref l) (.int (i : Int) u)) Q E s :=
  have hL := stays_list F.keep hl
  tail_any hL.typeIs slot_list_getitem.lookup (wpAny_getItem_list hL (by omega) (by omega) (by simp [hi]) h) hs
theorem len_rows {prog : Program} {w : World} {A : Around} {E : Value → Shared → Prop} {s : Shared} {g : Heap} {L l : Addr} {m : Str → Option Value} {xs : List RowD} {Q : Value → Shared → Prop}
    (F : Fr g L s.heap m) (hl : g.IsList l (rvs xs).toArray) (hhi : xs.length ≤ 100) (h : Q (.int (xs.length : Int) (s.toks + 1)) { s with toks := s.toks + 1 + 1 }) :
    wpAny (model prog w) A (call (.builtin "len") [.ref l]) Q E s :=
  have e : (rvs xs).toArray.size = xs.length := by simp
  len_list (stays_list F.keep hl) (by rw [e]; omega) (by rw [e]; exact h)
theorem append_rows {prog : Program} {w : World} {A : Around} {E : Value → Shared → Prop} {s : Shared} {g : Heap} {L l : Addr} {m : Str → Option Value} {o : List RowD} {r : RowD} {n : Nat} {Q : Value → Shared → Prop}
    (F : Fr g L s.heap m) (N : News g L s.heap [(l, W.listOf (rvs o).toArray n)]) (hsz : o.length ≤ 1000)
    (h : ∀ h', Fr g L h' m → News g L h' [(l, W.listOf (rvs (o ++ [r])).toArray (n + 1))] → Q .none { s with heap := h' }) :
    wpAny (model prog w) A (call (.builtin "list.append") [.ref l, .ref r.a]) Q E s := by
  have e : (rvs o).toArray.push (.ref r.a) = (rvs (o ++ [r])).toArray := by simp
  refine append_K F N (Upd.head (List.forall_mem_nil _)) ?_ (by simp only [List.size_toArray, List.length_map]; rw [sizeLine_eq]; omega)
  rw [e]
  exact h
theorem ahead_step {w : World} {s : Shared} {e1 e2 : Env} {base h₀ : Heap} {outer : List Env} {L : Addr} {m : Str → Option Value} {p : Program} {loose : List Str} {mean : ExcName → Option Value} {mg mb : Str → Option Value} {all : List (Addr × Obj)} {E : Value → Shared → Prop} {Q : Value → Shared → Prop} {ka : Addr} {b1 b2 : Bool} {xs ys : List RowD} {i j : Nat} {hi : i < xs.length} {hj : j < ys.length} (B : Below (callerA.deeper e1) base outer h₀ := by assumption) (F : Fr h₀ L s.heap m := by assumption) (N : News h₀ L s.heap all := by assumption) (X : (hd.heap_39 w.params).In h₀ := by assumption) (T : Top p loose mean mg mb h₀ := by assumption) (hf : e2.frame = some L := by rfl) (hke : e2.scope.kind = .function := by rfl)
    (hk : KeysAt h₀ ka b1 b2 := by assumption) (h1 : ∀ r ∈ xs, RowAt h₀ r := by assumption) (h2 : ∀ r ∈ ys, RowAt h₀ r := by assumption)
    (h : ∀ h' tk b, b = ahead b1 b2 (xs[i]'hi) (ys[j]'hj) → Fr h₀ L h' m → News h₀ L h' all → Q (.bool b) { s with heap := h', toks := tk }) :
    wpAny (model PySem.Challenge.pw_nz0274_01 w) ((callerA.deeper e1).deeper e2) (call (.ref 99) [.ref ka, .ref (xs[i]'hi).a, .ref (ys[j]'hj).a] []) Q E s := by
  refine wpAny_call ?_
  refine is_ahead_code (Gd.mk' B F X T hf hke) (KeysAt.keeps hk F.keep) (rowAt_get h1 hi F.keep) (rowAt_get h2 hj F.keep) ?_
  intro h' tk b hb hk'
  exact h h' tk b hb (Fr.keeps F hk') (News.grown N hk')
structure WSt where
  out : List RowD
  i : Nat
  j : Nat
  ti : Tok
  tj : Tok
  n : Nat

local macro_rules | `(tactic| walk_at "subscriptTail") => `(tactic| (k_here; (with_reducible show wpAny _ _ (subscriptTail _ _ (Value.ref _) _) _ _ _); (try dsimp only); k_dflt (refine' item_rows ?F ?hl ?hi ?hh ?_; (case F => assumption); (case hl => assumption); (case hi => omega); (case hh => assumption); k_whole)))
local macro_rules | `(tactic| walk_at "call builtin:len") => `(tactic| (k_here; (with_reducible show wpAny _ _ (call (Value.builtin "len") [Value.ref _]) _ _ _); k_dflt (refine' len_rows ?F ?hl ?hh ?_; (case F => assumption); (case hl => assumption); (case hh => assumption); k_whole)))
local macro_rules | `(tactic| walk_at "call builtin:list.append") => `(tactic| (k_here; (with_reducible show wpAny _ _ (call (Value.builtin "list.append") [Value.ref _, Value.ref (RowD.a _)]) _ _ _); k_dflt (refine' append_rows ?F ?N ?hsz ?_; (case F => assumption); (case N => assumption); (case hsz => omega); k_whole); intro h' F' N'; (try k_sweep)))
local macro_rules | `(tactic| walk_at "call ref") => `(tactic| (k_here; refine ahead_step (h := ?_); intro h' tk b hb F' N'; k_sweep; (try dsimp only)))

set_option maxHeartbeats 4000000 in
theorem merged_code {w : World} {s : Shared} {R : Result → Shared → Prop} {e1 : Env} (G : Gd w (callerA.deeper e1) s) {ka oa ob : Addr} {b1 b2 : Bool} {xs ys : List RowD} (hk : KeysAt s.heap ka b1 b2)
  (hx : s.heap.IsList oa (rvs xs).toArray) (hy : s.heap.IsList ob (rvs ys).toArray) (hxs : ∀ r ∈ xs, RowAt s.heap r) (hys : ∀ r ∈ ys, RowAt s.heap r) (hlx : xs.length ≤ 100) (hly : ys.length ≤ 100)
  (hR : ∀ h' tk D n, h'.get? D = some (W.listOf (rvs (merge b1 b2 xs ys)).toArray n) → s.heap.get? D = none → s.heap.StaysIn h' → R (.ok (.ret (.ref D))) { s with heap := h', toks := tk }) :
  codeAny (model PySem.Challenge.pw_nz0274_01 w) (callerA.deeper e1) (.call (.ref 106) ⟨[.ref ka, .ref oa, .ref ob], []⟩) R s := by
  w_top off
  obtain ⟨A₀, base, outer, h₀, L, m, env, p, loose, mean, mg, mb, B, F, X, T, hA, hf, hke⟩ := G
  refine enterP B F X T hA hf hke (by k_is) (by k_is) (by k_room) (BindsTo.of_eq rfl) (locs rfl) ?_ (by decide)
  clear B F X T hA hf hke
  intro L' h₁ F N B X T
  repeat' (first | ((fail_if_success (with_reducible show wpAny _ _ (exec (Stmt.While _ _ _ _) _) _ _ _)); first | (k_unfold; (try dsimp only)) | (k_end; wrow_close) | walk1 | (dsimp only; walk1) | (leave1; walk_say "STEP leave1"; try dsimp only) | fail "no step"))
  rename_i l0 ha l1' D0 hb l2' hc hd' he hf F' N'
  refine ksw_while (σ := WSt) (fun c => [(l0, W.listOf (rvs c.out).toArray c.n)]) (fun c => [(Str.ofString "at", .int (c.i : Int) c.ti), (Str.ofString "spot", .int (c.j : Int) c.tj)]) (fun _ => True) [Str.ofString "at", Str.ofString "spot"]
    (fun c => c.out ++ merge b1 b2 (xs.drop c.i) (ys.drop c.j) = merge b1 b2 xs ys ∧ c.i ≤ xs.length ∧ c.j ≤ ys.length ∧ c.out.length = c.i + c.j) (fun c => (xs.length - c.i) + (ys.length - c.j)) ⟨[], 0, 0, ?ti, ?tj, 0⟩ F' (by intro p hp; exact N' p (.tail _ hp)) trivial ?hk ?hp ?turn
  case hk =>
    refine List.forall_mem_cons.mpr ⟨?_, List.forall_mem_cons.mpr ⟨?_, List.forall_mem_nil _⟩⟩
    · with_unfolding_all rfl
    · with_unfolding_all rfl
  case hp => exact ⟨rfl, Nat.zero_le _, Nat.zero_le _, rfl⟩
  clear F' N'
  intro c u h tk _ hp F' N'
  obtain ⟨hp1, hp2, hp3, hp4⟩ := hp
  try k_fold
  k_steps
  · refine ksw_end (⟨c.out ++ [xs[c.i]], c.i + 1, c.j, ?t11, ?t21, c.n + 1⟩ : WSt) (by assumption) (by assumption) (fun p hp => hp) trivial ?hk ?hr ?hp ?hm
    case hk =>
      refine List.forall_mem_cons.mpr ⟨?_, List.forall_mem_cons.mpr ⟨?_, List.forall_mem_nil _⟩⟩
      · with_unfolding_all rfl
      · with_unfolding_all rfl
    case hr =>
      intro z h2 h3
      have ha : z ≠ Str.ofString "at" := h2 _ (.head _)
      have hs : z ≠ Str.ofString "spot" := h2 _ (.tail _ (.head _))
      exact (if_neg ha).trans ((if_neg ha).trans ((if_neg hs).trans (if_neg (by rw [h3]; exact Bool.false_ne_true))))
    case hp =>
      refine ⟨?_, by dsimp only; omega, by dsimp only; omega, by simp only [List.length_append, List.length_singleton]; omega⟩
      dsimp only
      rw [List.append_assoc, List.singleton_append, ← merge_one (by omega) (by omega)]
      exact hp1
    case hm => dsimp only; omega
  · refine ksw_end (⟨c.out ++ [xs[c.i]], c.i + 1, c.j, ?t12, ?t22, c.n + 1⟩ : WSt) (by assumption) (by assumption) (fun p hp => hp) trivial ?hk ?hr ?hp ?hm
    case hk =>
      refine List.forall_mem_cons.mpr ⟨?_, List.forall_mem_cons.mpr ⟨?_, List.forall_mem_nil _⟩⟩
      · with_unfolding_all rfl
      · with_unfolding_all rfl
    case hr =>
      intro z h2 h3
      have ha : z ≠ Str.ofString "at" := h2 _ (.head _)
      have hs : z ≠ Str.ofString "spot" := h2 _ (.tail _ (.head _))
      exact (if_neg ha).trans ((if_neg ha).trans ((if_neg hs).trans (if_neg (by rw [h3]; exact Bool.false_ne_true))))
    case hp =>
      refine ⟨?_, by dsimp only; omega, by dsimp only; omega, by simp only [List.length_append, List.length_singleton]; omega⟩
      dsimp only
      rw [List.append_assoc, List.singleton_append, ← merge_left (by omega) (by omega) (by simp_all)]
      exact hp1
    case hm => dsimp only; omega
  · refine ksw_end (⟨c.out ++ [ys[c.j]], c.i, c.j + 1, ?t13, ?t23, c.n + 1⟩ : WSt) (by assumption) (by assumption) (fun p hp => hp) trivial ?hk ?hr ?hp ?hm
    case hk =>
      refine List.forall_mem_cons.mpr ⟨?_, List.forall_mem_cons.mpr ⟨?_, List.forall_mem_nil _⟩⟩
      · with_unfolding_all rfl
      · with_unfolding_all rfl
    case hr =>
      intro z h2 h3
      have ha : z ≠ Str.ofString "at" := h2 _ (.head _)
      have hs : z ≠ Str.ofString "spot" := h2 _ (.tail _ (.head _))
      exact (if_neg hs).trans ((if_neg ha).trans ((if_neg hs).trans (if_neg (by rw [h3]; exact Bool.false_ne_true))))
    case hp =>
      refine ⟨?_, by dsimp only; omega, by dsimp only; omega, by simp only [List.length_append, List.length_singleton]; omega⟩
      dsimp only
      rw [List.append_assoc, List.singleton_append, ← merge_right (by omega) (by omega) (by simp_all)]
      exact hp1
    case hm => dsimp only; omega
  · exfalso; omega
  · refine ksw_end (⟨c.out ++ [ys[c.j]], c.i, c.j + 1, ?t14, ?t24, c.n + 1⟩ : WSt) (by assumption) (by assumption) (fun p hp => hp) trivial ?hk ?hr ?hp ?hm
    case hk =>
      refine List.forall_mem_cons.mpr ⟨?_, List.forall_mem_cons.mpr ⟨?_, List.forall_mem_nil _⟩⟩
      · with_unfolding_all rfl
      · with_unfolding_all rfl
    case hr =>
      intro z h2 h3
      have ha : z ≠ Str.ofString "at" := h2 _ (.head _)
      have hs : z ≠ Str.ofString "spot" := h2 _ (.tail _ (.head _))
      exact (if_neg hs).trans ((if_neg ha).trans ((if_neg hs).trans (if_neg (by rw [h3]; exact Bool.false_ne_true))))
    case hp =>
      refine ⟨?_, by dsimp only; omega, by dsimp only; omega, by simp only [List.length_append, List.length_singleton]; omega⟩
      dsimp only
      rw [List.append_assoc, List.singleton_append, ← merge_two (by omega) (by omega)]
      exact hp1
    case hm => dsimp only; omega
  · have e1 : xs.drop c.i = [] := List.drop_eq_nil_of_le (by omega)
    have e2 : ys.drop c.j = [] := List.drop_eq_nil_of_le (by omega)
    rw [e1, e2] at hp1
    simp only [merge, List.append_nil] at hp1
    (rename News _ _ _ _ => N')
    have q := N' _ (List.Mem.head _)
    exact hR _ _ l0 _ (by rw [← hp1]; exact q.1) q.2.2 (Fr.keep (by assumption))
end
section
section
open PySem.Spec
variable {prog : Program} {w : World} {A₀ A : Around} {s : Shared} {base h₀ : Heap} {outer : List Env} {L : Addr} {m : Str → Option Value} {env : Env} {K : Frag}
  {R : Result → Shared → Prop} {name qual : Str} {params : Arguments} {body : List Stmt} {scope : Scope} {dV kV doc pm cdv ct oc : Value} {an od : Option Addr} {osl : Array (Option Value)} {f : Addr} {args : Args} {binds : List (Str × Value)}
  {p : Program} {loose : List Str} {mean : ExcName → Option Value} {mg mb : Str → Option Value}

/-- a def with captured names is entered: the frame's ground is the caller's whole heap -/
theorem enterC (B : Below A₀ base outer h₀) (F : Fr h₀ L s.heap m) (X : K.In h₀) (T : Top p loose mean mg mb h₀) (hA : A.frames = some (env :: outer)) (hf : env.frame = some L) (hke : env.scope.kind = .function)
    (ho : K.lookup f = some ⟨oc, od, .func (fnOf name qual params body scope dV kV doc pm an cdv ct), osl⟩) (hcd : codeIn K cdv qual = true) (hroom : A.depth < recursionLimit)
    (hbind : BindsTo s (fnOf name qual params body scope dV kV doc pm an cdv ct) args binds) (hkind : (binds.all fun y => scope.names.lookup y.1 == some .local || scope.names.lookup y.1 == some .cell) = true)
    (hnd : ((cellsFrom 0 scope.names []).map (·.1)).Nodup)
    (h : ∀ L' h₁ tk cells, Fr s.heap L' h₁ (bindL (envOfC qual scope L' f cdv).kindOf binds fun _ => none) → News s.heap L' h₁ cells → CellsAre (bindC (envOfC qual scope L' f cdv).kindOf binds fun _ => none) (cellsFrom (L' + 1) scope.names []) cells →
      Below A base (env :: outer) s.heap → K.In s.heap → Top p loose mean mg mb s.heap →
      wpAny (model prog w) (A.deeper (envOfC qual scope L' f cdv)) (execs body (envOfC qual scope L' f cdv))
        (fun fl s' => R (.ok (.ret (match fl with | .ret v => v | _ => .none))) s') (fun _ _ => False)
        { s with heap := h₁, toks := tk })
    (hco : scope.isCoroutine = false := by rfl) (hgen : scope.isGenerator = false := by rfl) (hk : scope.kind = .function := by rfl) :
    codeAny (model prog w) A (.call (.ref f) args) R s := by
  have Xs := X.keeps F.keep
  refine codeAny_call_function (fd := fnOf name qual params body scope dV kV doc pm an cdv ct) hroom (Xs _ _ ho) rfl hco hgen rfl (codeRec_of Xs hcd) (hbind _ _ _ _ ?_)
  refine wpAny_newFunctionEnv_cells hk (kindsX hkind _) fun env' he s' x => ?_
  subst he
  refine ⟨(T.nolimit.keeps F.keep).keeps x.toInCall.keep, codeAny_func ?_⟩
  obtain ⟨h₁, tk, rfl, _⟩ := x.done
  have hk₁ := x.toInCall.keep
  obtain ⟨cells, NC, Y⟩ := Cl.news (h₀ := s.heap) (Nat.le_refl _) fun n c hm => ⟨x.cell n c (lookup_of_mem_nodup (cellsFrom_names scope.names 0 (s.heap.objs.size + 1) [] [] rfl ▸ hnd) hm), x.above n c hm⟩
  have B₁ := pushX B F hf hke
  refine wpAny_mono (h s.heap.objs.size h₁ tk cells ⟨x.toInCall.ns, hk₁, Nat.le_refl _⟩ NC Y ⟨hA, fun b o e => F.keep b o (B.stays b o e), B₁.frames⟩ Xs (T.keeps F.keep)) (fun fl s' hl => hl) (fun e s' x => x.elim)
end


theorem AllObj.up : ∀ {ws : List (Addr × String)} {k k' : List (Addr × Obj) → Prop}, AllObj ws k → (∀ its, k its → k' its) → AllObj ws k'
  | [], _, _, h, up => up _ h
  | _ :: _, _, _, h, up => fun o hc => AllObj.up (h o hc) fun its x => up _ x

theorem unr_up {h₀ : Heap} {L : Addr} {s₁ : Shared} {its : List (Addr × Obj)} {rest rest' : (Str → Option Value) → List (Addr × Obj) → Prop} {Q : Flow → Shared → Prop} (hr : ∀ m n, rest m n → rest' m n) {f : Flow} {s₂ : Shared}
    (h : UnrPostW h₀ L s₁ its rest Q f s₂) : UnrPostW h₀ L s₁ its rest' Q f s₂ := by
  have up : ∀ s₃, UnrEndW h₀ L s₁ its rest s₃ → UnrEndW h₀ L s₁ its rest' s₃ := fun s₃ ⟨h', tk, m', n', a, b, c, d, e⟩ => ⟨h', tk, m', n', a, b, c, d, hr _ _ e⟩
  cases f with
  | ret v => exact h
  | brk => exact h
  | next => exact up _ h
  | cont => exact up _ h

/-- what a push leaves as it is -/
theorem stays_push {h h' : Heap} {o : Obj} (hk : ∀ b o', b ∉ [h.objs.size] → (h.push o).get? b = some o' → h'.get? b = some o') : h.StaysIn h' :=
  fun b _ e => hk b _ (fun m => Nat.ne_of_lt (Heap.lt_size e) (List.mem_singleton.mp m)) (Heap.get?_push_of_some _ e)
theorem none_under {h : Heap} {o : Obj} {D : Addr} (e : (h.push o).get? D = none) : h.get? D = none := Option.eq_none_iff_forall_ne_some.mpr fun _ q => Option.some_ne_none _ ((Heap.get?_push_of_some _ q).symm.trans e)
theorem below_push {h : Heap} {o : Obj} {C : Addr} (hC : (h.push o).objs.size ≤ C) : h.objs.size ≤ C := Nat.le_trans (Nat.le_succ _) (Nat.le_trans (Nat.le_of_eq (Heap.size_push h o).symm) hC)
theorem under_push {h : Heap} {o : Obj} {b : Addr} (hb : b ≤ h.objs.size) : b < (h.push o).objs.size := Nat.lt_of_lt_of_le (Nat.lt_succ_of_le hb) (Nat.le_of_eq (Heap.size_push h o).symm)
section
open PyProof.V PySem.Spec
variable {prog : Program} {w : World} {A : Around} {E : Value → Shared → Prop} {s : Shared} {env : Env} {h₀ : Heap} {target : Expr} {body : List Stmt} {Q : Flow → Shared → Prop}

/-- a loop of any number of turns by an invariant over a state of one's own -/
theorem rest_inv {σ : Type} {ws : List (Addr × String)} {keep : List (Addr × Obj)} (Led : σ → List (Addr × Obj)) (fr : σ → Str → Option Value) (Inv : Nat → σ → Prop) (its : List Itm) (hkeep : ∀ c, SubL keep (Led c))
    (turn : ∀ i a c v h tk, its[i]? = some a → a.Is v h → Inv i c → Fr h₀ env.locals h (fr c) → AllObj ws (fun own => News h₀ env.locals h (own ++ Led c) →
      wpAny (model prog w) A (assign target env v) (fun _ s₂ => wpAny (model prog w) A (execs body env) (UnrPostW h₀ env.locals { s with heap := h, toks := tk } own (fun m' n' => ∃ c', Inv (i + 1) c' ∧ m' = fr c' ∧ n' = Led c') Q) E s₂) E { s with heap := h, toks := tk }))
    (done : ∀ c h tk, Inv its.length c → Fr h₀ env.locals h (fr c) → News h₀ env.locals h (Led c) → Q .next { s with heap := h, toks := tk }) :
    ∀ (r : List Itm) (i : Nat) (c : σ), its.drop i = r → i ≤ its.length → Inv i c → ItemsRest prog w A E h₀ env target body Q s ws keep r (fr c) (Led c)
  | [], i, c, hr, hi, hc => by
    have hl : its.length ≤ i := List.drop_eq_nil_iff.mp hr
    have e : i = its.length := by omega
    subst e
    exact fun h tk F N => done c h tk hc F N
  | a :: r, i, c, hr, hi, hc => by
    have hi' : i < its.length := by
      refine Nat.lt_of_not_le fun q => ?_
      rw [List.drop_eq_nil_of_le q] at hr
      cases hr
    rw [List.drop_eq_getElem_cons hi'] at hr
    injection hr with e1 e2
    have ha : its[i]? = some a := by rw [List.getElem?_eq_getElem hi', e1]
    intro v h tk hv F
    refine AllObj.up (turn i a c v h tk ha hv hc F) fun own k N => wpAny_mono (k N) (fun _ s₂ h₂ => wpAny_mono h₂ (fun f s₃ h₃ => unr_up (fun m' n' x => ?_) h₃) fun _ _ x => x) fun _ _ x => x
    obtain ⟨c', hc', rfl, rfl⟩ := x
    exact ⟨hkeep c', rest_inv Led fr Inv its hkeep turn done r (i + 1) c' e2 hi' hc'⟩

/-- a loop over a list that stands in the frame's ground -/
theorem list_base {ax : Addr} {vs : List Value} {m₀ : Str → Option Value} {news : List (Addr × Obj)}
    (hh : A.handled = none) (F : Fr h₀ env.locals s.heap m₀) (N : News h₀ env.locals s.heap news) (hl₀ : h₀.IsList ax vs.toArray)
    (rest₀ : ∀ I : Addr, (∀ p ∈ news, p.1 < I) → ItemsRest prog w A E h₀ env target body Q s [(I, "list_iterator")] [] (vs.map .val) m₀ news) :
    wpAny (model prog w) A (pyIter (.ref ax)) (fun it s₂ => TurnsAt prog w A h₀ env target body Q E it s₂) E s := by
  obtain ⟨o, ho, r⟩ := id hl₀
  have hl : s.heap.IsList ax vs.toArray := ⟨o, F.keep _ _ ho, r⟩
  refine wpAny_pyIter_list hl (base_core (ws := [(s.heap.objs.size, "list_iterator")]) F N ho (List.forall_mem_cons.mpr ⟨Nat.le_refl _, List.forall_mem_nil _⟩)
    (KTurns.ofWalks (Walks.list hh s.heap.objs.size ax (Nat.ne_of_lt (Heap.lt_size (F.keep _ _ ho))) vs.toArray) fun _ _ _ _ _ st q => letGo_listiter st.1 q) (by simp) (fun i v h q => ?_) (fun i h st => ?_)
    ⟨⟨_, Heap.get?_push_size _ rfl, rfl, rfl⟩, hl.at fun _ e => Heap.get?_push_of_some _ e⟩ (F.push _) (N.grown fun _ _ e => Heap.get?_push_of_some _ e) (rest₀ _ fun p hp => Heap.lt_size (N p hp).1))
  · have q' : vs.toArray[i]? = some v := q
    exact ⟨.val v, by simpa using q', rfl⟩
  · obtain ⟨it, e, c, _⟩ := st.1
    exact ⟨[(_, it)], ⟨⟨rfl, c⟩, trivial⟩, List.forall_mem_cons.mpr ⟨e, List.forall_mem_nil _⟩⟩
end

section
variable {prog : Program} {w : World} {A : Around} {E : Value → Shared → Prop} {s : Shared} {env : Env}
/-- a comprehension over a list that the call does not change, its items of any kind -/
theorem comp_list {elt iter : Expr} {x : Str} {px : Pos} {ifs : List Expr} {scope : Scope} {cl : List (Str × Addr)} {pos : Pos} {Q : Value → Shared → Prop} (p : Value → Bool) (Fv : Value → Value → Prop) {vs : List Value}
    (hh : A.handled = none) (hclos : closureFor scope env = pure cl) (hcell : ∀ y ∈ scope.names, y.2 ≠ .cell) (hkind : scope.kind = .function)
    (hnames : ∀ y ∈ scope.names, y.2 = .local → scope.names.lookup y.1 = some .local) (hx : scope.names.lookup x = some .local)
    (h : wpAny (model prog w) A (eval iter env) (fun xv s₁ => ∃ ax, xv = .ref ax ∧ s₁.heap.IsList ax vs.toArray ∧ vs.length ≤ sizeLine ∧
      (∀ C v s₂ m₂ E', s₁.heap.objs.size ≤ C → v ∈ vs → s₂.heap.Ns C m₂ → m₂ x = some v → s₁.heap.StaysIn s₂.heap →
        wpAny (model prog w) A (forIn ifs true fun c r => if r = true then do let ok ← isTrue c (compEnvC scope cl C env) (eval c (compEnvC scope cl C env)); pure (ForInStep.yield ok) else pure (ForInStep.yield r))
          (fun ok s₃ => ok = p v ∧ Keeps s₂ s₃) E' s₂) ∧
      (∀ C v s₂ m₂ E', s₁.heap.objs.size ≤ C → v ∈ vs → p v = true → s₂.heap.Ns C m₂ → m₂ x = some v → s₁.heap.StaysIn s₂.heap →
        wpAny (model prog w) A (eval elt (compEnvC scope cl C env)) (fun y s₃ => Fv v y ∧ Keeps s₂ s₃) E' s₂) ∧
      (∀ D ys h' tk, s₁.heap.get? D = none → h'.PlainList D ys → Paired Fv (vs.filter p) ys.toList → s₁.heap.StaysIn h' → Q (.ref D) { s₁ with heap := h', toks := tk })) E s)
    (hs : ∀ x, foldedSetIterable iter env x = pure x := by intro _; rfl) :
    wpAny (model prog w) A (eval (.ListComp elt [⟨.Name x px, iter, ifs, 0⟩] scope pos) env) Q E s := by
  refine wpAny_ListComp_free p Fv hclos hcell hkind hnames hx (wpAny_mono h (fun xv s₁ h₁ => ?_) fun _ _ e => e) hs
  obtain ⟨ax, rfl, hl, hsz, htests, helt, hQ⟩ := h₁
  have lt : ax < s₁.heap.objs.size := hl.elim fun _ r => Heap.lt_size r.1
  have mem : ∀ {i : Nat} {v : Value}, vs.toArray[i]? = some v → v ∈ vs := fun q => List.mem_toArray.mp (Array.mem_of_getElem? q)
  refine wpAny_pyIter_list hl ⟨_, [s₁.heap.objs.size, ax], [s₁.heap.objs.size], vs.toArray.size, _, _, rfl, Walks.list hh _ _ (Nat.ne_of_lt lt) vs.toArray, Nat.le_trans (Nat.le_of_eq List.size_toArray) hsz, ⟨⟨_, Heap.get?_push_size _ rfl, rfl, rfl⟩, hl.push _⟩,
    List.forall_mem_cons.mpr ⟨under_push (Nat.le_refl _), List.forall_mem_cons.mpr ⟨under_push (Nat.le_of_lt lt), List.forall_mem_nil _⟩⟩,
    ⟨fun C i v s₃ m₃ E' hC q hn hm hk _ => htests C v s₃ m₃ E' (below_push hC) (mem q) hn hm (stays_push hk), fun C i v s₃ m₃ E' hC q hp hn hm hk _ => helt C v s₃ m₃ E' (below_push hC) (mem q) hp hn hm (stays_push hk)⟩,
    fun D h' tk ys us e _ pl len q fd hk => hQ D ys h' tk (none_under e) pl ?_ (stays_push hk)⟩
  rwa [show us = vs from by simpa using list_of_places len q] at fd
end
end
section
section
open PyProof.V PySem.Spec
variable {prog : Program} {w : World} {A : Around} {E : Value → Shared → Prop} {s : Shared} {env : Env} {h₀ : Heap} {target : Expr} {body : List Stmt} {Q : Flow → Shared → Prop}
/-- the same where no turn changes the frame's names -/
theorem rest_const {σ : Type} {ws : List (Addr × String)} {keep : List (Addr × Obj)} {m₀ : Str → Option Value} (Led : σ → List (Addr × Obj)) (Inv : Nat → σ → Prop) {its : List Itm} (c₀ : σ) (hkeep : ∀ c, SubL keep (Led c)) (h0 : Inv 0 c₀)
    (turn : ∀ i a c v h tk, its[i]? = some a → a.Is v h → Inv i c → Fr h₀ env.locals h m₀ → AllObj ws (fun own => News h₀ env.locals h (own ++ Led c) →
      wpAny (model prog w) A (assign target env v) (fun _ s₂ => wpAny (model prog w) A (execs body env) (UnrPostW h₀ env.locals { s with heap := h, toks := tk } own (fun m' n' => ∃ c', Inv (i + 1) c' ∧ m' = m₀ ∧ n' = Led c') Q) E s₂) E { s with heap := h, toks := tk }))
    (done : ∀ c h tk, Inv its.length c → Fr h₀ env.locals h m₀ → News h₀ env.locals h (Led c) → Q .next { s with heap := h, toks := tk }) :
    ItemsRest prog w A E h₀ env target body Q s ws keep its m₀ (Led c₀) :=
  rest_inv Led (fun _ => m₀) Inv its hkeep turn done its 0 c₀ rfl (Nat.zero_le _) h0
theorem rows_item {xs : List RowD} {i : Nat} {a : Itm} {v : Value} {h : Heap} (ha : ((rvs xs).map Itm.val)[i]? = some a) (hv : a.Is v h) : ∃ hi : i < xs.length, v = .ref (xs[i]'hi).a := by
  have hi : i < xs.length := by
    refine Nat.lt_of_not_le fun q => ?_
    rw [List.getElem?_eq_none (by simpa using q)] at ha
    cases ha
  refine ⟨hi, ?_⟩
  have e : a = Itm.val (.ref (xs[i]'hi).a) := by
    have := ha
    simp [hi] at this
    exact this.symm
  subst e
  exact hv
end

/-- how many of a list's rows stand ahead of a row -/
def rankIn (b1 b2 : Bool) (xs : List RowD) (r : RowD) : Nat := (xs.filter fun q => ahead b1 b2 q r).length
/-- each row put at its rank -/
def place (b1 b2 : Bool) (xs : List RowD) (todo f : List RowD) : List RowD := todo.foldl (fun f r => f.set (rankIn b1 b2 xs r) r) f

/-- the caller's own frame, while a block's is at hand -/
def Outer (h₀ : Heap) (L : Addr) (h : Heap) (m : Str → Option Value) : Prop := Fr h₀ L h m
theorem Outer.fr {h₀ h : Heap} {L : Addr} {m : Str → Option Value} (x : Outer h₀ L h m) : Fr h₀ L h m := x

theorem txt_inj : ∀ i j : Fin 3, txt i = txt j → i = j := by decide +kernel
theorem IsTup.det {h : Heap} {a : Addr} {xs ys : Array Value} (x : IsTup h a xs) (y : IsTup h a ys) : xs = ys := by
  obtain ⟨o, ho, _, n, hd⟩ := x
  obtain ⟨o', ho', _, n', hd'⟩ := y
  rw [ho] at ho'
  cases ho'
  rw [hd] at hd'
  injection hd'
theorem IsList.det {h : Heap} {a : Addr} {xs ys : Array Value} (x : h.IsList a xs) (y : h.IsList a ys) : xs = ys := by
  obtain ⟨o, ho, _, n, hd⟩ := x
  obtain ⟨o', ho', _, n', hd'⟩ := y
  rw [ho] at ho'
  cases ho'
  rw [hd] at hd'
  injection hd'
theorem RowAt.det {h : Heap} {r q : RowD} (x : RowAt h r) (y : RowAt h q) (e : r.a = q.a) : r = q := by
  obtain ⟨x1, x2⟩ := x
  obtain ⟨y1, y2⟩ := y
  rw [← e] at y1
  have e1 := IsTup.det x1 y1
  have e1' : [Value.int r.n r.t, Value.ref r.l] = [Value.int q.n q.t, Value.ref q.l] := congrArg Array.toList e1
  injection e1' with a1 a2
  injection a1 with a1 a1'
  injection a2 with a2 _
  injection a2 with a2
  rw [← a2] at y2
  have e2 := IsList.det x2 y2
  have e2' : [Value.int r.x r.tx, Value.str (txt r.k) r.ty] = [Value.int q.x q.tx, Value.str (txt q.k) q.ty] := congrArg Array.toList e2
  injection e2' with b1 b2
  injection b1 with b1 b1'
  injection b2 with b2 _
  injection b2 with b2 b2'
  have b2 := txt_inj _ _ b2
  cases r
  cases q
  simp only at *
  subst e a1 a1' a2 b1 b1' b2 b2'
  rfl

/-- a test on rows as a test on values -/
def onRows (xs : List RowD) (f : RowD → Bool) (v : Value) : Bool := match xs.find? (fun q => decide (rv q = v)) with
  | some q => f q
  | none => false
theorem onRows_at {h : Heap} {xs : List RowD} {f : RowD → Bool} (hxs : ∀ r ∈ xs, RowAt h r) {q : RowD} (hq : q ∈ xs) : onRows xs f (rv q) = f q := by
  unfold onRows
  split
  · rename_i q' hq'
    have h1 := List.find?_some hq'
    have h2 := List.mem_of_find?_eq_some hq'
    have e : q'.a = q.a := by
      have := of_decide_eq_true h1
      injection this
    rw [RowAt.det (hxs _ h2) (hxs _ hq) e]
  · rename_i hn
    rw [List.find?_eq_none] at hn
    exact absurd (decide_eq_true rfl) (hn q hq)
theorem onRows_filter {h : Heap} {xs : List RowD} {f : RowD → Bool} (hxs : ∀ r ∈ xs, RowAt h r) : (rvs xs).filter (onRows xs f) = rvs (xs.filter f) := by
  unfold rvs
  rw [List.filter_map]
  congr 1
  exact List.filter_congr fun q hq => onRows_at hxs hq

theorem len_known {prog : Program} {w : World} {A : Around} {E : Value → Shared → Prop} {s : Shared} {l : Addr} {items : Array Value} {n : Nat} {Q : Value → Shared → Prop}
    (hl : s.heap.IsList l items) (hn : items.size = n) (hhi : n ≤ 100) (h : Q (.int (n : Int) (s.toks + 1)) { s with toks := s.toks + 1 + 1 }) :
    wpAny (model prog w) A (call (.builtin "len") [.ref l]) Q E s := by
  subst hn
  exact len_list hl (by omega) h
theorem ahead_irrefl (b1 b2 : Bool) (r : RowD) : ahead b1 b2 r r = false := by simp [ahead]
theorem rank_lt {b1 b2 : Bool} {xs : List RowD} {r : RowD} (h : r ∈ xs) : rankIn b1 b2 xs r < xs.length :=
  List.length_filter_lt_length_iff_exists.mpr ⟨r, h, by rw [ahead_irrefl]; exact Bool.false_ne_true⟩

theorem set_rows {prog : Program} {w : World} {A : Around} {E : Value → Shared → Prop} {s : Shared} {g : Heap} {L D : Addr} {m : Str → Option Value} {news news' : List (Addr × Obj)} {f : List RowD} {r : RowD} {n k : Nat} {t : Tok} {Q : Unit → Shared → Prop}
    (F : Fr g L s.heap m) (N : News g L s.heap news) (U : Upd D (W.listOf (rvs f).toArray n) (W.listOf (rvs (f.set k r)).toArray n) news news') (hk : k < f.length) (hf : f.length ≤ 100)
    (h : ∀ h', Fr g L h' m → News g L h' news' → Q () { s with heap := h' }) : wpAny (model prog w) A (setItem (.ref D) (.int (k : Int) t) (.ref r.a)) Q E s := by
  obtain ⟨pre, post, rfl, rfl, a, b⟩ := U.split
  have z := N (D, W.listOf (rvs f).toArray n) (List.mem_append.mpr (.inr (.head _)))
  refine ki_setAt z.1 (by omega) (by omega) (by simp only [List.size_toArray, List.length_map]; omega) (h _ (F.change (Heap.SameBut.update ..) z.2.1 z.2.2) (ki_turn _ N a b ?_ ?_))
  · apply Array.toList_inj.mp
    simp
  · simp
structure OSt where
  f : List RowD
  n : Nat
  o : Obj

local macro_rules | `(tactic| walk_at "call builtin:len") => `(tactic| (k_here; (with_reducible show wpAny _ _ (call (Value.builtin "len") [Value.ref _]) _ _ _); k_dflt (refine' len_known ?hl ?hn ?hh ?_; (case hl => assumption); (case hn => assumption); (case hh => omega); k_whole)))
local macro_rules | `(tactic| walk_at "call ref") => `(tactic| (k_here; (with_reducible show wpAny _ _ (call (Value.ref 120) [_, _, _] []) _ _ _); refine wpAny_call ?_; refine is_behind_code (Gd.mk' (by assumption) (Outer.fr (by assumption)) (by assumption) (by assumption) rfl rfl) (KeysAt.keeps (by assumption) (Fr.keep (by assumption))) (rowAt_get (by assumption) _ (Fr.keep (by assumption))) (RowAt.keeps (by assumption) (Fr.keep (by assumption))) ?_; intro h' tk b hb hk'; (try dsimp only)))
local macro_rules | `(tactic| walk_at "setItem ref int") => `(tactic| (k_here; (with_reducible show wpAny _ _ (setItem (Value.ref _) (Value.int _ _) (Value.ref _)) _ _ _); k_dflt (refine' set_rows ?F ?N ?U ?hk ?hf ?_; (case F => assumption); (case N => assumption); (case U => k_upd); (case hk => assumption); (case hf => omega); k_whole); intro h' F' N'; (try k_sweep)))
set_option maxHeartbeats 4000000 in
theorem in_order_code {w : World} {s : Shared} {R : Result → Shared → Prop} {e1 : Env} (G : Gd w (callerA.deeper e1) s) {ka oa : Addr} {b1 b2 : Bool} {xs : List RowD} (hk : KeysAt s.heap ka b1 b2)
  (hx : s.heap.IsList oa (rvs xs).toArray) (hxs : ∀ r ∈ xs, RowAt s.heap r) (hlx : xs.length ≤ 100)
  (hR : ∀ h' tk D n, h'.get? D = some (W.listOf (rvs (place b1 b2 xs xs xs)).toArray n) → s.heap.get? D = none → s.heap.StaysIn h' → R (.ok (.ret (.ref D))) { s with heap := h', toks := tk }) :
  codeAny (model PySem.Challenge.pw_nz0274_01 w) (callerA.deeper e1) (.call (.ref 125) ⟨[.ref ka, .ref oa], []⟩) R s := by
  w_top off
  obtain ⟨A₀, base, outer, h₀, L, m, env, p, loose, mean, mg, mb, B, F, X, T, hA, hf, hke⟩ := G
  refine enterC B F X T hA hf hke (by k_is) (by k_is) (by k_room) (BindsTo.of_eq rfl) rfl (by decide +kernel) ?_
  clear B F X T hA hf hke
  intro L' h₁ tk cells F N Y B X T
  k_cells Y
  repeat' (first | ((fail_if_success (with_reducible show wpAny _ _ (exec (Stmt.For _ _ _ _ _) _) _ _ _)); first | (k_unfold; (try dsimp only)) | (k_end; wrow_close) | walk1 | (dsimp only; walk1) | (leave1; walk_say "STEP leave1"; try dsimp only) | fail "no step"))
  rename_i o1 o2 d1 d2 D c0 ha l1 hb F' N'
  refine For_turns F' ?_
  walk1
  refine list_base (vs := rvs xs) rfl F' N' hx ?_
  intro I hI
  k_lt hI
  refine rest_const (σ := OSt) (fun c => [(D, W.listOf (rvs c.f).toArray c.n), (L' + 1 + 1, c.o), (L' + 1, o2)]) (fun i c => place b1 b2 xs (xs.drop i) c.f = place b1 b2 xs xs xs ∧ c.f.length = xs.length ∧ ∃ v, c.o.data = .cell v) ⟨xs, c0, o1⟩ (fun _ => trivial) ⟨rfl, rfl, _, d1⟩ ?turn ?done
  case turn =>
    clear F' N'
    intro i a c v h tk ha hv hc F'
    obtain ⟨hi, rfl⟩ := rows_item ha hv
    obtain ⟨hc1, hc2, vv, hc3⟩ := hc
    refine AllObj.cons (fun oi hoi => AllObj.nil (fun N' => ?_))
    clear ha hv
    simp only [List.cons_append, List.nil_append] at N'
    dsimp only at hoi
    repeat' (first | ((fail_if_success (with_reducible show wpAny _ _ (eval (Expr.ListComp _ _ _ _) _) _ _ _)); first | (k_unfold; (try dsimp only)) | (k_end; wrow_close) | walk1 | (dsimp only; walk1) | (leave1; walk_say "STEP leave1"; try dsimp only) | fail "no step"))
    rename_i orow F' N' hrow
    refine comp_list (vs := rvs xs) (onRows xs fun q => ahead b1 b2 q xs[i]) (fun v y => y = v) rfl (by with_unfolding_all rfl) (by decide) rfl (by decide) rfl ?_
    walk1
    refine ⟨oa, rfl, stays_list F'.keep hx, by rw [sizeLine_eq]; simp only [List.length_map]; omega, ?_, ?_, ?_⟩
    · intro C v s₂ m₂ E' hC hv hn hm hst
      obtain ⟨q, hq, rfl⟩ := List.mem_map.mp hv
      have O : Outer s.heap L' s₂.heap _ := F'.keeps hst
      have hqa := hxs q hq
      have Fc : Fr s.heap C s₂.heap m₂ := ⟨hn, fun b o e => hst b o (F'.keep b o e), Nat.le_trans (Nat.le_trans F'.above (Nat.le_of_lt F'.ns.lt)) hC⟩
      have Nc : News s.heap C s₂.heap _ := fun p hp => ⟨hst _ _ (N' p hp).1, Nat.ne_of_lt (Nat.lt_of_lt_of_le (Heap.lt_size (N' p hp).1) hC), (N' p hp).2.2⟩
      clear F' N'
      rw [onRows_at hxs hq]
      rw [List.forIn_cons]
      simp only [if_true]
      refine wpAny_bind (wpAny_bind ?_)
      k_steps
      refine wpAny_pure ?_
      dsimp only
      rw [List.forIn_nil]
      exact wpAny_pure ⟨by assumption, _, _, rfl, by assumption⟩
    · intro C v s₂ m₂ E' hC hv hp hn hm hst
      have Fc : Fr s.heap C s₂.heap m₂ := ⟨hn, fun b o e => hst b o (F'.keep b o e), Nat.le_trans (Nat.le_trans F'.above (Nat.le_of_lt F'.ns.lt)) hC⟩
      have Nc : News s.heap C s₂.heap _ := fun p hp => ⟨hst _ _ (N' p hp).1, Nat.ne_of_lt (Nat.lt_of_lt_of_le (Heap.lt_size (N' p hp).1) hC), (N' p hp).2.2⟩
      clear F' N'
      k_steps
      exact ⟨_, _, rfl, fun _ _ e => e⟩
    · intro D2 ys h2 tk2 hD2 hpl hpair hst
      have hsz : ys.size = rankIn b1 b2 xs xs[i] := by
        have e1 := hpair.length
        rw [onRows_filter hxs] at e1
        rw [← Array.length_toList, ← e1]
        simp only [List.length_map]
        rfl
      have hls := hpl.isList
      have hrk : rankIn b1 b2 xs xs[i] < c.f.length := by rw [hc2]; exact rank_lt (List.getElem_mem hi)
      have F2 := F'.keeps hst
      have N2 := N'.grown hst
      clear F' N' hpl
      k_steps
      refine UnrEndW.intro (by assumption) (by assumption) [(D, W.listOf (rvs (c.f.set (rankIn b1 b2 xs xs[i]) xs[i])).toArray c.n), (L' + 1 + 1, orow), (L' + 1, o2)] (by k_subL) (by k_subL) (by ktu_offL) ⟨⟨c.f.set (rankIn b1 b2 xs xs[i]) xs[i], c.n, orow⟩, ⟨?_, ?_, _, hrow⟩, rfl, rfl⟩
      · rw [← hc1, List.drop_eq_getElem_cons hi]
        rfl
      · rw [List.length_set]
        exact hc2
  case done =>
    clear F' N'
    intro c h tk hc F' N'
    obtain ⟨hc1, hc2, vv, hc3⟩ := hc
    have e : xs.drop ((rvs xs).map Itm.val).length = [] := List.drop_eq_nil_of_le (by simp)
    rw [e] at hc1
    have hf : c.f = place b1 b2 xs xs xs := hc1
    try k_fold
    k_steps
    have q := N' _ (List.Mem.head _)
    exact hR _ _ D _ (by rw [← hf]; exact q.1) q.2.2 (Fr.keep (by assumption))
end
section
/-! A stable sort: what list.sort leaves is in order, and equal keys stand as they stood -/
/-- keys that are told apart by a number -/
abbrev natKind (f : Value → Option Nat) : PyProof.Rows.KeyKind where
  α := Nat
  blt a b := decide (a < b)
  irrefl a := decide_eq_false (Nat.lt_irrefl a)
  trans a b c h1 h2 := decide_eq_true (Nat.lt_trans (of_decide_eq_true h1) (of_decide_eq_true h2))
  negTrans a b c h := by
    have h := of_decide_eq_true h
    by_cases q : a < b
    · exact .inl (decide_eq_true q)
    · exact .inr (decide_eq_true (by omega))
  total a b h1 h2 := by
    have h1 := of_decide_eq_false h1
    have h2 := of_decide_eq_false h2
    omega
  keyOf := f
  dflt := 0

/-- a number read off the place i -/
def V (g : Keyed → Nat) (xs : Array Keyed) (i : Nat) : Nat := match xs[i]? with
  | some p => g p
  | none => 0
theorem V_congr {g : Keyed → Nat} {xs ys : Array Keyed} {i j : Nat} (h : xs[i]? = ys[j]?) : V g xs i = V g ys j := by unfold V; rw [h]
theorem V_bubble {g : Keyed → Nat} {xs : Array Keyed} {src d : Nat} (hs : src < xs.size) (hd : d ≤ src) (k : Nat) :
    V g (bubble xs src d) k = if k = src - d then V g xs src else if src - d < k ∧ k ≤ src then V g xs (k - 1) else V g xs k := by
  have e := getElem?_bubble hs d hd k
  by_cases h1 : k = src - d
  · rw [if_pos h1] at e ⊢; exact V_congr e
  · rw [if_neg h1] at e ⊢
    by_cases h2 : src - d < k ∧ k ≤ src
    · rw [if_pos h2] at e ⊢; exact V_congr e
    · rw [if_neg h2] at e ⊢; exact V_congr e
theorem V_mirror {g : Keyed → Nat} {xs : Array Keyed} {i j : Nat} (hj : j ≤ xs.size) (k : Nat) :
    V g (mirror xs i j ((j - i) / 2)) k = if i ≤ k ∧ k < j then V g xs (i + j - 1 - k) else V g xs k := by
  have e := getElem?_mirror_all (i := i) hj k
  by_cases h1 : i ≤ k ∧ k < j
  · rw [if_pos h1] at e ⊢; exact V_congr e
  · rw [if_neg h1] at e ⊢; exact V_congr e

section
variable (gk gp : Keyed → Nat)
/-- in order as far as n, equal keys by their places -/
def Stab (xs : Array Keyed) (n : Nat) : Prop := ∀ i j, i < j → j < n → V gk xs i < V gk xs j ∨ (V gk xs i = V gk xs j ∧ V gp xs i < V gp xs j)
/-- what stands from n on came behind all that stands ahead of it -/
def Tail (N : Nat) (xs : Array Keyed) (n : Nat) : Prop := ∀ i j, i < j → n ≤ j → j < N → V gp xs i < V gp xs j
/-- falling as far as n, equal keys against their places -/
def DescAll (xs : Array Keyed) (n : Nat) : Prop := ∀ i j, i < j → j < n → V gk xs j < V gk xs i ∨ (V gk xs i = V gk xs j ∧ V gp xs j < V gp xs i)
/-- falling as far as n; the last run of equal keys, from q on, still as it stood -/
def Desc (xs : Array Keyed) (n q : Nat) : Prop := (∀ i j, i < j → j < n → V gk xs j < V gk xs i ∨ (V gk xs i = V gk xs j ∧ ((q ≤ i ∧ V gp xs i < V gp xs j) ∨ (j < q ∧ V gp xs j < V gp xs i)))) ∧ ∀ i, q ≤ i → i < n → V gk xs i = V gk xs (n - 1)
end

section
variable {prog : Program} {w : World} {A : Around} {E : Value → Shared → Prop} {s : Shared} {a₀ : Array Keyed} {f : Value → Option Nat} {gp : Keyed → Nat}
/-- the key's number -/
abbrev kn (f : Value → Option Nat) (p : Keyed) : Nat := (f p.1).getD 0

theorem wpS_lt {st : SortSt} {i j : Nat} {Q : Option Bool → SortSt → Prop} (hO : (natKind f).OneLt) (hB : SBase a₀ st) (h0 : KeysOf (natKind f) a₀) (hi : i < a₀.size) (hj : j < a₀.size)
    (h1 : V (kn f) (arrOf st) i < V (kn f) (arrOf st) j → Q (some true) st) (h2 : ¬ V (kn f) (arrOf st) i < V (kn f) (arrOf st) j → Q (some false) st) : wpS (model prog w) A E s (ltAt' i j) Q st := by
  refine wpS_ltKK hO hB h0 hi hj ?_
  have e : (natKind f).blt (KK (natKind f) (arrOf st) i) (KK (natKind f) (arrOf st) j) = decide (V (kn f) (arrOf st) i < V (kn f) (arrOf st) j) := rfl
  rw [e]
  by_cases q : V (kn f) (arrOf st) i < V (kn f) (arrOf st) j
  · rw [decide_eq_true q]; exact h1 q
  · rw [decide_eq_false q]; exact h2 q

theorem tail_bubble {N : Nat} {xs : Array Keyed} {k l : Nat} (hN : N = xs.size) (hk : k < N) (hl : l ≤ k) (ht : Tail gp N xs k) : Tail gp N (bubble xs k (k - l)) (k + 1) := by
  subst hN
  intro i j hij hj hjN
  rw [V_bubble hk (by omega), V_bubble hk (by omega), show k - (k - l) = l by omega]
  have a1 := ht i j hij (by omega) hjN
  have a2 := ht (i - 1) j (by omega) (by omega) hjN
  have a3 := ht k j (by omega) (by omega) hjN
  repeat' split
  all_goals omega
theorem tail_mirror {N : Nat} {xs : Array Keyed} {q n : Nat} (hN : N = xs.size) (hn : n ≤ N) (ht : Tail gp N xs n) : Tail gp N (mirror xs q n ((n - q) / 2)) n := by
  subst hN
  intro i j hij hj hjN
  rw [V_mirror hn, V_mirror hn]
  have a1 := ht i j hij (by omega) hjN
  have a2 := ht (q + n - 1 - i) j
  repeat' split
  all_goals omega
theorem Tail.up {N : Nat} {xs : Array Keyed} {n n' : Nat} (ht : Tail gp N xs n) (h : n ≤ n') : Tail gp N xs n' := fun i j hij hj hjN => ht i j hij (by omega) hjN

theorem stab_le {gk gp : Keyed → Nat} {xs : Array Keyed} {i j : Nat} (h : V gk xs i < V gk xs j ∨ (V gk xs i = V gk xs j ∧ V gp xs i < V gp xs j)) : V gk xs i ≤ V gk xs j := h.elim Nat.le_of_lt fun u => Nat.le_of_eq u.1
theorem stab_bubble {gk gp : Keyed → Nat} {xs : Array Keyed} {k l : Nat} (hk : k < xs.size) (hl : l ≤ k) (hlo : ∀ i, i < l → V gk xs i ≤ V gk xs k) (hhi : ∀ i, l ≤ i → i < k → V gk xs k < V gk xs i)
    (hs : Stab gk gp xs k) (hp : ∀ i, i < k → V gp xs i < V gp xs k) : Stab gk gp (bubble xs k (k - l)) (k + 1) := by
  have e : ∀ g i, V g (bubble xs k (k - l)) i = if i = l then V g xs k else if l < i ∧ i ≤ k then V g xs (i - 1) else V g xs i := fun g i => by rw [V_bubble hk (Nat.sub_le _ _), show k - (k - l) = l by omega]
  have eL : ∀ g i, i < l → V g (bubble xs k (k - l)) i = V g xs i := fun g i h => by rw [e, if_neg (Nat.ne_of_lt h), if_neg (fun u => Nat.lt_asymm u.1 h)]
  have eM : ∀ g, V g (bubble xs k (k - l)) l = V g xs k := fun g => by rw [e, if_pos rfl]
  have eR : ∀ g i, l < i → i ≤ k → V g (bubble xs k (k - l)) i = V g xs (i - 1) := fun g i h h' => by rw [e, if_neg (Nat.ne_of_gt h), if_pos ⟨h, h'⟩]
  intro i j hij hj
  have hj' := Nat.le_of_lt_succ hj
  rcases Nat.lt_trichotomy i l with h | h | h
  · rw [eL _ i h, eL _ i h]
    rcases Nat.lt_trichotomy j l with q | q | q
    · rw [eL _ j q, eL _ j q]; exact hs i j hij (Nat.lt_of_lt_of_le q hl)
    · subst q
      rw [eM, eM]
      have z := hp i (Nat.lt_of_lt_of_le h hl)
      rcases Nat.lt_or_eq_of_le (hlo i h) with u | u
      · exact .inl u
      · exact .inr ⟨u, z⟩
    · rw [eR _ j q hj', eR _ j q hj']; exact hs i (j - 1) (by omega) (by omega)
  · subst h
    rw [eM, eM, eR _ j hij hj', eR _ j hij hj']; exact .inl (hhi (j - 1) (by omega) (by omega))
  · have q := Nat.lt_trans h hij
    have hi' := Nat.le_trans (Nat.le_of_lt hij) hj'
    rw [eR _ i h hi', eR _ i h hi', eR _ j q hj', eR _ j q hj']; exact hs (i - 1) (j - 1) (by omega) (by omega)
theorem wpS_insert {st : SortSt} {ok : Nat} {Q : Bool → SortSt → Prop} (hO : (natKind f).OneLt) (h0 : KeysOf (natKind f) a₀) (hok : ok ≤ a₀.size) (hB : SBase a₀ st) (hs : Stab (kn f) gp (arrOf st) ok) (ht : Tail gp a₀.size (arrOf st) ok)
    (h : ∀ st', SBase a₀ st' → Stab (kn f) gp (arrOf st') a₀.size → Q true st') : wpS (model prog w) A E s (binarySort' 0 a₀.size ok) Q st := by
  rw [binarySort'_eq]
  simp only [Nat.zero_add]
  refine wpS_bind (wpS_mono (wpS_forRange (I := fun k c st' => c = (none, ()) ∧ SBase a₀ st' ∧ Stab (kn f) gp (arrOf st') (min k a₀.size) ∧ Tail gp a₀.size (arrOf st') (min k a₀.size))
    (Q := fun c st' => c = (none, ()) ∧ SBase a₀ st' ∧ Stab (kn f) gp (arrOf st') a₀.size) ?step ?fin ?init) ?post)
  case post =>
    rintro c st' ⟨rfl, hB', hs'⟩
    exact wpS_pure (h st' hB' hs')
  case init =>
    refine ⟨rfl, hB, fun i j hij hj => ?_, fun i j hij hj hjN => ht i j hij (by omega) hjN⟩
    exact hs i j hij (by omega)
  case fin =>
    rintro c st' ⟨hc, hB', hs', _⟩
    refine ⟨hc, hB', ?_⟩
    rwa [show min (max (max ok 1) a₀.size) a₀.size = a₀.size by omega] at hs'
  case step =>
    rintro k c st' hak hkn ⟨rfl, hB', hs', ht'⟩
    rw [show min k a₀.size = k by omega] at hs' ht'
    refine wpS_bind (wpS_mono (wpS_forRange (I := fun x c st'' => st'' = st' ∧ ∃ l r, c = (none, l, r) ∧ l ≤ r ∧ r ≤ k ∧ r - l ≤ k - x ∧
        (∀ i, i < l → V (kn f) (arrOf st') i ≤ V (kn f) (arrOf st') k) ∧ (∀ i, r ≤ i → i < k → V (kn f) (arrOf st') k < V (kn f) (arrOf st') i))
      (Q := fun c st'' => st'' = st' ∧ ∃ l r, c = (none, l, r) ∧ l ≤ k ∧
        (∀ i, i < l → V (kn f) (arrOf st') i ≤ V (kn f) (arrOf st') k) ∧ (∀ i, l ≤ i → i < k → V (kn f) (arrOf st') k < V (kn f) (arrOf st') i)) ?istep ?ifin ?iinit) ?ipost)
    case iinit => exact ⟨rfl, 0, k, rfl, by omega, by omega, by omega, fun i hi => by omega, fun i h1 h2 => by omega⟩
    case ifin =>
      rintro c st'' ⟨rfl, l, r, rfl, hlr, hrk, hm, hlo, hhi⟩
      have e : l = r := by omega
      subst e
      exact ⟨rfl, l, l, rfl, hrk, hlo, hhi⟩
    case istep =>
      rintro x c st'' _ hxk ⟨rfl, l, r, rfl, hlr, hrk, hm, hlo, hhi⟩
      dsimp only
      by_cases hge : l ≥ r
      · rw [if_pos hge]
        have e : l = r := by omega
        subst e
        exact wpS_pure ⟨rfl, l, l, rfl, hrk, hlo, hhi⟩
      · rw [if_neg hge]
        obtain ⟨m, hm0, hm1, hm2, hm3, hm4⟩ : ∃ m, (l + r) / 2 = m ∧ l ≤ m ∧ m < r ∧ m - l ≤ k - (x + 1) ∧ r - (m + 1) ≤ k - (x + 1) := ⟨_, rfl, by clear hlo hhi hs' ht' hok hs; omega, by omega, by omega, by omega⟩
        rw [hm0]
        refine wpS_bind (wpS_lt hO hB' h0 hkn (Nat.lt_trans (Nat.lt_of_lt_of_le hm2 hrk) hkn) (fun hless => ?_) fun hless => ?_)
        · simp only [if_true]
          refine wpS_pure ⟨rfl, l, m, rfl, hm1, Nat.le_trans (Nat.le_of_lt hm2) hrk, hm3, hlo, fun i h1 h2 => ?_⟩
          rcases Nat.lt_or_eq_of_le h1 with q | q
          · exact Nat.lt_of_lt_of_le hless (stab_le (hs' m i q h2))
          · rw [← q]; exact hless
        · simp only [Bool.false_eq_true, if_false]
          refine wpS_pure ⟨rfl, m + 1, r, rfl, hm2, hrk, hm4, fun i h1 => ?_, hhi⟩
          rcases Nat.lt_or_eq_of_le (Nat.le_of_lt_succ h1) with q | q
          · exact Nat.le_trans (stab_le (hs' i m q (Nat.lt_of_lt_of_le hm2 hrk))) (Nat.not_lt.mp hless)
          · rw [q]; exact Nat.not_lt.mp hless
    case ipost =>
      rintro c st'' ⟨rfl, l, r, rfl, hlk, hlo, hhi⟩
      show wpS _ _ _ _ (do moveDown' k l; pure (ForInStep.yield (none, ()))) _ _
      rw [moveDown'_eq]
      refine wpS_bind (wpS_modify (wpS_pure ⟨rfl, hB'.setArr (bubble_perm _ _ _), ?_, ?_⟩))
      · rw [show min (k + 1) a₀.size = k + 1 by omega]
        have hks : k < (arrOf st'').size := by rw [hB'.size]; exact hkn
        exact stab_bubble hks hlk hlo hhi hs' fun i hi => ht' i k hi (Nat.le_refl _) hkn
      · rw [show min (k + 1) a₀.size = k + 1 by omega]
        exact tail_bubble hB'.size.symm hkn hlk ht'

theorem wpS_asc {st : SortSt} {a nrem : Nat} {Q : AscSt → SortSt → Prop} (hO : (natKind f).OneLt) (h0 : KeysOf (natKind f) a₀) (hn : nrem ≤ a₀.size) (ha : 1 ≤ a) (han : a ≤ nrem) (hB : SBase a₀ st)
    (hs : Stab (kn f) gp (arrOf st) a) (ht : Tail gp a₀.size (arrOf st) a)
    (h : ∀ n, a ≤ n → n ≤ nrem → Stab (kn f) gp (arrOf st) n → (n = nrem ∨ V (kn f) (arrOf st) n < V (kn f) (arrOf st) (n - 1)) → Q (none, n) st) :
    wpS (model prog w) A E s (ascLoop a nrem) Q st := by
  unfold ascLoop
  refine wpS_forRange (I := fun x c st' => st' = st ∧ c = (none, x) ∧ Stab (kn f) gp (arrOf st) x) ?step ?fin ⟨rfl, rfl, hs⟩
  case fin =>
    rintro c st' ⟨rfl, rfl, hs'⟩
    rw [show max a nrem = nrem by omega] at hs' ⊢
    exact h nrem han (Nat.le_refl _) hs' (.inl rfl)
  case step =>
    rintro x c st' hax hxn ⟨rfl, rfl, hs'⟩
    dsimp only
    refine wpS_bind (wpS_lt hO hB h0 (by omega) (by omega) (fun hless => ?_) fun hless => ?_)
    · simp only [if_true]
      exact wpS_pure (h x hax (by omega) hs' (.inr hless))
    · simp only [Bool.false_eq_true, if_false]
      refine wpS_pure ⟨rfl, rfl, fun i j hij hj => ?_⟩
      by_cases hjx : j < x
      · exact hs' i j hij hjx
      · have hj' : j = x := by omega
        subst hj'
        have b1 := ht i j hij hax (by omega)
        by_cases hi' : i = j - 1
        · subst hi'; omega
        · have b2 := hs' i (j - 1) (by omega) (by omega)
          omega

theorem wpS_tail3' {st : SortSt} {n nrem : Nat} {Q : Option Nat → SortSt → Prop} (hO : (natKind f).OneLt) (h0 : KeysOf (natKind f) a₀) (hn : nrem ≤ a₀.size) (h1 : 1 ≤ n) (hnn : n ≤ nrem) (hB : SBase a₀ st)
    (hs : DescAll (kn f) gp (arrOf st) n) (ht : Tail gp a₀.size (arrOf st) n) (h : ∀ m st', SBase a₀ st' → 1 ≤ m → m ≤ nrem → Stab (kn f) gp (arrOf st') m → Tail gp a₀.size (arrOf st') m → Q (some m) st') :
    wpS (model prog w) A E s (tail3 n nrem) Q st := by
  unfold tail3
  have hsz : n ≤ (arrOf st).size := by rw [hB.size]; omega
  refine wpS_bind (wpS_reverse ?_)
  have hB' : SBase a₀ (setArr st (mirror (arrOf st) 0 n ((n - 0) / 2))) := hB.setArr (mirror_perm _ _ _ _)
  have ht' : Tail gp a₀.size (mirror (arrOf st) 0 n ((n - 0) / 2)) n := tail_mirror hB.size.symm (by omega) ht
  refine wpS_bind (wpS_asc hO h0 hn h1 hnn hB' ?_ ht' fun m hm1 hm2 hsm _ => wpS_pure (h m _ hB' (by omega) hm2 hsm (ht'.up hm1)))
  intro i j hij hj
  show V (kn f) (mirror (arrOf st) 0 n ((n - 0) / 2)) i < V (kn f) (mirror (arrOf st) 0 n ((n - 0) / 2)) j ∨ (V (kn f) (mirror (arrOf st) 0 n ((n - 0) / 2)) i = V (kn f) (mirror (arrOf st) 0 n ((n - 0) / 2)) j ∧ V gp (mirror (arrOf st) 0 n ((n - 0) / 2)) i < V gp (mirror (arrOf st) 0 n ((n - 0) / 2)) j)
  rw [V_mirror hsz, V_mirror hsz, V_mirror hsz, V_mirror hsz, if_pos (by omega), if_pos (by omega), if_pos (by omega), if_pos (by omega)]
  have := hs (0 + n - 1 - j) (0 + n - 1 - i) (by omega) (by omega)
  omega

theorem desc_all {xs : Array Keyed} {n q : Nat} (hn : n ≤ xs.size) (_hq : q < n) (hd : Desc (kn f) gp xs n q) : DescAll (kn f) gp (mirror xs q n ((n - q) / 2)) n := by
  obtain ⟨h1, h2⟩ := hd
  have eL : ∀ g i, i < q → V g (mirror xs q n ((n - q) / 2)) i = V g xs i := fun g i h => by rw [V_mirror hn, if_neg (by omega)]
  have eR : ∀ g i, q ≤ i → i < n → V g (mirror xs q n ((n - q) / 2)) i = V g xs (q + n - 1 - i) := fun g i h h' => by rw [V_mirror hn, if_pos ⟨h, h'⟩]
  intro i j hij hj
  rcases Nat.lt_or_ge j q with a | a
  · have a' := Nat.lt_trans hij a
    rw [eL _ i a', eL _ i a', eL _ j a, eL _ j a]
    rcases h1 i j hij hj with u | ⟨u, ⟨v, _⟩ | ⟨_, v⟩⟩
    · exact .inl u
    · exact absurd v (Nat.not_le.mpr a')
    · exact .inr ⟨u, v⟩
  · have b1 : q ≤ q + n - 1 - j := by omega
    have b2 : q + n - 1 - j < n := by omega
    rw [eR _ j a hj, eR _ j a hj]
    rcases Nat.lt_or_ge i q with b | b
    · rw [eL _ i b, eL _ i b]
      rcases h1 i (q + n - 1 - j) (Nat.lt_of_lt_of_le b b1) b2 with u | ⟨_, ⟨v, _⟩ | ⟨v, _⟩⟩
      · exact .inl u
      · exact absurd v (Nat.not_le.mpr b)
      · exact absurd v (Nat.not_lt.mpr b1)
    · have hi := Nat.lt_trans hij hj
      rw [eR _ i b hi, eR _ i b hi]
      have b3 : q ≤ q + n - 1 - i := by omega
      have b4 : q + n - 1 - i < n := by omega
      have b5 : q + n - 1 - j < q + n - 1 - i := by omega
      have c1 := h2 _ b1 b2
      have c2 := h2 _ b3 b4
      rcases h1 _ _ b5 b4 with u | ⟨u, ⟨_, v⟩ | ⟨v, _⟩⟩
      · rw [c1, c2] at u; exact absurd u (Nat.lt_irrefl _)
      · exact .inr ⟨u.symm, v⟩
      · exact absurd v (Nat.not_lt.mpr b3)

theorem desc_one {xs : Array Keyed} {n q : Nat} (hq : q + 1 = n) (hd : Desc (kn f) gp xs n q) : DescAll (kn f) gp xs n := by
  intro i j hij hj
  have := hd.1 i j hij hj
  omega

theorem desc_push {xs : Array Keyed} {n : Nat} (hn : 1 ≤ n) (hd : DescAll (kn f) gp xs n) (hless : V (kn f) xs n < V (kn f) xs (n - 1)) : Desc (kn f) gp xs (n + 1) n := by
  refine ⟨fun i j hij hj => ?_, fun i h1 h2 => by congr 1; omega⟩
  by_cases hjn : j < n
  · have := hd i j hij hjn
    omega
  · have e : j = n := by omega
    subst e
    by_cases hi : i = j - 1
    · subst hi; omega
    · have := hd i (j - 1) (by omega) (by omega)
      omega

theorem wpS_desc {st : SortSt} {n nrem : Nat} {Q : DescSt → SortSt → Prop} (hO : (natKind f).OneLt) (h0 : KeysOf (natKind f) a₀) (hn : nrem ≤ a₀.size) (h1 : 1 ≤ n) (hnn : n ≤ nrem) (hB : SBase a₀ st)
    (hs : Desc (kn f) gp (arrOf st) n (n - 1)) (ht : Tail gp a₀.size (arrOf st) n)
    (h : ∀ m neq st', SBase a₀ st' → n ≤ m → m ≤ nrem → neq + 1 ≤ m → Desc (kn f) gp (arrOf st') m (m - (neq + 1)) → Tail gp a₀.size (arrOf st') m → Q (none, m, neq) st') :
    wpS (model prog w) A E s (descLoop n nrem) Q st := by
  unfold descLoop
  refine wpS_forRange (I := fun x c st' => ∃ neq, c = (none, x, neq) ∧ SBase a₀ st' ∧ neq + 1 ≤ x ∧ Desc (kn f) gp (arrOf st') x (x - (neq + 1)) ∧ Tail gp a₀.size (arrOf st') x) ?step ?fin ⟨0, rfl, hB, by omega, hs, ht⟩
  case fin =>
    rintro c st' ⟨neq, rfl, hB', hq, hd, ht'⟩
    rw [show max n nrem = nrem by omega] at hq hd ht' ⊢
    exact h nrem neq st' hB' hnn (Nat.le_refl _) hq hd ht'
  case step =>
    rintro x c st' hax hxn ⟨neq, rfl, hB', hq, hd, ht'⟩
    dsimp only
    have hsz : x ≤ (arrOf st').size := by rw [hB'.size]; omega
    refine wpS_bind (wpS_lt hO hB' h0 (by omega) (by omega) (fun hless => ?_) fun hless => ?_)
    · simp only [if_true]
      by_cases hneq : neq > 0
      · rw [if_pos hneq]
        have e : ∀ g, V g (mirror (arrOf st') (x - (neq + 1)) x ((x - (x - (neq + 1))) / 2)) x = V g (arrOf st') x := fun g => by rw [V_mirror hsz, if_neg (by omega)]
        have e2 : V (kn f) (mirror (arrOf st') (x - (neq + 1)) x ((x - (x - (neq + 1))) / 2)) (x - 1) = V (kn f) (arrOf st') (x - 1) := by
          rw [V_mirror hsz, if_pos (by omega)]
          exact hd.2 _ (by omega) (by omega)
        refine wpS_bind (wpS_reverse (wpS_pure ⟨0, rfl, hB'.setArr (mirror_perm _ _ _ _), by omega, ?_, ?_⟩))
        · exact desc_push (by omega) (desc_all hsz (by omega) hd) (by rw [e, e2]; exact hless)
        · exact (tail_mirror hB'.size.symm (by omega) ht').up (Nat.le_succ _)
      · rw [if_neg hneq]
        have e0 : neq = 0 := by omega
        subst e0
        exact wpS_pure ⟨0, rfl, hB', by omega, desc_push (by omega) (desc_one (by omega) hd) hless, ht'.up (Nat.le_succ _)⟩
    · simp only [Bool.false_eq_true, if_false]
      refine wpS_bind (wpS_lt hO hB' h0 (by omega) (by omega) (fun hlarger => ?_) fun hlarger => ?_)
      · simp only [if_true]
        exact wpS_pure (h x neq st' hB' hax (by omega) hq hd ht')
      · simp only [Bool.false_eq_true, if_false]
        have heqx : V (kn f) (arrOf st') x = V (kn f) (arrOf st') (x - 1) := by omega
        refine wpS_pure ⟨neq + 1, rfl, hB', by omega, ⟨fun i j hij hj => ?_, fun i h1 h2 => ?_⟩, ht'.up (Nat.le_succ _)⟩
        · rw [show x + 1 - (neq + 1 + 1) = x - (neq + 1) by omega]
          by_cases hjx : j < x
          · exact hd.1 i j hij hjx
          · have hj' : j = x := by omega
            subst hj'
            have b1 := ht' i j hij (Nat.le_refl _) (by omega)
            by_cases hi : i = j - 1
            · subst hi; omega
            · have b2 := hd.1 i (j - 1) (by omega) (by omega)
              omega
        · rw [show x + 1 - 1 = x by omega]
          by_cases hix : i = x
          · subst hix; rfl
          · rw [heqx]; exact hd.2 i (by omega) (by omega)

theorem wpS_descPart' {st : SortSt} {n nrem : Nat} {Q : Option Nat → SortSt → Prop} (hO : (natKind f).OneLt) (h0 : KeysOf (natKind f) a₀) (hn : nrem ≤ a₀.size) (hnn : n + 1 ≤ nrem) (hB : SBase a₀ st)
    (hs : Desc (kn f) gp (arrOf st) (n + 1) n) (ht : Tail gp a₀.size (arrOf st) (n + 1)) (h : ∀ m st', SBase a₀ st' → 1 ≤ m → m ≤ nrem → Stab (kn f) gp (arrOf st') m → Tail gp a₀.size (arrOf st') m → Q (some m) st') :
    wpS (model prog w) A E s (descPart n nrem) Q st := by
  unfold descPart
  refine wpS_bind (wpS_lift (wpAny_rule ⟨rfl, ?_⟩))
  refine wpS_bind (wpS_desc hO h0 hn (by omega) hnn hB hs ht fun m neq st' hB' hm1 hm2 hq hd ht' => ?_)
  dsimp only
  have hsz : m ≤ (arrOf st').size := by rw [hB'.size]; omega
  by_cases hneq : neq > 0
  · rw [if_pos hneq]
    exact wpS_bind (wpS_reverse (wpS_tail3' hO h0 hn (by omega) hm2 (hB'.setArr (mirror_perm _ _ _ _)) (desc_all hsz (by omega) hd) (tail_mirror hB'.size.symm (by omega) ht') h))
  · rw [if_neg hneq]
    have e0 : neq = 0 := by omega
    subst e0
    exact wpS_tail3' hO h0 hn (by omega) hm2 hB' (desc_one (by omega) hd) ht' h

theorem wpS_count {st : SortSt} {nrem : Nat} {Q : Option Nat → SortSt → Prop} (hO : (natKind f).OneLt) (h0 : KeysOf (natKind f) a₀) (hn : nrem ≤ a₀.size) (h1 : 1 ≤ nrem) (hB : SBase a₀ st) (ht : Tail gp a₀.size (arrOf st) 0)
    (h : ∀ m st', SBase a₀ st' → 1 ≤ m → m ≤ nrem → Stab (kn f) gp (arrOf st') m → Tail gp a₀.size (arrOf st') m → Q (some m) st') :
    wpS (model prog w) A E s (countRun' 0 nrem) Q st := by
  rw [countRun0_eq]
  refine wpS_bind (wpS_asc hO h0 hn (Nat.le_refl 1) h1 hB (fun i j hij hj => by omega) (ht.up (Nat.zero_le _)) fun n hn1 hn2 hsn hor => ?_)
  dsimp only
  by_cases hnn : n = nrem
  · rw [if_pos (by simpa using hnn)]
    exact wpS_pure (h n st hB hn1 hn2 hsn (ht.up (Nat.zero_le _)))
  · rw [if_neg (by simpa using hnn)]
    have hlt : V (kn f) (arrOf st) n < V (kn f) (arrOf st) (n - 1) := hor.resolve_left hnn
    have hsz : n ≤ (arrOf st).size := by rw [hB.size]; omega
    by_cases hgt : n > 1
    · rw [if_pos hgt]
      refine wpS_bind (wpS_lt hO hB h0 (by omega) (by omega) (fun hrose => ?_) fun hrose => ?_)
      · simp only [if_true]
        exact wpS_pure (h n st hB hn1 hn2 hsn (ht.up (Nat.zero_le _)))
      · simp only [Bool.false_eq_true, if_false]
        have hall : ∀ k, k < n → V (kn f) (arrOf st) k = V (kn f) (arrOf st) (n - 1) := by
          intro k hk
          have b1 := hsn 0 k
          have b2 := hsn k (n - 1)
          have b3 := hsn 0 (n - 1)
          by_cases e1 : k = 0
          · subst e1; omega
          · by_cases e2 : k = n - 1
            · rw [e2]
            · omega
        have hd : Desc (kn f) gp (arrOf st) n 0 := ⟨fun i j hij hj => .inr ⟨by rw [hall i (by omega), hall j hj], .inl ⟨Nat.zero_le _, by have := hsn i j hij hj; have e1 := hall i (by omega); have e2 := hall j hj; omega⟩⟩, fun i _ hi => hall i hi⟩
        have hda := desc_all hsz (by omega) hd
        have e : V (kn f) (mirror (arrOf st) 0 n ((n - 0) / 2)) n = V (kn f) (arrOf st) n := by rw [V_mirror hsz, if_neg (by omega)]
        have e2 : V (kn f) (mirror (arrOf st) 0 n ((n - 0) / 2)) (n - 1) = V (kn f) (arrOf st) (n - 1) := by
          rw [V_mirror hsz, if_pos (by omega)]
          exact hall _ (by omega)
        refine wpS_bind (wpS_reverse (wpS_descPart' hO h0 hn (by omega) (hB.setArr (mirror_perm _ _ _ _)) (desc_push (by omega) hda (by rw [e, e2]; exact hlt)) ((tail_mirror hB.size.symm (by omega) (ht.up (Nat.zero_le _))).up (Nat.le_succ _)) h))
    · rw [if_neg hgt]
      have hn1' : n = 1 := by omega
      subst hn1'
      exact wpS_descPart' hO h0 hn (by omega) hB (desc_push (Nat.le_refl _) (fun i j hij hj => by omega) hlt) (ht.up (Nat.zero_le _)) h

/-- the whole: fewer than 64 items -/
theorem wpS_stable {st : SortSt} {Q : Unit → SortSt → Prop} (hO : (natKind f).OneLt) (h0 : KeysOf (natKind f) a₀) (hB : SBase a₀ st) (ht : Tail gp a₀.size (arrOf st) 0) (h2 : 2 ≤ a₀.size) (h64 : a₀.size < 64)
    (h : ∀ st', (arrOf st').Perm a₀ → failedOf st' = none → Stab (kn f) gp (arrOf st') a₀.size → Q () st') : wpS (model prog w) A E s sortRuns' Q st := by
  rw [sortRuns'_eq]
  refine wpS_bind (wpS_get ?_)
  dsimp only
  have hmr : minRun' a₀.size a₀.size 0 = a₀.size := by
    obtain ⟨k, hk⟩ : ∃ k, a₀.size = k + 1 := ⟨a₀.size - 1, by omega⟩
    have : minRun' (k + 1) a₀.size 0 = a₀.size := by rw [minRun'_succ, if_pos h64]; rfl
    rwa [← hk] at this
  simp only [hB.size, hmr]
  have fin : ∀ st' : SortSt, SBase a₀ st' → Stab (kn f) gp (arrOf st') a₀.size → (arrOf (setPending st' ((pendingOf st').push (0, a₀.size, 0)))).Perm a₀ ∧ failedOf (setPending st' ((pendingOf st').push (0, a₀.size, 0))) = none ∧
      pendingOf (setPending st' ((pendingOf st').push (0, a₀.size, 0))) = #[(0, a₀.size, 0)] ∧ Stab (kn f) gp (arrOf (setPending st' ((pendingOf st').push (0, a₀.size, 0)))) a₀.size := fun st' hB' hs' =>
    ⟨hB'.perm, hB'.failed, by show (pendingOf st').push _ = _; rw [hB'.pend]; rfl, hs'⟩
  refine wpS_bind (wpS_mono (wpS_forRange
    (I := fun x c st' => (x = 0 ∧ c = (none, 0) ∧ SBase a₀ st' ∧ Tail gp a₀.size (arrOf st') 0) ∨ (1 ≤ x ∧ c = (none, a₀.size) ∧ (arrOf st').Perm a₀ ∧ failedOf st' = none ∧ pendingOf st' = #[(0, a₀.size, 0)] ∧ Stab (kn f) gp (arrOf st') a₀.size))
    (Q := fun c st' => c = (none, a₀.size) ∧ (arrOf st').Perm a₀ ∧ failedOf st' = none ∧ pendingOf st' = #[(0, a₀.size, 0)] ∧ Stab (kn f) gp (arrOf st') a₀.size) ?step ?fin (.inl ⟨rfl, rfl, hB, ht⟩)) ?post)
  case fin =>
    rintro c st' (⟨hx, _, _⟩ | ⟨_, hc, hD⟩)
    · omega
    · exact ⟨hc, hD⟩
  case step =>
    rintro x c st' _ hx (⟨rfl, rfl, hB', ht'⟩ | ⟨hx1, rfl, hD⟩)
    · dsimp only
      rw [if_neg (by omega)]
      simp only [Nat.sub_zero, Nat.min_self, Nat.zero_add]
      refine wpS_bind (wpS_count hO h0 (Nat.le_refl _) (by omega) hB' ht' fun m st2 hB2 hm1 hm2 hs2 ht2 => ?_)
      dsimp only
      by_cases hlt : m < a₀.size
      · rw [if_pos hlt]
        refine wpS_bind (wpS_lift (wpAny_rule ⟨rfl, ?_⟩))
        refine wpS_bind (wpS_insert hO h0 hm2 hB2 hs2 ht2 fun st3 hB3 hs3 => ?_)
        simp only [Bool.not_true, Bool.false_eq_true, if_false]
        refine wpS_bind (wpS_get ?_)
        have hb : (pendingOf st3).back? = none := by rw [hB3.pend]; rfl
        rw [hb]
        dsimp only
        exact wpS_bind (wpS_modify (wpS_pure (.inr ⟨by omega, rfl, fin _ hB3 hs3⟩)))
      · rw [if_neg hlt]
        have hm : m = a₀.size := by omega
        subst hm
        refine wpS_bind (wpS_get ?_)
        have hb : (pendingOf st2).back? = none := by rw [hB2.pend]; rfl
        rw [hb]
        dsimp only
        exact wpS_bind (wpS_modify (wpS_pure (.inr ⟨by omega, rfl, fin _ hB2 hs2⟩)))
    · dsimp only
      rw [if_pos (Nat.le_refl _)]
      exact wpS_pure ⟨rfl, hD⟩
  case post =>
    rintro c st' ⟨rfl, hD⟩
    dsimp only
    refine wpS_bind (wpS_mono (wpS_forRange (I := fun _ c st'' => st'' = st' ∧ c = (none, ())) (Q := fun c st'' => st'' = st' ∧ c = (none, ())) ?_ (fun _ _ hh => hh) ⟨rfl, rfl⟩) ?_)
    · rintro x c st'' _ _ ⟨rfl, rfl⟩
      refine wpS_bind (wpS_get ?_)
      rw [if_pos (by rw [hD.2.2.1]; exact Nat.le_refl 1)]
      exact wpS_pure ⟨rfl, rfl⟩
    · rintro c st'' ⟨rfl, rfl⟩
      exact wpS_pure (h _ hD.1 hD.2.1 hD.2.2.2)
end
end
section
/-! sorted with a key over rows: a permutation, in order, equal keys as they stood -/
theorem perm_map_inv {α β : Type} {F : α → β} : ∀ {l₁ l₂ : List β}, l₁.Perm l₂ → ∀ xs : List α, l₁ = xs.map F → ∃ ys, xs.Perm ys ∧ l₂ = ys.map F := by
  intro l₁ l₂ h
  induction h with
  | nil =>
    intro xs e
    exact ⟨[], by rw [List.map_eq_nil_iff.mp e.symm], rfl⟩
  | cons x _ ih =>
    intro xs e
    cases xs with
    | nil => cases e
    | cons r xs =>
      injection e with e1 e2
      obtain ⟨ys, p, e3⟩ := ih xs e2
      exact ⟨r :: ys, p.cons r, by rw [e1, e3]; rfl⟩
  | swap x y l =>
    intro xs e
    cases xs with
    | nil => cases e
    | cons r1 xs =>
      cases xs with
      | nil => cases e
      | cons r2 xs =>
        injection e with e1 e2
        injection e2 with e2 e3
        exact ⟨r2 :: r1 :: xs, List.Perm.swap r2 r1 xs, by rw [e1, e2, e3]; rfl⟩
  | trans _ _ ih1 ih2 =>
    intro xs e
    obtain ⟨ys, p, e1⟩ := ih1 xs e
    obtain ⟨zs, q, e2⟩ := ih2 ys e1
    exact ⟨zs, p.trans q, e2⟩

/-- what a sort by g leaves of rows that stood in the order T -/
def SortedBy (g : RowD → Nat) (b : Bool) (T : RowD → RowD → Prop) (u v : RowD) : Prop := (if b then g v < g u else g u < g v) ∨ (g u = g v ∧ T u v)

section
variable {xs : List RowD} {kv : RowD → Value} {g : RowD → Nat} {f : Value → Option Nat} {b : Bool} {T : RowD → RowD → Prop}
abbrev pairR (kv : RowD → Value) (r : RowD) : Keyed := (kv r, rv r)
/-- a row's place in the array that is sorted -/
def posOf (xs : List RowD) (b : Bool) (p : Keyed) : Nat := if b then xs.length - 1 - (rvs xs).idxOf p.2 else (rvs xs).idxOf p.2

theorem idx_nodup : ∀ {l : List Value}, l.Nodup → ∀ i (hi : i < l.length), l.idxOf l[i] = i
  | [], _, i, hi => by simp at hi
  | a :: l, hn, 0, _ => by simp
  | a :: l, hn, i + 1, hi => by
    rw [List.nodup_cons] at hn
    have h1 : i < l.length := by simpa using hi
    have hne : ¬ a = l[i] := fun e => hn.1 (e ▸ List.getElem_mem h1)
    rw [List.idxOf_cons, List.getElem_cons_succ]
    rw [show (a == l[i]) = false from beq_eq_false_iff_ne.mpr hne]
    show l.idxOf l[i] + 1 = i + 1
    rw [idx_nodup hn.2 i h1]
theorem idx_at (hnd : (rvs xs).Nodup) {i : Nat} (hi : i < xs.length) : (rvs xs).idxOf (rv (xs[i]'hi)) = i := by
  have h1 : i < (rvs xs).length := by simpa using hi
  have e : rv (xs[i]'hi) = (rvs xs)[i]'h1 := by simp
  rw [e]
  exact idx_nodup hnd i h1

def startArr (xs : List RowD) (kv : RowD → Value) (b : Bool) : Array Keyed := if b then (xs.map (pairR kv)).toArray.reverse else (xs.map (pairR kv)).toArray
theorem start_size : (startArr xs kv b).size = xs.length := by unfold startArr; cases b <;> simp
theorem start_pos (hnd : (rvs xs).Nodup) {i : Nat} (hi : i < xs.length) : V (posOf xs b) (startArr xs kv b) i = i := by
  unfold V startArr
  cases b with
  | false =>
    simp only [Bool.false_eq_true, if_false, List.getElem?_toArray, List.getElem?_map, List.getElem?_eq_getElem hi, Option.map_some]
    show (rvs xs).idxOf (rv xs[i]) = i
    exact idx_at hnd hi
  | true =>
    have hj : xs.length - 1 - i < xs.length := by omega
    have e : ((xs.map (pairR kv)).toArray.reverse)[i]? = some (pairR kv (xs[xs.length - 1 - i]'hj)) := by
      rw [Array.getElem?_reverse (by simpa using hi)]
      simp [hj]
    simp only [if_true, e]
    show xs.length - 1 - (rvs xs).idxOf (rv (xs[xs.length - 1 - i]'hj)) = i
    rw [idx_at hnd hj]
    omega
theorem start_tail (hnd : (rvs xs).Nodup) : Tail (posOf xs b) xs.length (startArr xs kv b) 0 := by
  intro i j hij _ hj
  rw [start_pos hnd (by omega), start_pos hnd hj]
  exact hij

theorem sorted_rows_out (hnd : (rvs xs).Nodup) (hf : ∀ r ∈ xs, f (kv r) = some (g r)) (hT : xs.Pairwise T) {arr : Array Keyed} (hp : arr.Perm (xs.map (pairR kv)).toArray) (hs : Stab (kn f) (posOf xs b) arr xs.length) :
    ∃ ys, ys.Perm xs ∧ ys.Pairwise (SortedBy g b T) ∧ (if b then (arr.map (·.2)).reverse else arr.map (·.2)) = (rvs ys).toArray := by
  obtain ⟨ys, p, e⟩ := perm_map_inv (F := pairR kv) (Array.perm_iff_toList_perm.mp hp).symm xs (by simp)
  have hlen : ys.length = xs.length := p.length_eq.symm
  have hat : ∀ i (hi : i < ys.length), arr[i]? = some (pairR kv ys[i]) := fun i hi => by
    rw [← Array.getElem?_toList, e]
    simp [hi]
  have hk : ∀ i (hi : i < ys.length), V (kn f) arr i = g ys[i] := fun i hi => by
    unfold V
    rw [hat i hi]
    show (f (kv ys[i])).getD 0 = g ys[i]
    rw [hf _ (p.mem_iff.mpr (List.getElem_mem hi))]
    rfl
  have hpos : ∀ i (hi : i < ys.length), V (posOf xs b) arr i = posOf xs b (pairR kv ys[i]) := fun i hi => by
    unfold V
    rw [hat i hi]
  have ho : ∀ u ∈ xs, ∀ v ∈ xs, (rvs xs).idxOf (rv u) < (rvs xs).idxOf (rv v) → T u v := by
    intro u hu v hv hlt
    obtain ⟨i, hi, rfl⟩ := List.mem_iff_getElem.mp hu
    obtain ⟨j, hj, rfl⟩ := List.mem_iff_getElem.mp hv
    rw [idx_at hnd hi, idx_at hnd hj] at hlt
    exact List.pairwise_iff_getElem.mp hT i j hi hj hlt
  have hb : ∀ u ∈ xs, (rvs xs).idxOf (rv u) < xs.length := by
    intro u hu
    obtain ⟨i, hi, rfl⟩ := List.mem_iff_getElem.mp hu
    rw [idx_at hnd hi]
    exact hi
  have hsnd : arr.map (·.2) = (rvs ys).toArray := by
    apply Array.toList_inj.mp
    rw [Array.toList_map, e]
    simp
  have hmem : ∀ i (hi : i < ys.length), ys[i] ∈ xs := fun i hi => p.mem_iff.mpr (List.getElem_mem hi)
  cases b with
  | false =>
    refine ⟨ys, p.symm, ?_, by simpa using hsnd⟩
    rw [List.pairwise_iff_getElem]
    intro i j hi hj hij
    have q := hs i j hij (by omega)
    rw [hk i hi, hk j hj, hpos i hi, hpos j hj] at q
    simp only [posOf, Bool.false_eq_true, if_false] at q
    rcases q with q | ⟨q1, q2⟩
    · exact .inl (by simpa using q)
    · exact .inr ⟨q1, ho _ (hmem i hi) _ (hmem j hj) q2⟩
  | true =>
    refine ⟨ys.reverse, (List.reverse_perm _).trans p.symm, ?_, ?_⟩
    · rw [List.pairwise_reverse, List.pairwise_iff_getElem]
      intro i j hi hj hij
      have q := hs i j hij (by omega)
      rw [hk i hi, hk j hj, hpos i hi, hpos j hj] at q
      simp only [posOf, if_true] at q
      have b1 := hb _ (hmem i hi)
      have b2 := hb _ (hmem j hj)
      rcases q with q | ⟨q1, q2⟩
      · exact .inl (by simpa using q)
      · exact .inr ⟨q1.symm, ho _ (hmem j hj) _ (hmem i hi) (by omega)⟩
    · simp only [if_true, hsnd]
      apply Array.toList_inj.mp
      simp
end

theorem keep_but {s₀ h h' : Heap} {a : Addr} (k : s₀.StaysIn h) (h0 : s₀.get? a = none) (hs : Heap.SameBut a h h') : s₀.StaysIn h' :=
  fun b o e => (hs.2 b (fun q => by rw [q, h0] at e; cases e)).trans (k b o e)
theorem keep_push {s₀ h : Heap} (k : s₀.StaysIn h) (o : Obj) : s₀.StaysIn (h.push o) := fun b o' e => Heap.get?_push_of_some _ (k b o' e)
theorem none_above {s₀ h : Heap} (k : s₀.objs.size ≤ h.objs.size) : s₀.get? h.objs.size = none := by
  cases q : s₀.get? h.objs.size with
  | none => rfl
  | some o => exact absurd (Heap.lt_size q) (Nat.not_lt.mpr k)

section
variable {prog : Program} {w : World} {A : Around} {E : Value → Shared → Prop} {s : Shared} {s₀ : Heap} {a kS : Addr} {b : Bool} {e e1 : Nat} {P : PySem.Fin → Shared → Prop}
  {xs : List RowD} {kv : RowD → Value} {g : RowD → Nat} {f : Value → Option Nat} {T : RowD → RowD → Prop}

theorem srt_tail {st : SortSt} {keys : Array Value} {ys : List RowD} (k : s₀.StaysIn s.heap) (ha : s.heap.get? a = some (seqObj "list" #[] e1)) (hk : s.heap.get? kS = some (seqObj "list" keys e)) (ha0 : s₀.get? a = none) (hk0 : s₀.get? kS = none) (hka : kS ≠ a)
    (hks : keys.size ≤ 64) (hys : ys.length ≤ 64) (hout : (if b then ((arrOf st).map (·.2)).reverse else (arrOf st).map (·.2)) = (rvs ys).toArray) (hfl : failedOf st = none)
    (h : ∀ h' c, s₀.StaysIn h' → h'.get? a = some (seqObj "list" (rvs ys).toArray c) → P (.done (.ret .none)) { s with heap := h' }) :
    wpAny (model prog w) A (ksk_tail a b e1 (.ref kS) st) P E s := by
  have s1 := Heap.SameBut.update s.heap kS (Obj.mapSeq fun _ => (#[] : Array Value))
  have na1 : (s.heap.update kS (Obj.mapSeq fun _ => (#[] : Array Value))).get? a = some (seqObj "list" #[] e1) := (s1.2 a hka.symm).trans ha
  have s2 := Heap.SameBut.update (s.heap.update kS (Obj.mapSeq fun _ => (#[] : Array Value))) a (Obj.mapSeq fun _ => (rvs ys).toArray)
  have hc2 := get?_update_seq na1 fun _ => (rvs ys).toArray
  unfold ksk_tail
  try dsimp only
  refine wpAny_bind (listUpdate_at hk rfl ?_ (by rw [sizeLine_eq]; omega) (Nat.zero_le _))
  refine wpAny_bind (wpAny_letGo ?_)
  refine wpAny_bind (seqEpoch_at na1 rfl ?_)
  refine wpAny_bind (listUpdate_at na1 rfl ?_ (Nat.zero_le _) (by rw [hout, sizeLine_eq]; simp only [List.size_toArray, List.length_map]; omega))
  rw [hfl, hout]
  simp only [bne_self_eq_false, Bool.false_eq_true, if_false]
  exact wpAny_pure (h _ _ (keep_but (keep_but k hk0 s1) ha0 s2) hc2)

theorem srt_end (k : s₀.StaysIn s.heap) (ha : s.heap.get? a = some (seqObj "list" #[] e1)) (hk : s.heap.get? kS = some (seqObj "list" (xs.map kv).toArray e)) (ha0 : s₀.get? a = none) (hk0 : s₀.get? kS = none) (hka : kS ≠ a)
    (h64 : xs.length < 64) (hO : (natKind f).OneLt) (hf : ∀ r ∈ xs, f (kv r) = some (g r)) (hkind : 2 ≤ xs.length → keyKind' (xs.map kv).toArray = pure oneType') (hnd : (rvs xs).Nodup) (hT : xs.Pairwise T)
    (h : ∀ h' c ys, ys.Perm xs → ys.Pairwise (SortedBy g b T) → s₀.StaysIn h' → h'.get? a = some (seqObj "list" (rvs ys).toArray c) → P (.done (.ret .none)) { s with heap := h' }) :
    wpAny (model prog w) A (ksk_end a b (rvs xs).toArray e1 (.ref kS) (xs.map kv).toArray) P E s := by
  have hz : (xs.map kv).toArray.zip (rvs xs).toArray = (xs.map (pairR kv)).toArray := by
    apply Array.toList_inj.mp
    simp only [Array.toList_zip]
    rw [List.zip_map']
  have step : ∀ t : Sem PySem.Fin, wpAny (model prog w) A t P E s → wpAny (model prog w) A (if b = true then (do let _ ← rule "list.sort.reverse"; t) else t) P E s := by
    intro t ht
    split
    · exact wpAny_bind (wpAny_rule ht)
    · exact ht
  have hstart : (if b = true then ((xs.map kv).toArray.zip (rvs xs).toArray).reverse else (xs.map kv).toArray.zip (rvs xs).toArray) = startArr xs kv b := by
    rw [hz]; rfl
  have hperm : (startArr xs kv b).Perm (xs.map (pairR kv)).toArray := by
    unfold startArr
    cases b with
    | false => exact Array.Perm.refl _
    | true => exact Array.perm_iff_toList_perm.mpr (by rw [if_pos rfl, Array.toList_reverse]; exact List.reverse_perm _)
  have hsz : (xs.map (pairR kv)).toArray.size = xs.length := by simp
  unfold ksk_end
  try dsimp only
  refine step _ ?_
  rw [hstart]
  have vsz : (rvs xs).toArray.size = xs.length := by simp
  rw [vsz]
  have fin : ∀ st' : SortSt, (arrOf st').Perm (xs.map (pairR kv)).toArray → failedOf st' = none → Stab (kn f) (posOf xs b) (arrOf st') xs.length → wpAny (model prog w) A (ksk_tail a b e1 (.ref kS) st') P E s := by
    intro st' hp hfl hs
    obtain ⟨ys, p1, p2, p3⟩ := sorted_rows_out hnd hf hT hp hs
    exact srt_tail k ha hk ha0 hk0 hka (by simp only [List.size_toArray, List.length_map]; omega) (by have := p1.length_eq; omega) p3 hfl fun h' c k' q => h h' c ys p1 p2 k' q
  by_cases h2 : xs.length < 2
  · rw [if_pos h2, if_pos h2]
    refine wpAny_bind (wpAny_pure ?_)
    rw [StateT.run_pure]
    refine wpAny_bind (wpAny_pure ?_)
    exact fin _ hperm rfl fun i j hij hj => by omega
  · rw [if_neg h2, if_neg h2]
    rw [hkind (by omega)]
    refine wpAny_bind (wpAny_pure ?_)
    refine wpAny_bind (wpAny_mono (wpS_stable (a₀ := (xs.map (pairR kv)).toArray) (f := f) (gp := posOf xs b) (st := SortSt.mk' oneType' (startArr xs kv b) #[] 7 none)
      (Q := fun _ st' => (arrOf st').Perm (xs.map (pairR kv)).toArray ∧ failedOf st' = none ∧ Stab (kn f) (posOf xs b) (arrOf st') (xs.map (pairR kv)).toArray.size)
      hO ?_ ⟨hperm, rfl, rfl, rfl⟩ (by rw [hsz]; exact start_tail hnd) (by rw [hsz]; omega) (by rw [hsz]; exact h64) fun st' a1 a2 a3 => ⟨a1, a2, a3⟩) ?_ fun _ _ e => e)
    · intro p hp
      obtain ⟨r, hr, rfl⟩ := List.mem_map.mp (by simpa using hp)
      exact ⟨g r, hf r hr⟩
    · rintro ⟨⟨⟩, st'⟩ s' ⟨rfl, hp, hfl, hs⟩
      try dsimp only
      rw [hsz] at hs
      exact fin st' hp hfl hs

theorem srt_rest {fv : Value} (k : s₀.StaysIn s.heap) (ha : s.heap.get? a = some (seqObj "list" #[] e1)) (hk : s.heap.get? kS = some (seqObj "list" #[] 0)) (ha0 : s₀.get? a = none) (hk0 : s₀.get? kS = none) (hka : kS ≠ a)
    (h64 : xs.length < 64) (hO : (natKind f).OneLt) (hf : ∀ r ∈ xs, f (kv r) = some (g r)) (hkind : 2 ≤ xs.length → keyKind' (xs.map kv).toArray = pure oneType') (hnd : (rvs xs).Nodup) (hT : xs.Pairwise T)
    (turn : ∀ r ∈ xs, ∀ (h : Heap) (tk : Nat), s₀.StaysIn h →
      wpAny (model prog w) A (call fv [rv r]) (fun v s' => ∃ h' tk', s' = { s with heap := h', toks := tk' } ∧ v = kv r ∧ h.StaysIn h') (fun _ _ => False) { s with heap := h, toks := tk })
    (h : ∀ h' tk c ys, ys.Perm xs → ys.Pairwise (SortedBy g b T) → s₀.StaysIn h' → h'.get? a = some (seqObj "list" (rvs ys).toArray c) → P (.done (.ret .none)) { s with heap := h', toks := tk }) :
    wpAny (model prog w) A (ksk_rest a fv b (rvs xs).toArray e1 (.ref kS)) P E s := by
  unfold ksk_rest
  refine wpAny_bind (wpAny_rule ?_)
  rw [List.forIn_toArray]
  refine wpAny_bind (ksk_fold (fun i s' => ∃ h' tk e, s' = { s with heap := h', toks := tk } ∧ s₀.StaysIn h' ∧ h'.get? a = some (seqObj "list" #[] e1) ∧ h'.get? kS = some (seqObj "list" ((xs.take i).map kv).toArray e)) (rvs xs) 0 s
    ⟨s.heap, s.toks, 0, rfl, k, ha, hk⟩ ?step ?done)
  case step =>
    rintro j x s' hx ⟨h', tk, e, rfl, k', ha', hk'⟩
    simp only [Nat.zero_add] at hk' ⊢
    have hj : j < xs.length := by simpa using (List.getElem?_eq_some_iff.mp hx).1
    have ex : x = rv xs[j] := by
      have : (rvs xs)[j]? = some (rv xs[j]) := by simp [hj]
      rw [this] at hx
      exact (Option.some.inj hx).symm
    subst ex
    refine wpAny_bind (wpAny_attempt (wpAny_mono (turn _ (List.getElem_mem hj) h' tk k') (fun v s'' he => ?_) fun _ _ hF => hF.elim))
    obtain ⟨g', tk2, rfl, rfl, k2⟩ := he
    try dsimp only
    have nk := k2 _ _ hk'
    have na := k2 _ _ ha'
    have s1 := Heap.SameBut.update g' kS (Obj.mapSeq (·.push (kv xs[j])))
    have hc2 := get?_update_seq nk (·.push (kv xs[j]))
    have ea : ((xs.take j).map kv).toArray.push (kv xs[j]) = ((xs.take (j + 1)).map kv).toArray := by
      have e4 : xs.take (j + 1) = xs.take j ++ [xs[j]] := by rw [List.take_add_one, List.getElem?_eq_getElem hj]; rfl
      rw [e4, List.map_append]
      simp only [List.map_cons, List.map_nil, List.push_toArray]
    rw [ea] at hc2
    refine wpAny_bind (listUpdate_at nk rfl ?_ (by simp only [List.size_toArray, List.length_map, List.length_take]; rw [sizeLine_eq]; omega) (by rw [ea]; simp only [List.size_toArray, List.length_map, List.length_take]; rw [sizeLine_eq]; omega))
    exact wpAny_pure ⟨rfl, _, _, _, rfl, keep_but (fun b o q => k2 b o (k' b o q)) hk0 s1, (s1.2 a hka.symm).trans na, hc2⟩
  case done =>
    rintro s' ⟨h', tk, e, rfl, k', ha', hk'⟩
    have e3 : xs.take (0 + (rvs xs).length) = xs := List.take_of_length_le (by simp)
    rw [e3] at hk'
    try dsimp only
    refine wpAny_bind (listItems_at hk' rfl ?_)
    exact srt_end k' ha' hk' ha0 hk0 hka h64 hO hf hkind hnd hT fun h3 c ys p1 p2 k3 q3 => h h3 tk c ys p1 p2 k3 q3

theorem srt_sort {fv : Value} {n : Nat} (k : s₀.StaysIn s.heap) (ho : s.heap.get? a = some (seqObj "list" (rvs xs).toArray n)) (ha0 : s₀.get? a = none) (hsz : s₀.objs.size ≤ s.heap.objs.size)
    (h64 : xs.length < 64) (hO : (natKind f).OneLt) (hf : ∀ r ∈ xs, f (kv r) = some (g r)) (hkind : 2 ≤ xs.length → keyKind' (xs.map kv).toArray = pure oneType') (hnd : (rvs xs).Nodup) (hT : xs.Pairwise T)
    (turn : ∀ r ∈ xs, ∀ (h : Heap) (tk : Nat), s₀.StaysIn h →
      wpAny (model prog w) A (call fv [rv r]) (fun v s' => ∃ h' tk', s' = { s with heap := h', toks := tk' } ∧ v = kv r ∧ h.StaysIn h') (fun _ _ => False) { s with heap := h, toks := tk })
    (h : ∀ h' tk c ys, ys.Perm xs → ys.Pairwise (SortedBy g b T) → s₀.StaysIn h' → h'.get? a = some (seqObj "list" (rvs ys).toArray c) → P (.done (.ret .none)) { s with heap := h', toks := tk }) :
    wpAny (model prog w) A (ksk_tree a fv b) P E s := by
  have ha : a < s.heap.objs.size := Heap.lt_size ho
  have s1 := Heap.SameBut.update s.heap a (Obj.mapSeq fun _ => (#[] : Array Value))
  have ho1 := get?_update_seq ho fun _ => (#[] : Array Value)
  have hkS : ((s.heap.update a (Obj.mapSeq fun _ => (#[] : Array Value))).push (seqObj "tuple" (rvs xs).toArray 0)).objs.size = s.heap.objs.size + 1 := by rw [size_push', Heap.size_update]
  have hb1 : s₀.objs.size ≤ ((s.heap.update a (Obj.mapSeq fun _ => (#[] : Array Value))).push (seqObj "tuple" (rvs xs).toArray 0)).objs.size := by rw [hkS]; exact Nat.le_succ_of_le hsz
  have hb2 : ((s.heap.update a (Obj.mapSeq fun _ => (#[] : Array Value))).push (seqObj "tuple" (rvs xs).toArray 0)).objs.size ≠ a := by rw [hkS]; exact Nat.ne_of_gt (Nat.lt_succ_of_lt ha)
  unfold ksk_tree
  refine wpAny_bind (listItems_at ho rfl ?_)
  refine wpAny_bind (listUpdate_at ho rfl ?_ (by simp only [List.size_toArray, List.length_map]; rw [sizeLine_eq]; omega) (Nat.zero_le _))
  refine wpAny_bind (seqEpoch_at ho1 rfl ?_)
  refine wpAny_bind (wpAny_newTuple ?_ (by show (rvs xs).length ≤ _; simp only [List.length_map]; rw [sizeLine_eq]; omega))
  refine wpAny_bind (wpAny_newList ?_ (Nat.zero_le _))
  refine wpAny_holding ?_
  refine srt_rest (s := { s with heap := ((s.heap.update a (Obj.mapSeq fun _ => (#[] : Array Value))).push (seqObj "tuple" (rvs xs).toArray 0)).push (seqObj "list" #[] 0) }) (kS := ((s.heap.update a (Obj.mapSeq fun _ => (#[] : Array Value))).push (seqObj "tuple" (rvs xs).toArray 0)).objs.size)
    (keep_push (keep_push (keep_but k ha0 s1) _) _) (Heap.get?_push_of_some _ (Heap.get?_push_of_some _ ho1)) (Heap.get?_push_size _ rfl) ha0 (none_above hb1) hb2 h64 hO hf hkind hnd hT turn h

theorem sorted_rows {fv : Value} {kw : List (Str × Value)} {l : Addr} {Q : Value → Shared → Prop} (hl : s.heap.IsList l (rvs xs).toArray)
    (h64 : xs.length < 64) (hO : (natKind f).OneLt) (hf : ∀ r ∈ xs, f (kv r) = some (g r)) (hkind : 2 ≤ xs.length → keyKind' (xs.map kv).toArray = pure oneType') (hnd : (rvs xs).Nodup) (hT : xs.Pairwise T)
    (ha1 : argsOk "sorted" ⟨[.ref l], kw⟩) (ha2 : ∀ x, argsOk "list.sort" ⟨[.ref x], kw⟩) (ht : ∀ x, Builtin.«list.sort» ⟨[.ref x], kw⟩ = ksk_tree x fv b)
    (turn : ∀ r ∈ xs, ∀ (h : Heap) (tk : Nat), s.heap.StaysIn h →
      wpAny (model prog w) A.in1.in1 (call fv [rv r]) (fun v s' => ∃ h' tk', s' = { s with heap := h', toks := tk' } ∧ v = kv r ∧ h.StaysIn h') (fun _ _ => False) { s with heap := h, toks := tk })
    (h : ∀ D h' tk c ys, ys.Perm xs → ys.Pairwise (SortedBy g b T) → s.heap.StaysIn h' → s.heap.objs.size ≤ D → s.heap.get? D = none → h'.get? D = some (W.listOf (rvs ys).toArray c) → Q (.ref D) { s with heap := h', toks := tk }) :
    wpAny (model prog w) A (call (.builtin "sorted") [.ref l] kw) Q E s := by
  refine call_function_entry_kw kind_sorted plain_sorted entry_sorted ha1 ?_
  unfold Builtin.«sorted»
  refine wpAny_bind (m := checkCount "sorted" 1 1 _) (wpAny_pure ?_)
  have hvl : (rvs xs).length ≤ sizeLine := by simp only [List.length_map]; rw [sizeLine_eq]; omega
  refine wpAny_bind (collect_list hl ?_ hvl)
  refine wpAny_bind (wpAny_newList ?_ hvl)
  have hsz : ((s.heap.push (seqObj "list" #[] 0)).update s.heap.objs.size (Obj.mapSeq (· ++ (rvs xs).toArray))).objs.size = s.heap.objs.size + 1 := by
    rw [Heap.size_update, size_push']
  have hoL : (((s.heap.push (seqObj "list" #[] 0)).update s.heap.objs.size (Obj.mapSeq (· ++ (rvs xs).toArray))).push (seqObj "list" (rvs xs).toArray 0)).get? (s.heap.objs.size + 1) = some (seqObj "list" (rvs xs).toArray 0) := by
    rw [← hsz]; exact Heap.get?_push_size _ rfl
  have keep : s.heap.StaysIn (((s.heap.push (seqObj "list" #[] 0)).update s.heap.objs.size (Obj.mapSeq (· ++ (rvs xs).toArray))).push (seqObj "list" (rvs xs).toArray 0)) :=
    keep_push (keep_but (keep_push (fun _ _ e => e) _) (none_above (Nat.le_refl _)) (Heap.SameBut.update ..)) _
  have hn : s.heap.get? (s.heap.objs.size + 1) = none := by
    cases q : s.heap.get? (s.heap.objs.size + 1) with
    | none => rfl
    | some o => exact absurd (Heap.lt_size q) (Nat.not_lt.mpr (Nat.le_succ _))
  show wpAny _ _ _ _ _ { s with heap := ((s.heap.push (seqObj "list" #[] 0)).update s.heap.objs.size (Obj.mapSeq (· ++ (rvs xs).toArray))).push (seqObj "list" (rvs xs).toArray 0) }
  rw [hsz]
  refine wpAny_bind (wpAny_holding (wpAny_call_entry_kw slot_list_sort ⟨_, hoL, rfl⟩ entry_list_sort ?body (ha2 _)))
  case body =>
    have ht' := ht (s.heap.objs.size + 1)
    show wpAny (model prog w) A.in1.in1 (Builtin.«list.sort» ⟨[.ref (s.heap.objs.size + 1)], kw⟩) _ _ _
    rw [ht']
    refine srt_sort (s := { s with heap := ((s.heap.push (seqObj "list" #[] 0)).update s.heap.objs.size (Obj.mapSeq (· ++ (rvs xs).toArray))).push (seqObj "list" (rvs xs).toArray 0) }) (s₀ := s.heap)
      keep hoL hn (by show _ ≤ (Heap.push _ _).objs.size; rw [size_push', hsz]; exact Nat.le_succ_of_le (Nat.le_succ _)) h64 hO hf hkind hnd hT turn fun h' tk c ys p1 p2 k q => ⟨_, rfl, ?_⟩
    exact wpAny_pure ⟨_, rfl, h _ h' tk c ys p1 p2 k (Nat.le_succ _) hn q⟩
end
end
section
section
open PySem.Spec
variable {prog : Program} {w : World} {A₀ A : Around} {s : Shared} {base h₀ : Heap} {outer : List Env} {L P : Addr} {ps : Array Value} {m : Str → Option Value} {env : Env} {K : Frag}
  {R : Result → Shared → Prop} {name qual : Str} {params : Arguments} {body : List Stmt} {scope : Scope} {dV kV doc pm cdv ct oc : Value} {an od : Option Addr} {osl : Array (Option Value)} {f : Addr} {args : Args} {binds : List (Str × Value)}
  {p : Program} {loose : List Str} {mean : ExcName → Option Value} {mg mb : Str → Option Value}

/-- a def that makes functions is entered: its ground is the caller's heap without the code's table -/
theorem enterS (B : Below A₀ base outer h₀) (F : Fr h₀ L s.heap m) (N : News h₀ L s.heap [(P, tabObj ps)]) (X : K.In h₀) (T : Top p loose mean mg mb h₀) (hA : A.frames = some (env :: outer)) (hf : env.frame = some L) (hke : env.scope.kind = .function)
    (ho : K.lookup f = some ⟨oc, od, .func (fnOf name qual params body scope dV kV doc pm an cdv ct), osl⟩) (hcd : codeIn K cdv qual = true) (hroom : A.depth < recursionLimit)
    (hbind : BindsTo s (fnOf name qual params body scope dV kV doc pm an cdv ct) args binds) (hkind : (binds.all fun y => scope.names.lookup y.1 == some .local || scope.names.lookup y.1 == some .cell) = true)
    (hnd : ((cellsFrom 0 scope.names []).map (·.1)).Nodup)
    (h : ∀ L' h₁ tk cells, Fr (s.heap.hide P) L' h₁ (bindL (envOfC qual scope L' f cdv).kindOf binds fun _ => none) → News (s.heap.hide P) L' h₁ (cells ++ [(P, tabObj ps)]) → CellsAre (bindC (envOfC qual scope L' f cdv).kindOf binds fun _ => none) (cellsFrom (L' + 1) scope.names []) cells →
      Below A base (env :: outer) (s.heap.hide P) → K.In (s.heap.hide P) → Top p loose mean mg mb (s.heap.hide P) → h₀.StaysIn (s.heap.hide P) → P < L' →
      wpAny (model prog w) (A.deeper (envOfC qual scope L' f cdv)) (execs body (envOfC qual scope L' f cdv))
        (fun fl s' => R (.ok (.ret (match fl with | .ret v => v | _ => .none))) s') (fun _ _ => False)
        { s with heap := h₁, toks := tk })
    (hco : scope.isCoroutine = false := by rfl) (hgen : scope.isGenerator = false := by rfl) (hk : scope.kind = .function := by rfl) :
    codeAny (model prog w) A (.call (.ref f) args) R s := by
  have Xs := X.keeps F.keep
  obtain ⟨FG, BG, st, _⟩ := groundX (R := R) B F N hA hf hke
  have FG : Fr h₀ L (s.heap.hide P) m := FG
  have BG : Below A base (env :: outer) (s.heap.hide P) := BG
  have st : h₀.StaysIn (s.heap.hide P) := st
  have hP := (N _ (.head _)).1
  refine codeAny_call_function (fd := fnOf name qual params body scope dV kV doc pm an cdv ct) hroom (Xs _ _ ho) rfl hco hgen rfl (codeRec_of Xs hcd) (hbind _ _ _ _ ?_)
  refine wpAny_newFunctionEnv_cells hk (kindsX hkind _) fun env' he s' x => ?_
  subst he
  refine ⟨(T.nolimit.keeps F.keep).keeps x.toInCall.keep, codeAny_func ?_⟩
  obtain ⟨h₁, tk, rfl, _⟩ := x.done
  have hk₁ := x.toInCall.keep
  obtain ⟨cells, NC, Y⟩ := Cl.news (h₀ := s.heap) (Nat.le_refl _) fun n c hm => ⟨x.cell n c (lookup_of_mem_nodup (cellsFrom_names scope.names 0 (s.heap.objs.size + 1) [] [] rfl ▸ hnd) hm), x.above n c hm⟩
  refine wpAny_mono (h s.heap.objs.size h₁ tk cells ⟨x.toInCall.ns, fun b o e => hk₁ b o (Heap.of_hide e), Nat.le_of_eq (Heap.hide_size _ _)⟩ (fun q hq => ?_) Y BG (X.keeps st) (T.keeps st) st (Heap.lt_size hP)) (fun fl s' hl => hl) (fun e s' x => x.elim)
  rcases List.mem_append.mp hq with hq | hq
  · refine ⟨(NC q hq).1, (NC q hq).2.1, ?_⟩
    cases z : (s.heap.hide P).get? q.1 with
    | none => rfl
    | some o => have := Heap.of_hide z; rw [(NC q hq).2.2] at this; cases this
  · rw [List.mem_singleton.mp hq]
    exact ⟨hk₁ _ _ hP, Nat.ne_of_lt (Heap.lt_size hP), Heap.hide_self _ _⟩
end
theorem tab_ne_list {h : Heap} {P a : Addr} {ps xs : Array Value} (hP : h.get? P = some (tabObj ps)) (x : h.IsList a xs) : a ≠ P := by
  rintro rfl
  obtain ⟨o, ho, hc, _⟩ := x
  rw [hP] at ho
  cases ho
  cases hc
theorem tab_ne_tup {h : Heap} {P a : Addr} {ps xs : Array Value} (hP : h.get? P = some (tabObj ps)) (x : IsTup h a xs) : a ≠ P := by
  rintro rfl
  obtain ⟨o, ho, hc, _⟩ := x
  rw [hP] at ho
  cases ho
  cases hc
theorem hide_list {h : Heap} {P a : Addr} {ps xs : Array Value} (hP : h.get? P = some (tabObj ps)) (x : h.IsList a xs) : (h.hide P).IsList a xs := by
  have ne := tab_ne_list hP x
  obtain ⟨o, ho, r⟩ := x
  exact ⟨o, (Heap.hide_ne _ ne).trans ho, r⟩
theorem hide_tup {h : Heap} {P a : Addr} {ps xs : Array Value} (hP : h.get? P = some (tabObj ps)) (x : IsTup h a xs) : IsTup (h.hide P) a xs := by
  have ne := tab_ne_tup hP x
  obtain ⟨o, ho, r⟩ := x
  exact ⟨o, (Heap.hide_ne _ ne).trans ho, r⟩
theorem hide_row {h : Heap} {P : Addr} {ps : Array Value} {r : RowD} (hP : h.get? P = some (tabObj ps)) (x : RowAt h r) : RowAt (h.hide P) r := ⟨hide_tup hP x.1, hide_list hP x.2⟩
theorem hide_keys {h : Heap} {P a : Addr} {ps : Array Value} {b1 b2 : Bool} (hP : h.get? P = some (tabObj ps)) (x : KeysAt h a b1 b2) : KeysAt (h.hide P) a b1 b2 := by
  obtain ⟨p, q, s1, s2, t1, t2, h1, h2, h3⟩ := x
  exact ⟨p, q, s1, s2, t1, t2, hide_list hP h1, hide_tup hP h2, hide_tup hP h3⟩

section
variable {prog : Program} {w : World} {A : Around} {R : Result → Shared → Prop} {s : Shared}
/-- a lambda is entered: its ground is the whole heap -/
theorem enterL {name qual : Str} {params : Arguments} {body : Expr} {scope : Scope} {cl : List (Str × Addr)} {pm ctv : Value} {c' f : Addr} {args : Args} {binds : List (Str × Value)}
    (hlim : s.heap.NoLimit) (hroom : A.depth < recursionLimit) (ho : s.heap.get? f = some (kla_obj name qual params body scope cl pm c' ctv)) (hcd : s.heap.CodeRec (.ref c') qual)
    (hbind : bindArgs (kla_fn name qual params body scope cl pm (.ref c') ctv) args = pure binds) (hloc : ∀ y ∈ binds, scope.names.lookup y.1 = some .local)
    (hcell : ∀ x ∈ scope.names, x.2 ≠ .cell)
    (h : ∀ L' h₁, Fr s.heap L' h₁ (fun y => binds.reverse.lookup y) → News s.heap L' h₁ [] → wpAny (model prog w) (A.deeper (envX qual scope L' f (.ref c') cl)) (eval body (envX qual scope L' f (.ref c') cl)) (fun v s' => R (.ok (.ret v)) s') (fun _ _ => False) { s with heap := h₁, toks := s.toks + binds.length })
    (hco : scope.isCoroutine = false := by rfl) (hgen : scope.isGenerator = false := by rfl) (hk : scope.kind = .function := by rfl) : codeAny (model prog w) A (.call (.ref f) args) R s := by
  refine kla_callFunE hroom ho rfl hco hgen rfl hcd ?_
  rw [hbind]
  refine wpAny_pure (wpAny_newFunctionEnv hcell hloc (fun h₁ hns hsb => ⟨hlim.fresh _ hsb, ?_⟩) hk)
  show codeAny _ _ (.expr body (envX qual scope s.heap.objs.size f (.ref c') cl)) _ _
  have hk₁ : ∀ b o, s.heap.get? b = some o → h₁.get? b = some o := fun b o e => hsb.extBut b o (Nat.ne_of_lt (Heap.lt_size e)) (Heap.get?_push_of_some _ e)
  exact kla_codeExpr (wpAny_mono (h s.heap.objs.size h₁ ⟨hns, hk₁, Nat.le_refl _⟩ News.nil) (fun v s' hl => hl) fun _ _ y => y.elim)
end

def natInt : Value → Option Nat
  | .int n _ => if 0 ≤ n then some n.toNat else none
  | _ => none
def natTxt : Value → Option Nat
  | .str x _ => if x = txt 0 then some 0 else if x = txt 1 then some 1 else if x = txt 2 then some 2 else none
  | _ => none
theorem natInt_dec {n n' : Int} (h1 : 0 ≤ n) (h2 : 0 ≤ n') : decide (n.toNat < n'.toNat) = decide (n < n') := by
  by_cases q : n < n'
  · rw [decide_eq_true q, decide_eq_true (by omega)]
  · rw [decide_eq_false q, decide_eq_false (by omega)]
theorem natInt_at {n : Int} {t : Tok} (h : 0 ≤ n) : natInt (.int n t) = some n.toNat := if_pos h
theorem natInt_lt : (natKind natInt).OneLt := by
  intro prog w A E s x y a b Q ha hb h
  have ha : natInt x = some a := ha
  have hb : natInt y = some b := hb
  have h : Q (decide ((a : Nat) < (b : Nat))) s := h
  cases x with
  | int n t =>
    cases y with
    | int n' t' =>
      unfold natInt at ha hb
      dsimp only at ha hb
      split at ha
      · split at hb
        · rename_i h1 h2
          have e1 : n.toNat = a := Option.some.inj ha
          have e2 : n'.toNat = b := Option.some.inj hb
          subst e1 e2
          have e : decide (n.toNat < n'.toNat) = decide (n < n') := natInt_dec h1 h2
          have h : Q (decide (n.toNat < n'.toNat)) s := h
          rw [e] at h
          exact oneLt_int h
        · cases hb
      · cases ha
    | _ => cases hb
  | _ => cases ha
theorem natTxt_txt (k : Fin 3) (t : Tok) : natTxt (.str (txt k) t) = some k.val := by
  have h : ∀ k : Fin 3, (if txt k = txt 0 then some 0 else if txt k = txt 1 then some 1 else if txt k = txt 2 then some 2 else none) = some k.val := by decide +kernel
  exact h k
theorem natTxt_inv {v : Value} {a : Nat} (h : natTxt v = some a) : ∃ (k : Fin 3) (t : Tok), v = .str (txt k) t ∧ a = k.val := by
  cases v with
  | str x t =>
    unfold natTxt at h
    dsimp only at h
    split at h
    · rename_i e; cases h; exact ⟨0, t, by rw [e], rfl⟩
    · split at h
      · rename_i e; cases h; exact ⟨1, t, by rw [e], rfl⟩
      · split at h
        · rename_i e; cases h; exact ⟨2, t, by rw [e], rfl⟩
        · cases h
  | _ => cases h
theorem natTxt_lt : (natKind natTxt).OneLt := by
  intro prog w A E s x y a b Q ha hb h
  obtain ⟨k, t, rfl, e1⟩ := natTxt_inv (show natTxt x = some a from ha)
  obtain ⟨k', t', rfl, e2⟩ := natTxt_inv (show natTxt y = some b from hb)
  have h : Q (decide ((a : Nat) < (b : Nat))) s := h
  refine oneLt_str ?_
  rw [txt_lt]
  rw [e1, e2] at h
  exact h
theorem kinds_int {xs : List RowD} (fn : RowD → Int) (ft : RowD → Tok) : 2 ≤ xs.length → keyKind' (xs.map fun r => Value.int (fn r) (ft r)).toArray = pure oneType' := by
  have hI : ∀ l : List RowD, IntsAre (l.map fun r => Value.int (fn r) (ft r)) (l.map fn) := by
    intro l
    induction l with
    | nil => exact .nil
    | cons r l ih => exact .cons _ _ ih
  intro h
  match xs, h with
  | x :: y :: r, _ => exact keyKind_ints (hI (x :: y :: r))
theorem kinds_txt {xs : List RowD} : 2 ≤ xs.length → keyKind' (xs.map fun r => Value.str (txt r.k) r.ty).toArray = pure oneType' := by
  have hI : ∀ l : List RowD, StrsAre (l.map fun r => Value.str (txt r.k) r.ty) (l.map fun r => txt r.k) := by
    intro l
    induction l with
    | nil => exact .nil
    | cons r l ih => exact .cons _ _ ih
  intro h
  match xs, h with
  | x :: y :: r, _ => exact keyKind_strs (hI (x :: y :: r))
abbrev gN (r : RowD) : Nat := r.n.toNat
abbrev gX (r : RowD) : Nat := r.x.toNat
abbrev gK (r : RowD) : Nat := r.k.val
theorem News.below {h₀ h : Heap} {L D : Addr} {news : List (Addr × Obj)} (N : News h₀ L h news) (hD : h.objs.size ≤ D) : ∀ p ∈ news, p.1 < D := fun p hp => Nat.lt_of_lt_of_le (Heap.lt_size (N p hp).1) hD
theorem News.put {h₀ h h' : Heap} {L D : Addr} {m : Str → Option Value} {o : Obj} {news : List (Addr × Obj)} (F : Fr h₀ L h m) (N : News h₀ L h news) (k : h.StaysIn h') (hD : h.get? D = none) (ho : h'.get? D = some o) : News h₀ L h' ((D, o) :: news) := by
  intro p hp
  rcases List.mem_cons.mp hp with rfl | hp
  · refine ⟨ho, fun e => ?_, ?_⟩
    · obtain ⟨oL, _, _, hL, _⟩ := F.ns
      have e : D = L := e
      rw [e, hL] at hD
      cases hD
    · show h₀.get? D = none
      cases q : h₀.get? D with
      | none => rfl
      | some o' => rw [F.keep _ _ q] at hD; cases hD
  · exact N.grown k p hp

section
open PyProof.V PySem.Spec
variable {prog : Program} {w : World} {A : Around} {E : Value → Shared → Prop} {s : Shared} {env : Env} {h₀ : Heap} {body : List Stmt} {Q : Flow → Shared → Prop}
/-- a loop over range(1, -1, -1), turn by turn -/
theorem down_turns {x : Str} {px : Pos} {r : Addr} {t u v : Tok} {m₀ : Str → Option Value} {news : List (Addr × Obj)}
    (hh : A.handled = none) (F : Fr h₀ env.locals s.heap m₀) (N : News h₀ env.locals s.heap news) (hr : IsRange s.heap r 1 (-1) (-1) t u v)
    (rest₀ : ∀ I : Addr, (∀ p ∈ news, p.1 < I) → ItemsRest prog w A E h₀ env (.Name x px) body Q s [(I, "range_iterator")] [] [.tok (fun t => .int 1 t), .tok (fun t => .int 0 t)] m₀ news) :
    wpAny (model prog w) A (pyIter (.ref r)) (fun it s₂ => TurnsAt prog w A h₀ env (.Name x px) body Q E it s₂) E s := by
  refine wpAny_pyIter_range hr (by decide +kernel) ?_
  have hn : Builtin.Range.rangeSize 1 (-1) (-1) = ((2 : Nat) : Int) := by decide +kernel
  refine ktg_core (tk0 := s.toks) (keep := []) (n := 2) (KTurns.ofWalks (Walks.range hh s.heap.objs.size 1 (-1) 2).bound fun i v s Q E st q => by unfold letOwnedTupleGo; exact wpAny_pure q) rfl (fun i v h hp => ?_) (fun i h st => ?_) (fun b hb => ?_) (fun b hb => by simpa using hb) (fun b hb => .inl (by simpa using hb)) ?_ (fun p hp hI => ?_) ?_ (F.push _) (fun p hp => ⟨Heap.get?_push_of_some _ (N p hp).1, (N p hp).2⟩) trivial (rest₀ _ fun p hp => Heap.lt_size (N p hp).1)
  · obtain ⟨hi, t, rfl⟩ := hp
    match i, hi with
    | 0, _ => exact ⟨_, rfl, _, rfl⟩
    | 1, _ => exact ⟨_, rfl, _, rfl⟩
  · exact ⟨[(s.heap.objs.size, _)], ⟨⟨rfl, rfl⟩, trivial⟩, fun p hp => by rw [List.mem_singleton.mp hp]; exact st⟩
  · have hb' : b = s.heap.objs.size := by simpa using hb
    rw [hb']
    exact ⟨List.mem_cons_self .., next_is_new F⟩
  · intro hI
    exact absurd F.ns.lt ((List.mem_singleton.mp hI) ▸ Nat.lt_irrefl _)
  · exact absurd (Heap.lt_size (N p hp).1) ((List.mem_singleton.mp hI) ▸ Nat.lt_irrefl _)
  · show IsRangeIter _ _ _ _ _
    rw [hn]
    simpa using Heap.get?_push_size _ rfl
end
theorem len_base {prog : Program} {w : World} {A : Around} {E : Value → Shared → Prop} {s : Shared} {g : Heap} {L l : Addr} {m : Str → Option Value} {items : Array Value} {n : Nat} {Q : Value → Shared → Prop}
    (F : Fr g L s.heap m) (hl : g.IsList l items) (hn : items.size = n) (hhi : n ≤ 100) (h : Q (.int (n : Int) (s.toks + 1)) { s with toks := s.toks + 1 + 1 }) :
    wpAny (model prog w) A (call (.builtin "len") [.ref l]) Q E s := len_known (stays_list F.keep hl) hn hhi h
local macro_rules | `(tactic| walk_at "call builtin:len") => `(tactic| (k_here; (with_reducible show wpAny _ _ (call (Value.builtin "len") [Value.ref _]) _ _ _); k_dflt (refine' len_base (n := 2) ?F ?hl ?hn ?hh ?_; (case F => assumption); (case hl => assumption); (case hn => rfl); (case hh => decide); k_whole); (try dsimp only)))
theorem name_free {M : Model} {A : Around} {E : Value → Shared → Prop} {s : Shared} {h₀ : Heap} {L a c : Addr} {m : Str → Option Value} {cn : Str} {cs : Scope} {ccd : Value} {cl : List (Str × Addr)} {x : Str} {pos : Pos} {v : Value} {o : Obj} {Q : Value → Shared → Prop}
    (F : Fr h₀ L s.heap m) (ho : h₀.get? c = some o) (hd : o.data = .cell (some v)) (hc : cl.lookup x = some c) (h : Q v s)
    (hk : cs.kind = .function) (hx : (envX cn cs L a ccd cl).kindOf x = some .free) (hb : (x == ("__debug__" : Str)) = false := by decide) (hn : (x == ("__classdict__" : Str)) = false := by decide) :
    wpAny M A (eval (.Name x pos) (envX cn cs L a ccd cl)) Q E s := wpAny_Name (wpAny_loadName_free hk hx hc ⟨o, F.keep _ _ ho, hd⟩ h hn) hb
local macro_rules | `(tactic| walk_at "eval Name") => `(tactic| (k_here; k_dflt (refine' name_free ?F ?ho ?hd ?hc ?_ ?a ?b; (case a => rfl); (case b => rfl); (case F => assumption); (case hc => rfl); (case ho => assumption); (case hd => assumption); k_whole)))
local macro_rules | `(tactic| walk_at "exec For Name Call cons nil") => `(tactic| (k_here; (rename Fr _ _ _ _ => lF'); (with_unfolding_all refine' For_turns lF' ?_; k_whole)))
local macro_rules | `(tactic| walk_at "pyIter ref") => `(tactic| (k_here; (with_reducible show wpAny _ _ (pyIter (Value.ref _)) (fun it s₂ => TurnsAt _ _ _ _ _ _ _ _ _ it s₂) _ _); (rename Fr _ _ _ _ => lF'); (rename News _ _ _ _ => lN'); (rename IsRange _ _ _ _ _ _ _ _ => rgX); (with_unfolding_all refine down_turns rfl lF' lN' rgX ?_); clear lF' lN'; intro i' l1; (try k_lt l1)))
theorem row_nums {g : Heap} {ws : List RowD} (hws : ∀ r ∈ ws, RowAt g r) : ∀ {l : List RowD} {us : List Value}, Paired (fun v y => ∃ r ∈ ws, v = rv r ∧ y = Value.int r.n r.t) (rvs l) us → (∀ r ∈ l, r ∈ ws) → us = l.map fun r => Value.int r.n r.t
  | [], _, h, _ => by cases h; rfl
  | r :: l, _, h, hl => by
    cases h with
    | cons h1 h2 =>
      obtain ⟨q, hq, e1, e2⟩ := h1
      have e3 : r = q := RowAt.det (hws _ (hl r (.head _))) (hws _ hq) (by injection e1)
      subst e3
      rw [e2, row_nums hws h2 fun q hq => hl q (.tail _ hq)]
      rfl
/-- where sort_rows may be called -/
def GdS (w : World) (A : Around) (s : Shared) : Prop :=
  ∃ (A₀ : Around) (base : Heap) (outer : List Env) (h₀ : Heap) (L : Addr) (m : Str → Option Value) (env : Env) (p : Program) (loose : List Str) (mean : ExcName → Option Value) (mg mb : Str → Option Value),
    Below A₀ base outer h₀ ∧ Fr h₀ L s.heap m ∧ News h₀ L s.heap [(89, tabObj #[])] ∧ CodeHd h₀ 91 89 ∧ (hd.heap_39 w.params).In h₀ ∧ Top p loose mean mg mb h₀ ∧ A.frames = some (env :: outer) ∧ env.frame = some L ∧ env.scope.kind = .function

set_option maxHeartbeats 4000000 in
theorem sort_rows_code {w : World} {s : Shared} {R : Result → Shared → Prop} {e1 : Env} (G : GdS w (callerA.deeper e1) s) {ka oa : Addr} {b1 b2 : Bool} {xs : List RowD} (hk : KeysAt s.heap ka b1 b2)
  (hx : s.heap.IsList oa (rvs xs).toArray) (hxs : ∀ r ∈ xs, RowAt s.heap r) (hlx : xs.length ≤ 60) (hnd : (rvs xs).Nodup) (hpos : ∀ r ∈ xs, 0 ≤ r.n ∧ 0 ≤ r.x)
  (hR : ∀ h' tk D (ws : List RowD) c ps, ws.Perm xs → ws.Pairwise (SortedBy gX b1 (SortedBy gK b2 (SortedBy gN false fun _ _ => True))) → h'.get? D = some (W.listOf (ws.map fun r => Value.int r.n r.t).toArray c) → s.heap.get? D = none →
    (s.heap.hide 89).StaysIn h' → h'.get? 89 = some (tabObj ps) → R (.ok (.ret (.ref D))) { s with heap := h', toks := tk }) :
  codeAny (model PySem.Challenge.pw_nz0274_01 w) (callerA.deeper e1) (.call (.ref 92) ⟨[.ref ka, .ref oa], []⟩) R s := by
  w_top off
  obtain ⟨A₀, base, outer, h₀, L, m, env, p, loose, mean, mg, mb, B, F, N, C, X, T, hA, hf, hke⟩ := G
  have hP : s.heap.get? 89 = some (tabObj #[]) := (N _ (.head _)).1
  refine enterS B F N X T hA hf hke (by k_is) (by k_is) (by k_room) (BindsTo.of_eq rfl) rfl (by decide +kernel) ?_
  clear B F X T hA hf hke N
  intro L' h₁ tk cells F N Y B X T st lP
  k_cells Y
  simp only [List.cons_append, List.nil_append] at N
  have C' : CodeHd (s.heap.hide 89) 91 89 := C.keeps st
  clear C st
  have hx' := hide_list hP hx
  have hxs' : ∀ r ∈ xs, RowAt (s.heap.hide 89) r := fun r hr => hide_row hP (hxs r hr)
  obtain ⟨kp, kq, ks1, ks2, kt1, kt2, hk1, hk2, hk3⟩ := hide_keys hP hk
  k_lt2 lP
  repeat' (first | ((fail_if_success (with_reducible show wpAny _ _ (call (Value.builtin "sorted") _ _) _ _ _)); first | (k_unfold; (try dsimp only)) | (k_end; wrow_close) | walk1 | (dsimp only; walk1) | (leave1; walk_say "STEP leave1"; try dsimp only) | fail "no step"))
  rename_i f1 c1 oc1 vs1 t1 ct1 hh1 tk1 F1 N1 d1 d2 l1 l2
  refine sorted_rows (xs := xs) (kv := fun r => .int r.n r.t) (g := gN) (f := natInt) (b := false) (T := fun _ _ => True) (fv := .ref f1) (stays_list F1.keep hx') (by omega) natInt_lt (fun r hr => natInt_at (hpos r hr).1) (kinds_int _ _) hnd (List.pairwise_of_forall fun _ _ => trivial) (ksk_s1 _ _) (fun x => ksk_l1 _ _) (fun x => ksk_t1 _ _) ?turn ?next
  case turn =>
    intro r hr h tk hst
    have Xh := X.keeps (fun b o e => hst b o (F1.keep b o e))
    have hrow := (hxs' r hr).keeps (fun b o e => hst b o (F1.keep b o e))
    obtain ⟨hr1, hr2⟩ := hrow
    have hc1 := hst _ _ (N1 (c1, oc1) (by k_mem)).1
    refine wpAny_call (enterL (s := { s with heap := h, toks := tk }) (T.nolimit.keeps (fun b o e => hst b o (F1.keep b o e))) (by k_room) (hst _ _ (N1 (f1, _) (by k_mem)).1) ⟨c1, oc1, vs1, t1, rfl, hc1, d1, d2⟩ rfl (locs rfl) (by decide) ?_)
    intro L2 h2 F2 N2
    clear F1 N1 F N
    k_steps
    exact Fr.keep (by assumption)
  case next =>
    intro D1 h3 tk3 c3 ys hp1 hs1 hst1 hz1 hD1 ho1
    have l3 := News.below N1 hz1
    k_lt l3
    have F3 := F1.keeps hst1
    have N3 := News.put F1 N1 hst1 hD1 ho1
    have hys : ∀ r ∈ ys, RowAt (s.heap.hide 89) r := fun r hr => hxs' r (hp1.mem_iff.mp hr)
    clear F1 N1 F N hst1 hD1 ho1 hz1
    repeat' (first | ((fail_if_success (with_reducible show wpAny _ _ (call (Value.builtin "sorted") _ _) _ _ _)); first | (k_unfold; (try dsimp only)) | (k_end; wrow_close) | walk1 | (dsimp only; walk1) | (leave1; walk_say "STEP leave1"; try dsimp only) | fail "no step"))
    rename_i o2 Fx Nx dcell f2 c2 oc2 vs2 t2 ct2 hh2 tk2 F2 N2 d3 d4 l4 l5
    clear Fx Nx
    have hnd1 : (rvs ys).Nodup := ((hp1.map rv).nodup_iff).mpr hnd
    have hlen1 := hp1.length_eq
    refine sorted_rows (xs := ys) (kv := fun r => .str (txt r.k) r.ty) (g := gK) (f := natTxt) (b := b2) (T := SortedBy gN false fun _ _ => True) (fv := .ref f2) (News.isList N2 (by k_mem)) (by omega) natTxt_lt (fun r _ => natTxt_txt r.k r.ty) kinds_txt hnd1 hs1 (ksk_s2 _ _ _) (fun x => ksk_l2 _ _ _) (fun x => ksk_t2 _ _ _) ?turn2 ?next2
    case turn2 =>
      intro r hr h tk hst
      have Xh := X.keeps (fun b o e => hst b o (F2.keep b o e))
      have hrow := (hys r hr).keeps (fun b o e => hst b o (F2.keep b o e))
      obtain ⟨hr1, hr2⟩ := hrow
      have hc1 := hst _ _ (N2 (c2, oc2) (by k_mem)).1
      have hcell := hst _ _ (N2 (L' + 1, o2) (by k_mem)).1
      refine wpAny_call (enterL (s := { s with heap := h, toks := tk }) (T.nolimit.keeps (fun b o e => hst b o (F2.keep b o e))) (by k_room) (hst _ _ (N2 (f2, _) (by k_mem)).1) ⟨c2, oc2, vs2, t2, rfl, hc1, d3, d4⟩ rfl (locs rfl) (by decide) ?_)
      intro L2 h2 F5 N5
      clear F2 N2
      k_steps
      exact Fr.keep (by assumption)
    case next2 =>
      intro D2 h4 tk4 c4 zs hp2 hs2 hst2 hz2 hD2 ho2
      have l6 := News.below N2 hz2
      k_lt l6
      have F3 := F2.keeps hst2
      have N3 := News.put F2 N2 hst2 hD2 ho2
      have hzs : ∀ r ∈ zs, RowAt (s.heap.hide 89) r := fun r hr => hys r (hp2.mem_iff.mp hr)
      clear F2 N2 hst2 hD2 ho2 hz2
      repeat' (first | ((fail_if_success (with_reducible show wpAny _ _ (call (Value.builtin "sorted") _ _) _ _ _)); first | (k_unfold; (try dsimp only)) | (k_end; wrow_close) | walk1 | (dsimp only; walk1) | (leave1; walk_say "STEP leave1"; try dsimp only) | fail "no step"))
      rename_i o3 Fx Nx dcell3 f3 ct3 hh3 tk5 F4 N4 l7
      clear Fx Nx
      have hnd2 : (rvs zs).Nodup := ((hp2.map rv).nodup_iff).mpr hnd1
      have hlen2 := hp2.length_eq
      have hpz : ∀ r ∈ zs, 0 ≤ r.x := fun r hr => (hpos r (hp1.mem_iff.mp (hp2.mem_iff.mp hr))).2
      refine sorted_rows (xs := zs) (kv := fun r => .int r.x r.tx) (g := gX) (f := natInt) (b := b1) (T := SortedBy gK b2 (SortedBy gN false fun _ _ => True)) (fv := .ref f3) (News.isList N4 (by k_mem)) (by omega) natInt_lt (fun r hr => natInt_at (hpz r hr)) (kinds_int _ _) hnd2 hs2 (ksk_s2 _ _ _) (fun x => ksk_l2 _ _ _) (fun x => ksk_t2 _ _ _) ?turn3 ?next3
      case turn3 =>
        intro r hr h tk hst
        have Xh := X.keeps (fun b o e => hst b o (F4.keep b o e))
        have hrow := (hzs r hr).keeps (fun b o e => hst b o (F4.keep b o e))
        obtain ⟨hr1, hr2⟩ := hrow
        have hc1 := hst _ _ (N4 (c2, oc2) (by k_mem)).1
        have hcell := hst _ _ (N4 (L' + 1, o3) (by k_mem)).1
        refine wpAny_call (enterL (s := { s with heap := h, toks := tk }) (T.nolimit.keeps (fun b o e => hst b o (F4.keep b o e))) (by k_room) (hst _ _ (N4 (f3, _) (by k_mem)).1) ⟨c2, oc2, vs2, t2, rfl, hc1, d3, d4⟩ rfl (locs rfl) (by decide) ?_)
        intro L2 h2 F5 N5
        clear F4 N4
        k_steps
        exact Fr.keep (by assumption)
      case next3 =>
        intro D3 h5 tk6 c5 ws hp3 hs3 hst3 hz3 hD3 ho3
        have l8 := News.below N4 hz3
        k_lt l8
        have F5 := F4.keeps hst3
        have N5 := News.put F4 N4 hst3 hD3 ho3
        have hws : ∀ r ∈ ws, RowAt (s.heap.hide 89) r := fun r hr => hzs r (hp3.mem_iff.mp hr)
        clear F4 N4 hst3 hD3 ho3 hz3
        repeat' (first | ((fail_if_success (with_reducible show wpAny _ _ (eval (Expr.ListComp _ _ _ _) _) _ _ _)); first | (k_unfold; (try dsimp only)) | (k_end; wrow_close) | walk1 | (dsimp only; walk1) | (leave1; walk_say "STEP leave1"; try dsimp only) | fail "no step"))
        rename_i F6 N6
        have h89 := N6 (89, _) (by k_mem)
        refine comp_list (vs := rvs ws) (fun _ => true) (fun v y => ∃ r ∈ ws, v = rv r ∧ y = Value.int r.n r.t) rfl (by with_unfolding_all rfl) (by decide) rfl (by decide) rfl ?_
        walk1
        refine ⟨D3, rfl, News.isList N6 (by k_mem), by rw [sizeLine_eq]; simp only [List.length_map]; have := hp3.length_eq; omega, ?_, ?_, ?_⟩
        · intro C v s₂ m₂ E' hC hv hn hm hst
          rw [List.forIn_nil]
          exact wpAny_pure ⟨rfl, _, _, rfl, fun _ _ e => e⟩
        · intro C v s₂ m₂ E' hC hv hpv hn hm hst
          obtain ⟨r, hr, rfl⟩ := List.mem_map.mp hv
          obtain ⟨hr1, hr2⟩ := hws r hr
          have Fc : Fr (s.heap.hide 89) C s₂.heap m₂ := ⟨hn, fun b o e => hst b o (F6.keep b o e), Nat.le_trans (Nat.le_trans F6.above (Nat.le_of_lt F6.ns.lt)) hC⟩
          have Nc : News (s.heap.hide 89) C s₂.heap [] := News.nil
          clear F6 N6
          k_steps
          all_goals first | exact hr | exact ⟨_, _, rfl, fun _ _ e => e⟩
        · intro D4 us h6 tk7 hD4 hpl hpair hst
          have e : us = (ws.map fun r => Value.int r.n r.t).toArray := by
            rw [List.filter_eq_self.mpr (fun _ _ => rfl)] at hpair
            apply Array.toList_inj.mp
            exact row_nums hws hpair fun _ h => h
          subst e
          obtain ⟨c6, hc6⟩ := hpl
          have hps : ws.Perm xs := hp3.trans (hp2.trans hp1)
          have hfr : s.heap.get? D4 = none := by
            cases q : s.heap.get? D4 with
            | none => rfl
            | some o =>
              by_cases e : D4 = 89
              · rw [e] at hD4
                rw [h89.1] at hD4
                cases hD4
              · rw [F6.keep _ _ ((Heap.hide_ne _ e).trans q)] at hD4
                cases hD4
          exact hR _ _ D4 ws c6 _ hps hs3 hc6 hfr (fun b o e => hst b o (F6.keep b o e)) (hst _ _ h89.1)
end
section
section
variable {prog : Program} {w : World} {A : Around} {E : Value → Shared → Prop} {s : Shared} {env : Env}
/-- a comprehension over a text's signs -/
theorem comp_text {elt iter : Expr} {x : Str} {px : Pos} {ifs : List Expr} {scope : Scope} {cl : List (Str × Addr)} {pos : Pos} {Q : Value → Shared → Prop} {y : Str} {t : Tok} (p : Value → Bool) (Fv : Value → Value → Prop)
    (hh : A.handled = none) (hclos : closureFor scope env = pure cl) (hcell : ∀ y ∈ scope.names, y.2 ≠ .cell) (hkind : scope.kind = .function)
    (hnames : ∀ y ∈ scope.names, y.2 = .local → scope.names.lookup y.1 = some .local) (hx : scope.names.lookup x = some .local)
    (h : wpAny (model prog w) A (eval iter env) (fun xv s₁ => xv = .str y t ∧ y.cps.size ≤ sizeLine ∧
      (∀ C i v s₂ m₂ E', s₁.heap.objs.size ≤ C → SignAt y i v → s₂.heap.Ns C m₂ → m₂ x = some v → s₁.heap.StaysIn s₂.heap →
        wpAny (model prog w) A (forIn ifs true fun c r => if r = true then do let ok ← isTrue c (compEnvC scope cl C env) (eval c (compEnvC scope cl C env)); pure (ForInStep.yield ok) else pure (ForInStep.yield r))
          (fun ok s₃ => ok = p v ∧ Keeps s₂ s₃) E' s₂) ∧
      (∀ C i v s₂ m₂ E', s₁.heap.objs.size ≤ C → SignAt y i v → p v = true → s₂.heap.Ns C m₂ → m₂ x = some v → s₁.heap.StaysIn s₂.heap →
        wpAny (model prog w) A (eval elt (compEnvC scope cl C env)) (fun r s₃ => Fv v r ∧ Keeps s₂ s₃) E' s₂) ∧
      (∀ D ys (vs : List Value) h' tk, s₁.heap.get? D = none → h'.PlainList D ys → vs.length = y.cps.size → (∀ j v, vs[j]? = some v → SignAt y j v) → Paired Fv (vs.filter p) ys.toList → s₁.heap.StaysIn h' → Q (.ref D) { s₁ with heap := h', toks := tk })) E s)
    (hs : ∀ x, foldedSetIterable iter env x = pure x := by intro _; rfl) :
    wpAny (model prog w) A (eval (.ListComp elt [⟨.Name x px, iter, ifs, 0⟩] scope pos) env) Q E s := by
  refine wpAny_ListComp_free p Fv hclos hcell hkind hnames hx (wpAny_mono h (fun xv s₁ h₁ => ?_) fun _ _ e => e) hs
  obtain ⟨rfl, hsz, htests, helt, hQ⟩ := h₁
  exact wpAny_pyIter_str fun o St W hst => ⟨_, [s₁.heap.objs.size], [s₁.heap.objs.size], y.cps.size, SignAt y, St, rfl, W A hh, hsz, hst, List.forall_mem_cons.mpr ⟨under_push (Nat.le_refl _), List.forall_mem_nil _⟩,
    ⟨fun C i v s₃ m₃ E' hC q hn hm hk _ => htests C i v s₃ m₃ E' (below_push hC) q hn hm (stays_push hk), fun C i v s₃ m₃ E' hC q hp hn hm hk _ => helt C i v s₃ m₃ E' (below_push hC) q hp hn hm (stays_push hk)⟩,
    fun D h' tk ys vs e _ pl len q fd hk => hQ D ys vs h' tk (none_under e) pl len q fd (stays_push hk)⟩
end

/-- a text's signs as texts -/
def signsOf (x : Str) : List Str := x.cps.toList.map fun c => ⟨#[c]⟩
theorem signs_are {x : Str} : ∀ {vs : List Value} {ys : List Value} (k : Nat), (∀ j v, vs[j]? = some v → SignAt x (k + j) v) → vs.length = x.cps.size - k → Paired (fun v y => y = v) vs ys → StrsAre ys ((x.cps.toList.drop k).map fun c => (⟨#[c]⟩ : Str))
  | [], _, k, _, hl, h => by
    cases h
    have e : x.cps.toList.drop k = [] := List.drop_eq_nil_of_le (by rw [Array.length_toList]; simp at hl; omega)
    rw [e]
    exact .nil
  | v :: vs, _, k, hP, hl, h => by
    cases h with
    | cons h1 h2 =>
      subst h1
      obtain ⟨c, u, hc, rfl⟩ := hP 0 _ rfl
      have hk : k < x.cps.size := by simp at hl; omega
      have e : x.cps.toList.drop k = c :: x.cps.toList.drop (k + 1) := by
        rw [List.drop_eq_getElem_cons (by rw [Array.length_toList]; exact hk)]
        congr 1
        have : x.cps[k]? = some c := hc
        rw [Array.getElem?_eq_getElem hk] at this
        simpa using Option.some.inj this
      rw [e]
      refine .cons _ _ (signs_are (k + 1) (fun j w hw => ?_) (by simp at hl; omega) h2)
      have := hP (j + 1) w (by simpa using hw)
      rw [show k + 1 + j = k + (j + 1) by omega]
      exact this

set_option maxHeartbeats 4000000 in
theorem upper_code {w : World} {s : Shared} {R : Result → Shared → Prop} {e1 e2 : Env} (G : Gd w ((callerA.deeper e1).deeper e2) s) {x : Str} {t : Tok} (hx : Txt.join (Str.ofString "") (signsOf x) = x) (hsz : x.cps.size ≤ 20) (hup : ∀ c ∈ x.cps.toList, c < 97) (hw : ((signsOf x).map (·.length)).sum + (signsOf x).length * 64 ≤ 16777216)
  (hR : ∀ h' tk t', s.heap.StaysIn h' → R (.ok (.ret (.str x t'))) { s with heap := h', toks := tk }) :
  codeAny (model PySem.Challenge.pw_nz0274_01 w) ((callerA.deeper e1).deeper e2) (.call (.ref 66) ⟨[.str x t], []⟩) R s := by
  w_top off
  obtain ⟨A₀, base, outer, h₀, L, m, env, p, loose, mean, mg, mb, B, F, X, T, hA, hf, hke⟩ := G
  refine enterP B F X T hA hf hke (by k_is) (by k_is) (by k_room) (BindsTo.of_eq rfl) (locs rfl) ?_ (by decide)
  clear B F X T hA hf hke
  intro L' h₁ F N B X T
  repeat' (first | ((fail_if_success (with_reducible show wpAny _ _ (eval (Expr.ListComp _ _ _ _) _) _ _ _)); first | (k_unfold; (try dsimp only)) | (k_end; wrow_close) | walk1 | (dsimp only; walk1) | (leave1; walk_say "STEP leave1"; try dsimp only) | fail "no step"))
  refine comp_text (y := x) (t := t) (fun _ => true) (fun v y => y = v) rfl (by with_unfolding_all rfl) (by decide) rfl (by decide) rfl ?_
  walk1
  refine ⟨rfl, by rw [sizeLine_eq]; omega, ?_, ?_, ?_⟩
  · intro C i v s₂ m₂ E' hC hv hn hm hst
    rw [List.forIn_nil]
    exact wpAny_pure ⟨rfl, _, _, rfl, fun _ _ e => e⟩
  · intro C i v s₂ m₂ E' hC hv hpv hn hm hst
    obtain ⟨c, u, hc, rfl⟩ := hv
    have hc97 : c < 97 := hup c (by simpa using Array.mem_of_getElem? hc)
    have Fc : Fr s.heap C s₂.heap m₂ := ⟨hn, fun b o e => hst b o (F.keep b o e), Nat.le_trans (Nat.le_trans F.above (Nat.le_of_lt F.ns.lt)) hC⟩
    have Nc : News s.heap C s₂.heap [] := News.nil
    clear F N
    have hlow : (⟨#[c]⟩ : Str).cps.toList < (Str.ofString "a").cps.toList := by
      rw [show (Str.ofString "a").cps.toList = [97] from by decide +kernel]
      exact List.Lex.rel hc97
    k_steps
    all_goals first | exact ⟨_, _, rfl, fun _ _ e => e⟩ | exact absurd hlow (by assumption)
  · intro D ys vs h' tk hD hpl hlen hP hpair hst
    rw [List.filter_eq_self.mpr (fun _ _ => rfl)] at hpair
    have hst2 := signs_are 0 (fun j v hv => by rw [Nat.zero_add]; exact hP j v hv) (by omega) hpair
    rw [List.drop_zero] at hst2
    have F2 := F.keeps hst
    have N2 : News s.heap L' h' [] := News.nil
    have hls := hpl.isList
    clear F N
    walk1
    refine join_listC hls hst2 (by decide +kernel) hw ?_
    intro t' k
    rw [show Txt.join (Str.ofString "") (x.cps.toList.map fun c => (⟨#[c]⟩ : Str)) = x from hx]
    exact hR _ _ _ (Fr.keep F2)
theorem upper_size : Txt.join (Str.ofString "") (signsOf "SIZE") = "SIZE" ∧ (("SIZE" : Str).cps.toList.all fun c => decide (c < 97)) = true ∧ ((signsOf "SIZE").map (·.length)).sum + (signsOf "SIZE").length * 64 ≤ 16777216 := by decide +kernel
theorem upper_subject : Txt.join (Str.ofString "") (signsOf "SUBJECT") = "SUBJECT" ∧ (("SUBJECT" : Str).cps.toList.all fun c => decide (c < 97)) = true ∧ ((signsOf "SUBJECT").map (·.length)).sum + (signsOf "SUBJECT").length * 64 ≤ 16777216 := by decide +kernel
theorem upper_reverse : Txt.join (Str.ofString "") (signsOf "REVERSE") = "REVERSE" ∧ (("REVERSE" : Str).cps.toList.all fun c => decide (c < 97)) = true ∧ ((signsOf "REVERSE").map (·.length)).sum + (signsOf "REVERSE").length * 64 ≤ 16777216 := by decide +kernel
end
section
/-- the words that law makes -/
def wordsOf (b1 b2 : Bool) : List Str := (if b1 then [("REVERSE" : Str), "SIZE"] else ["SIZE"]) ++ (if b2 then [("REVERSE" : Str), "SUBJECT"] else ["SUBJECT"])
local macro_rules | `(tactic| walk_at "execs cons") => `(tactic| k_fold)
set_option maxHeartbeats 4000000 in
theorem words_code {w : World} {s : Shared} {R : Result → Shared → Prop} {e1 : Env} (G : Gd w (callerA.deeper e1) s) {n : Int} {t : Tok}
  (hR : ∀ h' tk D c b1 b2 items, StrsAre items (wordsOf b1 b2) → h'.get? D = some (W.listOf items.toArray c) → s.heap.get? D = none → s.heap.StaysIn h' → R (.ok (.ret (.ref D))) { s with heap := h', toks := tk }) :
  codeAny (model PySem.Challenge.pw_nz0274_01 w) (callerA.deeper e1) (.call (.ref 113) ⟨[.int n t], []⟩) R s := by
  w_top off
  obtain ⟨A₀, base, outer, h₀, L, m, env, p, loose, mean, mg, mb, B, F, X, T, hA, hf, hke⟩ := G
  refine enterP B F X T hA hf hke (by k_is) (by k_is) (by k_room) (BindsTo.of_eq rfl) (locs rfl) ?_ (by decide)
  clear B F X T hA hf hke
  intro L' h₁ F N B X T
  k_steps
  all_goals (dsimp only; (rename News _ _ _ _ => Nz); (have q := Nz _ (List.Mem.head _)))
  all_goals first
    | exact hR _ _ _ _ true true _ (.cons _ _ (.cons _ _ (.cons _ _ (.cons _ _ .nil)))) q.1 q.2.2 (Fr.keep (by assumption))
    | exact hR _ _ _ _ true false _ (.cons _ _ (.cons _ _ (.cons _ _ .nil))) q.1 q.2.2 (Fr.keep (by assumption))
    | exact hR _ _ _ _ false true _ (.cons _ _ (.cons _ _ (.cons _ _ .nil))) q.1 q.2.2 (Fr.keep (by assumption))
    | exact hR _ _ _ _ false false _ (.cons _ _ (.cons _ _ .nil)) q.1 q.2.2 (Fr.keep (by assumption))
theorem two_words {items : List Value} {a b : Str} (h : StrsAre items [a, b]) : ∃ t u, items = [.str a t, .str b u] := by
  obtain _ | ⟨_, _, h⟩ := h
  obtain _ | ⟨_, _, h⟩ := h
  cases h
  exact ⟨_, _, rfl⟩
theorem three_words {items : List Value} {a b c : Str} (h : StrsAre items [a, b, c]) : ∃ t u v, items = [.str a t, .str b u, .str c v] := by
  obtain _ | ⟨_, _, h⟩ := h
  obtain ⟨t, u, rfl⟩ := two_words h
  exact ⟨_, _, _, rfl⟩
theorem four_words {items : List Value} {a b c d : Str} (h : StrsAre items [a, b, c, d]) : ∃ t u v z, items = [.str a t, .str b u, .str c v, .str d z] := by
  obtain _ | ⟨_, _, h⟩ := h
  obtain ⟨t, u, v, rfl⟩ := three_words h
  exact ⟨_, _, _, _, rfl⟩
theorem News.got {h₀ h : Heap} {L a : Addr} {o : Obj} {news : List (Addr × Obj)} (N : News h₀ L h news) (hm : (a, o) ∈ news) : h.get? a = some o := (N _ hm).1
theorem News.off {h₀ h : Heap} {L a : Addr} {o : Obj} {news : List (Addr × Obj)} (N : News h₀ L h news) (hm : (a, o) ∈ news) : h₀.get? a = none := (N _ hm).2.2
/-- an address stands apart from those of a list -/
def OffAll (d : Addr) (l : List Addr) : Prop := ∀ a ∈ l, @Ne Nat a d
theorem OffAll.ne {d a : Addr} {l : List Addr} (h : OffAll d l) (ha : a ∈ l) : @Ne Nat a d := h a ha
theorem OffAll.en {d a : Addr} {l : List Addr} (h : OffAll d l) (ha : a ∈ l) : @Ne Nat d a := Ne.symm (h a ha)
theorem News.offAll {h₀ h : Heap} {L D : Addr} {news : List (Addr × Obj)} (N : News h₀ L h news) (hD : h.get? D = none) : OffAll D (news.map Prod.fst) := fun a ha e => by
  obtain ⟨p, hp, rfl⟩ := List.mem_map.mp ha
  have q := (N p hp).1
  have e : p.1 = D := e
  rw [e, hD] at q
  cases q
def nine : List Str := ["ARRIVAL", "CC", "DATE", "DISPLAYFROM", "DISPLAYTO", "FROM", "SIZE", "SUBJECT", "TO"]
abbrev nineL : List Str := [⟨#[65, 82, 82, 73, 86, 65, 76]⟩, ⟨#[67, 67]⟩, ⟨#[68, 65, 84, 69]⟩, ⟨#[68, 73, 83, 80, 76, 65, 89, 70, 82, 79, 77]⟩, ⟨#[68, 73, 83, 80, 76, 65, 89, 84, 79]⟩, ⟨#[70, 82, 79, 77]⟩, ⟨#[83, 73, 90, 69]⟩, ⟨#[83, 85, 66, 74, 69, 67, 84]⟩, ⟨#[84, 79]⟩]
theorem nine_eq : nineL = nine := by decide +kernel
set_option maxHeartbeats 4000000 in
theorem sort_words_code {w : World} {s : Shared} {R : Result → Shared → Prop} {e1 e2 : Env} (G : Gd w ((callerA.deeper e1).deeper e2) s)
  (hR : ∀ h' tk D c items, StrsAre items nine → h'.get? D = some (W.listOf items.toArray c) → s.heap.get? D = none → s.heap.StaysIn h' → R (.ok (.ret (.ref D))) { s with heap := h', toks := tk }) :
  codeAny (model PySem.Challenge.pw_nz0274_01 w) ((callerA.deeper e1).deeper e2) (.call (.ref 73) ⟨[], []⟩) R s := by
  w_top off
  obtain ⟨A₀, base, outer, h₀, L, m, env, p, loose, mean, mg, mb, B, F, X, T, hA, hf, hke⟩ := G
  refine enterP B F X T hA hf hke (by k_is) (by k_is) (by k_room) (BindsTo.of_eq rfl) (locs rfl) ?_ (by decide)
  clear B F X T hA hf hke
  intro L' h₁ F N B X T
  k_steps
  (rename News _ _ _ _ => Nz)
  have q := Nz _ (List.Mem.head _)
  exact hR _ _ _ _ _ (nine_eq ▸ (by assumption : StrsAre _ nineL)) q.1 q.2.2 (Fr.keep (by assumption))
/-- a text that upper_text leaves as it is -/
structure UpText (x : Str) : Prop where
  join : Txt.join (Str.ofString "") (signsOf x) = x
  size : x.cps.size ≤ 20
  up : ∀ c ∈ x.cps.toList, c < 97
  room : ((signsOf x).map (·.length)).sum + (signsOf x).length * 64 ≤ 16777216
theorem up_size : UpText "SIZE" := ⟨upper_size.1, by decide +kernel, fun c hc => of_decide_eq_true (List.all_eq_true.mp upper_size.2.1 c hc), upper_size.2.2⟩
theorem up_subject : UpText "SUBJECT" := ⟨upper_subject.1, by decide +kernel, fun c hc => of_decide_eq_true (List.all_eq_true.mp upper_subject.2.1 c hc), upper_subject.2.2⟩
theorem up_reverse : UpText "REVERSE" := ⟨upper_reverse.1, by decide +kernel, fun c hc => of_decide_eq_true (List.all_eq_true.mp upper_reverse.2.1 c hc), upper_reverse.2.2⟩
theorem upper_step {w : World} {s : Shared} {e1 e2 : Env} {base h₀ : Heap} {outer : List Env} {L : Addr} {m : Str → Option Value} {p : Program} {loose : List Str} {mean : ExcName → Option Value} {mg mb : Str → Option Value} {all : List (Addr × Obj)} {E : Value → Shared → Prop} {Q : Value → Shared → Prop} {x : Str} {t : Tok} (B : Below (callerA.deeper e1) base outer h₀ := by assumption) (F : Fr h₀ L s.heap m := by assumption) (N : News h₀ L s.heap all := by assumption) (X : (hd.heap_39 w.params).In h₀ := by assumption) (T : Top p loose mean mg mb h₀ := by assumption) (hf : e2.frame = some L := by rfl) (hke : e2.scope.kind = .function := by rfl) (hU : UpText x := by first | exact up_size | exact up_subject | exact up_reverse)
    (h : ∀ h' tk t', Fr h₀ L h' m → News h₀ L h' all → Q (.str x t') { s with heap := h', toks := tk }) :
    wpAny (model PySem.Challenge.pw_nz0274_01 w) ((callerA.deeper e1).deeper e2) (call (.ref 66) [.str x t] []) Q E s := by
  refine wpAny_call ?_
  refine upper_code (Gd.mk' B F X T hf hke) hU.join hU.size hU.up hU.room ?_
  intro h' tk t' hk'
  exact h h' tk t' (Fr.keeps F hk') (News.grown N hk')
theorem sort_words_step {w : World} {s : Shared} {e1 e2 : Env} {base h₀ : Heap} {outer : List Env} {L : Addr} {m : Str → Option Value} {p : Program} {loose : List Str} {mean : ExcName → Option Value} {mg mb : Str → Option Value} {all : List (Addr × Obj)} {E : Value → Shared → Prop} {Q : Value → Shared → Prop} (B : Below (callerA.deeper e1) base outer h₀ := by assumption) (F : Fr h₀ L s.heap m := by assumption) (N : News h₀ L s.heap all := by assumption) (X : (hd.heap_39 w.params).In h₀ := by assumption) (T : Top p loose mean mg mb h₀ := by assumption) (hf : e2.frame = some L := by rfl) (hke : e2.scope.kind = .function := by rfl)
    (h : ∀ h' tk D c items, StrsAre items nine → Fr h₀ L h' m → News h₀ L h' ((D, W.listOf items.toArray c) :: all) → OffAll D (all.map Prod.fst) → Q (.ref D) { s with heap := h', toks := tk }) :
    wpAny (model PySem.Challenge.pw_nz0274_01 w) ((callerA.deeper e1).deeper e2) (call (.ref 73) [] []) Q E s := by
  refine wpAny_call ?_
  refine sort_words_code (Gd.mk' B F X T hf hke) ?_
  intro h' tk D c items hI hD0 hD1 hk'
  exact h h' tk D c items hI (Fr.keeps F hk') (News.put F N hk' hD1 hD0) (News.offAll N hD1)
local macro_rules | `(tactic| walk_at "call ref") => `(tactic| (k_here; refine upper_step (h := ?_); intro h' tk t' F' N'; k_sweep; (try dsimp only)))
local macro_rules | `(tactic| walk_at "call ref") => `(tactic| (k_here; refine sort_words_step (h := ?_); intro h' tk D' c items hI F' N' l1; (dsimp only [List.map] at l1); k_sweep))
theorem nine_size : (nine.any (· == Str.ofString "SIZE")) = true := by decide +kernel
theorem nine_subject : (nine.any (· == Str.ofString "SUBJECT")) = true := by decide +kernel
theorem in_nine {prog : Program} {w : World} {A : Around} {E : Value → Shared → Prop} {s : Shared} {h₀ : Heap} {L l : Addr} {news : List (Addr × Obj)} {vs : List Value} {c : Nat} {k : Str} {t : Tok} {Q : Value → Shared → Prop} (N : News h₀ L s.heap news := by assumption) (hm : (l, W.listOf vs.toArray c) ∈ news := by k_mem) (hi : StrsAre vs nine := by assumption) (hk : (nine.any (· == k)) = true := by first | exact nine_size | exact nine_subject)
    (h : Q (.bool true) s) : wpAny (model prog w) A (compareOp .In (.str k t) (.ref l)) Q E s := in_list_strs (News.isList N hm) hi (by rw [hk]; exact h)
local macro_rules | `(tactic| walk_at "compareOp In str ref") => `(tactic| (k_here; refine in_nine (h := ?_)))
local macro_rules | `(tactic| walk_at "exec For Tuple Call cons nil") => `(tactic| (k_here; (rename Fr _ _ _ _ => lF'); (with_unfolding_all refine' For_turns lF' ?_; k_whole)))
local macro_rules | `(tactic| walk_at "call type:enumerate") => `(tactic| (k_here; (with_unfolding_all refine enum_step (h := ?_)); intro i' l1; (try k_lt l1)))
local macro_rules | `(tactic| k_ne) => `(tactic| (refine neN ?_; (try dsimp only); first | exact OffAll.ne (by assumption) (by k_mem) | exact OffAll.en (by assumption) (by k_mem)))
set_option maxHeartbeats 4000000 in
theorem read_code {w : World} {s : Shared} {R : Result → Shared → Prop} {e1 : Env} (G : Gd w (callerA.deeper e1) s) {oa : Addr} {b1 b2 : Bool} {items : List Value} (hi : StrsAre items (wordsOf b1 b2)) (hl : s.heap.IsList oa items.toArray)
  (hR : ∀ h' tk D p q c t u, h'.get? D = some (W.listOf #[.ref p, .ref q] c) → h'.get? p = some { cls := Value.type "tuple", data := Data.seq #[.str "SIZE" t, .bool b1] } → h'.get? q = some { cls := Value.type "tuple", data := Data.seq #[.str "SUBJECT" u, .bool b2] } → s.heap.get? D = none → s.heap.get? p = none → s.heap.get? q = none → s.heap.StaysIn h' → R (.ok (.ret (.ref D))) { s with heap := h', toks := tk }) :
  codeAny (model PySem.Challenge.pw_nz0274_01 w) (callerA.deeper e1) (.call (.ref 80) ⟨[.ref oa], []⟩) R s := by
  w_top off
  obtain ⟨A₀, base, outer, h₀, L, m, env, p, loose, mean, mg, mb, B, F, X, T, hA, hf, hke⟩ := G
  refine enterP B F X T hA hf hke (by k_is) (by k_is) (by k_room) (BindsTo.of_eq rfl) (locs rfl) ?_ (by decide)
  clear B F X T hA hf hke
  intro L' h₁ F N B X T
  cases b1 <;> cases b2
  · obtain ⟨t1, t2, rfl⟩ := two_words hi
    k_steps
    dsimp only
    (rename News _ _ _ _ => Nz)
    exact hR _ _ _ _ _ _ _ _ (News.got Nz (by k_mem)) (News.got Nz (by k_mem)) (News.got Nz (by k_mem)) (News.off Nz (by k_mem)) (News.off Nz (by k_mem)) (News.off Nz (by k_mem)) (Fr.keep (by assumption))
  · obtain ⟨t1, t2, t3, rfl⟩ := three_words hi
    k_steps
    dsimp only
    (rename News _ _ _ _ => Nz)
    exact hR _ _ _ _ _ _ _ _ (News.got Nz (by k_mem)) (News.got Nz (by k_mem)) (News.got Nz (by k_mem)) (News.off Nz (by k_mem)) (News.off Nz (by k_mem)) (News.off Nz (by k_mem)) (Fr.keep (by assumption))
  · obtain ⟨t1, t2, t3, rfl⟩ := three_words hi
    k_steps
    dsimp only
    (rename News _ _ _ _ => Nz)
    exact hR _ _ _ _ _ _ _ _ (News.got Nz (by k_mem)) (News.got Nz (by k_mem)) (News.got Nz (by k_mem)) (News.off Nz (by k_mem)) (News.off Nz (by k_mem)) (News.off Nz (by k_mem)) (Fr.keep (by assumption))
  · obtain ⟨t1, t2, t3, t4, rfl⟩ := four_words hi
    k_steps
    dsimp only
    (rename News _ _ _ _ => Nz)
    exact hR _ _ _ _ _ _ _ _ (News.got Nz (by k_mem)) (News.got Nz (by k_mem)) (News.got Nz (by k_mem)) (News.off Nz (by k_mem)) (News.off Nz (by k_mem)) (News.off Nz (by k_mem)) (Fr.keep (by assumption))
end
section
local macro_rules | `(tactic| walk_at "exec For Tuple Name cons nil") => `(tactic| (k_here; (rename Fr _ _ _ _ => lF'); (with_unfolding_all refine' For_turns lF' ?_; k_whole)))
local macro_rules | `(tactic| walk_at "pyIter ref") => `(tactic| (k_here; (rename Fr _ _ _ _ => lF'); (rename News _ _ _ _ => lN'); (refine list_base (vs := [_, _]) (by rfl) lF' lN' (by assumption) ?_); clear lF' lN'; intro i' l1; (try k_lt l1); dsimp only [List.map]))
local macro_rules | `(tactic| walk_at "execs cons") => `(tactic| k_fold)
set_option maxHeartbeats 4000000 in
theorem show_code {w : World} {s : Shared} {R : Result → Shared → Prop} {e1 : Env} (G : Gd w (callerA.deeper e1) s) {ka pa qa : Addr} {b1 b2 : Bool} {t u : Tok} (hl : s.heap.IsList ka #[.ref pa, .ref qa])
  (hp : IsTup s.heap pa #[.str (Str.ofString "SIZE") t, .bool b1]) (hq : IsTup s.heap qa #[.str (Str.ofString "SUBJECT") u, .bool b2])
  (hR : ∀ h' tk D c items, StrsAre items (wordsOf b1 b2) → h'.get? D = some (W.listOf items.toArray c) → s.heap.get? D = none → s.heap.StaysIn h' → R (.ok (.ret (.ref D))) { s with heap := h', toks := tk }) :
  codeAny (model PySem.Challenge.pw_nz0274_01 w) (callerA.deeper e1) (.call (.ref 87) ⟨[.ref ka], []⟩) R s := by
  w_top off
  obtain ⟨A₀, base, outer, h₀, L, m, env, p, loose, mean, mg, mb, B, F, X, T, hA, hf, hke⟩ := G
  refine enterP B F X T hA hf hke (by k_is) (by k_is) (by k_room) (BindsTo.of_eq rfl) (locs rfl) ?_ (by decide)
  clear B F X T hA hf hke
  intro L' h₁ F N B X T
  cases b1 <;> cases b2
  all_goals k_steps
  all_goals (dsimp only; (rename News _ _ _ _ => Nz))
  all_goals first
    | exact hR _ _ _ _ _ (.cons _ _ (.cons _ _ (.cons _ _ (.cons _ _ .nil)))) (News.got Nz (by k_mem)) (News.off Nz (by k_mem)) (Fr.keep (by assumption))
    | exact hR _ _ _ _ _ (.cons _ _ (.cons _ _ (.cons _ _ .nil))) (News.got Nz (by k_mem)) (News.off Nz (by k_mem)) (Fr.keep (by assumption))
    | exact hR _ _ _ _ _ (.cons _ _ (.cons _ _ .nil)) (News.got Nz (by k_mem)) (News.off Nz (by k_mem)) (Fr.keep (by assumption))
end
section
section
variable {b1 b2 : Bool}
def Ahead (b1 b2 : Bool) (r q : RowD) : Prop :=
  (r.x ≠ q.x ∧ (if b1 then q.x < r.x else r.x < q.x)) ∨ (r.x = q.x ∧ r.k.val ≠ q.k.val ∧ (if b2 then q.k.val < r.k.val else r.k.val < q.k.val)) ∨ (r.x = q.x ∧ r.k.val = q.k.val ∧ r.n < q.n)
theorem ahead_iff {r q : RowD} : ahead b1 b2 r q = true ↔ Ahead b1 b2 r q := by
  unfold ahead Ahead
  have hk : (r.k ≠ q.k) ↔ (r.k.val ≠ q.k.val) := not_congr Fin.ext_iff
  have hl : (r.k < q.k) ↔ (r.k.val < q.k.val) := Iff.rfl
  by_cases hx : r.x = q.x
  · by_cases hv : r.k.val = q.k.val
    · have : r.k = q.k := Fin.ext hv
      simp [hx, this]
    · have hv' : r.k ≠ q.k := hk.mpr hv
      cases b2 <;> simp [hx, hv, hv', hl]
      omega
  · cases b1 <;> simp [hx]
    omega
theorem up_ne {b : Bool} {x y : Int} (h : if b then y < x else x < y) : x ≠ y := by cases b <;> simp only [if_true, if_false, Bool.false_eq_true] at h <;> omega
theorem up_tri {b : Bool} {x y : Int} (h : x ≠ y) (h' : ¬ if b then y < x else x < y) : if b then x < y else y < x := by cases b <;> simp only [if_true, if_false, Bool.false_eq_true] at h' ⊢ <;> omega
theorem up_trans {b : Bool} {x y z : Int} (h : if b then y < x else x < y) (h' : if b then z < y else y < z) : if b then z < x else x < z := by cases b <;> simp only [if_true, if_false, Bool.false_eq_true] at h h' ⊢ <;> omega
theorem upn_ne {b : Bool} {x y : Nat} (h : if b then y < x else x < y) : x ≠ y := by cases b <;> simp only [if_true, if_false, Bool.false_eq_true] at h <;> omega
theorem upn_tri {b : Bool} {x y : Nat} (h : x ≠ y) (h' : ¬ if b then y < x else x < y) : if b then x < y else y < x := by cases b <;> simp only [if_true, if_false, Bool.false_eq_true] at h' ⊢ <;> omega
theorem upn_trans {b : Bool} {x y z : Nat} (h : if b then y < x else x < y) (h' : if b then z < y else y < z) : if b then z < x else x < z := by cases b <;> simp only [if_true, if_false, Bool.false_eq_true] at h h' ⊢ <;> omega
theorem ahead_total {r q : RowD} (h : r.n ≠ q.n) (hf : ahead b1 b2 r q = false) : ahead b1 b2 q r = true := by
  have hf : ¬ Ahead b1 b2 r q := fun x => by rw [ahead_iff.mpr x] at hf; cases hf
  refine ahead_iff.mpr ?_
  by_cases hx : r.x = q.x
  · by_cases hk : r.k.val = q.k.val
    · have z : ¬ r.n < q.n := fun u => hf (.inr (.inr ⟨hx, hk, u⟩))
      exact .inr (.inr ⟨hx.symm, hk.symm, by omega⟩)
    · exact .inr (.inl ⟨hx.symm, Ne.symm hk, upn_tri hk fun u => hf (.inr (.inl ⟨hx, hk, u⟩))⟩)
  · exact .inl ⟨Ne.symm hx, up_tri hx fun u => hf (.inl ⟨hx, u⟩)⟩
theorem ahead_trans {r q p : RowD} (h : ahead b1 b2 r q = true) (h' : ahead b1 b2 q p = true) : ahead b1 b2 r p = true := by
  have h := ahead_iff.mp h
  have h' := ahead_iff.mp h'
  refine ahead_iff.mpr ?_
  rcases h with ⟨n1, u⟩ | ⟨e1, n1, u⟩ | ⟨e1, e2, u⟩
  · rcases h' with ⟨m1, v⟩ | ⟨d1, _⟩ | ⟨d1, _⟩
    · have t := up_trans u v
      exact .inl ⟨up_ne t, t⟩
    · rw [d1] at n1 u; exact .inl ⟨n1, u⟩
    · rw [d1] at n1 u; exact .inl ⟨n1, u⟩
  · rcases h' with ⟨m1, v⟩ | ⟨d1, m1, v⟩ | ⟨d1, d2, _⟩
    · rw [← e1] at m1 v; exact .inl ⟨m1, v⟩
    · have t := upn_trans u v
      exact .inr (.inl ⟨e1.trans d1, upn_ne t, t⟩)
    · rw [d2] at n1 u; exact .inr (.inl ⟨e1.trans d1, n1, u⟩)
  · rcases h' with ⟨m1, v⟩ | ⟨d1, m1, v⟩ | ⟨d1, d2, v⟩
    · rw [← e1] at m1 v; exact .inl ⟨m1, v⟩
    · rw [← e2] at m1 v; exact .inr (.inl ⟨e1.trans d1, m1, v⟩)
    · exact .inr (.inr ⟨e1.trans d1, e2.trans d2, Int.lt_trans u v⟩)
theorem ahead_asymm {r q : RowD} (h : ahead b1 b2 r q = true) : ahead b1 b2 q r = false := by
  cases e : ahead b1 b2 q r with
  | false => rfl
  | true => rw [← ahead_trans h e, ahead_irrefl]
def Srt (b1 b2 : Bool) (l : List RowD) : Prop := l.Pairwise fun r q => ahead b1 b2 r q = true
def Apart (l : List RowD) : Prop := l.Pairwise fun r q => r.n ≠ q.n
theorem Apart.perm {l l' : List RowD} (h : Apart l) (p : l.Perm l') : Apart l' := p.pairwise h fun e => Ne.symm e
theorem merge_perm : ∀ (xs ys : List RowD), (merge b1 b2 xs ys).Perm (xs ++ ys)
  | [], ys => by simp only [merge]; exact .rfl
  | x :: xs, [] => by simp only [merge]; rw [List.append_nil]
  | x :: xs, y :: ys => by
    simp only [merge]
    split
    · exact (merge_perm xs (y :: ys)).cons x
    · refine ((merge_perm (x :: xs) ys).cons y).trans ?_
      exact (List.perm_middle (l₁ := x :: xs)).symm
termination_by xs ys => xs.length + ys.length
theorem merge_srt : ∀ (xs ys : List RowD), Srt b1 b2 xs → Srt b1 b2 ys → (∀ x ∈ xs, ∀ y ∈ ys, x.n ≠ y.n) → Srt b1 b2 (merge b1 b2 xs ys)
  | [], ys, _, h, _ => by simp only [merge]; exact h
  | x :: xs, [], h, _, _ => by simp only [merge]; exact h
  | x :: xs, y :: ys, h, h', hn => by
    simp only [merge]
    split
    · rename_i e
      refine List.pairwise_cons.mpr ⟨fun r hr => ?_, merge_srt xs (y :: ys) (List.pairwise_cons.mp h).2 h' fun a ha b hb => hn a (.tail _ ha) b hb⟩
      rcases List.mem_append.mp ((merge_perm xs (y :: ys)).mem_iff.mp hr) with hr | hr
      · exact (List.pairwise_cons.mp h).1 r hr
      · rcases List.mem_cons.mp hr with rfl | hr
        · exact e
        · exact ahead_trans e ((List.pairwise_cons.mp h').1 r hr)
    · rename_i e
      have e' : ahead b1 b2 y x = true := ahead_total (hn x (.head _) y (.head _)) (by simpa using e)
      refine List.pairwise_cons.mpr ⟨fun r hr => ?_, merge_srt (x :: xs) ys h (List.pairwise_cons.mp h').2 fun a ha b hb => hn a ha b (.tail _ hb)⟩
      rcases List.mem_append.mp ((merge_perm (x :: xs) ys).mem_iff.mp hr) with hr | hr
      · rcases List.mem_cons.mp hr with rfl | hr
        · exact e'
        · exact ahead_trans e' ((List.pairwise_cons.mp h).1 r hr)
      · exact (List.pairwise_cons.mp h').1 r hr
termination_by xs ys => xs.length + ys.length
/-- two sorted lists of the same rows are one -/
theorem srt_one : ∀ {xs ys : List RowD}, Srt b1 b2 xs → Srt b1 b2 ys → xs.Perm ys → xs = ys
  | [], ys, _, _, p => (p.symm.eq_nil).symm
  | x :: xs, [], _, _, p => p.eq_nil
  | x :: xs, y :: ys, h, h', p => by
    have hx : x = y := by
      rcases List.mem_cons.mp (p.mem_iff.mp (List.mem_cons_self ..)) with e | hm
      · exact e
      · rcases List.mem_cons.mp (p.mem_iff.mpr (List.mem_cons_self ..)) with e | hm'
        · exact e.symm
        · have a1 := (List.pairwise_cons.mp h').1 x hm
          have a2 := (List.pairwise_cons.mp h).1 y hm'
          rw [ahead_asymm a1] at a2
          cases a2
    subst hx
    rw [srt_one (List.pairwise_cons.mp h).2 (List.pairwise_cons.mp h').2 p.cons_inv]
/-- a sorted list of given rows -/
def srt (b1 b2 : Bool) : List RowD → List RowD
  | [] => []
  | r :: l => merge b1 b2 [r] (srt b1 b2 l)
theorem srt_perm : ∀ (l : List RowD), (srt b1 b2 l).Perm l
  | [] => .rfl
  | r :: l => (merge_perm [r] _).trans ((srt_perm l).cons r)
theorem srt_srt : ∀ {l : List RowD}, Apart l → Srt b1 b2 (srt b1 b2 l)
  | [], _ => .nil
  | r :: l, h => merge_srt _ _ (List.pairwise_singleton ..) (srt_srt (List.pairwise_cons.mp h).2) fun x hx y hy => by
    rw [List.mem_singleton.mp hx]
    exact (List.pairwise_cons.mp h).1 y ((srt_perm l).mem_iff.mp hy)
theorem rank_perm {l l' : List RowD} (p : l.Perm l') (r : RowD) : rankIn b1 b2 l r = rankIn b1 b2 l' r := (p.filter _).length_eq
theorem rank_srt {l : List RowD} (h : Srt b1 b2 l) {i : Nat} (hi : i < l.length) : rankIn b1 b2 l l[i] = i := by
  have e : l = l.take i ++ l.drop i := (List.take_append_drop i l).symm
  have e1 : (l.take i).filter (fun q => ahead b1 b2 q l[i]) = l.take i := by
    refine List.filter_eq_self.mpr fun q hq => ?_
    obtain ⟨j, hj, rfl⟩ := List.getElem_of_mem hq
    rw [List.getElem_take]
    have hj' : j < i := by
      rw [List.length_take] at hj
      omega
    exact List.pairwise_iff_getElem.mp h j i _ hi hj'
  have e2 : (l.drop i).filter (fun q => ahead b1 b2 q l[i]) = [] := by
    refine List.filter_eq_nil_iff.mpr fun q hq => ?_
    obtain ⟨j, hj, rfl⟩ := List.getElem_of_mem hq
    rw [List.getElem_drop]
    by_cases hz : j = 0
    · subst hz
      simp [ahead_irrefl]
    · rw [List.length_drop] at hj
      have a := List.pairwise_iff_getElem.mp h i (i + j) hi (by omega) (by omega)
      rw [ahead_asymm a]
      exact Bool.false_ne_true
  show (l.filter fun q => ahead b1 b2 q l[i]).length = i
  calc (l.filter fun q => ahead b1 b2 q l[i]).length = ((l.take i ++ l.drop i).filter fun q => ahead b1 b2 q l[i]).length := by rw [← e]
    _ = i := by rw [List.filter_append, e1, e2, List.append_nil, List.length_take]; omega
theorem place_len (xs : List RowD) : ∀ (todo f : List RowD), (place b1 b2 xs todo f).length = f.length
  | [], f => rfl
  | r :: todo, f => (place_len xs todo _).trans (List.length_set ..)
theorem place_at {xs : List RowD} {i : Nat} {r : RowD} (hr : rankIn b1 b2 xs r = i) : ∀ (todo f : List RowD), (∀ q ∈ todo, rankIn b1 b2 xs q = i → q = r) → i < f.length → r ∈ todo ∨ f[i]? = some r → (place b1 b2 xs todo f)[i]? = some r
  | [], f, _, _, h => h.resolve_left (List.not_mem_nil)
  | q :: todo, f, hu, hi, h => by
    show (place b1 b2 xs todo (f.set (rankIn b1 b2 xs q) q))[i]? = some r
    refine place_at hr todo _ (fun p hp => hu p (.tail _ hp)) (by rw [List.length_set]; exact hi) ?_
    by_cases e : rankIn b1 b2 xs q = i
    · right
      rw [e, hu q (.head _) e, List.getElem?_set_self hi]
    · rcases h with h | h
      · rcases List.mem_cons.mp h with rfl | h
        · exact absurd hr e
        · exact .inl h
      · right
        rw [List.getElem?_set_ne e]
        exact h
theorem place_srt {xs : List RowD} (h : Apart xs) : place b1 b2 xs xs xs = srt b1 b2 xs := by
  have p := srt_perm (b1 := b1) (b2 := b2) xs
  have hs := srt_srt (b1 := b1) (b2 := b2) h
  refine List.ext_getElem? fun i => ?_
  by_cases hi : i < (srt b1 b2 xs).length
  · rw [List.getElem?_eq_getElem hi]
    refine place_at ((rank_perm p.symm _).trans (rank_srt hs hi)) xs xs (fun q hq e => ?_) (by rw [← p.length_eq]; exact hi) (.inl (p.mem_iff.mp (List.getElem_mem hi)))
    obtain ⟨j, hj, rfl⟩ := List.getElem_of_mem (p.mem_iff.mpr hq)
    rw [rank_perm p.symm, rank_srt hs hj] at e
    subst e
    rfl
  · rw [List.getElem?_eq_none (Nat.not_lt.mp hi), List.getElem?_eq_none (by rw [place_len, ← p.length_eq]; exact Nat.not_lt.mp hi)]
theorem srt_of_perm {l l' : List RowD} (p : l.Perm l') (h : Apart l) : srt b1 b2 l = srt b1 b2 l' :=
  srt_one (srt_srt h) (srt_srt (h.perm p)) ((srt_perm l).trans (p.trans (srt_perm l').symm))
theorem merge_sorted {l l' : List RowD} (h : Apart (l ++ l')) : merge b1 b2 (srt b1 b2 l) (srt b1 b2 l') = srt b1 b2 (l ++ l') := by
  have ha := List.pairwise_append.mp h
  refine srt_one (merge_srt _ _ (srt_srt ha.1) (srt_srt ha.2.1) fun x hx y hy => ha.2.2 x ((srt_perm l).mem_iff.mp hx) y ((srt_perm l').mem_iff.mp hy)) (srt_srt h) ?_
  exact (merge_perm _ _).trans (((srt_perm l).append (srt_perm l')).trans (srt_perm _).symm)
theorem merge_nil_right (l : List RowD) : merge b1 b2 l [] = l := by
  cases l <;> simp only [merge]
theorem merge_nil_left (l : List RowD) : merge b1 b2 [] l = l := by simp only [merge]

/-- the law, in plain words -/
theorem plain {xs l0 l1 l2 : List RowD} (h : Apart xs) (p : xs.Perm (l0 ++ l1 ++ l2)) :
    merge b1 b2 (merge b1 b2 (place b1 b2 l0 l0 l0) (place b1 b2 l1 l1 l1)) (place b1 b2 l2 l2 l2) = place b1 b2 xs xs xs ∧
    merge b1 b2 (merge b1 b2 (place b1 b2 l2 l2 l2) (place b1 b2 l1 l1 l1)) (place b1 b2 l0 l0 l0) = place b1 b2 xs xs xs ∧
    merge b1 b2 (place b1 b2 l1 l1 l1) (merge b1 b2 (place b1 b2 l2 l2 l2) (place b1 b2 l0 l0 l0)) = place b1 b2 xs xs xs := by
  have h012 := h.perm p
  have h01 := (List.pairwise_append.mp h012).1
  have h2 : Apart l2 := (List.pairwise_append.mp h012).2.1
  have h0 : Apart l0 := (List.pairwise_append.mp h01).1
  have h1 : Apart l1 := (List.pairwise_append.mp h01).2.1
  have p210 : (l0 ++ l1 ++ l2).Perm (l2 ++ l1 ++ l0) := by
    refine List.perm_append_comm.trans ?_
    rw [List.append_assoc]
    exact List.Perm.append_left _ List.perm_append_comm
  have h210 := h012.perm p210
  have h21 := (List.pairwise_append.mp h210).1
  have p120 : (l0 ++ l1 ++ l2).Perm (l1 ++ (l2 ++ l0)) := by
    rw [List.append_assoc, ← List.append_assoc l1]
    exact List.perm_append_comm
  have h120 := h012.perm p120
  have h20 := (List.pairwise_append.mp h120).2.1
  rw [place_srt h, place_srt h0, place_srt h1, place_srt h2]
  refine ⟨?_, ?_, ?_⟩
  · rw [merge_sorted h01, merge_sorted h012, srt_of_perm p h]
  · rw [merge_sorted h21, merge_sorted h210, srt_of_perm (p.trans p210) h]
  · rw [merge_sorted h20, merge_sorted h120, srt_of_perm (p.trans p120) h]
theorem place_perm {xs : List RowD} (h : Apart xs) : (place b1 b2 xs xs xs).Perm xs := by rw [place_srt h]; exact srt_perm xs
theorem sorted_is {xs ws : List RowD} (h : Apart xs) (hpos : ∀ r ∈ xs, 0 ≤ r.n ∧ 0 ≤ r.x) (p : ws.Perm xs) (hs : ws.Pairwise (SortedBy gX b1 (SortedBy gK b2 (SortedBy gN false fun _ _ => True)))) : ws = place b1 b2 xs xs xs := by
  rw [place_srt h]
  refine srt_one ?_ (srt_srt h) (p.trans (srt_perm xs).symm)
  have hb := (h.perm p.symm).and hs
  refine hb.imp_of_mem fun {a b} ha hb hab => ahead_iff.mpr ?_
  obtain ⟨hne, hab⟩ := hab
  have pa := hpos a (p.mem_iff.mp ha)
  have pb := hpos b (p.mem_iff.mp hb)
  clear hb hs h p hpos
  rcases hab with u | ⟨e, u | ⟨e2, u | ⟨e3, _⟩⟩⟩
  · have t : if b1 then b.x < a.x else a.x < b.x := by
      revert u
      unfold gX
      cases b1 <;> simp only [if_true, if_false, Bool.false_eq_true] <;> omega
    exact .inl ⟨up_ne t, t⟩
  · have e' : a.x = b.x := by unfold gX at e; omega
    exact .inr (.inl ⟨e', upn_ne u, u⟩)
  · have e' : a.x = b.x := by unfold gX at e; omega
    have u' : a.n < b.n := by
      have u : gN a < gN b := u
      unfold gN at u; omega
    exact .inr (.inr ⟨e', e2, u'⟩)
  · exact absurd (by unfold gN at e3; omega) hne
end
end
section
/-- a row, a list of rows, a list of three of them, as data -/
def rowData (r : RowD) : PyData := .tuple [.int r.n, .list [.int r.x, .str (txt r.k)]]
def listData (xs : List RowD) : PyData := .list (xs.map rowData)
def partsData (a b c : List RowD) : PyData := .list [listData a, listData b, listData c]
theorem reads_row {h : Heap} {r : RowD} (x : RowAt h r) : Reads h (.ref r.a) (rowData r) [r.l] := by
  obtain ⟨⟨o, ho, hc, n, hd⟩, ⟨o', ho', hc', n', hd'⟩⟩ := x
  exact reads_tuple_at ho hc hd (.cons (.int _ _) (.cons (reads_list_at ho' hc' hd' (.cons (.int _ _) (.cons (.str _ _) .nil))) .nil))
theorem reads_rows {h : Heap} : ∀ {xs : List RowD}, (∀ r ∈ xs, RowAt h r) → ∃ as, ReadsAll h (rvs xs) (xs.map rowData) as
  | [], _ => ⟨_, .nil⟩
  | r :: xs, hx => by
    obtain ⟨as, ha⟩ := reads_rows (xs := xs) fun q hq => hx q (.tail _ hq)
    exact ⟨_, .cons (reads_row (hx r (.head _))) ha⟩
theorem reads_list {h : Heap} {a : Addr} {n : Nat} {xs : List RowD} (hx : ∀ r ∈ xs, RowAt h r) (ha : h.get? a = some (W.listOf (rvs xs).toArray n)) : ∃ as, Reads h (.ref a) (listData xs) as := by
  obtain ⟨as, hr⟩ := reads_rows hx
  exact ⟨_, reads_list_at ha rfl rfl hr⟩
theorem row_lay (r : RowD) : (rowData r).canLay0 = true := by
  have h : ∀ k, PyData.strOk (txt k) = true := by decide +kernel
  simp [rowData, PyData.canLay0, PyData.canLayAll0, h]
theorem rows_lay : ∀ xs : List RowD, PyData.canLayAll0 (xs.map rowData) = true
  | [] => rfl
  | r :: xs => by
    show (PyData.canLay0 (rowData r) && PyData.canLayAll0 (xs.map rowData)) = true
    rw [row_lay, rows_lay xs]; rfl
theorem row_depth (r : RowD) : (rowData r).depth = 2 := by simp [rowData, PyData.depth, PyData.depthAll]
theorem rows_depth : ∀ xs : List RowD, PyData.depthAll (xs.map rowData) ≤ 2
  | [] => by simp [PyData.depthAll]
  | r :: xs => by
    show max (PyData.depth (rowData r)) (PyData.depthAll (xs.map rowData)) ≤ 2
    have := rows_depth xs
    rw [row_depth]
    omega
theorem list_depth (xs : List RowD) : (listData xs).depth ≤ 3 := by
  have := rows_depth xs
  simp only [listData, PyData.depth]
  omega
theorem list_shaped (xs : List RowD) : SeqAt.shaped (listData xs) = true := by
  have h1 := list_depth xs
  have h2 : (listData xs).canLay0 = true := by simp only [listData, PyData.canLay0]; exact rows_lay xs
  unfold SeqAt.shaped
  rw [h2, decide_eq_true (by omega)]
  rfl
theorem parts_shaped (a b c : List RowD) : SeqAt.shaped (partsData a b c) = true := by
  have ha := list_depth a
  have hb := list_depth b
  have hc := list_depth c
  have l : ∀ xs, (listData xs).canLay0 = true := fun xs => by simp only [listData, PyData.canLay0]; exact rows_lay xs
  have h1 : (partsData a b c).depth ≤ 4 := by
    simp only [partsData, PyData.depth, PyData.depthAll]
    omega
  have h2 : (partsData a b c).canLay0 = true := by simp only [partsData, PyData.canLay0, PyData.canLayAll0, l, Bool.and_true]
  unfold SeqAt.shaped
  rw [h2, decide_eq_true (by omega)]
  rfl
theorem row_same (r : RowD) : PyData.eqv (rowData r) (rowData r) = true := by simp [rowData, PyData.eqv, PyData.eqvAll]
theorem rows_same : ∀ xs : List RowD, PyData.eqvAll (xs.map rowData) (xs.map rowData) = true
  | [] => by simp [PyData.eqvAll]
  | r :: xs => by
    show PyData.eqvAll (rowData r :: xs.map rowData) (rowData r :: xs.map rowData) = true
    simp only [PyData.eqvAll, row_same, rows_same xs, Bool.and_true]
theorem list_same (xs : List RowD) : PyData.eqv (listData xs) (listData xs) = true := by simp only [listData, PyData.eqv, rows_same]
theorem parts_same (a b c : List RowD) : PyData.eqv (partsData a b c) (partsData a b c) = true := by simp only [partsData, PyData.eqv, PyData.eqvAll, list_same, Bool.and_true]
section
variable {prog : Program} {w : World} {A : Around} {E : Value → Shared → Prop} {s : Shared} {a b : Addr} {n n' : Nat} {xs ys : List RowD} {Q : Value → Shared → Prop}
theorem ne_rows (ha : s.heap.get? a = some (W.listOf (rvs xs).toArray n)) (hb : s.heap.get? b = some (W.listOf (rvs ys).toArray n')) (e : xs = ys) (hx : ∀ r ∈ ys, RowAt s.heap r) (hu : A.units + 64 < cLine) (h : Q (.bool false) s) :
    wpAny (model prog w) A (compareOp .NotEq (.ref a) (.ref b)) Q E s := by
  subst e
  obtain ⟨as, ra⟩ := reads_list hx ha
  obtain ⟨bs, rb⟩ := reads_list hx hb
  refine ne_dataH ra rb (list_shaped _) (list_shaped _) hu ?_
  rw [list_same]
  exact h
theorem ne_parts {a0 a1 a2 c0 c1 c2 : Addr} {n0 n1 n2 k0 k1 k2 : Nat} {x0 x1 x2 : List RowD}
    (ha : s.heap.get? a = some (W.listOf #[.ref a0, .ref a1, .ref a2] n)) (hb : s.heap.get? b = some (W.listOf #[.ref c0, .ref c1, .ref c2] n'))
    (ha0 : s.heap.get? a0 = some (W.listOf (rvs x0).toArray n0)) (ha1 : s.heap.get? a1 = some (W.listOf (rvs x1).toArray n1)) (ha2 : s.heap.get? a2 = some (W.listOf (rvs x2).toArray n2))
    (hc0 : s.heap.get? c0 = some (W.listOf (rvs x0).toArray k0)) (hc1 : s.heap.get? c1 = some (W.listOf (rvs x1).toArray k1)) (hc2 : s.heap.get? c2 = some (W.listOf (rvs x2).toArray k2)) (h0 : ∀ r ∈ x0, RowAt s.heap r) (h1 : ∀ r ∈ x1, RowAt s.heap r) (h2 : ∀ r ∈ x2, RowAt s.heap r) (hu : A.units + 64 < cLine) (h : Q (.bool false) s) :
    wpAny (model prog w) A (compareOp .NotEq (.ref a) (.ref b)) Q E s := by
  obtain ⟨_, r0⟩ := reads_list h0 ha0
  obtain ⟨_, r1⟩ := reads_list h1 ha1
  obtain ⟨_, r2⟩ := reads_list h2 ha2
  obtain ⟨_, q0⟩ := reads_list h0 hc0
  obtain ⟨_, q1⟩ := reads_list h1 hc1
  obtain ⟨_, q2⟩ := reads_list h2 hc2
  have ra : Reads s.heap (.ref a) (partsData x0 x1 x2) _ := reads_list_at ha rfl rfl (.cons r0 (.cons r1 (.cons r2 .nil)))
  have rb : Reads s.heap (.ref b) (partsData x0 x1 x2) _ := reads_list_at hb rfl rfl (.cons q0 (.cons q1 (.cons q2 .nil)))
  refine ne_dataH ra rb (parts_shaped _ _ _) (parts_shaped _ _ _) hu ?_
  rw [parts_same]
  exact h
end
end
section
def RowIn (tl : List (Addr × Obj)) (r : RowD) : Prop := (r.a, ({ cls := Value.type "tuple", data := Data.seq #[.int r.n r.t, .ref r.l] } : Obj)) ∈ tl ∧ ∃ k, (r.l, W.listOf #[.int r.x r.tx, .str (txt r.k) r.ty] k) ∈ tl
structure Okr (tl : List (Addr × Obj)) (xs : List RowD) : Prop where
  rows : ∀ r ∈ xs, RowIn tl r
  len : xs.length ≤ 40
theorem Okr.perm {tl : List (Addr × Obj)} {xs ys : List RowD} (h : Okr tl xs) (p : ys.Perm xs) : Okr tl ys := ⟨fun r hr => h.rows r (p.mem_iff.mp hr), by rw [p.length_eq]; exact h.len⟩
theorem Okr.part {tl : List (Addr × Obj)} {xs ys : List RowD} (h : Okr tl xs) (hs : ∀ r ∈ ys, r ∈ xs) (hl : ys.length ≤ xs.length) : Okr tl ys := ⟨fun r hr => h.rows r (hs r hr), Nat.le_trans hl h.len⟩
theorem Okr.at {h₀ h : Heap} {L : Addr} {tl all : List (Addr × Obj)} {xs : List RowD} (o : Okr tl xs) (N : News h₀ L h all) (sub : ∀ p ∈ tl, p ∈ all := by intro p hp; repeat' (first | exact hp | refine List.Mem.tail _ ?_)) : ∀ r ∈ xs, RowAt h r := fun r hr => by
  obtain ⟨h1, k, h2⟩ := o.rows r hr
  exact ⟨⟨_, (N _ (sub _ h1)).1, rfl, _, rfl⟩, ⟨_, (N _ (sub _ h2)).1, rfl, _, rfl⟩⟩
theorem keys_at {h₀ h : Heap} {L D p q : Addr} {all : List (Addr × Obj)} {c : Nat} {s1 s2 : Str} {t u : Tok} {b1 b2 : Bool} (N : News h₀ L h all) (hD : (D, W.listOf #[Value.ref p, Value.ref q] c) ∈ all := by k_mem)
    (hp : (p, ({ cls := Value.type "tuple", data := Data.seq #[Value.str s1 t, Value.bool b1] } : Obj)) ∈ all := by k_mem) (hq : (q, ({ cls := Value.type "tuple", data := Data.seq #[Value.str s2 u, Value.bool b2] } : Obj)) ∈ all := by k_mem) : KeysAt h D b1 b2 :=
  ⟨p, q, s1, s2, t, u, News.isList N hD, ⟨_, (N _ hp).1, rfl, _, rfl⟩, ⟨_, (N _ hq).1, rfl, _, rfl⟩⟩
theorem Okr.merge {tl : List (Addr × Obj)} {xs ys : List RowD} {b1 b2 : Bool} (h : Okr tl xs) (h' : Okr tl ys) (hl : xs.length + ys.length ≤ 40) : Okr tl (merge b1 b2 xs ys) := by
  have p := merge_perm (b1 := b1) (b2 := b2) xs ys
  refine ⟨fun r hr => ?_, by rw [p.length_eq, List.length_append]; exact hl⟩
  exact (List.mem_append.mp (p.mem_iff.mp hr)).elim (h.rows r) (h'.rows r)
theorem Okr.nil {tl : List (Addr × Obj)} : Okr tl [] := ⟨fun _ hr => absurd hr List.not_mem_nil, Nat.zero_le _⟩
theorem no_rows : (#[] : Array Value) = (rvs []).toArray := rfl
section
variable {w : World} {s : Shared} {e1 : Env} {base h₀ : Heap} {outer : List Env} {L : Addr} {m : Str → Option Value} {p : Program} {loose : List Str} {mean : ExcName → Option Value} {mg mb : Str → Option Value} {all : List (Addr × Obj)} {E : Value → Shared → Prop} {Q : Value → Shared → Prop}
/-- the call of _law_words, in law's frame -/
theorem words_step {n : Int} {t : Tok} (B : Below callerA base outer h₀ := by assumption) (F : Fr h₀ L s.heap m := by assumption) (N : News h₀ L s.heap all := by assumption) (X : (hd.heap_39 w.params).In h₀ := by assumption) (T : Top p loose mean mg mb h₀ := by assumption) (hf : e1.frame = some L := by rfl) (hke : e1.scope.kind = .function := by rfl)
  (h : ∀ h' tk D c b1 b2 items, StrsAre items (wordsOf b1 b2) → Fr h₀ L h' m → News h₀ L h' ((D, W.listOf items.toArray c) :: all) → OffAll D (all.map Prod.fst) → Q (.ref D) { s with heap := h', toks := tk }) :
  wpAny (model PySem.Challenge.pw_nz0274_01 w) (callerA.deeper e1) (call (.ref 113) [.int n t] []) Q E s := by
  refine wpAny_call ?_
  refine words_code (Gd.mk' B F X T hf hke) ?_
  intro h' tk D c b1 b2 items hW hD0 hD1 hk'
  exact h h' tk D c b1 b2 items hW (Fr.keeps F hk') (News.put F N hk' hD1 hD0) (News.offAll N hD1)
theorem News.two {h₀ h : Heap} {L : Addr} {a : Addr × Obj} {n1 n2 : List (Addr × Obj)} (x : News h₀ L h (a :: n1)) (y : News h₀ L h n2) : News h₀ L h (a :: n2) := fun p hp => by
  rcases List.mem_cons.mp hp with rfl | hp
  · exact x _ (.head _)
  · exact y _ hp
/-- the call of read_sort_keys, in law's frame -/
theorem read_step {D0 : Addr} {c0 : Nat} {b1 b2 : Bool} {items : List Value} (B : Below callerA base outer h₀ := by assumption) (F : Fr h₀ L s.heap m := by assumption) (N : News h₀ L s.heap all := by assumption) (X : (hd.heap_39 w.params).In h₀ := by assumption) (T : Top p loose mean mg mb h₀ := by assumption) (hf : e1.frame = some L := by rfl) (hke : e1.scope.kind = .function := by rfl)
  (hW : StrsAre items (wordsOf b1 b2) := by assumption) (hm : (D0, W.listOf items.toArray c0) ∈ all := by k_mem)
  (h : ∀ h' tk D pa qa c t u, Fr h₀ L h' m → News h₀ L h' ((D, W.listOf #[Value.ref pa, Value.ref qa] c) :: (pa, { cls := Value.type "tuple", data := Data.seq #[Value.str "SIZE" t, Value.bool b1] }) :: (qa, { cls := Value.type "tuple", data := Data.seq #[Value.str "SUBJECT" u, Value.bool b2] }) :: all) →
    OffAll D (all.map Prod.fst) → OffAll pa (all.map Prod.fst) → OffAll qa (all.map Prod.fst) → Q (.ref D) { s with heap := h', toks := tk }) :
  wpAny (model PySem.Challenge.pw_nz0274_01 w) (callerA.deeper e1) (call (.ref 80) [.ref D0] []) Q E s := by
  refine wpAny_call ?_
  refine read_code (Gd.mk' B F X T hf hke) hW (News.isList N hm) ?_
  intro h' tk D pa qa c t u hD0 hp0 hq0 hD1 hp1 hq1 hk'
  exact h h' tk D pa qa c t u (Fr.keeps F hk') (News.two (News.put F N hk' hD1 hD0) (News.two (News.put F N hk' hp1 hp0) (News.put F N hk' hq1 hq0))) (News.offAll N hD1) (News.offAll N hp1) (News.offAll N hq1)
/-- the call of show_sort_keys, in law's frame -/
theorem show_step {D pa qa : Addr} {c : Nat} {t u : Tok} {b1 b2 : Bool} (B : Below callerA base outer h₀ := by assumption) (F : Fr h₀ L s.heap m := by assumption) (N : News h₀ L s.heap all := by assumption) (X : (hd.heap_39 w.params).In h₀ := by assumption) (T : Top p loose mean mg mb h₀ := by assumption) (hf : e1.frame = some L := by rfl) (hke : e1.scope.kind = .function := by rfl)
  (hD : (D, W.listOf #[Value.ref pa, Value.ref qa] c) ∈ all := by k_mem) (hp : (pa, ({ cls := Value.type "tuple", data := Data.seq #[Value.str (Str.ofString "SIZE") t, Value.bool b1] } : Obj)) ∈ all := by k_mem) (hq : (qa, ({ cls := Value.type "tuple", data := Data.seq #[Value.str (Str.ofString "SUBJECT") u, Value.bool b2] } : Obj)) ∈ all := by k_mem)
  (h : ∀ h' tk D' c' items, StrsAre items (wordsOf b1 b2) → Fr h₀ L h' m → News h₀ L h' ((D', W.listOf items.toArray c') :: all) → OffAll D' (all.map Prod.fst) → Q (.ref D') { s with heap := h', toks := tk }) :
  wpAny (model PySem.Challenge.pw_nz0274_01 w) (callerA.deeper e1) (call (.ref 87) [.ref D] []) Q E s := by
  refine wpAny_call ?_
  refine show_code (Gd.mk' B F X T hf hke) (News.isList N hD) ⟨_, (N _ hp).1, rfl, _, rfl⟩ ⟨_, (N _ hq).1, rfl, _, rfl⟩ ?_
  intro h' tk D' c' items hW hD0 hD1 hk'
  exact h h' tk D' c' items hW (Fr.keeps F hk') (News.put F N hk' hD1 hD0) (News.offAll N hD1)
variable {tl : List (Addr × Obj)} {D pa qa : Addr} {c : Nat} {s1 s2 : Str} {t u : Tok} {b1 b2 : Bool}
/-- the call of _law_in_order, in law's frame -/
theorem place_step {oa : Addr} {no : Nat} {xs : List RowD} (B : Below callerA base outer h₀ := by assumption) (F : Fr h₀ L s.heap m := by assumption) (N : News h₀ L s.heap all := by assumption) (X : (hd.heap_39 w.params).In h₀ := by assumption) (T : Top p loose mean mg mb h₀ := by assumption) (hf : e1.frame = some L := by rfl) (hke : e1.scope.kind = .function := by rfl)
  (hD : (D, W.listOf #[Value.ref pa, Value.ref qa] c) ∈ all := by k_mem) (hp : (pa, ({ cls := Value.type "tuple", data := Data.seq #[Value.str s1 t, Value.bool b1] } : Obj)) ∈ all := by k_mem) (hq : (qa, ({ cls := Value.type "tuple", data := Data.seq #[Value.str s2 u, Value.bool b2] } : Obj)) ∈ all := by k_mem) (ho : (oa, W.listOf (rvs xs).toArray no) ∈ all := by k_mem) (ok : Okr tl xs := by assumption) (sub : ∀ p ∈ tl, p ∈ all := by intro p hp; repeat' (first | exact hp | refine List.Mem.tail _ ?_))
  (h : ∀ h' tk D' c', Fr h₀ L h' m → News h₀ L h' ((D', W.listOf (rvs (place b1 b2 xs xs xs)).toArray c') :: all) → OffAll D' (all.map Prod.fst) → Q (.ref D') { s with heap := h', toks := tk }) :
  wpAny (model PySem.Challenge.pw_nz0274_01 w) (callerA.deeper e1) (call (.ref 125) [.ref D, .ref oa] []) Q E s := by
  refine wpAny_call ?_
  refine in_order_code (Gd.mk' B F X T hf hke) (keys_at N hD hp hq) (News.isList N ho) (Okr.at ok N sub) (Nat.le_trans ok.len (by decide)) ?_
  intro h' tk D' c' hD0 hD1 hk'
  exact h h' tk D' c' (Fr.keeps F hk') (News.put F N hk' hD1 hD0) (News.offAll N hD1)
/-- the call of merged_rows, in law's frame -/
theorem merged_step {oa ob : Addr} {na nb : Nat} {va vb : Array Value} {xs ys : List RowD} (B : Below callerA base outer h₀ := by assumption) (F : Fr h₀ L s.heap m := by assumption) (N : News h₀ L s.heap all := by assumption) (X : (hd.heap_39 w.params).In h₀ := by assumption) (T : Top p loose mean mg mb h₀ := by assumption) (hf : e1.frame = some L := by rfl) (hke : e1.scope.kind = .function := by rfl)
  (hD : (D, W.listOf #[Value.ref pa, Value.ref qa] c) ∈ all := by k_mem) (hp : (pa, ({ cls := Value.type "tuple", data := Data.seq #[Value.str s1 t, Value.bool b1] } : Obj)) ∈ all := by k_mem) (hq : (qa, ({ cls := Value.type "tuple", data := Data.seq #[Value.str s2 u, Value.bool b2] } : Obj)) ∈ all := by k_mem) (ha : (oa, W.listOf va na) ∈ all := by k_mem) (hb : (ob, W.listOf vb nb) ∈ all := by k_mem) (ea : va = (rvs xs).toArray := by first | exact rfl | exact no_rows) (eb : vb = (rvs ys).toArray := by first | exact rfl | exact no_rows) (okx : Okr tl xs := by assumption) (oky : Okr tl ys := by assumption) (sub : ∀ p ∈ tl, p ∈ all := by intro p hp; repeat' (first | exact hp | refine List.Mem.tail _ ?_))
  (h : ∀ h' tk D' c', Fr h₀ L h' m → News h₀ L h' ((D', W.listOf (rvs (merge b1 b2 xs ys)).toArray c') :: all) → OffAll D' (all.map Prod.fst) → Q (.ref D') { s with heap := h', toks := tk }) :
  wpAny (model PySem.Challenge.pw_nz0274_01 w) (callerA.deeper e1) (call (.ref 106) [.ref D, .ref oa, .ref ob] []) Q E s := by
  subst ea eb
  refine wpAny_call ?_
  refine merged_code (Gd.mk' B F X T hf hke) (keys_at N hD hp hq) (News.isList N ha) (News.isList N hb) (Okr.at okx N sub) (Okr.at oky N sub) (Nat.le_trans okx.len (by decide)) (Nat.le_trans oky.len (by decide)) ?_
  intro h' tk D' c' hD0 hD1 hk'
  exact h h' tk D' c' (Fr.keeps F hk') (News.put F N hk' hD1 hD0) (News.offAll N hD1)
variable {A : Around}
/-- two lists of rows compared -/
theorem ne_step {a b : Addr} {na nb : Nat} {va vb : Array Value} {xs ys : List RowD} (N : News h₀ L s.heap all := by assumption) (ha : (a, W.listOf va na) ∈ all := by k_mem) (hb : (b, W.listOf vb nb) ∈ all := by k_mem) (ea : va = (rvs xs).toArray := by first | exact rfl | exact no_rows) (eb : vb = (rvs ys).toArray := by first | exact rfl | exact no_rows) (e : xs = ys := by first | rfl | assumption) (ok : Okr tl ys := by assumption) (sub : ∀ p ∈ tl, p ∈ all := by intro p hp; repeat' (first | exact hp | refine List.Mem.tail _ ?_))
    (hu : A.units + 64 < cLine := by ke_room) (h : Q (.bool false) s) : wpAny (model PySem.Challenge.pw_nz0274_01 w) A (compareOp .NotEq (.ref a) (.ref b)) Q E s := by
  subst ea eb
  exact ne_rows (News.got N ha) (News.got N hb) e (Okr.at ok N sub) hu h
/-- two lists of three lists of rows, the same rows in both -/
theorem parts_step {a b a0 a1 a2 c0 c1 c2 : Addr} {n n' n0 n1 n2 k0 k1 k2 : Nat} {x0 x1 x2 : List RowD} (N : News h₀ L s.heap all := by assumption)
    (ha : (a, W.listOf #[.ref a0, .ref a1, .ref a2] n) ∈ all := by k_mem) (hb : (b, W.listOf #[.ref c0, .ref c1, .ref c2] n') ∈ all := by k_mem)
    (ha0 : (a0, W.listOf (rvs x0).toArray n0) ∈ all := by k_mem) (ha1 : (a1, W.listOf (rvs x1).toArray n1) ∈ all := by k_mem) (ha2 : (a2, W.listOf (rvs x2).toArray n2) ∈ all := by k_mem)
    (hc0 : (c0, W.listOf (rvs x0).toArray k0) ∈ all := by k_mem) (hc1 : (c1, W.listOf (rvs x1).toArray k1) ∈ all := by k_mem) (hc2 : (c2, W.listOf (rvs x2).toArray k2) ∈ all := by k_mem)
    (ok0 : Okr tl x0 := by assumption) (ok1 : Okr tl x1 := by assumption) (ok2 : Okr tl x2 := by assumption) (sub : ∀ p ∈ tl, p ∈ all := by intro p hp; repeat' (first | exact hp | refine List.Mem.tail _ ?_)) (hu : A.units + 64 < cLine := by ke_room) (h : Q (.bool false) s) :
    wpAny (model PySem.Challenge.pw_nz0274_01 w) A (compareOp .NotEq (.ref a) (.ref b)) Q E s :=
  ne_parts (News.got N ha) (News.got N hb) (News.got N ha0) (News.got N ha1) (News.got N ha2) (News.got N hc0) (News.got N hc1) (News.got N hc2) (Okr.at ok0 N sub) (Okr.at ok1 N sub) (Okr.at ok2 N sub) hu h
/-- the number of a row that stands in the base -/
theorem row_zero {value slice : Expr} {a l : Addr} {n : Int} {t v : Tok} (F : Fr h₀ L s.heap m := by assumption) (hr : IsTup h₀ a #[.int n t, .ref l] := by assumption) (h : Q (.int n t) s)
    (hs : subscripted slice false (.ref a) (.int 0 v) = operate [.ref a, .int 0 v] (getItem (.ref a) (.int 0 v)) := by with_unfolding_all rfl) :
    wpAny (model PySem.Challenge.pw_nz0274_01 w) A (subscriptTail value slice (.ref a) (.int 0 v)) Q E s :=
  have ht := stays_tup F.keep hr
  tail_any ht.typeIs slot_tuple_getitem.lookup (getItem_tuple (j := 0) ht (by decide) (by decide) rfl rfl h) hs
end
end

section
variable {M : Model} {A : Around} {E : Value → Shared → Prop} {s : Shared} {env : Env} {h₀ : Heap} {L : Addr} {m : Str → Option Value} {test : Expr} {body : List Stmt} {pos : Pos} {Q : Flow → Shared → Prop}
/-- an If whose test fails, whatever the ways to it -/
theorem if_not {all : List (Addr × Obj)} (_F : Fr h₀ L s.heap m) (_N : News h₀ L s.heap all) (news : List (Addr × Obj)) (_sub : SubL news all) (hc : wpAny M A (isTrue test env (eval test env)) (fun k s₂ => k = false ∧ ∃ h tk, s₂ = { s with heap := h, toks := tk } ∧ Fr h₀ L h m ∧ News h₀ L h news) E s)
    (hk : ∀ h tk, Fr h₀ L h m → News h₀ L h news → Q .next { s with heap := h, toks := tk }) : wpAny M A (exec (.If test body [] pos) env) Q E s := by
  refine wpAny_If (wpAny_mono hc (fun k s₂ hkc => ?_) fun _ _ h => h)
  obtain ⟨rfl, h, tk, rfl, F, N⟩ := hkc
  exact wpAny_execs_nil (hk h tk F N)
end
theorem News.part {h₀ h : Heap} {L : Addr} {n1 n2 : List (Addr × Obj)} (N : News h₀ L h n2) (s : SubL n1 n2) : News h₀ L h n1 := fun p hp => N p (SubL.mem s p hp)

/-- all of a ledger's rest stands above an address -/
def TailAbove (I : Addr) (tl : List (Addr × Obj)) : Prop := ∀ p ∈ tl, @LT.lt Nat _ I p.1
theorem tail_ne {tl : List (Addr × Obj)} {I a : Nat} (h : TailAbove I tl) (ha : a ≤ I) : ∀ p ∈ tl, p.1 ≠ a := fun p hp e => by
  have := h p hp
  rw [e] at this
  omega
structure LSt where
  rows : List RowD
  l0 : List RowD
  l1 : List RowD
  l2 : List RowD
  nR : Nat
  n0 : Nat
  n1 : Nat
  n2 : Nat
  tl : List (Addr × Obj)
  m : Str → Option Value

theorem mod3 (x : Int) : x.fmod 3 = 0 ∨ x.fmod 3 = 1 ∨ x.fmod 3 = 2 := by
  have h1 := Int.fmod_nonneg_of_pos x (b := 3) (by decide)
  have h2 := Int.fmod_lt_of_pos x (b := 3) (by decide)
  omega
theorem mod3' {x j : Int} (h : x.fmod 3 = j) : j = 0 ∨ j = 1 ∨ j = 2 := h ▸ mod3 x
section
variable {prog : Program} {w : World} {A : Around} {E : Value → Shared → Prop} {s : Shared} {value slice : Expr} {h₀ : Heap} {L l : Addr} {news : List (Addr × Obj)} {u : Tok} {Q : Value → Shared → Prop} {n : Nat}
theorem pick_text {j : Int} {t1 t2 t3 : Tok} (N : News h₀ L s.heap news) (hm : (l, W.listOf #[.str (Str.ofString "A") t1, .str (Str.ofString "") t2, .str (Str.ofString "AB") t3] n) ∈ news) (hj : j = 0 ∨ j = 1 ∨ j = 2) (h : ∀ k t, Q (.str (txt k) t) s)
    (hs : subscripted slice false (.ref l) (.int j u) = operate [.ref l, .int j u] (getItem (.ref l) (.int j u)) := by with_unfolding_all rfl) :
    wpAny (model prog w) A (subscriptTail value slice (.ref l) (.int j u)) Q E s := by
  have hL := News.isList N hm
  refine tail_any hL.typeIs slot_list_getitem.lookup ?_ hs
  rcases hj with e | e | e <;> rw [e]
  · exact wpAny_getItem_list hL (by decide) (by decide) rfl (h 1 _)
  · exact wpAny_getItem_list hL (by decide) (by decide) rfl (h 0 _)
  · exact wpAny_getItem_list hL (by decide) (by decide) rfl (h 2 _)
theorem pick_list {j : Int} {a b c : Value} (N : News h₀ L s.heap news) (hm : (l, W.listOf #[a, b, c] n) ∈ news) (hj : j = 0 ∨ j = 1 ∨ j = 2) (h0 : Q a s) (h1 : Q b s) (h2 : Q c s)
    (hs : subscripted slice false (.ref l) (.int j u) = operate [.ref l, .int j u] (getItem (.ref l) (.int j u)) := by with_unfolding_all rfl) :
    wpAny (model prog w) A (subscriptTail value slice (.ref l) (.int j u)) Q E s := by
  have hL := News.isList N hm
  refine tail_any hL.typeIs slot_list_getitem.lookup ?_ hs
  rcases hj with e | e | e <;> rw [e]
  · exact wpAny_getItem_list hL (by decide) (by decide) rfl h0
  · exact wpAny_getItem_list hL (by decide) (by decide) rfl h1
  · exact wpAny_getItem_list hL (by decide) (by decide) rfl h2
theorem pick_text3 {x y : Int} {t1 t2 t3 : Tok} (N : News h₀ L s.heap news := by assumption) (hm : (l, W.listOf #[.str (Str.ofString "A") t1, .str (Str.ofString "") t2, .str (Str.ofString "AB") t3] n) ∈ news := by k_mem) (h : ∀ k t, Q (.str (txt k) t) s)
    (hs : subscripted slice false (.ref l) (.int (Int.fmod (Int.fdiv x y) 3) u) = operate [.ref l, .int (Int.fmod (Int.fdiv x y) 3) u] (getItem (.ref l) (.int (Int.fmod (Int.fdiv x y) 3) u)) := by with_unfolding_all rfl) :
    wpAny (model prog w) A (subscriptTail value slice (.ref l) (.int (Int.fmod (Int.fdiv x y) 3) u)) Q E s := pick_text N hm (mod3 _) h hs
theorem pick_list3 {x y : Int} {a b c : Addr} (N : News h₀ L s.heap news := by assumption) (hm : (l, W.listOf #[.ref a, .ref b, .ref c] n) ∈ news := by k_mem) (h0 : Q (.ref a) s) (h1 : Q (.ref b) s) (h2 : Q (.ref c) s)
    (hs : subscripted slice false (.ref l) (.int (Int.fmod (Int.fdiv x y) 3) u) = operate [.ref l, .int (Int.fmod (Int.fdiv x y) 3) u] (getItem (.ref l) (.int (Int.fmod (Int.fdiv x y) 3) u)) := by with_unfolding_all rfl) :
    wpAny (model prog w) A (subscriptTail value slice (.ref l) (.int (Int.fmod (Int.fdiv x y) 3) u)) Q E s := pick_list N hm (mod3 _) h0 h1 h2 hs
theorem item_last {arr : Array Value} {v : Value} (N : News h₀ L s.heap news := by assumption) (hm : (l, W.listOf (arr.push v) n) ∈ news := by k_mem) (hsz : arr.size ≤ 1000 := by (simp only [List.size_toArray, List.length_map]; omega)) (h : Q v s)
    (hs : subscripted slice false (.ref l) (.int (-1) u) = operate [.ref l, .int (-1) u] (getItem (.ref l) (.int (-1) u)) := by with_unfolding_all rfl) :
    wpAny (model prog w) A (subscriptTail value slice (.ref l) (.int (-1) u)) Q E s := by
  have hL := News.isList N hm
  refine tail_any hL.typeIs slot_list_getitem.lookup (wpAny_getItem_list_neg hL (by decide) (by rw [Array.size_push]; omega) (by decide) ?_ h) hs
  rw [Array.size_push]
  have e : ((-1 : Int) + ((arr.size + 1 : Nat) : Int)).toNat = arr.size := by omega
  rw [e]
  simp
end
theorem cell_item {vs : List Value} {i : Nat} {a : Itm} {v : Value} {h : Heap} {ns : List Int} (hI : IntsAre vs ns) (ha : (enumItems 0 vs)[i]? = some a) (hv : a.Is v h) :
    i < vs.length ∧ ∃ T t z u, v = .ref T ∧ IsTup h T #[.int (i : Int) t, .int z u] := by
  have hi : i < vs.length := by
    refine Nat.lt_of_not_le fun q => ?_
    rw [List.getElem?_eq_none (by rw [enumItems_length]; exact q)] at ha
    cases ha
  have e := enumItems_get vs 0 i (List.getElem?_eq_getElem hi)
  rw [ha, Nat.zero_add] at e
  injection e with e
  subst e
  obtain ⟨T, t, e, ht⟩ := hv
  have hz : ∀ {vs : List Value} {ns : List Int}, IntsAre vs ns → ∀ v ∈ vs, ∃ z u, v = Value.int z u := by
    intro vs ns h
    induction h with
    | nil => intro v hv; cases hv
    | cons n t r ih =>
      intro v hv
      rcases List.mem_cons.mp hv with rfl | hv
      · exact ⟨_, _, rfl⟩
      · exact ih v hv
  obtain ⟨z, u, ez⟩ := hz hI _ (List.getElem_mem hi)
  rw [ez] at ht
  exact ⟨hi, T, t, z, u, e, ht⟩
structure LInv (I : Nat) (i : Nat) (c : LSt) : Prop where
  rows : ∀ r ∈ c.rows, RowIn c.tl r
  len : c.rows.length = i
  nums : ∀ r ∈ c.rows, 0 ≤ r.n ∧ r.n ≤ (i : Int) ∧ 0 ≤ r.x
  apart : Apart c.rows
  perm : c.rows.Perm (c.l0 ++ c.l1 ++ c.l2)
  tail : TailAbove I c.tl
theorem News.app {h₀ h : Heap} {L : Addr} {n1 n2 : List (Addr × Obj)} (x : News h₀ L h n1) (y : News h₀ L h n2) : News h₀ L h (n1 ++ n2) := fun p hp => (List.mem_append.mp hp).elim (x p) (y p)
theorem allLt_mem {d : Nat} (l : List (Addr × Obj)) (h : AllLt d l) : ∀ p ∈ l, @LT.lt Nat _ p.1 d := by
  induction l with
  | nil => intro p hp; cases hp
  | cons q r ih =>
    intro p hp
    rcases List.mem_cons.mp hp with e | hp
    · rw [e]; exact h.1
    · exact ih h.2 p hp
theorem off_two {I : Nat} {oe oi : Obj} {front tl : List (Addr × Obj)} (h1 : AllLt I front) (h2 : TailAbove (I + 1) tl) : ∀ p ∈ front ++ tl, ∀ q ∈ [((I + 1 : Nat), oe), ((I : Nat), oi)], p.1 ≠ q.1 := by
  intro p hp q hq e
  have hq' : q.1 = I + 1 ∨ q.1 = I := by
    rcases List.mem_cons.mp hq with rfl | hq
    · exact .inl rfl
    · rw [List.mem_singleton.mp hq]; exact .inr rfl
  rcases List.mem_append.mp hp with hp | hp
  · have := allLt_mem _ h1 p hp
    rw [e] at this
    omega
  · have := h2 p hp
    rw [e] at this
    omega
theorem fr_eq {m' : Str → Option Value} {v1 v2 : Value} (h1 : m' (Str.ofString "rows") = some v1) (h2 : m' (Str.ofString "lists") = some v2) :
    m' = fun y => if y = Str.ofString "rows" then some v1 else if y = Str.ofString "lists" then some v2 else m' y := by
  funext y
  by_cases e : y = Str.ofString "rows"
  · rw [if_pos e, e, h1]
  · rw [if_neg e]
    by_cases e' : y = Str.ofString "lists"
    · rw [if_pos e', e', h2]
    · rw [if_neg e']
theorem fr_at {h₀ h : Heap} {L : Addr} {m' : Str → Option Value} {v1 v2 : Value} (_F : Fr h₀ L h m') (h1 : m' (Str.ofString "rows") = some v1) (h2 : m' (Str.ofString "lists") = some v2) :
    m' = fun y => if y = Str.ofString "rows" then some v1 else if y = Str.ofString "lists" then some v2 else m' y := fr_eq h1 h2
abbrev tupObj (r : RowD) : Obj := { cls := Value.type "tuple", data := Data.seq #[.int r.n r.t, .ref r.l] }
theorem LInv.snoc {I i : Nat} {c c' : LSt} (hc : LInv I i c) {r : RowD} {k : Nat} (hn : r.n = (i : Int) + 1) (hx : 0 ≤ r.x) (ha : @LT.lt Nat _ I r.a) (hl : @LT.lt Nat _ I r.l) (hrows : c'.rows = c.rows ++ [r])
    (hp : (c'.l0 ++ c'.l1 ++ c'.l2).Perm (r :: (c.l0 ++ c.l1 ++ c.l2))) (htl : c'.tl = (r.a, tupObj r) :: (r.l, W.listOf #[.int r.x r.tx, .str (txt r.k) r.ty] k) :: c.tl) : LInv I (i + 1) c' := by
  refine ⟨fun q hq => ?_, ?_, fun q hq => ?_, ?_, ?_, fun q hq => ?_⟩
  · rw [hrows] at hq
    rw [htl]
    rcases List.mem_append.mp hq with hq | hq
    · obtain ⟨h1, k', h2⟩ := hc.rows q hq
      exact ⟨.tail _ (.tail _ h1), k', .tail _ (.tail _ h2)⟩
    · rw [List.mem_singleton.mp hq]
      exact ⟨.head _, k, .tail _ (.head _)⟩
  · rw [hrows, List.length_append, hc.len]; rfl
  · rw [hrows] at hq
    rcases List.mem_append.mp hq with hq | hq
    · have := hc.nums q hq
      omega
    · rw [List.mem_singleton.mp hq]
      omega
  · rw [hrows]
    refine List.pairwise_append.mpr ⟨hc.apart, List.pairwise_singleton .., fun a ha b hb e => ?_⟩
    rw [List.mem_singleton.mp hb] at e
    have := hc.nums a ha
    omega
  · rw [hrows]
    exact (List.perm_append_comm.trans ((hc.perm.cons r))).trans hp.symm
  · rw [htl] at hq
    rcases List.mem_cons.mp hq with rfl | hq
    · exact ha
    · rcases List.mem_cons.mp hq with rfl | hq
      · exact hl
      · exact hc.tail q hq
theorem perm_0 {r : RowD} {a b c : List RowD} : (a ++ [r] ++ b ++ c).Perm (r :: (a ++ b ++ c)) := by
  rw [List.append_assoc, List.append_assoc, List.append_assoc a b c]
  exact List.perm_middle
theorem perm_1 {r : RowD} {a b c : List RowD} : (a ++ (b ++ [r]) ++ c).Perm (r :: (a ++ b ++ c)) := by
  rw [← List.append_assoc a b [r], List.append_assoc (a ++ b) [r] c]
  exact List.perm_middle
theorem perm_2 {r : RowD} {a b c : List RowD} : (a ++ b ++ (c ++ [r])).Perm (r :: (a ++ b ++ c)) := by
  rw [← List.append_assoc (a ++ b) c [r]]
  exact List.perm_append_comm

theorem copy_rows {prog : Program} {w : World} {A : Around} {E : Value → Shared → Prop} {s : Shared} {h₀ : Heap} {L l : Addr} {m : Str → Option Value} {news tl : List (Addr × Obj)} {n : Nat} {xs : List RowD} {Q : Value → Shared → Prop} (o : Okr tl xs) (F : Fr h₀ L s.heap m) (N : News h₀ L s.heap news) (hm : (l, W.listOf (rvs xs).toArray n) ∈ news)
    (h : ∀ D c h', Fr h₀ L h' m → News h₀ L h' ((D, W.listOf (rvs xs).toArray c) :: news) → (∀ p ∈ news, p.1 < D) → Q (.ref D) { s with heap := h' }) : wpAny (model prog w) A (call (.type "list") [.ref l]) Q E s :=
  list_copyK F N (N.isList hm) h (by have := o.len; rw [sizeLine_eq]; simp only [List.size_toArray, List.length_map]; omega)
theorem compEnd_put {h₀ : Heap} {L I C D Dn : Addr} {m : Str → Option Value} {s₁ : Shared} {oI oC oD on : Obj} {S : List (Addr × Obj) → Prop} {rest : Value → List (Addr × Obj) → Prop} {y : Value} {h' : Heap} {tk : Nat} {news : List (Addr × Obj)}
    (F : Fr h₀ L h' m) (N : News h₀ L h' ((Dn, on) :: (I, oI) :: (C, oC) :: (D, oD) :: news)) (off : LCg.Off3 I C D news) (h1 : @Ne Nat Dn I) (h2 : @Ne Nat Dn C) (h3 : @Ne Nat Dn D) (hS : S ((Dn, on) :: news)) (r : rest y ((Dn, on) :: news)) :
    LCg.CompEnd h₀ L m s₁ I oI C oC D oD S rest y { s₁ with heap := h', toks := tk } :=
  LCg.CompEnd.intro F N ((Dn, on) :: news) (fun p hp => by
    rcases List.mem_cons.mp hp with rfl | hp
    · exact .tail _ (.head _)
    · rcases List.mem_cons.mp hp with rfl | hp
      · exact .tail _ (.tail _ (.head _))
      · rcases List.mem_cons.mp hp with rfl | hp
        · exact .tail _ (.tail _ (.tail _ (.head _)))
        · rcases List.mem_cons.mp hp with rfl | hp
          · exact .head _
          · exact .tail _ (.tail _ (.tail _ (.tail _ hp)))) ⟨⟨h1, h2, h3⟩, off⟩ hS r


theorem GdS.mk' {w : World} {A₀ : Around} {s : Shared} {base h₀ : Heap} {outer : List Env} {L : Addr} {m : Str → Option Value} {env : Env} {p : Program} {loose : List Str} {mean : ExcName → Option Value} {mg mb : Str → Option Value}
    (B : Below A₀ base outer h₀) (F : Fr h₀ L s.heap m) (N : News h₀ L s.heap [(89, tabObj #[])]) (C : CodeHd h₀ 91 89) (X : (hd.heap_39 w.params).In h₀) (T : Top p loose mean mg mb h₀) (hf : env.frame = some L) (hke : env.scope.kind = .function) : GdS w (A₀.deeper env) s :=
  ⟨A₀, base, outer, h₀, L, m, env, p, loose, mean, mg, mb, B, F, N, C, X, T, Around.frames_deeper B.stack, hf, hke⟩
theorem rvs_nodup {h : Heap} {xs : List RowD} (hx : ∀ r ∈ xs, RowAt h r) (ha : Apart xs) : (rvs xs).Nodup :=
  List.pairwise_map.mpr (ha.imp_of_mem fun {r q} hr hq hn e => hn (by
    have e' : r.a = q.a := by injection e
    rw [RowAt.det (hx r hr) (hx q hq) e']))
theorem Fr.hid {h₀ h h' : Heap} {L : Addr} {m : Str → Option Value} (F : Fr h₀ L h m) (hL : (89 : Addr) ≠ L) (h9 : h₀.get? 89 = none) (k : (h.hide 89).StaysIn h') : Fr h₀ L h' m :=
  ⟨F.ns.at' fun o e => k _ _ ((Heap.hide_ne _ (Ne.symm hL)).trans e), fun b o e => k _ _ ((Heap.hide_ne _ (fun hb => by rw [hb, h9] at e; cases e)).trans (F.keep b o e)), F.above⟩
theorem News.hid {h₀ h h' : Heap} {L : Addr} {news : List (Addr × Obj)} (N : News h₀ L h news) (hne : ∀ p ∈ news, p.1 ≠ 89) (k : (h.hide 89).StaysIn h') : News h₀ L h' news :=
  fun p hp => ⟨k _ _ ((Heap.hide_ne _ (hne p hp)).trans (N p hp).1), (N p hp).2⟩
theorem ints_rows : ∀ ws : List RowD, IntsAre (ws.map fun r => Value.int r.n r.t) (ws.map (·.n))
  | [] => .nil
  | r :: ws => .cons _ _ (ints_rows ws)

local macro_rules | `(tactic| k_ne) => `(tactic| (refine neN ?_; (try dsimp only); first | exact OffAll.ne (by assumption) (by k_mem) | exact OffAll.en (by assumption) (by k_mem)))
local macro_rules | `(tactic| walk_at "call ref") => `(tactic| (k_here; k_dflt (refine words_step (h := ?_); intro h' tk D' c b1 b2 items hW F' N' l1; dsimp only [List.map] at l1; k_sweep)))
local macro_rules | `(tactic| walk_at "call ref") => `(tactic| (k_here; k_dflt (refine read_step (h := ?_); intro h' tk D' p' q' c t u F' N' l1 l2 l3; dsimp only [List.map] at l1 l2 l3; k_sweep)))
local macro_rules | `(tactic| walk_at "call ref") => `(tactic| (k_here; k_dflt (refine show_step (h := ?_); intro h' tk D' c' items hI F' N' l1; (first | (obtain ⟨_, _, e⟩ := two_words hI; subst e) | (obtain ⟨_, _, _, e⟩ := three_words hI; subst e) | (obtain ⟨_, _, _, _, e⟩ := four_words hI; subst e)); clear hI; dsimp only [List.map] at l1; k_sweep)))
local macro_rules | `(tactic| walk_at "Exists") => `(tactic| apply Exists.intro)
local macro_rules | `(tactic| k_all) => `(tactic| ((with_reducible rename TailAbove _ _ => tA); exact tail_ne tA (by omega)))
local macro_rules | `(tactic| walk_at "subscriptTail") => `(tactic| (k_here; (with_reducible show wpAny _ _ (subscriptTail _ _ _ (Value.int (Int.fmod _ _) _)) _ _ _); k_dflt (first | (refine pick_text3 (h := ?_); intro k' t') | refine pick_list3 (h0 := ?_) (h1 := ?_) (h2 := ?_))))
local macro_rules | `(tactic| walk_at "subscriptTail") => `(tactic| (k_here; (with_reducible show wpAny _ _ (subscriptTail _ _ _ (Value.int (-1) _)) _ _ _); k_dflt (refine item_last (h := ?_)); k_whole))
local macro_rules | `(tactic| walk_at "call type:list") => `(tactic| (k_here; (with_reducible rename Okr _ _ => oK); (with_reducible show wpAny _ _ (call (Value.type _) [Value.ref _]) _ _ _); k_dflt (refine' copy_rows ?o ?F ?N ?m ?_; (case F => assumption); (case N => assumption); (case m => k_mem); (case o => assumption)); intro D' c' h' F' N' l1; (try k_lt l1); (try k_sweep)))
local macro_rules | `(tactic| walk_at "call ref") => `(tactic| (k_here; k_dflt (refine place_step (h := ?_); intro h' tk D' c F' N' l1; dsimp only [List.map] at l1; k_sweep)))
local macro_rules | `(tactic| walk_at "CompEnd") => `(tactic| k_dflt (refine compEnd_put (by assumption) (by assumption) (by assumption) (by k_ne) (by k_ne) (by k_ne) (by lcg_src) ?_))
local macro_rules | `(tactic| walk_at "call ref") => `(tactic| (k_here; k_dflt (refine merged_step (h := ?_); intro h' tk D' c F' N' l1; dsimp only [List.map] at l1; k_sweep)))
local macro_rules | `(tactic| walk_at "compareOp NotEq ref ref") => `(tactic| (k_here; (with_reducible rename Okr _ _ => oK); k_dflt (first | refine ne_step (h := ?_) | refine parts_step (h := ?_))))
local macro_rules | `(tactic| walk_at "subscriptTail") => `(tactic| (k_here; (with_reducible show wpAny _ _ (subscriptTail _ _ _ (Value.int 0 _)) _ _ _); refine row_zero (h := ?_)))
set_option maxHeartbeats 40000000
theorem final : PySem.Challenge.rw_nz0274_01.Holds := hd (by
  k_go0
  (all_goals try k_fold)
  repeat' (first | ((fail_if_success (with_reducible show wpAny _ _ (exec (Stmt.If _ _ _ _) _) _ _ _)); first | (k_unfold; (try dsimp only)) | (k_end; wrow_close) | walk1 | (dsimp only; walk1) | (leave1; walk_say "STEP leave1"; try dsimp only) | fail "no step"))
  rename_i D3 ws3 h3 hI3 l13 hx1 tkx D2 ws2 h2 hI2 hC2 hL2 l12 h4 tk4 t4 u4 tk5 h5 tk6 D1 c1 b1 b2 items hW l11 h6 tk7 h7 tk8 D p q c t u l1 l2 l3 h8 o F N d
  as_aux_lemma =>
    w_top off
    refine if_not F N [(D, W.listOf #[Value.ref p, Value.ref q] c), (p, { cls := Value.type "tuple", data := Data.seq #[Value.str (Str.ofString "SIZE") t, Value.bool b1] }), (q, { cls := Value.type "tuple", data := Data.seq #[Value.str (Str.ofString "SUBJECT") u, Value.bool b2] }), (D3, W.listOf ws3.toArray 0), (_, o), (89, tabObj #[])] (by k_subL) ?test ?next
    case test =>
      cases b1 <;> cases b2
      · obtain ⟨t1, t2, rfl⟩ := two_words hW
        clear hW
        k_steps
        all_goals first | assumption | exact News.part (by assumption) (by k_subL)
      · obtain ⟨t1, t2, t3, rfl⟩ := three_words hW
        clear hW
        k_steps
        all_goals first | assumption | exact News.part (by assumption) (by k_subL)
      · obtain ⟨t1, t2, t3, rfl⟩ := three_words hW
        clear hW
        k_steps
        all_goals first | assumption | exact News.part (by assumption) (by k_subL)
      · obtain ⟨t1, t2, t3, t4, rfl⟩ := four_words hW
        clear hW
        k_steps
        all_goals first | assumption | exact News.part (by assumption) (by k_subL)
    clear F N l1 l2 l3 l11 hW hL2 hC2 hI2 l12 items
    intro h tk' F N
    try k_fold
    repeat' (first | ((fail_if_success (with_reducible show wpAny _ _ (exec (Stmt.For _ _ _ _ _) _) _ _ _)); first | (k_unfold; (try dsimp only)) | (k_end; wrow_close) | walk1 | (dsimp only; walk1) | (leave1; walk_say "STEP leave1"; try dsimp only) | fail "no step"))
    rename_i R ha la L0 hb lb L1 hc lc L2 hd' ld LS he le Tp hf lf hg hh hi' F N
    as_aux_lemma =>
      w_top off
      rename Shared => s1
      have hlen : ws3.length ≤ 12 := by
        rw [hI3.length]
        simp only [List.length_append, List.length_take, List.length_cons, List.length_nil]
        omega
      have N2 : News _ _ _ [(R, W.listOf (rvs []).toArray 0), (L0, W.listOf (rvs []).toArray 0), (L1, W.listOf (rvs []).toArray 0), (L2, W.listOf (rvs []).toArray 0), (LS, W.listOf #[.ref L0, .ref L1, .ref L2] 0), (D, W.listOf #[Value.ref p, Value.ref q] c), (p, { cls := Value.type "tuple", data := Data.seq #[Value.str (Str.ofString "SIZE") t, Value.bool b1] }), (q, { cls := Value.type "tuple", data := Data.seq #[Value.str (Str.ofString "SUBJECT") u, Value.bool b2] }), (D3, W.listOf ws3.toArray 0), (s1.heap.objs.size + 1, o), (89, tabObj #[])] := News.part N (by k_subL)
      clear N
      refine For_turns F ?_
      repeat' (first | ((fail_if_success (with_reducible show wpAny _ _ (call (Value.type "enumerate") _ _) _ _ _)); first | (k_unfold; (try dsimp only)) | (k_end; wrow_close) | walk1 | (dsimp only; walk1) | (leave1; walk_say "STEP leave1"; try dsimp only) | fail "no step"))
      refine ktu_enum (lo := W.listOf ws3.toArray 0) (vs := ws3) rfl F N2 (by k_mem) rfl rfl rfl ?_
      intro I hI
      have hI0 := allLt_of hI
      k_lt hI
      refine rest_inv (σ := LSt) (keep := [(D3, W.listOf ws3.toArray 0)]) (fun c' => (R, W.listOf (rvs c'.rows).toArray c'.nR) :: (L0, W.listOf (rvs c'.l0).toArray c'.n0) :: (L1, W.listOf (rvs c'.l1).toArray c'.n1) :: (L2, W.listOf (rvs c'.l2).toArray c'.n2) :: (LS, W.listOf #[.ref L0, .ref L1, .ref L2] 0) :: (D, W.listOf #[Value.ref p, Value.ref q] c) :: (p, { cls := Value.type "tuple", data := Data.seq #[Value.str (Str.ofString "SIZE") t, Value.bool b1] }) :: (q, { cls := Value.type "tuple", data := Data.seq #[Value.str (Str.ofString "SUBJECT") u, Value.bool b2] }) :: (D3, W.listOf ws3.toArray 0) :: (s1.heap.objs.size + 1, o) :: (89, tabObj #[]) :: c'.tl)
        (fun c' y => if y = Str.ofString "rows" then some (.ref R) else if y = Str.ofString "lists" then some (.ref LS) else c'.m y) (LInv (I + 1)) (enumItems 0 ws3) (fun c' => And.intro (by k_mem) trivial) ?turn ?done (enumItems 0 ws3) 0 ⟨[], [], [], [], 0, 0, 0, 0, [], _⟩ rfl (Nat.zero_le _) ⟨by simp, rfl, by simp, .nil, .rfl, by intro p hp; cases hp⟩
      case turn =>
        clear F N2
        intro i a st v h tk ha hv hc F'
        (try dsimp only at F')
        obtain ⟨hi, T, ti, z, tz, rfl, hT⟩ := cell_item hI3 ha hv
        clear ha hv
        refine AllObj.cons (fun oe hoe => AllObj.cons (fun oi hoi => AllObj.nil (fun N' => ?_)))
        simp only [List.cons_append, List.nil_append] at N'
        (try dsimp only at hoe hoi)
        have htl := hc.tail
        have hln := hc.len
        have hpl := hc.perm.length_eq
        simp only [List.length_append] at hpl
        k_steps
        · rename_i kk tt rl hq1 lq1 tup hq2 lq2 hq3 tkq hq4 Fq Nq
          obtain ⟨r, hra, hrl, hrn, hrx, hrN⟩ : ∃ r : RowD, r.a = tup ∧ r.l = rl ∧ r.n = (i : Int) + 1 ∧ 0 ≤ r.x ∧ News _ _ _ [(r.a, tupObj r), (r.l, W.listOf #[.int r.x r.tx, .str (txt r.k) r.ty] 0)] := ⟨⟨tup, rl, _, _, _, _, kk, tt⟩, rfl, rfl, rfl, Int.fmod_nonneg_of_pos _ (b := 3) (by decide), News.part Nq (by k_subL)⟩
          subst hra hrl
          have e0 : (rvs st.rows).toArray.push (.ref r.a) = (rvs (st.rows ++ [r])).toArray := by simp
          have e1 : (rvs st.l0).toArray.push (.ref r.a) = (rvs (st.l0 ++ [r])).toArray := by simp
          have hTl : News _ _ _ st.tl := fun p hp => Nq p (by repeat' (first | exact hp | refine List.Mem.tail _ ?_))
          have hits : News _ _ _ [(I + 1, oe), (I, oi)] := News.part Nq (by k_subL)
          have hF : News _ _ _ [(R, W.listOf ((rvs st.rows).toArray.push (.ref r.a)) (st.nR + 1)), (L0, W.listOf ((rvs st.l0).toArray.push (.ref r.a)) (st.n0 + 1)), (L1, W.listOf (rvs st.l1).toArray st.n1), (L2, W.listOf (rvs st.l2).toArray st.n2), (LS, W.listOf #[.ref L0, .ref L1, .ref L2] 0), (D, W.listOf #[Value.ref p, Value.ref q] c), (p, { cls := Value.type "tuple", data := Data.seq #[Value.str (Str.ofString "SIZE") t, Value.bool b1] }), (q, { cls := Value.type "tuple", data := Data.seq #[Value.str (Str.ofString "SUBJECT") u, Value.bool b2] }), (D3, W.listOf ws3.toArray 0), (s1.heap.objs.size + 1, o), (89, tabObj #[])] := News.part Nq (by k_subL)
          rw [e0, e1] at hF
          have inv := fun mm : Str → Option Value => hc.snoc (c' := ⟨st.rows ++ [r], st.l0 ++ [r], st.l1, st.l2, st.nR + 1, st.n0 + 1, st.n1, st.n2, (r.a, tupObj r) :: (r.l, W.listOf #[.int r.x r.tx, .str (txt r.k) r.ty] 0) :: st.tl, mm⟩) hrn hrx (by omega) (by omega) rfl perm_0 rfl
          exact ⟨_, _, _, _, rfl, Fq, News.app hits (News.app hF (News.app hrN hTl)), off_two hI0 (inv fun _ => none).tail, ⟨st.rows ++ [r], st.l0 ++ [r], st.l1, st.l2, st.nR + 1, st.n0 + 1, st.n1, st.n2, (r.a, tupObj r) :: (r.l, W.listOf #[.int r.x r.tx, .str (txt r.k) r.ty] 0) :: st.tl, _⟩, inv _, fr_at Fq (by with_unfolding_all rfl) (by with_unfolding_all rfl), rfl⟩
        · rename_i kk tt rl hq1 lq1 tup hq2 lq2 hq3 tkq hq4 Fq Nq
          obtain ⟨r, hra, hrl, hrn, hrx, hrN⟩ : ∃ r : RowD, r.a = tup ∧ r.l = rl ∧ r.n = (i : Int) + 1 ∧ 0 ≤ r.x ∧ News _ _ _ [(r.a, tupObj r), (r.l, W.listOf #[.int r.x r.tx, .str (txt r.k) r.ty] 0)] := ⟨⟨tup, rl, _, _, _, _, kk, tt⟩, rfl, rfl, rfl, Int.fmod_nonneg_of_pos _ (b := 3) (by decide), News.part Nq (by k_subL)⟩
          subst hra hrl
          have e0 : (rvs st.rows).toArray.push (.ref r.a) = (rvs (st.rows ++ [r])).toArray := by simp
          have e1 : (rvs st.l1).toArray.push (.ref r.a) = (rvs (st.l1 ++ [r])).toArray := by simp
          have hTl : News _ _ _ st.tl := fun p hp => Nq p (by repeat' (first | exact hp | refine List.Mem.tail _ ?_))
          have hits : News _ _ _ [(I + 1, oe), (I, oi)] := News.part Nq (by k_subL)
          have hF : News _ _ _ [(R, W.listOf ((rvs st.rows).toArray.push (.ref r.a)) (st.nR + 1)), (L0, W.listOf (rvs st.l0).toArray st.n0), (L1, W.listOf ((rvs st.l1).toArray.push (.ref r.a)) (st.n1 + 1)), (L2, W.listOf (rvs st.l2).toArray st.n2), (LS, W.listOf #[.ref L0, .ref L1, .ref L2] 0), (D, W.listOf #[Value.ref p, Value.ref q] c), (p, { cls := Value.type "tuple", data := Data.seq #[Value.str (Str.ofString "SIZE") t, Value.bool b1] }), (q, { cls := Value.type "tuple", data := Data.seq #[Value.str (Str.ofString "SUBJECT") u, Value.bool b2] }), (D3, W.listOf ws3.toArray 0), (s1.heap.objs.size + 1, o), (89, tabObj #[])] := News.part Nq (by k_subL)
          rw [e0, e1] at hF
          have inv := fun mm : Str → Option Value => hc.snoc (c' := ⟨st.rows ++ [r], st.l0, st.l1 ++ [r], st.l2, st.nR + 1, st.n0, st.n1 + 1, st.n2, (r.a, tupObj r) :: (r.l, W.listOf #[.int r.x r.tx, .str (txt r.k) r.ty] 0) :: st.tl, mm⟩) hrn hrx (by omega) (by omega) rfl perm_1 rfl
          exact ⟨_, _, _, _, rfl, Fq, News.app hits (News.app hF (News.app hrN hTl)), off_two hI0 (inv fun _ => none).tail, ⟨st.rows ++ [r], st.l0, st.l1 ++ [r], st.l2, st.nR + 1, st.n0, st.n1 + 1, st.n2, (r.a, tupObj r) :: (r.l, W.listOf #[.int r.x r.tx, .str (txt r.k) r.ty] 0) :: st.tl, _⟩, inv _, fr_at Fq (by with_unfolding_all rfl) (by with_unfolding_all rfl), rfl⟩
        · rename_i kk tt rl hq1 lq1 tup hq2 lq2 hq3 tkq hq4 Fq Nq
          obtain ⟨r, hra, hrl, hrn, hrx, hrN⟩ : ∃ r : RowD, r.a = tup ∧ r.l = rl ∧ r.n = (i : Int) + 1 ∧ 0 ≤ r.x ∧ News _ _ _ [(r.a, tupObj r), (r.l, W.listOf #[.int r.x r.tx, .str (txt r.k) r.ty] 0)] := ⟨⟨tup, rl, _, _, _, _, kk, tt⟩, rfl, rfl, rfl, Int.fmod_nonneg_of_pos _ (b := 3) (by decide), News.part Nq (by k_subL)⟩
          subst hra hrl
          have e0 : (rvs st.rows).toArray.push (.ref r.a) = (rvs (st.rows ++ [r])).toArray := by simp
          have e1 : (rvs st.l2).toArray.push (.ref r.a) = (rvs (st.l2 ++ [r])).toArray := by simp
          have hTl : News _ _ _ st.tl := fun p hp => Nq p (by repeat' (first | exact hp | refine List.Mem.tail _ ?_))
          have hits : News _ _ _ [(I + 1, oe), (I, oi)] := News.part Nq (by k_subL)
          have hF : News _ _ _ [(R, W.listOf ((rvs st.rows).toArray.push (.ref r.a)) (st.nR + 1)), (L0, W.listOf (rvs st.l0).toArray st.n0), (L1, W.listOf (rvs st.l1).toArray st.n1), (L2, W.listOf ((rvs st.l2).toArray.push (.ref r.a)) (st.n2 + 1)), (LS, W.listOf #[.ref L0, .ref L1, .ref L2] 0), (D, W.listOf #[Value.ref p, Value.ref q] c), (p, { cls := Value.type "tuple", data := Data.seq #[Value.str (Str.ofString "SIZE") t, Value.bool b1] }), (q, { cls := Value.type "tuple", data := Data.seq #[Value.str (Str.ofString "SUBJECT") u, Value.bool b2] }), (D3, W.listOf ws3.toArray 0), (s1.heap.objs.size + 1, o), (89, tabObj #[])] := News.part Nq (by k_subL)
          rw [e0, e1] at hF
          have inv := fun mm : Str → Option Value => hc.snoc (c' := ⟨st.rows ++ [r], st.l0, st.l1, st.l2 ++ [r], st.nR + 1, st.n0, st.n1, st.n2 + 1, (r.a, tupObj r) :: (r.l, W.listOf #[.int r.x r.tx, .str (txt r.k) r.ty] 0) :: st.tl, mm⟩) hrn hrx (by omega) (by omega) rfl perm_2 rfl
          exact ⟨_, _, _, _, rfl, Fq, News.app hits (News.app hF (News.app hrN hTl)), off_two hI0 (inv fun _ => none).tail, ⟨st.rows ++ [r], st.l0, st.l1, st.l2 ++ [r], st.nR + 1, st.n0, st.n1, st.n2 + 1, (r.a, tupObj r) :: (r.l, W.listOf #[.int r.x r.tx, .str (txt r.k) r.ty] 0) :: st.tl, _⟩, inv _, fr_at Fq (by with_unfolding_all rfl) (by with_unfolding_all rfl), rfl⟩
      clear F N2 hI0
      intro st h tk hc F N
      try k_fold
      as_aux_lemma =>
        w_top off
        have hok : Okr st.tl st.rows := ⟨hc.rows, by rw [hc.len, enumItems_length]; omega⟩
        have hap := hc.apart
        have hnum : ∀ r ∈ st.rows, 0 ≤ r.n ∧ 0 ≤ r.x := fun r hr => ⟨(hc.nums r hr).1, (hc.nums r hr).2.2⟩
        have hperm := hc.perm
        have htl := hc.tail
        have hpl := hc.perm.length_eq
        simp only [List.length_append] at hpl
        have hk0 : Okr st.tl st.l0 := hok.part (fun r hr => hperm.mem_iff.mpr (List.mem_append.mpr (.inl (List.mem_append.mpr (.inl hr))))) (by omega)
        have hk1 : Okr st.tl st.l1 := hok.part (fun r hr => hperm.mem_iff.mpr (List.mem_append.mpr (.inl (List.mem_append.mpr (.inr hr))))) (by omega)
        have hk2 : Okr st.tl st.l2 := hok.part (fun r hr => hperm.mem_iff.mpr (List.mem_append.mpr (.inr hr))) (by omega)
        have hpp := hap.perm hperm
        have hap01 := (List.pairwise_append.mp hpp).1
        have hap2 : Apart st.l2 := (List.pairwise_append.mp hpp).2.1
        have hap0 : Apart st.l0 := (List.pairwise_append.mp hap01).1
        have hap1 : Apart st.l1 := (List.pairwise_append.mp hap01).2.1
        clear hpp hap01
        have hlen := hok.len
        have hq0 : Okr st.tl (place b1 b2 st.l0 st.l0 st.l0) := hk0.perm (place_perm hap0)
        have hq1 : Okr st.tl (place b1 b2 st.l1 st.l1 st.l1) := hk1.perm (place_perm hap1)
        have hq2 : Okr st.tl (place b1 b2 st.l2 st.l2 st.l2) := hk2.perm (place_perm hap2)
        have hqr : Okr st.tl (place b1 b2 st.rows st.rows st.rows) := hok.perm (place_perm hap)
        have hm01 : Okr st.tl (merge b1 b2 (place b1 b2 st.l0 st.l0 st.l0) (place b1 b2 st.l1 st.l1 st.l1)) := hq0.merge hq1 (by rw [place_len, place_len]; omega)
        have hm21 : Okr st.tl (merge b1 b2 (place b1 b2 st.l2 st.l2 st.l2) (place b1 b2 st.l1 st.l1 st.l1)) := hq2.merge hq1 (by rw [place_len, place_len]; omega)
        have hm20 : Okr st.tl (merge b1 b2 (place b1 b2 st.l2 st.l2 st.l2) (place b1 b2 st.l0 st.l0 st.l0)) := hq2.merge hq0 (by rw [place_len, place_len]; omega)
        have hnil : Okr st.tl [] := Okr.nil
        obtain ⟨pl1, pl2, pl3⟩ := plain (b1 := b1) (b2 := b2) hap hperm
        clear hpl hlen hc
        repeat' (first | ((fail_if_success (with_reducible show wpAny _ _ (exec (Stmt.If _ _ _ _) _) _ _ _)); first | (k_unfold; (try dsimp only)) | (k_end; wrow_close) | walk1 | (dsimp only; walk1) | (leave1; walk_say "STEP leave1"; try dsimp only) | (with_reducible show qk _ _; k_unfold; (try dsimp only)) | fail "no step"))
        as_aux_lemma =>
          w_top off
          have pdn : merge b1 b2 (place b1 b2 st.rows st.rows st.rows) [] = place b1 b2 st.rows st.rows st.rows := merge_nil_right _
          have pnd : merge b1 b2 [] (place b1 b2 st.rows st.rows st.rows) = place b1 b2 st.rows st.rows st.rows := merge_nil_left _
          have pnn : merge b1 b2 [] [] = [] := merge_nil_left _
          repeat' (first | ((fail_if_success (with_reducible show wpAny _ _ (call (Value.ref 92) _ _) _ _ _)); first | (k_unfold; (try dsimp only)) | (k_end; wrow_close) | walk1 | (dsimp only; walk1) | (leave1; walk_say "STEP leave1"; try dsimp only) | (with_reducible show qk _ _; k_unfold; (try dsimp only)) | fail "no step"))
          as_aux_lemma =>
            w_top off
            rename Fr _ _ _ _ => F'
            rename News _ _ _ _ => N'
            obtain ⟨due, hdue0⟩ : ∃ due, place b1 b2 st.rows st.rows st.rows = due := ⟨_, rfl⟩
            rw [hdue0] at N' hqr
            refine wpAny_call ?_
            refine sort_rows_code (xs := st.rows) (GdS.mk' (by assumption) F' (News.part N' (by k_subL)) codeHd (by assumption) (by assumption) rfl rfl) (keys_at N' (by k_mem) (by k_mem) (by k_mem)) (News.isList N' (by k_mem)) (Okr.at hok N' (by intro p hp; repeat' (first | exact hp | refine List.Mem.tail _ ?_))) (Nat.le_trans hok.len (by decide)) (rvs_nodup (Okr.at hok N' (by intro p hp; repeat' (first | exact hp | refine List.Mem.tail _ ?_))) hap) hnum ?_
            intro h1 tk1 Ds ws cs ps hwp hws hDs hDs0 hst h89
            have hw := (sorted_is hap hnum hwp hws).trans hdue0
            subst hw
            have h9 := News.off N' (a := 89) (o := tabObj #[]) (by k_mem)
            have h9L : (89 : Addr) ≠ _ := (N' (89, tabObj #[]) (by k_mem)).2.1
            have hokd := hqr
            have hdue : News _ _ _ [(_, W.listOf (rvs ws).toArray _)] := News.part N' (by k_subL)
            have htab : News _ _ _ st.tl := fun p hp => N' p (by repeat' (first | exact hp | refine List.Mem.tail _ ?_))
            have F2 := Fr.hid F' h9L h9 hst
            have hdue2 := News.hid hdue (fun p hp e => by
              have q1 := (hdue p hp).1
              have q2 := News.got N' (a := 89) (o := tabObj #[]) (by k_mem)
              rw [List.mem_singleton.mp hp] at q1 e
              rw [e, q2] at q1
              cases q1) hst
            have htab2 := News.hid htab (tail_ne htl (Nat.le_succ_of_le (Nat.le_of_lt hI.2.2.2.2.2.2.2.2.2.2))) hst
            have hDsN : Ds ≠ 89 := fun e => by
              rw [e] at hDs
              rw [h89] at hDs
              cases hDs
            have N89 : News _ _ h1 [(89, tabObj ps)] := fun p hp => by
              rw [List.mem_singleton.mp hp]
              exact ⟨h89, h9L, h9⟩
            have hrowsat : ∀ r ∈ ws, RowAt h1 r := Okr.at hokd htab2 fun p hp => hp
            have hdl := hokd.len
            clear F' N' hdue htab
            repeat (rename _ ∧ _ => lx; clear lx)
            dsimp only
            repeat' (first | ((fail_if_success (with_reducible show wpAny _ _ (eval (Expr.ListComp _ _ _ _) _) _ _ _)); first | (k_unfold; (try dsimp only)) | (k_end; wrow_close) | walk1 | (dsimp only; walk1) | (leave1; walk_say "STEP leave1"; try dsimp only) | fail "no step"))
            refine comp_list (vs := rvs ws) (fun _ => true) (fun v y => ∃ r ∈ ws, v = rv r ∧ y = Value.int r.n r.t) rfl (by with_unfolding_all rfl) (by decide) rfl (by decide) rfl ?_
            walk1
            refine ⟨_, rfl, News.isList hdue2 (by k_mem), by rw [sizeLine_eq, List.length_map]; exact Nat.le_trans hdl (by decide), ?_, ?_, ?_⟩
            · intro C v s₂ m₂ E' hC hv hn hm hst2
              rw [List.forIn_nil]
              exact wpAny_pure ⟨rfl, _, _, rfl, fun _ _ e => e⟩
            · intro C v s₂ m₂ E' hC hv hpv hn hm hst2
              obtain ⟨r, hr, rfl⟩ := List.mem_map.mp hv
              obtain ⟨hr1, hr2⟩ := hrowsat r hr
              have Fc : Fr h1 C s₂.heap m₂ := ⟨hn, hst2, hC⟩
              have Nc : News h1 C s₂.heap [] := News.nil
              rename Frag.In _ _ => X0
              rename Top _ _ _ _ _ _ => T0
              have X1 := X0.keeps F2.keep
              have T1 := T0.keeps F2.keep
              clear F2 hdue2 htab2 N89 X0
              k_steps
              all_goals first | exact hr | exact ⟨_, _, rfl, fun _ _ e => e⟩
            · intro D4 us h6 tk7 hD4 hpl hpair hst6
              have e : us = (ws.map fun r => Value.int r.n r.t).toArray := by
                rw [List.filter_eq_self.mpr (fun _ _ => rfl)] at hpair
                apply Array.toList_inj.mp
                exact row_nums hrowsat hpair fun _ h => h
              subst e
              have F6 := F2.keeps hst6
              have N6 := N89.grown hst6
              have hA : h6.IsList Ds (ws.map fun r => Value.int r.n r.t).toArray := ⟨_, hst6 _ _ hDs, rfl, _, rfl⟩
              have hB := hpl.isList
              clear F2 hdue2 htab2 N89 hpl hpair
              refine ke_eq_ints hA hB (ints_rows _) (ints_rows _) (by first | units_room | exact Nat.le_of_ble_eq_true rfl) ?_
              rw [decide_eq_true rfl]
              k_steps)
end Mine
theorem PySem.Challenge.cw_nz0274_01_holds : PySem.Challenge.rw_nz0274_01.Holds :=
  Mine.final
