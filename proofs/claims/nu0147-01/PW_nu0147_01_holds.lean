import PyProof.Rows.All
import Wide.All
import OpenK.AllK
import Wide.FinOn
import PySem.Challenge.RW_nu0147_01
set_option Elab.async false
section
open PySem PySem.W PyProof.Rows
set_option maxRecDepth 100000
set_option maxHeartbeats 8000000
namespace Mine
open_top hd for PySem.Challenge.rw_nu0147_01
end Mine
end
section
open PySem PySem.W PySem.Spec PySem.Calls PyProof.Rows
set_option maxRecDepth 100000
set_option maxHeartbeats 1000000
namespace Mine
abbrev PR : Program := PySem.Challenge.rw_nu0147_01.row.prog
/-- what every heap of the run holds: the text's own objects, the globals -/
structure Gd (w : World) (mg mb : Str → Option Value) (h : Heap) : Prop where
  X : (hd.heap_39 w.params).In h
  T : TopRead hd.view_39 (looseW hd.view_39 []) mg mb h
def Kp (h h' : Heap) : Prop := ∀ b o, h.get? b = some o → h'.get? b = some o
theorem Kp.refl (h : Heap) : Kp h h := fun _ _ e => e
theorem Kp.trans {a b c : Heap} (x : Kp a b) (y : Kp b c) : Kp a c := fun p o e => y p o (x p o e)
theorem Gd.kp {w : World} {mg mb : Str → Option Value} {h h' : Heap} (G : Gd w mg mb h) (k : Kp h h') : Gd w mg mb h' := ⟨G.X.keeps k, G.T.keeps k⟩
abbrev AA (dp un : Nat) (fr : Option (List Env)) (gd : Option (List Code)) : Around := { handled := none, depth := dp, frames := fr, guards := gd, units := un }
section
variable {w : World} {mg mb : Str → Option Value} {s : Shared} {Q E : Value → Shared → Prop}
/-- a call of a def of the text without cells -/
theorem call_fn {A : Around} {f : Addr} {args : List Value} {name qual : Str} {params : Arguments} {body : List Stmt} {scope : Scope} {dV kV doc pm cdv ct oc : Value} {an od : Option Addr} {osl : Array (Option Value)} {binds : List (Str × Value)}
    (G : Gd w mg mb s.heap)
    (ho : (hd.heap_39 w.params).lookup f = some ⟨oc, od, .func (fnOf name qual params body scope dV kV doc pm an cdv ct), osl⟩) (hcd : codeIn (hd.heap_39 w.params) cdv qual = true) (hroom : A.depth < recursionLimit)
    (hbind : bindArgs (fnOf name qual params body scope dV kV doc pm an cdv ct) ⟨args, []⟩ = pure binds) (hloc : ∀ y ∈ binds, scope.names.lookup y.1 = some .local)
    (h : ∀ h₁ tk E', Fr s.heap s.heap.objs.size h₁ (fun y => binds.reverse.lookup y) → Kp s.heap h₁ →
      wpAny (model PR w) (A.deeper (envOf qual scope s.heap.objs.size f cdv)) (execs body (envOf qual scope s.heap.objs.size f cdv))
        (fun fl s' => Q (match fl with | .ret v => v | _ => .none) s') E' { s with heap := h₁, toks := tk })
    (hco : scope.isCoroutine = false := by rfl) (hgen : scope.isGenerator = false := by rfl) (hk : scope.kind = .function := by rfl)
    (hcell : ∀ x ∈ scope.names, x.2 ≠ .cell := by decide) :
    wpAny (model PR w) A (call (.ref f) args []) Q E s := by
  refine wpAny_call (codeAny_call_def (fd := fnOf name qual params body scope dV kV doc pm an cdv ct) (body := body) (binds := binds) hroom (G.X _ _ ho) rfl G.T.nolimit (codeRec_of G.X hcd) rfl (BindsTo.of_eq hbind) hcell hloc (fun h₁ hns hk₁ => ?_) hco hgen hk)
  exact h h₁ _ _ ⟨hns, hk₁, Nat.le_refl _⟩ hk₁
end
/-- a row of the shaped text -/
structure RowV where
  g : Int
  c : Int
  a : Int
  y : Int
def RowAt (h : Heap) (v : Value) (r : RowV) : Prop :=
  ∃ b t1 t2 t3 t4 t5 t6, v = .ref b ∧ IsTup h b #[.int r.g t1, .int r.c t2, .int r.a t3, .int 0 t4, .int r.y t5, .int 0 t6, .bool false]
def RowsAt (h : Heap) (vs : List Value) (rs : List RowV) : Prop := Paired (RowAt h) vs rs
theorem RowAt.kp {h h' : Heap} {v : Value} {r : RowV} (x : RowAt h v r) (k : Kp h h') : RowAt h' v r :=
  let ⟨b, t1, t2, t3, t4, t5, t6, e, i⟩ := x; ⟨b, t1, t2, t3, t4, t5, t6, e, i.keeps k⟩
theorem Paired.imp' {α β : Type} {F G : α → β → Prop} (fg : ∀ a b, F a b → G a b) : ∀ {l : List α} {m : List β}, Paired F l m → Paired G l m
  | _, _, .nil => .nil
  | _, _, .cons h r => .cons (fg _ _ h) (Paired.imp' fg r)
theorem RowsAt.kp {h h' : Heap} {vs : List Value} {rs : List RowV} (x : RowsAt h vs rs) (k : Kp h h') : RowsAt h' vs rs := Paired.imp' (fun _ _ y => y.kp k) x
/-- a Shaped thing: its dict, its two fields -/
structure ShapedAt (h : Heap) (x l : Addr) (b : Bool) : Prop where
  ex : ∃ dx hs1 hs2 t1 t2 n, h.get? x = some (instObj 38 dx) ∧
    h.get? dx = some (dictOf [⟨hs1, .str (Str.ofString "rows") t1, .ref l⟩, ⟨hs2, .str (Str.ofString "is_backward") t2, .bool b⟩] n)
theorem ShapedAt.kp {h h' : Heap} {x l : Addr} {b : Bool} (y : ShapedAt h x l b) (k : Kp h h') : ShapedAt h' x l b :=
  let ⟨dx, a1, a2, a3, a4, n, p, q⟩ := y.ex; ⟨dx, a1, a2, a3, a4, n, k _ _ p, k _ _ q⟩
end Mine
end
section
open PySem PySem.W PySem.Spec PySem.Calls PyProof.Rows
set_option maxRecDepth 100000
set_option maxHeartbeats 1000000
namespace Mine
theorem fill_on (w : World) : (hd.heap_39 w.params).In {} → PySem.Challenge.rw_nu0147_01.prog = PySem.Challenge.rw_nu0147_01.prog := by
  k_fill
  exact fun _ => rfl
theorem fr_kp {h₀ h h' : Heap} {L : Addr} {m : Str → Option Value} (F : Fr h₀ L h m) (k : Kp h h') : Fr h₀ L h' m := ⟨F.ns.keeps k, fun b o e => k b o (F.keep b o e), F.above⟩
theorem news_kp {h₀ h h' : Heap} {L : Addr} {news : List (Addr × Obj)} (N : News h₀ L h news) (k : Kp h h') : News h₀ L h' news := fun p hp => ⟨k _ _ (N p hp).1, (N p hp).2⟩
theorem news_new {h₀ h h' : Heap} {L D : Addr} {m : Str → Option Value} {o : Obj} {news : List (Addr × Obj)} (F : Fr h₀ L h m) (N : News h₀ L h news) (k : Kp h h') (hD : h.get? D = none) (ho : h'.get? D = some o) : News h₀ L h' ((D, o) :: news) := by
  intro p hp
  rcases List.mem_cons.mp hp with rfl | hp
  · refine ⟨ho, ?_, ?_⟩
    · obtain ⟨oL, _, _, hL, _⟩ := F.ns
      intro (e : D = L)
      rw [e, hL] at hD; cases hD
    · show h₀.get? D = none
      cases q : h₀.get? D with
      | none => rfl
      | some o' => have := F.keep _ _ q; rw [hD] at this; cases this
  · exact news_kp N k p hp
theorem isList_kp {h h' : Heap} {l : Addr} {vs : Array Value} (x : h.IsList l vs) (k : Kp h h') : h'.IsList l vs := let ⟨o, ho, r⟩ := x; ⟨o, k _ _ ho, r⟩
theorem get_size (h : Heap) : h.get? h.objs.size = none := Heap.get?_none_of_le (Nat.le_refl _)
section
variable {w : World} {A : Around} {s : Shared} {Q E : Value → Shared → Prop} {env : Env}
/-- a comprehension over a list, its tests and its element pure -/
theorem comp_list {elt iter : PySem.Expr} {x : Str} {px : Pos} {ifs : List PySem.Expr} {scope : Scope} {cl : List (Str × Addr)} {pos : Pos} (p : Value → Bool) (F : Value → Value → Prop)
    (hh : A.handled = none)
    (hclos : closureFor scope env = pure cl) (hcell : ∀ y ∈ scope.names, y.2 ≠ .cell) (hkind : scope.kind = .function)
    (hnames : ∀ y ∈ scope.names, y.2 = .local → scope.names.lookup y.1 = some .local) (hx : scope.names.lookup x = some .local)
    (h : wpAny (model PR w) A (eval iter env) (fun xv s₁ => ∃ (l : Addr) (vs : List Value), xv = .ref l ∧ s₁.heap.IsList l vs.toArray ∧ vs.length ≤ sizeLine ∧
      (∀ C v s₃ m₃ E', v ∈ vs → s₃.heap.Ns C m₃ → m₃ x = some v → Kp s₁.heap s₃.heap →
        wpAny (model PR w) A (forIn ifs true fun c r => if r = true then do let ok ← isTrue c (compEnvC scope cl C env) (eval c (compEnvC scope cl C env)); pure (ForInStep.yield ok) else pure (ForInStep.yield r))
          (fun ok s₄ => ok = p v ∧ Keeps s₃ s₄) E' s₃) ∧
      (∀ C v s₃ m₃ E', v ∈ vs → p v = true → s₃.heap.Ns C m₃ → m₃ x = some v → Kp s₁.heap s₃.heap →
        wpAny (model PR w) A (eval elt (compEnvC scope cl C env)) (fun y s₄ => F v y ∧ Keeps s₃ s₄) E' s₃) ∧
      (∀ D h' tk ys n, s₁.heap.get? D = none → h'.get? D = some (listOf ys n) → Paired F (vs.filter p) ys.toList → Kp s₁.heap h' → Q (.ref D) { s₁ with heap := h', toks := tk })) E s)
    (hs : ∀ x, foldedSetIterable iter env x = pure x := by intro _; rfl) :
    wpAny (model PR w) A (eval (.ListComp elt [⟨.Name x px, iter, ifs, 0⟩] scope pos) env) Q E s := by
  refine wpAny_ListComp_free p F hclos hcell hkind hnames hx (wpAny_mono h (fun xv s₁ h₁ => ?_) fun _ _ e => e) hs
  obtain ⟨l, vs, rfl, hl, hsz, ht, he, hQ⟩ := h₁
  refine wpAny_pyIter_list hl ?_
  obtain ⟨ol, hol, _⟩ := id hl
  have hlt := Heap.lt_size hol
  have hne : l ≠ s₁.heap.objs.size := Nat.ne_of_lt hlt
  have hk1 : ∀ b o, s₁.heap.get? b = some o → b ∉ [s₁.heap.objs.size] := fun b o e hb => absurd (Heap.lt_size e) ((List.mem_singleton.mp hb) ▸ Nat.lt_irrefl _)
  have mem : ∀ (i : Nat) (v : Value), vs.toArray[i]? = some v → v ∈ vs := fun i v e => List.mem_of_getElem? (i := i) (by rw [List.getElem?_toArray] at e; exact e)
  refine ⟨s₁.heap.objs.size, _, _, _, _, _, rfl, Walks.list hh s₁.heap.objs.size l hne vs.toArray, by simpa using hsz, ⟨⟨_, Heap.get?_push_size _ rfl, rfl, rfl⟩, hl.at fun o e => Heap.get?_push_of_some _ e⟩, ?_, ⟨?_, ?_⟩, ?_⟩
  · intro b hb
    show b < (s₁.heap.push _).objs.size
    rw [Heap.size_push]
    rcases List.mem_cons.mp hb with rfl | hb
    · exact Nat.lt_succ_self _
    · rw [List.mem_singleton.mp hb]; exact Nat.lt_succ_of_lt hlt
  · intro C i v s₃ m₃ E' _ hP hn hm hk _
    exact ht C v s₃ m₃ E' (mem i v hP) hn hm (fun b o e => hk b o (hk1 b o e) (Heap.get?_push_of_some _ e))
  · intro C i v s₃ m₃ E' _ hP hp hn hm hk _
    exact he C v s₃ m₃ E' (mem i v hP) hp hn hm (fun b o e => hk b o (hk1 b o e) (Heap.get?_push_of_some _ e))
  · intro D h' tk ys vs' hD hL hPL hlen hP hF hk
    have e : vs' = vs := by
      refine List.ext_getElem? fun i => ?_
      by_cases hi : i < vs'.length
      · have h1 := hP i (vs'[i]) (List.getElem?_eq_getElem hi)
        rw [List.getElem?_eq_getElem hi]
        simpa using h1.symm
      · have h2 : vs'.length = vs.length := by simpa using hlen
        rw [List.getElem?_eq_none (by omega), List.getElem?_eq_none (by omega)]
    subst e
    have hk' : Kp s₁.heap h' := fun b o e => hk b o (hk1 b o e) (Heap.get?_push_of_some _ e)
    obtain ⟨n, hn⟩ := hPL
    refine hQ D h' tk ys n ?_ hn hF hk'
    cases q : s₁.heap.get? D with
    | none => rfl
    | some o => have := Heap.get?_push_of_some { cls := Value.type "list_iterator", data := Data.fields #[Value.ref l, Value.int 0 0] } q; rw [this] at hD; cases hD
end
section
variable {w : World} {mg mb : Str → Option Value} {A : Around} {s : Shared} {Q E : Value → Shared → Prop}
theorem attr_rows {x l : Addr} {b expr : Bool} {h₀ : Heap} {L : Addr} {m : Str → Option Value} (F : Fr h₀ L s.heap m) (G : Gd w mg mb h₀) (S : ShapedAt h₀ x l b)
    (h : Q (.ref l) { s with toks := s.toks + 1 }) : wpAny (model PR w) A (getAttr (.ref x) (Str.ofString "rows") expr) Q E s := by
  obtain ⟨dx, a1, a2, a3, a4, n, p, q⟩ := S.ex
  refine' get_own (K := hd.heap_39 w.params) F G.X ⟨F.keep _ _ p, rfl, rfl, F.keep _ _ q⟩ ?k4 ?k5 ?k6 ?k7 ?k8 rfl h
  case k4 => k_is
  case k5 => k_is
  case k6 => k_is
  case k7 => k_is
  case k8 => k_get
theorem attr_back {x l : Addr} {b expr : Bool} {h₀ : Heap} {L : Addr} {m : Str → Option Value} (F : Fr h₀ L s.heap m) (G : Gd w mg mb h₀) (S : ShapedAt h₀ x l b)
    (h : Q (.bool b) { s with toks := s.toks + 1 }) : wpAny (model PR w) A (getAttr (.ref x) (Str.ofString "is_backward") expr) Q E s := by
  obtain ⟨dx, a1, a2, a3, a4, n, p, q⟩ := S.ex
  refine' get_own (K := hd.heap_39 w.params) F G.X ⟨F.keep _ _ p, rfl, rfl, F.keep _ _ q⟩ ?k4 ?k5 ?k6 ?k7 ?k8 rfl h
  case k4 => k_is
  case k5 => k_is
  case k6 => k_is
  case k7 => k_is
  case k8 => k_get
end
end Mine
end
section
open PySem PySem.W PySem.Spec PySem.Calls PyProof.Rows
set_option maxRecDepth 100000
set_option maxHeartbeats 1000000
namespace Mine
theorem paired_mem {α β : Type} {F : α → β → Prop} : ∀ {l : List α} {m : List β}, Paired F l m → ∀ a ∈ l, ∃ b ∈ m, F a b
  | _, _, .cons h r, a, hm => by
    rcases List.mem_cons.mp hm with rfl | hm
    · exact ⟨_, .head _, h⟩
    · obtain ⟨b, hb, hf⟩ := paired_mem r a hm; exact ⟨b, .tail _ hb, hf⟩
theorem paired_get {α β : Type} {F : α → β → Prop} : ∀ {l : List α} {m : List β}, Paired F l m → ∀ {i : Nat} {b : β}, m[i]? = some b → ∃ a, l[i]? = some a ∧ F a b
  | _, _, .nil, i, b, h => by simp at h
  | _, _, .cons h r, 0, b, e => by simp at e; subst e; exact ⟨_, rfl, h⟩
  | _, _, .cons h r, i + 1, b, e => by simpa using paired_get r (by simpa using e)
theorem paired_getL {α β : Type} {F : α → β → Prop} : ∀ {l : List α} {m : List β}, Paired F l m → ∀ {i : Nat} {a : α}, l[i]? = some a → ∃ b, m[i]? = some b ∧ F a b
  | _, _, .nil, i, b, h => by simp at h
  | _, _, .cons h r, 0, b, e => by simp at e; subst e; exact ⟨_, rfl, h⟩
  | _, _, .cons h r, i + 1, b, e => by simpa using paired_getL r (by simpa using e)
theorem RowAt.inj {h : Heap} {v : Value} {r r' : RowV} (x : RowAt h v r) (y : RowAt h v r') : r = r' := by
  obtain ⟨b, t1, t2, t3, t4, t5, t6, rfl, o, ho, _, n, hd⟩ := x
  obtain ⟨b', u1, u2, u3, u4, u5, u6, e, o', ho', _, n', hd'⟩ := y
  cases e
  rw [ho] at ho'
  cases ho'
  rw [hd] at hd'
  simp at hd'
  obtain ⟨⟨⟨a1, _⟩, ⟨a2, _⟩, ⟨a3, _⟩, _, ⟨a4, _⟩, _⟩, _⟩ := hd'
  cases r; cases r'; simp_all
def intOf (h : Heap) (f : RowV → Int) (v y : Value) : Prop := ∃ r t, RowAt h v r ∧ y = .int (f r) t
theorem ints_of {h : Heap} {f : RowV → Int} : ∀ {vs : List Value} {rs : List RowV} {ys : List Value}, RowsAt h vs rs → Paired (intOf h f) vs ys → IntsAre ys (rs.map f)
  | _, _, _, .nil, .nil => .nil
  | _, _, _, .cons x r, .cons ⟨r', t, x', e⟩ p => by rw [x.inj x', e]; exact .cons _ _ (ints_of r p)
section
variable {w : World} {A : Around} {s : Shared} {Q E : Value → Shared → Prop} {env : Env}
theorem nm_local {x : Str} {pos : Pos} {m : Str → Option Value} {v : Value} (hn : s.heap.Ns env.locals m) (hm : m x = some v) (h : Q v s) (hk : env.scope.kind = .function) (hl : env.kindOf x = some .local) (hd : (x == ("__debug__" : Str)) = false) :
    wpAny (model PR w) A (eval (.Name x pos) env) Q E s := wpAny_Name (wpAny_loadName_local hk hl hn hm h) hd
theorem nm_free {x : Str} {pos : Pos} {c : Addr} {v : Value} (hc : env.cells.lookup x = some c) (hv : s.heap.IsCell c (some v)) (h : Q v s) (hk : env.scope.kind = .function) (hl : env.kindOf x = some .free) (hd : (x == ("__debug__" : Str)) = false) (hd' : (x == ("__classdict__" : Str)) = false) :
    wpAny (model PR w) A (eval (.Name x pos) env) Q E s := wpAny_Name (wpAny_loadName_free hk hl hc hv h hd') hd
theorem nm_cell {x : Str} {pos : Pos} {c : Addr} {v : Value} (hc : env.cells.lookup x = some c) (hv : s.heap.IsCell c (some v)) (h : Q v s) (hk : env.scope.kind = .function) (hl : env.kindOf x = some .cell) (hd : (x == ("__debug__" : Str)) = false) :
    wpAny (model PR w) A (eval (.Name x pos) env) Q E s := wpAny_Name (wpAny_loadName_cell hk hl hc hv h) hd
/-- v[0], v[1], v[2] of a row -/
theorem row_at0 {v : Value} {r : RowV} {value : PySem.Expr} {p : Pos} {n : Nat} (x : RowAt s.heap v r) (h : ∀ t, Q (.int r.g t) { s with toks := s.toks + 1 }) :
    wpAny (model PR w) A (eval (.Constant (.int 0) n p) env) (fun i s₂ => wpAny (model PR w) A (subscriptTail value (.Constant (.int 0) n p) v i) Q E s₂) E s := by
  obtain ⟨b, t1, t2, t3, t4, t5, t6, rfl, i⟩ := x
  exact wpAny_Constant_int (item_tupleT i (by decide) (by decide) rfl rfl (h _))
theorem row_at1 {v : Value} {r : RowV} {value : PySem.Expr} {p : Pos} {n : Nat} (x : RowAt s.heap v r) (h : ∀ t, Q (.int r.c t) { s with toks := s.toks + 1 }) :
    wpAny (model PR w) A (eval (.Constant (.int 1) n p) env) (fun i s₂ => wpAny (model PR w) A (subscriptTail value (.Constant (.int 1) n p) v i) Q E s₂) E s := by
  obtain ⟨b, t1, t2, t3, t4, t5, t6, rfl, i⟩ := x
  exact wpAny_Constant_int (item_tupleT i (by decide) (by decide) rfl rfl (h _))
theorem row_at2 {v : Value} {r : RowV} {value : PySem.Expr} {p : Pos} {n : Nat} (x : RowAt s.heap v r) (h : ∀ t, Q (.int r.a t) { s with toks := s.toks + 1 }) :
    wpAny (model PR w) A (eval (.Constant (.int 2) n p) env) (fun i s₂ => wpAny (model PR w) A (subscriptTail value (.Constant (.int 2) n p) v i) Q E s₂) E s := by
  obtain ⟨b, t1, t2, t3, t4, t5, t6, rfl, i⟩ := x
  exact wpAny_Constant_int (item_tupleT i (by decide) (by decide) rfl rfl (h _))
end
theorem keeps_toks {s : Shared} {n : Nat} : Keeps s { s with toks := n } := ⟨s.heap, n, rfl, fun _ _ e => e⟩
theorem keeps_rfl {s : Shared} : Keeps s s := ⟨s.heap, s.toks, rfl, fun _ _ e => e⟩
/-- sums of few small ints fit -/
theorem sum_bound : ∀ (l : List Int), (∀ x ∈ l, 0 ≤ x ∧ x ≤ 600) → 0 ≤ l.sum ∧ l.sum ≤ 600 * (l.length : Int)
  | [], _ => by simp
  | a :: r, h => by
    have h1 := h a (.head _)
    have h2 := sum_bound r fun x hx => h x (.tail _ hx)
    simp only [List.sum_cons, List.length_cons]
    omega
theorem sumFits_small {l : List Int} (hb : ∀ x ∈ l, 0 ≤ x ∧ x ≤ 600) (hn : l.length ≤ 8) : PySem.SumFits l := by
  intro j hj
  have h1 : 0 ≤ l.getD j 0 ∧ l.getD j 0 ≤ 600 := by
    rw [List.getD_eq_getElem?_getD, List.getElem?_eq_getElem hj]
    exact hb _ (List.getElem_mem hj)
  have h2 := sum_bound (l.take (j + 1)) fun x hx => hb x (List.mem_of_mem_take hx)
  have h3 : (l.take (j + 1)).length ≤ 8 := by rw [List.length_take]; omega
  constructor
  · unfold InLong; omega
  · unfold InLong; omega
end Mine
namespace Mine
section
variable {w : World} {A : Around} {s : Shared} {Q E : Value → Shared → Prop}
theorem sum_kp {l : Addr} {vs : List Value} {ns : List Int} (hh : A.handled = none) (hl : s.heap.IsList l vs.toArray) (hi : IntsAre vs ns)
    (h : ∀ h' tk t', Kp s.heap h' → Q (.int ns.sum t') { s with heap := h', toks := tk }) : wpAny (model PR w) A (call (.builtin "sum") [.ref l]) Q E s := by
  obtain ⟨xs, hx⟩ := hi.allInts.items
  have hl' : s.heap.IsList l (intItems xs) := hx ▸ hl
  refine sum_intListG hh hl' fun h' tk t' hk => ?_
  have e1 : ns = xs.toList.map (·.1) := by
    rw [← nums_intItems, ← hx]
    exact (show numsOf vs.toArray.toList = ns from hi.numsOf).symm
  have e2 : preSum (numAt xs) xs.size = ns.sum := by
    rw [preSum_eq, List.take_of_length_le (by simp), e1]
  rw [e2]
  exact h h' tk t' hk
end
theorem list_of_obj {h : Heap} {l : Addr} {ys : Array Value} {n : Nat} (e : h.get? l = some (W.listOf ys n)) : h.IsList l ys := ⟨_, e, rfl, n, rfl⟩
theorem paired_true {F : Value → Value → Prop} {vs ys : List Value} (h : Paired F (vs.filter fun _ => true) ys) : Paired F vs ys := by
  have e : vs.filter (fun _ => true) = vs := List.filter_eq_self.mpr fun _ _ => rfl
  rwa [e] at h
end Mine
end
section
open PySem PySem.W PySem.Spec PySem.Calls PyProof.Rows
set_option maxRecDepth 100000
set_option maxHeartbeats 1000000
namespace Mine
/-- keeps a term from being unfolded into its place -/
theorem blk {P : Prop} (h : P) : P := h
/-- what a turn's end hands on -/
def TurnEnd (h₀ : Heap) (L I : Addr) (own : List (Addr × Obj)) (J : (Str → Option Value) → List (Addr × Obj) → Prop) (s s' : Shared) : Prop :=
  ∃ h' tk' m' nx', s' = { s with heap := h', toks := tk' } ∧ Fr h₀ L h' m' ∧ News h₀ L h' (own ++ nx') ∧ (∀ p ∈ nx', p.1 ≠ I) ∧ J m' nx'
def TurnPost (h₀ : Heap) (L I : Addr) (own : List (Addr × Obj)) (J : (Str → Option Value) → List (Addr × Obj) → Prop) (s : Shared) (Q : Flow → Shared → Prop) (fl : Flow) (s' : Shared) : Prop :=
  match fl with
  | .ret v => Q (.ret v) s'
  | .brk => Q .next s'
  | _ => TurnEnd h₀ L I own J s s'
theorem TurnEnd.intro {h₀ : Heap} {L I : Addr} {own : List (Addr × Obj)} {J : (Str → Option Value) → List (Addr × Obj) → Prop} {s : Shared} {h' : Heap} {tk' : Nat} {m' : Str → Option Value} {nx' : List (Addr × Obj)}
    (F : Fr h₀ L h' m') (N : News h₀ L h' (own ++ nx')) (hI : ∀ p ∈ nx', p.1 ≠ I) (hJ : J m' nx') : TurnEnd h₀ L I own J s { s with heap := h', toks := tk' } := ⟨h', tk', m', nx', rfl, F, N, hI, hJ⟩
abbrev rangeIt (x left : Int) : Obj := { cls := .type "range_iterator", dict := none, data := .fields #[rawInt x, rawInt left, rawInt 1], slots := #[] }
def LoopGo (prog : Program) (w : World) (A : Around) (target : PySem.Expr) (body : List Stmt) (env : Env) (Q : Flow → Shared → Prop) (E : Value → Shared → Prop) (it : Value) (s₂ : Shared) : Prop :=
  codeAny (model prog w) A (.forLoop target it body [] env) (fun r s' => match r with | .ok f => Q f s' | .error e => cameBackBy (model prog w) A env E e s') s₂
section
variable {w : World} {A : Around} {s : Shared} {env : Env} {Q : Flow → Shared → Prop} {E : Value → Shared → Prop}
theorem for_go {target iter : PySem.Expr} {body : List Stmt} {pos : Pos}
    (h : wpAny (model PR w) A (eval iter env) (fun x s₁ => wpAny (model PR w) A (pyIter x) (fun it s₂ => LoopGo PR w A target body env Q E it s₂) E s₁) E s)
    (hs : ∀ x, foldedSetIterable iter env x = pure x := by intro _; rfl) :
    wpAny (model PR w) A (exec (.For target iter body [] pos) env) Q E s := wpAny_For h hs
theorem for_range {target : PySem.Expr} {body : List Stmt} {h₀ : Heap} {news : List (Addr × Obj)} {m₀ : Str → Option Value} {r : Addr} {a b : Int} {t u v : Tok} {n : Nat}
    (J : Nat → (Str → Option Value) → List (Addr × Obj) → Prop)
    (hh : A.handled = none) (hr : IsRange s.heap r a b 1 t u v) (ha : -(2 ^ 62) ≤ a) (ha' : a < 2 ^ 62) (hb : -(2 ^ 62) ≤ b) (hb' : b < 2 ^ 62) (hn : n = (b - a).toNat)
    (F : Fr h₀ env.locals s.heap m₀) (N : News h₀ env.locals s.heap news) (hJ : J 0 m₀ news)
    (turn : ∀ i m₁ nx h tk t I oI E', i < n → (∀ p ∈ news, p.1 < I) → (∀ p ∈ nx, p.1 ≠ I) → J i m₁ nx → Fr h₀ env.locals h m₁ → News h₀ env.locals h ((I, oI) :: nx) →
      wpAny (model PR w) A (assign target env (.int (a + i) t)) (fun _ s₂ => wpAny (model PR w) A (execs body env) (TurnPost h₀ env.locals I [(I, oI)] (J (i + 1)) s Q) E' s₂) E' { s with heap := h, toks := tk })
    (done : ∀ m₁ nx h tk, J n m₁ nx → Fr h₀ env.locals h m₁ → News h₀ env.locals h nx → Q .next { s with heap := h, toks := tk })
    (ht : ∀ it v, letOwnedTupleGo target it v = pure () := by intro _ _; rfl) :
    wpAny (model PR w) A (pyIter (.ref r)) (fun it s₂ => LoopGo PR w A target body env Q E it s₂) E s := by
  refine wpAny_pyIter_range hr (small_one ha ha' hb hb') ?_
  have hsz : Builtin.Range.rangeSize a b 1 = (n : Int) := by rw [rangeSize_one, hn]; split <;> omega
  have W : Walks PR w A s.heap.objs.size [s.heap.objs.size] [s.heap.objs.size] n _ _ := Walks.range hh s.heap.objs.size a 1 n
  have hI0 : h₀.get? s.heap.objs.size = none := next_is_new F
  have hIL : s.heap.objs.size ≠ env.locals := Nat.ne_of_gt F.ns.lt
  have hlt : ∀ p ∈ news, p.1 < s.heap.objs.size := fun p hp => Heap.lt_size (N p hp).1
  obtain ⟨INV, hINV⟩ : ∃ INV : Nat → Shared → Prop, INV = (fun k s' => ∃ i m₁ nx h tk, s' = { s with heap := h, toks := tk } ∧ IsRangeIter h s.heap.objs.size (a + (i : Nat) * 1) ((n : Int) - (i : Nat)) 1 ∧ Fr h₀ env.locals h m₁ ∧ News h₀ env.locals h nx ∧ (∀ p ∈ nx, p.1 ≠ s.heap.objs.size) ∧ J i m₁ nx ∧ i ≤ n ∧ k = n + 1 - i) := ⟨_, rfl⟩
  refine codeAny_forLoop INV ?_ (n + 1) (by rw [hINV]; exact ⟨0, m₀, news, _, s.toks, rfl, by rw [hsz]; simpa using Heap.get?_push_size _ rfl, F.push _, fun p hp => ⟨Heap.get?_push_of_some _ (N p hp).1, (N p hp).2⟩, fun p hp => Nat.ne_of_lt (hlt p hp), hJ, Nat.zero_le _, rfl⟩) (ht _)
  intro k s' hI0
  rw [hINV] at hI0
  obtain ⟨i, m₁, nx, h, tk, rfl, hit, F₁, N₁, hnx, hJ₁, hi, rfl⟩ := hI0
  by_cases hlt' : i < n
  · refine W.item i _ _ _ hlt' hit fun v' h' tk' ⟨t', hv⟩ hst hk => ?_
    subst hv
    have e1 : a + (i : Int) * 1 = a + (i : Int) := by omega
    rw [e1]
    have hoI : h'.get? s.heap.objs.size = some (rangeIt (a + ((i + 1 : Nat) : Int) * 1) ((n : Int) - ((i + 1 : Nat) : Int))) := hst
    have keep : ∀ b o, b ≠ s.heap.objs.size → h.get? b = some o → h'.get? b = some o := fun b o hb e => hk b o (fun q => hb (List.mem_singleton.mp q)) e
    have F₂ : Fr h₀ env.locals h' m₁ := ⟨F₁.ns.at' fun o e => keep _ o (Ne.symm hIL) e, fun b o e => keep b o (fun q => by rw [q, hI0] at e; cases e) (F₁.keep b o e), F₁.above⟩
    have N₂ : News h₀ env.locals h' ((s.heap.objs.size, (rangeIt (a + ((i + 1 : Nat) : Int) * 1) ((n : Int) - ((i + 1 : Nat) : Int)))) :: nx) := by
      intro p hp
      rcases List.mem_cons.mp hp with rfl | hp
      · exact ⟨hoI, hIL, hI0⟩
      · exact ⟨keep _ _ (hnx p hp) (N₁ p hp).1, (N₁ p hp).2⟩
    refine wpAny_mono (turn i m₁ nx h' tk' t' s.heap.objs.size _ _ hlt' hlt hnx hJ₁ F₂ N₂) (fun _ s₂ h₂ => wpAny_mono h₂ (fun fl s₃ h₃ => ?_) fun _ _ e => e) fun _ _ e => e
    have fin : TurnEnd h₀ env.locals s.heap.objs.size [(s.heap.objs.size, (rangeIt (a + ((i + 1 : Nat) : Int) * 1) ((n : Int) - ((i + 1 : Nat) : Int))))] (J (i + 1)) s s₃ → ∃ m, m < n + 1 - i ∧ INV m s₃ := by
      rintro ⟨h'', tk'', m', nx', rfl, F', N', hI', hJ'⟩
      refine ⟨n + 1 - (i + 1), by omega, ?_⟩
      rw [hINV]
      exact ⟨i + 1, m', nx', h'', tk'', rfl, (N' _ (.head _)).1, F', fun p hp => N' p (.tail _ hp), hI', hJ', by omega, rfl⟩
    cases fl with
    | ret v => exact h₃
    | brk => exact h₃
    | next => exact fin h₃
    | cont => exact fin h₃
  · have hin : i = n := by omega
    subst hin
    refine W.done _ _ _ hit fun h' tk' hk => wpAny_execs_nil ?_
    have keep : ∀ b o, b ≠ s.heap.objs.size → h.get? b = some o → h'.get? b = some o := fun b o hb e => hk b o (fun q => hb (List.mem_singleton.mp q)) e
    exact done m₁ nx h' tk' hJ₁ ⟨F₁.ns.at' fun o e => keep _ o (Ne.symm hIL) e, fun b o e => keep b o (fun q => by rw [q, hI0] at e; cases e) (F₁.keep b o e), F₁.above⟩
      fun p hp => ⟨keep _ _ (hnx p hp) (N₁ p hp).1, (N₁ p hp).2⟩
end
end Mine
end
section
open PySem PySem.W PySem.Spec PySem.Calls PyProof.Rows
set_option maxRecDepth 100000
set_option maxHeartbeats 1000000
namespace Mine
section
variable {w : World} {A : Around} {s : Shared} {Q E : Value → Shared → Prop} {h₀ : Heap} {L l : Addr} {m : Str → Option Value}
theorem sub_base {vs : List Value} {value slice : PySem.Expr} {k : Int} {u : Tok} {v : Value} (F : Fr h₀ L s.heap m) (hl : h₀.IsList l vs.toArray) (h0 : 0 ≤ k) (hk : k < 2 ^ 63) (hx : vs[k.toNat]? = some v) (h : Q v s)
    (hs : subscripted slice false (.ref l) (.int k u) = operate [.ref l, .int k u] (getItem (.ref l) (.int k u)) := by with_unfolding_all rfl) :
    wpAny (model PR w) A (subscriptTail value slice (.ref l) (.int k u)) Q E s :=
  have hL : s.heap.IsList l vs.toArray := isList_kp hl F.keep
  tail_any hL.typeIs slot_list_getitem.lookup (wpAny_getItem_list hL h0 hk (by simpa using hx) h) hs
theorem sub_row {vs : List Value} {rs : List RowV} {value slice : PySem.Expr} {k : Int} {u : Tok} {i : Nat} (F : Fr h₀ L s.heap m) (hl : h₀.IsList l vs.toArray) (hR : RowsAt h₀ vs rs) (hk : k = (i : Int)) (hi : i < rs.length) (h8 : rs.length ≤ 8)
    (h : ∀ v, RowAt h₀ v rs[i] → Q v s)
    (hs : subscripted slice false (.ref l) (.int k u) = operate [.ref l, .int k u] (getItem (.ref l) (.int k u)) := by with_unfolding_all rfl) :
    wpAny (model PR w) A (subscriptTail value slice (.ref l) (.int k u)) Q E s := by
  obtain ⟨v, hv, hRv⟩ := paired_get hR (List.getElem?_eq_getElem hi)
  subst hk
  exact sub_base F hl (by omega) (by omega) (by simpa using hv) (h v hRv) hs
theorem len_base {vs : List Value} (F : Fr h₀ L s.heap m) (hl : h₀.IsList l vs.toArray) (hn : vs.length < 2 ^ 60) (h : ∀ t k, Q (.int vs.length t) { s with toks := k }) :
    wpAny (model PR w) A (call (.builtin "len") [.ref l]) Q E s :=
  Calls.call_len_list (isList_kp hl F.keep) (by simp; omega) (by simpa using h _ _)
theorem range1_kp {n : Int} {t : Tok} (h : ∀ r t' u h' k, IsRange h' r 0 n 1 t' t u → Kp s.heap h' → Q (.ref r) { s with heap := h', toks := k }) :
    wpAny (model PR w) A (call (.type "range") [.int n t]) Q E s := call_range_1 (h _ _ _ _ _ (IsRange.new ..) fun _ _ e => Heap.get?_push_of_some _ e)
theorem range2_kp {a b : Int} {t u : Tok} (h : ∀ r u' h' k, IsRange h' r a b 1 t u u' → Kp s.heap h' → Q (.ref r) { s with heap := h', toks := k }) :
    wpAny (model PR w) A (call (.type "range") [.int a t, .int b u]) Q E s := call_range_2 (h _ _ _ _ (IsRange.new ..) fun _ _ e => Heap.get?_push_of_some _ e)
end
end Mine
end
section
open PySem PySem.W PySem.Spec PySem.Calls PyProof.Rows
set_option maxRecDepth 100000
set_option maxHeartbeats 1000000
namespace Mine
/-- strictly rising -/
def Rise (xs : Array Nat) : Prop := xs.toList.Pairwise (· < ·)
theorem rise_get {xs : Array Nat} (h : Rise xs) {i j : Nat} (hij : i < j) (hj : j < xs.size) : xs.getD i 0 < xs.getD j 0 := by
  have hi : i < xs.size := by omega
  rw [Array.getD_eq_getD_getElem?, Array.getD_eq_getD_getElem?, Array.getElem?_eq_getElem hi, Array.getElem?_eq_getElem hj]
  have := List.pairwise_iff_getElem.mp h i j (by simpa using hi) (by simpa using hj) hij
  simpa using this
theorem below_go {xs : Array Nat} (h : Rise xs) (j : Nat) : ∀ (fuel lo hi : Nat), lo ≤ hi → hi ≤ xs.size → hi - lo ≤ fuel → (∀ i, i < lo → xs.getD i 0 < j) → (∀ i, hi ≤ i → i < xs.size → j ≤ xs.getD i 0) →
    ∃ p, SetTable.below.go xs j fuel lo hi = p ∧ p ≤ xs.size ∧ (∀ i, i < p → xs.getD i 0 < j) ∧ ∀ i, p ≤ i → i < xs.size → j ≤ xs.getD i 0
  | 0, lo, hi, h1, h2, h3, h4, h5 => by
    have e : lo = hi := by omega
    subst e
    exact ⟨lo, by rw [SetTable.below.go], h2, h4, h5⟩
  | fuel + 1, lo, hi, h1, h2, h3, h4, h5 => by
    rw [SetTable.below.go]
    by_cases hl : lo < hi
    · rw [if_pos hl]
      dsimp only
      have hm1 : lo ≤ (lo + hi) / 2 := by omega
      have hm2 : (lo + hi) / 2 < hi := by omega
      generalize (lo + hi) / 2 = mid at hm1 hm2 ⊢
      by_cases hc : xs.getD mid j < j
      · rw [if_pos hc]
        have hc' : xs.getD mid 0 < j := by
          have hms : mid < xs.size := by omega
          rw [Array.getD_eq_getD_getElem?, Array.getElem?_eq_getElem hms] at hc ⊢
          exact hc
        refine below_go h j fuel (mid + 1) hi (by omega) h2 (by omega) (fun i hi' => ?_) h5
        rcases Nat.lt_or_eq_of_le (Nat.le_of_lt_succ hi') with q | q
        · have := rise_get h q (by omega); omega
        · rw [q]; exact hc'
      · rw [if_neg hc]
        have hc' : j ≤ xs.getD mid 0 := by
          have hms : mid < xs.size := by omega
          rw [Array.getD_eq_getD_getElem?, Array.getElem?_eq_getElem hms] at hc ⊢
          simp at hc ⊢; omega
        refine below_go h j fuel lo mid hm1 (by omega) (by omega) h4 (fun i hi' his => ?_)
        rcases Nat.lt_or_eq_of_le hi' with q | q
        · have := rise_get h q his; omega
        · rw [← q]; exact hc'
    · rw [if_neg hl]
      have e : lo = hi := by omega
      subst e
      exact ⟨lo, rfl, h2, h4, h5⟩
theorem below_spec {xs : Array Nat} (h : Rise xs) (j : Nat) : SetTable.below xs j ≤ xs.size ∧ (∀ i, i < SetTable.below xs j → xs.getD i 0 < j) ∧ ∀ i, SetTable.below xs j ≤ i → i < xs.size → j ≤ xs.getD i 0 := by
  obtain ⟨p, e, h1, h2, h3⟩ := below_go h j xs.size 0 xs.size (Nat.zero_le _) (Nat.le_refl _) (by omega) (fun i hi => absurd hi (Nat.not_lt_zero _)) (fun i hi hi' => by omega)
  have e' : SetTable.below xs j = p := e
  rw [e']; exact ⟨h1, h2, h3⟩
theorem below_after {xs : Array Nat} (h : Rise xs) {i : Nat} (hi : i < xs.size) : SetTable.below xs (xs.getD i 0 + 1) = i + 1 := by
  obtain ⟨h1, h2, h3⟩ := below_spec h (xs.getD i 0 + 1)
  rcases Nat.lt_trichotomy (SetTable.below xs (xs.getD i 0 + 1)) (i + 1) with q | q | q
  · have := h3 i (by omega) hi; omega
  · exact q
  · have h5 := h2 (i + 1) q
    have h6 := rise_get h (show i < i + 1 by omega) (by omega)
    omega
theorem below_zero {xs : Array Nat} (h : Rise xs) : SetTable.below xs 0 = 0 := by
  obtain ⟨h1, h2, h3⟩ := below_spec h 0
  rcases Nat.eq_zero_or_pos (SetTable.below xs 0) with q | q
  · exact q
  · have := h2 0 q; omega
theorem getD_toList {xs : Array Nat} {i : Nat} (hi : i < xs.size) : xs.getD i 0 = xs.toList[i]'(by simpa using hi) := by
  rw [Array.getD_eq_getD_getElem?, Array.getElem?_eq_getElem hi]; simp
theorem rise_insert {xs : Array Nat} (h : Rise xs) {j : Nat} (hj : xs[SetTable.below xs j]? ≠ some j) : Rise (SetTable.insertAt xs (SetTable.below xs j) j) := by
  obtain ⟨h1, h2, h3⟩ := below_spec h j
  generalize SetTable.below xs j = p at h1 h2 h3 hj
  have h2' : ∀ i (hi : i < p), xs.toList[i]'(by simp; omega) < j := fun i hi => by rw [← getD_toList (by omega)]; exact h2 i hi
  have h3' : ∀ i (hi : i < xs.size), p ≤ i → j < xs.toList[i]'(by simpa using hi) := fun i hi hpi => by
    rw [← getD_toList hi]
    rcases Nat.lt_or_eq_of_le (h3 i hpi hi) with q | q
    · exact q
    · exfalso
      rcases Nat.lt_or_eq_of_le hpi with r | r
      · have := rise_get h r hi
        have := h3 p (Nat.le_refl _) (by omega)
        omega
      · subst r
        apply hj
        rw [Array.getElem?_eq_getElem hi]
        rw [Array.getD_eq_getD_getElem?, Array.getElem?_eq_getElem hi] at q
        simpa using q.symm
  have e : (SetTable.insertAt xs p j).toList = xs.toList.take p ++ j :: xs.toList.drop p := by
    unfold SetTable.insertAt
    simp only [Array.toList_append, Array.toList_push, Array.toList_extract, List.extract_eq_take_drop]
    rw [List.take_of_length_le (l := List.drop p xs.toList) (by simp)]
    simp
  unfold Rise
  rw [e, List.pairwise_append]
  refine ⟨List.Pairwise.sublist (List.take_sublist _ _) h, ?_, ?_⟩
  · rw [List.pairwise_cons]
    refine ⟨fun b hb => ?_, List.Pairwise.sublist (List.drop_sublist _ _) h⟩
    obtain ⟨i, hi, rfl⟩ := List.getElem_of_mem hb
    rw [List.getElem_drop]
    rw [List.length_drop] at hi
    simp at hi
    exact h3' (p + i) (by omega) (by omega)
  · intro a ha b hb
    obtain ⟨i, hi, rfl⟩ := List.getElem_of_mem ha
    rw [List.length_take] at hi
    have hip : i < p := by omega
    rw [List.getElem_take]
    have q1 := h2' i hip
    rcases List.mem_cons.mp hb with rfl | hb
    · exact q1
    · obtain ⟨k, hk, rfl⟩ := List.getElem_of_mem hb
      rw [List.getElem_drop]
      rw [List.length_drop] at hk
      simp at hk
      have := h3' (p + k) (by omega) (by omega)
      omega
theorem rise_range (n : Nat) : Rise (Array.range n) := by
  unfold Rise
  rw [Array.toList_range]
  exact List.pairwise_lt_range
/-- a slot that the probe ends at is not live -/
def Free (t : SetTable) (j : Nat) : Prop := t.place[SetTable.below t.place j]? ≠ some j
theorem free_of_slot {t : SetTable} {j : Nat} (h : ∀ i, t.slot j ≠ .live i) : Free t j := by
  intro e
  apply h (SetTable.below t.place j)
  unfold SetTable.slot
  simp [e]
theorem probe_free {t : SetTable} {hashAt : Nat → Int} {hh : Int} : ∀ (fuel : Nat) (p : SetTable.Probe) {j : Nat} {d : Option Nat}, (∀ x, p.dummy = some x → Free t x) →
    SetTable.probe.go t hashAt hh fuel p = some (.empty j d) → Free t j ∧ ∀ x, d = some x → Free t x
  | 0, p, j, d, _, h => by rw [SetTable.probe.go] at h; cases h
  | fuel + 1, p, j, d, hd, h => by
    rw [SetTable.probe.go] at h
    split at h
    · rename_i hs
      cases h
      exact ⟨free_of_slot (fun i e => by rw [hs] at e; cases e), hd⟩
    · rename_i hs
      refine probe_free fuel _ ?_ h
      intro x hx
      unfold SetTable.advance at hx
      split at hx
      · cases hx; exact free_of_slot fun i e => by rw [hs] at e; cases e
      · dsimp only at hx; cases hx; exact free_of_slot fun i e => by rw [hs] at e; cases e
    · split at h
      · cases h
      · refine probe_free fuel _ ?_ h
        intro x hx
        unfold SetTable.advance at hx
        split at hx
        · exact hd x hx
        · exact hd x hx
theorem freeSlot_free {t : SetTable} {hh : Int} {slot : Nat} {b : Bool} (e : t.freeSlot hh = some (slot, b)) : Free t slot := by
  unfold SetTable.freeSlot at e
  split at e
  · rename_i j d hp
    obtain ⟨h1, h2⟩ := probe_free _ _ (fun x hx => by unfold SetTable.probeStart at hx; cases hx) hp
    cases e
    cases d with
    | none => exact h1
    | some x => exact h2 x rfl
  · cases e
theorem standIn_rise (t : SetTable) (n : Nat) : Rise (t.standIn n).place := rise_range n
theorem standIn_led (t : SetTable) (n : Nat) : (t.standIn n).led = t.led := rfl
theorem orStandIn_led (t : SetTable) (n : Nat) : (t.orStandIn n).led = t.led := by unfold SetTable.orStandIn; split <;> rfl
theorem orStandIn_rise {t : SetTable} (h : Rise t.place) (n : Nat) : Rise (t.orStandIn n).place := by
  unfold SetTable.orStandIn
  split
  · exact h
  · exact standIn_rise _ _
theorem layNew_led (t : SetTable) (es : Array (Int × Value)) (h : Int) (x : Value) : (layNew t es h x).2.1.led = t.led := by
  unfold layNew
  split
  · rename_i slot b hs
    show ((t.put slot).1.orStandIn _).led = t.led
    rw [orStandIn_led]; rfl
  · rfl
theorem layNew_rise {t : SetTable} (hr : Rise t.place) (es : Array (Int × Value)) (h : Int) (x : Value) : Rise (layNew t es h x).2.1.place := by
  unfold layNew
  split
  · rename_i slot b hs
    show Rise ((t.put slot).1.orStandIn _).place
    exact orStandIn_rise (rise_insert hr (freeSlot_free hs)) _
  · exact standIn_rise _ _
theorem rise_live (f : Nat → Option Nat) (n : Nat) : Rise ((((List.range n).filterMap fun j => (f j).map (j, ·)).map (·.1)).toArray) := by
  unfold Rise
  rw [List.toList_toArray, List.pairwise_map, List.pairwise_filterMap]
  refine List.Pairwise.imp ?_ List.pairwise_lt_range
  intro a b hab p hp q hq
  simp only [Option.map_eq_some_iff] at hp hq
  obtain ⟨_, _, rfl⟩ := hp
  obtain ⟨_, _, rfl⟩ := hq
  exact hab
theorem laid_props {mask finger moves : Nat} {led plain : Bool} {hs : Array Int} {t' : SetTable} {o : Array Nat} (e : SetTable.laid mask finger moves led plain hs = some (t', o)) : t'.led = led ∧ Rise t'.place := by
  unfold SetTable.laid at e
  cases hl : SetTable.layClean mask hs with
  | none => rw [hl] at e; cases e
  | some ow =>
    rw [hl] at e
    have e' := Option.some.inj e
    rw [Prod.mk.injEq] at e'
    rw [← e'.1]
    exact ⟨rfl, rise_live _ _⟩
theorem relayAll_props (t : SetTable) (es : Array (Int × Value)) (wanted : Nat) : (relayAll t es wanted).2.1.led = t.led ∧ Rise (relayAll t es wanted).2.1.place := by
  unfold relayAll
  split
  · rename_i t' o he
    dsimp only
    split
    · exact laid_props he
    · exact ⟨rfl, standIn_rise _ _⟩
  · exact ⟨rfl, standIn_rise _ _⟩
end Mine
end
section
open PySem PySem.W PySem.Spec PySem.Calls PyProof.Rows
set_option maxRecDepth 100000
set_option maxHeartbeats 1000000
namespace Mine
theorem paired_perm {α β : Type} {F : α → β → Prop} {l l' : List α} (p : l'.Perm l) : ∀ {m : List β}, Paired F l m → ∃ m', Paired F l' m' ∧ m'.Perm m := by
  induction p with
  | nil => intro m h; exact ⟨m, h, .refl _⟩
  | cons x _ ih =>
    intro m h
    cases h with
    | cons h r => obtain ⟨m', h1, h2⟩ := ih r; exact ⟨_ :: m', .cons h h1, h2.cons _⟩
  | swap x y l =>
    intro m h
    cases h with
    | cons h r => cases r with | cons h' r' => exact ⟨_, .cons h' (.cons h r'), List.Perm.swap _ _ _⟩
  | trans _ _ ih1 ih2 =>
    intro m h
    obtain ⟨m', h1, h2⟩ := ih2 h
    obtain ⟨m'', h3, h4⟩ := ih1 h1
    exact ⟨m'', h3, h4.trans h2⟩
theorem paired_snoc {α β : Type} {F : α → β → Prop} : ∀ {l : List α} {m : List β} {a : α} {b : β}, Paired F l m → F a b → Paired F (l ++ [a]) (m ++ [b])
  | _, _, _, _, .nil, h => .cons h .nil
  | _, _, _, _, .cons h r, k => .cons h (paired_snoc r k)
def byText (w : World) : Bool := w.params.followText "set-order"
def Elem (w : World) (e : Int × Value) (k : Int) : Prop := ∃ u, e = ((PySem.intKind PR w).hash k, Value.int k u)
def SetI (w : World) (h : Heap) (a : Addr) (ks : List Int) : Prop :=
  ∃ es ep t, h.get? a = some { cls := .type "set", data := .set es ep t } ∧ Paired (Elem w) es.toList ks ∧ ks.Nodup ∧ Rise t.place ∧ t.fits es.size = true ∧ es.size < scanBound ∧ t.led = !byText w
theorem elems_of {w : World} {l : List (Int × Value)} {ks : List Int} (h : Paired (Elem w) l ks) : ElemsOf (PySem.intKind PR w) l := by
  intro e he
  obtain ⟨k, _, u, rfl⟩ := paired_mem h e he
  exact ⟨⟨k, intKind_is _ _ _ _, rfl⟩, rfl⟩
theorem elem_is {w : World} {e : Int × Value} {k k' : Int} (h : Elem w e k) : (PySem.intKind PR w).is k' e.2 = decide (k' = k) := by
  obtain ⟨u, rfl⟩ := h
  exact KeyKind.is_eq_decide (intKind_is _ _ _ _) k'
theorem paired_mem' {α β : Type} {F : α → β → Prop} : ∀ {l : List α} {m : List β}, Paired F l m → ∀ b ∈ m, ∃ a ∈ l, F a b
  | _, _, .cons h r, a, hm => by
    rcases List.mem_cons.mp hm with rfl | hm
    · exact ⟨_, .head _, h⟩
    · obtain ⟨b, hb, hf⟩ := paired_mem' r a hm; exact ⟨b, .tail _ hb, hf⟩
theorem setI_store {w : World} {h : Heap} {a : Addr} {es es' : Array (Int × Value)} {ep : Nat} {t t' : SetTable} {ks : List Int} (ho : h.get? a = some { cls := .type "set", data := .set es ep t })
    (hp : Paired (Elem w) es'.toList ks) (hn : ks.Nodup) (hr : Rise t'.place) (hf : t'.fits es'.size = true) (hb : es'.size < scanBound) (hl : t'.led = !byText w) :
    (h.update a (Obj.putSet es' t')).get? a = some { cls := .type "set", data := .set es' (ep + 1) t' } ∧ SetI w (h.update a (Obj.putSet es' t')) a ks := by
  have hg : (h.update a (Obj.putSet es' t')).get? a = some { cls := .type "set", data := .set es' (ep + 1) t' } := Heap.get?_update_self (Obj.putSet es' t') ho rfl
  exact ⟨hg, es', ep + 1, t', hg, hp, hn, hr, hf, hb, hl⟩
section
variable {w : World} {A : Around} {s : Shared} {E : Value → Shared → Prop}
theorem addTail_I {g : Bool → Sem Unit} (hg : ∀ (b : Bool) (s₁ : Shared) (Q' : Unit → Shared → Prop), Q' () s₁ → wpAny (model PR w) A (g b) Q' E s₁)
    {a : Addr} {es : Array (Int × Value)} {ep : Nat} {t : SetTable} (ho : s.heap.get? a = some { cls := .type "set", data := .set es ep t })
    {es1 : Array (Int × Value)} {t2 : SetTable} {ks : List Int} (hp : Paired (Elem w) es1.toList ks) (hn : ks.Nodup) (hr : Rise t2.place) (hf : t2.fits es1.size = true) (hb : es1.size < scanBound) (hl : t2.led = !byText w)
    {wasDummy : Bool} {R : Option Bool → Shared → Prop}
    (h : ∀ h' ks', Heap.SameBut a s.heap h' → SetI w h' a ks' → ks'.Perm ks → R (some true) { s with heap := h' }) :
    wpAny (model PR w) A (do
        storeSet a es1 t2
        if (!wasDummy && t2.tooFull) = true then do
            g (relayAll t2 es1 (SetTable.grown es1.size)).2.2
            storeSet a (relayAll t2 es1 (SetTable.grown es1.size)).1 (relayAll t2 es1 (SetTable.grown es1.size)).2.1
            pure (some true)
          else pure (some true)) R E s := by
  refine wpAny_bind (wpAny_storeSet_of ho rfl ?_ (fits_of_scanBound hb))
  obtain ⟨ho1, hS1⟩ := setI_store ho hp hn hr hf hb hl
  have hsb1 := Heap.SameBut.update s.heap a (Obj.putSet es1 t2)
  split
  · have q1 := relayAll_perm t2 es1 (SetTable.grown es1.size)
    have q2 := relayAll_fits t2 es1 (SetTable.grown es1.size)
    obtain ⟨q3, q4⟩ := relayAll_props t2 es1 (SetTable.grown es1.size)
    generalize relayAll t2 es1 (SetTable.grown es1.size) = Rl at q1 q2 q3 q4 ⊢
    obtain ⟨es2, t3, gave⟩ := Rl
    dsimp only at q1 q2 q3 q4 ⊢
    obtain ⟨ks', p1, p2⟩ := paired_perm q1 hp
    have hsz : es2.size = es1.size := by rw [← Array.length_toList, q1.length_eq, Array.length_toList]
    refine wpAny_bind (hg _ _ _ ?_)
    refine wpAny_bind (wpAny_storeSet_of ho1 rfl ?_ (fits_of_scanBound (by rw [hsz]; exact hb)))
    obtain ⟨_, hS2⟩ := setI_store ho1 p1 (p2.nodup_iff.mpr hn) q4 q2 (by rw [hsz]; exact hb) (q3.trans hl)
    exact wpAny_pure (h _ _ (hsb1.trans (Heap.SameBut.update _ a _)) hS2 p2)
  · exact wpAny_pure (h _ _ hsb1 hS1 (.refl _))
theorem setAdd_I {a : Addr} {ks : List Int} {k : Int} {u : Tok} {Q : Bool → Shared → Prop} (hS : SetI w s.heap a ks) (hroom : ks.length + 1 < scanBound)
    (h : ∀ h' ks' b, Heap.SameBut a s.heap h' → SetI w h' a ks' → (k ∈ ks ∧ ks' = ks ∨ k ∉ ks ∧ ks'.Perm (ks ++ [k])) → Q b { s with heap := h' }) :
    wpAny (model PR w) A (setAddHashed a (.int k u) ((PySem.intKind PR w).hash k)) Q E s := by
  obtain ⟨es, ep, t, ho, hp, hn, hr, hf, hb, hl⟩ := id hS
  have hel := elems_of hp
  have hsize : es.size = ks.length := by rw [← Array.length_toList, hp.length]
  have hsc : (Value.int k u).scannable = true := rfl
  unfold setAddHashed setAddHashedIn
  refine wpAny_holding (wpAny_bind (wpAny_setState_of ho rfl hf ?_))
  dsimp only
  rw [byScan_of hsc hb hel]
  simp only [↓reduceIte]
  unfold setAddByScan
  refine wpAny_bind ?_
  refine wpAny_bind (wpAny_rule ?_)
  refine wpAny_bind (wpAny_setScan_of (intKind_is _ _ _ _) ho rfl hf hel ?_)
  cases hr' : List.findIdx? (fun e => (PySem.intKind PR w).is k e.2) es.toList with
  | some j =>
    dsimp only
    obtain ⟨hj, hpj, _⟩ := List.findIdx?_eq_some_iff_getElem.mp hr'
    obtain ⟨k', hk', he⟩ := paired_mem hp _ (List.getElem_mem hj)
    rw [elem_is he, decide_eq_true_eq] at hpj
    subst hpj
    have e : s = { s with heap := s.heap } := by cases s; rfl
    have := h s.heap ks false (Heap.SameBut.refl a s.heap) hS (.inl ⟨hk', rfl⟩)
    rw [← e] at this
    exact wpAny_pure (wpAny_pure this)
  | none =>
    dsimp only
    have hnk : k ∉ ks := by
      intro hk
      obtain ⟨e, he, hE⟩ := paired_mem' hp k hk
      have := List.findIdx?_eq_none_iff.mp hr' e he
      rw [elem_is hE] at this
      simp at this
    have hgw : ∀ (b : Bool) {s₁ : Shared} {Q' : Unit → Shared → Prop}, Q' () s₁ → wpAny (model PR w) A (match b with | true => rule "set.scan.the-table-gave-way" | false => pure ()) Q' E s₁ :=
      fun b s₁ Q' hq => by cases b <;> first | exact wpAny_pure hq | exact wpAny_rule hq
    have l1 := layNew_perm t es ((PySem.intKind PR w).hash k) (.int k u)
    have l2 := layNew_fits t es ((PySem.intKind PR w).hash k) (.int k u)
    have l3 := layNew_led t es ((PySem.intKind PR w).hash k) (.int k u)
    have l4 := layNew_rise hr es ((PySem.intKind PR w).hash k) (.int k u)
    generalize layNew t es ((PySem.intKind PR w).hash k) (.int k u) = L at l1 l2 l3 l4 ⊢
    obtain ⟨es1, t1, wasDummy, gave⟩ := L
    dsimp only at l1 l2 l3 l4 ⊢
    rw [Array.toList_push] at l1
    obtain ⟨ks1, p1, p2⟩ := paired_perm l1 (paired_snoc hp (⟨u, rfl⟩ : Elem w _ k))
    have hn1 : ks1.Nodup := p2.nodup_iff.mpr (by
      rw [List.nodup_append]
      exact ⟨hn, by simp, fun a ha b hb e => by rw [List.mem_singleton] at hb; subst hb; exact hnk (e ▸ ha)⟩)
    have hsz1 : es1.size < scanBound := by
      rw [← Array.length_toList, l1.length_eq, List.length_append, Array.length_toList, hsize]; exact hroom
    refine wpAny_bind (hgw _ ?_)
    have hend : ∀ h' ks', Heap.SameBut a s.heap h' → SetI w h' a ks' → ks'.Perm ks1 → Q true { s with heap := h' } := fun h' ks' h1 h2 h3 => h h' ks' true h1 h2 (.inr ⟨hnk, h3.trans p2⟩)
    split
    · refine wpAny_bind ?_
      rw [hashByValue_scannable 8 hsc]
      refine wpAny_pure ?_
      refine addTail_I ?_ ho p1 hn1 ?_ ?_ hsz1 ?_ ?_
      · intro b s₁ Q' hq; cases b <;> first | exact wpAny_pure hq | exact wpAny_rule hq
      · split
        · exact l4
        · exact l4
      · split
        · exact l2
        · exact SetTable.fits_plain_off l2
      · split
        · exact l3.trans hl
        · exact l3.trans hl
      · intro h' ks' h1 h2 h3; dsimp only; exact wpAny_pure (hend h' ks' h1 h2 h3)
    · refine wpAny_bind (wpAny_pure ?_)
      simp only [↓reduceIte]
      refine addTail_I ?_ ho p1 hn1 l4 l2 hsz1 (l3.trans hl) ?_
      · intro b s₁ Q' hq; cases b <;> first | exact wpAny_pure hq | exact wpAny_rule hq
      · intro h' ks' h1 h2 h3; dsimp only; exact wpAny_pure (hend h' ks' h1 h2 h3)
end
end Mine
end
section
open PySem PySem.W PySem.Spec PySem.Calls PyProof.Rows
set_option maxRecDepth 100000
set_option maxHeartbeats 4000000
namespace Mine
theorem SetI.at' {w : World} {h h' : Heap} {a : Addr} {ks : List Int} (x : SetI w h a ks) (e : ∀ o, h.get? a = some o → h'.get? a = some o) : SetI w h' a ks :=
  let ⟨es, ep, t, ho, r⟩ := x; ⟨es, ep, t, e _ ho, r⟩
abbrev newSetObj (w : World) : Obj := { cls := .type "set", dict := none, data := .set #[] 0 (.fresh 0 0 (!byText w)) }
section
variable {w : World} {A : Around} {s : Shared} {E : Value → Shared → Prop}
theorem set_loop {R : Result → Shared → Prop} {S I l : Addr} {items : Array Value} {ns : List Int} (hh : A.handled = none) (hi : IntsAre items.toList ns) (hSI : S ≠ I) (hSl : S ≠ l) (hIl : l ≠ I) (hb : ns.length + 1 < scanBound) :
    ∀ (m i : Nat) (s : Shared) (ks : List Int), ns.length - i = m → i ≤ ns.length → s.heap.IsListIter I l i → s.heap.IsList l items → SetI w s.heap S ks → ks.length ≤ i →
      (∀ h' tk ks', SetI w h' S ks' → (∀ k, k ∈ ks' ↔ k ∈ ks ∨ k ∈ ns.drop i) → (∀ b o, b ≠ S → b ≠ I → s.heap.get? b = some o → h'.get? b = some o) → R (.ok (.ret .none)) { s with heap := h', toks := tk }) →
      codeAny (model PR w) A (.builtin "set.update.loop" ⟨[.ref S, .ref I], []⟩) R s := by
  have hlen : items.size = ns.length := by rw [← hi.length, Array.length_toList]
  intro m
  induction m with
  | zero =>
    intro i s ks hm hin hit hl hS hks hR
    have hi' : i = ns.length := by omega
    subst hi'
    refine codeAny_builtin PyProof.Rows.F.entry_set_update_loop ?_
    rw [Around.under_plainId PyProof.Rows.F.plain_set_update_loop _]
    show wpAny _ A.in1 (pyNext (.ref I) >>= _) _ _ s
    refine wpAny_bind ((Walks.list (A := A.in1) hh I l hIl items).done s _ _ (by rw [hlen]; exact ⟨hit, hl⟩) fun h' tk hk => ?_)
    show wpAny _ A.in1 (ret Value.none) _ _ _
    refine wpAny_pure (hR h' tk ks (hS.at' fun o e => hk _ o (fun q => hSI (List.mem_singleton.mp q)) e) (fun k => by simp) fun b o h1 h2 e => hk b o (fun q => h2 (List.mem_singleton.mp q)) e)
  | succ m ih =>
    intro i s ks hm hin hit hl hS hks hR
    have hlt : i < ns.length := by omega
    refine codeAny_builtin PyProof.Rows.F.entry_set_update_loop ?_
    rw [Around.under_plainId PyProof.Rows.F.plain_set_update_loop _]
    show wpAny _ A.in1 (pyNext (.ref I) >>= _) _ _ s
    refine wpAny_bind ((Walks.list (A := A.in1) hh I l hIl items).item i s _ _ (by rw [hlen]; exact hlt) ⟨hit, hl⟩ fun v h1 tk1 hv hst hk => ?_)
    have hv' : ∃ t, v = .int (ns[i]) t := by
      obtain ⟨t, e⟩ := hi.get i ns[i] (List.getElem?_eq_getElem hlt)
      refine ⟨t, ?_⟩
      have hv2 : items.toList[i]? = some v := by rw [Array.getElem?_toList]; exact hv
      rw [e] at hv2; exact (Option.some.inj hv2).symm
    obtain ⟨t, rfl⟩ := hv'
    have hS1 : SetI w h1 S ks := hS.at' fun o e => hk _ o (fun q => hSI (List.mem_singleton.mp q)) e
    show wpAny _ A.in1 (holding [Value.int ns[i] t] (setAdd S (.int ns[i] t)) >>= _) _ _ _
    refine wpAny_bind (wpAny_holding ?_)
    unfold setAdd
    refine wpAny_holding ?_
    refine wpAny_bind ((PySem.intKind PR w).pyHash (k := ns[i]) (intKind_is _ _ _ _) ?_)
    refine setAdd_I (s := { s with heap := h1, toks := tk1 + 1 }) hS1 (by omega) fun h2 ks2 b hsb hS2 hcase => ?_
    have hks2 : ks2.length ≤ i + 1 := by
      rcases hcase with ⟨_, rfl⟩ | ⟨_, p⟩
      · omega
      · have := p.length_eq; rw [List.length_append, List.length_singleton] at this; omega
    have hmem : ∀ k, k ∈ ks2 ↔ k ∈ ks ∨ k = ns[i] := by
      intro k
      rcases hcase with ⟨h3, rfl⟩ | ⟨_, p⟩
      · exact ⟨.inl, fun q => q.elim id fun q => q ▸ h3⟩
      · rw [p.mem_iff, List.mem_append, List.mem_singleton]
    have up : ∀ b o, b ≠ S → b ≠ I → s.heap.get? b = some o → h2.get? b = some o := fun b o q1 q2 e => by
      rw [hsb.2 b q1]; exact hk b o (fun q => q2 (List.mem_singleton.mp q)) e
    have hit2 : h2.IsListIter I l (i + 1) := hst.1.at fun o e => by rw [hsb.2 I (Ne.symm hSI)]; exact e
    have hl2 : h2.IsList l items := hst.2.at fun o e => by rw [hsb.2 l (Ne.symm hSl)]; exact e
    refine wpAny_pure ⟨plainId_quiet PyProof.Rows.F.plain_set_update_loop _, ih (i + 1) _ ks2 (by omega) hlt hit2 hl2 hS2 hks2 fun h' tk ks' hS' hm' hk' => ?_⟩
    refine hR h' tk ks' hS' (fun k => ?_) fun b o q1 q2 e => hk' b o q1 q2 (up b o q1 q2 e)
    rw [hm' k, hmem k, List.drop_eq_getElem_cons hlt, List.mem_cons]
    constructor
    · rintro ((q | q) | q)
      · exact .inl q
      · exact .inr (.inl q)
      · exact .inr (.inr q)
    · rintro (q | q | q)
      · exact .inl (.inl q)
      · exact .inl (.inr q)
      · exact .inr q
theorem set_new_I (a : Value) {Q₁ : Value → Shared → Prop} (h : Q₁ (.ref s.heap.objs.size) { s with heap := s.heap.push (newSetObj w) }) :
    codeAny (model PR w) A (.call (.builtin "set.__new__") ⟨[.type "set", a], []⟩) (wants Q₁ E) s := by
  refine codeAny_of_tree ?_
  show wpAny _ A.in1 (do checkBuiltinCall "set.__new__" ⟨[.type "set", a], []⟩; again (.builtin "set.__new__" ⟨[.type "set", a], []⟩)) _ _ s
  refine wpAny_bind (wpAny_of_eq (PySem.F.newCall_set_1 a) (wpAny_pure ⟨plainId_quiet PySem.F.plain_set_new _, codeAny_builtin PySem.F.entry_set_new ?_⟩))
  rw [Around.under_plainId PySem.F.plain_set_new _]
  unfold Builtin.«set.__new__» Builtin.Frozenset.newClass
  have hsub := sub_set_self
  obtain ⟨hp, g, d, tk, os⟩ := s
  dsimp only
  wp_walk
  refine wpAny_askSetting (wpAny_pure ?_)
  dsimp only
  simp only [newObj]
  refine wpAny_bind (wpAny_alloc (wpAny_pure ?_))
  exact wpAny_pure h
end
end Mine
end
section
open PySem PySem.W PySem.Spec PySem.Calls PyProof.Rows
set_option maxRecDepth 100000
set_option maxHeartbeats 4000000
namespace Mine
section
variable {w : World} {A : Around} {s : Shared} {E : Value → Shared → Prop}
theorem set_init_I {S l : Addr} {items : Array Value} {ns : List Int} {P : Value → Shared → Prop} (hh : A.handled = none) (hS : s.heap.get? S = some (newSetObj w)) (hl : s.heap.IsList l items) (hi : IntsAre items.toList ns) (hb : ns.length + 1 < scanBound)
    (h : ∀ h' tk ks', SetI w h' S ks' → (∀ k, k ∈ ks' ↔ k ∈ ns) → (∀ b o, b ≠ S → s.heap.get? b = some o → h'.get? b = some o) → P .none { s with heap := h', toks := tk }) :
    codeAny (model PR w) A (.call (.builtin "set.__init__") ⟨[.ref S, .ref l], []⟩) (wants P E) s := by
  have hT : s.TypeIs (.ref S) "set" := ⟨_, hS, rfl⟩
  have hli := PySem.F.called_set.init.lookup
  have hbi := PySem.F.called_set.init.bind (.ref S)
  refine codeAny_call_builtin PySem.F.called_set.init.plain PySem.F.entry_set_init (check_set_init_1 hT ?_)
  obtain ⟨ol, hol, hcl, nl, hdl⟩ := id hl
  obtain ⟨ocls, odict, odata, oslots⟩ := ol
  simp only at hcl hdl
  subst hcl; subst hdl
  have hsls := PySem.F.sub_list_set
  have hslf := PySem.F.sub_list_frozenset
  have hne : (Value.type "list" == Value.type "dict") = false := by decide
  have hlS : l ≠ S := by intro q; subst q; rw [hS] at hol; have q2 := congrArg Obj.cls (Option.some.inj hol); simp at q2
  unfold Builtin.«set.__init__» noKeywords Builtin.Frozenset.updateFrom
  generalize hPI : pyIter = PI
  wp_walk
  subst hPI
  refine wpAny_pyIter_list hl ?_
  have hIS : S ≠ s.heap.objs.size := Nat.ne_of_lt (Heap.lt_size hS)
  have hIl : l ≠ s.heap.objs.size := Nat.ne_of_lt (Heap.lt_size hol)
  refine wpAny_bind (wpAny_runValue ?_)
  refine set_loop (S := S) (l := l) (items := items) (ns := ns) (by simp [hh]) hi hIS (Ne.symm hlS) hIl hb (ns.length - 0) 0 _ [] (by omega) (Nat.zero_le _) ⟨_, Heap.get?_push_size _ rfl, rfl, rfl⟩ (hl.push _)
    ⟨#[], 0, _, Heap.get?_push_of_some _ hS, .nil, List.nodup_nil, List.Pairwise.nil, rfl, by decide, rfl⟩ (Nat.le_refl _) fun h' tk ks' hS' hm hk => ?_
  show wpAny _ _ _ _ _ _
  refine wpAny_pure ?_
  show wpAny _ _ (ret Value.none) _ _ _
  refine wpAny_pure (h h' tk ks' hS' (fun k => by rw [hm k]; simp) fun b o q e => hk b o q (fun r => ?_) (Heap.get?_push_of_some _ e))
  rw [r] at e
  exact Nat.lt_irrefl _ (Heap.lt_size e)
theorem call_set_I {l : Addr} {items : Array Value} {ns : List Int} {Q : Value → Shared → Prop} (hh : A.handled = none) (hl : s.heap.IsList l items) (hi : IntsAre items.toList ns) (hb : ns.length + 1 < scanBound)
    (h : ∀ S h' tk ks, SetI w h' S ks → (∀ k, k ∈ ks ↔ k ∈ ns) → Kp s.heap h' → Q (.ref S) { s with heap := h', toks := tk }) :
    wpAny (model PR w) A (call (.type "set") [.ref l]) Q E s := by
  obtain ⟨c, tl, hmro⟩ := PySem.F.called_set.mro
  have hmade := PySem.F.called_set.made
  have hsub := PySem.F.called_set.sub
  refine wpAny_call (codeAny_of_tree ?_)
  show wpAny _ _ (callAny (.type "set") _) _ _ _
  refine wpAny_pure ⟨Code.quiet_builtin _ (by decide +kernel), codeAny_builtin PySem.F.entry_type_call ?_⟩
  rw [Around.under_plain (weight_type_call_type "set" [.ref l] []) rfl]
  have h1 := PySem.F.called_set.notType
  have h2 := PySem.F.called_set.canCreate
  have hct := PySem.F.typeCall_set_1 (.ref l)
  repeat (any_goals (first | assumption | wp_step))
  refine codeAny_mono (set_new_I (.ref l) (E := E) (Q₁ := fun obj s₁ => obj = .ref s.heap.objs.size ∧ s₁ = { s with heap := s.heap.push (newSetObj w) }) ⟨rfl, rfl⟩) fun r s₁ hr => ?_
  cases r with
  | error e => exact hr
  | ok fl =>
    cases fl with
    | ret obj =>
      obtain ⟨rfl, rfl⟩ := hr
      have hS : (s.heap.push (newSetObj w)).get? s.heap.objs.size = some (newSetObj w) := Heap.get?_push_size _ rfl
      have hT : Shared.TypeIs { s with heap := s.heap.push (newSetObj w) } (.ref s.heap.objs.size) "set" := ⟨_, hS, rfl⟩
      have hli := PySem.F.called_set.init.lookup
      have hbi := PySem.F.called_set.init.bind (.ref s.heap.objs.size)
      repeat (any_goals (first | assumption | wp_step))
      refine codeAny_mono (set_init_I (E := E) (P := fun r s₂ => r = .none ∧ ∃ h' tk ks', s₂ = { s with heap := h', toks := tk } ∧ SetI w h' s.heap.objs.size ks' ∧ (∀ k, k ∈ ks' ↔ k ∈ ns) ∧ Kp s.heap h') (by simp [hh]) hS (hl.push _) hi hb
        fun h' tk ks' hS' hm hk => ⟨rfl, h', tk, ks', rfl, hS', hm, fun b o e => hk b o (Nat.ne_of_lt (Heap.lt_size e)) (Heap.get?_push_of_some _ e)⟩) fun r₂ s₂ hr₂ => ?_
      cases r₂ with
      | error e => exact hr₂
      | ok fl₂ =>
        cases fl₂ with
        | ret r =>
          obtain ⟨rfl, h', tk, ks', rfl, hS', hm, hk⟩ := hr₂
          repeat (any_goals (first | assumption | wp_step))
          exact h _ _ _ _ hS' hm hk
        | _ => exact hr₂.elim
    | _ => exact hr.elim
end
end Mine
end
section
open PySem PySem.W PySem.Spec PySem.Calls PyProof.Rows
set_option maxRecDepth 100000
set_option maxHeartbeats 4000000
namespace Mine
theorem entry_set_iter : entryFor table "set.__iter__" = some Builtin.«frozenset.__iter__» :=
  entryFor_alias (id' := "frozenset.__iter__") (by kernel_rfl) (by first | rfl | decide +kernel | (unfold String.splitOn; simp +decide [String.splitOnAux])) (by decide +kernel) (by kernel_rfl)
theorem slot_setit_next : Slot "set_iterator" "__next__" "set_iterator.__next__" :=
  .of (owner := "set_iterator") (n := "__next__") (by rw [typeLookup_type, builtinLookup_eq_fast]; kernel_rfl) (by decide +kernel) (by decide +kernel) (by decide +kernel)
    (by first | exact .inl (by decide +kernel) | exact .inr (by decide +kernel)) (by rw [isSubtype_type]; kernel_rfl)
theorem entry_setit_next : entryFor table "set_iterator.__next__" = some Builtin.«set_iterator.__next__» := entryFor_of_fast (by kernel_rfl)
theorem args_setit_next (a : Value) : argsOk "set_iterator.__next__" ⟨[a], []⟩ := by unfold argsOk; kernel_rfl
theorem set_len_lookup : typeLookup (.type "set") "__len__" = pure (some (.builtin "set.__len__")) := by rw [typeLookup_type, builtinLookup_eq_fast]; kernel_rfl
theorem set_len_split : splitId "set.__len__" = some ("set", "__len__") := by decide +kernel
theorem perm_erase {α : Type} : ∀ (l : List α) (i : Nat) (h : i < l.length), l.Perm (l[i] :: l.eraseIdx i)
  | x :: l, 0, _ => .refl _
  | x :: l, i + 1, h => by
    have := perm_erase l i (by simpa using h)
    simp only [List.getElem_cons_succ, List.eraseIdx_cons_succ]
    exact (this.cons x).trans (List.Perm.swap _ _ _)
theorem pick_go {α : Type} (next : Nat → Nat) : ∀ (fuel k : Nat) (left : List α) (out : Array α), left.length ≤ fuel → (pickOrder.go next fuel k left out).toList.Perm (out.toList ++ left)
  | 0, k, left, out, h => by
    have : left = [] := List.eq_nil_of_length_eq_zero (by omega)
    subst this
    rw [pickOrder.go]; simp
  | fuel + 1, k, left, out, h => by
    rw [pickOrder.go]
    split
    · rename_i x hx
      obtain ⟨hi, he⟩ := List.getElem?_eq_some_iff.mp hx
      refine (pick_go next fuel (k + 1) _ _ (by rw [List.length_eraseIdx, if_pos hi]; omega)).trans ?_
      rw [Array.toList_push, List.append_assoc]
      refine List.Perm.append_left _ ?_
      have := perm_erase left _ hi
      rw [he] at this
      exact this.symm
    · rename_i hx
      have hl : left = [] := by
        cases left with
        | nil => rfl
        | cons a l =>
          exfalso
          have := List.getElem?_eq_none_iff.mp hx
          have h2 := Nat.mod_lt (next k) (show 0 < (a :: l).length by simp)
          omega
      subst hl; simp
theorem pick_perm {α : Type} (next : Nat → Nat) (xs : Array α) : (pickOrder next xs).toList.Perm xs.toList := by
  unfold pickOrder
  have := pick_go next xs.size 0 xs.toList #[] (by simp)
  simpa using this
section
variable {w : World} {A : Around} {s : Shared} {E : Value → Shared → Prop}
theorem choose_any {src : Source} {n : Nat} {Q : Nat → Shared → Prop} (hn : n ≠ 0) (h : ∀ i d, i < n → Q i { s with drawn := d }) : wpAny (model PR w) A (choose src n) Q E s := fun Γ p _ => by
  unfold choose
  simp only [Sem.wp]
  exact ⟨hn, h _ _ (Nat.mod_lt _ (Nat.pos_of_ne_zero hn))⟩
theorem drawOrder_any {α : Type} : ∀ (n : Nat) (xs : List α) (s : Shared) {Q : List α → Shared → Prop}, n = xs.length → (∀ ys d, ys.Perm xs → Q ys { s with drawn := d }) → wpAny (model PR w) A (drawOrder n xs) Q E s
  | 0, xs, s, Q, hn, h => by
    have : xs = [] := List.eq_nil_of_length_eq_zero hn.symm
    subst this
    rw [drawOrder]
    exact wpAny_pure (h [] s.drawn (.refl _))
  | n + 1, [], s, Q, hn, h => by simp at hn
  | n + 1, x :: xs, s, Q, hn, h => by
    rw [drawOrder]
    · refine wpAny_bind (choose_any (by simp) fun i d hi => ?_)
      have e : (x :: xs)[i]? = some ((x :: xs)[i]) := List.getElem?_eq_getElem hi
      simp only [e]
      refine wpAny_bind (drawOrder_any n ((x :: xs).eraseIdx i) _ (by rw [List.length_eraseIdx, if_pos hi]; simpa using hn) fun ys d' hp => wpAny_pure (h _ d' ?_))
      exact (hp.cons _).trans (perm_erase (x :: xs) i hi).symm
    · intro q; cases q
end
end Mine
end
section
open PySem PySem.W PySem.Spec PySem.Calls PyProof.Rows
set_option maxRecDepth 100000
set_option maxHeartbeats 4000000
namespace Mine
abbrev setItObj (first : Value) (i : Nat) (S : Addr) (n ep : Nat) : Obj := { cls := .type "set_iterator", data := .fields #[first, rawInt (i : Int), .ref S, rawInt (n : Int), rawInt (ep : Int)] }
def SetIt (w : World) (h : Heap) (I S : Addr) (left : List Int) : Prop :=
  ∃ (es : Array (Int × Value)) (ep : Nat) (t : SetTable) (i : Nat) (first : Value), h.get? S = some { cls := .type "set", data := .set es ep t } ∧ t.fits es.size = true ∧ Rise t.place ∧ t.led = !byText w ∧ h.get? I = some (setItObj first i S es.size ep) ∧
   ((byText w = true ∧ (∃ sl : Nat, first = rawInt (sl : Int)) ∧ Paired (Elem w) ((pickOrder (w.params.setOrder S ep) es).toList.drop i) left) ∨
    (byText w = false ∧ ∃ (P : Addr) (ps : List Nat), first = .ref P ∧ IsTup h P ((ps.map fun (p : Nat) => rawInt (p : Int)).toArray) ∧ Paired (fun p k => ∃ e, es[p]? = some e ∧ Elem w e k) (ps.drop i) left) ∨
    (byText w = false ∧ (!t.plain && decide (es.size > 1)) = false ∧ ∃ sl : Nat, first = rawInt (sl : Int) ∧ SetTable.below t.place sl = i ∧ Paired (Elem w) (es.toList.drop i) left))
theorem SetIt.at' {w : World} {h h' : Heap} {I S : Addr} {left : List Int} (x : SetIt w h I S left) (e : ∀ b o, (∃ c, o.cls = .type c ∧ (c = "set" ∨ c = "set_iterator" ∨ c = "tuple")) → h.get? b = some o → h'.get? b = some o) : SetIt w h' I S left := by
  obtain ⟨es, ep, t, i, first, h1, h2, h3, h4, h5, h6⟩ := x
  refine ⟨es, ep, t, i, first, e _ _ ⟨_, rfl, .inl rfl⟩ h1, h2, h3, h4, e _ _ ⟨_, rfl, .inr (.inl rfl)⟩ h5, ?_⟩
  rcases h6 with q | ⟨q1, P, ps, q2, ⟨o, ho, hc, hr⟩, q4⟩ | q
  · exact .inl q
  · exact .inr (.inl ⟨q1, P, ps, q2, ⟨o, e _ _ ⟨_, hc, .inr (.inr rfl)⟩ ho, hc, hr⟩, q4⟩)
  · exact .inr (.inr q)
section
variable {w : World} {A : Around} {s : Shared} {E : Value → Shared → Prop}
theorem byText_of {Q : Bool → Shared → Prop} (h : Q (byText w) s) : wpAny (model PR w) A setsByText Q E s := by
  unfold setsByText
  exact wpAny_bind (wpAny_askSetting (wpAny_pure h))
theorem stop_here {α : Type} {Q : α → Shared → Prop} (hh : A.handled = none) (h : ∀ e h', h'.get? e = some { cls := .type "StopIteration", data := .fields #[] } ∨ True → Kp s.heap h' → (∃ o, h'.get? e = some o ∧ o.cls = .type "StopIteration") → E (.ref e) { s with heap := h' }) :
    wpAny (model PR w) A (newExc (.type "StopIteration") [] >>= fun e => (raiseNew e : Sem α)) Q E s := by
  refine wpAny_bind ?_
  simp only [newExc, newTuple]
  refine wpAny_bind (wpAny_newObj_type ?_ (by size_fits))
  refine wpAny_bind (m := firstArgMember _ _) (wpAny_of_eq (a := Value.none) (by first | rfl | (simp only [firstArgMember]; rfl)) ?_)
  refine wpAny_newObj_type ?_ (by size_fits)
  simp only [raiseNew]
  refine wpAny_bind (wpAny_handled ?_)
  rw [hh]
  refine wpAny_bind (wpAny_pure (wpAny_throw ?_))
  exact h _ _ (.inr trivial) (fun b o e => Heap.get?_push_of_some _ (Heap.get?_push_of_some _ e)) ⟨_, Heap.get?_push_size _ rfl, rfl⟩
theorem setNext_of {S : Addr} {es : Array (Int × Value)} {ep : Nat} {t : SetTable} {slot given : Nat} {Q : Option (Value × Nat) → Shared → Prop}
    (hS : s.heap.get? S = some { cls := .type "set", data := .set es ep t }) (hf : t.fits es.size = true) (hl : t.led = !byText w)
    (h : if byText w = true then Q (((pickOrder (w.params.setOrder S ep) es)[given]?).map fun e => (e.2, slot)) s
      else (!t.plain && decide (es.size > 1)) = false ∧ Q (match es[SetTable.below t.place slot]?, t.place[SetTable.below t.place slot]? with | some (_, x), some j => some (x, j + 1) | _, _ => none) s) :
    wpAny (model PR w) A (setNext S slot given ep) Q E s := by
  unfold setNext
  refine wpAny_bind (wpAny_setState_of hS rfl hf ?_)
  dsimp only
  refine wpAny_bind (byText_of ?_)
  cases hb : byText w with
  | true =>
    rw [hb] at h
    simp only [if_true] at h ⊢
    rw [if_neg (by simp)]
    refine wpAny_bind ?_
    unfold setWalk
    refine wpAny_bind (wpAny_setState_of hS rfl hf ?_)
    dsimp only
    refine wpAny_bind (byText_of ?_)
    rw [hb]
    simp only [if_true]
    refine wpAny_bind (wpAny_askSetting ?_)
    exact wpAny_pure (wpAny_pure h)
  | false =>
    rw [hb] at h
    simp only [Bool.false_eq_true, if_false] at h ⊢
    obtain ⟨h1, h2⟩ := h
    show wpAny _ A (if (!t.plain && decide (es.size > 1)) = true then _ else _) _ _ _
    rw [h1]
    simp only [Bool.false_eq_true, if_false]
    refine wpAny_bind ?_
    show wpAny _ A (if (!t.led && !es.isEmpty) = true then _ else _) _ _ _
    rw [hl, hb]
    simp only [Bool.not_false, Bool.not_true, Bool.false_and, Bool.false_eq_true, if_false]
    exact wpAny_pure (wpAny_pure h2)
end
end Mine
end
section
open PySem PySem.W PySem.Spec PySem.Calls PyProof.Rows
set_option maxRecDepth 100000
set_option maxHeartbeats 4000000
namespace Mine
theorem drop_cons {α β : Type} {F : α → β → Prop} {l : List α} {i : Nat} {k : β} {r : List β} (h : Paired F (l.drop i) (k :: r)) : ∃ a, l[i]? = some a ∧ F a k ∧ Paired F (l.drop (i + 1)) r := by
  cases hd : l.drop i with
  | nil => rw [hd] at h; cases h
  | cons a l' =>
    rw [hd] at h
    cases h with
    | cons h1 h2 =>
      have hi : i < l.length := by
        by_cases q : i < l.length
        · exact q
        · rw [List.drop_of_length_le (by omega)] at hd; cases hd
      rw [List.drop_eq_getElem_cons hi] at hd
      cases hd
      exact ⟨_, List.getElem?_eq_getElem hi, h1, h2⟩
theorem drop_nil {α β : Type} {F : α → β → Prop} {l : List α} {i : Nat} (h : Paired F (l.drop i) ([] : List β)) : l[i]? = none := by
  cases hd : l.drop i with
  | nil => exact List.getElem?_eq_none (by have := List.drop_eq_nil_iff.mp hd; omega)
  | cons a l' => rw [hd] at h; cases h
section
variable {w : World} {A : Around} {s : Shared} {E : Value → Shared → Prop}
theorem setit_next {I S : Addr} {left : List Int} {Q : Option Value → Shared → Prop} (hh : A.handled = none) (hI : SetIt w s.heap I S left)
    (h0 : left = [] → ∀ h', (∀ b o, b ≠ I → s.heap.get? b = some o → h'.get? b = some o) → Q none { s with heap := h' })
    (h1 : ∀ k r u h', left = k :: r → SetIt w h' I S r → (∀ b o, b ≠ I → s.heap.get? b = some o → h'.get? b = some o) → Q (some (.int k u)) { s with heap := h' }) :
    wpAny (model PR w) A (pyNext (.ref I)) Q E s := by
  obtain ⟨es, ep, t, i, first, hS, hf, hr, hl, ho, hcase⟩ := hI
  have hT : s.TypeIs (.ref I) "set_iterator" := ⟨_, ho, rfl⟩
  have hIS : S ≠ I := by intro q; subst q; rw [hS] at ho; have q2 := congrArg Obj.cls (Option.some.inj ho); simp at q2
  have hpl : t.place.size = es.size := by
    simp only [SetTable.fits, Bool.and_eq_true, beq_iff_eq] at hf; exact hf.1
  unfold pyNext
  refine wpAny_bind (wpAny_attempt (wpAny_callSpecial?_slot (name := Str.ofString "__next__") hT slot_setit_next
    (wpAny_call_entry slot_setit_next hT entry_setit_next ?_ (args_setit_next _))))
  show wpAny _ _ (fieldsOf (.ref I) >>= _) _ _ s
  refine wpAny_bind (wpAny_fieldsOf ho rfl ?_)
  show wpAny _ _ (setEntries S >>= _) _ _ s
  refine wpAny_bind (wpAny_setEntries_of hS rfl hf ?_)
  rw [if_neg (by simp)]
  have keep2 : ∀ (j : Nat) (x y : Value) (b : Addr) (o : Obj), b ≠ I → s.heap.get? b = some o → ((s.heap.update I (Obj.mapFields (·.setIfInBounds j x))).get? b = some o) := fun j x y b o hb e => by
    rw [Heap.get?_update_ne _ _ _ _ hb]; exact e
  -- the end of the walk
  have fin : ∀ (h' : Heap), (∀ b o, b ≠ I → s.heap.get? b = some o → h'.get? b = some o) → left = [] →
      wpAny (model PR w) A.in1 (newExc (.type "StopIteration") [] >>= fun e => (raiseNew e : Sem Fin)) (fun fin s' => ∃ v, fin = .done (.ret v) ∧ wpAny (model PR w) A (pure (some v)) Q E s') (fun e s' => wpAny (model PR w) A (isInstance e (.type "StopIteration") >>= fun b => if b = true then pure none else throw e) Q E s') { s with heap := h' } := by
    intro h' hk hn
    refine stop_here (by show A.handled = none; exact hh) fun e h'' _ hk2 ⟨o, hoe, hc⟩ => ?_
    refine wpAny_bind (wpAny_isInstance (T := "StopIteration") (b := true) ⟨o, hoe, hc⟩ isSubtype_stop ?_)
    exact wpAny_pure (h0 hn _ fun b o hb e2 => hk2 b o (hk b o hb e2))
  rcases hcase with ⟨hb, ⟨sl, rfl⟩, hp⟩ | ⟨hb, P, ps, rfl, hP, hp⟩ | ⟨hb, hd, sl, rfl, hsl, hp⟩
  · show wpAny _ _ (setNext S (Int.toNat (sl : Int)) (Int.toNat (i : Int)) (Int.toNat (ep : Int)) >>= _) _ _ s
    simp only [Int.toNat_natCast]
    refine wpAny_bind (setNext_of hS hf hl ?_)
    rw [hb]
    simp only [if_true]
    cases hleft : left with
    | nil =>
      rw [hleft] at hp
      have := drop_nil hp
      rw [Array.getElem?_toList] at this
      rw [this]
      show wpAny _ _ (setField (.ref I) 2 .none >>= _) _ _ s
      refine wpAny_bind (wpAny_setField ho rfl (by simp) ?_)
      exact fin _ (keep2 2 .none .none) hleft
    | cons k r =>
      rw [hleft] at hp
      obtain ⟨a, ha, ⟨u, rfl⟩, hp'⟩ := drop_cons hp
      rw [Array.getElem?_toList] at ha
      rw [ha]
      show wpAny _ _ (setField (.ref I) 0 (rawInt ((sl : Nat) : Int)) >>= _) _ _ s
      refine wpAny_bind (wpAny_setField ho rfl (by simp) ?_)
      have ho1 : (s.heap.update I (Obj.mapFields (·.setIfInBounds 0 (rawInt (sl : Int))))).get? I = some (setItObj (rawInt (sl : Int)) i S es.size ep) := Heap.get?_update_self _ ho rfl
      refine wpAny_bind (wpAny_setField ho1 rfl (by simp) ?_)
      have ho2 : ((s.heap.update I (Obj.mapFields (·.setIfInBounds 0 (rawInt (sl : Int))))).update I (Obj.mapFields (·.setIfInBounds 1 (rawInt ((i : Int) + 1))))).get? I = some (setItObj (rawInt (sl : Int)) (i + 1) S es.size ep) := Heap.get?_update_self _ ho1 rfl
      have kp : ∀ b o, b ≠ I → s.heap.get? b = some o → ((s.heap.update I (Obj.mapFields (·.setIfInBounds 0 (rawInt (sl : Int))))).update I (Obj.mapFields (·.setIfInBounds 1 (rawInt ((i : Int) + 1))))).get? b = some o := fun b o hb' e => by
        rw [Heap.get?_update_ne _ _ _ _ hb', Heap.get?_update_ne _ _ _ _ hb']; exact e
      refine wpAny_pure ⟨_, rfl, wpAny_pure <| h1 k r u _ hleft ⟨es, ep, t, i + 1, _, kp _ _ hIS hS, hf, hr, hl, ho2, .inl ⟨hb, ⟨sl, rfl⟩, hp'⟩⟩ kp⟩
  · show wpAny _ _ (seqItems? (.ref P) >>= _) _ _ s
    obtain ⟨oP, hoP, hcP, nP, hdP⟩ := id hP
    have hIP : P ≠ I := by intro q; subst q; rw [hoP] at ho; have q2 := congrArg Obj.cls (Option.some.inj ho); rw [hcP] at q2; simp at q2
    refine wpAny_bind (wpAny_seqItems hoP hdP ?_)
    show wpAny _ _ (match ((ps.map fun (p : Nat) => rawInt (p : Int)).toArray)[Int.toNat (i : Int)]? with | some (.int place _) => _ | some _ => _ | none => _) _ _ s
    simp only [Int.toNat_natCast, List.getElem?_toArray, List.getElem?_map]
    cases hleft : left with
    | nil =>
      rw [hleft] at hp
      rw [drop_nil hp]
      show wpAny _ _ (setField (.ref I) 0 (rawInt 0) >>= _) _ _ s
      refine wpAny_bind (wpAny_setField ho rfl (by simp) ?_)
      have ho1 : (s.heap.update I (Obj.mapFields (·.setIfInBounds 0 (rawInt 0)))).get? I = some (setItObj (rawInt 0) i S es.size ep) := Heap.get?_update_self _ ho rfl
      refine wpAny_bind (wpAny_setField ho1 rfl (by simp) ?_)
      exact fin ((s.heap.update I (Obj.mapFields (·.setIfInBounds 0 (rawInt 0)))).update I (Obj.mapFields (·.setIfInBounds 2 .none))) (fun b o hb' e => by rw [Heap.get?_update_ne _ _ _ _ hb', Heap.get?_update_ne _ _ _ _ hb']; exact e) hleft
    | cons k r =>
      rw [hleft] at hp
      obtain ⟨p, hp1, ⟨e, he, u, rfl⟩, hp'⟩ := drop_cons hp
      rw [hp1]
      show wpAny _ _ (setNextDrawn S (Int.toNat (p : Int)) (Int.toNat (ep : Int)) >>= _) _ _ s
      simp only [Int.toNat_natCast]
      unfold setNextDrawn
      refine wpAny_bind (wpAny_bind (wpAny_setState_of hS rfl hf ?_))
      dsimp only
      rw [if_neg (by simp), he]
      refine wpAny_pure ?_
      show wpAny _ _ (setField (.ref I) 1 (rawInt ((i : Int) + 1)) >>= _) _ _ s
      refine wpAny_bind (wpAny_setField ho rfl (by simp) ?_)
      have ho1 : (s.heap.update I (Obj.mapFields (·.setIfInBounds 1 (rawInt ((i : Int) + 1))))).get? I = some (setItObj (.ref P) (i + 1) S es.size ep) := Heap.get?_update_self _ ho rfl
      have kp : ∀ b o, b ≠ I → s.heap.get? b = some o → (s.heap.update I (Obj.mapFields (·.setIfInBounds 1 (rawInt ((i : Int) + 1))))).get? b = some o := fun b o hb' e => by
        rw [Heap.get?_update_ne _ _ _ _ hb']; exact e
      refine wpAny_pure ⟨_, rfl, wpAny_pure <| h1 k r u _ hleft ⟨es, ep, t, i + 1, _, kp _ _ hIS hS, hf, hr, hl, ho1, .inr (.inl ⟨hb, P, ps, rfl, ⟨oP, kp _ _ hIP hoP, hcP, nP, hdP⟩, hp'⟩)⟩ kp⟩
  · show wpAny _ _ (setNext S (Int.toNat (sl : Int)) (Int.toNat (i : Int)) (Int.toNat (ep : Int)) >>= _) _ _ s
    simp only [Int.toNat_natCast]
    refine wpAny_bind (setNext_of hS hf hl ?_)
    rw [hb]
    simp only [Bool.false_eq_true, if_false]
    refine ⟨hd, ?_⟩
    rw [hsl]
    cases hleft : left with
    | nil =>
      rw [hleft] at hp
      have := drop_nil hp
      rw [Array.getElem?_toList] at this
      rw [this]
      show wpAny _ _ (setField (.ref I) 2 .none >>= _) _ _ s
      refine wpAny_bind (wpAny_setField ho rfl (by simp) ?_)
      exact fin _ (keep2 2 .none .none) hleft
    | cons k r =>
      rw [hleft] at hp
      obtain ⟨a, ha, ⟨u, rfl⟩, hp'⟩ := drop_cons hp
      rw [Array.getElem?_toList] at ha
      have hi : i < es.size := by
        by_cases q : i < es.size
        · exact q
        · rw [Array.getElem?_eq_none (by omega)] at ha; cases ha
      have hpi : t.place[i]? = some (t.place.getD i 0) := by
        rw [Array.getD_eq_getD_getElem?, Array.getElem?_eq_getElem (by omega)]; rfl
      rw [ha, hpi]
      show wpAny _ _ (setField (.ref I) 0 (rawInt ((t.place.getD i 0 + 1 : Nat) : Int)) >>= _) _ _ s
      refine wpAny_bind (wpAny_setField ho rfl (by simp) ?_)
      have ho1 : (s.heap.update I (Obj.mapFields (·.setIfInBounds 0 (rawInt ((t.place.getD i 0 + 1 : Nat) : Int))))).get? I = some (setItObj (rawInt ((t.place.getD i 0 + 1 : Nat) : Int)) i S es.size ep) := Heap.get?_update_self _ ho rfl
      refine wpAny_bind (wpAny_setField ho1 rfl (by simp) ?_)
      have ho2 : ((s.heap.update I (Obj.mapFields (·.setIfInBounds 0 (rawInt ((t.place.getD i 0 + 1 : Nat) : Int))))).update I (Obj.mapFields (·.setIfInBounds 1 (rawInt ((i : Int) + 1))))).get? I = some (setItObj (rawInt ((t.place.getD i 0 + 1 : Nat) : Int)) (i + 1) S es.size ep) := Heap.get?_update_self _ ho1 rfl
      have kp : ∀ b o, b ≠ I → s.heap.get? b = some o → ((s.heap.update I (Obj.mapFields (·.setIfInBounds 0 (rawInt ((t.place.getD i 0 + 1 : Nat) : Int))))).update I (Obj.mapFields (·.setIfInBounds 1 (rawInt ((i : Int) + 1))))).get? b = some o := fun b o hb' e => by
        rw [Heap.get?_update_ne _ _ _ _ hb', Heap.get?_update_ne _ _ _ _ hb']; exact e
      refine wpAny_pure ⟨_, rfl, wpAny_pure <| h1 k r u _ hleft ⟨es, ep, t, i + 1, _, kp _ _ hIS hS, hf, hr, hl, ho2, .inr (.inr ⟨hb, hd, _, rfl, below_after hr (by omega), hp'⟩)⟩ kp⟩
end
end Mine
end
section
open PySem PySem.W PySem.Spec PySem.Calls PyProof.Rows
set_option maxRecDepth 100000
set_option maxHeartbeats 4000000
namespace Mine
theorem range_paired {w : World} {es : Array (Int × Value)} {ks : List Int} (h : Paired (Elem w) es.toList ks) : Paired (fun p k => ∃ e, es[p]? = some e ∧ Elem w e k) (List.range es.size) ks := by
  have key : ∀ (l : List (Int × Value)) (ks : List Int) (n : Nat), Paired (Elem w) l ks → (∀ i, i < l.length → es[n + i]? = l[i]?) → Paired (fun p k => ∃ e, es[p]? = some e ∧ Elem w e k) (List.range' n l.length) ks := by
    intro l
    induction l with
    | nil => intro ks n h _; cases h; exact .nil
    | cons a l ih =>
      intro ks n h hi
      cases h with
      | cons h1 h2 =>
        rw [List.length_cons, List.range'_succ]
        refine .cons ⟨a, by simpa using hi 0 (by simp), h1⟩ (ih _ (n + 1) h2 fun i hi' => ?_)
        have := hi (i + 1) (by simpa using hi')
        rw [List.getElem?_cons_succ] at this
        rw [← this]
        congr 1
        omega
  have := key es.toList ks 0 h (fun i hi => by rw [Nat.zero_add, ← Array.getElem?_toList])
  rw [List.range_eq_range', ← Array.length_toList]
  exact this
section
variable {w : World} {A : Around} {s : Shared} {E : Value → Shared → Prop}
theorem pyIter_set {S : Addr} {ks : List Int} {Q : Value → Shared → Prop} (hS : SetI w s.heap S ks)
    (h : ∀ I h' d ks', ks'.Perm ks → SetIt w h' I S ks' → Kp s.heap h' → s.heap.get? I = none → Q (.ref I) { s with heap := h', drawn := d }) :
    wpAny (model PR w) A (pyIter (.ref S)) Q E s := by
  obtain ⟨es, ep, t, ho, hp, hn, hr, hf, hb, hl⟩ := id hS
  have hT : s.TypeIs (.ref S) "set" := ⟨_, ho, rfl⟩
  refine wpAny_pyIter_slot hT PySem.F.slot_set_iter (wpAny_call_entry PySem.F.slot_set_iter hT entry_set_iter ?_ (PySem.F.args_set_iter_1 _))
  show wpAny _ _ (Builtin.Frozenset.sizeOf S >>= _) _ _ s
  unfold Builtin.Frozenset.sizeOf
  refine wpAny_bind (wpAny_bind (wpAny_setEntries_of ho rfl hf (wpAny_pure ?_)))
  refine wpAny_bind ?_
  unfold setDrawn
  refine wpAny_bind (wpAny_setState_of ho rfl hf ?_)
  dsimp only
  refine wpAny_bind (byText_of ?_)
  refine wpAny_pure ?_
  show wpAny _ _ (if (!byText w && (!t.plain && decide (es.size > 1))) = true then _ else _) _ _ _
  have tail : ∀ (first : Value) (s₁ : Shared) (Q' : Value → Shared → Prop), s₁.heap.get? S = some { cls := .type "set", data := .set es ep t } →
      Q' (.ref s₁.heap.objs.size) { s₁ with heap := s₁.heap.push (setItObj first 0 S es.size ep) } →
      wpAny (model PR w) A.in1 (setEpoch S >>= fun e => newFields "set_iterator" [first, rawInt 0, .ref S, rawInt (es.size : Int), rawInt (e : Int)] >>= fun v => ret v) (fun fin s' => ∃ v, fin = .done (.ret v) ∧ Q' v s') E s₁ := by
    intro first s₁ Q' hs hq
    refine wpAny_bind (wpAny_setEpoch_of hs rfl hf ?_)
    refine wpAny_bind (wpAny_newObj_type ?_ (by size_fits))
    exact wpAny_pure ⟨_, rfl, hq⟩
  cases hbt : byText w with
  | true =>
    simp only [Bool.not_true, Bool.false_and, Bool.false_eq_true, if_false]
    refine wpAny_bind (wpAny_pure ?_)
    refine tail (rawInt 0) s _ ho ?_
    refine ⟨"set_iterator", _, ⟨_, Heap.get?_push_size _ rfl, rfl⟩, slot_setit_next.lookup, ?_⟩
    obtain ⟨ks', p1, p2⟩ := paired_perm (pick_perm (w.params.setOrder S ep) es) hp
    exact h _ _ s.drawn ks' p2 ⟨es, ep, t, 0, _, Heap.get?_push_of_some _ ho, hf, hr, hl, Heap.get?_push_size _ rfl, .inl ⟨hbt, ⟨0, rfl⟩, by simpa using p1⟩⟩ (fun b o e => Heap.get?_push_of_some _ e) (get_size _)
  | false =>
    simp only [Bool.not_false, Bool.true_and]
    cases hd : (!t.plain && decide (es.size > 1)) with
    | true =>
      simp only [if_true]
      refine wpAny_bind (drawOrder_any _ _ _ (List.length_range).symm fun ys d hperm => ?_)
      refine wpAny_bind (wpAny_newObj_type ?_ ?_)
      · refine tail (.ref _) _ _ (Heap.get?_push_of_some _ ho) ?_
        refine ⟨"set_iterator", _, ⟨_, Heap.get?_push_size _ rfl, rfl⟩, slot_setit_next.lookup, ?_⟩
        obtain ⟨ks', p1, p2⟩ := paired_perm hperm (range_paired hp)
        refine h _ _ d ks' p2 ⟨es, ep, t, 0, _, Heap.get?_push_of_some _ (Heap.get?_push_of_some _ ho), hf, hr, hl, Heap.get?_push_size _ rfl, .inr (.inl ⟨hbt, _, ys, rfl, ⟨_, Heap.get?_push_of_some _ (Heap.get?_push_size _ rfl), rfl, 0, rfl⟩, by simpa using p1⟩)⟩
          (fun b o e => Heap.get?_push_of_some _ (Heap.get?_push_of_some _ e)) ?_
        exact Heap.get?_none_of_le (by rw [Heap.size_push]; exact Nat.le_succ _)
      · have := hperm.length_eq
        show (List.toArray _).size ≤ sizeLine
        rw [List.size_toArray, List.length_map, this, List.length_range]
        exact fits_of_scanBound hb
    | false =>
      simp only [Bool.false_eq_true, if_false]
      refine wpAny_bind (wpAny_pure ?_)
      refine tail (rawInt 0) s _ ho ?_
      refine ⟨"set_iterator", _, ⟨_, Heap.get?_push_size _ rfl, rfl⟩, slot_setit_next.lookup, ?_⟩
      exact h _ _ s.drawn ks (.refl _) ⟨es, ep, t, 0, _, Heap.get?_push_of_some _ ho, hf, hr, hl, Heap.get?_push_size _ rfl, .inr (.inr ⟨hbt, hd, 0, rfl, below_zero hr, by simpa using hp⟩)⟩ (fun b o e => Heap.get?_push_of_some _ e) (get_size _)
theorem extend_set {R : Result → Shared → Prop} {D I S : Addr} (hh : A.handled = none) (hDI : D ≠ I) :
    ∀ (left : List Int) (s : Shared) (ys : List Value) (n : Nat), s.heap.get? D = some (seqObj "list" ys.toArray n) → ys.length + left.length ≤ sizeLine → SetIt w s.heap I S left →
      (∀ h' zs n', h'.get? D = some (seqObj "list" (ys ++ zs).toArray n') → IntsAre zs left → (∀ b o, b ≠ D → b ≠ I → s.heap.get? b = some o → h'.get? b = some o) → R (.ok (.ret (.ref D))) { s with heap := h' }) →
      codeAny (model PR w) A (.builtin "list.extend.loop" ⟨[.ref D, .ref I, .ref D], []⟩) R s := by
  intro left
  induction left with
  | nil =>
    intro s ys n hD hz hI hR
    refine codeAny_builtin PySem.F.entry_extend_loop ?_
    rw [Around.under_plainId PySem.F.plain_extend_loop _]
    show wpAny _ A.in1 (pyNext (.ref I) >>= _) _ _ s
    refine wpAny_bind (setit_next (by show A.handled = none; exact hh) hI (fun _ h' hk => ?_) fun k r u h' e => by cases e)
    show wpAny _ A.in1 (ret (.ref D)) _ _ _
    exact wpAny_pure (hR h' [] n (by rw [List.append_nil]; exact hk _ _ hDI hD) .nil fun b o _ q e => hk b o q e)
  | cons k left ih =>
    intro s ys n hD hz hI hR
    refine codeAny_builtin PySem.F.entry_extend_loop ?_
    rw [Around.under_plainId PySem.F.plain_extend_loop _]
    show wpAny _ A.in1 (pyNext (.ref I) >>= _) _ _ s
    refine wpAny_bind (setit_next (by show A.handled = none; exact hh) hI (fun e => by cases e) fun k' r u h1 e hI1 hk => ?_)
    cases e
    have hD1 : h1.get? D = some (seqObj "list" ys.toArray n) := hk _ _ hDI hD
    simp only [List.length_cons] at hz
    show wpAny _ A.in1 (Builtin.List.listUpdate (.ref D) (·.push (.int k u)) >>= _) _ _ _
    refine wpAny_bind (listUpdate_at hD1 rfl ?_ (by rw [List.size_toArray]; omega) (by simp only [Array.size_push, List.size_toArray]; omega))
    have hD2 := get?_update_seq hD1 (·.push (.int k u))
    have keep : ∀ b o, b ≠ D → h1.get? b = some o → (h1.update D (Obj.mapSeq (·.push (.int k u)))).get? b = some o := fun b o q e => by rw [Heap.get?_update_ne _ _ _ _ q]; exact e
    have hI2 : SetIt w (h1.update D (Obj.mapSeq (·.push (.int k u)))) I S left := hI1.at' fun b o hc e => keep b o (fun q => by
      subst q
      rw [hD1] at e
      obtain ⟨c, hc1, hc2⟩ := hc
      rw [← Option.some.inj e] at hc1
      simp only [Value.type.injEq] at hc1
      subst hc1
      revert hc2; decide) e
    have e2 : (ys.toArray.push (Value.int k u)) = (ys ++ [Value.int k u]).toArray := by simp
    rw [e2] at hD2
    refine wpAny_pure ⟨plainId_quiet PySem.F.plain_extend_loop _, ih _ (ys ++ [.int k u]) _ hD2 (by rw [List.length_append, List.length_singleton]; omega) hI2 fun h' zs n' hD' hz' hk' => ?_⟩
    rw [List.append_assoc] at hD'
    exact hR h' (.int k u :: zs) n' hD' (.cons _ _ hz') fun b o q1 q2 e => hk' b o q1 q2 (keep b o q1 (hk b o q2 e))
end
end Mine
end
section
open PySem PySem.W PySem.Spec PySem.Calls PyProof.Rows
set_option maxRecDepth 100000
set_option maxHeartbeats 4000000
namespace Mine
theorem sortedHeap_kp {h : Heap} {a : Addr} {vs : List Value} {out : Array Value} : ∀ b o, b ≠ a → h.get? b = some o → (sortedHeap h a vs out).get? b = some o := fun b o hb e => by
  rw [sortedHeap_old hb (Heap.lt_size e)]; exact e
section
variable {w : World} {A : Around} {s : Shared} {E : Value → Shared → Prop}
theorem collect_set {S : Addr} {ks : List Int} {Q : List Value → Shared → Prop} (hh : A.handled = none) (hS : SetI w s.heap S ks)
    (h : ∀ vs ks' h' d, IntsAre vs ks' → ks'.Perm ks → Kp s.heap h' → Q vs { s with heap := h', drawn := d }) :
    wpAny (model PR w) A (collect (.ref S)) Q E s := by
  have hlen : ks.length < scanBound := by
    obtain ⟨es, ep, t, ho, hp, hn, hr, hf, hb, hl⟩ := id hS
    rw [← hp.length, Array.length_toList]; exact hb
  unfold collect
  refine wpAny_bind (wpAny_runValue (codeAny_builtin PySem.F.entry_proto_collect ?_))
  rw [Around.under_plainId PySem.F.plain_proto_collect _]
  show wpAny _ A.in1 (newList [] >>= fun l => again (.builtin "list.__iadd__" ⟨[l, .ref S], []⟩)) _ _ s
  refine wpAny_bind (wpAny_newObj_type ?_ (by size_fits))
  refine wpAny_pure ⟨plainId_quiet PySem.F.plain_list_iadd _, codeAny_builtin PySem.F.entry_list_iadd ?_⟩
  rw [Around.under_plainId PySem.F.plain_list_iadd _]
  have hS1 : SetI w (s.heap.push (seqObj "list" #[] 0)) S ks := hS.at' fun o e => Heap.get?_push_of_some _ e
  obtain ⟨es, ep, t, ho, _⟩ := id hS1
  have hD : (s.heap.push (seqObj "list" #[] 0)).get? s.heap.objs.size = some (seqObj "list" #[] 0) := Heap.get?_push_size _ rfl
  have hDS : s.heap.objs.size ≠ S := by
    obtain ⟨_, _, _, ho0, _⟩ := id hS
    exact Nat.ne_of_gt (Heap.lt_size ho0)
  have hT : Shared.TypeIs { s with heap := s.heap.push (seqObj "list" #[] 0) } (.ref S) "set" := ⟨_, ho, rfl⟩
  show wpAny _ A.in1 (Builtin.List.listExtendWith (.ref s.heap.objs.size) (.ref S) (.ref s.heap.objs.size)) _ _ { s with heap := s.heap.push (seqObj "list" #[] 0) }
  unfold Builtin.List.listExtendWith
  refine wpAny_bind (wpAny_typeOf hT ?_)
  have h1 : Builtin.List.listSameRef (.ref s.heap.objs.size) (.ref S) = false := by simp [Builtin.List.listSameRef, hDS]
  rw [if_neg (by rw [h1]; decide)]
  refine wpAny_bind (pyIter_set hS1 fun I h1 d ks' hp hI hk hIn => ?_)
  have hT1 : ∀ dd, Shared.TypeIs { s with heap := h1, drawn := dd } (.ref S) "set" := fun dd => ⟨_, hk _ _ ho, rfl⟩
  refine wpAny_bind (wpAny_holding ?_)
  unfold Builtin.List.listLengthHint
  refine wpAny_bind (wpAny_specialOf (hT1 d) set_len_lookup ?_)
  dsimp only
  rw [set_len_split]
  refine wpAny_bind (wpAny_isInstance (b := true) (hT1 d) sub_set_self ?_)
  refine wpAny_bind (wpAny_typeOf (hT1 d) ?_)
  refine wpAny_pure ?_
  show wpAny _ A.in1 (rule "list.extend.makes-room" >>= fun _ => Builtin.List.listTouch (.ref s.heap.objs.size) >>= fun _ => again (.builtin "list.extend.loop" ⟨[.ref s.heap.objs.size, .ref I, .ref s.heap.objs.size], []⟩)) _ _ _
  refine wpAny_bind (wpAny_rule ?_)
  have hD1 : h1.get? s.heap.objs.size = some (seqObj "list" #[] 0) := hk _ _ hD
  have hDI : s.heap.objs.size ≠ I := by intro q; rw [← q, hD] at hIn; cases hIn
  unfold Builtin.List.listTouch
  refine wpAny_bind (wpAny_bind (listUpdate_at hD1 rfl ?_ (by size_fits) (by seq_fits)))
  have hD2 := get?_update_seq hD1 (·.push .none)
  refine listUpdate_at hD2 rfl ?_ (by show (1 : Nat) ≤ sizeLine; rw [sizeLine_eq]; decide) (by show (0 : Nat) ≤ sizeLine + 1; exact Nat.zero_le _)
  have hD3 := get?_update_seq hD2 (·.pop)
  have kp3 : ∀ b o, b ≠ s.heap.objs.size → h1.get? b = some o → ((h1.update s.heap.objs.size (Obj.mapSeq (·.push .none))).update s.heap.objs.size (Obj.mapSeq (·.pop))).get? b = some o := fun b o hb e => by
    rw [Heap.get?_update_ne _ _ _ _ hb, Heap.get?_update_ne _ _ _ _ hb]; exact e
  have hI3 : SetIt w ((h1.update s.heap.objs.size (Obj.mapSeq (·.push .none))).update s.heap.objs.size (Obj.mapSeq (·.pop))) I S ks' := hI.at' fun b o hc e => kp3 b o (fun q => by
      rw [q, hD1] at e
      obtain ⟨c, hc1, hc2⟩ := hc
      rw [← Option.some.inj e] at hc1
      simp only [Value.type.injEq] at hc1
      subst hc1
      revert hc2; decide) e
  refine wpAny_pure ⟨plainId_quiet PySem.F.plain_extend_loop _, extend_set (by show A.handled = none; exact hh) hDI ks' _ [] _ hD3 (by rw [List.length_nil, hp.length_eq, Nat.zero_add]; exact fits_of_scanBound hlen) hI3 fun h' zs n' hD' hz hk' => ?_⟩
  rw [List.nil_append] at hD'
  show wpAny (model PR w) A (do
      let o ← load s.heap.objs.size
      match o.data with
      | .seq xs _ => pure xs.toList
      | _ => unsupported "internal:collect") Q E _
  refine wpAny_bind (wpAny_load hD' ?_)
  show wpAny _ _ (pure zs.toArray.toList) Q E _
  refine wpAny_pure (h _ ks' h' d (by simpa using hz) hp fun b o e => ?_)
  have hb : b ≠ s.heap.objs.size := Nat.ne_of_lt (Heap.lt_size e)
  have e1 := hk _ _ (Heap.get?_push_of_some (seqObj "list" #[] 0) e)
  refine hk' b o hb (fun q => ?_) (kp3 b o hb e1)
  have e2 := Heap.get?_push_of_some (seqObj "list" #[] 0) e
  rw [q] at e2
  rw [e2] at hIn
  cases hIn
theorem sorted_of_collect {x : Value} {ks : List Int} {Q : Value → Shared → Prop} (h64 : ks.length < 64)
    (hc : ∀ (E : Value → Shared → Prop) (Q' : List Value → Shared → Prop), (∀ vs ks' h' d tk, IntsAre vs ks' → ks'.Perm ks → Kp s.heap h' → Q' vs { s with heap := h', drawn := d, toks := tk }) → wpAny (model PR w) A.in1 (collect x) Q' E s)
    (h : ∀ D h' tk d vs ks' n, Kp s.heap h' → s.heap.get? D = none → h'.get? D = some (W.listOf vs.toArray n) → IntsAre vs ks' → ks'.Perm ks → ks'.Pairwise (· ≤ ·) → Q (.ref D) { s with heap := h', toks := tk, drawn := d }) :
    wpAny (model PR w) A (call (.builtin "sorted") [x]) Q E s := by
  refine Calls.call_function_entry kind_sorted plain_sorted entry_sorted (args_sorted1 _) ?_
  unfold Builtin.«sorted»
  refine wpAny_bind (m := checkCount "sorted" 1 1 _) (wpAny_pure ?_)
  refine wpAny_bind (hc _ _ fun vs ks' h1 d tk hi hp hk => ?_)
  have hvl := hi.length
  refine wpAny_bind (wpAny_newObj_type ?_ (by show (List.toArray _).size ≤ sizeLine; rw [List.size_toArray, hvl, hp.length_eq, sizeLine_eq]; omega))
  have hoL : (h1.push (seqObj "list" vs.toArray 0)).get? h1.objs.size = some (seqObj "list" vs.toArray 0) := Heap.get?_push_size _ rfl
  refine wpAny_bind (wpAny_holding (wpAny_call_entry slot_list_sort ⟨_, hoL, rfl⟩ entry_list_sort (list_sort_tree hoL hi (by rw [hvl, hp.length_eq]; exact h64) fun out ns' a1 a2 a3 => ⟨_, rfl, ?_⟩) (args_list_sort _)))
  obtain ⟨n, hn⟩ := sortedHeap_at (out := out) hoL
  have hfresh : s.heap.get? h1.objs.size = none := by
    cases q : s.heap.get? h1.objs.size with
    | none => rfl
    | some o => exact absurd (Heap.lt_size (hk _ _ q)) (Nat.lt_irrefl _)
  have := h h1.objs.size (sortedHeap (h1.push (seqObj "list" vs.toArray 0)) h1.objs.size vs out) tk d out.toList ns' n
    (fun b o e => sortedHeap_kp b o (Nat.ne_of_lt (Heap.lt_size (hk _ _ e))) (Heap.get?_push_of_some _ (hk _ _ e))) hfresh (by simpa using hn) a1 (a2.trans hp) a3
  exact wpAny_pure ⟨_, rfl, this⟩
theorem sorted_set {S : Addr} {ks : List Int} {Q : Value → Shared → Prop} (hh : A.handled = none) (hS : SetI w s.heap S ks) (h64 : ks.length < 64)
    (h : ∀ D h' tk d vs ks' n, Kp s.heap h' → s.heap.get? D = none → h'.get? D = some (W.listOf vs.toArray n) → IntsAre vs ks' → ks'.Perm ks → ks'.Pairwise (· ≤ ·) → Q (.ref D) { s with heap := h', toks := tk, drawn := d }) :
    wpAny (model PR w) A (call (.builtin "sorted") [.ref S]) Q E s :=
  sorted_of_collect h64 (fun E Q' hq => collect_set (by show A.handled = none; exact hh) hS fun vs ks' h' d hi hp hk => hq vs ks' h' d s.toks hi hp hk) h
end
end Mine
end
section
open PySem PySem.W PySem.Spec PySem.Calls PyProof.Rows
set_option maxRecDepth 100000
set_option maxHeartbeats 1000000
namespace Mine
section
variable {w : World} {A : Around} {s : Shared} {E : Value → Shared → Prop} {h₀ : Heap} {L : Addr} {m : Str → Option Value}
theorem set_item_N {pre post : List (Addr × Obj)} {d : Addr} {od : Obj} {kvs : List (Int × Value)} {k : Int} {u : Tok} {v : Value} {Q : Unit → Shared → Prop}
    (F : Fr h₀ L s.heap m) (N : News h₀ L s.heap (pre ++ (d, od) :: post)) (hd : od.IsDictOf (PySem.intKind PR w) kvs) (h1 : ∀ p ∈ pre, p.1 ≠ d) (h2 : ∀ p ∈ post, p.1 ≠ d) (hz : kvs.length ≤ sizeLine)
    (h : ∀ h' od', Fr h₀ L h' m → News h₀ L h' (pre ++ (d, od') :: post) → od'.IsDictOf (PySem.intKind PR w) (stored kvs k v) → Q () { s with heap := h', toks := s.toks + 1 }) :
    wpAny (model PR w) A (setItem (.ref d) (.int k u) v) Q E s := by
  have hm := N (d, od) (List.mem_append_right _ (.head _))
  refine wpAny_setItem_pairs (hsz := hz) (intKind_is _ _ _ _) (Heap.dictOf_iff.mpr ⟨od, hm.1, hd⟩) fun h' hm' hs => ?_
  obtain ⟨od', ho', hd'⟩ := Heap.dictOf_iff.mp hm'
  refine h h' od' ⟨F.ns.sameBut hs (Ne.symm hm.2.1), fun b ob e => (hs.2 b (fun q => ?_)).trans (F.keep b ob e), F.above⟩ (N.setAt h1 h2 hs ho') hd'
  have := hm.2.2
  rw [q] at e
  rw [this] at e; cases e
variable {Q : Value → Shared → Prop} {l : Addr}
theorem sub_list {vs : List Value} {value slice : PySem.Expr} {k : Int} {u : Tok} {v : Value} (hL : s.heap.IsList l vs.toArray) (h0 : 0 ≤ k) (hk : k < 2 ^ 63) (hx : vs[k.toNat]? = some v) (h : Q v s)
    (hs : subscripted slice false (.ref l) (.int k u) = operate [.ref l, .int k u] (getItem (.ref l) (.int k u)) := by with_unfolding_all rfl) :
    wpAny (model PR w) A (subscriptTail value slice (.ref l) (.int k u)) Q E s :=
  tail_any hL.typeIs slot_list_getitem.lookup (wpAny_getItem_list hL h0 hk (by simpa using hx) h) hs
theorem sub_ints {vs : List Value} {ns : List Int} {value slice : PySem.Expr} {k : Int} {u : Tok} {i : Nat} (hL : s.heap.IsList l vs.toArray) (hi : IntsAre vs ns) (hk : k = (i : Int)) (hin : i < ns.length) (hf : ns.length < 2 ^ 60) (h : ∀ t, Q (.int ns[i] t) s)
    (hs : subscripted slice false (.ref l) (.int k u) = operate [.ref l, .int k u] (getItem (.ref l) (.int k u)) := by with_unfolding_all rfl) :
    wpAny (model PR w) A (subscriptTail value slice (.ref l) (.int k u)) Q E s := by
  obtain ⟨t, e⟩ := hi.get i ns[i] (List.getElem?_eq_getElem hin)
  subst hk
  exact sub_list hL (by omega) (by omega) (by simpa using e) (h t) hs
theorem len_at {vs : List Value} {n : Nat} (hL : s.heap.IsList l vs.toArray) (hn : vs.length = n) (hf : n < 2 ^ 60) (h : ∀ t k, Q (.int n t) { s with toks := k }) :
    wpAny (model PR w) A (call (.builtin "len") [.ref l]) Q E s := by
  subst hn
  exact Calls.call_len_list hL (by simp; omega) (by simpa using h _ _)
end
theorem isDictOf_nil {w : World} {n : Nat} : (dictOf [] n).IsDictOf (PySem.intKind PR w) [] := ⟨#[], n, ⟨rfl, rfl, rfl⟩, rfl, fun e he => by simp at he, .nil, List.nodup_nil⟩
theorem stored_new {kvs : List (Int × Value)} {k : Int} {v : Value} (h : k ∉ kvs.map (·.1)) : stored kvs k v = kvs ++ [(k, v)] := by
  unfold stored
  rw [if_neg]
  intro q
  obtain ⟨kv, hkv, e⟩ := List.any_eq_true.mp q
  exact h (List.mem_map.mpr ⟨kv, hkv, of_decide_eq_true e⟩)
/-- the clusters: strictly rising, those that the rows bear -/
structure Firsts (st : List Int) (rs : List RowV) : Prop where
  up : st.Pairwise (· < ·)
  mem : ∀ k, k ∈ st ↔ k ∈ rs.map (·.c)
theorem strict_of {l : List Int} (h1 : l.Pairwise (· ≤ ·)) (h2 : l.Nodup) : l.Pairwise (· < ·) := by
  have := List.Pairwise.and h1 h2
  exact this.imp fun ⟨a, b⟩ => by omega
theorem strict_ext : ∀ {l l' : List Int}, l.Pairwise (· < ·) → l'.Pairwise (· < ·) → (∀ k, k ∈ l ↔ k ∈ l') → l = l'
  | [], [], _, _, _ => rfl
  | [], b :: l', _, _, h => by have := (h b).mpr (.head _); cases this
  | a :: l, [], _, _, h => by have := (h a).mp (.head _); cases this
  | a :: l, b :: l', h1, h2, h => by
    rw [List.pairwise_cons] at h1 h2
    have e : a = b := by
      rcases List.mem_cons.mp ((h a).mp (.head _)) with q | q
      · exact q
      · rcases List.mem_cons.mp ((h b).mpr (.head _)) with r | r
        · exact r.symm
        · have := h2.1 a q; have := h1.1 b r; omega
    subst e
    rw [strict_ext h1.2 h2.2 fun k => ?_]
    constructor
    · intro hk
      rcases List.mem_cons.mp ((h k).mp (.tail _ hk)) with q | q
      · subst q; have := h1.1 k hk; omega
      · exact q
    · intro hk
      rcases List.mem_cons.mp ((h k).mpr (.tail _ hk)) with q | q
      · subst q; have := h2.1 k hk; omega
      · exact q
def spansOf (st : List Int) (len : Int) : List (Int × Int) := (List.range st.length).map fun i => (st.getD i 0, st.getD (i + 1) len)
theorem spansOf_length (st : List Int) (len : Int) : (spansOf st len).length = st.length := by simp [spansOf]
def SpanAt (h : Heap) (v : Value) (sp : Int × Int) : Prop := ∃ t ta tb, v = .ref t ∧ IsTup h t #[.int sp.1 ta, .int sp.2 tb]
theorem SpanAt.kp {h h' : Heap} {v : Value} {sp : Int × Int} (x : SpanAt h v sp) (k : Kp h h') : SpanAt h' v sp := let ⟨t, ta, tb, e, i⟩ := x; ⟨t, ta, tb, e, i.keeps k⟩
def SpansAt (h : Heap) (kvs : List (Int × Value)) (sps : List (Int × Int)) : Prop := Paired (fun kv sp => kv.1 = sp.1 ∧ SpanAt h kv.2 sp) kvs sps
theorem SpansAt.kp {h h' : Heap} {kvs : List (Int × Value)} {sps : List (Int × Int)} (x : SpansAt h kvs sps) (k : Kp h h') : SpansAt h' kvs sps := Paired.imp' (fun _ _ y => ⟨y.1, y.2.kp k⟩) x
theorem dictOf_kp {w : World} {h h' : Heap} {d : Addr} {kvs : List (Int × Value)} (x : h.DictOf (PySem.intKind PR w) d kvs) (k : Kp h h') : h'.DictOf (PySem.intKind PR w) d kvs := let ⟨o, es, ep, ho, r⟩ := x; ⟨o, es, ep, k _ _ ho, r⟩
end Mine
end
section
open PySem PySem.W PySem.Spec PySem.Calls PyProof.Rows
set_option maxRecDepth 100000
set_option maxHeartbeats 1000000
namespace Mine
section
variable {w : World} {A : Around} {s : Shared} {env : Env} {Q : Flow → Shared → Prop} {E : Value → Shared → Prop}
/-- a loop over a list that stays: it lies in the base or among the own -/
theorem for_list {target : PySem.Expr} {body : List Stmt} {h₀ : Heap} {keepers news : List (Addr × Obj)} {m₀ : Str → Option Value} {l : Addr} {vs : List Value}
    (J : Nat → (Str → Option Value) → List (Addr × Obj) → Prop)
    (hh : A.handled = none) (hL : ∀ h m, Fr h₀ env.locals h m → News h₀ env.locals h keepers → h.IsList l vs.toArray)
    (F : Fr h₀ env.locals s.heap m₀) (N : News h₀ env.locals s.heap (keepers ++ news)) (hJ : J 0 m₀ news)
    (turn : ∀ i v m₁ nx h tk I oI E', vs[i]? = some v → (∀ p ∈ keepers ++ news, p.1 < I) → (∀ p ∈ nx, p.1 ≠ I) → J i m₁ nx → Fr h₀ env.locals h m₁ → News h₀ env.locals h ((I, oI) :: (keepers ++ nx)) →
      wpAny (model PR w) A (assign target env v) (fun _ s₂ => wpAny (model PR w) A (execs body env) (TurnPost h₀ env.locals I ((I, oI) :: keepers) (J (i + 1)) s Q) E' s₂) E' { s with heap := h, toks := tk })
    (done : ∀ m₁ nx h tk, J vs.length m₁ nx → Fr h₀ env.locals h m₁ → News h₀ env.locals h (keepers ++ nx) → Q .next { s with heap := h, toks := tk })
    (ht : ∀ it v, letOwnedTupleGo target it v = pure () := by intro _ _; rfl) :
    wpAny (model PR w) A (pyIter (.ref l)) (fun it s₂ => LoopGo PR w A target body env Q E it s₂) E s := by
  have hl := hL _ _ F (fun p hp => N p (List.mem_append_left _ hp))
  refine wpAny_pyIter_list hl ?_
  obtain ⟨ol, hol, _⟩ := id hl
  have hne : l ≠ s.heap.objs.size := Nat.ne_of_lt (Heap.lt_size hol)
  have W := Walks.list (prog := PR) (w := w) hh s.heap.objs.size l hne vs.toArray
  have hI0 : h₀.get? s.heap.objs.size = none := next_is_new F
  have hIL : s.heap.objs.size ≠ env.locals := Nat.ne_of_gt F.ns.lt
  have hlt : ∀ p ∈ keepers ++ news, p.1 < s.heap.objs.size := fun p hp => Heap.lt_size (N p hp).1
  have hsz : vs.toArray.size = vs.length := by simp
  obtain ⟨INV, hINV⟩ : ∃ INV : Nat → Shared → Prop, INV = (fun k s' => ∃ i m₁ nx h tk, s' = { s with heap := h, toks := tk } ∧ (h.IsListIter s.heap.objs.size l i ∧ h.IsList l vs.toArray) ∧ Fr h₀ env.locals h m₁ ∧ News h₀ env.locals h (keepers ++ nx) ∧ (∀ p ∈ nx, p.1 ≠ s.heap.objs.size) ∧ J i m₁ nx ∧ i ≤ vs.length ∧ k = vs.length + 1 - i) := ⟨_, rfl⟩
  refine codeAny_forLoop INV ?_ (vs.length + 1) (by rw [hINV]; exact ⟨0, m₀, news, _, s.toks, rfl, ⟨⟨_, Heap.get?_push_size _ rfl, rfl, rfl⟩, hl.push _⟩, F.push _, fun p hp => ⟨Heap.get?_push_of_some _ (N p hp).1, (N p hp).2⟩, fun p hp => Nat.ne_of_lt (hlt p (List.mem_append_right _ hp)), hJ, Nat.zero_le _, rfl⟩) (ht _)
  intro k s' hI0
  rw [hINV] at hI0
  obtain ⟨i, m₁, nx, h, tk, rfl, hit, F₁, N₁, hnx, hJ₁, hi, rfl⟩ := hI0
  by_cases hlt' : i < vs.length
  · refine W.item i _ _ _ (by rw [hsz]; exact hlt') hit fun v' h' tk' hv hst hk => ?_
    have hv' : vs[i]? = some v' := by rw [List.getElem?_toArray] at hv; exact hv
    obtain ⟨⟨oI, hoI, hoc, hod⟩, hl'⟩ := id hst
    have keep : ∀ b o, b ≠ s.heap.objs.size → h.get? b = some o → h'.get? b = some o := fun b o hb e => hk b o (fun q => hb (List.mem_singleton.mp q)) e
    have F₂ : Fr h₀ env.locals h' m₁ := ⟨F₁.ns.at' fun o e => keep _ o (Ne.symm hIL) e, fun b o e => keep b o (fun q => by rw [q, hI0] at e; cases e) (F₁.keep b o e), F₁.above⟩
    have hkI : ∀ p ∈ keepers, p.1 ≠ s.heap.objs.size := fun p hp => Nat.ne_of_lt (hlt p (List.mem_append_left _ hp))
    have N₂ : News h₀ env.locals h' ((s.heap.objs.size, oI) :: (keepers ++ nx)) := by
      intro p hp
      rcases List.mem_cons.mp hp with rfl | hp
      · exact ⟨hoI, hIL, hI0⟩
      · refine ⟨keep _ _ ?_ (N₁ p hp).1, (N₁ p hp).2⟩
        rcases List.mem_append.mp hp with q | q
        · exact hkI p q
        · exact hnx p q
    refine wpAny_mono (turn i v' m₁ nx h' tk' s.heap.objs.size oI _ hv' hlt hnx hJ₁ F₂ N₂) (fun _ s₂ h₂ => wpAny_mono h₂ (fun fl s₃ h₃ => ?_) fun _ _ e => e) fun _ _ e => e
    have fin : TurnEnd h₀ env.locals s.heap.objs.size ((s.heap.objs.size, oI) :: keepers) (J (i + 1)) s s₃ → ∃ m, m < vs.length + 1 - i ∧ INV m s₃ := by
      rintro ⟨h'', tk'', m', nx', rfl, F', N', hI', hJ'⟩
      have NK : News h₀ env.locals h'' (keepers ++ nx') := fun p hp => N' p (by
        rcases List.mem_append.mp hp with q | q
        · exact List.mem_append_left _ (.tail _ q)
        · exact List.mem_append_right _ q)
      refine ⟨vs.length + 1 - (i + 1), by omega, ?_⟩
      rw [hINV]
      exact ⟨i + 1, m', nx', h'', tk'', rfl, ⟨⟨oI, (N' _ (.head _)).1, hoc, hod⟩, hL _ _ F' fun p hp => NK p (List.mem_append_left _ hp)⟩, F', NK, hI', hJ', by omega, rfl⟩
    cases fl with
    | ret v => exact h₃
    | brk => exact h₃
    | next => exact fin h₃
    | cont => exact fin h₃
  · have hin : i = vs.length := by omega
    subst hin
    refine W.done _ _ _ (by rw [hsz]; exact hit) fun h' tk' hk => wpAny_execs_nil ?_
    have keep : ∀ b o, b ≠ s.heap.objs.size → h.get? b = some o → h'.get? b = some o := fun b o hb e => hk b o (fun q => hb (List.mem_singleton.mp q)) e
    refine done m₁ nx h' tk' hJ₁ ⟨F₁.ns.at' fun o e => keep _ o (Ne.symm hIL) e, fun b o e => keep b o (fun q => by rw [q, hI0] at e; cases e) (F₁.keep b o e), F₁.above⟩
      fun p hp => ⟨keep _ _ ?_ (N₁ p hp).1, (N₁ p hp).2⟩
    rcases List.mem_append.mp hp with q | q
    · exact Nat.ne_of_lt (hlt p (List.mem_append_left _ q))
    · exact hnx p q
end
section
variable {w : World} {mg mb : Str → Option Value} {s : Shared} {Q E : Value → Shared → Prop}
/-- a call of a def of the text with cells -/
theorem call_fnC {A : Around} {f : Addr} {args : List Value} {name qual : Str} {params : Arguments} {body : List Stmt} {scope : Scope} {dV kV doc pm cdv ct oc : Value} {an od : Option Addr} {osl : Array (Option Value)} {binds : List (Str × Value)}
    (G : Gd w mg mb s.heap)
    (ho : (hd.heap_39 w.params).lookup f = some ⟨oc, od, .func (fnOf name qual params body scope dV kV doc pm an cdv ct), osl⟩) (hcd : codeIn (hd.heap_39 w.params) cdv qual = true) (hroom : A.depth < recursionLimit)
    (hbind : bindArgs (fnOf name qual params body scope dV kV doc pm an cdv ct) ⟨args, []⟩ = pure binds)
    (hkind : (binds.all fun y => scope.names.lookup y.1 == some .local || scope.names.lookup y.1 == some .cell) = true)
    (hnd : ((cellsFrom 0 scope.names []).map (·.1)).Nodup)
    (h : ∀ h₁ tk cells E', Fr s.heap s.heap.objs.size h₁ (bindL (envOfC qual scope s.heap.objs.size f cdv).kindOf binds fun _ => none) → Kp s.heap h₁ → News s.heap s.heap.objs.size h₁ cells →
      CellsAre (bindC (envOfC qual scope s.heap.objs.size f cdv).kindOf binds fun _ => none) (cellsFrom (s.heap.objs.size + 1) scope.names []) cells →
      wpAny (model PR w) (A.deeper (envOfC qual scope s.heap.objs.size f cdv)) (execs body (envOfC qual scope s.heap.objs.size f cdv))
        (fun fl s' => Q (match fl with | .ret v => v | _ => .none) s') E' { s with heap := h₁, toks := tk })
    (hco : scope.isCoroutine = false := by rfl) (hgen : scope.isGenerator = false := by rfl) (hk : scope.kind = .function := by rfl) :
    wpAny (model PR w) A (call (.ref f) args []) Q E s := by
  refine wpAny_call (codeAny_call_cells (fd := fnOf name qual params body scope dV kV doc pm an cdv ct) (body := body) hroom (G.X _ _ ho) rfl G.T.nolimit (codeRec_of G.X hcd) rfl hbind rfl (kindsX hkind _) (fun s₁ X => ?_) hco hgen hk)
  obtain ⟨h₁, tk, rfl, _⟩ := X.done
  obtain ⟨cells, NC, Y⟩ := Cl.news (h₀ := s.heap) (Nat.le_refl _) fun n c hm => ⟨X.cell n c (lookup_of_mem_nodup (cellsFrom_names scope.names 0 (s.heap.objs.size + 1) [] [] rfl ▸ hnd) hm), X.above n c hm⟩
  exact h h₁ tk cells _ ⟨X.toInCall.ns, X.toInCall.keep, X.toInCall.fresh⟩ X.toInCall.keep NC Y
end
end Mine
end
section
open PySem PySem.W PySem.Spec PySem.Calls PyProof.Rows
set_option maxRecDepth 100000
set_option maxHeartbeats 4000000
namespace Mine
theorem dict_len_lookup : typeLookup (.type "dict") "__len__" = pure (some (.builtin "dict.__len__")) := by rw [typeLookup_type, builtinLookup_eq_fast]; kernel_rfl
theorem dict_len_split : splitId "dict.__len__" = some ("dict", "__len__") := by decide +kernel
theorem sub_dict_self : isSubtype (.type "dict") (.type "dict") = pure true := by rw [isSubtype_type]; kernel_rfl
section
variable {w : World} {A : Around} {s : Shared} {E : Value → Shared → Prop}
theorem extend_dict {R : Result → Shared → Prop} {D I d : Addr} {kvs : List (Int × Value)} {ep : Nat} (hh : A.handled = none) (hDI : D ≠ I) (hDd : D ≠ d) (hdI : d ≠ I) :
    ∀ (m i : Nat) (s : Shared) (ys : List Value) (n : Nat), kvs.length - i = m → i ≤ kvs.length → s.heap.get? D = some (seqObj "list" ys.toArray n) → ys.length + (kvs.length - i) ≤ sizeLine → s.heap.IsKeyIter I d i kvs.length ep → s.heap.DictAt (PySem.intKind PR w) d kvs ep →
      (∀ h' zs n', h'.get? D = some (seqObj "list" (ys ++ zs).toArray n') → IntsAre zs ((kvs.drop i).map (·.1)) → (∀ b o, b ≠ D → b ≠ I → s.heap.get? b = some o → h'.get? b = some o) → R (.ok (.ret (.ref D))) { s with heap := h' }) →
      codeAny (model PR w) A (.builtin "list.extend.loop" ⟨[.ref D, .ref I, .ref D], []⟩) R s := by
  intro m
  induction m with
  | zero =>
    intro i s ys n hm hi hD hz hit hd hR
    have hin : i = kvs.length := by omega
    subst hin
    refine codeAny_builtin PySem.F.entry_extend_loop ?_
    rw [Around.under_plainId PySem.F.plain_extend_loop _]
    show wpAny _ A.in1 (pyNext (.ref I) >>= _) _ _ s
    refine wpAny_bind (wpAny_pyNext_dict_end (knd := PySem.intKind PR w) (by show A.handled = none; exact hh) hit hd (by simp) fun h' hk => ?_)
    show wpAny _ A.in1 (ret (.ref D)) _ _ _
    refine wpAny_pure (hR h' [] n (by rw [List.append_nil]; exact hk D _ hDI hD) (by rw [List.drop_length]; exact .nil) fun b o _ q e => hk b o q e)
  | succ m ih =>
    intro i s ys n hm hi hD hz hit hd hR
    have hlt : i < kvs.length := by omega
    refine codeAny_builtin PySem.F.entry_extend_loop ?_
    rw [Around.under_plainId PySem.F.plain_extend_loop _]
    show wpAny _ A.in1 (pyNext (.ref I) >>= _) _ _ s
    refine wpAny_bind (wpAny_pyNext_dict_item (knd := PySem.intKind PR w) (k := kvs[i].1) (v := kvs[i].2) hit hd (by rw [List.getElem?_eq_getElem hlt]) fun key h1 hkey hit1 hs1 => ?_)
    obtain ⟨u, rfl⟩ := Value.isInt_shape (show Value.isInt kvs[i].1 key = true from hkey)
    have hD1 : h1.get? D = some (seqObj "list" ys.toArray n) := (hs1.2 D hDI).trans hD
    show wpAny _ A.in1 (Builtin.List.listUpdate (.ref D) (·.push (.int kvs[i].1 u)) >>= _) _ _ _
    refine wpAny_bind (listUpdate_at hD1 rfl ?_ (by rw [List.size_toArray]; omega) (by simp only [Array.size_push, List.size_toArray]; omega))
    have hD2 := get?_update_seq hD1 (·.push (.int kvs[i].1 u))
    have keep : ∀ b o, b ≠ D → h1.get? b = some o → (h1.update D (Obj.mapSeq (·.push (.int kvs[i].1 u)))).get? b = some o := fun b o q e => by rw [Heap.get?_update_ne _ _ _ _ q]; exact e
    have e2 : (ys.toArray.push (Value.int kvs[i].1 u)) = (ys ++ [Value.int kvs[i].1 u]).toArray := by simp
    rw [e2] at hD2
    have hit2 := hit1.extBut (h' := h1.update D (Obj.mapSeq (·.push (.int kvs[i].1 u)))) (b := D) (fun b o q e => keep b o q e) (Ne.symm hDI)
    have hd2 := (hd.extBut hs1.extBut hdI).extBut (h' := h1.update D (Obj.mapSeq (·.push (.int kvs[i].1 u)))) (b := D) (fun b o q e => keep b o q e) (Ne.symm hDd)
    refine wpAny_pure ⟨plainId_quiet PySem.F.plain_extend_loop _, ih (i + 1) _ (ys ++ [.int kvs[i].1 u]) _ (by omega) hlt hD2 (by rw [List.length_append, List.length_singleton]; omega) hit2 hd2 fun h' zs n' hD' hz' hk' => ?_⟩
    rw [List.append_assoc] at hD'
    refine hR h' (.int kvs[i].1 u :: zs) n' hD' ?_ fun b o q1 q2 e => hk' b o q1 q2 (keep b o q1 (hs1.extBut b o q2 e))
    rw [List.drop_eq_getElem_cons hlt, List.map_cons]
    exact .cons _ _ hz'
theorem collect_dict {d : Addr} {kvs : List (Int × Value)} {Q : List Value → Shared → Prop} (hh : A.handled = none) (lo : (d == sysModules) = false) (hm : s.heap.DictOf (PySem.intKind PR w) d kvs) (hz : kvs.length ≤ 64)
    (h : ∀ vs h', IntsAre vs (kvs.map (·.1)) → Kp s.heap h' → Q vs { s with heap := h' }) :
    wpAny (model PR w) A (collect (.ref d)) Q E s := by
  obtain ⟨ep, hd⟩ := hm.dictAt
  unfold collect
  refine wpAny_bind (wpAny_runValue (codeAny_builtin PySem.F.entry_proto_collect ?_))
  rw [Around.under_plainId PySem.F.plain_proto_collect _]
  show wpAny _ A.in1 (newList [] >>= fun l => again (.builtin "list.__iadd__" ⟨[l, .ref d], []⟩)) _ _ s
  refine wpAny_bind (wpAny_newObj_type ?_ (by size_fits))
  refine wpAny_pure ⟨plainId_quiet PySem.F.plain_list_iadd _, codeAny_builtin PySem.F.entry_list_iadd ?_⟩
  rw [Around.under_plainId PySem.F.plain_list_iadd _]
  have hd1 := hd.push (seqObj "list" #[] 0)
  have hD : (s.heap.push (seqObj "list" #[] 0)).get? s.heap.objs.size = some (seqObj "list" #[] 0) := Heap.get?_push_size _ rfl
  have hDd : s.heap.objs.size ≠ d := Nat.ne_of_gt hd.lt_size
  have hT : Shared.TypeIs { s with heap := s.heap.push (seqObj "list" #[] 0) } (.ref d) "dict" := hd1.dictOf.typeIs
  show wpAny _ A.in1 (Builtin.List.listExtendWith (.ref s.heap.objs.size) (.ref d) (.ref s.heap.objs.size)) _ _ { s with heap := s.heap.push (seqObj "list" #[] 0) }
  unfold Builtin.List.listExtendWith
  refine wpAny_bind (wpAny_typeOf hT ?_)
  have h1 : Builtin.List.listSameRef (.ref s.heap.objs.size) (.ref d) = false := by simp [Builtin.List.listSameRef, hDd]
  rw [if_neg (by rw [h1]; decide)]
  refine wpAny_bind (wpAny_pyIter_dict (knd := PySem.intKind PR w) lo hd1 ?_)
  have hd2 := hd1.push { cls := .type "dict_keyiterator", data := .fields #[.ref d, .int 0 0, .int kvs.length 0, .int ep 0] }
  have hT1 : Shared.TypeIs { s with heap := (s.heap.push (seqObj "list" #[] 0)).push { cls := .type "dict_keyiterator", data := .fields #[.ref d, .int 0 0, .int kvs.length 0, .int ep 0] } } (.ref d) "dict" := hd2.dictOf.typeIs
  refine wpAny_bind (wpAny_holding ?_)
  unfold Builtin.List.listLengthHint
  refine wpAny_bind (wpAny_specialOf hT1 dict_len_lookup ?_)
  dsimp only
  rw [dict_len_split]
  refine wpAny_bind (wpAny_isInstance (b := true) hT1 sub_dict_self ?_)
  refine wpAny_bind (wpAny_typeOf hT1 ?_)
  refine wpAny_pure ?_
  show wpAny _ A.in1 (rule "list.extend.makes-room" >>= fun _ => Builtin.List.listTouch (.ref s.heap.objs.size) >>= fun _ => again (.builtin "list.extend.loop" ⟨[.ref s.heap.objs.size, .ref (s.heap.push (seqObj "list" #[] 0)).objs.size, .ref s.heap.objs.size], []⟩)) _ _ _
  refine wpAny_bind (wpAny_rule ?_)
  generalize hIe : (s.heap.push (seqObj "list" #[] 0)).objs.size = I at *
  have hDI : s.heap.objs.size ≠ I := by rw [← hIe, Heap.size_push]; exact Nat.ne_of_lt (Nat.lt_succ_self _)
  have hdI : d ≠ I := by rw [← hIe]; exact Nat.ne_of_lt hd1.lt_size
  generalize hH : (s.heap.push (seqObj "list" #[] 0)).push { cls := .type "dict_keyiterator", data := .fields #[.ref d, .int 0 0, .int kvs.length 0, .int ep 0] } = H at *
  have hD1 : H.get? s.heap.objs.size = some (seqObj "list" #[] 0) := by rw [← hH]; exact Heap.get?_push_of_some _ hD
  have hit1 : H.IsKeyIter I d 0 kvs.length ep := by rw [← hH, ← hIe]; exact ⟨_, Heap.get?_push_size _ rfl, rfl, rfl⟩
  unfold Builtin.List.listTouch
  refine wpAny_bind (wpAny_bind (listUpdate_at hD1 rfl ?_ (by size_fits) (by seq_fits)))
  have hD2 := get?_update_seq hD1 (·.push .none)
  refine listUpdate_at hD2 rfl ?_ (by show (1 : Nat) ≤ sizeLine; rw [sizeLine_eq]; decide) (by show (0 : Nat) ≤ sizeLine + 1; exact Nat.zero_le _)
  have hD3 := get?_update_seq hD2 (·.pop)
  have kp3 : ∀ b o, b ≠ s.heap.objs.size → H.get? b = some o → ((H.update s.heap.objs.size (Obj.mapSeq (·.push .none))).update s.heap.objs.size (Obj.mapSeq (·.pop))).get? b = some o := fun b o hb e => by
    rw [Heap.get?_update_ne _ _ _ _ hb, Heap.get?_update_ne _ _ _ _ hb]; exact e
  have hit3 := hit1.extBut (h' := (H.update s.heap.objs.size (Obj.mapSeq (·.push .none))).update s.heap.objs.size (Obj.mapSeq (·.pop))) (b := s.heap.objs.size) kp3 (Ne.symm hDI)
  have hd3 := hd2.extBut (h' := (H.update s.heap.objs.size (Obj.mapSeq (·.push .none))).update s.heap.objs.size (Obj.mapSeq (·.pop))) (b := s.heap.objs.size) kp3 (Ne.symm hDd)
  refine wpAny_pure ⟨plainId_quiet PySem.F.plain_extend_loop _, extend_dict (by show A.handled = none; exact hh) hDI hDd hdI (kvs.length - 0) 0 _ [] _ (by omega) (Nat.zero_le _) hD3 (by rw [List.length_nil, sizeLine_eq]; omega) hit3 hd3 fun h' zs n' hD' hz' hk' => ?_⟩
  rw [List.nil_append] at hD'
  show wpAny (model PR w) A (do
      let o ← load s.heap.objs.size
      match o.data with
      | .seq xs _ => pure xs.toList
      | _ => unsupported "internal:collect") Q E _
  refine wpAny_bind (wpAny_load hD' ?_)
  show wpAny _ _ (pure zs.toArray.toList) Q E _
  refine wpAny_pure (h _ h' (by simpa using hz') fun b o e => ?_)
  have hb : b ≠ s.heap.objs.size := Nat.ne_of_lt (Heap.lt_size e)
  have hbI : b ≠ I := by rw [← hIe, Heap.size_push]; exact Nat.ne_of_lt (Nat.lt_succ_of_lt (Heap.lt_size e))
  exact hk' b o hb hbI (kp3 b o hb (by rw [← hH]; exact Heap.get?_push_of_some _ (Heap.get?_push_of_some _ e)))
theorem sorted_dict {d : Addr} {kvs : List (Int × Value)} {Q : Value → Shared → Prop} (hh : A.handled = none) (lo : (d == sysModules) = false) (hm : s.heap.DictOf (PySem.intKind PR w) d kvs) (hz : kvs.length < 64)
    (h : ∀ D h' tk vs ks' n, Kp s.heap h' → s.heap.get? D = none → h'.get? D = some (W.listOf vs.toArray n) → IntsAre vs ks' → ks'.Perm (kvs.map (·.1)) → ks'.Pairwise (· ≤ ·) → Q (.ref D) { s with heap := h', toks := tk }) :
    wpAny (model PR w) A (call (.builtin "sorted") [.ref d]) Q E s := by
  have hd : ∃ dr, s.drawn = dr := ⟨_, rfl⟩
  refine Calls.call_function_entry kind_sorted plain_sorted entry_sorted (args_sorted1 _) ?_
  unfold Builtin.«sorted»
  refine wpAny_bind (m := checkCount "sorted" 1 1 _) (wpAny_pure ?_)
  refine wpAny_bind (collect_dict (by show A.handled = none; exact hh) lo hm (Nat.le_of_lt hz) fun vs h1 hi hk => ?_)
  have hvl : vs.length = kvs.length := by rw [hi.length, List.length_map]
  refine wpAny_bind (wpAny_newObj_type ?_ (by show (List.toArray _).size ≤ sizeLine; rw [List.size_toArray, hvl, sizeLine_eq]; omega))
  have hoL : (h1.push (seqObj "list" vs.toArray 0)).get? h1.objs.size = some (seqObj "list" vs.toArray 0) := Heap.get?_push_size _ rfl
  refine wpAny_bind (wpAny_holding (wpAny_call_entry slot_list_sort ⟨_, hoL, rfl⟩ entry_list_sort (list_sort_tree hoL hi (by rw [hvl]; exact hz) fun out ns' a1 a2 a3 => ⟨_, rfl, ?_⟩) (args_list_sort _)))
  obtain ⟨n, hn⟩ := sortedHeap_at (out := out) hoL
  have hfresh : s.heap.get? h1.objs.size = none := by
    cases q : s.heap.get? h1.objs.size with
    | none => rfl
    | some o => exact absurd (Heap.lt_size (hk _ _ q)) (Nat.lt_irrefl _)
  have := h h1.objs.size (sortedHeap (h1.push (seqObj "list" vs.toArray 0)) h1.objs.size vs out) s.toks out.toList ns' n
    (fun b o e => sortedHeap_kp b o (Nat.ne_of_lt (Heap.lt_size (hk _ _ e))) (Heap.get?_push_of_some _ (hk _ _ e))) hfresh (by simpa using hn) a1 a2 a3
  exact wpAny_pure ⟨_, rfl, this⟩
end
end Mine
end
section
open PySem PySem.W PySem.Spec PySem.Calls PyProof.Rows
set_option maxRecDepth 100000
set_option maxHeartbeats 1000000
namespace Mine
section
variable {w : World} {A : Around} {s : Shared} {Q E : Value → Shared → Prop} {d : Addr} {kvs : List (Int × Value)} {k : Int} {u : Tok} {v dflt : Value}
theorem dget_dflt (hm : s.heap.DictOf (PySem.intKind PR w) d kvs) (lo : (d == sysModules) = false) (h : Q ((valueAt kvs k).getD dflt) { s with toks := s.toks + 1 }) :
    wpAny (model PR w) A (call (.builtin "dict.get") [.ref d, .int k u, dflt]) Q E s :=
  call_meetsIn PySem.F.slot_dict_get hm.typeIs PySem.F.entry_dict_get (PySem.F.args_dict_get_3 _ _ _) (meets_dict_get_default (PySem.intKind PR w) d (intKind_is _ _ _ _) lo dflt) ⟨_, hm.mapOf, h⟩
theorem ditem {value slice : PySem.Expr} (hm : s.heap.DictOf (PySem.intKind PR w) d kvs) (hx : valueAt kvs k = some v) (h : Q v { s with toks := s.toks + 1 })
    (hs : subscripted slice false (.ref d) (.int k u) = operate [.ref d, .int k u] (getItem (.ref d) (.int k u)) := by with_unfolding_all rfl) :
    wpAny (model PR w) A (subscriptTail value slice (.ref d) (.int k u)) Q E s :=
  tail_any hm.typeIs (hl := slot_dict_getitem.lookup) (wpAny_getItem_of (intKind_is _ _ _ _) hm.mapOf hx h) hs
end
theorem valueAt_map_ne (k k' : Int) (v : Value) (e : k' ≠ k) : ∀ kvs : List (Int × Value), valueAt (kvs.map fun kv => if kv.1 = k then (kv.1, v) else kv) k' = valueAt kvs k'
  | [] => rfl
  | a :: r => by
    have ih := valueAt_map_ne k k' v e r
    unfold valueAt at ih ⊢
    rw [List.map_cons, List.find?_cons, List.find?_cons]
    have e1 : (if a.1 = k then (a.1, v) else a).1 = a.1 := by split <;> rfl
    rw [e1]
    by_cases h : a.1 = k'
    · have : a.1 ≠ k := fun q => e (h ▸ q)
      simp [h, e]
    · simp only [decide_eq_false h]; exact ih
theorem valueAt_map_eq (k : Int) (v : Value) : ∀ kvs : List (Int × Value), kvs.any (fun kv => decide (kv.1 = k)) = true → valueAt (kvs.map fun kv => if kv.1 = k then (kv.1, v) else kv) k = some v
  | [], h => by simp at h
  | a :: r, h => by
    unfold valueAt
    rw [List.map_cons, List.find?_cons]
    have e1 : (if a.1 = k then (a.1, v) else a).1 = a.1 := by split <;> rfl
    rw [e1]
    by_cases e : a.1 = k
    · simp [e]
    · simp only [decide_eq_false e]
      exact valueAt_map_eq k v r (by simpa [e] using h)
theorem valueAt_stored (kvs : List (Int × Value)) (k k' : Int) (v : Value) : valueAt (stored kvs k v) k' = if k' = k then some v else valueAt kvs k' := by
  unfold stored
  by_cases h : kvs.any (fun kv => decide (kv.1 = k)) = true
  · rw [if_pos h]
    by_cases e : k' = k
    · subst e; rw [if_pos rfl]; exact valueAt_map_eq _ _ _ h
    · rw [if_neg e]; exact valueAt_map_ne _ _ _ e _
  · rw [if_neg h]
    unfold valueAt
    rw [List.find?_append, List.find?_singleton]
    by_cases e : k' = k
    · subst e
      have : kvs.find? (fun kv => decide (kv.1 = k')) = none := by
        rw [List.find?_eq_none]
        intro x hx q
        exact h (List.any_eq_true.mpr ⟨x, hx, q⟩)
      rw [this]; simp
    · rw [if_neg e]; simp [Ne.symm e]
def advOf (rs : List RowV) (k : Int) : Int := ((rs.filter fun r => decide (r.c = k)).map (·.a)).sum
/-- the dict of the advances -/
structure AdvIs (kvs : List (Int × Value)) (rs : List RowV) : Prop where
  len : kvs.length ≤ rs.length
  has : ∀ k, k ∈ rs.map (·.c) → ∃ t, valueAt kvs k = some (.int (advOf rs k) t)
  no : ∀ k, k ∉ rs.map (·.c) → valueAt kvs k = none
theorem advIs_nil : AdvIs [] [] := ⟨Nat.le_refl _, fun k h => (by simp at h), fun _ _ => rfl⟩
theorem advOf_snoc (rs : List RowV) (r : RowV) (k : Int) : advOf (rs ++ [r]) k = advOf rs k + (if r.c = k then r.a else 0) := by
  unfold advOf
  rw [List.filter_append, List.map_append, List.sum_append]
  by_cases h : r.c = k
  · simp [h]
  · simp [h]
theorem advOf_none {rs : List RowV} {k : Int} (h : k ∉ rs.map (·.c)) : advOf rs k = 0 := by
  unfold advOf
  rw [List.filter_eq_nil_iff.mpr]
  · rfl
  · intro r hr q
    exact h (List.mem_map.mpr ⟨r, hr, by simpa using q⟩)
theorem AdvIs.step {kvs : List (Int × Value)} {rs : List RowV} {r : RowV} {t : Tok} (A : AdvIs kvs rs) : AdvIs (stored kvs r.c (.int (advOf rs r.c + r.a) t)) (rs ++ [r]) := by
  refine ⟨?_, fun k hk => ?_, fun k hk => ?_⟩
  · have := stored_length_le kvs r.c (.int (advOf rs r.c + r.a) t)
    have := A.len
    rw [List.length_append, List.length_singleton]; omega
  · rw [valueAt_stored, advOf_snoc]
    by_cases e : r.c = k
    · subst e
      exact ⟨t, by simp⟩
    · have hk' : k ∈ rs.map (·.c) := by
        rw [List.map_append] at hk
        rcases List.mem_append.mp hk with q | q
        · exact q
        · simp at q; exact absurd q.symm e
      obtain ⟨u, hu⟩ := A.has k hk'
      exact ⟨u, by simp [e, hu, Ne.symm e]⟩
  · rw [valueAt_stored]
    rw [List.map_append, List.mem_append, not_or] at hk
    have e : r.c ≠ k := fun q => hk.2 (by simp [q])
    simp [e, Ne.symm e, A.no k hk.1]
/-- what d.get(k, 0) gives -/
theorem AdvIs.dflt {kvs : List (Int × Value)} {rs : List RowV} (A : AdvIs kvs rs) (k : Int) (t0 : Tok) : ∃ t, (valueAt kvs k).getD (.int 0 t0) = .int (advOf rs k) t := by
  by_cases h : k ∈ rs.map (·.c)
  · obtain ⟨t, e⟩ := A.has k h; exact ⟨t, by rw [e]; rfl⟩
  · exact ⟨t0, by rw [A.no k h, advOf_none h]; rfl⟩
def pieceN (begun wide : Int) (sp : Int × Int) (n : Nat) : List Int := (List.range n).map fun (j : Nat) => begun + Int.fdiv (wide * (j : Int)) (sp.2 - sp.1)
def piece (begun wide : Int) (sp : Int × Int) : List Int := pieceN begun wide sp (sp.2 - sp.1).toNat
theorem pieceN_succ (begun wide : Int) (sp : Int × Int) (n : Nat) : pieceN begun wide sp (n + 1) = pieceN begun wide sp n ++ [begun + Int.fdiv (wide * (n : Int)) (sp.2 - sp.1)] := by
  unfold pieceN; rw [List.range_succ, List.map_append]; rfl
theorem pieceN_length (begun wide : Int) (sp : Int × Int) (n : Nat) : (pieceN begun wide sp n).length = n := by simp [pieceN]
def caretStep (rs : List RowV) (st : List Int × Int) (sp : Int × Int) : List Int × Int := (st.1 ++ piece st.2 (advOf rs sp.1) sp, st.2 + advOf rs sp.1)
def caretFold (rs : List RowV) (sps : List (Int × Int)) : List Int × Int := sps.foldl (caretStep rs) ([], 0)
theorem caretFold_snoc (rs : List RowV) (sps : List (Int × Int)) (sp : Int × Int) : caretFold rs (sps ++ [sp]) = caretStep rs (caretFold rs sps) sp := by
  unfold caretFold; rw [List.foldl_append]; rfl
theorem caretFold_len (rs : List RowV) : ∀ (sps : List (Int × Int)) (a : List Int × Int), (∀ sp ∈ sps, (sp.2 - sp.1).toNat ≤ 200) → (sps.foldl (caretStep rs) a).1.length ≤ a.1.length + 200 * sps.length
  | [], _, _ => by simp
  | sp :: r, a, h => by
    have h1 := h sp (.head _)
    have h2 := caretFold_len rs r (caretStep rs a sp) fun x hx => h x (.tail _ hx)
    have h3 : (caretStep rs a sp).1.length = a.1.length + (sp.2 - sp.1).toNat := by
      show (a.1 ++ piece _ _ _).length = _
      rw [List.length_append]; unfold piece; rw [pieceN_length]
    rw [List.foldl_cons, List.length_cons]
    omega
theorem advOf_bound {rs : List RowV} (hb : ∀ r ∈ rs, 0 ≤ r.a ∧ r.a ≤ 600) (hn : rs.length ≤ 8) (k : Int) : 0 ≤ advOf rs k ∧ advOf rs k ≤ 4800 := by
  unfold advOf
  have h := sum_bound ((rs.filter fun r => decide (r.c = k)).map (·.a)) fun x hx => by
    obtain ⟨r, hr, e⟩ := List.mem_map.mp hx
    subst e
    exact hb r (List.mem_filter.mp hr).1
  have h2 := List.length_filter_le (fun r => decide (r.c = k)) rs
  rw [List.length_map] at h
  omega
theorem Firsts.nd {st : List Int} {rs : List RowV} (F : Firsts st rs) : st.Nodup := F.up.imp fun h => Int.ne_of_lt h
theorem Firsts.len_le {st : List Int} {rs : List RowV} (F : Firsts st rs) : st.length ≤ rs.length := by
  have := List.Nodup.length_le_of_subset F.nd (fun k hk => (F.mem k).mp hk)
  rwa [List.length_map] at this
theorem spans_in {st : List Int} {rs : List RowV} {len : Int} (F : Firsts st rs) (hc : ∀ r ∈ rs, 0 ≤ r.c ∧ r.c < len) {i : Nat} {sp : Int × Int} (h : (spansOf st len)[i]? = some sp) :
    st[i]? = some sp.1 ∧ 0 ≤ sp.1 ∧ sp.1 < sp.2 ∧ sp.2 ≤ len ∧ sp.1 ∈ rs.map (·.c) := by
  have hi : i < st.length := by
    have := (List.getElem?_eq_some_iff.mp h).1
    rwa [spansOf_length] at this
  unfold spansOf at h
  rw [List.getElem?_map, List.getElem?_range hi] at h
  simp only [Option.map_some, Option.some.injEq] at h
  subst h
  have e0 : st.getD i 0 = st[i] := by rw [List.getD_eq_getElem?_getD, List.getElem?_eq_getElem hi]; rfl
  have m0 := (F.mem st[i]).mp (List.getElem_mem hi)
  obtain ⟨r, hr, er⟩ := List.mem_map.mp m0
  have b0 := hc r hr
  rw [e0]
  refine ⟨List.getElem?_eq_getElem hi, ?_, ?_, ?_, m0⟩
  · show 0 ≤ st[i]; rw [← er]; exact b0.1
  · show st[i] < st.getD (i + 1) len
    by_cases h1 : i + 1 < st.length
    · rw [List.getD_eq_getElem?_getD, List.getElem?_eq_getElem h1]
      exact List.pairwise_iff_getElem.mp F.up i (i + 1) hi h1 (by omega)
    · rw [List.getD_eq_getElem?_getD, List.getElem?_eq_none (by omega)]
      show st[i] < len; rw [← er]; exact b0.2
  · show st.getD (i + 1) len ≤ len
    by_cases h1 : i + 1 < st.length
    · rw [List.getD_eq_getElem?_getD, List.getElem?_eq_getElem h1]
      obtain ⟨r', hr', er'⟩ := List.mem_map.mp ((F.mem st[i + 1]).mp (List.getElem_mem h1))
      have := hc r' hr'
      show st[i + 1] ≤ len
      rw [← er']; omega
    · rw [List.getD_eq_getElem?_getD, List.getElem?_eq_none (by omega)]
      exact Int.le_refl _
theorem caretFold_bound {rs : List RowV} (hb : ∀ r ∈ rs, 0 ≤ r.a ∧ r.a ≤ 600) (hn : rs.length ≤ 8) : ∀ (sps : List (Int × Int)) (a : List Int × Int), 0 ≤ a.2 → 0 ≤ (sps.foldl (caretStep rs) a).2 ∧ (sps.foldl (caretStep rs) a).2 ≤ a.2 + 4800 * sps.length
  | [], a, h => by simp [h]
  | sp :: r, a, h => by
    have h1 := advOf_bound hb hn sp.1
    have h2 := caretFold_bound hb hn r (caretStep rs a sp) (by show 0 ≤ a.2 + advOf rs sp.1; omega)
    have h3 : (caretStep rs a sp).2 = a.2 + advOf rs sp.1 := rfl
    rw [List.foldl_cons, List.length_cons]
    omega
def caretsOf (b : Bool) (rs : List RowV) (st : List Int) (len : Int) : List Int :=
  let r := caretFold rs (spansOf st len)
  let ps := r.1 ++ [r.2]
  if b then ps.map fun p => r.2 - p else ps
end Mine
end
section
open PySem PySem.W PySem.Spec PySem.Calls PyProof.Rows
set_option maxRecDepth 100000
set_option maxHeartbeats 1000000
namespace Mine
section
variable {w : World} {A : Around} {s : Shared} {E : Value → Shared → Prop} {h₀ : Heap} {L l c : Addr} {m : Str → Option Value} {pre post : List (Addr × Obj)} {x : Value}
theorem append_N {items : Array Value} {n : Nat} {Q : Value → Shared → Prop}
    (F : Fr h₀ L s.heap m) (N : News h₀ L s.heap (pre ++ (l, W.listOf items n) :: post)) (h1 : ∀ p ∈ pre, p.1 ≠ l) (h2 : ∀ p ∈ post, p.1 ≠ l) (hz : items.size ≤ sizeLine)
    (h : ∀ h' n', Fr h₀ L h' m → News h₀ L h' (pre ++ (l, W.listOf (items.push x) n') :: post) → Q .none { s with heap := h' }) :
    wpAny (model PR w) A (call (.builtin "list.append") [.ref l, x]) Q E s := by
  have hm := N (l, W.listOf items n) (List.mem_append_right _ (.head _))
  have hI : s.heap.IsList l items := ⟨_, hm.1, rfl, n, rfl⟩
  refine wpAny_call_entry slot_list_append hI.typeIs entry_list_append ?_ (args_list_append _ _)
  show wpAny _ _ (updateSeq l (·.push x) >>= fun _ => ret .none) _ _ s
  refine wpAny_bind ?_
  have hs : Heap.SameBut l s.heap (s.heap.update l (Obj.mapSeq (·.push x))) := Heap.SameBut.update ..
  refine wpAny_updateSeq (hz := hz) hm.1 rfl (wpAny_pure ⟨.none, rfl, h _ _ ⟨F.ns.sameBut hs (Ne.symm hm.2.1), fun b ob e => (hs.2 b (fun q => ?_)).trans (F.keep b ob e), F.above⟩
    (N.setAt h1 h2 hs (Heap.get?_update_self _ hm.1 (Obj.isFreed_of_seq (n := if (items.push x).size == items.size then n else n + 1) (xs := items.push x) rfl)))⟩)
  rw [q, hm.2.2] at e; cases e
theorem store_cell_N {cn : Str} {cs : Scope} {a : Addr} {ccd : Value} {cl : List (Str × Addr)} {y : Str} {o : Obj} {v₀ : Option Value} {Q : Unit → Shared → Prop}
    (F : Fr h₀ L s.heap m) (N : News h₀ L s.heap (pre ++ (c, o) :: post)) (hc : cl.lookup y = some c) (h1 : ∀ p ∈ pre, p.1 ≠ c) (h2 : ∀ p ∈ post, p.1 ≠ c) (hd : o.data = .cell v₀)
    (h : ∀ h' o', Fr h₀ L h' m → News h₀ L h' (pre ++ (c, o') :: post) → o'.data = .cell (some x) → Q () { s with heap := h' })
    (hk : cs.kind = .function := by rfl) (hx : (envX cn cs L a ccd cl).kindOf y = some .cell := by rfl) : wpAny (model PR w) A (storeName (envX cn cs L a ccd cl) y x) Q E s := by
  have hmem := N (c, o) (List.mem_append_right _ (.head _))
  refine wpAny_storeName_cell hk hx hc ⟨o, hmem.1, hd⟩ fun h' hv hs => ?_
  obtain ⟨o', ho', hd'⟩ := hv
  refine h h' o' ⟨F.ns.sameBut hs (Ne.symm hmem.2.1), fun b ob e => (hs.2 b (fun q => ?_)).trans (F.keep b ob e), F.above⟩ (N.setAt h1 h2 hs ho') hd'
  rw [q, hmem.2.2] at e; cases e
theorem set_at_N {items : Array Value} {n : Nat} {k : Int} {u : Tok} {Q : Unit → Shared → Prop}
    (F : Fr h₀ L s.heap m) (N : News h₀ L s.heap (pre ++ (l, W.listOf items n) :: post)) (h1 : ∀ p ∈ pre, p.1 ≠ l) (h2 : ∀ p ∈ post, p.1 ≠ l) (h0 : 0 ≤ k) (hk : k < items.size) (hz : items.size ≤ sizeLine)
    (h : ∀ h', Fr h₀ L h' m → News h₀ L h' (pre ++ (l, W.listOf (items.setIfInBounds k.toNat x) n) :: post) → Q () { s with heap := h' }) :
    wpAny (model PR w) A (setItem (.ref l) (.int k u) x) Q E s := by
  have z := N (l, W.listOf items n) (List.mem_append_right _ (.head _))
  have hz' : sizeLine < 2 ^ 62 := by rw [sizeLine_eq]; decide
  exact ki_setAt z.1 h0 (by omega) (by omega) (h _ (F.change (Heap.SameBut.update ..) z.2.1 z.2.2) (ki_turn _ N h1 h2 rfl (by simp)))
theorem meth_append {items : Array Value} {n : Nat} {pl : Sem Bool} {Q : Value × List Value → Shared → Prop} (e : s.heap.get? l = some (W.listOf items n))
    (h : Q (.builtin "list.append", [.ref l]) s) : wpAny (model PR w) A (getMethod (.ref l) "append" pl) Q E s := getMethod_list_append e rfl rfl h
theorem unpack_N {env : Env} {elts : List PySem.Expr} {x1} {pos : Pos} {t : Addr} {items : Array Value} {Q : Unit → Shared → Prop} (hh : A.handled = none) (ht : IsTup s.heap t items)
    (h : ∀ h', Kp s.heap h' → wpAny (model PR w) A (assignInOrder ((assignEach elts env).map (·.2)) items.toList) Q E { s with heap := h' })
    (hn : (assignEach elts env).length = items.size := by rfl) (hstar : (assignEach elts env).findIdx? (·.1) = none := by rfl) :
    wpAny (model PR w) A (assign (.Tuple elts x1 pos) env (.ref t)) Q E s :=
  wpAny_assign_Tuple hh (by obtain ⟨o, ho, hc, n, hd⟩ := ht; exact ⟨o, ho, hc, n, hd⟩) hn hstar fun h' hx => h h' fun b o e => hx b o (Nat.ne_of_lt (Heap.lt_size e)) e
end
section
variable {w : World} {A : Around} {s : Shared} {Q E : Value → Shared → Prop} {l : Addr}
theorem sub_neg1 {vs : List Value} {value slice : PySem.Expr} {u : Tok} {v : Value} (hL : s.heap.IsList l (vs ++ [v]).toArray) (h : Q v s)
    (hs : subscripted slice false (.ref l) (.int (-1) u) = operate [.ref l, .int (-1) u] (getItem (.ref l) (.int (-1) u)) := by with_unfolding_all rfl) :
    wpAny (model PR w) A (subscriptTail value slice (.ref l) (.int (-1) u)) Q E s := by
  have hsz : ((vs ++ [v]).toArray.size : Int) = vs.length + 1 := by rw [List.size_toArray, List.length_append, List.length_singleton]; rfl
  refine tail_any hL.typeIs (hl := slot_list_getitem.lookup) (wpAny_getItem_list_neg hL (by omega) (by omega) (by omega) ?_ h) hs
  have e : ((-1 : Int) + ((vs ++ [v]).toArray.size : Int)).toNat = vs.length := by omega
  rw [e]; simp
end
section
variable {w : World} {mg mb : Str → Option Value} {A : Around} {s : Shared} {Q E : Value → Shared → Prop} {scope : Scope} {cl : List (Str × Addr)} {C : Addr} {env : Env}
theorem cb_built {x : Str} {pos : Pos} {v : Value} (G : Gd w mg mb s.heap) (e : nsIn (hd.heap_39 w.params) mainGlobals x = some none) (hv : bootBuiltins x = some v) (hn : x ≠ "__name__") (h : Q v s) (hg : env.globals = mainGlobals := by rfl) (hb : env.builtins = builtinsNs := by rfl)
    (hk : (compEnvC scope cl C env).scope.kind = .function := by rfl) (hx : (compEnvC scope cl C env).kindOf x = some .globalImplicit := by rfl) (hd : (x == ("__debug__" : Str)) = false := by decide) :
    wpAny (model PR w) A (eval (.Name x pos) (compEnvC scope cl C env)) Q E s :=
  Name_function_global hk hx (loadGlobal_builtin (env := compEnvC scope cl C env) (show s.heap.Ns env.globals mg from hg ▸ G.T.g) (mg_none_of G.X G.T.g e) (show s.heap.Ns env.builtins mb from hb ▸ G.T.b) ((G.T.builtins x hn).trans hv) h) hd
theorem cb_local {x : Str} {pos : Pos} {m : Str → Option Value} {v : Value} (hn : s.heap.Ns C m) (hm : m x = some v) (h : Q v s) (hk : (compEnvC scope cl C env).scope.kind = .function := by rfl) (hl : (compEnvC scope cl C env).kindOf x = some .local := by rfl) (hd : (x == ("__debug__" : Str)) = false := by decide) :
    wpAny (model PR w) A (eval (.Name x pos) (compEnvC scope cl C env)) Q E s := nm_local hn hm h hk hl hd
theorem cb_cell {x : Str} {pos : Pos} {c : Addr} {v : Value} (hc : cl.lookup x = some c) (hv : s.heap.IsCell c (some v)) (h : Q v s) (hk : (compEnvC scope cl C env).scope.kind = .function := by rfl) (hl : (compEnvC scope cl C env).kindOf x = some .cell := by rfl) (hd : (x == ("__debug__" : Str)) = false := by decide) :
    wpAny (model PR w) A (eval (.Name x pos) (compEnvC scope cl C env)) Q E s := nm_cell (env := compEnvC scope cl C env) hc hv h hk hl hd
end
theorem prm1 {α : Type} {L P C : α} {K : List α} : ∀ p ∈ (L :: K) ++ [P, C], p ∈ L :: (P :: K ++ [C]) := by
  intro p hp; simp only [List.mem_cons, List.mem_append, List.not_mem_nil, or_false] at hp ⊢; grind
theorem prm2 {α : Type} {L P C I : α} {K : List α} : ∀ p ∈ P :: C :: I :: L :: K, p ∈ I :: ((L :: K) ++ [P, C]) := by
  intro p hp; simp only [List.mem_cons, List.mem_append, List.not_mem_nil, or_false] at hp ⊢; grind
theorem prm3 {α : Type} {L P C I : α} {K : List α} : ∀ p ∈ (I :: L :: K) ++ [P, C], p ∈ [P] ++ C :: I :: L :: K := by
  intro p hp; simp only [List.mem_cons, List.mem_append, List.not_mem_nil, or_false] at hp ⊢; grind
theorem prm4 {α : Type} {L I G : α} {K : List α} : ∀ p ∈ I :: G :: L :: K, p ∈ [L, I] ++ G :: K := by
  intro p hp; simp only [List.mem_cons, List.mem_append, List.not_mem_nil, or_false] at hp ⊢; grind
theorem news_sub {h₀ h : Heap} {L : Addr} {a b : List (Addr × Obj)} (N : News h₀ L h a) (k : ∀ p ∈ b, p ∈ a) : News h₀ L h b := fun p hp => N p (k p hp)
end Mine
end
section
open PySem PySem.W PySem.Spec PySem.Calls PyProof.Rows
set_option maxRecDepth 100000
set_option maxHeartbeats 4000000
namespace Mine
theorem entry_dict_upl : entryFor table "dict.update.loop" = some Builtin.«dict.update.loop» := entryFor_of_tree (by kernel_rfl)
theorem plain_dict_upl : plainId "dict.update.loop" = true := by decide +kernel
theorem list_no_keys : typeLookup (.type "list") (Str.ofString "keys") = pure none := am_miss_of_fast (by decide +kernel)
def PairAt (h : Heap) (v : Value) (kv : Int × Value) : Prop := ∃ t u, v = .ref t ∧ IsTup h t #[.int kv.1 u, kv.2]
theorem PairAt.at' {h h' : Heap} {d I : Addr} {od oI : Obj} {v : Value} {kv : Int × Value} (x : PairAt h v kv) (hd : h.get? d = some od) (hdc : od.cls = .type "dict") (hI : h.get? I = some oI) (hIc : oI.cls = .type "list_iterator") (k : ∀ b o, b ≠ d → b ≠ I → h.get? b = some o → h'.get? b = some o) : PairAt h' v kv := by
  obtain ⟨t, u, rfl, o, ho, hc, r⟩ := x
  refine ⟨t, u, rfl, o, k t o (fun q => ?_) (fun q => ?_) ho, hc, r⟩
  · rw [q, hd] at ho; rw [← Option.some.inj ho, hdc] at hc; simp at hc
  · rw [q, hI] at ho; rw [← Option.some.inj ho, hIc] at hc; simp at hc
section
variable {w : World} {A : Around} {s : Shared} {E : Value → Shared → Prop}
theorem gn_miss_list {a : Addr} {xs : Array Value} {k : Nat} {Q : Option Value → Shared → Prop} (hx : s.heap.get? a = some { cls := .type "list", dict := none, data := .seq xs k, slots := #[] }) (hA : A.handled = none)
    (h : ∀ h' tk, Kp s.heap h' → Q none { s with heap := h', toks := tk }) : wpAny (model PR w) A (getAttr? (.ref a) (Str.ofString "keys")) Q E s := by
  obtain ⟨hp, g, d, tk, os⟩ := s
  have hT : ∀ tk', (⟨hp, g, d, tk', os⟩ : Shared).TypeIs (.ref a) "list" := fun _ => ⟨_, hx, rfl⟩
  have f1 := sub_AttributeError
  have f3 := PySem.F.slot_list_getattribute.lookup
  have f4 := PySem.F.slot_list_getattribute.bind (.ref a)
  have f5 := am_list_getattr_none
  unfold getAttr? getAttrBy? getAttrBy
  repeat (any_goals (first | assumption | exact hT _ | ((with_reducible show wpAny _ _ (call (Value.builtin "list.__getattribute__") _ _) _ _ _); refine call_meets PySem.F.slot_list_getattribute (hT _) am_entry_list_getattribute (PySem.F.args_list_getattribute_2 _ _) (meets_getattribute_miss_list a xs k #[] (Str.ofString "keys") _ list_no_keys (by decide +kernel)) ⟨hx, hA, fun h' tk' e hx' => ?_⟩) | wp_step))
  obtain ⟨t', u', he⟩ := hx'.there
  show wpAny _ _ (getattributeRaised _ _ _ _ _ _ _) _ _ _
  unfold getattributeRaised
  repeat (any_goals (first | assumption | wp_step))
  exact h _ _ hx'.keeps
theorem dict_loop {R : Result → Shared → Prop} {d I l : Addr} {items : Array Value} {kvs : List (Int × Value)} (hh : A.handled = none) (hdI : d ≠ I) (hdl : d ≠ l) (hIl : l ≠ I) (hb : kvs.length ≤ 64) (hlen : items.size = kvs.length) :
    ∀ (m i : Nat) (s : Shared) (acc : List (Int × Value)) (t : Tok), kvs.length - i = m → i ≤ kvs.length → s.heap.IsListIter I l i → s.heap.IsList l items → s.heap.DictOf (PySem.intKind PR w) d acc → acc.length ≤ i → ((acc ++ kvs.drop i).map (·.1)).Nodup →
      Paired (PairAt s.heap) items.toList kvs →
      (∀ h' tk, h'.DictOf (PySem.intKind PR w) d (acc ++ kvs.drop i) → (∀ b o, b ≠ d → b ≠ I → s.heap.get? b = some o → h'.get? b = some o) → R (.ok (.ret .none)) { s with heap := h', toks := tk }) →
      codeAny (model PR w) A (.builtin "dict.update.loop" ⟨[.ref d, .ref I, .int i t, .none], []⟩) R s := by
  intro m
  induction m with
  | zero =>
    intro i s acc t hm hin hit hl hd hacc hnd hP hR
    have hi' : i = kvs.length := by omega
    subst hi'
    refine codeAny_builtin entry_dict_upl ?_
    rw [Around.under_plainId plain_dict_upl _]
    show wpAny _ A.in1 (pyNext (.ref I) >>= _) _ _ s
    refine wpAny_bind ((Walks.list (A := A.in1) hh I l hIl items).done s _ _ (by rw [hlen]; exact ⟨hit, hl⟩) fun h' tk hk => ?_)
    show wpAny _ A.in1 (Builtin.Dict.addKeywords d [] >>= fun _ => ret Value.none) _ _ _
    refine wpAny_bind (wpAny_pure ?_)
    refine wpAny_pure (hR h' tk ?_ fun b o h1 h2 e => hk b o (fun q => h2 (List.mem_singleton.mp q)) e)
    rw [List.drop_length, List.append_nil]
    exact hd.extBut (b := I) (fun b o q e => hk b o (fun q' => q (List.mem_singleton.mp q')) e) hdI
  | succ m ih =>
    intro i s acc t hm hin hit hl hd hacc hnd hP hR
    have hlt : i < kvs.length := by omega
    refine codeAny_builtin entry_dict_upl ?_
    rw [Around.under_plainId plain_dict_upl _]
    show wpAny _ A.in1 (pyNext (.ref I) >>= _) _ _ s
    refine wpAny_bind ((Walks.list (A := A.in1) hh I l hIl items).item i s _ _ (by rw [hlen]; exact hlt) ⟨hit, hl⟩ fun v h1 tk1 hv hst hk => ?_)
    obtain ⟨a, ha, hPa⟩ := paired_get hP (List.getElem?_eq_getElem hlt)
    have hva : v = a := by
      rw [Array.getElem?_toList] at ha
      exact Option.some.inj (hv.symm.trans ha)
    subst hva
    obtain ⟨od, es, ep, hod, hdc, hdd, r⟩ := id hd
    obtain ⟨oI, hoI, hIc, hId⟩ := id hit
    have kI : ∀ b o, b ≠ I → s.heap.get? b = some o → h1.get? b = some o := fun b o q e => hk b o (fun q' => q (List.mem_singleton.mp q')) e
    have hPa1 : PairAt h1 v kvs[i] := hPa.at' hod hdc.1 hoI hIc (fun b o _ q e => kI b o q e)
    obtain ⟨tt, u, rfl, oT, hoT, hTc, nT, hTd⟩ := hPa1
    have hd1 : h1.DictOf (PySem.intKind PR w) d acc := hd.extBut (b := I) (fun b o q e => kI b o q e) hdI
    have hT : ∀ tk, Shared.TypeIs { s with heap := h1, toks := tk } (.ref tt) "tuple" := fun _ => ⟨oT, hoT, hTc⟩
    refine wpAny_bind (wpAny_holding ?_)
    refine wpAny_bind (wpAny_tryCatch ?_)
    unfold Builtin.Dict.pairItems
    refine wpAny_bind (wpAny_typeOf (hT _) ?_)
    rw [if_pos (by decide)]
    refine wpAny_bind (wpAny_seqItems hoT hTd ?_)
    refine wpAny_pure ?_
    show wpAny _ A.in1 (holding [Value.int kvs[i].1 u, kvs[i].2] (dictSet d (.int kvs[i].1 u) kvs[i].2)) _ _ _
    refine wpAny_holding ?_
    refine wpAny_dictSet_pairs (hsz := by rw [sizeLine_eq]; omega) (intKind_is _ _ _ _) hd1 fun h2 hd2 hs2 => ?_
    have hni : kvs[i].1 ∉ acc.map (·.1) := by
      rw [List.drop_eq_getElem_cons hlt, List.map_append, List.map_cons] at hnd
      intro q
      exact (List.nodup_append.mp hnd).2.2 _ q _ (.head _) rfl
    rw [stored_new hni] at hd2
    have up : ∀ b o, b ≠ d → b ≠ I → s.heap.get? b = some o → h2.get? b = some o := fun b o q1 q2 e => by
      rw [hs2.2 b q1]; exact kI b o q2 e
    have hit2 : h2.IsListIter I l (i + 1) := hst.1.at fun o e => by rw [hs2.2 I (Ne.symm hdI)]; exact e
    have hl2 : h2.IsList l items := hst.2.at fun o e => by rw [hs2.2 l (Ne.symm hdl)]; exact e
    refine wpAny_pure ⟨plainId_quiet plain_dict_upl _, ?_⟩
    have e1 : ((i : Int) + 1) = ((i + 1 : Nat) : Int) := by omega
    have e2 : (acc ++ [(kvs[i].1, kvs[i].2)]) ++ kvs.drop (i + 1) = acc ++ kvs.drop i := by
      rw [List.append_assoc, List.drop_eq_getElem_cons hlt]; rfl
    show codeAny _ _ (.builtin "dict.update.loop" ⟨[.ref d, .ref I, .int ((i : Int) + 1) 0, .none], []⟩) _ _
    rw [e1]
    refine ih (i + 1) _ (acc ++ [(kvs[i].1, kvs[i].2)]) 0 (by omega) hlt hit2 hl2 hd2 (by rw [List.length_append, List.length_singleton]; omega) (by rw [e2]; exact hnd) (Paired.imp' (fun _ _ y => y.at' hod hdc.1 hoI hIc up) hP) fun h' tk hd' hk' => ?_
    rw [e2] at hd'
    exact hR h' tk hd' fun b o q1 q2 e => hk' b o q1 q2 (up b o q1 q2 e)
theorem call_dict_pairs {l : Addr} {items : Array Value} {n : Nat} {kvs : List (Int × Value)} {Q : Value → Shared → Prop} (hh : A.handled = none) (hl : s.heap.get? l = some (W.listOf items n)) (hP : Paired (PairAt s.heap) items.toList kvs) (hnd : (kvs.map (·.1)).Nodup) (hb : kvs.length ≤ 64)
    (h : ∀ d h' tk od, @LE.le Nat _ s.heap.objs.size d → s.heap.get? d = none → h'.get? d = some od → od.IsDictOf (PySem.intKind PR w) kvs → Kp s.heap h' → Q (.ref d) { s with heap := h', toks := tk }) :
    wpAny (model PR w) A (call (.type "dict") [.ref l]) Q E s := by
  refine callType_codes (Q₁ := fun obj s₁ => obj = .ref s.heap.objs.size ∧ s₁ = { s with heap := s.heap.push { cls := .type "dict", data := .dict #[] } }) PySem.F.kt_called_dict (PySem.F.kt_typeCall_dict_1 _) PySem.F.entry_dict_init (kt_code_dict_new _ ⟨rfl, rfl⟩) ?_
  rintro obj s₁ ⟨rfl, rfl⟩
  have hnew : (s.heap.push { cls := .type "dict", data := .dict #[] }).DictOf (PySem.intKind PR w) s.heap.objs.size [] := Heap.DictOf.new s.heap
  have hl' : (s.heap.push { cls := .type "dict", data := .dict #[] }).get? l = some (W.listOf items n) := Heap.get?_push_of_some _ hl
  have hT : Shared.TypeIs { s with heap := s.heap.push { cls := .type "dict", data := .dict #[] } } (.ref l) "list" := ⟨_, hl', rfl⟩
  refine ⟨hnew.typeIs, PySem.F.args_dict_init_2 _ _, ?_⟩
  unfold Builtin.«dict.__init__»
  refine wpAny_bind ?_
  unfold Builtin.Dict.selfAndRest
  refine wpAny_bind (wpAny_notOrdered_dict hnew.typeIs ?_)
  show wpAny _ _ (pure (s.heap.objs.size, [Value.ref l])) _ _ _
  refine wpAny_pure ?_
  show wpAny _ _ (Builtin.Dict.updateFrom "dict.__init__" s.heap.objs.size (.ref l) [] .none) _ _ _
  unfold Builtin.Dict.updateFrom
  refine wpAny_bind (wpAny_typeOf hT ?_)
  rw [if_pos (by decide)]
  refine wpAny_bind (gn_miss_list hl' (by simp [hh]) fun h1 tk1 hk1 => ?_)
  rw [if_pos (by decide)]
  refine wpAny_bind (wpAny_rule ?_)
  have hl1 : h1.IsList l items := ⟨_, hk1 _ _ hl', rfl, n, rfl⟩
  refine wpAny_bind (wpAny_pyIter_list hl1 ?_)
  have hd1 : h1.get? s.heap.objs.size = some { cls := .type "dict", data := .dict #[] } := hk1 _ _ (Heap.get?_push_size _ rfl)
  have hdl : s.heap.objs.size ≠ l := Ne.symm (Nat.ne_of_lt (Heap.lt_size hl))
  have hdI : s.heap.objs.size ≠ h1.objs.size := Nat.ne_of_lt (Heap.lt_size hd1)
  have hlI : l ≠ h1.objs.size := Nat.ne_of_lt (Heap.lt_size (hk1 _ _ hl'))
  have hlen : items.size = kvs.length := by rw [← hP.length, Array.length_toList]
  refine wpAny_pure ⟨plainId_quiet plain_dict_upl _, ?_⟩
  have kp1 : Kp s.heap h1 := fun b o e => hk1 _ _ (Heap.get?_push_of_some _ e)
  refine dict_loop (l := l) (items := items) (kvs := kvs) (by simp [hh]) hdI hdl hlI hb hlen (kvs.length - 0) 0 _ [] 0 rfl (Nat.zero_le _) ⟨_, Heap.get?_push_size _ rfl, rfl, rfl⟩ (hl1.push _) ?_ (Nat.le_refl _) (by simpa using hnd)
    (Paired.imp' (fun v kv y => by obtain ⟨t, u, e, i⟩ := y; exact ⟨t, u, e, IsTup.keeps i fun b o e => Heap.get?_push_of_some _ (kp1 b o e)⟩) hP) fun h' tk hd' hk' => ?_
  · exact ⟨_, #[], 0, Heap.get?_push_of_some _ hd1, ⟨rfl, rfl, rfl⟩, rfl, fun _ he => by simp at he, Pairs.nil, List.nodup_nil⟩
  · obtain ⟨od, hod, hd2⟩ := Heap.dictOf_iff.mp hd'
    refine ⟨rfl, h _ h' tk od (Nat.le_refl _) (get_size _) hod (by simpa using hd2) fun b o e => hk' b o (Nat.ne_of_lt (Heap.lt_size e)) (Nat.ne_of_lt (Heap.lt_size (kp1 b o e))) (Heap.get?_push_of_some _ (kp1 b o e))⟩
end
end Mine
end
section
open PySem PySem.W PySem.Spec PySem.Calls PyProof.Rows
set_option maxRecDepth 100000
set_option maxHeartbeats 8000000
namespace Mine
local macro_rules | `(tactic| walk_at "getAttr ref") => `(tactic| first | ((with_reducible show wpAny _ _ (getAttr _ (Str.ofString "rows") _) _ _ _); (refine attr_rows (by assumption) (by assumption) (by assumption) ?_)) | ((with_reducible show wpAny _ _ (getAttr _ (Str.ofString "is_backward") _) _ _ _); (refine attr_back (by assumption) (by assumption) (by assumption) ?_)))
local macro_rules | `(tactic| tb_rel) => `(tactic| first | rfl | ((try dsimp only); (repeat (rw [if_neg (by decide)])); first | assumption | rfl))
local macro_rules | `(tactic| walk_at "eval Name") => `(tactic| (refine' nameX_L ?F ?v ?_ ?a ?b; (case a => rfl); (case b => rfl); (case F => assumption); (case v => tb_rel); k_whole))
local macro_rules | `(tactic| walk_at "eval Name") => `(tactic| ((with_reducible show wpAny _ _ (eval (Expr.Name _ _) (compEnvC _ _ _ _)) _ _ _); first | (refine' cb_local ?n ?m ?_ ?a ?b ?c; (case a => rfl); (case b => rfl); (case c => rfl); (case n => assumption); (case m => assumption)) | (refine' cb_cell ?c ?v ?_ ?a ?b ?d; (case a => rfl); (case b => rfl); (case d => rfl); (case c => rfl); (case v => assumption)) | (refine' cb_built ?G ?e ?v ?n ?_ ?g ?h ?a ?b ?c; (case a => rfl); (case b => rfl); (case c => rfl); (case g => rfl); (case h => rfl); (case G => assumption); (case e => k_is); (case v => boot_fast); (case n => decide))))
local macro_rules | `(tactic| walk_at "newTuple") => `(tactic| (refine' kup_newTuple ?F ?N ?_ ?z; (case F => assumption); (case N => assumption); (case z => kmk_size); intro D' h' F' N' l1; (try k_sweep)))
local macro_rules | `(tactic| walk_at "subscriptTail") => `(tactic| ((with_reducible show wpAny _ _ (subscriptTail _ _ (Value.ref _) (Value.int _ _)) _ _ _); refine' item_tupleT ?t (by decide) (by decide) rfl rfl ?_; (case t => exact IsTup.keeps (by assumption) (Fr.keep (by assumption))); k_whole))
section
local macro_rules | `(tactic| tb_start) => `(tactic| repeat' (first | ((first | (with_reducible show wpAny _ _ _ _ _ _) | (with_reducible show ite _ _ _)); (fail_if_success (with_reducible show wpAny _ _ (eval (Expr.ListComp _ _ _ _) _) _ _ _)); (fail_if_success (with_reducible show wpAny _ _ (call _ _ _) _ _ _)); (fail_if_success (with_reducible show wpAny _ _ (pyIter _) _ _ _)); (fail_if_success (with_reducible show wpAny _ _ (setItem _ _ _) _ _ _)); (fail_if_success (with_reducible show wpAny _ _ (exec (Stmt.For _ _ _ _ _) _) _ _ _)); walk1) | ((with_reducible show ite _ _ _); dsimp only)))
section
theorem fill_TA (w : World) : (hd.heap_39 w.params).In {} → PySem.Challenge.rw_nu0147_01.prog = PySem.Challenge.rw_nu0147_01.prog := by
  k_fill
  exact fun _ => rfl
section
variable {w : World} {mg mb : Str → Option Value} {dp un : Nat} {fr : Option (List Env)} {gd : Option (List Code)} {s : Shared} {Q E : Value → Shared → Prop}
theorem ta_spec {x l : Addr} {b : Bool} {vs : List Value} {rs : List RowV} (G : Gd w mg mb s.heap) (S : ShapedAt s.heap x l b) (hl : s.heap.IsList l vs.toArray) (hR : RowsAt s.heap vs rs) (hn : rs.length ≤ 8)
    (hd : dp + 10 < recursionLimit)
    (h : ∀ t h' tk, Kp s.heap h' → Q (.int (rs.map (·.a)).sum t) {s with heap := h', toks := tk}) : wpAny (model PR w) (AA dp un fr gd) (call (.ref 47) [.ref x] []) Q E s := by
  refine' call_fn (f := 47) (binds := [(Str.ofString "shaped", .ref x)]) G ?ho ?hcd ?hroom ?hbind ?hloc ?hbody ?hco ?hgen ?hk ?hcell
  case ho => k_is
  case hcd => k_is
  case hroom => show dp < _; omega
  case hbind => rfl
  case hloc => exact locs rfl
  case hcell => decide
  case hco => rfl
  case hgen => rfl
  case hk => rfl
  intro h₁ tk E' F K
  have N : News s.heap s.heap.objs.size h₁ [] := News.nil
  have X := G.X
  have T := G.T
  tb_start
  refine comp_list (fun _ => true) (intOf s.heap (·.a)) rfl rfl (by decide) rfl (by decide) rfl ?_
  tb_start
  refine ⟨l, vs, rfl, isList_kp hl K, ?_, ?_, ?_, ?_⟩
  · have := hR.length; rw [sizeLine_eq]; omega
  · intro C v s₃ m₃ E'' _ _ _ _
    exact wpAny_tests_nil ⟨rfl, keeps_rfl⟩
  · intro C v s₃ m₃ E'' hv _ hn₃ hm₃ hk₃
    obtain ⟨r, hr, hRv⟩ := paired_mem hR v hv
    exact Subscript_ (nm_local hn₃ hm₃ (row_at2 (hRv.kp (K.trans hk₃)) fun t => ⟨⟨r, t, hRv, rfl⟩, keeps_toks⟩) rfl rfl rfl)
  · intro D h' tk' ys n hD ho hP hk'
    have hi := ints_of hR (paired_true hP)
    have F' := fr_kp F hk'
    have N' := news_new F N hk' hD ho
    tb_start
    refine sum_kp rfl (list_of_obj ho) hi ?_
    intro h'' tk'' t'' hk''
    exact h _ _ _ ((K.trans hk').trans hk'')
end
end
section
theorem fill_GA (w : World) : (hd.heap_39 w.params).In {} → PySem.Challenge.rw_nu0147_01.prog = PySem.Challenge.rw_nu0147_01.prog := by
  k_fill
  exact fun _ => rfl
section
variable {w : World} {mg mb : Str → Option Value} {dp un : Nat} {fr : Option (List Env)} {gd : Option (List Code)} {s : Shared} {Q E : Value → Shared → Prop}
def gAt : List Int → Int → Int → Int → Int
  | [], _, _, _ => -1
  | a :: as, x, begun, i => if begun ≤ x ∧ x < begun + a then i else gAt as x (begun + a) (i + 1)
theorem take_sum {rs : List RowV} {i : Nat} (hi : i < rs.length) (f : RowV → Int) : ((rs.take (i + 1)).map f).sum = ((rs.take i).map f).sum + f rs[i] := by
  rw [List.take_add_one, List.getElem?_eq_getElem hi, List.map_append, List.sum_append]; simp only [Option.toList_some, List.map_cons, List.map_nil, List.sum_cons, List.sum_nil]; omega
theorem gAt_at {rs : List RowV} {i : Nat} (hi : i < rs.length) (x : Int) : gAt ((rs.drop i).map (·.a)) x ((rs.take i).map (·.a)).sum i =
    if ((rs.take i).map (·.a)).sum ≤ x ∧ x < ((rs.take i).map (·.a)).sum + rs[i].a then (i : Int) else gAt ((rs.drop (i + 1)).map (·.a)) x ((rs.take (i + 1)).map (·.a)).sum ((i + 1 : Nat) : Int) := by
  rw [take_sum hi (·.a), List.drop_eq_getElem_cons hi, List.map_cons, gAt]
  rfl
theorem ga_spec {x l : Addr} {b : Bool} {vs : List Value} {rs : List RowV} {xx : Int} {tx : Tok} (G : Gd w mg mb s.heap) (S : ShapedAt s.heap x l b) (hl : s.heap.IsList l vs.toArray) (hR : RowsAt s.heap vs rs) (hn : rs.length ≤ 8)
    (hd : dp + 10 < recursionLimit)
    (h : ∀ t h' tk, Kp s.heap h' → Q (.int (gAt (rs.map (·.a)) xx 0 0) t) {s with heap := h', toks := tk}) : wpAny (model PR w) (AA dp un fr gd) (call (.ref 54) [.ref x, .int xx tx] []) Q E s := by
  refine' call_fn (f := 54) (binds := [(Str.ofString "shaped", .ref x), (Str.ofString "x", .int xx tx)]) G ?ho ?hcd ?hroom ?hbind ?hloc ?hbody ?hco ?hgen ?hk ?hcell
  case ho => k_is
  case hcd => k_is
  case hroom => show dp < _; omega
  case hbind => rfl
  case hloc => exact locs rfl
  case hcell => decide
  case hco => rfl
  case hgen => rfl
  case hk => rfl
  intro h₁ tk E' F K
  have N : News s.heap s.heap.objs.size h₁ [] := News.nil
  have X := G.X
  have T := G.T
  have hvl := hR.length
  tb_start
  refine for_go ?_
  tb_start
  refine len_base (by assumption) hl (by omega) ?_
  intro tl kl
  tb_start
  refine range1_kp ?_
  intro r t' u h' k hr hk'
  tb_start
  (rename Fr _ _ _ _ => F1)
  refine for_range (h₀ := s.heap) (news := []) (n := rs.length) (fun i m nx => nx = [] ∧ m (Str.ofString "shaped") = some (.ref x) ∧ m (Str.ofString "x") = some (.int xx tx) ∧ (∃ tb, m (Str.ofString "begun") = some (.int ((rs.take i).map (·.a)).sum tb)) ∧
      gAt ((rs.drop i).map (·.a)) xx ((rs.take i).map (·.a)).sum i = gAt (rs.map (·.a)) xx 0 0) rfl hr (by omega) (by omega) (by omega) (by omega) (by omega) (fr_kp F1 hk') News.nil ⟨rfl, rfl, rfl, ⟨_, rfl⟩, rfl⟩ ?turn ?done
  case turn =>
    rintro i m₁ nx h2 tk2 t2 I oI E2 hi _ _ hJ0 F2 N2
    generalize hZ1 : TurnPost _ _ I _ _ _ _ = Z1
    revert Z1
    refine blk ?_
    intro Z1 hZ1
    obtain ⟨rfl, hm1, hm2, ⟨tb, hm3⟩, hg⟩ := hJ0
    tb_start
    (rename Fr _ _ _ _ => F3)
    refine sub_row F3 hl hR (i := i) (by omega) hi hn ?_
    intro v hv
    refine row_at2 (hv.kp F3.keep) ?_
    intro t9
    tb_start
    all_goals (rename Fr _ _ _ _ => F4)
    all_goals (rename News _ _ _ _ => N4)
    all_goals subst hZ1
    · have e : gAt (rs.map (·.a)) xx 0 0 = 0 + (i : Int) := by
        rw [← hg, gAt_at hi, if_pos (by simp_all)]; omega
      rw [e] at h
      exact h _ _ _ F4.keep
    · refine TurnEnd.intro F4 N4 (fun _ hp => nomatch hp) ⟨rfl, by tb_rel, by tb_rel, ⟨_, by rw [take_sum hi]; rfl⟩, ?_⟩
      rw [← hg, gAt_at hi, if_neg (by rintro ⟨q1, q2⟩; simp only [decide_eq_true_eq] at *; omega)]
    · refine TurnEnd.intro F4 N4 (fun _ hp => nomatch hp) ⟨rfl, by tb_rel, by tb_rel, ⟨_, by rw [take_sum hi]; rfl⟩, ?_⟩
      rw [← hg, gAt_at hi, if_neg (by rintro ⟨q1, q2⟩; simp only [decide_eq_true_eq] at *; omega)]
  case done =>
    rintro m₁ nx h2 tk2 ⟨rfl, hm1, hm2, ⟨tb, hm3⟩, hg⟩ F2 N2
    have e : gAt (rs.map (·.a)) xx 0 0 = -1 := by
      rw [← hg, List.drop_length]; rfl
    rw [e] at h
    tb_start
    exact h _ _ _ F2.keep
end
end
section
theorem fill_CS (w : World) : (hd.heap_39 w.params).In {} → PySem.Challenge.rw_nu0147_01.prog = PySem.Challenge.rw_nu0147_01.prog := by
  k_fill
  exact fun _ => rfl
section
variable {w : World} {mg mb : Str → Option Value} {dp un : Nat} {fr : Option (List Env)} {gd : Option (List Code)} {s : Shared} {Q E : Value → Shared → Prop}
def SpanIn (fam : List (Addr × Obj)) (v : Value) (sp : Int × Int) : Prop := ∃ t ta tb n, v = .ref t ∧ (t, ({ cls := .type "tuple", data := .seq #[.int sp.1 ta, .int sp.2 tb] n } : Obj)) ∈ fam
theorem SpanIn.mono {fam fam' : List (Addr × Obj)} {v : Value} {sp : Int × Int} (x : SpanIn fam v sp) (k : ∀ p ∈ fam, p ∈ fam') : SpanIn fam' v sp := let ⟨t, ta, tb, n, e, i⟩ := x; ⟨t, ta, tb, n, e, k _ i⟩
theorem pre3 {a b c d : Addr} {oa ob oc : Obj} (h1 : a ≠ d) (h2 : b ≠ d) (h3 : c ≠ d) : ∀ p ∈ [(a, oa), (b, ob), (c, oc)], p.1 ≠ d := by
  intro p hp
  rcases List.mem_cons.mp hp with rfl | hp
  · exact h1
  · rcases List.mem_cons.mp hp with rfl | hp
    · exact h2
    · rw [List.mem_singleton.mp hp]; exact h3
theorem perm4 {h₀ h : Heap} {L : Addr} {a b c d : Addr × Obj} {r : List (Addr × Obj)} (N : News h₀ L h (a :: b :: c :: d :: r)) : News h₀ L h ([b] ++ (c :: d :: a :: r)) := by
  intro p hp
  rw [List.singleton_append] at hp
  rcases List.mem_cons.mp hp with rfl | hp
  · exact N _ (.tail _ (.head _))
  · rcases List.mem_cons.mp hp with rfl | hp
    · exact N _ (.tail _ (.tail _ (.head _)))
    · rcases List.mem_cons.mp hp with rfl | hp
      · exact N _ (.tail _ (.tail _ (.tail _ (.head _))))
      · rcases List.mem_cons.mp hp with rfl | hp
        · exact N _ (.head _)
        · exact N _ (.tail _ (.tail _ (.tail _ (.tail _ hp))))
theorem keys_of {F : Int × Value → Int × Int → Prop} (f : ∀ a b, F a b → a.1 = b.1) : ∀ {kvs : List (Int × Value)} {sps : List (Int × Int)}, Paired F kvs sps → kvs.map (·.1) = sps.map (·.1)
  | _, _, .nil => rfl
  | _, _, .cons h r => by rw [List.map_cons, List.map_cons, f _ _ h, keys_of f r]
theorem spansOf_fst (st : List Int) (len : Int) : (spansOf st len).map (·.1) = st := by
  refine List.ext_getElem? fun i => ?_
  unfold spansOf
  rw [List.map_map, List.getElem?_map]
  by_cases hi : i < st.length
  · rw [List.getElem?_range hi, List.getElem?_eq_getElem hi]
    simp [List.getD_eq_getElem?_getD, List.getElem?_eq_getElem hi]
  · rw [List.getElem?_eq_none (by simpa using hi), List.getElem?_eq_none (by omega)]; rfl
theorem spansOf_take_fst (st : List Int) (len : Int) (i : Nat) : ((spansOf st len).take i).map (·.1) = st.take i := by
  rw [List.map_take, spansOf_fst]
theorem spansOf_take_succ {st : List Int} {len : Int} {i : Nat} (hi : i < st.length) : (spansOf st len).take (i + 1) = (spansOf st len).take i ++ [(st[i], st.getD (i + 1) len)] := by
  rw [List.take_add_one]
  unfold spansOf
  rw [List.getElem?_map, List.getElem?_range hi]
  simp [List.getD_eq_getElem?_getD, List.getElem?_eq_getElem hi]
theorem cs_spec {x l : Addr} {b : Bool} {vs : List Value} {rs : List RowV} {len : Int} {tl : Tok} (G : Gd w mg mb s.heap) (S : ShapedAt s.heap x l b) (hl : s.heap.IsList l vs.toArray) (hR : RowsAt s.heap vs rs) (hn : rs.length ≤ 8)
    (hd : dp + 10 < recursionLimit)
    (h : ∀ d h' tk dr st kvs od fam, Kp s.heap h' → (∀ p ∈ (d, od) :: fam, h'.get? p.1 = some p.2 ∧ s.heap.get? p.1 = none) → od.IsDictOf (PySem.intKind PR w) kvs →
      Paired (fun kv sp => kv.1 = sp.1 ∧ SpanIn fam kv.2 sp) kvs (spansOf st len) → (∀ p ∈ fam, p.1 ≠ d) → (d == sysModules) = false → Firsts st rs → Q (.ref d) {s with heap := h', toks := tk, drawn := dr}) :
    wpAny (model PR w) (AA dp un fr gd) (call (.ref 59) [.ref x, .int len tl] []) Q E s := by
  refine' call_fn (f := 59) (binds := [(Str.ofString "shaped", .ref x), (Str.ofString "length", .int len tl)]) G ?ho ?hcd ?hroom ?hbind ?hloc ?hbody ?hco ?hgen ?hk ?hcell
  case ho => k_is
  case hcd => k_is
  case hroom => show dp < _; omega
  case hbind => rfl
  case hloc => exact locs rfl
  case hcell => decide
  case hco => rfl
  case hgen => rfl
  case hk => rfl
  intro h₁ tk E' F K
  have N : News s.heap s.heap.objs.size h₁ [] := News.nil
  have X := G.X
  have T := G.T
  have hvl := hR.length
  tb_start
  (rename Fr _ _ _ _ => F1)
  (rename News _ _ _ _ => N1)
  rename_i dd hq0 od0 lo0 hs0 fs0 hid fi0 l10 hq1
  refine comp_list (fun _ => true) (intOf s.heap (·.c)) rfl rfl (by decide) rfl (by decide) rfl ?_
  tb_start
  refine ⟨l, vs, rfl, isList_kp hl F1.keep, ?_, ?_, ?_, ?_⟩
  · rw [sizeLine_eq]; omega
  · intro C v s₃ m₃ E'' _ _ _ _
    exact wpAny_tests_nil ⟨rfl, keeps_rfl⟩
  · intro C v s₃ m₃ E'' hv _ hn₃ hm₃ hk₃
    obtain ⟨r, hr, hRv⟩ := paired_mem hR v hv
    exact Subscript_ (nm_local hn₃ hm₃ (row_at1 (hRv.kp (Kp.trans F1.keep hk₃)) fun t => ⟨⟨r, t, hRv, rfl⟩, keeps_toks⟩) rfl rfl rfl)
  · intro D h2 tk2 ys n2 hD ho hP hk2
    have hi := ints_of hR (paired_true hP)
    have F2 := fr_kp F1 hk2
    have N2 := news_kp N1 hk2
    tb_start
    refine call_set_I rfl (list_of_obj ho) (by simpa using hi) (by rw [List.length_map]; unfold scanBound; omega) ?_
    intro Sa h3 tk3 ks hSI hmem hk3
    show wpAny _ _ _ _ _ { s with heap := h3, toks := tk3 }
    have hkn : ks.Nodup := by obtain ⟨_, _, _, _, _, q, _⟩ := id hSI; exact q
    have hkl : ks.length ≤ rs.length := by
      have := List.Nodup.length_le_of_subset hkn (fun k hk => (hmem k).mp hk)
      rwa [List.length_map] at this
    have F3 := fr_kp F2 hk3
    have N3 := news_kp N2 hk3
    clear F1 N1 F2 N2
    tb_start
    refine sorted_set rfl hSI (by omega) ?_
    intro Ls h4 tk4 dr vs4 st n4 hk4 hLs hoL hi4 hp4 hs4
    show wpAny _ _ _ _ _ { s with heap := h4, toks := tk4, drawn := dr }
    have F4 := fr_kp F3 hk4
    have N4 := news_new F3 N3 hk4 hLs hoL
    clear F3 N3
    have hst : st.Pairwise (· < ·) := strict_of hs4 (hp4.nodup_iff.mpr hkn)
    have hFi : Firsts st rs := ⟨hst, fun k => by rw [hp4.mem_iff, hmem]⟩
    have hsl : st.length = ks.length := hp4.length_eq
    have hvl4 := hi4.length
    tb_start
    (rename Fr _ _ _ _ => F5)
    (rename News _ _ _ _ => N5)
    have hnd : Ls ≠ dd := by
      intro q
      have := (N5 _ (.tail _ (.head _))).1
      have h7 := (N5 _ (.head _)).1
      dsimp only at this h7
      rw [← q, h7] at this
      obtain ⟨_, _, ⟨q1, _⟩, _⟩ := hid
      rw [← Option.some.inj this] at q1
      simp at q1
    refine for_go ?_
    tb_start
    refine len_at (list_of_obj (N5 _ (.head _)).1) (show _ = st.length from hvl4) (by omega) ?_
    intro t5 k5
    tb_start
    refine range1_kp ?_
    intro r t6 u6 h6 k6 hr6 hk6
    show wpAny _ _ _ _ _ { s with heap := h6, toks := k6, drawn := dr }
    tb_start
    refine for_range (h₀ := s.heap) (n := st.length) (fun i m nx => ∃ od fam kvs, nx = (Ls, W.listOf vs4.toArray n4) :: (dd, od) :: fam ∧ od.IsDictOf (PySem.intKind PR w) kvs ∧ (∀ p ∈ fam, p.1 ≠ dd) ∧
        Paired (fun kv sp => kv.1 = sp.1 ∧ SpanIn fam kv.2 sp) kvs ((spansOf st len).take i) ∧ m (Str.ofString "found") = some (.ref dd) ∧ m (Str.ofString "starts") = some (.ref Ls) ∧ m (Str.ofString "length") = some (.int len tl))
      rfl hr6 (by omega) (by omega) (by omega) (by omega) (by omega) (fr_kp F5 hk6) (news_kp N5 hk6) ⟨od0, [], [], rfl, hid, (fun _ hp => nomatch hp), .nil, rfl, rfl, rfl⟩ ?turn ?done
    case turn =>
      rintro i m₁ nx h7 tk7 t7 I oI E7 hi7 hIlt hIne hJ0 F7 N7
      generalize hZ1 : TurnPost _ _ I _ _ _ _ = Z1
      revert Z1
      refine blk ?_
      intro Z1 hZ1
      show wpAny _ _ _ _ _ { s with heap := h7, toks := tk7, drawn := dr }
      obtain ⟨od, fam, kvs, rfl, hod, hfam, hP7, hm1, hm2, hm3⟩ := hJ0
      tb_start
      (rename News _ _ _ _ => N8)
      refine len_at (list_of_obj (N8 _ (.tail _ (.head _))).1) (show _ = st.length from hvl4) (by omega) ?_
      intro t8 k8
      tb_start
      all_goals rename_i tt hh9 F9 N9 lt9 t9
      all_goals
        (have hst1 : st.getD (0 + (i : Int)).toNat 0 = st[i] := by
          have e : (0 + (i : Int)).toNat = i := by omega
          rw [e, List.getD_eq_getElem?_getD, List.getElem?_eq_getElem hi7]; rfl)
      all_goals
        (have hnk : st.getD (0 + (i : Int)).toNat 0 ∉ kvs.map (·.1) := by
          rw [keys_of (fun _ _ q => q.1) hP7, spansOf_take_fst, hst1]
          intro q
          obtain ⟨j, hj, e⟩ := List.getElem_of_mem q
          rw [List.length_take] at hj
          rw [List.getElem_take] at e
          have := List.pairwise_iff_getElem.mp hst j i (by omega) hi7 (by omega)
          omega)
      all_goals
        (have hkl : kvs.length = i := by
          have := hP7.length
          rw [List.length_take, spansOf_length] at this
          omega)
      all_goals
        (refine set_item_N (pre := [_, _, _]) F9 N9 hod (pre3 (Nat.ne_of_gt (lt9 (dd, od) (.tail _ (.tail _ (.head _))))) (Ne.symm (hIne (dd, od) (.tail _ (.head _)))) hnd) hfam (by rw [hkl, sizeLine_eq]; omega) ?_
         intro h10 od10 F10 N10 hod10
         tb_start
         rw [stored_new hnk] at hod10)
      · subst hZ1
        refine TurnEnd.intro F10 (nx' := (Ls, W.listOf vs4.toArray n4) :: (dd, od10) :: (tt, _) :: fam) (perm4 N10) ?_ ⟨od10, _, _, rfl, hod10, ?_, ?_, by tb_rel, by tb_rel, by tb_rel⟩
        · intro p hp
          rcases List.mem_cons.mp hp with rfl | hp
          · exact hIne _ (.head _)
          · rcases List.mem_cons.mp hp with rfl | hp
            · exact hIne (dd, od) (.tail _ (.head _))
            · rcases List.mem_cons.mp hp with rfl | hp
              · exact Nat.ne_of_gt (lt9 (I, oI) (.head _))
              · exact hIne _ (.tail _ (.tail _ hp))
        · intro p hp
          rcases List.mem_cons.mp hp with rfl | hp
          · exact Nat.ne_of_gt (lt9 (dd, od) (.tail _ (.tail _ (.head _))))
          · exact hfam p hp
        · rw [spansOf_take_succ hi7]
          refine paired_snoc (Paired.imp' (fun _ _ q => ⟨q.1, q.2.mono fun _ hp => .tail _ hp⟩) hP7) ⟨by rw [hst1], ?_⟩
          have e2 : st.getD (0 + (i : Int) + 1).toNat 0 = st.getD (i + 1) len := by
            have e : (0 + (i : Int) + 1).toNat = i + 1 := by omega
            rw [e, List.getD_eq_getElem?_getD, List.getD_eq_getElem?_getD, List.getElem?_eq_getElem (by omega)]; rfl
          rw [← hst1, ← e2]
          exact ⟨tt, _, _, 0, rfl, .head _⟩
      · subst hZ1
        refine TurnEnd.intro F10 (nx' := (Ls, W.listOf vs4.toArray n4) :: (dd, od10) :: (tt, _) :: fam) (perm4 N10) ?_ ⟨od10, _, _, rfl, hod10, ?_, ?_, by tb_rel, by tb_rel, by tb_rel⟩
        · intro p hp
          rcases List.mem_cons.mp hp with rfl | hp
          · exact hIne _ (.head _)
          · rcases List.mem_cons.mp hp with rfl | hp
            · exact hIne (dd, od) (.tail _ (.head _))
            · rcases List.mem_cons.mp hp with rfl | hp
              · exact Nat.ne_of_gt (lt9 (I, oI) (.head _))
              · exact hIne _ (.tail _ (.tail _ hp))
        · intro p hp
          rcases List.mem_cons.mp hp with rfl | hp
          · exact Nat.ne_of_gt (lt9 (dd, od) (.tail _ (.tail _ (.head _))))
          · exact hfam p hp
        · have e2 : st.getD (i + 1) len = len := by
            rw [List.getD_eq_getElem?_getD, List.getElem?_eq_none (by omega)]; rfl
          rw [spansOf_take_succ hi7, e2]
          refine paired_snoc (Paired.imp' (fun _ _ q => ⟨q.1, q.2.mono fun _ hp => .tail _ hp⟩) hP7) ⟨by rw [hst1], ?_⟩
          rw [← hst1]
          exact ⟨tt, _, _, 0, rfl, .head _⟩
    case done =>
      rintro m₁ nx h7 tk7 ⟨od, fam, kvs, rfl, hod, hfam, hP7, hm1, hm2, hm3⟩ F7 N7
      show wpAny _ _ _ _ _ { s with heap := h7, toks := tk7, drawn := dr }
      tb_start
      rw [List.take_of_length_le (by rw [spansOf_length]; exact Nat.le_refl _)] at hP7
      exact h dd _ _ dr st kvs od fam F7.keep (fun p hp => ⟨(N7 p (.tail _ hp)).1, (N7 p (.tail _ hp)).2.2⟩) hod hP7 hfam lo0 hFi
end
end
section
theorem fill_CP (w : World) : (hd.heap_39 w.params).In {} → PySem.Challenge.rw_nu0147_01.prog = PySem.Challenge.rw_nu0147_01.prog := by
  k_fill
  exact fun _ => rfl
section
variable {w : World} {mg mb : Str → Option Value} {dp un : Nat} {fr : Option (List Env)} {gd : Option (List Code)} {s : Shared} {Q E : Value → Shared → Prop}
theorem ints_snoc : ∀ {vs : List Value} {ns : List Int}, IntsAre vs ns → ∀ (x : Int) (t : Tok), IntsAre (vs ++ [.int x t]) (ns ++ [x])
  | _, _, .nil, x, t => .cons _ _ .nil
  | _, _, .cons _ _ r, x, t => .cons _ _ (ints_snoc r x t)
theorem ints_mem {vs : List Value} {ns : List Int} (h : IntsAre vs ns) : ∀ v ∈ vs, ∃ k t, v = .int k t := by
  intro v hv
  induction h with
  | nil => cases hv
  | cons x t r ih =>
    rcases List.mem_cons.mp hv with rfl | hv
    · exact ⟨_, _, rfl⟩
    · exact ih hv
theorem ints_sub {B : Int} : ∀ {vs : List Value} {ns : List Int} {ys : List Value}, IntsAre vs ns → Paired (fun v y => ∃ k t t', v = Value.int k t ∧ y = Value.int (B - k) t') vs ys → IntsAre ys (ns.map fun p => B - p)
  | _, _, _, .nil, .nil => .nil
  | _, _, _, .cons x t r, .cons ⟨k, t1, t', e, e'⟩ p => by cases e; rw [e']; exact .cons _ _ (ints_sub r p)
theorem cp_spec {x l : Addr} {b : Bool} {vs : List Value} {rs : List RowV} {len : Int} {tl : Tok} (G : Gd w mg mb s.heap) (S : ShapedAt s.heap x l b) (hl : s.heap.IsList l vs.toArray) (hR : RowsAt s.heap vs rs) (hn : rs.length ≤ 8)
    (hb : ∀ r ∈ rs, 0 ≤ r.a ∧ r.a ≤ 600) (hc : ∀ r ∈ rs, 0 ≤ r.c ∧ r.c < len) (hlen : len ≤ 200) (hd : dp + 20 < recursionLimit)
    (h : ∀ D h' tk dr ys n st, Kp s.heap h' → s.heap.get? D = none → h'.get? D = some (W.listOf ys n) → IntsAre ys.toList (caretsOf b rs st len) → ys.size ≤ 3001 → Firsts st rs → Q (.ref D) {s with heap := h', toks := tk, drawn := dr}) :
    wpAny (model PR w) (AA dp un fr gd) (call (.ref 64) [.ref x, .int len tl] []) Q E s := by
  refine' call_fnC (f := 64) (binds := [(Str.ofString "shaped", .ref x), (Str.ofString "length", .int len tl)]) G ?ho ?hcd ?hroom ?hbind ?hloc ?hnd ?hbody ?hco ?hgen ?hk
  case ho => k_is
  case hcd => k_is
  case hroom => show dp < _; omega
  case hbind => rfl
  case hloc => rfl
  case hnd => decide
  case hco => rfl
  case hgen => rfl
  case hk => rfl
  intro h₁ tk cells E' F K N X0
  obtain ⟨oc, he, hoc⟩ := CellsAre.one X0
  subst he
  have X := G.X
  have T := G.T
  have hvl := hR.length
  tb_start
  (rename Fr _ _ _ _ => F1)
  (rename News _ _ _ _ => N1)
  rename_i dd hq0 od0 lo0 hs0 fs0 hid fi0 ltd hq1
  have hdc : dd ≠ s.heap.objs.size + 1 := Nat.ne_of_gt ltd
  refine for_go ?_
  tb_start
  refine for_list (h₀ := s.heap) (keepers := []) (fun i m nx => ∃ od kvs, nx = [(dd, od), (s.heap.objs.size + 1, oc)] ∧ od.IsDictOf (PySem.intKind PR w) kvs ∧ AdvIs kvs (rs.take i) ∧
      m (Str.ofString "advances") = some (.ref dd) ∧ m (Str.ofString "shaped") = some (.ref x) ∧ m (Str.ofString "length") = some (.int len tl)) rfl (fun h m F _ => isList_kp hl F.keep) F1 N1 ⟨od0, [], rfl, hid, advIs_nil, rfl, rfl, rfl⟩ ?turn ?done
  case turn =>
    rintro i v m₁ nx h2 tk2 I oI E2 hv hIlt hIne hJ0 F2 N2
    generalize hZ1 : TurnPost _ _ I _ _ _ _ = Z1
    revert Z1
    refine blk ?_
    intro Z1 hZ1
    show wpAny _ _ _ _ _ { s with heap := h2, toks := tk2 }
    obtain ⟨od, kvs, rfl, hod, hAd, hm1, hm2, hm3⟩ := hJ0
    obtain ⟨r, hr, hRv⟩ := paired_getL hR hv
    obtain ⟨bt, t1, t2, t3, t4, t5, t6, rfl, hTup⟩ := hRv
    tb_start
    (rename Fr _ _ _ _ => F3)
    (rename News _ _ _ _ => N3)
    refine dget_dflt (Heap.dictOf_iff.mpr ⟨od, (N3 (dd, od) (.tail _ (.head _))).1, hod⟩) lo0 ?_
    tb_start
    show wpAny _ _ (binaryOp .Add ((valueAt kvs r.c).getD (.int 0 ?_)) _) _ _ _
    rw [(hAd.dflt r.c _).choose_spec]
    generalize (hAd.dflt r.c _).choose = t7
    tb_start
    have hlk := hAd.len
    rw [List.length_take] at hlk
    refine set_item_N (pre := [_]) F3 N3 hod ?_ ?_ (by rw [sizeLine_eq]; omega) ?_
    · intro p hp; rw [List.mem_singleton.mp hp]; exact Ne.symm (hIne (dd, od) (.head _))
    · intro p hp; rw [List.mem_singleton.mp hp]; exact Ne.symm hdc
    intro h4 od4 F4 N4 hod4
    tb_start
    subst hZ1
    refine TurnEnd.intro F4 (nx' := [(dd, od4), (s.heap.objs.size + 1, oc)]) N4 ?_ ⟨od4, _, rfl, hod4, ?_, by tb_rel, by tb_rel, by tb_rel⟩
    · intro p hp
      rcases List.mem_cons.mp hp with rfl | hp
      · exact hIne (dd, od) (.head _)
      · rw [List.mem_singleton.mp hp]; exact hIne _ (.tail _ (.head _))
    · have : rs.take (i + 1) = rs.take i ++ [r] := by rw [List.take_add_one, hr]; rfl
      rw [this]; exact hAd.step
  case done =>
    rintro m₁ nx h2 tk2 ⟨od, kvs, rfl, hod, hAd, hm1, hm2, hm3⟩ F2 N2
    show wpAny _ _ _ _ _ { s with heap := h2, toks := tk2 }
    rw [hvl, List.take_length] at hAd
    tb_start
    refine ⟨G.X.keeps F2.keep, ?_⟩
    refine cs_spec (rs := rs) (vs := vs) (G.kp F2.keep) (S.kp F2.keep) (isList_kp hl F2.keep) (hR.kp F2.keep) hn (by show dp + 1 + 10 < recursionLimit; omega) ?_
    intro sd h3 tk3 dr st skvs sod fam hk3 hnew3 hsod hSp hfam hslo hFi
    show wpAny _ _ _ _ _ { s with heap := h3, toks := tk3, drawn := dr }
    have F3 := fr_kp F2 hk3
    have N3 : News s.heap s.heap.objs.size h3 (((sd, sod) :: fam) ++ [(dd, od), (s.heap.objs.size + 1, oc)]) := by
      intro p hp
      rcases List.mem_append.mp hp with q | q
      · obtain ⟨a1, a2⟩ := hnew3 p q
        refine ⟨a1, ?_, ?_⟩
        · intro e
          obtain ⟨oL, _, _, hL, _⟩ := F2.ns
          rw [show p.1 = _ from e] at a2
          exact absurd (hL.symm.trans a2) (by simp)
        · cases e : s.heap.get? p.1 with
          | none => rfl
          | some o => have := F2.keep _ _ e; rw [a2] at this; cases this
      · exact news_kp N2 hk3 p q
    tb_start
    (rename Fr _ _ _ _ => F4)
    (rename News _ _ _ _ => N4)
    rename_i Pl hq2 lt4 hq3
    have hcne0 : ∀ p ∈ (sd, sod) :: fam ++ [(dd, od)], p.1 ≠ s.heap.objs.size + 1 := by
      intro p hp e
      rcases List.mem_append.mp hp with q | q
      · have := (hnew3 p q).2
        rw [e, (N2 (s.heap.objs.size + 1, oc) (.tail _ (.head _))).1] at this
        cases this
      · rw [List.mem_singleton.mp q] at e; exact hdc e
    have hcne : ∀ p ∈ (Pl, W.listOf #[] 0) :: ((sd, sod) :: fam ++ [(dd, od)]), p.1 ≠ s.heap.objs.size + 1 := by
      intro p hp
      rcases List.mem_cons.mp hp with rfl | hp
      · exact Nat.ne_of_gt (lt4 (s.heap.objs.size + 1, oc) (List.mem_append_right _ (.tail _ (.head _))))
      · exact hcne0 p hp
    have hPne : ∀ p ∈ (sd, sod) :: fam ++ [(dd, od)], p.1 ≠ Pl := fun p hp => Nat.ne_of_lt (lt4 p (by
      rcases List.mem_append.mp hp with q | q
      · exact List.mem_append_left _ q
      · exact List.mem_append_right _ (by rw [List.mem_singleton.mp q]; exact .head _)))
    refine store_cell_N (c := s.heap.objs.size + 1) (o := oc) (pre := (Pl, W.listOf #[] 0) :: ((sd, sod) :: fam ++ [(dd, od)])) (post := []) F4 (by simpa [List.append_assoc] using N4) rfl hcne (fun _ hp => nomatch hp) hoc ?_
    intro h5 oc5 F5 N5 hoc5
    have hsp := hFi.len_le
    have hkv : skvs.map (·.1) = st := by rw [keys_of (fun _ _ q => q.1) hSp, spansOf_fst]
    tb_start
    refine for_go ?_
    tb_start
    refine sorted_dict rfl hslo (Heap.dictOf_iff.mpr ⟨sod, (N5 (sd, sod) (.tail _ (.head _))).1, hsod⟩) (by rw [← List.length_map (f := (·.1)), hkv]; omega) ?_
    intro Ls h6 tk6 vs6 st6 n6 hk6 hLs hoL hi6 hp6 hs6
    show wpAny _ _ _ _ _ { s with heap := h6, toks := tk6, drawn := dr }
    rw [hkv] at hp6
    have est : st6 = st := strict_ext (strict_of hs6 (hp6.nodup_iff.mpr hFi.nd)) hFi.up fun k => hp6.mem_iff
    subst est
    have F6 := fr_kp F5 hk6
    have N6 := news_new F5 N5 hk6 hLs hoL
    have hLne : ∀ p ∈ (Pl, W.listOf #[] 0) :: ((sd, sod) :: fam ++ [(dd, od)]) ++ [(s.heap.objs.size + 1, oc5)], p.1 ≠ Ls := by
      intro p hp e
      have := (N5 p hp).1
      rw [e, hLs] at this; cases this
    have hvl6 := hi6.length
    tb_start
    refine for_list (h₀ := s.heap) (keepers := (Ls, W.listOf vs6.toArray n6) :: ((sd, sod) :: fam ++ [(dd, od)])) (vs := vs6) (fun i m nx => ∃ n pvs oc7 t7, nx = [(Pl, W.listOf pvs.toArray n), (s.heap.objs.size + 1, oc7)] ∧ IntsAre pvs (caretFold rs ((spansOf st6 len).take i)).1 ∧
        oc7.data = .cell (some (.int (caretFold rs ((spansOf st6 len).take i)).2 t7)) ∧
        m (Str.ofString "advances") = some (.ref dd) ∧ m (Str.ofString "shaped") = some (.ref x) ∧ m (Str.ofString "spans") = some (.ref sd) ∧ m (Str.ofString "places") = some (.ref Pl)) rfl
      (fun h m F N => list_of_obj (N _ (.head _)).1) F6 (?nn : News _ _ _ (_ ++ [(Pl, W.listOf #[] 0), (s.heap.objs.size + 1, oc5)])) ⟨0, [], oc5, _, rfl, .nil, hoc5, by tb_rel, by tb_rel, by tb_rel, by tb_rel⟩ ?turn2 ?done2
    case nn => exact news_sub N6 prm1
    case turn2 =>
      rintro i v m₁ nx h7 tk7 I oI E7 hv hIlt hIne hJ0 F7 N7
      generalize hZ2 : TurnPost _ _ I _ _ _ _ = Z2
      revert Z2
      refine blk ?_
      intro Z2 hZ2
      show wpAny _ _ _ _ _ { s with heap := h7, toks := tk7, drawn := dr }
      obtain ⟨n7, pvs, oc7, t7, rfl, hpi, hoc7, hn1, hn2, hn3, hn4⟩ := hJ0
      obtain ⟨k, tk', rfl, hk⟩ : ∃ k t, v = .int k t ∧ st6[i]? = some k := by
        have hi' : i < st6.length := by
          have := (List.getElem?_eq_some_iff.mp hv).1; omega
        obtain ⟨t, e⟩ := hi6.get i st6[i] (List.getElem?_eq_getElem hi')
        rw [hv] at e
        exact ⟨_, t, Option.some.inj e, List.getElem?_eq_getElem hi'⟩
      tb_start
      (rename Fr _ _ _ _ => F8)
      (rename News _ _ _ _ => N8)
      obtain ⟨hik, hek⟩ := List.getElem?_eq_some_iff.mp hk
      obtain ⟨sp, hsp1⟩ : ∃ sp, (spansOf st6 len)[i]? = some sp := ⟨_, List.getElem?_eq_getElem (by rw [spansOf_length]; exact hik)⟩
      obtain ⟨hk1, hk2, hk3, hk4, hk5⟩ := spans_in hFi hc hsp1
      obtain ⟨⟨k', tv⟩, hkv1, hkv2, hkv3⟩ := paired_get hSp hsp1
      have hkk : k' = k := by
        have : k' = sp.1 := hkv2
        rw [this]; rw [hk] at hk1; exact (Option.some.inj hk1).symm
      subst hkk
      have hks : k' = sp.1 := hkv2
      obtain ⟨tt, ta, tb, ntt, rfl, htt⟩ := hkv3
      have hmm : ∀ p ∈ (sd, sod) :: fam ++ [(dd, od)], p ∈ (I, oI) :: ((Ls, W.listOf vs6.toArray n6) :: ((sd, sod) :: fam ++ [(dd, od)]) ++ [(Pl, W.listOf pvs.toArray n7), (s.heap.objs.size + 1, oc7)]) := fun p hp => .tail _ (List.mem_append_left _ (.tail _ hp))
      refine ditem (kvs := skvs) (Heap.dictOf_iff.mpr ⟨sod, (N8 (sd, sod) (hmm _ (.head _))).1, hsod⟩) (valueAt_of_get (by rw [hkv]; exact hFi.nd) hkv1) ?_
      refine unpack_N rfl ⟨_, (N8 _ (hmm _ (List.mem_append_left _ (.tail _ htt)))).1, rfl, _, rfl⟩ fun h9 hk9 => ?_
      replace F8 := fr_kp F8 hk9
      replace N8 := news_kp N8 hk9
      tb_start
      (rename Fr _ _ _ _ => F9)
      (rename News _ _ _ _ => N9)
      refine for_go ?_
      tb_start
      refine range2_kp ?_
      intro r t10 h10 k10 hr10 hk10
      show wpAny _ _ _ _ _ { s with heap := h10, toks := k10, drawn := dr }
      replace F9 := fr_kp F9 hk10
      replace N9 := news_kp N9 hk10
      tb_start
      refine for_range (h₀ := s.heap) (n := (sp.2 - sp.1).toNat) (fun j m nx => ∃ n pvs, nx = (Pl, W.listOf pvs.toArray n) :: (s.heap.objs.size + 1, oc7) :: (I, oI) :: (Ls, W.listOf vs6.toArray n6) :: ((sd, sod) :: fam ++ [(dd, od)]) ∧ IntsAre pvs ((caretFold rs ((spansOf st6 len).take i)).1 ++ pieceN (caretFold rs ((spansOf st6 len).take i)).2 (advOf rs sp.1) sp j) ∧
          m (Str.ofString "advances") = some (.ref dd) ∧ m (Str.ofString "shaped") = some (.ref x) ∧ m (Str.ofString "spans") = some (.ref sd) ∧ m (Str.ofString "places") = some (.ref Pl) ∧
          (∃ t, m (Str.ofString "cluster") = some (.int sp.1 t)) ∧ (∃ t, m (Str.ofString "first") = some (.int sp.1 t)) ∧ (∃ t, m (Str.ofString "behind") = some (.int sp.2 t)))
        rfl hr10 (by omega) (by omega) (by omega) (by omega) rfl F9 (?nn2 : News _ _ _ ((Pl, W.listOf pvs.toArray n7) :: (s.heap.objs.size + 1, oc7) :: (I, oI) :: (Ls, W.listOf vs6.toArray n6) :: ((sd, sod) :: fam ++ [(dd, od)]))) ⟨n7, pvs, rfl, by simpa [pieceN] using hpi, by tb_rel, by tb_rel, by tb_rel, by tb_rel, ⟨tk', by rw [← hks]; tb_rel⟩, ⟨_, by tb_rel⟩, ⟨_, by tb_rel⟩⟩ ?turn3 ?done3
      case nn2 => exact news_sub N9 prm2
      case turn3 =>
        rintro j m₂ nx h11 tk11 t11 J2 oJ2 E11 hj hIlt2 hIne2 hJ0 F11 N11
        generalize hZ3 : TurnPost _ _ J2 _ _ _ _ = Z3
        revert Z3
        refine blk ?_
        intro Z3 hZ3
        show wpAny _ _ _ _ _ { s with heap := h11, toks := tk11, drawn := dr }
        obtain ⟨n12, pvs2, rfl, hpi2, hq1, hq2, hq3, hq4, ⟨u1, hq5⟩, ⟨u2, hq6⟩, ⟨u3, hq7⟩⟩ := hJ0
        tb_start
        (rename Fr _ _ _ _ => F12)
        (rename News _ _ _ _ => N12)
        have hmD : (dd, od) ∈ (sd, sod) :: fam ++ [(dd, od)] := List.mem_append_right _ (.head _)
        have hmm2 : ∀ p ∈ (sd, sod) :: fam ++ [(dd, od)], p ∈ (J2, oJ2) :: (Pl, W.listOf pvs2.toArray n12) :: (s.heap.objs.size + 1, oc7) :: (I, oI) :: (Ls, W.listOf vs6.toArray n6) :: ((sd, sod) :: fam ++ [(dd, od)]) := fun p hp => .tail _ (.tail _ (.tail _ (.tail _ (.tail _ hp))))
        obtain ⟨ta', hta⟩ := hAd.has sp.1 hk5
        refine ditem (kvs := kvs) (Heap.dictOf_iff.mpr ⟨od, (N12 (dd, od) (hmm2 _ hmD)).1, hod⟩) hta ?_
        obtain ⟨hab1, hab2⟩ := advOf_bound hb hn sp.1
        tb_start
        have e0 : sp.1 + (j : Int) - sp.1 = (j : Int) := by omega
        rw [e0]
        have hlen2 : pvs2.length ≤ 3000 := by
          rw [hpi2.length, List.length_append, pieceN_length]
          have := caretFold_len rs ((spansOf st6 len).take i) ([], 0) fun sp' hsp' => by
            obtain ⟨q, hq⟩ := List.mem_iff_getElem?.mp (List.mem_of_mem_take hsp')
            have := spans_in hFi hc hq
            omega
          rw [List.length_take, spansOf_length] at this
          unfold caretFold
          simp only [List.length_nil] at this
          omega
        have hA1 : ∀ p ∈ [(J2, oJ2)], p.1 ≠ Pl := by
          intro p hp
          rw [List.mem_singleton.mp hp]; exact Ne.symm (hIne2 (Pl, W.listOf pvs2.toArray n12) (.head _))
        have hA2 : ∀ p ∈ (s.heap.objs.size + 1, oc7) :: (I, oI) :: (Ls, W.listOf vs6.toArray n6) :: ((sd, sod) :: fam ++ [(dd, od)]), p.1 ≠ Pl := by
          intro p hp
          rcases List.mem_cons.mp hp with rfl | hp
          · exact Ne.symm (hcne (Pl, W.listOf #[] 0) (.head _))
          · rcases List.mem_cons.mp hp with rfl | hp
            · exact Ne.symm (hIne (Pl, W.listOf pvs.toArray n7) (.head _))
            · rcases List.mem_cons.mp hp with rfl | hp
              · exact Ne.symm (hLne (Pl, W.listOf #[] 0) (.head _))
              · exact hPne p hp
        have hA3 : pvs2.toArray.size ≤ sizeLine := by rw [sizeLine_eq, List.size_toArray]; omega
        refine append_N (pre := [(J2, oJ2)]) (post := (s.heap.objs.size + 1, oc7) :: (I, oI) :: (Ls, W.listOf vs6.toArray n6) :: ((sd, sod) :: fam ++ [(dd, od)])) (L := s.heap.objs.size) (h₀ := s.heap) F12 N12 hA1 hA2 hA3 ?_
        intro h13 n13 F13 N13
        rw [List.push_toArray] at N13
        tb_start
        subst hZ3
        apply TurnEnd.intro F13 N13
        · intro p hp
          rcases List.mem_cons.mp hp with rfl | hp
          · exact hIne2 (Pl, W.listOf pvs2.toArray n12) (.head _)
          · exact hIne2 p (.tail _ hp)
        · refine ⟨n13, _, rfl, ?_, by tb_rel, by tb_rel, by tb_rel, by tb_rel, ⟨_, by tb_rel⟩, ⟨_, by tb_rel⟩, ⟨_, by tb_rel⟩⟩
          rw [pieceN_succ, ← List.append_assoc]
          exact ints_snoc hpi2 _ _
      case done3 =>
        rintro m₂ nx h11 tk11 ⟨n12, pvs2, rfl, hpi2, hq1, hq2, hq3, hq4, ⟨u1, hq5⟩, ⟨u2, hq6⟩, ⟨u3, hq7⟩⟩ F11 N11
        show wpAny _ _ _ _ _ { s with heap := h11, toks := tk11, drawn := dr }
        tb_start
        have hmD : (dd, od) ∈ (sd, sod) :: fam ++ [(dd, od)] := List.mem_append_right _ (.head _)
        have hmm2 : ∀ p ∈ (sd, sod) :: fam ++ [(dd, od)], p ∈ (Pl, W.listOf pvs2.toArray n12) :: (s.heap.objs.size + 1, oc7) :: (I, oI) :: (Ls, W.listOf vs6.toArray n6) :: ((sd, sod) :: fam ++ [(dd, od)]) := fun p hp => .tail _ (.tail _ (.tail _ (.tail _ hp)))
        obtain ⟨ta', hta⟩ := hAd.has sp.1 hk5
        refine ditem (kvs := kvs) (Heap.dictOf_iff.mpr ⟨od, (N11 (dd, od) (hmm2 _ hmD)).1, hod⟩) hta ?_
        tb_start
        have hB1 : ∀ p ∈ [(Pl, W.listOf pvs2.toArray n12)], p.1 ≠ s.heap.objs.size + 1 := by
          intro p hp
          rw [List.mem_singleton.mp hp]; exact hcne (Pl, W.listOf #[] 0) (.head _)
        have hB2 : ∀ p ∈ (I, oI) :: (Ls, W.listOf vs6.toArray n6) :: ((sd, sod) :: fam ++ [(dd, od)]), p.1 ≠ s.heap.objs.size + 1 := by
          intro p hp
          rcases List.mem_cons.mp hp with rfl | hp
          · exact Ne.symm (hIne (s.heap.objs.size + 1, oc7) (.tail _ (.head _)))
          · rcases List.mem_cons.mp hp with rfl | hp
            · exact Ne.symm (hLne (s.heap.objs.size + 1, oc5) (List.mem_append_right _ (.head _)))
            · exact hcne0 p hp
        refine store_cell_N (c := s.heap.objs.size + 1) (o := oc7) (pre := [(Pl, W.listOf pvs2.toArray n12)]) (post := (I, oI) :: (Ls, W.listOf vs6.toArray n6) :: ((sd, sod) :: fam ++ [(dd, od)])) (L := s.heap.objs.size) (h₀ := s.heap) F11 N11 rfl hB1 hB2 hoc7 ?_
        intro h13 oc13 F13 N13 hoc13
        tb_start
        have hts : (spansOf st6 len).take (i + 1) = (spansOf st6 len).take i ++ [sp] := by rw [List.take_add_one, hsp1]; rfl
        have hcs : caretFold rs ((spansOf st6 len).take (i + 1)) = caretStep rs (caretFold rs ((spansOf st6 len).take i)) sp := by rw [hts, caretFold_snoc]
        have N14 := news_sub N13 prm3
        subst hZ2
        apply TurnEnd.intro F13 N14
        · intro p hp
          rcases List.mem_cons.mp hp with rfl | hp
          · exact hIne (Pl, W.listOf pvs.toArray n7) (.head _)
          · rw [List.mem_singleton.mp hp]; exact hIne (s.heap.objs.size + 1, oc7) (.tail _ (.head _))
        · have hp1 : IntsAre pvs2 (caretFold rs ((spansOf st6 len).take (i + 1))).1 := by rw [hcs]; exact hpi2
          obtain ⟨tq, hp2⟩ : ∃ tq, oc13.data = .cell (some (.int (caretFold rs ((spansOf st6 len).take (i + 1))).2 tq)) := ⟨_, by rw [hcs]; exact hoc13⟩
          refine ⟨n12, pvs2, oc13, _, rfl, hp1, hp2, by tb_rel, by tb_rel, by tb_rel, by tb_rel⟩
    case done2 =>
      rintro m₁ nx h7 tk7 ⟨n7, pvs, oc7, t7, rfl, hpi, hoc7, hn1, hn2, hn3, hn4⟩ F7 N7
      show wpAny _ _ _ _ _ { s with heap := h7, toks := tk7, drawn := dr }
      rw [hvl6, List.take_of_length_le (Nat.le_of_eq (spansOf_length _ _))] at hpi hoc7
      have hlen2 : pvs.length ≤ 3000 := by
        rw [hpi.length]
        have := caretFold_len rs (spansOf st6 len) ([], 0) fun sp' hsp' => by
          obtain ⟨q, hq⟩ := List.mem_iff_getElem?.mp hsp'
          have := spans_in hFi hc hq
          omega
        rw [spansOf_length] at this
        unfold caretFold
        simp only [List.length_nil] at this
        omega
      tb_start
      have hA1 : ∀ p ∈ (Ls, W.listOf vs6.toArray n6) :: ((sd, sod) :: fam ++ [(dd, od)]), p.1 ≠ Pl := by
        intro p hp
        rcases List.mem_cons.mp hp with rfl | hp
        · exact Ne.symm (hLne (Pl, W.listOf #[] 0) (.head _))
        · exact hPne p hp
      have hA2 : ∀ p ∈ [(s.heap.objs.size + 1, oc7)], p.1 ≠ Pl := by
        intro p hp
        rw [List.mem_singleton.mp hp]; exact Ne.symm (hcne (Pl, W.listOf #[] 0) (.head _))
      have hA3 : pvs.toArray.size ≤ sizeLine := by rw [sizeLine_eq, List.size_toArray]; omega
      refine append_N (pre := (Ls, W.listOf vs6.toArray n6) :: ((sd, sod) :: fam ++ [(dd, od)])) (post := [(s.heap.objs.size + 1, oc7)]) (L := s.heap.objs.size) (h₀ := s.heap) F7 N7 hA1 hA2 hA3 ?_
      intro h8 n8 F8 N8
      rw [List.push_toArray] at N8
      have hPm : (Pl, W.listOf (pvs ++ [Value.int (caretFold rs (spansOf st6 len)).2 t7]).toArray n8) ∈ ((Ls, W.listOf vs6.toArray n6) :: ((sd, sod) :: fam ++ [(dd, od)])) ++ [(Pl, W.listOf (pvs ++ [Value.int (caretFold rs (spansOf st6 len)).2 t7]).toArray n8), (s.heap.objs.size + 1, oc7)] := List.mem_append_right _ (.head _)
      have hCm : (s.heap.objs.size + 1, oc7) ∈ ((Ls, W.listOf vs6.toArray n6) :: ((sd, sod) :: fam ++ [(dd, od)])) ++ [(Pl, W.listOf (pvs ++ [Value.int (caretFold rs (spansOf st6 len)).2 t7]).toArray n8), (s.heap.objs.size + 1, oc7)] := List.mem_append_right _ (.tail _ (.head _))
      have hpall := ints_snoc hpi (caretFold rs (spansOf st6 len)).2 t7
      tb_start
      · rename_i hbt
        refine comp_list (fun _ => true) (fun v y => ∃ k t t', v = Value.int k t ∧ y = Value.int ((caretFold rs (spansOf st6 len)).2 - k) t') rfl rfl (by decide) rfl (by decide) rfl ?_
        tb_start
        refine ⟨Pl, pvs ++ [Value.int (caretFold rs (spansOf st6 len)).2 t7], rfl, list_of_obj (N8 _ hPm).1, ?_, ?_, ?_, ?_⟩
        · rw [sizeLine_eq, List.length_append, List.length_singleton]; omega
        · intro C v s₃ m₃ E'' _ _ _ _
          exact wpAny_tests_nil ⟨rfl, keeps_rfl⟩
        · intro C v s₃ m₃ E'' hv _ hn₃ hm₃ hk₃
          obtain ⟨k, t, rfl⟩ := ints_mem hpall v hv
          have hcell : s₃.heap.IsCell (s.heap.objs.size + 1) (some (Value.int (caretFold rs (spansOf st6 len)).2 t7)) := ⟨_, hk₃ _ _ (N8 _ hCm).1, hoc7⟩
          exact wpAny_BinOp (nm_cell (c := s.heap.objs.size + 1) rfl hcell (nm_local hn₃ hm₃ (sub_int' ⟨⟨k, _, _, rfl, rfl⟩, keeps_toks⟩) rfl rfl rfl) rfl rfl rfl)
        · intro D h9 tk9 ys n9 hD ho hP hk9
          refine h D h9 _ dr ys n9 st6 (Kp.trans F8.keep hk9) ?_ ho ?_ ?_ hFi
          · cases e : s.heap.get? D with
            | none => rfl
            | some o => rw [F8.keep _ _ e] at hD; cases hD
          · rw [hbt]
            exact ints_sub hpall (paired_true hP)
          · have := (paired_true hP).length
            rw [List.length_append, List.length_singleton] at this
            have h2 : ys.toList.length = ys.size := by simp
            omega
      · rename_i hbf
        refine h Pl h8 _ dr _ n8 st6 F8.keep (N8 _ hPm).2.2 (N8 _ hPm).1 ?_ ?_ hFi
        · rw [show b = false by simpa using hbf]; exact hpall
        · rw [List.size_toArray, List.length_append, List.length_singleton]; omega
end
end
section
theorem fill_CG (w : World) : (hd.heap_39 w.params).In {} → PySem.Challenge.rw_nu0147_01.prog = PySem.Challenge.rw_nu0147_01.prog := by
  k_fill
  exact fun _ => rfl
section
variable {w : World} {mg mb : Str → Option Value} {dp un : Nat} {fr : Option (List Env)} {gd : Option (List Code)} {s : Shared} {Q E : Value → Shared → Prop}
def GroupIn (fam : List (Addr × Obj)) (v : Value) (gs : List Int) : Prop := ∃ (a : Addr) (ys : List Value) (n : Nat), v = .ref a ∧ (a, W.listOf ys.toArray n) ∈ fam ∧ IntsAre ys gs
def GroupAt (h : Heap) (v : Value) (gs : List Int) : Prop := ∃ (a : Addr) (ys : List Value) (n : Nat), v = .ref a ∧ h.get? a = some (W.listOf ys.toArray n) ∧ IntsAre ys gs
theorem GroupIn.mono {fam fam' : List (Addr × Obj)} {v : Value} {gs : List Int} (x : GroupIn fam v gs) (k : ∀ p ∈ fam, p ∈ fam') : GroupIn fam' v gs := let ⟨a, ys, n, e, i, r⟩ := x; ⟨a, ys, n, e, k _ i, r⟩
def GrpSt (fam : List (Addr × Obj)) (gvs : List Value) (gss : List (List Int)) : Prop :=
  (fam = [] ∧ gvs = [] ∧ gss = []) ∨ ∃ (a : Addr) (ys : List Value) (n : Nat) (older : List (Addr × Obj)) (gv0 : List Value) (l0 : List (List Int)) (gs0 : List Int),
    fam = (a, W.listOf ys.toArray n) :: older ∧ gvs = gv0 ++ [Value.ref a] ∧ gss = l0 ++ [gs0] ∧ IntsAre ys gs0 ∧ (∀ p ∈ older, p.1 ≠ a) ∧ Paired (GroupIn older) gv0 l0
theorem GrpSt.paired {fam : List (Addr × Obj)} {gvs : List Value} {gss : List (List Int)} (x : GrpSt fam gvs gss) : Paired (GroupIn fam) gvs gss := by
  rcases x with ⟨_, rfl, rfl⟩ | ⟨a, ys, n, older, gv0, l0, gs0, rfl, rfl, rfl, hi, _, hp⟩
  · exact .nil
  · exact paired_snoc (Paired.imp' (fun _ _ q => q.mono fun _ hp => .tail _ hp) hp) ⟨a, ys, n, rfl, .head _, hi⟩
def sameAt (rs : List RowV) (i : Nat) : Prop := 0 < i ∧ (rs[i]?).map (·.c) = (rs[i - 1]?).map (·.c)
def grpStep (rs : List RowV) (acc : List (List Int)) (i : Nat) : List (List Int) :=
  if 0 < i ∧ (rs[i]?).map (·.c) = (rs[i - 1]?).map (·.c) then acc.dropLast ++ [acc.getLastD [] ++ [((rs[i]?).map (·.g)).getD 0]] else acc ++ [[((rs[i]?).map (·.g)).getD 0]]
def grpFold (rs : List RowV) (n : Nat) : List (List Int) := (List.range n).foldl (grpStep rs) []
theorem grpFold_succ (rs : List RowV) (n : Nat) : grpFold rs (n + 1) = grpStep rs (grpFold rs n) n := by
  unfold grpFold; rw [List.range_succ, List.foldl_append]; rfl
theorem GrpSt.new {fam : List (Addr × Obj)} {gvs : List Value} {gss : List (List Int)} (x : GrpSt fam gvs gss) {a : Addr} {g : Int} {t : Tok} {n : Nat} (ha : ∀ p ∈ fam, p.1 ≠ a) :
    GrpSt ((a, W.listOf [Value.int g t].toArray n) :: fam) (gvs ++ [.ref a]) (gss ++ [[g]]) := .inr ⟨a, _, n, fam, gvs, gss, [g], rfl, rfl, rfl, .cons _ _ .nil, ha, x.paired⟩
theorem grpStep_ne (rs : List RowV) (acc : List (List Int)) (i : Nat) : grpStep rs acc i ≠ [] := by unfold grpStep; split <;> simp
theorem grpFold_ne (rs : List RowV) {i : Nat} (h : 0 < i) : grpFold rs i ≠ [] := by
  obtain ⟨j, rfl⟩ : ∃ j, i = j + 1 := ⟨i - 1, by omega⟩
  rw [grpFold_succ]; exact grpStep_ne _ _ _
theorem grpStep_new {rs : List RowV} {acc : List (List Int)} {i : Nat} (hi : i < rs.length) (h : ¬ 0 < i ∨ ∃ hj : i - 1 < rs.length, rs[i].c ≠ rs[i - 1].c) : grpStep rs acc i = acc ++ [[rs[i].g]] := by
  unfold grpStep
  rw [if_neg, List.getElem?_eq_getElem hi]
  · rfl
  · rintro ⟨q1, q2⟩
    rcases h with h | ⟨hj, h⟩
    · exact h q1
    · rw [List.getElem?_eq_getElem hi, List.getElem?_eq_getElem hj] at q2
      exact h (Option.some.inj q2)
theorem grpStep_same {rs : List RowV} {l0 : List (List Int)} {gs0 : List Int} {i : Nat} (hi : i < rs.length) (h0 : 0 < i) (h : rs[i].c = rs[i - 1].c) : grpStep rs (l0 ++ [gs0]) i = l0 ++ [gs0 ++ [rs[i].g]] := by
  unfold grpStep
  rw [if_pos ⟨h0, by rw [List.getElem?_eq_getElem hi, List.getElem?_eq_getElem (by omega : i - 1 < rs.length)]; simp [h]⟩, List.getElem?_eq_getElem hi]
  simp
theorem grp_size (rs : List RowV) {i : Nat} (h : ∀ gs ∈ grpFold rs i, gs.length ≤ i) : ∀ gs ∈ grpFold rs (i + 1), gs.length ≤ i + 1 := by
  intro gs hg
  rw [grpFold_succ] at hg
  unfold grpStep at hg
  split at hg
  · rcases List.mem_append.mp hg with q | q
    · have := h gs (List.dropLast_subset _ q); omega
    · rw [List.mem_singleton.mp q, List.length_append, List.length_singleton]
      by_cases e : grpFold rs i = []
      · rw [e]; simp
      · have : (grpFold rs i).getLastD [] ∈ grpFold rs i := by
          rw [List.getLastD_eq_getLast?, List.getLast?_eq_some_getLast e]
          exact List.getLast_mem e
        have := h _ this
        omega
  · rcases List.mem_append.mp hg with q | q
    · have := h gs q; omega
    · rw [List.mem_singleton.mp q]; simp
theorem ints_snoc' : ∀ {vs : List Value} {ns : List Int}, IntsAre vs ns → ∀ (x : Int) (t : Tok), IntsAre (vs ++ [.int x t]) (ns ++ [x])
  | _, _, .nil, _, _ => .cons _ _ .nil
  | _, _, .cons _ _ r, x, t => .cons _ _ (ints_snoc' r x t)
theorem allLt_at {d : Addr} {l : List (Addr × Obj)} (h : AllLt d l) : ∀ p ∈ l, p.1 < d := by
  induction l with
  | nil => intro p hp; cases hp
  | cons a r ih =>
    intro p hp
    have h1 : @LT.lt Nat _ a.1 d := h.1
    have h2 : AllLt d r := h.2
    rcases List.mem_cons.mp hp with e | e
    · rw [e]; exact h1
    · exact ih h2 p e
theorem cg_spec {x l : Addr} {b : Bool} {vs : List Value} {rs : List RowV} (G : Gd w mg mb s.heap) (S : ShapedAt s.heap x l b) (hl : s.heap.IsList l vs.toArray) (hR : RowsAt s.heap vs rs) (hn : rs.length ≤ 8)
    (hd : dp + 10 < recursionLimit)
    (h : ∀ D h' tk gvs n, Kp s.heap h' → s.heap.get? D = none → h'.get? D = some (W.listOf (List.toArray gvs) n) → Paired (GroupAt h') gvs (grpFold rs rs.length) → Q (.ref D) {s with heap := h', toks := tk}) :
    wpAny (model PR w) (AA dp un fr gd) (call (.ref 71) [.ref x] []) Q E s := by
  refine' call_fn (f := 71) (binds := [(Str.ofString "shaped", .ref x)]) G ?ho ?hcd ?hroom ?hbind ?hloc ?hbody ?hco ?hgen ?hk ?hcell
  case ho => k_is
  case hcd => k_is
  case hroom => show dp < _; omega
  case hbind => rfl
  case hloc => exact locs rfl
  case hcell => decide
  case hco => rfl
  case hgen => rfl
  case hk => rfl
  intro h₁ tk E' F K
  have N : News s.heap s.heap.objs.size h₁ [] := News.nil
  have X := G.X
  have T := G.T
  have hvl := hR.length
  tb_start
  (rename Fr _ _ _ _ => F1)
  (rename News _ _ _ _ => N1)
  rename_i Gl _ _ _
  refine for_go ?_
  tb_start
  refine len_base (by assumption) hl (by omega) ?_
  intro tl kl
  tb_start
  refine range1_kp ?_
  intro r t' u h' k hr hk'
  tb_start
  refine for_range (h₀ := s.heap) (n := rs.length) (fun i m nx => ∃ n gvs fam, nx = (Gl, W.listOf gvs.toArray n) :: fam ∧ GrpSt fam gvs (grpFold rs i) ∧ gvs.length ≤ i ∧ (∀ p ∈ fam, p.1 ≠ Gl) ∧ (∀ gs ∈ grpFold rs i, gs.length ≤ i) ∧ m (Str.ofString "shaped") = some (.ref x) ∧ m (Str.ofString "groups") = some (.ref Gl))
    rfl hr (by omega) (by omega) (by omega) (by omega) (by omega) (fr_kp F1 hk') (news_kp N1 hk') ⟨0, [], [], rfl, .inl ⟨rfl, rfl, rfl⟩, Nat.le_refl _, (fun _ hp => nomatch hp), (fun _ hp => nomatch hp), by tb_rel, by tb_rel⟩ ?turn ?done
  case turn =>
    rintro i m₁ nx h2 tk2 t2 I oI E2 hi hIlt hIne hJ0 F2 N2
    generalize hZ1 : TurnPost _ _ I _ _ _ _ = Z1
    revert Z1
    refine blk ?_
    intro Z1 hZ1
    show wpAny _ _ _ _ _ { s with heap := h2, toks := tk2 }
    obtain ⟨n, gvs, fam, rfl, hG, hgl, hfam, hsz, hm1, hm2⟩ := hJ0
    tb_start
    · rename_i hat
      (rename Fr _ _ _ _ => F3)
      have hat' : 0 < i := by
        have : (0 : Int) < 0 + (i : Int) := by simpa using hat
        omega
      refine sub_row F3 hl hR (i := i) (by omega) hi hn ?_
      intro v hv
      refine row_at1 (hv.kp F3.keep) ?_
      intro t9
      tb_start
      (rename Fr _ _ _ _ => F4)
      refine sub_row F4 hl hR (i := i - 1) (by omega) (by omega) hn ?_
      intro v' hv'
      refine row_at1 (hv'.kp F4.keep) ?_
      intro t10
      tb_start
      · rename_i hsame
        have hsame' : rs[i].c = rs[i - 1].c := by simpa using hsame
        (rename Fr _ _ _ _ => F5)
        (rename News _ _ _ _ => N5)
        rcases hG with ⟨_, _, q⟩ | ⟨a, ys, na, older, gv0, l0, gs0, rfl, rfl, hgs, hys, hol, hpo⟩
        · exact absurd q (grpFold_ne rs hat')
        refine sub_neg1 (list_of_obj (N5 (Gl, _) (.tail _ (.head _))).1) ?_
        refine meth_append (N5 (a, _) (.tail _ (.tail _ (.head _)))).1 ?_
        tb_start
        refine sub_row F5 hl hR (i := i) (by omega) hi hn ?_
        intro v5 hv5
        refine row_at0 (hv5.kp F5.keep) ?_
        intro t11
        tb_start
        have hz9 := hys.length
        have hz8 := hsz gs0 (by rw [hgs]; exact List.mem_append_right _ (.head _))
        have hB1 : ∀ p ∈ [(I, oI), (Gl, W.listOf (gv0 ++ [Value.ref a]).toArray n)], p.1 ≠ a := by
          intro p hp
          rcases List.mem_cons.mp hp with rfl | hp
          · exact Ne.symm (hIne (a, W.listOf ys.toArray na) (.tail _ (.head _)))
          · rw [List.mem_singleton.mp hp]; exact Ne.symm (hfam (a, W.listOf ys.toArray na) (.head _))
        refine append_N (l := a) (pre := [(I, oI), (Gl, W.listOf (gv0 ++ [Value.ref a]).toArray n)]) (post := older) (L := s.heap.objs.size) (h₀ := s.heap) F5 N5 hB1 hol (by rw [sizeLine_eq, List.size_toArray]; omega) ?_
        intro h6 n6 F6 N6
        rw [List.push_toArray] at N6
        have N7 : News s.heap s.heap.objs.size h6 ([(I, oI)] ++ (Gl, W.listOf (gv0 ++ [Value.ref a]).toArray n) :: (a, W.listOf (ys ++ [Value.int rs[i].g t11]).toArray n6) :: older) := N6
        tb_start
        subst hZ1
        refine TurnEnd.intro F6 (own := [(I, oI)]) N7 ?_ ⟨n, gv0 ++ [Value.ref a], _, rfl, ?_, ?_, ?_, grp_size rs hsz, by tb_rel, by tb_rel⟩
        · intro p hp
          rcases List.mem_cons.mp hp with rfl | hp
          · exact hIne (Gl, W.listOf (gv0 ++ [Value.ref a]).toArray n) (.head _)
          · rcases List.mem_cons.mp hp with rfl | hp
            · exact hIne (a, W.listOf ys.toArray na) (.tail _ (.head _))
            · exact hIne p (.tail _ (.tail _ hp))
        · rw [grpFold_succ, hgs, grpStep_same hi hat' hsame']
          exact .inr ⟨a, ys ++ [Value.int rs[i].g t11], n6, older, gv0, l0, gs0 ++ [rs[i].g], rfl, rfl, rfl, ints_snoc' hys _ _, hol, hpo⟩
        · omega
        · intro p hp
          rcases List.mem_cons.mp hp with rfl | hp
          · exact hfam (a, W.listOf ys.toArray na) (.head _)
          · exact hfam p (.tail _ hp)
      · rename_i hsame
        have hsame' : rs[i].c ≠ rs[i - 1].c := by simpa using hsame
        (rename Fr _ _ _ _ => F4')
        refine sub_row F4' hl hR (i := i) (by omega) hi hn ?_
        intro v5 hv5
        refine row_at0 (hv5.kp F4'.keep) ?_
        intro t11
        tb_start
        (rename Fr _ _ _ _ => F5)
        (rename News _ _ _ _ => N5)
        rename_i l' _ lt'
        refine append_N (l := Gl) (pre := [(l', W.listOf #[Value.int rs[i].g t11] 0), (I, oI)]) (post := fam) (L := s.heap.objs.size) (h₀ := s.heap) F5 N5 (fun p hp => ?_) hfam (by rw [sizeLine_eq, List.size_toArray]; omega) ?_
        · rcases List.mem_cons.mp hp with rfl | hp
          · exact Nat.ne_of_gt lt'.2.1
          · rw [List.mem_singleton.mp hp]; exact Ne.symm (hIne (Gl, W.listOf gvs.toArray n) (.head _))
        intro h6 n6 F6 N6
        rw [List.push_toArray] at N6
        have hlI : l' ≠ I := Nat.ne_of_gt lt'.1
        have hlf : ∀ p ∈ fam, p.1 ≠ l' := fun p hp => Nat.ne_of_lt (allLt_at lt'.2.2 p hp)
        have N7 := news_sub N6 prm4
        tb_start
        subst hZ1
        refine TurnEnd.intro F6 (own := [(I, oI)]) N7 ?_ ⟨n6, gvs ++ [Value.ref l'], _, rfl, ?_, ?_, ?_, grp_size rs hsz, by tb_rel, by tb_rel⟩
        · intro p hp
          rcases List.mem_cons.mp hp with rfl | hp
          · exact hIne (Gl, W.listOf gvs.toArray n) (.head _)
          · rcases List.mem_cons.mp hp with rfl | hp
            · exact hlI
            · exact hIne p (.tail _ hp)
        · rw [grpFold_succ, grpStep_new hi (.inr ⟨by omega, hsame'⟩)]
          exact hG.new hlf
        · rw [List.length_append, List.length_singleton]; omega
        · intro p hp
          rcases List.mem_cons.mp hp with rfl | hp
          · exact Nat.ne_of_gt lt'.2.1
          · exact hfam p hp
    · rename_i hat
      (rename Fr _ _ _ _ => F3)
      have hat' : ¬ 0 < i := by
        have : ¬ (0 : Int) < 0 + (i : Int) := by simpa using hat
        omega
      refine sub_row F3 hl hR (i := i) (by omega) hi hn ?_
      intro v hv
      refine row_at0 (hv.kp F3.keep) ?_
      intro t9
      tb_start
      (rename Fr _ _ _ _ => F5)
      (rename News _ _ _ _ => N5)
      rename_i l' _ lt'
      refine append_N (l := Gl) (pre := [(l', W.listOf #[Value.int rs[i].g t9] 0), (I, oI)]) (post := fam) (L := s.heap.objs.size) (h₀ := s.heap) F5 N5 (fun p hp => ?_) hfam (by rw [sizeLine_eq, List.size_toArray]; omega) ?_
      · rcases List.mem_cons.mp hp with rfl | hp
        · exact Nat.ne_of_gt lt'.2.1
        · rw [List.mem_singleton.mp hp]; exact Ne.symm (hIne (Gl, W.listOf gvs.toArray n) (.head _))
      intro h6 n6 F6 N6
      rw [List.push_toArray] at N6
      have hlI : l' ≠ I := Nat.ne_of_gt lt'.1
      have hlf : ∀ p ∈ fam, p.1 ≠ l' := fun p hp => Nat.ne_of_lt (allLt_at lt'.2.2 p hp)
      have N7 := news_sub N6 prm4
      tb_start
      subst hZ1
      refine TurnEnd.intro F6 (own := [(I, oI)]) N7 ?_ ⟨n6, gvs ++ [Value.ref l'], _, rfl, ?_, ?_, ?_, grp_size rs hsz, by tb_rel, by tb_rel⟩
      · intro p hp
        rcases List.mem_cons.mp hp with rfl | hp
        · exact hIne (Gl, W.listOf gvs.toArray n) (.head _)
        · rcases List.mem_cons.mp hp with rfl | hp
          · exact hlI
          · exact hIne p (.tail _ hp)
      · rw [grpFold_succ, grpStep_new hi (.inl hat')]
        exact hG.new hlf
      · rw [List.length_append, List.length_singleton]; omega
      · intro p hp
        rcases List.mem_cons.mp hp with rfl | hp
        · exact Nat.ne_of_gt lt'.2.1
        · exact hfam p hp
  case done =>
    rintro m₁ nx h2 tk2 ⟨n, gvs, fam, rfl, hG, hgl, hfam, hsz, hm1, hm2⟩ F2 N2
    show wpAny _ _ _ _ _ { s with heap := h2, toks := tk2 }
    tb_start
    refine h Gl h2 _ gvs n F2.keep (N2 _ (.head _)).2.2 (N2 _ (.head _)).1 (Paired.imp' (fun v gs q => ?_) hG.paired)
    obtain ⟨a, ys, nn, e, hm, hi⟩ := q
    exact ⟨a, ys, nn, e, (N2 _ (.tail _ hm)).1, hi⟩
end
end
section
theorem fill_DR (w : World) : (hd.heap_39 w.params).In {} → PySem.Challenge.rw_nu0147_01.prog = PySem.Challenge.rw_nu0147_01.prog := by
  k_fill
  exact fun _ => rfl
section
variable {w : World} {mg mb : Str → Option Value} {dp un : Nat} {fr : Option (List Env)} {gd : Option (List Code)} {s : Shared} {Q E : Value → Shared → Prop}
def wipe (h : Heap) (a : Addr) : Heap := h.update a fun o => { o with data := .freed }
theorem wipe_at (h : Heap) (a : Addr) : (wipe h a).get? a = none := by
  unfold wipe Heap.get? Heap.update
  simp only [Array.getElem?_modify]
  cases h.objs[a]? <;> simp
theorem wipe_ne {h : Heap} {a b : Addr} (e : b ≠ a) : (wipe h a).get? b = h.get? b := Heap.get?_update_other h _ (Ne.symm e)
theorem wipe_size (h : Heap) (a : Addr) : (wipe h a).objs.size = h.objs.size := by unfold wipe Heap.update; simp
/-- the pen: its list, the list of the cells -/
def PenOf (q : Addr) (oP oq : Obj) : Prop := ∃ a ta b tb n cells ns nq, oP = W.listOf #[.ref q, .int a ta, .int b tb] n ∧ oq = W.listOf (List.toArray cells) nq ∧ IntsAre cells ns ∧ cells.length ≤ 63
theorem dr_spec {hc : Heap} {P q : Addr} {oP oq : Obj} {many : Int} {tm : Tok} {frl : List Env} (G : Gd w mg mb hc) (k : Kp hc s.heap) (hPc : hc.get? P = none) (hqc : hc.get? q = none) (hPq : P ≠ q)
    (hP : s.heap.get? P = some oP) (hq : s.heap.get? q = some oq) (hpen : PenOf q oP oq) (hm : 0 < many) (hm2 : many < 2 ^ 40) (hd : dp + 200 < recursionLimit) (hu : un < 5000) (hS : hc.NoSeer)
    (h : ∀ h' tk d t oP' oq', 0 ≤ d → d < many → PenOf q oP' oq' → h'.get? P = some oP' → h'.get? q = some oq' → (∀ b o, b ≠ P → b ≠ q → s.heap.get? b = some o → h'.get? b = some o) → Q (.int d t) {s with heap := h', toks := tk}) :
    wpAny (model PR w) (AA dp un (some frl) gd) (call (.ref 83) [.ref P, .int many tm] []) Q E s := by
  have Gs := G.kp k
  refine' call_fn (f := 83) (binds := [(Str.ofString "pen", .ref P), (Str.ofString "many", .int many tm)]) Gs ?ho ?hcd ?hroom ?hbind ?hloc ?hbody ?hco ?hgen ?hk ?hcell
  case ho => k_is
  case hcd => k_is
  case hroom => show dp < _; omega
  case hbind => rfl
  case hloc => exact locs rfl
  case hcell => decide
  case hco => rfl
  case hgen => rfl
  case hk => rfl
  intro h₁ tk E' F0 K0
  obtain ⟨a, ta, b, tb, n, cells, ns, nq, rfl, rfl, hi, h63⟩ := hpen
  have hPs := Heap.lt_size hP
  have hqs := Heap.lt_size hq
  let hb := wipe (wipe s.heap P) q
  have hbP : hb.get? P = none := by show (wipe _ q).get? P = none; rw [wipe_ne hPq, wipe_at]
  have hbq : hb.get? q = none := wipe_at _ _
  have hbo : ∀ c, c ≠ P → c ≠ q → hb.get? c = s.heap.get? c := fun c e1 e2 => by show (wipe _ q).get? c = _; rw [wipe_ne e2, wipe_ne e1]
  have hbk : Kp hb s.heap := fun c o e => by
    by_cases e1 : c = P
    · rw [e1, hbP] at e; cases e
    · by_cases e2 : c = q
      · rw [e2, hbq] at e; cases e
      · rw [hbo c e1 e2] at e; exact e
  have hck : Kp hc hb := fun c o e => by
    rw [hbo c (fun x => by rw [x, hPc] at e; cases e) (fun x => by rw [x, hqc] at e; cases e)]
    exact k c o e
  have Gb := G.kp hck
  have hbs : hb.objs.size = s.heap.objs.size := by show (wipe (wipe s.heap P) q).objs.size = _; rw [wipe_size, wipe_size]
  have F : Fr hb s.heap.objs.size h₁ _ := ⟨F0.ns, Kp.trans hbk F0.keep, by rw [hbs]; exact Nat.le_refl _⟩
  have N : News hb s.heap.objs.size h₁ [(P, W.listOf #[.ref q, .int a ta, .int b tb] n), (q, W.listOf (List.toArray cells) nq)] := by
    intro p hp
    rcases List.mem_cons.mp hp with rfl | hp
    · exact ⟨F0.keep _ _ hP, Nat.ne_of_lt hPs, hbP⟩
    · rw [List.mem_singleton.mp hp]; exact ⟨F0.keep _ _ hq, Nat.ne_of_lt hqs, hbq⟩
  have hbP' := hbP
  clear_value hb
  clear F0 G Gs
  have X := Gb.X
  have T := Gb.T
  have hqP : ∀ p ∈ [(q, W.listOf (List.toArray cells) nq)], p.1 ≠ P := fun p hp => by rw [List.mem_singleton.mp hp]; exact Ne.symm hPq
  tb_start
  refine set_at_N (l := P) (pre := []) (post := [(q, W.listOf (List.toArray cells) nq)]) F N (fun _ hp => nomatch hp) hqP (by decide) (by simp) (by rw [sizeLine_eq]; simp) ?_
  intro h2 F2 N2'
  have N2 : ∃ t2, News hb s.heap.objs.size h2 [(P, W.listOf #[.ref q, .int (a + 1) t2, .int b tb] n), (q, W.listOf (List.toArray cells) nq)] := ⟨_, N2'⟩
  clear N2' N F
  obtain ⟨t2, N2⟩ := N2
  tb_start
  case' hbody.refine_1.refine'_4.refine'_4.refine'_4.refine_1.refine'_4.refine'_5.refine_2.refine_1.refine'_4.refine'_6 =>
    rename_i hne
    (rename Fr _ _ _ _ => F3)
    (rename News _ _ _ _ => N3)
    rename_i l' _ _
    obtain ⟨c, tc, cs, ns', rfl, hi'⟩ : ∃ c tc cs ns', cells = Value.int c tc :: cs ∧ IntsAre cs ns' := by
      cases hi with
      | nil => simp at hne
      | cons c tc hi' => exact ⟨c, tc, _, _, rfl, hi'⟩
    refine kl_popAt (k := 0) (p := []) (y := .int c tc) (q := cs) (n := nq) (its := (Value.int c tc :: cs).toArray) F3 N3 rfl (by simp [seqIndex?]) rfl (by k_upd) (by rw [sizeLine_eq]; simp at h63 ⊢; omega) ?_
    intro h4 F4 N4
    tb_start
    refine set_at_N (l := P) (pre := [(l', W.listOf #[] 0)]) (post := [(q, W.listOf (([] : List Value) ++ cs).toArray (nq + 1))]) F4 N4 (fun p hp => ?_) (fun p hp => ?_) (by decide) (by simp) (by rw [sizeLine_eq]; simp) ?_
    · rw [List.mem_singleton.mp hp]
      intro (e : l' = P)
      have e1 := (N4 (l', W.listOf #[] 0) (.head _)).1
      have e2 := (N4 (P, _) (.tail _ (.head _))).1
      dsimp only at e1 e2
      rw [e, e2] at e1
      simp at e1
    · rw [List.mem_singleton.mp hp]; exact Ne.symm hPq
    intro h5 F5 N5'
    have N5 : News hb s.heap.objs.size h5 [(P, W.listOf #[.ref q, .int (a + 1) t2, .int c tc] n), (q, W.listOf cs.toArray (nq + 1))] := news_sub N5' fun p hp => .tail _ hp
    have h63' : cs.length ≤ 63 := by simp at h63; omega
    clear N5' N4 F4 N3 F3 hi h63
    have hi := hi'
    have h63 := h63'
    tb_start
  case' hbody.refine_1.refine'_4.refine'_4.refine'_4.refine_1.refine'_4.refine'_5.refine_1.refine'_9.refine'_4 =>
    (rename News _ _ _ _ => N3)
    have N5 := news_sub N3 fun p hp => .tail _ hp
    clear N3
  all_goals walk1
  all_goals tb_start
  all_goals walk1
  all_goals tb_start
  all_goals (rename Fr _ _ _ _ => F6)
  all_goals (rename News _ _ _ _ => N6)
  all_goals (refine floordiv_int (by omega) ?_ (Or.inr (PylongRoom.of (T.nolimit.keeps F6.keep) (by show dp + 1 + 100 < _; omega) (PySem.SeerAt.of ((hS.keeps hck).keeps F6.keep) rfl rfl rfl rfl rfl rfl))))
  all_goals tb_start
  all_goals (refine set_at_N (l := P) (pre := []) (post := [(q, _)]) F6 N6 (fun _ hp => nomatch hp) (fun p hp => by rw [List.mem_singleton.mp hp]; exact Ne.symm hPq) (by decide) (by simp) (by rw [sizeLine_eq]; simp) ?_)
  all_goals intro h7 F7 N7
  all_goals tb_start
  all_goals (exact h h7 _ _ _ _ _ (Int.fmod_nonneg_of_pos _ hm) (Int.fmod_lt_of_pos _ hm) ⟨_, _, _, _, _, _, _, _, rfl, rfl, hi, h63⟩ (N7 _ (.head _)).1 (N7 _ (.tail _ (.head _))).1 (fun b o e1 e2 e => F7.keep _ _ (by rw [hbo b e1 e2]; exact e)))
end
end
section
theorem fill_PK (w : World) : (hd.heap_39 w.params).In {} → PySem.Challenge.rw_nu0147_01.prog = PySem.Challenge.rw_nu0147_01.prog := by
  k_fill
  exact fun _ => rfl
section
variable {w : World} {mg mb : Str → Option Value} {dp un : Nat} {fr : Option (List Env)} {gd : Option (List Code)} {s : Shared} {Q E : Value → Shared → Prop}
theorem pk_spec {hc : Heap} {P q l : Addr} {oP oq : Obj} {vs : List Value} {frl : List Env} (G : Gd w mg mb hc) (k : Kp hc s.heap) (hPc : hc.get? P = none) (hqc : hc.get? q = none) (hPq : P ≠ q)
    (hP : s.heap.get? P = some oP) (hq : s.heap.get? q = some oq) (hpen : PenOf q oP oq) (hl : s.heap.IsList l vs.toArray) (hlP : l ≠ P) (hlq : l ≠ q) (hm : 0 < vs.length) (hm2 : vs.length < 2 ^ 30) (hd : dp + 300 < recursionLimit) (hu : un < 4000) (hS : hc.NoSeer)
    (h : ∀ h' tk v oP' oq', v ∈ vs → PenOf q oP' oq' → h'.get? P = some oP' → h'.get? q = some oq' → (∀ b o, b ≠ P → b ≠ q → s.heap.get? b = some o → h'.get? b = some o) → Q v {s with heap := h', toks := tk}) :
    wpAny (model PR w) (AA dp un (some frl) gd) (call (.ref 90) [.ref P, .ref l] []) Q E s := by
  have Gs := G.kp k
  refine' call_fn (f := 90) (binds := [(Str.ofString "pen", .ref P), (Str.ofString "some", .ref l)]) Gs ?ho ?hcd ?hroom ?hbind ?hloc ?hbody ?hco ?hgen ?hk ?hcell
  case ho => k_is
  case hcd => k_is
  case hroom => show dp < _; omega
  case hbind => rfl
  case hloc => exact locs rfl
  case hcell => decide
  case hco => rfl
  case hgen => rfl
  case hk => rfl
  intro h₁ tk E' F K
  have N : News s.heap s.heap.objs.size h₁ [] := News.nil
  have X := Gs.X
  have T := Gs.T
  tb_start
  refine len_at (isList_kp hl K) rfl (by omega) ?_
  intro t5 k5
  tb_start
  refine ⟨X.keeps K, ?_⟩
  refine dr_spec G (Kp.trans k K) hPc hqc hPq (K _ _ hP) (K _ _ hq) hpen (by omega) (by omega) (by show dp + 1 + 200 < _; omega) (by show un + 3 < _; omega) hS ?_
  intro h2 tk2 d t oP' oq' h0 h1 hpen' hP' hq' hk'
  have hlt : d.toNat < vs.length := by omega
  refine sub_list (v := vs[d.toNat]) (vs := vs) (by obtain ⟨o, ho, r⟩ := isList_kp hl K; exact ⟨o, hk' _ _ hlP hlq ho, r⟩) h0 (by omega) (List.getElem?_eq_getElem hlt) ?_
  tb_start
  exact h h2 _ _ oP' oq' (List.getElem_mem hlt) hpen' hP' hq' (fun b o e1 e2 e => hk' b o e1 e2 (K b o e))
end
end
section
theorem fill_PN (w : World) : (hd.heap_39 w.params).In {} → PySem.Challenge.rw_nu0147_01.prog = PySem.Challenge.rw_nu0147_01.prog := by
  k_fill
  exact fun _ => rfl
section
variable {w : World} {mg mb : Str → Option Value} {dp un : Nat} {fr : Option (List Env)} {gd : Option (List Code)} {s : Shared} {Q E : Value → Shared → Prop}
theorem ints_ex : ∀ {vs ys : List Value}, Paired (fun _ y => ∃ k t, y = Value.int k t) vs ys → ∃ ns, IntsAre ys ns
  | _, _, .nil => ⟨[], .nil⟩
  | _, _, .cons ⟨k, t, e⟩ r => by
    obtain ⟨ns, h⟩ := ints_ex r
    rw [e]
    exact ⟨_, .cons k t h⟩
theorem ints_no_ref {vs : List Value} {ns : List Int} {a : Addr} (h : IntsAre vs ns) : Value.ref a ∈ vs → False := by
  induction h with
  | nil => intro q; cases q
  | cons x t r ih =>
    intro q
    rcases List.mem_cons.mp q with e | q
    · cases e
    · exact ih q
theorem pn_spec {l : Addr} {vs : List Value} {ns : List Int} (G : Gd w mg mb s.heap) (hl : s.heap.IsList l vs.toArray) (hi : IntsAre vs ns) (h63 : vs.length ≤ 63) (hd : dp + 300 < recursionLimit) (hu : un < 4000) 
    (h : ∀ h' tk P q oP oq, Kp s.heap h' → s.heap.get? P = none → s.heap.get? q = none → P ≠ q → h'.get? P = some oP → h'.get? q = some oq → PenOf q oP oq → Q (.ref P) {s with heap := h', toks := tk}) :
    wpAny (model PR w) (AA dp un fr gd) (call (.ref 76) [.ref l] []) Q E s := by
  refine' call_fn (f := 76) (binds := [(Str.ofString "script", .ref l)]) G ?ho ?hcd ?hroom ?hbind ?hloc ?hbody ?hco ?hgen ?hk ?hcell
  case ho => k_is
  case hcd => k_is
  case hroom => show dp < _; omega
  case hbind => rfl
  case hloc => exact locs rfl
  case hcell => decide
  case hco => rfl
  case hgen => rfl
  case hk => rfl
  intro h₁ tk E' F K
  have N : News s.heap s.heap.objs.size h₁ [] := News.nil
  have X := G.X
  have T := G.T
  tb_start
  refine comp_list (fun _ => true) (fun v y => ∃ k t, y = Value.int k t) rfl rfl (by decide) rfl (by decide) rfl ?_
  tb_start
  (rename Fr _ _ _ _ => F1)
  (rename News _ _ _ _ => N1)
  rename_i D1 ws h2 hI1 hC1 hL1 _
  have hvl := hi.length
  have hwl := hI1.length
  refine ⟨D1, ws, rfl, list_of_obj (N1 _ (.head _)).1, by rw [sizeLine_eq]; omega, ?_, ?_, ?_⟩
  · intro C v s₃ m₃ E'' _ _ _ _
    exact wpAny_tests_nil ⟨rfl, keeps_rfl⟩
  · intro C v s₃ m₃ E'' hv _ hn₃ hm₃ hk₃
    have hG3 : Gd w mg mb s₃.heap := G.kp (Kp.trans F1.keep hk₃)
    obtain ⟨k, t, rfl⟩ : ∃ k t, v = Value.int k t := by
      clear hwl hC1 hL1 N1
      generalize List.take 63 ns = nz at hI1
      induction hI1 with
      | nil => cases hv
      | cons x t r ih =>
        rcases List.mem_cons.mp hv with rfl | hv
        · exact ⟨_, _, rfl⟩
        · exact ih hv
    tb_start
    walk1
    tb_start
    refine call_abs_int fun u5 tk5 => ?_
    tb_start
    walk1
    tb_start
    all_goals exact ⟨⟨_, _, rfl⟩, keeps_toks⟩
  · intro D h3 tk3 ys n3 hD ho hP hk3
    have F3 := fr_kp F1 hk3
    have N3 := news_new F1 N1 hk3 hD ho
    tb_start
    (rename Fr _ _ _ _ => F4)
    (rename News _ _ _ _ => N4)
    have hPt := paired_true hP
    have hns := ints_ex hPt
    obtain ⟨ns', hns⟩ := hns
    refine h _ _ _ D _ _ F4.keep (N4 _ (.head _)).2.2 (N4 _ (.tail _ (.head _))).2.2 ?_ (N4 _ (.head _)).1 (N4 _ (.tail _ (.head _))).1 ⟨0, _, 0, _, 0, ys.toList, ns', n3, rfl, by simp, hns, ?_⟩
    · intro e
      have e1 := (N4 _ (.head _)).1
      have e2 := (N4 _ (.tail _ (.head _))).1
      dsimp only at e1 e2
      rw [e, e2] at e1
      have e3 := hPt.length
      simp at e1
      have e4 := congrArg Array.toList e1.1
      have e5 : Value.ref D ∈ ys.toList := by
        first
          | (rw [← e4]; simp; done)
          | (rw [e4]; simp; done)
      exact ints_no_ref hns e5
    · have e3 := hPt.length
      omega
end
end
section
def lawDef : List Stmt × Scope := match PR.main.body.getLast? with
  | some (.FunctionDef _ _ b _ _ _ sc _ _ _) => (b, sc)
  | _ => ([], { kind := .function, names := [], isGenerator := false, isCoroutine := false })
def lawEnv (L : Addr) : Env := envOfC (Str.ofString "law") lawDef.2 L 95 (.ref 94)
def Has (h : Heap) (St : List (Addr × Obj)) : Prop := ∀ p ∈ St, h.get? p.1 = some p.2
theorem Has.sub {h : Heap} {St St' : List (Addr × Obj)} (x : Has h St') (k : ∀ p ∈ St, p ∈ St') : Has h St := fun p hp => x p (k p hp)
theorem Has.of {h₀ h : Heap} {L : Addr} {l St : List (Addr × Obj)} (N : News h₀ L h l) (k : ∀ p ∈ St, p ∈ l) : Has h St := fun p hp => (N p (k p hp)).1
/-- what else lies there: off the cells, off the pen -/
def Off (L P q : Addr) (St : List (Addr × Obj)) : Prop := ∀ p ∈ St, (∀ i : Nat, 1 ≤ i → i ≤ 9 → @Ne Nat p.1 (L + i)) ∧ @Ne Nat p.1 P ∧ @Ne Nat p.1 q
theorem Off.put {L P q : Addr} {St : List (Addr × Obj)} {a : Addr} {o : Obj} (x : Off L P q St) (h1 : ∀ i : Nat, 1 ≤ i → i ≤ 9 → @Ne Nat a (L + i)) (h2 : @Ne Nat a P) (h3 : @Ne Nat a q) : Off L P q ((a, o) :: St) := by
  intro p hp
  rcases List.mem_cons.mp hp with rfl | hp
  · exact ⟨h1, h2, h3⟩
  · exact x p hp
theorem Off.cons {L P q : Addr} {St : List (Addr × Obj)} {a : Addr} {o : Obj} (x : Off L P q St) (h1 : @LT.lt Nat _ (L + 9) a) (h2 : @Ne Nat a P) (h3 : @Ne Nat a q) : Off L P q ((a, o) :: St) :=
  x.put (fun i _ h9 e => by
    have e' : @Eq Nat a (L + i) := e
    omega) h2 h3
/-- an address off the frame and its cells -/
abbrev PL (L P : Addr) : Prop := @Ne Nat P L ∧ @Ne Nat P (L + 1) ∧ @Ne Nat P (L + 2) ∧ @Ne Nat P (L + 3) ∧ @Ne Nat P (L + 4) ∧ @Ne Nat P (L + 5) ∧ @Ne Nat P (L + 6) ∧ @Ne Nat P (L + 7) ∧ @Ne Nat P (L + 8) ∧ @Ne Nat P (L + 9)
abbrev ld (L P q : Addr) (oP oq c1 c2 c3 c4 c5 c6 c7 c8 c9 : Obj) (St : List (Addr × Obj)) : List (Addr × Obj) :=
  (P, oP) :: (q, oq) :: (L + 1, c1) :: (L + 2, c2) :: (L + 3, c3) :: (L + 4, c4) :: (L + 5, c5) :: (L + 6, c6) :: (L + 7, c7) :: (L + 8, c8) :: (L + 9, c9) :: St
theorem kc_nine {cm : Str → Option Value} {n₁ n₂ n₃ n₄ n₅ n₆ n₇ n₈ n₉ : Str} {c₁ c₂ c₃ c₄ c₅ c₆ c₇ c₈ c₉ : Addr} {cells : List (Addr × Obj)} (x : CellsAre cm [(n₁, c₁), (n₂, c₂), (n₃, c₃), (n₄, c₄), (n₅, c₅), (n₆, c₆), (n₇, c₇), (n₈, c₈), (n₉, c₉)] cells) :
    ∃ o₁ o₂ o₃ o₄ o₅ o₆ o₇ o₈ o₉, cells = [(c₁, o₁), (c₂, o₂), (c₃, o₃), (c₄, o₄), (c₅, o₅), (c₆, o₆), (c₇, o₇), (c₈, o₈), (c₉, o₉)] ∧ o₁.data = .cell (cm n₁) ∧ o₂.data = .cell (cm n₂) ∧ o₃.data = .cell (cm n₃) ∧ o₄.data = .cell (cm n₄) ∧ o₅.data = .cell (cm n₅) ∧ o₆.data = .cell (cm n₆) ∧ o₇.data = .cell (cm n₇) ∧ o₈.data = .cell (cm n₈) ∧ o₉.data = .cell (cm n₉) := by
  cases x with | cons h r => obtain ⟨o₂, o₃, o₄, o₅, o₆, o₇, o₈, o₉, rfl, h₂, h₃, h₄, h₅, h₆, h₇, h₈, h₉⟩ := kc_eight r; exact ⟨_, o₂, o₃, o₄, o₅, o₆, o₇, o₈, o₉, rfl, h, h₂, h₃, h₄, h₅, h₆, h₇, h₈, h₉⟩
end
section
theorem fill_IN (w : World) : (hd.heap_39 w.params).In {} → PySem.Challenge.rw_nu0147_01.prog = PySem.Challenge.rw_nu0147_01.prog := by
  k_fill
  exact fun _ => rfl
section
variable {w : World} {mg mb : Str → Option Value} {dp un : Nat} {fr : Option (List Env)} {gd : Option (List Code)} {s : Shared} {Q E : Value → Shared → Prop}
theorem code_fn {A : Around} {f : Addr} {args : List Value} {name qual : Str} {params : Arguments} {body : List Stmt} {scope : Scope} {dV kV doc pm cdv ct oc : Value} {an od : Option Addr} {osl : Array (Option Value)} {binds : List (Str × Value)} {R : Result → Shared → Prop}
    (G : Gd w mg mb s.heap)
    (ho : (hd.heap_39 w.params).lookup f = some ⟨oc, od, .func (fnOf name qual params body scope dV kV doc pm an cdv ct), osl⟩) (hcd : codeIn (hd.heap_39 w.params) cdv qual = true) (hroom : A.depth < recursionLimit)
    (hbind : bindArgs (fnOf name qual params body scope dV kV doc pm an cdv ct) ⟨args, []⟩ = pure binds) (hloc : ∀ y ∈ binds, scope.names.lookup y.1 = some .local)
    (h : ∀ h₁ tk E', Fr s.heap s.heap.objs.size h₁ (fun y => binds.reverse.lookup y) → Kp s.heap h₁ →
      wpAny (model PR w) (A.deeper (envOf qual scope s.heap.objs.size f cdv)) (execs body (envOf qual scope s.heap.objs.size f cdv))
        (fun fl s' => R (.ok (.ret (match fl with | .ret v => v | _ => .none))) s') E' { s with heap := h₁, toks := tk })
    (hco : scope.isCoroutine = false := by rfl) (hgen : scope.isGenerator = false := by rfl) (hk : scope.kind = .function := by rfl)
    (hcell : ∀ x ∈ scope.names, x.2 ≠ .cell := by decide) :
    codeAny (model PR w) A (.call (.ref f) ⟨args, []⟩) R s := by
  refine codeAny_call_def (fd := fnOf name qual params body scope dV kV doc pm an cdv ct) (body := body) (binds := binds) hroom (G.X _ _ ho) rfl G.T.nolimit (codeRec_of G.X hcd) rfl (BindsTo.of_eq hbind) hcell hloc (fun h₁ hns hk₁ => ?_) hco hgen hk
  exact h h₁ _ _ ⟨hns, hk₁, Nat.le_refl _⟩ hk₁
theorem in_spec {hc : Heap} {x dx l : Addr} {b : Bool} {R : Result → Shared → Prop} (G : Gd w mg mb hc) (k : Kp hc s.heap) (hxc : hc.get? x = none) (hdc : hc.get? dx = none) (hne : x ≠ dx) (hroom : dp < recursionLimit)
    (hx : s.heap.get? x = some (instObj 38 dx)) (hdx : s.heap.get? dx = some emptyDict)
    (h : ∀ h' tk hs1 hs2 t1 t2 n, (∀ c o, c ≠ dx → s.heap.get? c = some o → h'.get? c = some o) → h'.get? dx = some (dictOf [⟨hs1, .str (Str.ofString "rows") t1, .ref l⟩, ⟨hs2, .str (Str.ofString "is_backward") t2, .bool b⟩] n) → R (.ok (.ret .none)) {s with heap := h', toks := tk}) :
    codeAny (model PR w) (AA dp un fr gd) (.call (.ref 28) ⟨[.ref x, .ref l, .bool b], []⟩) R s := by
  have Gs := G.kp k
  refine' code_fn (f := 28) (binds := [(Str.ofString "self", .ref x), (Str.ofString "rows", .ref l), (Str.ofString "is_backward", .bool b)]) Gs ?ho ?hcd ?hroom ?hbind ?hloc ?hbody ?hco ?hgen ?hk ?hcell
  case ho => k_is
  case hcd => k_is
  case hroom => exact hroom
  case hbind => rfl
  case hloc => exact locs rfl
  case hcell => decide
  case hco => rfl
  case hgen => rfl
  case hk => rfl
  intro h₁ tk E' F0 K0
  have hxs := Heap.lt_size hx
  have hds := Heap.lt_size hdx
  let hb := wipe (wipe s.heap x) dx
  have hbx : hb.get? x = none := by show (wipe _ dx).get? x = none; rw [wipe_ne hne, wipe_at]
  have hbd : hb.get? dx = none := wipe_at _ _
  have hbo : ∀ c, c ≠ x → c ≠ dx → hb.get? c = s.heap.get? c := fun c e1 e2 => by show (wipe _ dx).get? c = _; rw [wipe_ne e2, wipe_ne e1]
  have hbk : Kp hb s.heap := fun c o e => by
    by_cases e1 : c = x
    · rw [e1, hbx] at e; cases e
    · by_cases e2 : c = dx
      · rw [e2, hbd] at e; cases e
      · rw [hbo c e1 e2] at e; exact e
  have hck : Kp hc hb := fun c o e => by
    rw [hbo c (fun y => by rw [y, hxc] at e; cases e) (fun y => by rw [y, hdc] at e; cases e)]
    exact k c o e
  have Gb := G.kp hck
  have hbs : hb.objs.size = s.heap.objs.size := by show (wipe (wipe s.heap x) dx).objs.size = _; rw [wipe_size, wipe_size]
  have F : Fr hb s.heap.objs.size h₁ _ := ⟨F0.ns, Kp.trans hbk F0.keep, by rw [hbs]; exact Nat.le_refl _⟩
  have N : News hb s.heap.objs.size h₁ [(x, instObj 38 dx), (dx, emptyDict)] := by
    intro p hp
    rcases List.mem_cons.mp hp with rfl | hp
    · exact ⟨F0.keep _ _ hx, Nat.ne_of_lt hxs, hbx⟩
    · rw [List.mem_singleton.mp hp]; exact ⟨F0.keep _ _ hdx, Nat.ne_of_lt hds, hbd⟩
  clear_value hb
  clear F0 G Gs
  have X := Gb.X
  have T := Gb.T
  tb_start
  (rename Fr _ _ _ _ => F9)
  (rename News _ _ _ _ => N9)
  refine h _ _ _ _ _ _ _ (fun c o e1 e => ?_) (N9 _ (.tail _ (.head _))).1
  by_cases e2 : c = x
  · subst e2; rw [hx] at e; cases e; exact (N9 _ (.head _)).1
  · exact F9.keep _ _ (by rw [hbo c e2 e1]; exact e)
/-- Shaped(rows, is_backward) -/
theorem mk_spec {hc : Heap} {l : Addr} {b : Bool} {L : Addr} {m : Str → Option Value} {news : List (Addr × Obj)} (G : Gd w mg mb hc) (F : Fr hc L s.heap m) (N : News hc L s.heap news) (hroom : dp + 10 < recursionLimit)
    (h : ∀ x dx h' tk od, Fr hc L h' m → News hc L h' ((x, instObj 38 dx) :: (dx, od) :: news) → (∀ p ∈ news, p.1 < dx) → dx < x → (∀ h, h.get? x = some (instObj 38 dx) → h.get? dx = some od → ShapedAt h x l b) → Q (.ref x) {s with heap := h', toks := tk}) :
    wpAny (model PR w) (AA dp un fr gd) (call (.ref 38) [.ref l, .bool b]) Q E s := by
  have X := G.X
  refine wpAny_call (make_K (K := hd.heap_39 w.params) (fI := 28) F N (X.keeps F.keep) (by k_is) (by k_is) (by k_is) fun x dx h3 F3 N3 lt3 lt4 => ?_)
  have hne : x ≠ dx := Nat.ne_of_gt lt4
  refine in_spec (G := G) F3.keep (N3 _ (.head _)).2.2 (N3 _ (.tail _ (.head _))).2.2 hne ?_ (N3 _ (.head _)).1 (N3 _ (.tail _ (.head _))).1 ?_
  · have e : (Code.builtin "type.__call__" ⟨[Value.ref 38, Value.ref l, Value.bool b], []⟩).weight = 1 := by rfl
    show dp + (Code.builtin "type.__call__" ⟨[Value.ref 38, Value.ref l, Value.bool b], []⟩).weight < recursionLimit
    rw [e]; omega
  · intro h' tk hs1 hs2 t1 t2 n hk hdx
    have hk3 : ∀ p ∈ (x, instObj 38 dx) :: news, h'.get? p.1 = some p.2 := fun p hp => by
      rcases List.mem_cons.mp hp with rfl | hp
      · exact hk _ _ hne (N3 _ (.head _)).1
      · exact hk _ _ (Nat.ne_of_lt (lt3 p hp)) (N3 p (.tail _ (.tail _ hp))).1
    have hLd : L ≠ dx := Ne.symm (N3 (dx, emptyDict) (.tail _ (.head _))).2.1
    refine ⟨rfl, h x dx h' tk (dictOf [⟨hs1, .str (Str.ofString "rows") t1, .ref l⟩, ⟨hs2, .str (Str.ofString "is_backward") t2, .bool b⟩] n) ⟨F3.ns.at' fun o e => hk _ _ hLd e, fun c o e => hk c o (fun q => ?_) (F3.keep c o e), F3.above⟩ (fun p hp => ?_) lt3 lt4 fun h9 e1 e2 => ⟨dx, hs1, hs2, t1, t2, n, e1, e2⟩⟩
    · rw [q, (N3 (dx, emptyDict) (.tail _ (.head _))).2.2] at e; cases e
    · rcases List.mem_cons.mp hp with rfl | hp
      · exact ⟨hk3 _ (.head _), (N3 _ (.head _)).2⟩
      · rcases List.mem_cons.mp hp with rfl | hp
        · exact ⟨hdx, (N3 (dx, emptyDict) (.tail _ (.head _))).2⟩
        · exact ⟨hk3 p (.tail _ hp), (N3 p (.tail _ (.tail _ hp))).2⟩
end
end
section
theorem fill_TO (w : World) : (hd.heap_39 w.params).In {} → PySem.Challenge.rw_nu0147_01.prog = PySem.Challenge.rw_nu0147_01.prog := by
  k_fill
  exact fun _ => rfl
section
variable {w : World} {mg mb : Str → Option Value} {dp un : Nat} {fr : Option (List Env)} {gd : Option (List Code)} {s : Shared} {Q E : Value → Shared → Prop}
theorem to_spec {x l : Addr} {b : Bool} {vs : List Value} (G : Gd w mg mb s.heap) (S : ShapedAt s.heap x l b) (hl : s.heap.IsList l vs.toArray) (hn : vs.length ≤ 64)
    (hd : dp + 10 < recursionLimit)
    (h : ∀ T T1 h' tk, Kp s.heap h' → s.heap.get? T = none → s.heap.get? T1 = none → IsTup h' T #[.ref T1, .bool b] → IsTup h' T1 vs.toArray → Q (.ref T) {s with heap := h', toks := tk}) : wpAny (model PR w) (AA dp un fr gd) (call (.ref 35) [.ref x] []) Q E s := by
  refine' call_fn (f := 35) (binds := [(Str.ofString "self", .ref x)]) G ?ho ?hcd ?hroom ?hbind ?hloc ?hbody ?hco ?hgen ?hk ?hcell
  case ho => k_is
  case hcd => k_is
  case hroom => show dp < _; omega
  case hbind => rfl
  case hloc => exact locs rfl
  case hcell => decide
  case hco => rfl
  case hgen => rfl
  case hk => rfl
  intro h₁ tk E' F K
  have N : News s.heap s.heap.objs.size h₁ [] := News.nil
  have X := G.X
  have T := G.T
  tb_start
  have hL1 := isList_kp hl K
  walk1
  tb_start
  (rename Fr _ _ _ _ => F9)
  (rename News _ _ _ _ => N9)
  exact h _ _ _ _ F9.keep (N9 _ (.head _)).2.2 (N9 _ (.tail _ (.head _))).2.2 ⟨_, (N9 _ (.head _)).1, rfl, _, rfl⟩ ⟨_, (N9 _ (.tail _ (.head _))).1, rfl, _, rfl⟩
end
end
end
end Mine
end
section
open PySem PySem.W PySem.Spec PySem.Calls PyProof.Rows
set_option maxRecDepth 100000
set_option maxHeartbeats 1000000
namespace Mine
theorem fill_D4 (w : World) : (hd.heap_39 w.params).In {} → PySem.Challenge.rw_nu0147_01.prog = PySem.Challenge.rw_nu0147_01.prog := by
  k_fill
  exact fun _ => rfl
section
variable {w : World} {mg mb : Str → Option Value} {A : Around} {s : Shared} {Q E : Value → Shared → Prop}
theorem attr_rowsS {x l : Addr} {b expr : Bool} {h₀ : Heap} {L : Addr} {m : Str → Option Value} (F : Fr h₀ L s.heap m) (G : Gd w mg mb h₀) (S : ShapedAt s.heap x l b)
    (h : Q (.ref l) { s with toks := s.toks + 1 }) : wpAny (model PR w) A (getAttr (.ref x) (Str.ofString "rows") expr) Q E s := by
  obtain ⟨dx, a1, a2, a3, a4, n, p, q⟩ := S.ex
  refine' get_own (K := hd.heap_39 w.params) F G.X ⟨p, rfl, rfl, q⟩ ?k4 ?k5 ?k6 ?k7 ?k8 rfl h
  case k4 => k_is
  case k5 => k_is
  case k6 => k_is
  case k7 => k_is
  case k8 => k_get
theorem meth_told {x l : Addr} {b : Bool} {pl : Sem Bool} {h₀ : Heap} {L : Addr} {m : Str → Option Value} {Q : Value × List Value → Shared → Prop} (F : Fr h₀ L s.heap m) (G : Gd w mg mb h₀) (S : ShapedAt s.heap x l b)
    (h : Q (.ref 35, [.ref x]) s) : wpAny (model PR w) A (getMethod (.ref x) (Str.ofString "told") pl) Q E s := by
  obtain ⟨dx, a1, a2, a3, a4, n, p, q⟩ := S.ex
  refine' method_inst (K := hd.heap_39 w.params) F G.X ⟨p, rfl, rfl, q⟩ ?k4 ?k5 ?k6 ?k8 h
  case k4 => k_is
  case k5 => k_is
  case k6 => k_is
  case k8 => k_get
end
theorem ld_St {L P q : Addr} {oP oq c1 c2 c3 c4 c5 c6 c7 c8 c9 : Obj} {St : List (Addr × Obj)} : ∀ p ∈ St, p ∈ ld L P q oP oq c1 c2 c3 c4 c5 c6 c7 c8 c9 St := fun _ hp => .tail _ (.tail _ (.tail _ (.tail _ (.tail _ (.tail _ (.tail _ (.tail _ (.tail _ (.tail _ (.tail _ hp))))))))))
theorem all_true (n : Nat) : (List.range n).all (fun _ => true) = true := by rw [List.all_eq_true]; intro _ _; rfl
theorem eqAt_tup {A : Around} {s : Shared} {a b : Addr} {items : Array Value} (ha : s.heap.IsTuple a items) (hb : s.heap.IsTuple b items) (hu : A.units < cLine) : PySem.SeqAt.EqAt A s (.ref a) (.ref b) true := by
  by_cases e : a = b
  · subst e; exact PySem.SeqAt.EqAt.same _
  · have q := PySem.SeqAt.EqAt.of_refs e (PySem.SeqAt.RcAt.tuples (e := fun _ => true) ha hb hu fun j _ _ => PySem.SeqAt.EqAt.same _)
    rw [all_true] at q
    simpa using q
section
variable {w : World} {A : Around} {s : Shared} {Q E : Value → Shared → Prop} {a b : Addr} {items items2 : Array Value}
theorem ne_tup (ha : s.heap.IsTuple a items) (hb : s.heap.IsTuple b items2) (hs : items.size = items2.size) (hu : A.units < cLine)
    (he : ∀ j (h1 : j < items.size) (h2 : j < items2.size), PySem.SeqAt.EqAt A.in1 s items[j] items2[j] true) (h : Q (.bool false) s) : wpAny (model PR w) A (compareOp .NotEq (.ref a) (.ref b)) Q E s := by
  refine PySem.SeqAt.RcNeAt.tuples (e := fun _ => true) ha hb hu he _ _ _ _ ?_
  rw [all_true, hs]; simpa using h
theorem ne_lst (ha : s.heap.IsList a items) (hb : s.heap.IsList b items2) (hs : items.size = items2.size) (hu : A.units < cLine)
    (he : ∀ j (h1 : j < items.size) (h2 : j < items2.size), PySem.SeqAt.EqAt A.in1 s items[j] items2[j] true) (h : Q (.bool false) s) : wpAny (model PR w) A (compareOp .NotEq (.ref a) (.ref b)) Q E s := by
  refine PySem.SeqAt.RcNeAt.lists (e := fun _ => true) ha hb hs hu he _ _ _ _ ?_
  rw [all_true]; simpa using h
theorem eq_lst (ha : s.heap.IsList a items) (hb : s.heap.IsList b items2) (hs : items.size = items2.size) (hu : A.units < cLine)
    (he : ∀ j (h1 : j < items.size) (h2 : j < items2.size), PySem.SeqAt.EqAt A.in1 s items[j] items2[j] true) (h : Q (.bool true) s) : wpAny (model PR w) A (compareOp .Eq (.ref a) (.ref b)) Q E s := by
  refine PySem.SeqAt.RcAt.lists (e := fun _ => true) ha hb hs hu he _ _ _ _ ?_
  rw [all_true]; exact h
end
/-- the order of the shaped rows -/
def srs (b : Bool) (rs : List RowV) : List RowV := if b then rs.reverse else rs
/-- what stays true from the shaping on -/
structure LC (w : World) (mg mb : Str → Option Value) (hc : Heap) (L P q R x l : Addr) (b : Bool) (rvs lvs : List Value) (rs : List RowV) (len : Int) (St : List (Addr × Obj)) : Prop where
  G : Gd w mg mb hc
  S : hc.NoSeer
  hPL : PL L P
  hqL : PL L q
  hPq : P ≠ q
  off : Off L P q St
  shp : ∀ h, Has h St → ShapedAt h x l b
  lst : ∀ h, Has h St → h.IsList l lvs.toArray
  rws : ∀ h, Has h St → h.IsList R rvs.toArray
  row : ∀ h, Has h St → RowsAt h rvs rs
  lrow : ∀ h, Has h St → RowsAt h lvs (srs b rs)
  n8 : rs.length ≤ 8
  n1 : 1 ≤ rs.length
  ba : ∀ r ∈ rs, 0 ≤ r.a ∧ r.a ≤ 600
  bc : ∀ r ∈ rs, 0 ≤ r.c ∧ r.c < len
  bl : len ≤ 200
  up : (rs.map (·.c)).Pairwise (· ≤ ·)
theorem LC.grow {w : World} {mg mb : Str → Option Value} {hc : Heap} {L P q R x l : Addr} {b : Bool} {rvs lvs : List Value} {rs : List RowV} {len : Int} {St St' : List (Addr × Obj)} (C : LC w mg mb hc L P q R x l b rvs lvs rs len St) (o : Off L P q St') (k : ∀ p ∈ St, p ∈ St') :
    LC w mg mb hc L P q R x l b rvs lvs rs len St' :=
  ⟨C.G, C.S, C.hPL, C.hqL, C.hPq, o, fun h H => C.shp h (H.sub k), fun h H => C.lst h (H.sub k), fun h H => C.rws h (H.sub k), fun h H => C.row h (H.sub k), fun h H => C.lrow h (H.sub k), C.n8, C.n1, C.ba, C.bc, C.bl, C.up⟩
theorem srs_len (b : Bool) (rs : List RowV) : (srs b rs).length = rs.length := by unfold srs; split <;> simp
theorem srs_mem {b : Bool} {rs : List RowV} {r : RowV} : r ∈ srs b rs ↔ r ∈ rs := by unfold srs; split <;> simp
theorem srs_sum (b : Bool) (rs : List RowV) : ((srs b rs).map (·.a)).sum = (rs.map (·.a)).sum := by
  unfold srs
  split
  · rw [List.map_reverse]
    generalize rs.map (·.a) = l
    induction l with
    | nil => rfl
    | cons a r ih => rw [List.reverse_cons, List.sum_append, ih]; simp; omega
  · rfl
theorem IsTup.to {h : Heap} {a : Addr} {xs : Array Value} (x : IsTup h a xs) : h.IsTuple a xs := x
end Mine
end
section
open PySem PySem.W PySem.Spec PySem.Calls PyProof.Rows
set_option maxRecDepth 100000
set_option maxHeartbeats 1000000
namespace Mine
def upTo (n : Nat) : List Int := (List.range n).map fun (i : Nat) => (i : Int)
theorem ints_at : ∀ {vs : List Value} {ns : List Int}, vs.length = ns.length → (∀ (j : Nat) (v : Value) (k : Int), vs[j]? = some v → ns[j]? = some k → ∃ t, v = Value.int k t) → IntsAre vs ns
  | [], [], _, _ => .nil
  | v :: vs, k :: ns, hl, h => by
    obtain ⟨t, rfl⟩ := h 0 v k rfl rfl
    exact .cons k t (ints_at (by simpa using hl) fun j v' k' e e' => h (j + 1) v' k' (by simpa using e) (by simpa using e'))
theorem ints_upTo {vs : List Value} {n : Nat} (hl : vs.length = n) (h : ∀ (j : Nat) (v : Value), vs[j]? = some v → ∃ t, v = Value.int (j : Int) t) : IntsAre vs (upTo n) := by
  refine ints_at (by rw [hl]; simp [upTo]) fun j v k e e' => ?_
  obtain ⟨t, q⟩ := h j v e
  refine ⟨t, ?_⟩
  have hj : j < n := by
    have := (List.getElem?_eq_some_iff.mp e).1; omega
  unfold upTo at e'
  rw [List.getElem?_map, List.getElem?_range hj] at e'
  rw [q, ← Option.some.inj e']
theorem pick_take (items : Array Value) (i : Nat) : slicePick items none (some (i : Int)) none = (items.toList.take i).toArray := by
  have e : sliceBounds none (some (i : Int)) none items.size = (((0 : Nat) : Int), ((min i items.size : Nat) : Int), 1) := by
    simp only [sliceBounds, Option.getD_none, show (1 : Int) > 0 by decide, if_true, if_neg (show ¬ ((i : Int) < 0) by omega)]
    congr 1
    congr 1
    omega
  rw [kmk_pick_nat items e, List.drop_zero, Nat.sub_zero, ← Array.length_toList, kmk_take_min]
theorem walks_lt {prog : Program} {w : World} {A : Around} {I : Addr} {fp wr : List Addr} {n : Nat} {P : Nat → Value → Prop} {St : Nat → Heap → Prop} (W : Walks prog w A I fp wr n P St) : Walks prog w A I fp wr n (fun i v => i < n ∧ P i v) St where
  sub := W.sub
  frame := W.frame
  item := fun i s Q E hi st hQ => W.item i s Q E hi st fun v h' tk hp => hQ v h' tk ⟨hi, hp⟩
  done := W.done
  self := W.self
section
variable {w : World} {A : Around} {s : Shared} {Q E : Value → Shared → Prop} {env : Env}
/-- a comprehension over range(n), its tests and its element keep the heap -/
theorem comp_range {elt iter : PySem.Expr} {x : Str} {px : Pos} {ifs : List PySem.Expr} {scope : Scope} {cl : List (Str × Addr)} {pos : Pos} (p : Value → Bool) (F : Value → Value → Prop)
    (hh : A.handled = none)
    (hclos : closureFor scope env = pure cl) (hcell : ∀ y ∈ scope.names, y.2 ≠ .cell) (hkind : scope.kind = .function)
    (hnames : ∀ y ∈ scope.names, y.2 = .local → scope.names.lookup y.1 = some .local) (hx : scope.names.lookup x = some .local)
    (h : wpAny (model PR w) A (eval iter env) (fun xv s₁ => ∃ (r : Addr) (n : Nat) (t u v : Tok) (b : Int), xv = .ref r ∧ IsRange s₁.heap r 0 b 1 t u v ∧ 0 ≤ b ∧ b < 2 ^ 40 ∧ n = b.toNat ∧ n ≤ sizeLine ∧
      (∀ C i t s₃ m₃ E', i < n → s₃.heap.Ns C m₃ → m₃ x = some (.int (i : Nat) t) → Kp s₁.heap s₃.heap →
        wpAny (model PR w) A (forIn ifs true fun c r => if r = true then do let ok ← isTrue c (compEnvC scope cl C env) (eval c (compEnvC scope cl C env)); pure (ForInStep.yield ok) else pure (ForInStep.yield r))
          (fun ok s₄ => ok = p (.int (i : Nat) t) ∧ Keeps s₃ s₄) E' s₃) ∧
      (∀ C i t s₃ m₃ E', i < n → p (.int (i : Nat) t) = true → s₃.heap.Ns C m₃ → m₃ x = some (.int (i : Nat) t) → Kp s₁.heap s₃.heap →
        wpAny (model PR w) A (eval elt (compEnvC scope cl C env)) (fun y s₄ => F (.int (i : Nat) t) y ∧ Keeps s₃ s₄) E' s₃) ∧
      (∀ D h' tk ys k vs, s₁.heap.get? D = none → h'.get? D = some (listOf ys k) → IntsAre vs (upTo n) → Paired F (vs.filter p) ys.toList → Kp s₁.heap h' → Q (.ref D) { s₁ with heap := h', toks := tk })) E s)
    (hs : ∀ x, foldedSetIterable iter env x = pure x := by intro _; rfl) :
    wpAny (model PR w) A (eval (.ListComp elt [⟨.Name x px, iter, ifs, 0⟩] scope pos) env) Q E s := by
  refine wpAny_ListComp_free p F hclos hcell hkind hnames hx (wpAny_mono h (fun xv s₁ h₁ => ?_) fun _ _ e => e) hs
  obtain ⟨r, n, t, u, v, b, rfl, hr, hb0, hb, hn, hsz, ht, he, hQ⟩ := h₁
  refine wpAny_pyIter_range hr (small_one (by decide) (by decide) (by omega) (by omega)) ?_
  have hk1 : ∀ b o, s₁.heap.get? b = some o → b ∉ [s₁.heap.objs.size] := fun b o e hb => absurd (Heap.lt_size e) ((List.mem_singleton.mp hb) ▸ Nat.lt_irrefl _)
  have hsz' : Builtin.Range.rangeSize 0 b 1 = (n : Int) := by rw [rangeSize_one, hn]; split <;> omega
  refine ⟨s₁.heap.objs.size, _, _, n, _, _, rfl, walks_lt (Walks.range hh s₁.heap.objs.size 0 1 n), hsz, by rw [hsz']; simpa using Heap.get?_push_size _ rfl, ?_, ⟨?_, ?_⟩, ?_⟩
  · intro c hc
    show c < (s₁.heap.push _).objs.size
    rw [Heap.size_push, List.mem_singleton.mp hc]
    exact Nat.lt_succ_self _
  · intro C i v s₃ m₃ E' _ hP hn hm hk _
    obtain ⟨hi, t, rfl⟩ := hP
    have e1 : (0 : Int) + (i : Int) * 1 = (i : Int) := by omega
    rw [e1] at hm ⊢
    exact ht C i t s₃ m₃ E' hi hn hm (fun b o e => hk b o (hk1 b o e) (Heap.get?_push_of_some _ e))
  · intro C i v s₃ m₃ E' _ hP hp hn hm hk _
    obtain ⟨hi, t, rfl⟩ := hP
    have e1 : (0 : Int) + (i : Int) * 1 = (i : Int) := by omega
    rw [e1] at hm hp ⊢
    exact he C i t s₃ m₃ E' hi hp hn hm (fun b o e => hk b o (hk1 b o e) (Heap.get?_push_of_some _ e))
  · intro D h' tk ys vs hD hL hPL hlen hP hF hk
    have hi : IntsAre vs (upTo n) := ints_upTo hlen fun j v e => by
      obtain ⟨_, t, q⟩ := hP j v e
      exact ⟨t, by rw [q]; congr 1; omega⟩
    have hk' : Kp s₁.heap h' := fun b o e => hk b o (hk1 b o e) (Heap.get?_push_of_some _ e)
    obtain ⟨k, hk2⟩ := hPL
    refine hQ D h' tk ys k vs ?_ hk2 hi hF hk'
    cases q : s₁.heap.get? D with
    | none => rfl
    | some o => have := Heap.get?_push_of_some { cls := Value.type "range_iterator", data := Data.fields #[rawInt 0, rawInt (Builtin.Range.rangeSize 0 b 1), rawInt 1] } q; rw [this] at hD; cases hD
end
end Mine
end
section
open PySem PySem.W PySem.Spec PySem.Calls PyProof.Rows
set_option maxRecDepth 100000
set_option maxHeartbeats 1000000
namespace Mine
theorem ne_cell {L a b : Nat} (h : a ≠ b) : @Ne Nat (L + a) (L + b) := fun e => h (Nat.add_left_cancel e)
theorem far {L a : Nat} (i : Nat) (h : @LT.lt Nat _ (L + 9) a) (hi : i ≤ 9) : @Ne Nat a (L + i) := Nat.ne_of_gt (Nat.lt_of_le_of_lt (Nat.add_le_add_left hi L) h)
theorem all_cons {α : Type} {Z : α → Prop} {a : α} {l : List α} (h : Z a) (t : ∀ p ∈ l, Z p) : ∀ p ∈ a :: l, Z p := fun _ hp => (List.mem_cons.mp hp).elim (fun e => e ▸ h) (t _)
theorem all_nil {α : Type} {Z : α → Prop} : ∀ p ∈ ([] : List α), Z p := fun _ hp => nomatch hp
section
variable {w : World} {A : Around} {s : Shared} {E : Value → Shared → Prop} {hc : Heap} {L P q : Addr} {oP oq c1 c2 c3 c4 c5 c6 c7 c8 c9 : Obj} {St : List (Addr × Obj)} {m : Str → Option Value} {x : Value} {cn : Str} {cs : Scope} {a : Addr} {ccd : Value} {cl : List (Str × Addr)} {v₀ : Option Value} {Q : Unit → Shared → Prop}
theorem store_1 {y : Str} (F : Fr hc L s.heap m) (N : News hc L s.heap (ld L P q oP oq c1 c2 c3 c4 c5 c6 c7 c8 c9 St)) (O : Off L P q St) (hPL : PL L P) (hqL : PL L q) (hc' : cl.lookup y = some (L + 1)) (hd : c1.data = .cell v₀)
    (h : ∀ h' c', Fr hc L h' m → News hc L h' (ld L P q oP oq c' c2 c3 c4 c5 c6 c7 c8 c9 St) → c'.data = .cell (some x) → Q () { s with heap := h' })
    (hk : cs.kind = .function := by rfl) (hx : (envX cn cs L a ccd cl).kindOf y = some .cell := by rfl) : wpAny (model PR w) A (storeName (envX cn cs L a ccd cl) y x) Q E s :=
  store_cell_N (c := L + 1) (o := c1) (pre := [(P, oP), (q, oq)]) (post := (L + 2, c2) :: (L + 3, c3) :: (L + 4, c4) :: (L + 5, c5) :: (L + 6, c6) :: (L + 7, c7) :: (L + 8, c8) :: (L + 9, c9) :: St) F N hc' (all_cons (hPL.2.1) (all_cons (hqL.2.1) (all_nil))) (all_cons (ne_cell (by decide)) (all_cons (ne_cell (by decide)) (all_cons (ne_cell (by decide)) (all_cons (ne_cell (by decide)) (all_cons (ne_cell (by decide)) (all_cons (ne_cell (by decide)) (all_cons (ne_cell (by decide)) (all_cons (ne_cell (by decide)) (fun p hp => (O p hp).1 1 (by decide) (by decide)))))))))) hd h hk hx
theorem store_2 {y : Str} (F : Fr hc L s.heap m) (N : News hc L s.heap (ld L P q oP oq c1 c2 c3 c4 c5 c6 c7 c8 c9 St)) (O : Off L P q St) (hPL : PL L P) (hqL : PL L q) (hc' : cl.lookup y = some (L + 2)) (hd : c2.data = .cell v₀)
    (h : ∀ h' c', Fr hc L h' m → News hc L h' (ld L P q oP oq c1 c' c3 c4 c5 c6 c7 c8 c9 St) → c'.data = .cell (some x) → Q () { s with heap := h' })
    (hk : cs.kind = .function := by rfl) (hx : (envX cn cs L a ccd cl).kindOf y = some .cell := by rfl) : wpAny (model PR w) A (storeName (envX cn cs L a ccd cl) y x) Q E s :=
  store_cell_N (c := L + 2) (o := c2) (pre := [(P, oP), (q, oq), (L + 1, c1)]) (post := (L + 3, c3) :: (L + 4, c4) :: (L + 5, c5) :: (L + 6, c6) :: (L + 7, c7) :: (L + 8, c8) :: (L + 9, c9) :: St) F N hc' (all_cons (hPL.2.2.1) (all_cons (hqL.2.2.1) (all_cons (ne_cell (by decide)) (all_nil)))) (all_cons (ne_cell (by decide)) (all_cons (ne_cell (by decide)) (all_cons (ne_cell (by decide)) (all_cons (ne_cell (by decide)) (all_cons (ne_cell (by decide)) (all_cons (ne_cell (by decide)) (all_cons (ne_cell (by decide)) (fun p hp => (O p hp).1 2 (by decide) (by decide))))))))) hd h hk hx
theorem store_3 {y : Str} (F : Fr hc L s.heap m) (N : News hc L s.heap (ld L P q oP oq c1 c2 c3 c4 c5 c6 c7 c8 c9 St)) (O : Off L P q St) (hPL : PL L P) (hqL : PL L q) (hc' : cl.lookup y = some (L + 3)) (hd : c3.data = .cell v₀)
    (h : ∀ h' c', Fr hc L h' m → News hc L h' (ld L P q oP oq c1 c2 c' c4 c5 c6 c7 c8 c9 St) → c'.data = .cell (some x) → Q () { s with heap := h' })
    (hk : cs.kind = .function := by rfl) (hx : (envX cn cs L a ccd cl).kindOf y = some .cell := by rfl) : wpAny (model PR w) A (storeName (envX cn cs L a ccd cl) y x) Q E s :=
  store_cell_N (c := L + 3) (o := c3) (pre := [(P, oP), (q, oq), (L + 1, c1), (L + 2, c2)]) (post := (L + 4, c4) :: (L + 5, c5) :: (L + 6, c6) :: (L + 7, c7) :: (L + 8, c8) :: (L + 9, c9) :: St) F N hc' (all_cons (hPL.2.2.2.1) (all_cons (hqL.2.2.2.1) (all_cons (ne_cell (by decide)) (all_cons (ne_cell (by decide)) (all_nil))))) (all_cons (ne_cell (by decide)) (all_cons (ne_cell (by decide)) (all_cons (ne_cell (by decide)) (all_cons (ne_cell (by decide)) (all_cons (ne_cell (by decide)) (all_cons (ne_cell (by decide)) (fun p hp => (O p hp).1 3 (by decide) (by decide)))))))) hd h hk hx
theorem store_4 {y : Str} (F : Fr hc L s.heap m) (N : News hc L s.heap (ld L P q oP oq c1 c2 c3 c4 c5 c6 c7 c8 c9 St)) (O : Off L P q St) (hPL : PL L P) (hqL : PL L q) (hc' : cl.lookup y = some (L + 4)) (hd : c4.data = .cell v₀)
    (h : ∀ h' c', Fr hc L h' m → News hc L h' (ld L P q oP oq c1 c2 c3 c' c5 c6 c7 c8 c9 St) → c'.data = .cell (some x) → Q () { s with heap := h' })
    (hk : cs.kind = .function := by rfl) (hx : (envX cn cs L a ccd cl).kindOf y = some .cell := by rfl) : wpAny (model PR w) A (storeName (envX cn cs L a ccd cl) y x) Q E s :=
  store_cell_N (c := L + 4) (o := c4) (pre := [(P, oP), (q, oq), (L + 1, c1), (L + 2, c2), (L + 3, c3)]) (post := (L + 5, c5) :: (L + 6, c6) :: (L + 7, c7) :: (L + 8, c8) :: (L + 9, c9) :: St) F N hc' (all_cons (hPL.2.2.2.2.1) (all_cons (hqL.2.2.2.2.1) (all_cons (ne_cell (by decide)) (all_cons (ne_cell (by decide)) (all_cons (ne_cell (by decide)) (all_nil)))))) (all_cons (ne_cell (by decide)) (all_cons (ne_cell (by decide)) (all_cons (ne_cell (by decide)) (all_cons (ne_cell (by decide)) (all_cons (ne_cell (by decide)) (fun p hp => (O p hp).1 4 (by decide) (by decide))))))) hd h hk hx
theorem store_5 {y : Str} (F : Fr hc L s.heap m) (N : News hc L s.heap (ld L P q oP oq c1 c2 c3 c4 c5 c6 c7 c8 c9 St)) (O : Off L P q St) (hPL : PL L P) (hqL : PL L q) (hc' : cl.lookup y = some (L + 5)) (hd : c5.data = .cell v₀)
    (h : ∀ h' c', Fr hc L h' m → News hc L h' (ld L P q oP oq c1 c2 c3 c4 c' c6 c7 c8 c9 St) → c'.data = .cell (some x) → Q () { s with heap := h' })
    (hk : cs.kind = .function := by rfl) (hx : (envX cn cs L a ccd cl).kindOf y = some .cell := by rfl) : wpAny (model PR w) A (storeName (envX cn cs L a ccd cl) y x) Q E s :=
  store_cell_N (c := L + 5) (o := c5) (pre := [(P, oP), (q, oq), (L + 1, c1), (L + 2, c2), (L + 3, c3), (L + 4, c4)]) (post := (L + 6, c6) :: (L + 7, c7) :: (L + 8, c8) :: (L + 9, c9) :: St) F N hc' (all_cons (hPL.2.2.2.2.2.1) (all_cons (hqL.2.2.2.2.2.1) (all_cons (ne_cell (by decide)) (all_cons (ne_cell (by decide)) (all_cons (ne_cell (by decide)) (all_cons (ne_cell (by decide)) (all_nil))))))) (all_cons (ne_cell (by decide)) (all_cons (ne_cell (by decide)) (all_cons (ne_cell (by decide)) (all_cons (ne_cell (by decide)) (fun p hp => (O p hp).1 5 (by decide) (by decide)))))) hd h hk hx
theorem store_6 {y : Str} (F : Fr hc L s.heap m) (N : News hc L s.heap (ld L P q oP oq c1 c2 c3 c4 c5 c6 c7 c8 c9 St)) (O : Off L P q St) (hPL : PL L P) (hqL : PL L q) (hc' : cl.lookup y = some (L + 6)) (hd : c6.data = .cell v₀)
    (h : ∀ h' c', Fr hc L h' m → News hc L h' (ld L P q oP oq c1 c2 c3 c4 c5 c' c7 c8 c9 St) → c'.data = .cell (some x) → Q () { s with heap := h' })
    (hk : cs.kind = .function := by rfl) (hx : (envX cn cs L a ccd cl).kindOf y = some .cell := by rfl) : wpAny (model PR w) A (storeName (envX cn cs L a ccd cl) y x) Q E s :=
  store_cell_N (c := L + 6) (o := c6) (pre := [(P, oP), (q, oq), (L + 1, c1), (L + 2, c2), (L + 3, c3), (L + 4, c4), (L + 5, c5)]) (post := (L + 7, c7) :: (L + 8, c8) :: (L + 9, c9) :: St) F N hc' (all_cons (hPL.2.2.2.2.2.2.1) (all_cons (hqL.2.2.2.2.2.2.1) (all_cons (ne_cell (by decide)) (all_cons (ne_cell (by decide)) (all_cons (ne_cell (by decide)) (all_cons (ne_cell (by decide)) (all_cons (ne_cell (by decide)) (all_nil)))))))) (all_cons (ne_cell (by decide)) (all_cons (ne_cell (by decide)) (all_cons (ne_cell (by decide)) (fun p hp => (O p hp).1 6 (by decide) (by decide))))) hd h hk hx
theorem store_7 {y : Str} (F : Fr hc L s.heap m) (N : News hc L s.heap (ld L P q oP oq c1 c2 c3 c4 c5 c6 c7 c8 c9 St)) (O : Off L P q St) (hPL : PL L P) (hqL : PL L q) (hc' : cl.lookup y = some (L + 7)) (hd : c7.data = .cell v₀)
    (h : ∀ h' c', Fr hc L h' m → News hc L h' (ld L P q oP oq c1 c2 c3 c4 c5 c6 c' c8 c9 St) → c'.data = .cell (some x) → Q () { s with heap := h' })
    (hk : cs.kind = .function := by rfl) (hx : (envX cn cs L a ccd cl).kindOf y = some .cell := by rfl) : wpAny (model PR w) A (storeName (envX cn cs L a ccd cl) y x) Q E s :=
  store_cell_N (c := L + 7) (o := c7) (pre := [(P, oP), (q, oq), (L + 1, c1), (L + 2, c2), (L + 3, c3), (L + 4, c4), (L + 5, c5), (L + 6, c6)]) (post := (L + 8, c8) :: (L + 9, c9) :: St) F N hc' (all_cons (hPL.2.2.2.2.2.2.2.1) (all_cons (hqL.2.2.2.2.2.2.2.1) (all_cons (ne_cell (by decide)) (all_cons (ne_cell (by decide)) (all_cons (ne_cell (by decide)) (all_cons (ne_cell (by decide)) (all_cons (ne_cell (by decide)) (all_cons (ne_cell (by decide)) (all_nil))))))))) (all_cons (ne_cell (by decide)) (all_cons (ne_cell (by decide)) (fun p hp => (O p hp).1 7 (by decide) (by decide)))) hd h hk hx
theorem store_8 {y : Str} (F : Fr hc L s.heap m) (N : News hc L s.heap (ld L P q oP oq c1 c2 c3 c4 c5 c6 c7 c8 c9 St)) (O : Off L P q St) (hPL : PL L P) (hqL : PL L q) (hc' : cl.lookup y = some (L + 8)) (hd : c8.data = .cell v₀)
    (h : ∀ h' c', Fr hc L h' m → News hc L h' (ld L P q oP oq c1 c2 c3 c4 c5 c6 c7 c' c9 St) → c'.data = .cell (some x) → Q () { s with heap := h' })
    (hk : cs.kind = .function := by rfl) (hx : (envX cn cs L a ccd cl).kindOf y = some .cell := by rfl) : wpAny (model PR w) A (storeName (envX cn cs L a ccd cl) y x) Q E s :=
  store_cell_N (c := L + 8) (o := c8) (pre := [(P, oP), (q, oq), (L + 1, c1), (L + 2, c2), (L + 3, c3), (L + 4, c4), (L + 5, c5), (L + 6, c6), (L + 7, c7)]) (post := (L + 9, c9) :: St) F N hc' (all_cons (hPL.2.2.2.2.2.2.2.2.1) (all_cons (hqL.2.2.2.2.2.2.2.2.1) (all_cons (ne_cell (by decide)) (all_cons (ne_cell (by decide)) (all_cons (ne_cell (by decide)) (all_cons (ne_cell (by decide)) (all_cons (ne_cell (by decide)) (all_cons (ne_cell (by decide)) (all_cons (ne_cell (by decide)) (all_nil)))))))))) (all_cons (ne_cell (by decide)) (fun p hp => (O p hp).1 8 (by decide) (by decide))) hd h hk hx
theorem store_9 {y : Str} (F : Fr hc L s.heap m) (N : News hc L s.heap (ld L P q oP oq c1 c2 c3 c4 c5 c6 c7 c8 c9 St)) (O : Off L P q St) (hPL : PL L P) (hqL : PL L q) (hc' : cl.lookup y = some (L + 9)) (hd : c9.data = .cell v₀)
    (h : ∀ h' c', Fr hc L h' m → News hc L h' (ld L P q oP oq c1 c2 c3 c4 c5 c6 c7 c8 c' St) → c'.data = .cell (some x) → Q () { s with heap := h' })
    (hk : cs.kind = .function := by rfl) (hx : (envX cn cs L a ccd cl).kindOf y = some .cell := by rfl) : wpAny (model PR w) A (storeName (envX cn cs L a ccd cl) y x) Q E s :=
  store_cell_N (c := L + 9) (o := c9) (pre := [(P, oP), (q, oq), (L + 1, c1), (L + 2, c2), (L + 3, c3), (L + 4, c4), (L + 5, c5), (L + 6, c6), (L + 7, c7), (L + 8, c8)]) (post := St) F N hc' (all_cons (hPL.2.2.2.2.2.2.2.2.2) (all_cons (hqL.2.2.2.2.2.2.2.2.2) (all_cons (ne_cell (by decide)) (all_cons (ne_cell (by decide)) (all_cons (ne_cell (by decide)) (all_cons (ne_cell (by decide)) (all_cons (ne_cell (by decide)) (all_cons (ne_cell (by decide)) (all_cons (ne_cell (by decide)) (all_cons (ne_cell (by decide)) (all_nil))))))))))) (fun p hp => (O p hp).1 9 (by decide) (by decide)) hd h hk hx
end
theorem ld_in {L P q : Addr} {oP oq c1 c2 c3 c4 c5 c6 c7 c8 c9 : Obj} {new St : List (Addr × Obj)} : ∀ p ∈ ld L P q oP oq c1 c2 c3 c4 c5 c6 c7 c8 c9 (new ++ St), p ∈ new ++ ld L P q oP oq c1 c2 c3 c4 c5 c6 c7 c8 c9 St := fun p hp => by
  have h : p ∈ ld L P q oP oq c1 c2 c3 c4 c5 c6 c7 c8 c9 [] ++ (new ++ St) := hp
  show p ∈ new ++ (ld L P q oP oq c1 c2 c3 c4 c5 c6 c7 c8 c9 [] ++ St)
  generalize ld L P q oP oq c1 c2 c3 c4 c5 c6 c7 c8 c9 [] = base at h ⊢
  rcases List.mem_append.mp h with h | h
  · exact List.mem_append_right _ (List.mem_append_left _ h)
  rcases List.mem_append.mp h with h | h
  · exact List.mem_append_left _ h
  · exact List.mem_append_right _ (List.mem_append_right _ h)
theorem fresh_ne {h₀ h : Heap} {L D : Addr} {news : List (Addr × Obj)} (N : News h₀ L h news) (hD : h.get? D = none) : ∀ p ∈ news, @Ne Nat p.1 D := fun p hp e => by
  have := (N p hp).1
  rw [e] at this
  exact absurd (this.symm.trans hD) (by simp)
theorem lt_ne {D : Addr} {news : List (Addr × Obj)} (h : ∀ p ∈ news, p.1 < D) : ∀ p ∈ news, @Ne Nat p.1 D := fun p hp => Nat.ne_of_lt (h p hp)
theorem off_put {L P q D : Addr} {oP oq c1 c2 c3 c4 c5 c6 c7 c8 c9 o : Obj} {St St' : List (Addr × Obj)} (O : Off L P q St) (lD : ∀ p ∈ ld L P q oP oq c1 c2 c3 c4 c5 c6 c7 c8 c9 St', @Ne Nat p.1 D) : Off L P q ((D, o) :: St) := by
  refine O.put (fun i h1 h9 => ?_) (Ne.symm (lD (P, oP) (.head _))) (Ne.symm (lD (q, oq) (.tail _ (.head _))))
  have : i = 1 ∨ i = 2 ∨ i = 3 ∨ i = 4 ∨ i = 5 ∨ i = 6 ∨ i = 7 ∨ i = 8 ∨ i = 9 := by omega
  rcases this with rfl | rfl | rfl | rfl | rfl | rfl | rfl | rfl | rfl
  · exact Ne.symm (lD (L + 1, c1) (.tail _ (.tail _ (.head _))))
  · exact Ne.symm (lD (L + 2, c2) (.tail _ (.tail _ (.tail _ (.head _)))))
  · exact Ne.symm (lD (L + 3, c3) (.tail _ (.tail _ (.tail _ (.tail _ (.head _))))))
  · exact Ne.symm (lD (L + 4, c4) (.tail _ (.tail _ (.tail _ (.tail _ (.tail _ (.head _)))))))
  · exact Ne.symm (lD (L + 5, c5) (.tail _ (.tail _ (.tail _ (.tail _ (.tail _ (.tail _ (.head _))))))))
  · exact Ne.symm (lD (L + 6, c6) (.tail _ (.tail _ (.tail _ (.tail _ (.tail _ (.tail _ (.tail _ (.head _)))))))))
  · exact Ne.symm (lD (L + 7, c7) (.tail _ (.tail _ (.tail _ (.tail _ (.tail _ (.tail _ (.tail _ (.tail _ (.head _))))))))))
  · exact Ne.symm (lD (L + 8, c8) (.tail _ (.tail _ (.tail _ (.tail _ (.tail _ (.tail _ (.tail _ (.tail _ (.tail _ (.head _)))))))))))
  · exact Ne.symm (lD (L + 9, c9) (.tail _ (.tail _ (.tail _ (.tail _ (.tail _ (.tail _ (.tail _ (.tail _ (.tail _ (.tail _ (.head _))))))))))))
end Mine
end
section
open PySem PySem.W PySem.Spec PySem.Calls PyProof.Rows
set_option maxRecDepth 100000
set_option maxHeartbeats 1000000
namespace Mine
section
variable {w : World} {mg mb : Str → Option Value} {dp un : Nat} {gd : Option (List Code)} {s : Shared} {Q E : Value → Shared → Prop} {hc : Heap} {L P q : Addr} {oP oq c1 c2 c3 c4 c5 c6 c7 c8 c9 : Obj} {St : List (Addr × Obj)} {m : Str → Option Value} {frl : List Env}
theorem ld_ne {X : Addr} (hX : PL L X) (hO : ∀ p ∈ St, @Ne Nat p.1 X) : ∀ p ∈ (L + 1, c1) :: (L + 2, c2) :: (L + 3, c3) :: (L + 4, c4) :: (L + 5, c5) :: (L + 6, c6) :: (L + 7, c7) :: (L + 8, c8) :: (L + 9, c9) :: St, @Ne Nat p.1 X :=
  all_cons (Ne.symm (hX.2.1)) (all_cons (Ne.symm (hX.2.2.1)) (all_cons (Ne.symm (hX.2.2.2.1)) (all_cons (Ne.symm (hX.2.2.2.2.1)) (all_cons (Ne.symm (hX.2.2.2.2.2.1)) (all_cons (Ne.symm (hX.2.2.2.2.2.2.1)) (all_cons (Ne.symm (hX.2.2.2.2.2.2.2.1)) (all_cons (Ne.symm (hX.2.2.2.2.2.2.2.2.1)) (all_cons (Ne.symm (hX.2.2.2.2.2.2.2.2.2)) (hO)))))))))
theorem ld_keep {h' : Heap} {oP' oq' : Obj} (F : Fr hc L s.heap m) (N : News hc L s.heap (ld L P q oP oq c1 c2 c3 c4 c5 c6 c7 c8 c9 St)) (O : Off L P q St) (hPL : PL L P) (hqL : PL L q)
    (hP' : h'.get? P = some oP') (hq' : h'.get? q = some oq') (hk : ∀ b o, b ≠ P → b ≠ q → s.heap.get? b = some o → h'.get? b = some o) : Fr hc L h' m ∧ News hc L h' (ld L P q oP' oq' c1 c2 c3 c4 c5 c6 c7 c8 c9 St) := by
  have nP := (N (P, oP) (.head _)).2
  have nq := (N (q, oq) (.tail _ (.head _))).2
  refine ⟨⟨F.ns.at' fun o e => hk L o (Ne.symm hPL.1) (Ne.symm hqL.1) e, fun b o e => hk b o (fun z => ?_) (fun z => ?_) (F.keep b o e), F.above⟩, all_cons ⟨hP', nP⟩ (all_cons ⟨hq', nq⟩ fun p hp => ?_)⟩
  · rw [z] at e; exact absurd (nP.2.symm.trans e) (by simp)
  · rw [z] at e; exact absurd (nq.2.symm.trans e) (by simp)
  · have hm := N p (.tail _ (.tail _ hp))
    exact ⟨hk _ _ (ld_ne hPL (fun p hp => (O p hp).2.1) p hp) (ld_ne hqL (fun p hp => (O p hp).2.2) p hp) hm.1, hm.2⟩
theorem draw_L {many : Int} {tm : Tok} (G : Gd w mg mb hc) (S : hc.NoSeer) (O : Off L P q St) (hPL : PL L P) (hqL : PL L q) (hPq : P ≠ q) (F : Fr hc L s.heap m) (N : News hc L s.heap (ld L P q oP oq c1 c2 c3 c4 c5 c6 c7 c8 c9 St)) (hpen : PenOf q oP oq) (hm : 0 < many) (hm2 : many < 2 ^ 40) (hd : dp + 300 < recursionLimit) (hu : un < 4000)
    (h : ∀ h' tk d t oP' oq', 0 ≤ d → d < many → PenOf q oP' oq' → Fr hc L h' m → News hc L h' (ld L P q oP' oq' c1 c2 c3 c4 c5 c6 c7 c8 c9 St) → Q (.int d t) {s with heap := h', toks := tk}) :
    wpAny (model PR w) (AA dp un (some frl) gd) (call (.ref 83) [.ref P, .int many tm]) Q E s := by
  have nP := N (P, oP) (.head _)
  have nq := N (q, oq) (.tail _ (.head _))
  refine dr_spec G F.keep nP.2.2 nq.2.2 hPq nP.1 nq.1 hpen hm hm2 (by omega) (by omega) S ?_
  intro h' tk d t oP' oq' a1 a2 a3 a4 a5 a6
  obtain ⟨F', N'⟩ := ld_keep F N O hPL hqL a4 a5 a6
  exact h h' tk d t oP' oq' a1 a2 a3 F' N'
theorem pick_L {vs : List Value} {l : Addr} {o : Obj} (G : Gd w mg mb hc) (S : hc.NoSeer) (O : Off L P q St) (hPL : PL L P) (hqL : PL L q) (hPq : P ≠ q) (F : Fr hc L s.heap m) (N : News hc L s.heap (ld L P q oP oq c1 c2 c3 c4 c5 c6 c7 c8 c9 St)) (hpen : PenOf q oP oq) (hl : (l, W.listOf vs.toArray 0) ∈ St) (hm : 0 < vs.length) (hm2 : vs.length < 2 ^ 30) (hd : dp + 400 < recursionLimit) (hu : un < 3500)
    (h : ∀ h' tk v oP' oq', v ∈ vs → PenOf q oP' oq' → Fr hc L h' m → News hc L h' (ld L P q oP' oq' c1 c2 c3 c4 c5 c6 c7 c8 c9 St) → Q v {s with heap := h', toks := tk}) :
    wpAny (model PR w) (AA dp un (some frl) gd) (call (.ref 90) [.ref P, .ref l]) Q E s := by
  have nP := N (P, oP) (.head _)
  have nq := N (q, oq) (.tail _ (.head _))
  refine pk_spec G F.keep nP.2.2 nq.2.2 hPq nP.1 nq.1 hpen (list_of_obj (N _ (ld_St _ hl)).1) (O _ hl).2.1 (O _ hl).2.2 hm hm2 (by omega) (by omega) S ?_
  intro h' tk v oP' oq' a1 a3 a4 a5 a6
  obtain ⟨F', N'⟩ := ld_keep F N O hPL hqL a4 a5 a6
  exact h h' tk v oP' oq' a1 a3 F' N'
end
end Mine
end
section
open PySem PySem.W PySem.Spec PySem.Calls PyProof.Rows
set_option maxRecDepth 100000
set_option maxHeartbeats 4000000
namespace Mine
/-- the list that grows: each of its things stands with new objects of which G holds -/
def NewAt (C I D : Addr) (h₁ : Heap) (G : Nat → Value → List (Addr × Obj) → Prop) (h : Heap) (ys : Array Value) : Prop := ∀ (i : Nat) (y : Value), ys[i]? = some y → ∃ fam : List (Addr × Obj), G i y fam ∧ ∀ p ∈ fam, @Ne Nat p.1 C ∧ @Ne Nat p.1 I ∧ @Ne Nat p.1 D ∧ h₁.get? p.1 = none ∧ h.get? p.1 = some p.2
theorem NewAt.up {C I D : Addr} {h₁ : Heap} {G : Nat → Value → List (Addr × Obj) → Prop} {h h' : Heap} {ys : Array Value} (x : NewAt C I D h₁ G h ys) (k : ∀ b o, @Ne Nat b C → @Ne Nat b I → @Ne Nat b D → h.get? b = some o → h'.get? b = some o) : NewAt C I D h₁ G h' ys := fun i y e => by
  obtain ⟨fam, e1, e2⟩ := x i y e
  exact ⟨fam, e1, fun p hp => ⟨(e2 p hp).1, (e2 p hp).2.1, (e2 p hp).2.2.1, (e2 p hp).2.2.2.1, k _ _ (e2 p hp).1 (e2 p hp).2.1 (e2 p hp).2.2.1 (e2 p hp).2.2.2.2⟩⟩
section
variable {w : World} {A : Around} {s : Shared} {E : Value → Shared → Prop} {env : Env}
/-- a comprehension over range(n) without tests, each of its things a new object -/
theorem comp_range_new {elt iter : PySem.Expr} {x : Str} {px : Pos} {scope : Scope} {cl : List (Str × Addr)} {pos : Pos} {Q : Value → Shared → Prop} (G : Nat → Value → List (Addr × Obj) → Prop)
    (hh : A.handled = none)
    (hclos : closureFor scope env = pure cl) (hcell : ∀ y ∈ scope.names, y.2 ≠ .cell) (hkind : scope.kind = .function)
    (hnames : ∀ y ∈ scope.names, y.2 = .local → scope.names.lookup y.1 = some .local) (hx : scope.names.lookup x = some .local)
    (h : wpAny (model PR w) A (eval iter env) (fun xv s₁ => ∃ (r : Addr) (n : Nat) (t u v : Tok) (b : Int), xv = .ref r ∧ IsRange s₁.heap r 0 b 1 t u v ∧ 0 ≤ b ∧ b < 2 ^ 40 ∧ n = b.toNat ∧ n ≤ sizeLine ∧
      (∀ C i t s₃ m₃ E', i < n → s₃.heap.Ns C m₃ → m₃ x = some (.int (i : Nat) t) → Kp s₁.heap s₃.heap →
        wpAny (model PR w) A (eval elt (compEnvC scope cl C env)) (fun y s₄ => (∃ fam : List (Addr × Obj), G i y fam ∧ ∀ p ∈ fam, s₃.heap.get? p.1 = none ∧ s₄.heap.get? p.1 = some p.2) ∧ Keeps s₃ s₄) E' s₃) ∧
      (∀ D h' tk ys k, s₁.heap.get? D = none → h'.get? D = some (listOf ys k) → ys.size = n → (∀ (i : Nat) (y : Value), ys[i]? = some y → ∃ fam : List (Addr × Obj), G i y fam ∧ ∀ p ∈ fam, p.1 ≠ D ∧ s₁.heap.get? p.1 = none ∧ h'.get? p.1 = some p.2) → Kp s₁.heap h' → Q (.ref D) { s₁ with heap := h', toks := tk })) E s)
    (hs : ∀ x, foldedSetIterable iter env x = pure x := by intro _; rfl) :
    wpAny (model PR w) A (eval (.ListComp elt [⟨.Name x px, iter, [], 0⟩] scope pos) env) Q E s := by
  rw [eval_ListComp]
  refine wpAny_comprehension_free (use := none) rfl hs hclos hkind hnames (wpAny_mono h (fun xv s₁ h₁ => ?_) fun _ _ e => e)
  obtain ⟨r, n, t, u, v, b, rfl, hr, hb0, hb, hn, hsz, he, hQ⟩ := h₁
  refine wpAny_pyIter_range hr (small_one (by decide) (by decide) (by omega) (by omega)) ?_
  have hsz' : Builtin.Range.rangeSize 0 b 1 = (n : Int) := by rw [rangeSize_one, hn]; split <;> omega
  rw [hsz']
  generalize hH1 : s₁.heap.push { cls := .type "range_iterator", data := .fields #[rawInt 0, rawInt (n : Int), rawInt 1] } = H1
  refine wpAny_newObj_type (wpAny_newFunctionEnv hcell (by intro y hy; simp at hy) (fun h₂ hns₂ hsb₂ => ?_) hkind)
  dsimp only at hns₂ hsb₂ ⊢
  have h1s : H1.objs.size = s₁.heap.objs.size + 1 := by rw [← hH1, Heap.size_push]
  generalize hH2 : H1.push { cls := .type "list", dict := none, data := .seq ([] : List Value).toArray } = H2 at hns₂ hsb₂ ⊢
  have h2s : H2.objs.size = s₁.heap.objs.size + 2 := by rw [← hH2, Heap.size_push, h1s]
  generalize hI : s₁.heap.objs.size = I at h1s h2s ⊢
  generalize hD : H1.objs.size = D at h1s ⊢
  generalize hC : H2.objs.size = C at h2s hns₂ hsb₂ ⊢
  have hlt1 : @LT.lt Nat _ I D := h1s ▸ Nat.lt_succ_self I
  have hlt2 : @LT.lt Nat _ I C := h2s ▸ Nat.lt_succ_of_lt (Nat.lt_succ_self I)
  have hlt3 : @LT.lt Nat _ D C := h1s ▸ h2s ▸ Nat.lt_succ_self (I + 1)
  have hID : @Ne Nat I D := Nat.ne_of_lt hlt1
  have hIC : @Ne Nat I C := Nat.ne_of_lt hlt2
  have hDC : @Ne Nat D C := Nat.ne_of_lt hlt3
  have old1 : ∀ b o, s₁.heap.get? b = some o → H1.get? b = some o := fun b o e => hH1 ▸ Heap.get?_push_of_some _ e
  have up2 : ∀ b o, H1.get? b = some o → H2.get? b = some o := fun b o e => by rw [← hH2]; exact Heap.get?_push_of_some _ e
  have old : ∀ b o, s₁.heap.get? b = some o → h₂.get? b = some o ∧ @Ne Nat b C ∧ @Ne Nat b I ∧ @Ne Nat b D := fun b o e => by
    have hlt : @LT.lt Nat _ b I := hI ▸ Heap.lt_size e
    have hbC : @Ne Nat b C := Nat.ne_of_lt (Nat.lt_trans hlt hlt2)
    exact ⟨hsb₂.extBut b o hbC (Heap.get?_push_of_some _ (up2 b o (old1 b o e))), hbC, Nat.ne_of_lt hlt, Nat.ne_of_lt (Nat.lt_trans hlt hlt1)⟩
  have hit : IsRangeIter h₂ I (0 + ((0 : Nat) : Int) * 1) ((n : Int) - ((0 : Nat) : Int)) 1 := by
    have e : H1.get? I = some { cls := .type "range_iterator", data := .fields #[rawInt 0, rawInt (n : Int), rawInt 1] } := by rw [← hH1, ← hI]; exact Heap.get?_push_size _ rfl
    have := hsb₂.extBut I _ hIC (Heap.get?_push_of_some _ (up2 _ _ e))
    simpa using this
  have hacc : h₂.get? D = some (listOf #[] 0) := hsb₂.extBut D _ hDC (Heap.get?_push_of_some _ (by rw [← hH2, ← hD]; exact Heap.get?_push_size _ rfl))
  have W := Walks.range (prog := PR) (w := w) hh I 0 1 n
  have hp : ((compEnvC scope cl C env).scope.kind == .class || ((compEnvC scope cl C env).scope.kind == .module && (compEnvC scope cl C env).locals != (compEnvC scope cl C env).globals)) = false := by simp [compEnvC, relabel, hkind]
  have loop : ∀ s₃ : Shared, s₃ = { s₁ with heap := h₂, toks := s₁.toks + ([] : List (Str × Value)).length } →
      codeAny (model PR w) A (.compLoop (.ListComp elt [⟨.Name x px, iter, [], 0⟩] scope pos) 0 (.ref I) (.ref D) (compEnvC scope cl C env)) (compPost (model PR w) A E none Q (.ref D) C) s₃ := by
    rintro s₃ rfl
    obtain ⟨INV, hINV⟩ : ∃ INV : Nat → Shared → Prop, INV = (fun k s' => ∃ i h' tk m' ys kk, s' = { s₁ with heap := h', toks := tk } ∧ IsRangeIter h' I (0 + (i : Nat) * 1) ((n : Int) - (i : Nat)) 1 ∧ h'.get? D = some (listOf ys kk) ∧ h'.Ns C m' ∧ ys.size = i ∧ i ≤ n ∧ k = n + 1 - i ∧
      NewAt C I D s₁.heap G h' ys ∧ Kp s₁.heap h') := ⟨_, rfl⟩
    refine codeAny_compLoop_tests INV ?_ (n + 1) (by rw [hINV]; exact ⟨0, h₂, _, _, #[], 0, rfl, hit, hacc, hns₂, rfl, Nat.zero_le _, rfl, (fun i y e => by simp at e), fun b o e => (old b o e).1⟩)
    intro k s' hI0
    rw [hINV] at hI0
    obtain ⟨i, H, tk, m', ys, kk, rfl, hit', hacc', hn', hys, hi, rfl, hNew, hk⟩ := hI0
    by_cases hlt : i < n
    · refine W.item i _ _ _ hlt hit' fun v' h₃ tk₃ ⟨t', hv⟩ hst hk₃ => ?_
      subst hv
      have e1 : (0 : Int) + (i : Int) * 1 = (i : Int) := by omega
      rw [e1]
      have k3 : ∀ b o, @Ne Nat b I → H.get? b = some o → h₃.get? b = some o := fun b o q e => hk₃ b o (fun q' => q (List.mem_singleton.mp q')) e
      refine wpAny_assign_Name (wpAny_storeName_local (lookup_relabel_local hx) (hn'.at' fun o e => k3 C o (Ne.symm hIC) e) (fun h₄ hn₄ hs₄ => ?_) hp)
      refine wpAny_tests_nil ?_
      rw [if_pos rfl]
      have k4 : ∀ b o, @Ne Nat b I → @Ne Nat b C → H.get? b = some o → h₄.get? b = some o := fun b o q q2 e => hs₄.extBut b o q2 (k3 b o q e)
      have kp4 : Kp s₁.heap h₄ := fun b o e => k4 b o (old b o e).2.2.1 (old b o e).2.1 (hk b o e)
      refine wpAny_mono (he C i t' _ _ _ hlt hn₄ (by simp) kp4) (fun y s₅ h₅ => ?_) fun _ _ e => e
      obtain ⟨⟨fam, hG, hfam⟩, h₅, tk₅, rfl, hk₅⟩ := h₅
      have hI4 : h₄.get? I = some (rangeIt (0 + ((i + 1 : Nat) : Int) * 1) ((n : Int) - ((i + 1 : Nat) : Int))) := hs₄.extBut I _ hIC hst
      have hD4 : h₄.get? D = some (listOf ys kk) := k4 D _ (Ne.symm hID) hDC hacc'
      have hD5 := hk₅ _ _ hD4
      have hfn : ∀ p ∈ fam, @Ne Nat p.1 C ∧ @Ne Nat p.1 I ∧ @Ne Nat p.1 D ∧ s₁.heap.get? p.1 = none := fun p hp => by
        have hTn := (hfam p hp).1
        refine ⟨?_, ne_of_none_some hTn hI4, ne_of_none_some hTn hD4, ?_⟩
        · obtain ⟨_, _, _, ho, _⟩ := hn₄; exact ne_of_none_some hTn ho
        · cases e : s₁.heap.get? p.1 with
          | none => rfl
          | some o' => exact absurd rfl (ne_of_none_some hTn (kp4 _ o' e))
      refine wpAny_list_append_plain (items := ys) (hsz := by rw [hys]; omega) ⟨kk, hD5⟩ fun h₆ ⟨k6, hl₆⟩ hs₆ => ?_
      have k6 : ∀ b o, @Ne Nat b I → @Ne Nat b C → @Ne Nat b D → H.get? b = some o → h₆.get? b = some o := fun b o q1 q2 q3 e => hs₆.extBut b o q3 (hk₅ b o (k4 b o q1 q2 e))
      have hsz6 : (ys.push y).size = i + 1 := by rw [Array.size_push, hys]
      refine ⟨n + 1 - (i + 1), by omega, ?_⟩
      rw [hINV]
      refine ⟨i + 1, h₆, tk₅, _, ys.push y, _, rfl, hs₆.extBut I _ hID (hk₅ _ _ hI4), hl₆, (hn₄.keeps hk₅).sameBut hs₆ (Ne.symm hDC), hsz6, hlt, rfl, ?_, fun b o e => k6 b o (old b o e).2.2.1 (old b o e).2.1 (old b o e).2.2.2 (hk b o e)⟩
      intro j y' hj
      rw [Array.getElem?_push] at hj
      split at hj
      · rename_i hji
        cases hj
        rw [hji, hys]
        exact ⟨fam, hG, fun p hp => ⟨(hfn p hp).1, (hfn p hp).2.1, (hfn p hp).2.2.1, (hfn p hp).2.2.2, hs₆.extBut _ _ (hfn p hp).2.2.1 (hfam p hp).2⟩⟩
      · exact (hNew.up fun b o q1 q2 q3 e => k6 b o q2 q1 q3 e) j y' hj
    · have hin : i = n := by omega
      subst hin
      refine W.done _ _ _ hit' fun h₃ tk₃ hk₃ => ?_
      have k3 : ∀ b o, @Ne Nat b I → H.get? b = some o → h₃.get? b = some o := fun b o q e => hk₃ b o (fun q' => q (List.mem_singleton.mp q')) e
      refine ⟨m', hn'.at' fun o e => k3 C o (Ne.symm hIC) e, fun h₄ hs₄ => ?_⟩
      have k4 : ∀ b o, @Ne Nat b I → @Ne Nat b C → H.get? b = some o → h₄.get? b = some o := fun b o q q2 e => hs₄.extBut b o q2 (k3 b o q e)
      refine hQ D h₄ tk₃ ys kk ?_ (k4 D _ (Ne.symm hID) hDC hacc') hys ?_ fun b o e => k4 b o (old b o e).2.2.1 (old b o e).2.1 (hk b o e)
      · cases e : s₁.heap.get? D with
        | none => rfl
        | some o' => exact absurd rfl (old D o' e).2.2.2
      · intro j y hj
        obtain ⟨fam, e1, e2⟩ := hNew j y hj
        exact ⟨fam, e1, fun p hp => ⟨(e2 p hp).2.2.1, (e2 p hp).2.2.2.1, k4 _ _ (e2 p hp).2.1 (e2 p hp).1 (e2 p hp).2.2.2.2⟩⟩
  exact codeAny_compStart_list (loop _ rfl) (W.self 0 _ _ _ hit (loop _ rfl))
end
end Mine
end
section
open PySem PySem.W PySem.Spec PySem.Calls PyProof.Rows
set_option maxRecDepth 100000
set_option maxHeartbeats 4000000
namespace Mine
def insideOf (as : List Int) (b x : Int) : List Nat := (List.range as.length).filter fun j => decide (b + (as.take j).sum ≤ x ∧ x < b + (as.take (j + 1)).sum)
theorem gAt_head : ∀ (as : List Int) (x b i : Int), gAt as x b i = ((insideOf as b x).map fun (j : Nat) => i + (j : Int)).headD (-1)
  | [], _, _, _ => rfl
  | a :: as, x, b, i => by
    unfold gAt insideOf
    rw [List.length_cons, List.range_succ_eq_map, List.filter_cons]
    have e0 : (decide (b + (List.take 0 (a :: as)).sum ≤ x ∧ x < b + (List.take (0 + 1) (a :: as)).sum)) = decide (b ≤ x ∧ x < b + a) := by simp
    rw [e0]
    by_cases h : b ≤ x ∧ x < b + a
    · rw [if_pos h, if_pos (by simpa using h)]; simp
    · rw [if_neg h, if_neg (by simpa using h), gAt_head as x (b + a) (i + 1)]
      congr 1
      unfold insideOf
      rw [List.filter_map, List.map_map]
      have e1 : ((fun (j : Nat) => decide (b + (List.take j (a :: as)).sum ≤ x ∧ x < b + (List.take (j + 1) (a :: as)).sum)) ∘ Nat.succ) = fun (j : Nat) => decide (b + a + (as.take j).sum ≤ x ∧ x < b + a + (as.take (j + 1)).sum) := by
        funext j
        simp only [Function.comp, Nat.succ_eq_add_one, List.take_succ_cons, List.sum_cons]
        congr 1
        rw [Int.add_assoc, Int.add_assoc]
      rw [e1]
      refine List.map_congr_left fun j _ => ?_
      simp only [Function.comp]
      omega
theorem ints_filt {p : Value → Bool} {q : Nat → Bool} (hpq : ∀ (i : Nat) (t : Tok), p (Value.int (i : Int) t) = q i) : ∀ {vs : List Value} {is : List Nat} {ys : List Value}, IntsAre vs (is.map fun (i : Nat) => (i : Int)) → Paired (fun v y => ∃ (i : Nat) (t t' : Tok), v = Value.int (i : Int) t ∧ y = Value.int (i : Int) t') (vs.filter p) ys → IntsAre ys ((is.filter q).map fun (i : Nat) => (i : Int))
  | _, [], _, .nil, .nil => .nil
  | _, i :: is, ys, .cons _ t r, h => by
    rw [List.filter_cons, hpq i t] at h
    rw [List.filter_cons]
    cases hq : q i with
    | false =>
      rw [hq] at h
      simp only [Bool.false_eq_true, if_false] at h ⊢
      exact ints_filt hpq r h
    | true =>
      rw [hq] at h
      simp only [if_true] at h ⊢
      cases h with
      | cons h1 h2 =>
        obtain ⟨j, t1, t2, e1, e2⟩ := h1
        rw [Value.int.injEq] at e1
        have e3 : i = j := by omega
        subst e3
        rw [e2, List.map_cons]
        exact .cons _ _ (ints_filt hpq r h2)
theorem head_get {l : List Int} (h : 0 < (l ++ [(-1 : Int)]).length) : (l ++ [(-1 : Int)])[0] = l.headD (-1) := by cases l <;> rfl
end Mine
end
section
open PySem PySem.W PySem.Spec PySem.Calls PyProof.Rows
set_option maxRecDepth 100000
set_option maxHeartbeats 4000000
namespace Mine
theorem news_but {h₀ h h' : Heap} {L : Addr} {news : List (Addr × Obj)} (N : News h₀ L h news) (k : ∀ b o, b ≠ L → h.get? b = some o → h'.get? b = some o) : News h₀ L h' news := fun p hp => ⟨k _ _ (N p hp).2.1 (N p hp).1, (N p hp).2⟩
theorem news_new' {h₀ h h' : Heap} {L D : Addr} {m : Str → Option Value} {o : Obj} {news : List (Addr × Obj)} (F : Fr h₀ L h m) (N : News h₀ L h news) (k : ∀ b o, b ≠ L → h.get? b = some o → h'.get? b = some o) (hD : h.get? D = none) (ho : h'.get? D = some o) : News h₀ L h' ((D, o) :: news) := by
  intro p hp
  rcases List.mem_cons.mp hp with rfl | hp
  · refine ⟨ho, ?_, ?_⟩
    · obtain ⟨oL, _, _, hL, _⟩ := F.ns
      intro (e : D = L)
      rw [e, hL] at hD; cases hD
    · show h₀.get? D = none
      cases q : h₀.get? D with
      | none => rfl
      | some o' => have := F.keep _ _ q; rw [hD] at this; cases this
  · exact news_but N k p hp
section
variable {w : World} {A : Around} {s : Shared} {E : Value → Shared → Prop} {env : Env} {Q : Flow → Shared → Prop}
/-- y = [.. for x in range(n) if ..], y a local name -/
theorem comp_range_as {elt iter : PySem.Expr} {x y : Str} {px py : Pos} {ifs : List PySem.Expr} {scope : Scope} {cl : List (Str × Addr)} {pos spos : Pos} {h₀ : Heap} (p : Value → Bool) (F : Value → Value → Prop)
    (hh : A.handled = none) (hsw : swapsWith (.ListComp elt [⟨.Name x px, iter, ifs, 0⟩] scope pos) (some (.Name y py)) spos.line env = pure true)
    (hclos : closureFor scope env = pure cl) (hcell : ∀ y ∈ scope.names, y.2 ≠ .cell) (hkind : scope.kind = .function)
    (hnames : ∀ y ∈ scope.names, y.2 = .local → scope.names.lookup y.1 = some .local) (hx : scope.names.lookup x = some .local)
    (hy : env.kindOf y = some .local) (hp : (env.scope.kind == .class || (env.scope.kind == .module && env.locals != env.globals)) = false)
    (h : wpAny (model PR w) A (eval iter env) (fun xv s₁ => ∃ (r : Addr) (n : Nat) (t u v : Tok) (b : Int) (m : Str → Option Value), xv = .ref r ∧ IsRange s₁.heap r 0 b 1 t u v ∧ 0 ≤ b ∧ b < 2 ^ 40 ∧ n = b.toNat ∧ n ≤ sizeLine ∧ Fr h₀ env.locals s₁.heap m ∧
      (∀ C i t s₃ m₃ E', i < n → s₃.heap.Ns C m₃ → m₃ x = some (.int (i : Nat) t) → Kp s₁.heap s₃.heap →
        wpAny (model PR w) A (forIn ifs true fun c r => if r = true then do let ok ← isTrue c (compEnvC scope cl C env) (eval c (compEnvC scope cl C env)); pure (ForInStep.yield ok) else pure (ForInStep.yield r))
          (fun ok s₄ => ok = p (.int (i : Nat) t) ∧ Keeps s₃ s₄) E' s₃) ∧
      (∀ C i t s₃ m₃ E', i < n → p (.int (i : Nat) t) = true → s₃.heap.Ns C m₃ → m₃ x = some (.int (i : Nat) t) → Kp s₁.heap s₃.heap →
        wpAny (model PR w) A (eval elt (compEnvC scope cl C env)) (fun y s₄ => F (.int (i : Nat) t) y ∧ Keeps s₃ s₄) E' s₃) ∧
      (∀ D h' tk ys k vs, s₁.heap.get? D = none → h'.get? D = some (listOf ys k) → IntsAre vs (upTo n) → Paired F (vs.filter p) ys.toList → Fr h₀ env.locals h' (fun z => if z = y then some (.ref D) else m z) → (∀ b o, b ≠ env.locals → s₁.heap.get? b = some o → h'.get? b = some o) → Q .next { s₁ with heap := h', toks := tk })) E s)
    (hs : ∀ x, foldedSetIterable iter env x = pure x := by intro _; rfl) :
    wpAny (model PR w) A (exec (.Assign [.Name y py] (.ListComp elt [⟨.Name x px, iter, ifs, 0⟩] scope pos) spos) env) Q E s := by
  refine wpAny_Assign_ListComp_free p F hsw hclos hcell hkind hnames hx hy hp (wpAny_mono h (fun xv s₁ h₁ => ?_) fun _ _ e => e) hs
  obtain ⟨r, n, t, u, v, b, m, rfl, hr, hb0, hb, hn, hsz, hF, ht, he, hQ⟩ := h₁
  refine wpAny_pyIter_range hr (small_one (by decide) (by decide) (by omega) (by omega)) ?_
  have hk1 : ∀ b o, s₁.heap.get? b = some o → b ∉ [s₁.heap.objs.size] := fun b o e hb => absurd (Heap.lt_size e) ((List.mem_singleton.mp hb) ▸ Nat.lt_irrefl _)
  have hsz' : Builtin.Range.rangeSize 0 b 1 = (n : Int) := by rw [rangeSize_one, hn]; split <;> omega
  refine ⟨s₁.heap.objs.size, _, _, n, _, _, m, rfl, walks_lt (Walks.range hh s₁.heap.objs.size 0 1 n), hsz, by rw [hsz']; simpa using Heap.get?_push_size _ rfl, ?_, ?_, (hF.push _).ns, ⟨?_, ?_⟩, ?_⟩
  · intro c hc
    show c < (s₁.heap.push _).objs.size
    rw [Heap.size_push, List.mem_singleton.mp hc]
    exact Nat.lt_succ_self _
  · intro q
    obtain ⟨o, _, _, ho, _⟩ := hF.ns
    exact absurd (Heap.lt_size ho) (by rw [List.mem_singleton.mp q]; exact Nat.lt_irrefl _)
  · intro C i v s₃ m₃ E' _ hP hn hm hk _
    obtain ⟨hi, t, rfl⟩ := hP
    have e1 : (0 : Int) + (i : Int) * 1 = (i : Int) := by omega
    rw [e1] at hm ⊢
    exact ht C i t s₃ m₃ E' hi hn hm (fun b o e => hk b o (hk1 b o e) (Heap.get?_push_of_some _ e))
  · intro C i v s₃ m₃ E' _ hP hp hn hm hk _
    obtain ⟨hi, t, rfl⟩ := hP
    have e1 : (0 : Int) + (i : Int) * 1 = (i : Int) := by omega
    rw [e1] at hm hp ⊢
    exact he C i t s₃ m₃ E' hi hp hn hm (fun b o e => hk b o (hk1 b o e) (Heap.get?_push_of_some _ e))
  · intro D h' tk ys vs hD hL hPL hlen hP hFF hns hk
    have hi : IntsAre vs (upTo n) := ints_upTo hlen fun j v e => by
      obtain ⟨_, t, q⟩ := hP j v e
      exact ⟨t, by rw [q]; congr 1; omega⟩
    have hk' : ∀ b o, b ≠ env.locals → s₁.heap.get? b = some o → h'.get? b = some o := fun b o q e => hk b o q (hk1 b o e) (Heap.get?_push_of_some _ e)
    obtain ⟨k, hk2⟩ := hPL
    refine hQ D h' tk ys k vs ?_ hk2 hi hFF ⟨hns, fun b o e => hk' b o (fun q => ?_) (hF.keep b o e), hF.above⟩ hk'
    · cases q : s₁.heap.get? D with
      | none => rfl
      | some o => have := Heap.get?_push_of_some { cls := Value.type "range_iterator", data := Data.fields #[rawInt 0, rawInt (Builtin.Range.rangeSize 0 b 1), rawInt 1] } q; rw [this] at hD; cases hD
    · have := Heap.lt_size e
      rw [q] at this
      exact absurd this (Nat.not_lt.mpr hF.above)
end
end Mine
end
section
open PySem PySem.W PySem.Spec PySem.Calls PyProof.Rows
set_option maxRecDepth 100000
set_option maxHeartbeats 1000000
namespace Mine
theorem ld_out {L P q : Addr} {oP oq c1 c2 c3 c4 c5 c6 c7 c8 c9 : Obj} {new St : List (Addr × Obj)} : ∀ p ∈ new ++ ld L P q oP oq c1 c2 c3 c4 c5 c6 c7 c8 c9 St, p ∈ ld L P q oP oq c1 c2 c3 c4 c5 c6 c7 c8 c9 (new ++ St) := fun p hp => by
  have h : p ∈ new ++ (ld L P q oP oq c1 c2 c3 c4 c5 c6 c7 c8 c9 [] ++ St) := hp
  show p ∈ ld L P q oP oq c1 c2 c3 c4 c5 c6 c7 c8 c9 [] ++ (new ++ St)
  generalize ld L P q oP oq c1 c2 c3 c4 c5 c6 c7 c8 c9 [] = base at h ⊢
  rcases List.mem_append.mp h with h | h
  · exact List.mem_append_right _ (List.mem_append_left _ h)
  rcases List.mem_append.mp h with h | h
  · exact List.mem_append_left _ h
  · exact List.mem_append_right _ (List.mem_append_right _ h)
theorem ne_map {I : Addr} {l l' : List (Addr × Obj)} (e : l.map (·.1) = l'.map (·.1)) (h : ∀ p ∈ l, @Ne Nat p.1 I) : ∀ p ∈ l', @Ne Nat p.1 I := fun p hp => by
  have : p.1 ∈ l.map (·.1) := e ▸ List.mem_map.mpr ⟨p, hp, rfl⟩
  obtain ⟨p', hp', e'⟩ := List.mem_map.mp this
  rw [← e']; exact h p' hp'
end Mine
namespace Mine
theorem ld_put {hc h : Heap} {L P q : Addr} {oP oq c1 c2 c3 c4 c5 c6 c7 c8 c9 : Obj} {D : Addr} {o : Obj} {mid St : List (Addr × Obj)} (N : News hc L h ((D, o) :: (mid ++ ld L P q oP oq c1 c2 c3 c4 c5 c6 c7 c8 c9 St))) : News hc L h (ld L P q oP oq c1 c2 c3 c4 c5 c6 c7 c8 c9 ((D, o) :: St)) :=
  news_sub N fun p hp => by
    have := ld_in (new := [(D, o)]) p hp
    rcases List.mem_cons.mp this with rfl | hp
    · exact .head _
    · exact .tail _ (List.mem_append_right _ hp)
end Mine
namespace Mine
theorem ld_mono {L P q : Addr} {oP oq c1 c2 c3 c4 c5 c6 c7 c8 c9 : Obj} {St St' : List (Addr × Obj)} (k : ∀ p ∈ St, p ∈ St') : ∀ p ∈ ld L P q oP oq c1 c2 c3 c4 c5 c6 c7 c8 c9 St, p ∈ ld L P q oP oq c1 c2 c3 c4 c5 c6 c7 c8 c9 St' := fun p hp => by
  have h : p ∈ ld L P q oP oq c1 c2 c3 c4 c5 c6 c7 c8 c9 [] ++ St := hp
  show p ∈ ld L P q oP oq c1 c2 c3 c4 c5 c6 c7 c8 c9 [] ++ St'
  rcases List.mem_append.mp h with h | h
  · exact List.mem_append_left _ h
  · exact List.mem_append_right _ (k p h)
end Mine
end
section
open PySem PySem.W PySem.Spec PySem.Calls PyProof.Rows
set_option maxRecDepth 100000
set_option maxHeartbeats 1000000
namespace Mine
theorem build_of {α β : Type} : ∀ {l : List α} {R : Nat → α → β → Prop}, (∀ (i : Nat) (y : α), l[i]? = some y → ∃ b, R i y b) → ∃ m : List β, m.length = l.length ∧ ∀ (i : Nat) (y : α), l[i]? = some y → ∃ b, m[i]? = some b ∧ R i y b
  | [], _, _ => ⟨[], rfl, fun i y e => by simp at e⟩
  | a :: l, R, h => by
    obtain ⟨b, hb⟩ := h 0 a rfl
    obtain ⟨m, hm, hr⟩ := build_of (l := l) (R := fun i => R (i + 1)) fun i y e => h (i + 1) y (by simpa using e)
    refine ⟨b :: m, by simp [hm], fun i y e => ?_⟩
    cases i with
    | zero => simp at e; subst e; exact ⟨b, rfl, hb⟩
    | succ i => simpa using hr i y (by simpa using e)
theorem paired_of {α β : Type} {F : α → β → Prop} : ∀ {l : List α} {m : List β}, l.length = m.length → (∀ (i : Nat) (y : α) (b : β), l[i]? = some y → m[i]? = some b → F y b) → Paired F l m
  | [], [], _, _ => .nil
  | a :: l, b :: m, e, h => .cons (h 0 a b rfl rfl) (paired_of (by simpa using e) fun i y b' e1 e2 => h (i + 1) y b' (by simpa using e1) (by simpa using e2))
theorem eqAt_tupG {A : Around} {s : Shared} {a b : Addr} {items items2 : Array Value} (ha : s.heap.IsTuple a items) (hb : s.heap.IsTuple b items2) (hs : items.size = items2.size) (hu : A.units < cLine)
    (he : ∀ j (h1 : j < items.size) (h2 : j < items2.size), PySem.SeqAt.EqAt A.in1 s items[j] items2[j] true) : PySem.SeqAt.EqAt A s (.ref a) (.ref b) true := by
  by_cases e : a = b
  · subst e; exact PySem.SeqAt.EqAt.same _
  · have q := PySem.SeqAt.EqAt.of_refs e (PySem.SeqAt.RcAt.tuples (e := fun _ => true) ha hb hu he)
    rw [all_true, hs] at q
    simpa using q
theorem eqAt_lstG {A : Around} {s : Shared} {a b : Addr} {items items2 : Array Value} (ha : s.heap.IsList a items) (hb : s.heap.IsList b items2) (hs : items.size = items2.size) (hu : A.units < cLine)
    (he : ∀ j (h1 : j < items.size) (h2 : j < items2.size), PySem.SeqAt.EqAt A.in1 s items[j] items2[j] true) : PySem.SeqAt.EqAt A s (.ref a) (.ref b) true := by
  by_cases e : a = b
  · subst e; exact PySem.SeqAt.EqAt.same _
  · have q := PySem.SeqAt.EqAt.of_refs e (PySem.SeqAt.RcAt.lists (e := fun _ => true) ha hb hs hu he)
    rw [all_true] at q
    exact q
theorem eqAt_int {A : Around} {s : Shared} {x : Int} {t u : Tok} : PySem.SeqAt.EqAt A s (.int x t) (.int x u) true := by
  have := PySem.SeqAt.EqAt.int_int (A := A) (s := s) x t x u
  simpa using this
theorem eqAt_ints {A : Around} {s : Shared} {vs us : Array Value} {ns : List Int} (h1 : IntsAre vs.toList ns) (h2 : IntsAre us.toList ns) (j : Nat) (a : j < vs.size) (b : j < us.size) : PySem.SeqAt.EqAt A s vs[j] us[j] true := by
  have hl := h1.length
  rw [Array.length_toList] at hl
  obtain ⟨t, e⟩ := h1.get j ns[j] (List.getElem?_eq_getElem (by omega))
  obtain ⟨u, e'⟩ := h2.get j ns[j] (List.getElem?_eq_getElem (by omega))
  rw [Array.getElem?_toList, Array.getElem?_eq_getElem a] at e
  rw [Array.getElem?_toList, Array.getElem?_eq_getElem b] at e'
  rw [Option.some.inj e, Option.some.inj e']
  exact eqAt_int
theorem spanEq {A : Around} {s : Shared} {v y : Value} {sp : Int × Int} (hv : SpanAt s.heap v sp) (hy : SpanAt s.heap y sp) (hu : A.units < cLine) : PySem.SeqAt.EqAt A s v y true := by
  obtain ⟨t, ta, tb, rfl, i⟩ := hv
  obtain ⟨t', ta', tb', rfl, i'⟩ := hy
  refine eqAt_tupG i i' rfl hu fun j h1 h2 => ?_
  rcases j with _ | _ | j
  · exact eqAt_int
  · exact eqAt_int
  · exact absurd (show j + 1 + 1 < 2 from h1) (by omega)
theorem hits_of {A : Around} {s : Shared} {kb : List (Int × Value)} (hu : A.units < cLine) : ∀ {ka : List (Int × Value)} {sps : List (Int × Int)}, Paired (fun kv sp => kv.1 = sp.1 ∧ SpanAt s.heap kv.2 sp) ka sps →
    (∀ sp ∈ sps, ∃ y, valueAt kb sp.1 = some y ∧ SpanAt s.heap y sp) → KeqHits A s kb ka true
  | _, _, .nil, _ => .nil
  | (k, v) :: _, sp :: _, .cons h r, hk => by
    obtain ⟨y, hy, hs⟩ := hk sp (.head _)
    have e : k = sp.1 := h.1
    have q := KeqHits.hit (e := true) (b := true) (k := k) (by rw [e]; exact hy) (spanEq h.2 hs hu) (hits_of hu r fun sp' hp => hk sp' (.tail _ hp))
    simpa using q
theorem spans_lookup {h : Heap} {kb : List (Int × Value)} {sps : List (Int × Int)} (hp : SpansAt h kb sps) (hnd : (kb.map (·.1)).Nodup) : ∀ sp ∈ sps, ∃ y, valueAt kb sp.1 = some y ∧ SpanAt h y sp := fun sp hsp => by
  obtain ⟨i, hi⟩ := List.getElem?_of_mem hsp
  obtain ⟨kv, hkv, e1, e2⟩ := paired_get hp hi
  refine ⟨kv.2, ?_, e2⟩
  rw [← e1]
  exact valueAt_of_get hnd (i := i) (by rw [hkv])
end Mine
namespace Mine
theorem fget0 {st : List Int} {len : Int} {i : Nat} (hi : i < st.length) (h : i < (st ++ [len]).length) : (st ++ [len])[i] = st.getD i 0 := by
  rw [List.getElem_append_left hi, List.getD_eq_getElem?_getD, List.getElem?_eq_getElem hi]; rfl
theorem fget1 {st : List Int} {len : Int} {i : Nat} (hi : i < st.length) (h : i + 1 < (st ++ [len]).length) : (st ++ [len])[i + 1] = st.getD (i + 1) len := by
  rw [List.getD_eq_getElem?_getD]
  by_cases q : i + 1 < st.length
  · rw [List.getElem_append_left q, List.getElem?_eq_getElem q]; rfl
  · rw [List.getElem_append_right (by omega), List.getElem?_eq_none (by omega)]
    have : i + 1 - st.length = 0 := by omega
    simp [this]
theorem spansOf_get {st : List Int} {len : Int} {i : Nat} (hi : i < st.length) : (spansOf st len)[i]? = some (st.getD i 0, st.getD (i + 1) len) := by
  unfold spansOf
  rw [List.getElem?_map, List.getElem?_range hi]; rfl
section
variable {w : World} {A : Around} {s : Shared} {Q E : Value → Shared → Prop}
theorem tup_raw {vs : List Value} (hz : vs.length ≤ 100) (h : s.heap.get? s.heap.objs.size = none → (s.heap.push { cls := .type "tuple", data := .seq vs.toArray }).get? s.heap.objs.size = some { cls := .type "tuple", data := .seq vs.toArray } → Q (.ref s.heap.objs.size) { s with heap := s.heap.push { cls := .type "tuple", data := .seq vs.toArray } }) : wpAny (model PR w) A (newTuple vs) Q E s := by
  unfold newTuple
  refine wpAny_newObj_type (h (get_size _) (Heap.get?_push_size _ rfl)) (by show (List.toArray _).size ≤ sizeLine; rw [List.size_toArray, sizeLine_eq]; omega)
end
end Mine
namespace Mine
section
variable {w : World} {A : Around} {s : Shared} {E : Value → Shared → Prop} {h₀ : Heap} {m : Str → Option Value} {env : Env}
theorem store_loc {y : Str} {v : Value} {Q : Unit → Shared → Prop} (F : Fr h₀ env.locals s.heap m) (hx : env.kindOf y = some .local) (hp : (env.scope.kind == .class || (env.scope.kind == .module && env.locals != env.globals)) = false)
    (h : ∀ h', Fr h₀ env.locals h' (fun z => if z = y then some v else m z) → (∀ b o, b ≠ env.locals → s.heap.get? b = some o → h'.get? b = some o) → Q () { s with heap := h', toks := s.toks + 1 }) : wpAny (model PR w) A (storeName env y v) Q E s :=
  wpAny_storeName_local hx F.ns (fun h₂ hn₂ hs₂ => h h₂ ⟨hn₂, fun b o e => hs₂.extBut b o (fun q => by
    have := Heap.lt_size e
    rw [q] at this
    exact absurd this (Nat.not_lt.mpr F.above)) (F.keep b o e), F.above⟩ fun b o q e => hs₂.extBut b o q e) hp
theorem SpanAt.but {h h' : Heap} {L : Addr} {m : Str → Option Value} {v : Value} {sp : Int × Int} (x : SpanAt h v sp) (n : h.Ns L m) (k : ∀ b o, b ≠ L → h.get? b = some o → h'.get? b = some o) : SpanAt h' v sp := by
  obtain ⟨t, ta, tb, e, o, ho, hc, nn, hd⟩ := x
  refine ⟨t, ta, tb, e, o, k t o (fun q => ?_) ho, hc, nn, hd⟩
  obtain ⟨oL, es, ep, hL, hdL, _⟩ := n
  rw [q, hL] at ho
  rw [Option.some.inj ho] at hdL
  simp [hd] at hdL
end
end Mine
end
section
open PySem PySem.W PySem.Spec PySem.Calls PyProof.Rows
set_option maxRecDepth 100000
set_option maxHeartbeats 1000000
namespace Mine
/-- is it a row of this cluster -/
noncomputable def rowIs (h : Heap) (k : Int) (v : Value) : Bool := @decide (∃ r, RowAt h v r ∧ r.c = k) (Classical.propDecidable _)
theorem rowIs_at {h : Heap} {k : Int} {v : Value} {r : RowV} (x : RowAt h v r) : rowIs h k v = decide (r.c = k) := by
  unfold rowIs
  by_cases e : r.c = k
  · rw [decide_eq_true e]
    exact @decide_eq_true _ (Classical.propDecidable _) ⟨r, x, e⟩
  · rw [decide_eq_false e]
    refine @decide_eq_false _ (Classical.propDecidable _) ?_
    rintro ⟨r', x', e'⟩
    rw [x.inj x'] at e
    exact e e'
theorem ints_of_is {h : Heap} {f : RowV → Int} {k : Int} : ∀ {vs : List Value} {rs : List RowV} {ys : List Value}, RowsAt h vs rs → Paired (intOf h f) (vs.filter (rowIs h k)) ys → IntsAre ys ((rs.filter fun r => decide (r.c = k)).map f)
  | [], [], _, .nil, .nil => .nil
  | v :: vs, r :: rs, ys, .cons x y, hp => by
    rw [List.filter_cons, rowIs_at x] at hp
    rw [List.filter_cons]
    cases hq : decide (r.c = k) with
    | false =>
      rw [hq] at hp
      simp only [Bool.false_eq_true, if_false] at hp ⊢
      exact ints_of_is y hp
    | true =>
      rw [hq] at hp
      simp only [if_true] at hp ⊢
      cases hp with
      | cons h1 h2 =>
        obtain ⟨r', t, x', e⟩ := h1
        rw [x.inj x', e]
        exact .cons _ _ (ints_of_is y h2)
theorem advOf_srs (b : Bool) (rs : List RowV) (k : Int) : advOf (srs b rs) k = advOf rs k := by
  unfold advOf srs
  split
  · rw [List.filter_reverse, List.map_reverse]
    generalize (rs.filter fun r => decide (r.c = k)).map (·.a) = l
    induction l with
    | nil => rfl
    | cons a r ih => rw [List.reverse_cons, List.sum_append, ih]; simp; omega
  · rfl
theorem caretFold_srs (b : Bool) (rs : List RowV) (sps : List (Int × Int)) : caretFold (srs b rs) sps = caretFold rs sps := by
  unfold caretFold
  have e : caretStep (srs b rs) = caretStep rs := by
    funext st sp
    unfold caretStep
    rw [advOf_srs]
  rw [e]
end Mine
end
section
open PySem PySem.W PySem.Spec PySem.Calls PyProof.Rows
set_option maxRecDepth 100000
set_option maxHeartbeats 1000000
namespace Mine
section
variable {w : World} {A : Around} {s : Shared} {env : Env} {Q : Flow → Shared → Prop} {E : Value → Shared → Prop}
/-- for a, b in enumerate(xs), xs a list that stays -/
theorem for_enum {elts : List PySem.Expr} {x1 : Nat} {pt : Pos} {body : List Stmt} {h₀ : Heap} {news : List (Addr × Obj)} {m₀ : Str → Option Value} {l : Addr} {vs : List Value}
    (J : Nat → (Str → Option Value) → List (Addr × Obj) → Prop)
    (hh : A.handled = none) (hL : ∀ i h m nx, J i m nx → Fr h₀ env.locals h m → News h₀ env.locals h nx → h.IsList l vs.toArray)
    (F : Fr h₀ env.locals s.heap m₀) (N : News h₀ env.locals s.heap news) (hJ : J 0 m₀ news)
    (turn : ∀ i v T t m₁ nx h tk I I2 oI oI2 E', vs[i]? = some v → (∀ p ∈ nx, @Ne Nat p.1 I) → (∀ p ∈ nx, @Ne Nat p.1 I2) → J i m₁ nx → Fr h₀ env.locals h m₁ → News h₀ env.locals h ((I, oI) :: (I2, oI2) :: nx) → IsTup h T #[.int (i : Nat) t, v] →
      wpAny (model PR w) A (assign (.Tuple elts x1 pt) env (.ref T)) (fun _ s₂ => wpAny (model PR w) A (execs body env) (TurnPost h₀ env.locals I [(I, oI), (I2, oI2)] (fun m nx => J (i + 1) m nx ∧ ∀ p ∈ nx, @Ne Nat p.1 I2) s Q) E' s₂) E' { s with heap := h, toks := tk })
    (done : ∀ m₁ nx h tk, J vs.length m₁ nx → Fr h₀ env.locals h m₁ → News h₀ env.locals h nx → Q .next { s with heap := h, toks := tk }) :
    wpAny (model PR w) A (call (.type "enumerate") [.ref l]) (fun x s₁ => wpAny (model PR w) A (pyIter x) (fun it s₂ => LoopGo PR w A (.Tuple elts x1 pt) body env Q E it s₂) E s₁) E s := by
  have hl := hL _ _ _ _ hJ F N
  refine call_enumerate_list hl fun h1 he1 hit1 hz1 hk1 => ?_
  refine wpAny_pyIter_enum he1 ?_
  obtain ⟨ol, hol, _⟩ := id hl
  have hlt0 : @LT.lt Nat _ l s.heap.objs.size := Heap.lt_size hol
  generalize hIe : s.heap.objs.size = I2 at *
  have hI2L : @LT.lt Nat _ env.locals I2 := hIe ▸ F.ns.lt
  have hN0 : ∀ p ∈ news, @LT.lt Nat _ p.1 I2 := fun p hp => hIe ▸ Heap.lt_size (N p hp).1
  have hlow : @LE.le Nat _ h₀.objs.size I2 := Nat.le_trans F.above (Nat.le_of_lt hI2L)
  have hI0 : h₀.get? I2 = none := Heap.get?_none_of_le hlow
  have he0 : h₀.get? (I2 + 1) = none := Heap.get?_none_of_le (Nat.le_succ_of_le hlow)
  have hsz : vs.toArray.size = vs.length := by simp
  obtain ⟨INV, hINV⟩ : ∃ INV : Nat → Shared → Prop, INV = (fun k s' => ∃ i m₁ nx h tk old, s' = { s with heap := h, toks := tk } ∧ IsEnum h (I2 + 1) I2 (i : Nat) old ∧ h.IsListIter I2 l i ∧ h.IsList l vs.toArray ∧ Fr h₀ env.locals h m₁ ∧ News h₀ env.locals h nx ∧ (∀ p ∈ nx, @Ne Nat p.1 (I2 + 1)) ∧ (∀ p ∈ nx, @Ne Nat p.1 I2) ∧ J i m₁ nx ∧ i ≤ vs.length ∧ k = vs.length + 1 - i) := ⟨_, rfl⟩
  refine codeAny_forLoop_any INV ?_ (vs.length + 1) (by rw [hINV]; exact ⟨0, m₀, news, h1, s.toks, .none, rfl, he1, hit1, hl.at fun o e => hk1 _ _ e, fr_kp F hk1, news_kp N hk1, fun p hp => by have := hN0 p hp; omega, fun p hp => by have := hN0 p hp; omega, hJ, Nat.zero_le _, rfl⟩)
  intro k s' hI0
  rw [hINV] at hI0
  obtain ⟨i, m₁, nx, h, tk, old, rfl, he, hit, hll, F₁, N₁, hnx, hnx2, hJ₁, hi, rfl⟩ := hI0
  have hei : @Ne Nat (I2 + 1) I2 := by omega
  have hle : @Ne Nat l (I2 + 1) := by omega
  have hli : @Ne Nat l I2 := by omega
  by_cases hlt' : i < vs.length
  · obtain ⟨v, hv⟩ : ∃ v, vs[i]? = some v := ⟨_, List.getElem?_eq_getElem hlt'⟩
    refine wpAny_pyNext_enum_item he hit hll (by rw [List.getElem?_toArray]; exact hv) hei fun h2 heo hit2 hT2 hz2 hk2 => ?_
    refine wpAny_letOwnedTupleGo_enum heo fun h3 he3 hs3 => ?_
    have hT : h3.get? h.objs.size = some { cls := .type "tuple", data := .seq #[.int (i : Nat) tk, v] } := (hs3.2 _ (Nat.ne_of_gt (Heap.lt_size he))).trans hT2
    have k3 : ∀ b o, @Ne Nat b (I2 + 1) → @Ne Nat b I2 → h.get? b = some o → h3.get? b = some o := fun b o q1 q2 e => hs3.extBut b o q1 (hk2 b o q1 q2 e)
    have F₃ : Fr h₀ env.locals h3 m₁ := ⟨F₁.ns.at' fun o e => k3 _ o (by omega) (by omega) e, fun b o e => k3 b o (fun q => by rw [q, he0] at e; cases e) (fun q => by rw [q, hI0] at e; cases e) (F₁.keep b o e), F₁.above⟩
    have hit3 : h3.IsListIter I2 l (i + 1) := hit2.at fun o e => (hs3.2 _ (Ne.symm hei)).trans e
    obtain ⟨oit, hoit, hoc, hod⟩ := id hit3
    have N₃ : News h₀ env.locals h3 ((I2 + 1, { cls := .type "enumerate", dict := none, data := .fields #[.none, .bool false, .ref I2, rawInt ((i : Int) + 1), .none, v], slots := #[] }) :: (I2, oit) :: nx) := by
      intro p hp
      rcases List.mem_cons.mp hp with rfl | hp
      · exact ⟨he3, show @Ne Nat (I2 + 1) env.locals by omega, he0⟩
      · rcases List.mem_cons.mp hp with rfl | hp
        · exact ⟨hoit, show @Ne Nat I2 env.locals by omega, hI0⟩
        · exact ⟨k3 _ _ (hnx p hp) (hnx2 p hp) (N₁ p hp).1, (N₁ p hp).2⟩
    refine wpAny_mono (turn i v h.objs.size tk m₁ nx h3 (tk + 1) (I2 + 1) I2 _ oit _ hv hnx hnx2 hJ₁ F₃ N₃ ⟨_, hT, rfl, _, rfl⟩) (fun _ s₂ h₂ => wpAny_mono h₂ (fun fl s₃ h₃ => ?_) fun _ _ e => e) fun _ _ e => e
    have fin : TurnEnd h₀ env.locals (I2 + 1) [(I2 + 1, { cls := .type "enumerate", dict := none, data := .fields #[.none, .bool false, .ref I2, rawInt ((i : Int) + 1), .none, v], slots := #[] }), (I2, oit)] (fun m nx => J (i + 1) m nx ∧ ∀ p ∈ nx, @Ne Nat p.1 I2) s s₃ → ∃ m, m < vs.length + 1 - i ∧ INV m s₃ := by
      rintro ⟨h'', tk'', m', nx', rfl, F', N', hI', hJ', hI2'⟩
      have NK : News h₀ env.locals h'' nx' := fun p hp => N' p (.tail _ (.tail _ hp))
      refine ⟨vs.length + 1 - (i + 1), by omega, ?_⟩
      rw [hINV]
      exact ⟨i + 1, m', nx', h'', tk'', v, rfl, (N' _ (.head _)).1, ⟨oit, (N' _ (.tail _ (.head _))).1, hoc, hod⟩, hL _ _ _ _ hJ' F' NK, F', NK, hI', hI2', hJ', by omega, rfl⟩
    cases fl with
    | ret v => exact h₃
    | brk => exact h₃
    | next => exact fin h₃
    | cont => exact fin h₃
  · have hin : i = vs.length := by omega
    subst hin
    refine wpAny_pyNext_enum_end hh he hit hll (by rw [List.getElem?_toArray]; exact List.getElem?_eq_none (Nat.le_refl _)) fun h' hk => wpAny_execs_nil ?_
    have keep : ∀ b o, @Ne Nat b I2 → h.get? b = some o → h'.get? b = some o := fun b o q e => hk b o q e
    exact done m₁ nx h' _ hJ₁ ⟨F₁.ns.at' fun o e => keep _ o (by omega) e, fun b o e => keep b o (fun q => by rw [q, hI0] at e; cases e) (F₁.keep b o e), F₁.above⟩
      fun p hp => ⟨keep _ _ (hnx2 p hp) (N₁ p hp).1, (N₁ p hp).2⟩
end
end Mine
end
section
open PySem PySem.W PySem.Spec PySem.Calls PyProof.Rows
set_option maxRecDepth 100000
set_option maxHeartbeats 1000000
namespace Mine
theorem pick_init (items : Array Value) (h : 0 < items.size) : slicePick items none (some (-1)) none = (items.toList.dropLast).toArray := by
  have e : sliceBounds none (some (-1)) none items.size = (((0 : Nat) : Int), ((items.size - 1 : Nat) : Int), 1) := by
    simp only [sliceBounds, Option.getD_none, show (1 : Int) > 0 by decide, if_true, if_pos (show ((-1 : Int) < 0) by decide)]
    congr 1
    congr 1
    omega
  rw [kmk_pick_nat items e, List.drop_zero, Nat.sub_zero, List.dropLast_eq_take, Array.length_toList]
theorem groups_eq {A : Around} {s : Shared} {gvs hvs : List Value} {gss : List (List Int)} (h1 : Paired (GroupAt s.heap) gvs gss) (h2 : Paired (GroupAt s.heap) hvs gss) (hu : A.units < cLine) (j : Nat) (a : j < gvs.toArray.size) (b : j < hvs.toArray.size) : PySem.SeqAt.EqAt A s gvs.toArray[j] hvs.toArray[j] true := by
  have hj : j < gss.length := by rw [← h1.length]; simpa using a
  obtain ⟨v, hv, ⟨x, ys, n, rfl, e, i⟩⟩ := paired_get h1 (List.getElem?_eq_getElem hj)
  obtain ⟨v', hv', ⟨x', ys', n', rfl, e', i'⟩⟩ := paired_get h2 (List.getElem?_eq_getElem hj)
  have q1 : gvs.toArray[j] = .ref x := by
    have : gvs.toArray[j]? = some (.ref x) := by rw [List.getElem?_toArray]; exact hv
    rw [Array.getElem?_eq_getElem a] at this; exact Option.some.inj this
  have q2 : hvs.toArray[j] = .ref x' := by
    have : hvs.toArray[j]? = some (.ref x') := by rw [List.getElem?_toArray]; exact hv'
    rw [Array.getElem?_eq_getElem b] at this; exact Option.some.inj this
  rw [q1, q2]
  refine eqAt_lstG (items := ys.toArray) (items2 := ys'.toArray) ⟨_, e, rfl, n, rfl⟩ ⟨_, e', rfl, n', rfl⟩ ?_ hu fun k h1 h2 => ?_
  · rw [List.size_toArray, List.size_toArray, i.length, i'.length]
  · exact eqAt_ints (vs := ys.toArray) (us := ys'.toArray) (by simpa using i) (by simpa using i') k h1 h2
end Mine
namespace Mine
theorem paired_last {α β : Type} {F : α → β → Prop} : ∀ {m : List β} {b : β} {l : List α}, Paired F l (m ++ [b]) → ∃ l0 a, l = l0 ++ [a] ∧ F a b ∧ Paired F l0 m
  | [], b, _, .cons h .nil => ⟨[], _, rfl, h, .nil⟩
  | c :: m, b, _, .cons h r => by
    obtain ⟨l0, a, rfl, h1, h2⟩ := paired_last r
    exact ⟨_ :: l0, a, rfl, h1, .cons h h2⟩
theorem grp_add {fam : List (Addr × Obj)} {gv : List Value} {l : List (List Int)} {a : Addr} {ys : List Value} {n : Nat} {gs : List Int} (h : Paired (GroupIn fam) gv l) (hi : IntsAre ys gs) : Paired (GroupIn ((a, W.listOf ys.toArray n) :: fam)) (gv ++ [.ref a]) (l ++ [gs]) :=
  paired_snoc (Paired.imp' (fun _ _ q => q.mono fun _ hp => .tail _ hp) h) ⟨a, ys, n, rfl, .head _, hi⟩
theorem off_grp {L P q : Addr} {I I2 Gl : Addr × Obj} {A C : Addr} {oA oC : Obj} {fs : List (Addr × Obj)} (O : Off L P q (I :: I2 :: Gl :: fs)) (a : Off L P q ((A, oA) :: I :: I2 :: Gl :: fs)) (c : Off L P q ((C, oC) :: I :: I2 :: Gl :: fs)) : Off L P q (I :: I2 :: (C, oC) :: (A, oA) :: fs) := by
  intro p hp
  rcases List.mem_cons.mp hp with rfl | hp
  · exact O _ (.head _)
  rcases List.mem_cons.mp hp with rfl | hp
  · exact O _ (.tail _ (.head _))
  rcases List.mem_cons.mp hp with rfl | hp
  · exact c _ (.head _)
  rcases List.mem_cons.mp hp with rfl | hp
  · exact a _ (.head _)
  exact O p (.tail _ (.tail _ (.tail _ hp)))
theorem news_grp {hc h : Heap} {L P q : Addr} {oP oq c1 c2 c3 c4 c5 c6 c7 c8 c9 : Obj} {I I2 Gl : Addr × Obj} {A C : Addr} {oA oC : Obj} {top fs : List (Addr × Obj)} (N : News hc L h (top ++ ld L P q oP oq c1 c2 c3 c4 c5 c6 c7 c8 c9 (I :: I2 :: Gl :: fs))) (hA : (A, oA) ∈ top) (hC : (C, oC) ∈ top) : News hc L h (ld L P q oP oq c1 c2 c3 c4 c5 c6 c7 c8 c9 (I :: I2 :: (C, oC) :: (A, oA) :: fs)) :=
  news_sub N fun p hp => by
    have := ld_in (new := [I, I2, (C, oC), (A, oA)]) p hp
    rcases List.mem_cons.mp this with rfl | hp
    · exact List.mem_append_right _ (ld_St _ (.head _))
    rcases List.mem_cons.mp hp with rfl | hp
    · exact List.mem_append_right _ (ld_St _ (.tail _ (.head _)))
    rcases List.mem_cons.mp hp with rfl | hp
    · exact List.mem_append_left _ hC
    rcases List.mem_cons.mp hp with rfl | hp
    · exact List.mem_append_left _ hA
    · exact List.mem_append_right _ (ld_mono (fun _ h => .tail _ (.tail _ (.tail _ h))) p hp)
end Mine
namespace Mine
section
variable {w : World} {A : Around} {s : Shared} {Q E : Value → Shared → Prop}
theorem row_sub0 {v : Value} {r : RowV} {value : PySem.Expr} {p : Pos} {n : Nat} {u : Tok} (x : RowAt s.heap v r) (h : ∀ t, Q (.int r.g t) s) : wpAny (model PR w) A (subscriptTail value (.Constant (.int 0) n p) v (.int 0 u)) Q E s := by
  obtain ⟨b, t1, t2, t3, t4, t5, t6, rfl, i⟩ := x
  exact item_tupleT i (by decide) (by decide) rfl rfl (h _)
theorem row_sub1 {v : Value} {r : RowV} {value : PySem.Expr} {p : Pos} {n : Nat} {u : Tok} (x : RowAt s.heap v r) (h : ∀ t, Q (.int r.c t) s) : wpAny (model PR w) A (subscriptTail value (.Constant (.int 1) n p) v (.int 1 u)) Q E s := by
  obtain ⟨b, t1, t2, t3, t4, t5, t6, rfl, i⟩ := x
  exact item_tupleT i (by decide) (by decide) rfl rfl (h _)
end
end Mine
end
section
open PySem PySem.W PySem.Spec PySem.Calls PyProof.Rows
set_option maxRecDepth 100000
set_option maxHeartbeats 1000000
namespace Mine
def RowIn (fam : List (Addr × Obj)) (v : Value) (r : RowV) : Prop := ∃ t t1 t2 t3 t4 t5 t6, v = .ref t ∧ (t, ({ cls := .type "tuple", data := .seq #[.int r.g t1, .int r.c t2, .int r.a t3, .int 0 t4, .int r.y t5, .int 0 t6, .bool false] } : Obj)) ∈ fam
theorem RowIn.mono {fam fam' : List (Addr × Obj)} {v : Value} {r : RowV} (x : RowIn fam v r) (k : ∀ p ∈ fam, p ∈ fam') : RowIn fam' v r := by
  obtain ⟨t, t1, t2, t3, t4, t5, t6, e, i⟩ := x
  exact ⟨t, t1, t2, t3, t4, t5, t6, e, k _ i⟩
theorem rows_has {fam : List (Addr × Obj)} {h : Heap} {vs : List Value} {rs : List RowV} (x : Paired (RowIn fam) vs rs) (H : Has h fam) : RowsAt h vs rs := Paired.imp' (fun v r y => by
  obtain ⟨t, t1, t2, t3, t4, t5, t6, e, i⟩ := y
  exact ⟨t, t1, t2, t3, t4, t5, t6, e, _, H _ i, rfl, _, rfl⟩) x
theorem last_max {r0 : List RowV} {rl : RowV} (h : ((r0 ++ [rl]).map (·.c)).Pairwise (· ≤ ·)) : ∀ r ∈ r0 ++ [rl], r.c ≤ rl.c := by
  intro r hr
  rw [List.map_append, List.pairwise_append] at h
  rcases List.mem_append.mp hr with q | q
  · exact h.2.2 r.c (List.mem_map.mpr ⟨r, q, rfl⟩) rl.c (by simp)
  · rw [List.mem_singleton.mp q]; exact Int.le_refl _
theorem up_snoc {rs : List RowV} {r : RowV} {k : Int} (h : (rs.map (·.c)).Pairwise (· ≤ ·)) (hb : ∀ x ∈ rs, x.c ≤ r.c) : ((rs ++ [r]).map (·.c)).Pairwise (· ≤ ·) := by
  rw [List.map_append, List.pairwise_append]
  refine ⟨h, by simp, ?_⟩
  intro a ha b hb'
  obtain ⟨x, hx, rfl⟩ := List.mem_map.mp ha
  simp at hb'
  rw [hb']; exact hb x hx
theorem pl_of {h₀ h : Heap} {L P : Addr} {m : Str → Option Value} {c1 c2 c3 c4 c5 c6 c7 c8 c9 : Obj} {r : List (Addr × Obj)} (F : Fr h₀ L h m) (N : News h₀ L h ((L + 1, c1) :: (L + 2, c2) :: (L + 3, c3) :: (L + 4, c4) :: (L + 5, c5) :: (L + 6, c6) :: (L + 7, c7) :: (L + 8, c8) :: (L + 9, c9) :: r)) (hP : h.get? P = none) : PL L P := by
  have nx : ∀ (a : Addr) (o : Obj), h.get? a = some o → @Ne Nat P a := fun a o e q => by
    have q' : P = a := q
    rw [q', e] at hP; cases hP
  obtain ⟨oL, _, _, hL, _⟩ := F.ns
  exact ⟨nx _ _ hL, nx _ _ (N _ (.head _)).1, nx _ _ (N _ (.tail _ (.head _))).1, nx _ _ (N _ (.tail _ (.tail _ (.head _)))).1, nx _ _ (N _ (.tail _ (.tail _ (.tail _ (.head _))))).1, nx _ _ (N _ (.tail _ (.tail _ (.tail _ (.tail _ (.head _)))))).1, nx _ _ (N _ (.tail _ (.tail _ (.tail _ (.tail _ (.tail _ (.head _))))))).1, nx _ _ (N _ (.tail _ (.tail _ (.tail _ (.tail _ (.tail _ (.tail _ (.head _)))))))).1, nx _ _ (N _ (.tail _ (.tail _ (.tail _ (.tail _ (.tail _ (.tail _ (.tail _ (.head _))))))))).1, nx _ _ (N _ (.tail _ (.tail _ (.tail _ (.tail _ (.tail _ (.tail _ (.tail _ (.tail _ (.head _)))))))))).1⟩
end Mine
end
section
open PySem PySem.W PySem.Spec PySem.Calls PyProof.Rows
set_option maxRecDepth 100000
set_option maxHeartbeats 8000000
namespace Mine
local macro_rules | `(tactic| walk_at "getAttr ref") => `(tactic| first | ((with_reducible show wpAny _ _ (getAttr _ (Str.ofString "rows") _) _ _ _); (refine attr_rows (by assumption) (by assumption) (by assumption) ?_)) | ((with_reducible show wpAny _ _ (getAttr _ (Str.ofString "is_backward") _) _ _ _); (refine attr_back (by assumption) (by assumption) (by assumption) ?_)))
local macro_rules | `(tactic| walk_at "getAttr ref") => `(tactic| ((with_reducible show wpAny _ _ (getAttr _ (Str.ofString "rows") _) _ _ _); (refine attr_rowsS (by assumption) (by assumption) (by assumption) ?_)))
local macro_rules | `(tactic| walk_at "getMethod ref") => `(tactic| ((with_reducible show wpAny _ _ (getMethod _ (Str.ofString "told") _) _ _ _); (refine meth_told (by assumption) (by assumption) (by assumption) ?_)))
local macro_rules | `(tactic| tb_rel) => `(tactic| first | rfl | ((try dsimp only); (repeat (rw [if_neg (by decide)])); first | assumption | rfl))
local macro_rules | `(tactic| walk_at "eval Name") => `(tactic| (refine' nameX_L ?F ?v ?_ ?a ?b; (case a => rfl); (case b => rfl); (case F => assumption); (case v => tb_rel); k_whole))
local macro_rules | `(tactic| walk_at "eval Name") => `(tactic| ((with_reducible show wpAny _ _ (eval (Expr.Name _ _) (compEnvC _ _ _ _)) _ _ _); first | (refine' cb_local ?n ?m ?_ ?a ?b ?c; (case a => rfl); (case b => rfl); (case c => rfl); (case n => assumption); (case m => assumption)) | (refine' cb_cell ?c ?v ?_ ?a ?b ?d; (case a => rfl); (case b => rfl); (case d => rfl); (case c => rfl); (case v => assumption)) | (refine' cb_built ?G ?e ?v ?n ?_ ?g ?h ?a ?b ?c; (case a => rfl); (case b => rfl); (case c => rfl); (case g => rfl); (case h => rfl); (case G => assumption); (case e => k_is); (case v => boot_fast); (case n => decide))))
local macro_rules | `(tactic| walk_at "newTuple") => `(tactic| (refine' kup_newTuple ?F ?N ?_ ?z; (case F => assumption); (case N => assumption); (case z => kmk_size); intro D' h' F' N' l1; (try k_sweep)))
local macro_rules | `(tactic| walk_at "subscriptTail") => `(tactic| ((with_reducible show wpAny _ _ (subscriptTail _ _ (Value.ref _) (Value.int _ _)) _ _ _); refine' item_tupleT ?t (by decide) (by decide) rfl rfl ?_; (case t => exact IsTup.keeps (by assumption) (Fr.keep (by assumption))); k_whole))
section
local macro_rules | `(tactic| tb_start) => `(tactic| repeat' (first | ((first | (with_reducible show wpAny _ _ _ _ _ _) | (with_reducible show ite _ _ _)); (fail_if_success (with_reducible show wpAny _ _ (eval (Expr.ListComp _ _ _ _) _) _ _ _)); (fail_if_success (with_reducible show wpAny _ _ (call _ _ _) _ _ _)); (fail_if_success (with_reducible show wpAny _ _ (compareOp _ (Value.ref _) (Value.ref _)) _ _ _)); (fail_if_success (with_reducible show wpAny _ _ (binaryOp _ (Value.ref _) (Value.ref _)) _ _ _)); (fail_if_success (with_reducible show wpAny _ _ (storeName _ _ _) _ _ _)); (fail_if_success (with_reducible show wpAny _ _ (newTuple _) _ _ _)); (fail_if_success (with_reducible show wpAny _ _ (subscriptTail _ _ _ _) _ _ _)); (fail_if_success (with_reducible show wpAny _ _ (execs (Stmt.Return _ _ :: _) _) _ _ _)); (fail_if_success (with_reducible show wpAny _ _ (execs (Stmt.Assign [Expr.Tuple _ _ _] _ _ :: _) _) _ _ _)); (fail_if_success (with_reducible show wpAny _ _ (execs (Stmt.Assign [Expr.Name (Str.ofString "spans") _] _ _ :: _) _) _ _ _)); (fail_if_success (with_reducible show wpAny _ _ (execs (Stmt.Assign [Expr.Name (Str.ofString "inside") _] _ _ :: _) _) _ _ _)); (fail_if_success (with_reducible show wpAny _ _ (execs (Stmt.Assign [Expr.Name (Str.ofString "firsts") _] _ _ :: _) _) _ _ _)); (fail_if_success (with_reducible show wpAny _ _ (execs (Stmt.Assign [Expr.Name (Str.ofString "groups") _] _ _ :: _) _) _ _ _)); (fail_if_success (with_reducible show wpAny _ _ (execs (Stmt.Assign [Expr.Name (Str.ofString "places") _] _ _ :: _) _) _ _ _)); (fail_if_success (with_reducible show wpAny _ _ (execs (Stmt.Assign [Expr.Name (Str.ofString "length") _] _ _ :: _) _) _ _ _)); (fail_if_success (with_reducible show wpAny _ _ (execs (Stmt.Assign [Expr.Name (Str.ofString "shaped") _] _ _ :: _) _) _ _ _)); (fail_if_success (with_reducible show wpAny _ _ (pyIter _) _ _ _)); (fail_if_success (with_reducible show wpAny _ _ (setItem _ _ _) _ _ _)); (fail_if_success (with_reducible show wpAny _ _ (exec (Stmt.For _ _ _ _ _) _) _ _ _)); walk1) | ((with_reducible show ite _ _ _); dsimp only)))
section
theorem fill_L5 (w : World) : (hd.heap_39 w.params).In {} → PySem.Challenge.rw_nu0147_01.prog = PySem.Challenge.rw_nu0147_01.prog := by
  k_fill
  exact fun _ => rfl
section
variable {w : World} {mg mb : Str → Option Value} {dp un : Nat} {fr : Option (List Env)} {gd : Option (List Code)} {s : Shared} {Q E : Value → Shared → Prop}
variable {hc : Heap} {L P q : Addr} {oP oq c1 c2 c3 c4 c5 c6 c7 c8 c9 : Obj} {St : List (Addr × Obj)} {m : Str → Option Value} {frl : List Env} {Qf : Flow → Shared → Prop}
theorem st4 {R : Addr} {rvs : List Value} {rs : List RowV} {b : Bool} {len : Int} {tl : Tok} (G : Gd w mg mb hc) (F : Fr hc L s.heap m) (N : News hc L s.heap (ld L P q oP oq c1 c2 c3 c4 c5 c6 c7 c8 c9 St)) (hO : Off L P q St) (hPL : PL L P) (hqL : PL L q) (hPq : P ≠ q)
    (hpen : PenOf q oP oq) (hd1 : c1.data = .cell (some (.bool b))) (hd2 : c2.data = .cell none)
    (hR : ∀ h, Has h St → h.IsList R rvs.toArray) (hRr : ∀ h, Has h St → RowsAt h rvs rs)
    (hrv : rvs.length ≤ 8) (hm1 : m (Str.ofString "rows") = some (.ref R)) (hm2 : m (Str.ofString "pen") = some (.ref P)) (hm3 : m (Str.ofString "length") = some (.int len tl)) (hd : dp + 500 < recursionLimit) (hu : un < 3000)
    (h : ∀ x l lvs h' tk c2' St', Fr hc L h' m → News hc L h' (ld L P q oP oq c1 c2' c3 c4 c5 c6 c7 c8 c9 St') → Off L P q St' → c2'.data = .cell (some (.ref x)) → (∀ p ∈ St, p ∈ St') → (∀ h, Has h St' → ShapedAt h x l b ∧ h.IsList l (List.toArray lvs)) → lvs = (if b then rvs.reverse else rvs) →
      wpAny (model PR w) (AA dp un (some frl) gd) (execs (lawDef.1.drop 5) (lawEnv L)) Qf E { s with heap := h', toks := tk }) :
    wpAny (model PR w) (AA dp un (some frl) gd) (execs (lawDef.1.drop 4) (lawEnv L)) Qf E s := by
  conv in List.drop _ _ => whnf
  unfold lawEnv
  conv in Prod.snd lawDef => whnf
  have X := G.X
  have T := G.T
  refine wpAny_execs_cons ?_
  tb_start
  · rename_i hbt
    have HSt : Has s.heap St := Has.of N (fun p hp => by simp [ld, hp])
    refine krv_lit (its := rvs.toArray) (zs := rvs.reverse) F N (hR _ HSt) (IsPart.int _ _) rfl ?_ (by with_unfolding_all rfl) (fun _ => rfl) (by rw [List.size_toArray, sizeLine_eq]; omega)
    intro D h2 F2 N2 lt2
    tb_start
    refine ⟨X.keeps F2.keep, ?_⟩
    refine mk_spec G F2 N2 (by omega) ?_
    intro x dx h3 tk3 od F3 N3 lt3 lt4 hS3
    have lp := lt2 (P, oP) (.head _)
    have l9 := lt2 (L + 9, c9) (by simp [ld])
    have lq := lt2 (q, oq) (.tail _ (.head _))
    have lD := lt3 (D, _) (.head _)
    replace lp : @LT.lt Nat _ P D := lp
    replace lq : @LT.lt Nat _ q D := lq
    replace l9 : @LT.lt Nat _ (L + 9) D := l9
    replace lD : @LT.lt Nat _ D dx := lD
    replace lt4 : @LT.lt Nat _ dx x := lt4
    have h9D : @LT.lt Nat _ (L + 9) D := l9
    have h9d : @LT.lt Nat _ (L + 9) dx := Nat.lt_trans h9D lD
    have h9x : @LT.lt Nat _ (L + 9) x := Nat.lt_trans h9d lt4
    have hPd : @LT.lt Nat _ P dx := Nat.lt_trans lp lD
    have hqd : @LT.lt Nat _ q dx := Nat.lt_trans lq lD
    have hOx : Off L P q ((x, instObj 38 dx) :: (dx, od) :: (D, W.listOf rvs.reverse.toArray 0) :: St) := ((hO.cons h9D (Nat.ne_of_gt lp) (Nat.ne_of_gt lq)).cons h9d (Nat.ne_of_gt hPd) (Nat.ne_of_gt hqd)).cons h9x (Nat.ne_of_gt (Nat.lt_trans hPd lt4)) (Nat.ne_of_gt (Nat.lt_trans hqd lt4))
    refine store_2 F3 (news_sub N3 (ld_in (new := [(x, instObj 38 dx), (dx, od), (D, W.listOf rvs.reverse.toArray 0)]))) hOx hPL hqL rfl hd2 fun h4 c2' F4 N4 hd4 => ?_
    exact h x D rvs.reverse h4 _ c2' ((x, instObj 38 dx) :: (dx, od) :: (D, W.listOf rvs.reverse.toArray 0) :: St) F4 N4 hOx hd4 (fun p hp => .tail _ (.tail _ (.tail _ hp))) (fun h H => ⟨hS3 h (H _ (.head _)) (H _ (.tail _ (.head _))), list_of_obj (H _ (.tail _ (.tail _ (.head _))))⟩) (by rw [hbt]; rfl)
  · rename_i hbf
    have hLR := hR _ (Has.of N (fun p hp => by simp [ld, hp]))
    walk1
    (rename Fr _ _ _ _ => F2')
    (rename News _ _ _ _ => N2')
    rename_i D n2 h2 lt2
    have F2 := F2'
    have N2 := N2'
    tb_start
    refine ⟨X.keeps F2.keep, ?_⟩
    refine mk_spec G F2 N2 (by omega) ?_
    intro x dx h3 tk3 od F3 N3 lt3 lt4 hS3
    have lp := lt2.1
    have l9 : @LT.lt Nat _ (L + 9) D := (allLt_at (d := D) (l := ld L P q oP oq c1 c2 c3 c4 c5 c6 c7 c8 c9 St) lt2) (L + 9, c9) (by simp [ld])
    have lq := lt2.2.1
    have lD := lt3 (D, _) (.head _)
    replace lp : @LT.lt Nat _ P D := lp
    replace lq : @LT.lt Nat _ q D := lq
    replace l9 : @LT.lt Nat _ (L + 9) D := l9
    replace lD : @LT.lt Nat _ D dx := lD
    replace lt4 : @LT.lt Nat _ dx x := lt4
    have h9D : @LT.lt Nat _ (L + 9) D := l9
    have h9d : @LT.lt Nat _ (L + 9) dx := Nat.lt_trans h9D lD
    have h9x : @LT.lt Nat _ (L + 9) x := Nat.lt_trans h9d lt4
    have hPd : @LT.lt Nat _ P dx := Nat.lt_trans lp lD
    have hqd : @LT.lt Nat _ q dx := Nat.lt_trans lq lD
    have hOx : Off L P q ((x, instObj 38 dx) :: (dx, od) :: (D, W.listOf rvs.toArray n2) :: St) := ((hO.cons h9D (Nat.ne_of_gt lp) (Nat.ne_of_gt lq)).cons h9d (Nat.ne_of_gt hPd) (Nat.ne_of_gt hqd)).cons h9x (Nat.ne_of_gt (Nat.lt_trans hPd lt4)) (Nat.ne_of_gt (Nat.lt_trans hqd lt4))
    refine store_2 F3 (news_sub N3 (ld_in (new := [(x, instObj 38 dx), (dx, od), (D, W.listOf rvs.toArray n2)]))) hOx hPL hqL rfl hd2 fun h4 c2' F4 N4 hd4 => ?_
    exact h x D rvs h4 _ c2' ((x, instObj 38 dx) :: (dx, od) :: (D, W.listOf rvs.toArray n2) :: St) F4 N4 hOx hd4 (fun p hp => .tail _ (.tail _ (.tail _ hp))) (fun h H => ⟨hS3 h (H _ (.head _)) (H _ (.tail _ (.head _))), list_of_obj (H _ (.tail _ (.tail _ (.head _))))⟩) (by rw [hbf]; rfl)
end
end
end
section
local macro_rules | `(tactic| tb_start) => `(tactic| repeat' (first | ((first | (with_reducible show wpAny _ _ _ _ _ _) | (with_reducible show ite _ _ _)); (fail_if_success (with_reducible show wpAny _ _ (eval (Expr.ListComp _ _ _ _) _) _ _ _)); (fail_if_success (with_reducible show wpAny _ _ (call _ _ _) _ _ _)); (fail_if_success (with_reducible show wpAny _ _ (execs (Stmt.Assign [Expr.Name (Str.ofString "starts") _] _ _ :: _) _) _ _ _)); (fail_if_success (with_reducible show wpAny _ _ (pyIter _) _ _ _)); (fail_if_success (with_reducible show wpAny _ _ (setItem _ _ _) _ _ _)); (fail_if_success (with_reducible show wpAny _ _ (exec (Stmt.For _ _ _ _ _) _) _ _ _)); walk1) | ((with_reducible show ite _ _ _); dsimp only)))
section
theorem fill_L6 (w : World) : (hd.heap_39 w.params).In {} → PySem.Challenge.rw_nu0147_01.prog = PySem.Challenge.rw_nu0147_01.prog := by
  k_fill
  exact fun _ => rfl
section
variable {w : World} {mg mb : Str → Option Value} {dp un : Nat} {fr : Option (List Env)} {gd : Option (List Code)} {s : Shared} {Q E : Value → Shared → Prop}
variable {hc : Heap} {L P q : Addr} {oP oq c1 c2 c3 c4 c5 c6 c7 c8 c9 : Obj} {St : List (Addr × Obj)} {m : Str → Option Value} {frl : List Env} {Qf : Flow → Shared → Prop} {R x l : Addr} {b : Bool} {rvs lvs : List Value} {rs : List RowV} {len : Int} {tl : Tok}
theorem st5 (C : LC w mg mb hc L P q R x l b rvs lvs rs len St) (F : Fr hc L s.heap m) (N : News hc L s.heap (ld L P q oP oq c1 c2 c3 c4 c5 c6 c7 c8 c9 St)) 
    (hd1 : c1.data = .cell (some (.bool b))) (hd2 : c2.data = .cell (some (.ref x)))
    (hm1 : m (Str.ofString "rows") = some (.ref R)) (hd : dp + 500 < recursionLimit) (hu : un < 3000)
    (h : ∀ h' tk St', Fr hc L h' m → News hc L h' (ld L P q oP oq c1 c2 c3 c4 c5 c6 c7 c8 c9 St') → LC w mg mb hc L P q R x l b rvs lvs rs len St' → (∀ p ∈ St, p ∈ St') → 
      wpAny (model PR w) (AA dp un (some frl) gd) (execs (lawDef.1.drop 6) (lawEnv L)) Qf E { s with heap := h', toks := tk }) :
    wpAny (model PR w) (AA dp un (some frl) gd) (execs (lawDef.1.drop 5) (lawEnv L)) Qf E s := by
  conv in List.drop _ _ => whnf
  unfold lawEnv
  conv in Prod.snd lawDef => whnf
  have G := C.G
  have X := G.X
  have T := G.T
  have HS := Has.of N ld_St
  have hS := C.shp _ HS
  have hl := C.lst _ HS
  have hlr := C.lrow _ HS
  have hrw := C.rws _ HS
  have hrr := C.row _ HS
  have hn8 := C.n8
  tb_start
  refine ⟨X.keeps F.keep, ?_⟩
  refine ta_spec (G.kp F.keep) hS hl hlr (by rw [srs_len]; exact hn8) (by omega) ?_
  intro t1 h1 k1 hk1
  have HS1 : Has h1 St := fun p hp => hk1 _ _ (HS p hp)
  rw [srs_sum]
  replace F := fr_kp F hk1
  replace N := news_kp N hk1
  have hS := C.shp _ HS1
  have hl := C.lst _ HS1
  have hrw := C.rws _ HS1
  have hrr := C.row _ HS1
  tb_start
  refine comp_list (fun _ => true) (intOf h1 (·.a)) rfl rfl (by decide) rfl (by decide) rfl ?_
  tb_start
  refine ⟨R, rvs, rfl, hrw, by rw [sizeLine_eq]; have := hrr.length; omega, ?_, ?_, ?_⟩
  · intro C v s₃ m₃ E'' _ _ _ _
    exact wpAny_tests_nil ⟨rfl, keeps_rfl⟩
  · intro C v s₃ m₃ E'' hv _ hn₃ hm₃ hk₃
    obtain ⟨r, hr, hRv⟩ := paired_mem hrr v hv
    exact Subscript_ (nm_local hn₃ hm₃ (row_at2 (hRv.kp hk₃) fun t => ⟨⟨r, t, hRv, rfl⟩, keeps_toks⟩) rfl rfl rfl)
  · intro D h2 k2 ys n2 hD ho hP hk2
    have hi := ints_of hrr (paired_true hP)
    replace N := news_new F N hk2 hD ho
    replace F := fr_kp F hk2
    tb_start
    refine sum_kp rfl (list_of_obj ho) hi ?_
    intro h3 k3 t3 hk3
    replace F := fr_kp F hk3
    replace N := news_kp N hk3
    have HS3 : Has h3 St := fun p hp => hk3 _ _ (hk2 _ _ (HS1 p hp))
    have hS := C.shp _ HS3
    have hl := C.lst _ HS3
    tb_start
    · rename_i hne
      simp at hne
    dsimp only [List.cons_append, List.nil_append]
    refine to_spec (G.kp F.keep) hS hl (by have := hlr.length; rw [srs_len] at this; omega) (by omega) ?_
    intro T T1 h4 k4 hk4 hT hT1 hTa hTb
    have HS4 : Has h4 St := fun p hp => hk4 _ _ (HS3 p hp)
    have hS := C.shp _ HS4
    have hl := C.lst _ HS4
    have hnT := hlr.length
    rw [srs_len] at hnT
    obtain ⟨oT, hoT, hTc⟩ := hTa
    obtain ⟨oT1, hoT1, hT1c⟩ := hTb
    have NT := news_new F N hk4 hT hoT
    have NT1 := news_new F N hk4 hT1 hoT1
    replace N : News hc L h4 ((T, oT) :: (T1, oT1) :: (D, W.listOf ys n2) :: ld L P q oP oq c1 c2 c3 c4 c5 c6 c7 c8 c9 St) := by
      intro p hp
      rcases List.mem_cons.mp hp with rfl | hp
      · exact NT _ (.head _)
      · exact NT1 p hp
    clear NT NT1
    replace F := fr_kp F hk4
    tb_start
    refine call_tuple_list (items := lvs.toArray) hl (fun h5 hk5 => ?_) (by rw [List.size_toArray, sizeLine_eq]; omega)
    have F0 := fr_kp F hk5
    have N0 := news_kp N hk5
    replace N := N0.push F0 { cls := .type "tuple", data := .seq lvs.toArray }
    replace F := F0.push { cls := .type "tuple", data := .seq lvs.toArray }
    have hne1 : T1 ≠ h5.objs.size := Nat.ne_of_lt (Heap.lt_size (N0 (T1, oT1) (.tail _ (.head _))).1)
    clear F0 N0
    tb_start
    (rename Fr _ _ _ _ => F6)
    (rename News _ _ _ _ => N6)
    rename_i T2 h6 l6
    refine ne_tup (items := #[.ref T1, .bool b]) (items2 := #[.ref h5.objs.size, .bool b]) ⟨oT, (N6 _ (.tail _ (.tail _ (.head _)))).1, hTc⟩ ⟨_, (N6 _ (.head _)).1, rfl, _, rfl⟩ rfl (by show un < cLine; unfold cLine; omega) (fun j h1 h2 => ?_) ?_
    · rcases j with _ | _ | j
      · exact eqAt_tup (items := lvs.toArray) ⟨oT1, (N6 _ (.tail _ (.tail _ (.tail _ (.head _))))).1, hT1c⟩ ⟨_, (N6 _ (.tail _ (.head _))).1, rfl, _, rfl⟩ (by show un + 1 < cLine; unfold cLine; omega)
      · exact PySem.SeqAt.EqAt.same _
      · exact absurd (show j + 1 + 1 < 2 from h1) (by omega)
    tb_start
    have lp := l6 (P, oP) (by simp [ld])
    have lq := l6 (q, oq) (by simp [ld])
    exact h h6 _ St F6 (news_sub N6 fun p hp => .tail _ (.tail _ (.tail _ (.tail _ (.tail _ hp))))) C (fun _ hp => hp)
end
end
end
section
local macro_rules | `(tactic| tb_start) => `(tactic| repeat' (first | ((first | (with_reducible show wpAny _ _ _ _ _ _) | (with_reducible show ite _ _ _)); (fail_if_success (with_reducible show wpAny _ _ (eval (Expr.ListComp _ _ _ _) _) _ _ _)); (fail_if_success (with_reducible show wpAny _ _ (call _ _ _) _ _ _)); (fail_if_success (with_reducible show wpAny _ _ (subscriptTail _ (Expr.Slice _ _ _ _) _ _) _ _ _)); (fail_if_success (with_reducible show wpAny _ _ (execs (Stmt.For _ _ _ _ _ :: _) _) _ _ _)); (fail_if_success (with_reducible show wpAny _ _ (pyIter _) _ _ _)); (fail_if_success (with_reducible show wpAny _ _ (setItem _ _ _) _ _ _)); (fail_if_success (with_reducible show wpAny _ _ (exec (Stmt.For _ _ _ _ _) _) _ _ _)); walk1) | ((with_reducible show ite _ _ _); dsimp only)))
section
theorem fill_L7 (w : World) : (hd.heap_39 w.params).In {} → PySem.Challenge.rw_nu0147_01.prog = PySem.Challenge.rw_nu0147_01.prog := by
  k_fill
  exact fun _ => rfl
section
variable {w : World} {mg mb : Str → Option Value} {dp un : Nat} {fr : Option (List Env)} {gd : Option (List Code)} {s : Shared} {Q E : Value → Shared → Prop}
variable {hc : Heap} {L P q : Addr} {oP oq c1 c2 c3 c4 c5 c6 c7 c8 c9 : Obj} {St : List (Addr × Obj)} {m : Str → Option Value} {frl : List Env} {Qf : Flow → Shared → Prop} {R x l : Addr} {b : Bool} {rvs lvs : List Value} {rs : List RowV} {len : Int} {tl : Tok}
def startsOf (as : List Int) (n : Nat) : List Int := (List.range n).map fun i => (as.take i).sum
theorem paired_take {α β : Type} {F : α → β → Prop} : ∀ {l : List α} {m : List β}, Paired F l m → ∀ i, Paired F (l.take i) (m.take i)
  | _, _, .nil, i => by simp; exact .nil
  | _, _, .cons h r, 0 => .nil
  | _, _, .cons h r, i + 1 => .cons h (paired_take r i)
theorem ints_map {f : Nat → Int} : ∀ {vs ys : List Value} {is : List Nat}, IntsAre vs (is.map fun (i : Nat) => (i : Int)) → Paired (fun v y => ∃ (i : Nat) (t t' : Tok), v = Value.int i t ∧ y = Value.int (f i) t') vs ys → IntsAre ys (is.map f)
  | _, _, [], .nil, .nil => .nil
  | _, _, i :: is, .cons _ _ r, .cons ⟨j, t, t', e, e'⟩ p => by
    have : i = j := by
      rw [Value.int.injEq] at e
      have e1 : (i : Int) = (j : Int) := e.1
      omega
    subst this
    rw [e']; exact .cons _ _ (ints_map r p)
theorem st6 (C : LC w mg mb hc L P q R x l b rvs lvs rs len St) (F : Fr hc L s.heap m) (N : News hc L s.heap (ld L P q oP oq c1 c2 c3 c4 c5 c6 c7 c8 c9 St)) 
    (hd2 : c2.data = .cell (some (.ref x))) (hd4 : c4.data = .cell none)
    (hm1 : m (Str.ofString "rows") = some (.ref R)) (hd : dp + 500 < recursionLimit) (hu : un < 3000)
    (h : ∀ h' tk D ys n c4' St', Fr hc L h' m → News hc L h' (ld L P q oP oq c1 c2 c3 c4' c5 c6 c7 c8 c9 St') → LC w mg mb hc L P q R x l b rvs lvs rs len St' → (∀ p ∈ St, p ∈ St') → c4'.data = .cell (some (.ref D)) → (D, W.listOf ys n) ∈ St' → IntsAre ys.toList (startsOf ((srs b rs).map (·.a)) (rs.length + 1)) →
      wpAny (model PR w) (AA dp un (some frl) gd) (execs (lawDef.1.drop 7) (lawEnv L)) Qf E { s with heap := h', toks := tk }) :
    wpAny (model PR w) (AA dp un (some frl) gd) (execs (lawDef.1.drop 6) (lawEnv L)) Qf E s := by
  conv in List.drop _ _ => whnf
  unfold lawEnv
  conv in Prod.snd lawDef => whnf
  have G := C.G
  have X := G.X
  have T := G.T
  have HS := Has.of N ld_St
  have hrw := C.rws _ HS
  have hlr := C.lrow _ HS
  have hn8 := C.n8
  have hrl := (C.row _ HS).length
  have hll := hlr.length
  rw [srs_len] at hll
  tb_start
  refine comp_range (fun _ => true) (fun v y => ∃ (i : Nat) (t t' : Tok), v = Value.int i t ∧ y = Value.int (((srs b rs).map (·.a)).take i).sum t') rfl rfl (by decide) rfl (by decide) rfl ?_
  tb_start
  refine len_at hrw hrl (by omega) ?_
  intro t1 k1
  tb_start
  refine range1_kp ?_
  intro r t' u h1 k2 hr hk1
  tb_start
  refine ⟨r, rs.length + 1, _, _, _, _, rfl, hr, by omega, by omega, by omega, by rw [sizeLine_eq]; omega, ?_, ?_, ?_⟩
  · intro C i t s₃ m₃ E'' _ _ _ _
    exact wpAny_tests_nil ⟨rfl, keeps_rfl⟩
  · intro C' i t s₃ m₃ E'' hi _ hn₃ hm₃ hk₃
    have F3 := fr_kp (fr_kp F hk1) hk₃
    have N3 := news_kp (news_kp N hk1) hk₃
    have G3 := G.kp F3.keep
    have HS3 := Has.of N3 ld_St
    have hS3 := C.shp _ HS3
    have hl3 := C.lst _ HS3
    have hlr3 := C.lrow _ HS3
    have hc2 : s₃.heap.IsCell (L + 2) (some (.ref x)) := ⟨_, (N3 (L + 2, c2) (by simp [ld])).1, hd2⟩
    tb_start
    refine comp_list (fun _ => true) (intOf s₃.heap (·.a)) rfl rfl (by decide) rfl (by decide) rfl ?_
    tb_start
    refine kba_turn (value' := PySem.Expr.Name (PySem.Str.ofString "_") ⟨0, 0, 0, 0⟩) (fun _ => rfl) ?_
    refine' slice_listK (items := lvs.toArray) ?hl .none (IsPart.int _ _) ?q ?hs ?ht ?hz
    case hl => exact hl3
    case hs => with_unfolding_all rfl
    case ht => kmk_pure
    case hz => rw [List.size_toArray, sizeLine_eq]; omega
    rw [pick_take]
    have hkq : Kp s₃.heap ((s₃.heap.push { cls := .type "slice", data := .fields #[.none, .int i t, .none] }).push { cls := .type "list", data := .seq (lvs.toArray.toList.take i).toArray }) := fun _ _ e => Heap.get?_push_of_some _ (Heap.get?_push_of_some _ e)
    refine ⟨_, lvs.take i, rfl, ⟨_, (by rw [← Heap.size_push]; exact Heap.get?_push_size _ rfl), rfl, 0, rfl⟩, by rw [sizeLine_eq, List.length_take]; omega, ?_, ?_, ?_⟩
    · intro C v s₄ m₄ E'' _ _ _ _
      exact wpAny_tests_nil ⟨rfl, keeps_rfl⟩
    · intro C v s₄ m₄ E'' hv _ hn₄ hm₄ hk₄
      obtain ⟨r, hr, hRv⟩ := paired_mem hlr3 v (List.mem_of_mem_take hv)
      exact Subscript_ (nm_local hn₄ hm₄ (row_at2 (hRv.kp (Kp.trans hkq hk₄)) fun t => ⟨⟨r, t, hRv, rfl⟩, keeps_toks⟩) rfl rfl rfl)
    · intro D h4 k4 ys n4 hD ho hP hk4
      have hi4 := ints_of (paired_take hlr3 i) (paired_true hP)
      tb_start
      refine sum_kp rfl (list_of_obj ho) hi4 ?_
      intro h5 k5 t5 hk5
      refine ⟨⟨i, t, t5, rfl, by rw [List.map_take]⟩, ?_⟩
      exact ⟨h5, _, rfl, Kp.trans hkq (Kp.trans hk4 hk5)⟩
  · intro D h2 k3 ys n2 vs hD ho hi hP hk2
    have hst : IntsAre ys.toList (startsOf ((srs b rs).map (·.a)) (rs.length + 1)) := ints_map hi (paired_true hP)
    have F1 := fr_kp F hk1
    have N1 := news_kp N hk1
    have N2 := news_new F1 N1 hk2 hD ho
    have F2 := fr_kp F1 hk2
    have lD := fresh_ne N1 hD
    tb_start
    have hO := off_put (o := W.listOf ys n2) C.off lD
    refine store_4 F2 (news_sub N2 (ld_in (new := [(D, W.listOf ys n2)]))) hO C.hPL C.hqL rfl hd4 ?_
    intro h5 c4' F5 N5 hd4'
    tb_start
    exact h h5 _ D ys n2 c4' ((D, W.listOf ys n2) :: St) F5 N5 (C.grow hO fun _ hp => .tail _ hp) (fun _ hp => .tail _ hp) hd4' (.head _) hst
end
end
end
section
local macro_rules | `(tactic| tb_start) => `(tactic| repeat' (first | ((first | (with_reducible show wpAny _ _ _ _ _ _) | (with_reducible show ite _ _ _)); (fail_if_success (with_reducible show wpAny _ _ (eval (Expr.ListComp _ _ _ _) _) _ _ _)); (fail_if_success (with_reducible show wpAny _ _ (call _ _ _) _ _ _)); (fail_if_success (with_reducible show wpAny _ _ (compareOp _ (Value.ref _) (Value.ref _)) _ _ _)); (fail_if_success (with_reducible show wpAny _ _ (binaryOp _ (Value.ref _) (Value.ref _)) _ _ _)); (fail_if_success (with_reducible show wpAny _ _ (storeName _ _ _) _ _ _)); (fail_if_success (with_reducible show wpAny _ _ (newTuple _) _ _ _)); (fail_if_success (with_reducible show wpAny _ _ (subscriptTail _ _ _ _) _ _ _)); (fail_if_success (with_reducible show wpAny _ _ (execs (Stmt.Return _ _ :: _) _) _ _ _)); (fail_if_success (with_reducible show wpAny _ _ (execs (Stmt.Assign [Expr.Tuple _ _ _] _ _ :: _) _) _ _ _)); (fail_if_success (with_reducible show wpAny _ _ (execs (Stmt.Assign [Expr.Name (Str.ofString "spans") _] _ _ :: _) _) _ _ _)); (fail_if_success (with_reducible show wpAny _ _ (execs (Stmt.Assign [Expr.Name (Str.ofString "inside") _] _ _ :: _) _) _ _ _)); (fail_if_success (with_reducible show wpAny _ _ (execs (Stmt.Assign [Expr.Name (Str.ofString "firsts") _] _ _ :: _) _) _ _ _)); (fail_if_success (with_reducible show wpAny _ _ (execs (Stmt.Assign [Expr.Name (Str.ofString "groups") _] _ _ :: _) _) _ _ _)); (fail_if_success (with_reducible show wpAny _ _ (execs (Stmt.Assign [Expr.Name (Str.ofString "places") _] _ _ :: _) _) _ _ _)); (fail_if_success (with_reducible show wpAny _ _ (execs (Stmt.Assign [Expr.Name (Str.ofString "length") _] _ _ :: _) _) _ _ _)); (fail_if_success (with_reducible show wpAny _ _ (execs (Stmt.Assign [Expr.Name (Str.ofString "shaped") _] _ _ :: _) _) _ _ _)); (fail_if_success (with_reducible show wpAny _ _ (pyIter _) _ _ _)); (fail_if_success (with_reducible show wpAny _ _ (setItem _ _ _) _ _ _)); (fail_if_success (with_reducible show wpAny _ _ (exec (Stmt.For _ _ _ _ _) _) _ _ _)); walk1) | ((with_reducible show ite _ _ _); dsimp only)))
section
theorem fill_L8 (w : World) : (hd.heap_39 w.params).In {} → PySem.Challenge.rw_nu0147_01.prog = PySem.Challenge.rw_nu0147_01.prog := by
  k_fill
  exact fun _ => rfl
section
variable {w : World} {mg mb : Str → Option Value} {dp un : Nat} {fr : Option (List Env)} {gd : Option (List Code)} {s : Shared} {Q E : Value → Shared → Prop}
variable {hc : Heap} {L P q : Addr} {oP oq c1 c2 c3 c4 c5 c6 c7 c8 c9 : Obj} {St : List (Addr × Obj)} {m : Str → Option Value} {frl : List Env} {Qf : Flow → Shared → Prop} {R x l : Addr} {b : Bool} {rvs lvs : List Value} {rs : List RowV} {len : Int} {tl : Tok}
theorem startsOf_last (as : List Int) (n : Nat) : (startsOf as (n + 1)).getLastD 0 = (as.take n).sum := by
  unfold startsOf
  rw [List.range_succ, List.map_append]
  simp
theorem startsOf_get {as : List Int} {n i : Nat} (h : i < n) : (startsOf as n)[i]? = some (as.take i).sum := by
  unfold startsOf
  rw [List.getElem?_map, List.getElem?_range h]; rfl
theorem st7 {D : Addr} {ys : Array Value} {nD : Nat} (C : LC w mg mb hc L P q R x l b rvs lvs rs len St) (F : Fr hc L s.heap m) (N : News hc L s.heap (ld L P q oP oq c1 c2 c3 c4 c5 c6 c7 c8 c9 St)) (hpen : PenOf q oP oq)
    (hd2 : c2.data = .cell (some (.ref x))) (hd4 : c4.data = .cell (some (.ref D))) (hd5 : c5.data = .cell none) (hDm : (D, W.listOf ys nD) ∈ St) (hst : IntsAre ys.toList (startsOf ((srs b rs).map (·.a)) (rs.length + 1)))
    (hm1 : m (Str.ofString "rows") = some (.ref R)) (hm2 : m (Str.ofString "length") = some (.int len tl)) (hm3 : m (Str.ofString "pen") = some (.ref P)) (hd : dp + 500 < recursionLimit) (hu : un < 3000)
    (h : ∀ h' tk m' oP' oq' c5' St', Fr hc L h' m' → News hc L h' (ld L P q oP' oq' c1 c2 c3 c4 c5' c6 c7 c8 c9 St') → LC w mg mb hc L P q R x l b rvs lvs rs len St' → (∀ p ∈ St, p ∈ St') → m' (Str.ofString "rows") = some (.ref R) → m' (Str.ofString "length") = some (.int len tl) →
      wpAny (model PR w) (AA dp un (some frl) gd) (execs (lawDef.1.drop 8) (lawEnv L)) Qf E { s with heap := h', toks := tk }) :
    wpAny (model PR w) (AA dp un (some frl) gd) (execs (lawDef.1.drop 7) (lawEnv L)) Qf E s := by
  conv in List.drop _ _ => whnf
  unfold lawEnv
  conv in Prod.snd lawDef => whnf
  have G := C.G
  have X := G.X
  have T := G.T
  have HS := Has.of N ld_St
  have hrw := C.rws _ HS
  have hlr := C.lrow _ HS
  have hn8 := C.n8
  have hrl := (C.row _ HS).length
  have hll := hlr.length
  rw [srs_len] at hll
  have hyl := hst.length
  have hsl : (startsOf ((srs b rs).map (·.a)) (rs.length + 1)).length = rs.length + 1 := by simp [startsOf]
  obtain ⟨y0, ty, hy1, hy2, _⟩ := kpa_ints hst (by omega)
  rw [startsOf_last] at hy2
  have htot : (((srs b rs).map (·.a)).take rs.length).sum = (rs.map (·.a)).sum := by
    rw [List.take_of_length_le (by rw [List.length_map, srs_len]; exact Nat.le_refl _), srs_sum]
  rw [htot] at hy2
  subst hy2
  have hya : ys = (ys.toList.dropLast ++ [Value.int (rs.map (·.a)).sum ty]).toArray := by rw [← hy1]
  generalize ys.toList.dropLast = y1 at hya
  have hbs := sum_bound (rs.map (·.a)) fun z hz => by
    obtain ⟨r, hr, e⟩ := List.mem_map.mp hz
    subst e; exact C.ba r hr
  rw [List.length_map] at hbs
  tb_start
  refine for_go ?_
  tb_start
  have hDl := list_of_obj (N _ (ld_St _ hDm)).1
  refine sub_neg1 (vs := y1) (v := Value.int (rs.map (·.a)).sum ty) (by rw [← hya]; exact hDl) ?_
  tb_start
  refine sub_neg1 (vs := y1) (v := Value.int (rs.map (·.a)).sum ty) (by rw [← hya]; exact hDl) ?_
  tb_start
  refine ⟨X.keeps F.keep, ?_⟩
  refine draw_L G C.S C.off C.hPL C.hqL C.hPq F N hpen (by omega) (by omega) (by omega) (by omega) ?_
  intro h1 k1 d td oP' oq' hd0 hd1 hpen' F1 N1
  show wpAny _ _ _ _ _ { s with heap := h1, toks := k1 }
  have HS1 := Has.of N1 ld_St
  have hDl1 := list_of_obj (N1 _ (ld_St _ hDm)).1
  have hrw1 := C.rws _ HS1
  clear F N
  tb_start
  refine len_at hrw1 hrl (by omega) ?_
  intro t2 k2
  tb_start
  have hDl2 : h1.IsList D ys.toList.toArray := by rw [Array.toArray_toList]; exact hDl1
  have ef : ((rs.length : Int)).fdiv 2 = ((rs.length / 2 : Nat) : Int) := by
    rw [Int.fdiv_eq_ediv_of_nonneg _ (by decide)]; omega
  rw [ef]
  refine sub_ints (vs := ys.toList) (ns := startsOf ((srs b rs).map (·.a)) (rs.length + 1)) (i := rs.length / 2) ?_ hst rfl (by omega) (by omega) ?_
  · exact hDl2
  intro t3
  tb_start
  (rename Fr _ _ _ _ => F2)
  (rename News _ _ _ _ => N2)
  rename_i Lx h2 ltx
  have hfx : ∀ p ∈ ld L P q oP' oq' c1 c2 c3 c4 c5 c6 c7 c8 c9 St, @Ne Nat p.1 Lx := lt_ne (allLt_at ltx)
  have hOx := off_put (D := Lx) (o := W.listOf #[Value.int 0 s.toks, Value.int (0 - 1) (s.toks + 1 + 1 + 1), Value.int (rs.map (·.a)).sum ty, Value.int d td, Value.int ((startsOf ((srs b rs).map (·.a)) (rs.length + 1))[rs.length / 2]) t3] 0) C.off hfx
  generalize hxl : [Value.int 0 s.toks, Value.int (0 - 1) (s.toks + 1 + 1 + 1), Value.int (rs.map (·.a)).sum ty, Value.int d td, Value.int ((startsOf ((srs b rs).map (·.a)) (rs.length + 1))[rs.length / 2]) t3] = xs
  have hxi : ∀ v ∈ xs, ∃ k t, v = Value.int k t := by
    rw [← hxl]
    intro v hv
    simp only [List.mem_cons, List.not_mem_nil, or_false] at hv
    rcases hv with rfl | rfl | rfl | rfl | rfl <;> exact ⟨_, _, rfl⟩
  have exl : (#[Value.int 0 s.toks, Value.int (0 - 1) (s.toks + 1 + 1 + 1), Value.int (rs.map (·.a)).sum ty, Value.int d td, Value.int ((startsOf ((srs b rs).map (·.a)) (rs.length + 1))[rs.length / 2]) t3] : Array Value) = xs.toArray := by rw [← hxl]
  rw [exl] at N2 hOx
  clear exl hxl
  refine for_list (h₀ := hc) (keepers := [(Lx, W.listOf xs.toArray 0)]) (vs := xs) (fun i m nx => ∃ c5', nx = ld L P q oP' oq' c1 c2 c3 c4 c5' c6 c7 c8 c9 St ∧ (∃ v₀, c5'.data = .cell v₀) ∧ m (Str.ofString "rows") = some (.ref R) ∧ m (Str.ofString "length") = some (.int len tl)) rfl
    (fun h m F N => list_of_obj (N _ (.head _)).1) F2 N2 ⟨c5, rfl, ⟨_, hd5⟩, by tb_rel, by tb_rel⟩ ?turn ?done
  case turn =>
    rintro i v m₁ nx h3 tk3 I oI E3 hv hIlt hIne hJ0 F3 N3
    generalize hZ1 : TurnPost _ _ I _ _ _ _ = Z1
    revert Z1
    refine blk ?_
    intro Z1 hZ1
    show wpAny _ _ _ _ _ { s with heap := h3, toks := tk3 }
    obtain ⟨c5', rfl, ⟨v₀, hc5⟩, hn1, hn2⟩ := hJ0
    obtain ⟨xv, tv, rfl⟩ := hxi v (List.mem_of_getElem? hv)
    have hO2 := off_put (D := I) (o := oI) hOx hIne
    tb_start
    refine store_5 F3 (news_sub N3 (ld_in (new := [(I, oI), (Lx, W.listOf xs.toArray 0)]))) hO2 C.hPL C.hqL rfl hc5 ?_
    intro h4 c5'' F4 N4 hd5'
    tb_start
    refine wpAny_execs_cons ?_
    refine comp_range_as (h₀ := hc) (fun v => match v with | .int k _ => decide (0 + (((srs b rs).map (·.a)).take k.toNat).sum ≤ xv ∧ xv < 0 + (((srs b rs).map (·.a)).take (k.toNat + 1)).sum) | _ => false) (fun v y => ∃ (i : Nat) (t t' : Tok), v = Value.int i t ∧ y = Value.int i t') rfl (by with_unfolding_all rfl) rfl (by decide) rfl (by decide) rfl rfl rfl ?_
    tb_start
    refine len_at (C.rws _ (Has.of N4 fun _ hp => .tail _ (.tail _ (.tail _ (.tail _ (.tail _ (.tail _ (.tail _ (.tail _ (.tail _ (.tail _ (.tail _ (.tail _ (.tail _ hp)))))))))))))) hrl (by omega) ?_
    intro t4 k4
    tb_start
    refine range1_kp ?_
    intro r t' u h5 k5 hr hk5
    tb_start
    have F5' := fr_kp F4 hk5
    have N5' := news_kp N4 hk5
    refine ⟨r, rs.length, _, _, _, _, m₁, rfl, hr, by omega, by omega, by omega, by rw [sizeLine_eq]; omega, F5', ?_, ?_, ?_⟩
    · intro C' i' t s₃ m₃ E'' hi' hn₃ hm₃ hk₃
      have F5 := fr_kp F5' hk₃
      have N5 := news_kp N5' hk₃
      have G5 := G.kp F5.keep
      have hc4 : s₃.heap.IsCell (L + 4) (some (.ref D)) := ⟨_, (N5 (L + 4, c4) (by simp [ld])).1, hd4⟩
      have hc5 : s₃.heap.IsCell (L + 5) (some (.int xv tv)) := ⟨_, (N5 (L + 5, c5'') (by simp [ld])).1, hd5'⟩
      have hDl5 : s₃.heap.IsList D ys.toList.toArray := by rw [Array.toArray_toList]; exact list_of_obj (N5 (D, W.listOf ys nD) (by simp [ld, hDm])).1
      refine wpAny_tests_one ?_
      tb_start
      refine sub_ints (vs := ys.toList) (ns := startsOf ((srs b rs).map (·.a)) (rs.length + 1)) (i := i') hDl5 hst rfl (by omega) (by omega) ?_
      intro t6
      have es : ∀ (j : Nat) (hj : j < (startsOf ((srs b rs).map (·.a)) (rs.length + 1)).length), (startsOf ((srs b rs).map (·.a)) (rs.length + 1))[j] = 0 + (((srs b rs).map (·.a)).take j).sum := fun j hj => by simp [startsOf]
      rw [es]
      tb_start
      · rename_i hc1
        refine sub_ints (vs := ys.toList) (ns := startsOf ((srs b rs).map (·.a)) (rs.length + 1)) (i := i' + 1) hDl5 hst (by omega) (by omega) (by omega) ?_
        intro t7
        rw [es]
        tb_start
        exact ⟨by rw [decide_eq_decide, Int.toNat_natCast]; simp at hc1 ⊢; omega, keeps_toks⟩
      · rename_i hc1
        exact ⟨by symm; rw [decide_eq_false_iff_not, Int.toNat_natCast]; simp at hc1 ⊢; omega, keeps_toks⟩
    · intro C' i' t s₃ m₃ E'' hi' _ hn₃ hm₃ hk₃
      tb_start
      exact ⟨⟨i', t, t, rfl, rfl⟩, keeps_rfl⟩
    · intro D2 h6 k6 ys2 n6 vs6 hD2 ho6 hi6 hP6 F6 hk6
      have hi2 := ints_filt (q := fun i => decide (0 + (((srs b rs).map (·.a)).take i).sum ≤ xv ∧ xv < 0 + (((srs b rs).map (·.a)).take (i + 1)).sum)) (fun i t => by simp) hi6 hP6
      have N6 := news_new' F5' N5' hk6 hD2 ho6
      tb_start
      have HS6 := Has.of N6 (fun _ hp => .tail _ (.tail _ (.tail _ (.tail _ (.tail _ (.tail _ (.tail _ (.tail _ (.tail _ (.tail _ (.tail _ (.tail _ (.tail _ (.tail _ hp))))))))))))))
      refine ⟨X.keeps F6.keep, ?_⟩
      refine ga_spec (G.kp F6.keep) (C.shp _ HS6) (C.lst _ HS6) (C.lrow _ HS6) (by rw [srs_len]; exact hn8) (by omega) ?_
      intro t7 h7 k7 hk7
      show wpAny _ _ _ _ _ { s with heap := h7, toks := k7 }
      have F7 := fr_kp F6 hk7
      have N7 := news_kp N6 hk7
      tb_start
      (rename Fr _ _ _ _ => F8)
      (rename News _ _ _ _ => N8)
      rename_i lx h8 lt8
      have hfl : ((List.range rs.length).filter (fun i => decide (0 + (((srs b rs).map (·.a)).take i).sum ≤ xv ∧ xv < 0 + (((srs b rs).map (·.a)).take (i + 1)).sum))).length ≤ 8 := by
        have := List.length_filter_le (fun i => decide (0 + (((srs b rs).map (·.a)).take i).sum ≤ xv ∧ xv < 0 + (((srs b rs).map (·.a)).take (i + 1)).sum)) (List.range rs.length)
        rw [List.length_range] at this
        omega
      have eg : gAt ((srs b rs).map (·.a)) xv 0 0 = (((List.range rs.length).filter (fun i => decide (0 + (((srs b rs).map (·.a)).take i).sum ≤ xv ∧ xv < 0 + (((srs b rs).map (·.a)).take (i + 1)).sum))).map (fun (i : Nat) => (i : Int))).headD (-1) := by
        rw [gAt_head]
        unfold insideOf
        rw [List.length_map, srs_len]
        congr 1
        exact List.map_congr_left fun j _ => by omega
      generalize ((List.range rs.length).filter (fun i => decide (0 + (((srs b rs).map (·.a)).take i).sum ≤ xv ∧ xv < 0 + (((srs b rs).map (·.a)).take (i + 1)).sum))) = ins at hi2 hfl eg
      refine add_arrays_ints F8 N8 (list_of_obj (N8 (D2, W.listOf ys2 n6) (.tail _ (.head _))).1) (list_of_obj (N8 (lx, _) (.head _)).1) hi2 (.cons _ _ .nil) ?_ (by rw [List.length_map, sizeLine_eq]; simp only [List.length_cons, List.length_nil]; omega)
      intro h9 F9 N9 hi9
      tb_start
      refine sub_ints (i := 0) (list_of_obj (N9 _ (.head _)).1) hi9 rfl (by simp) (by simp only [List.length_append, List.length_map, List.length_cons, List.length_nil]; omega) ?_
      intro t9
      have eh : (ins.map (fun (i : Nat) => (i : Int)) ++ [0 - 1])[0]'(by simp) = gAt ((srs b rs).map (·.a)) xv 0 0 := by
        rw [eg]
        exact head_get (by simp)
      rw [eh]
      tb_start
      · rename_i hne
        simp at hne
      (rename Fr _ _ _ _ => F10)
      (rename News _ _ _ _ => N10)
      subst hZ1
      refine TurnEnd.intro F10 (news_sub N10 fun p hp => .tail _ (.tail _ (.tail _ (ld_out p hp)))) (ne_map (l := ld L P q oP' oq' c1 c2 c3 c4 c5' c6 c7 c8 c9 St) rfl hIne) ⟨c5'', rfl, ⟨_, hd5'⟩, by tb_rel, by tb_rel⟩
  case done =>
    rintro m₁ nx h3 tk3 ⟨c5', rfl, ⟨v₀, hc5⟩, hn1, hn2⟩ F3 N3
    tb_start
    exact h h3 _ m₁ oP' oq' c5' St F3 (news_sub N3 fun p hp => .tail _ hp) C (fun _ hp => hp) hn1 hn2
end
end
section
theorem fill_L9 (w : World) : (hd.heap_39 w.params).In {} → PySem.Challenge.rw_nu0147_01.prog = PySem.Challenge.rw_nu0147_01.prog := by
  k_fill
  exact fun _ => rfl
section
variable {w : World} {mg mb : Str → Option Value} {dp un : Nat} {fr : Option (List Env)} {gd : Option (List Code)} {s : Shared} {Q E : Value → Shared → Prop}
variable {hc : Heap} {L P q : Addr} {oP oq c1 c2 c3 c4 c5 c6 c7 c8 c9 : Obj} {St : List (Addr × Obj)} {m : Str → Option Value} {frl : List Env} {Qf : Flow → Shared → Prop} {R x l : Addr} {b : Bool} {rvs lvs : List Value} {rs : List RowV} {len : Int} {tl : Tok}
theorem st8 (C : LC w mg mb hc L P q R x l b rvs lvs rs len St) (F : Fr hc L s.heap m) (N : News hc L s.heap (ld L P q oP oq c1 c2 c3 c4 c5 c6 c7 c8 c9 St))
    (hd6 : c6.data = .cell none)
    (hm1 : m (Str.ofString "rows") = some (.ref R)) (hm2 : m (Str.ofString "length") = some (.int len tl)) (hd : dp + 500 < recursionLimit) (hu : un < 3000)
    (h : ∀ h' tk dr c6' St' Lf ys st, Fr hc L h' m → News hc L h' (ld L P q oP oq c1 c2 c3 c4 c5 c6' c7 c8 c9 St') → LC w mg mb hc L P q R x l b rvs lvs rs len St' → (∀ p ∈ St, p ∈ St') → c6'.data = .cell (some (.ref Lf)) → (Lf, W.listOf ys 0) ∈ St' → IntsAre ys.toList (st ++ [len]) → Firsts st rs →
      wpAny (model PR w) (AA dp un (some frl) gd) (execs (lawDef.1.drop 9) (lawEnv L)) Qf E { s with heap := h', toks := tk, drawn := dr }) :
    wpAny (model PR w) (AA dp un (some frl) gd) (execs (lawDef.1.drop 8) (lawEnv L)) Qf E s := by
  conv in List.drop _ _ => whnf
  unfold lawEnv
  conv in Prod.snd lawDef => whnf
  have G := C.G
  have X := G.X
  have T := G.T
  have HS := Has.of N ld_St
  have hrw := C.rws _ HS
  have hR := C.row _ HS
  have hn8 := C.n8
  have hrl := (C.row _ HS).length
  refine wpAny_execs_cons ?_
  tb_start
  refine comp_list (fun _ => true) (intOf s.heap (·.c)) rfl rfl (by decide) rfl (by decide) rfl ?_
  tb_start
  refine ⟨R, rvs, rfl, hrw, ?_, ?_, ?_, ?_⟩
  · rw [sizeLine_eq]; omega
  · intro C v s₃ m₃ E'' _ _ _ _
    exact wpAny_tests_nil ⟨rfl, keeps_rfl⟩
  · intro C v s₃ m₃ E'' hv _ hn₃ hm₃ hk₃
    obtain ⟨r, hr, hRv⟩ := paired_mem hR v hv
    exact Subscript_ (nm_local hn₃ hm₃ (row_at1 (hRv.kp hk₃) fun t => ⟨⟨r, t, hRv, rfl⟩, keeps_toks⟩) rfl rfl rfl)
  · intro D h2 tk2 ys n2 hD ho hP hk2
    have hi := ints_of hR (paired_true hP)
    have F2 := fr_kp F hk2
    have N2 := news_kp N hk2
    tb_start
    refine call_set_I rfl (list_of_obj ho) (by simpa using hi) (by rw [List.length_map]; unfold scanBound; omega) ?_
    intro Sa h3 tk3 ks hSI hmem hk3
    have hkn : ks.Nodup := by obtain ⟨_, _, _, _, _, q, _⟩ := id hSI; exact q
    have hkl : ks.length ≤ rs.length := by
      have := List.Nodup.length_le_of_subset hkn (fun k hk => (hmem k).mp hk)
      rwa [List.length_map] at this
    have F3 := fr_kp F2 hk3
    have N3 := news_kp N2 hk3
    clear F N F2 N2
    tb_start
    refine sorted_set rfl hSI (by omega) ?_
    intro Ls h4 tk4 dr vs4 st n4 hk4 hLs hoL hi4 hp4 hs4
    have F4 := fr_kp F3 hk4
    have N4 := news_new F3 N3 hk4 hLs hoL
    clear F3 N3
    have hst : st.Pairwise (· < ·) := strict_of hs4 (hp4.nodup_iff.mpr hkn)
    have hFi : Firsts st rs := ⟨hst, fun k => by rw [hp4.mem_iff, hmem]⟩
    have hsl : st.length = ks.length := hp4.length_eq
    have hvl4 := hi4.length
    tb_start
    (rename Fr _ _ _ _ => F5)
    (rename News _ _ _ _ => N5)
    rename_i lx h5 lt5
    refine add_arrays_ints F5 N5 (list_of_obj (N5 (Ls, W.listOf vs4.toArray n4) (.tail _ (.head _))).1) (list_of_obj (N5 (lx, _) (.head _)).1) (by simpa using hi4) (.cons _ _ .nil) ?_ (by rw [sizeLine_eq]; simp only [List.length_cons, List.length_nil]; omega)
    intro h6 F6 N6 hi6
    have hfr : ∀ p ∈ ld L P q oP oq c1 c2 c3 c4 c5 c6 c7 c8 c9 St, @Ne Nat p.1 h5.objs.size := fun p hp => Nat.ne_of_lt (Heap.lt_size (N5 p (.tail _ (.tail _ hp))).1)
    have hOf := off_put (D := h5.objs.size) (o := W.listOf (vs4.toArray.toList ++ [Value.int len tl]).toArray 0) C.off hfr
    tb_start
    refine store_6 F6 (ld_put (mid := [(lx, _), (Ls, _)]) N6) hOf C.hPL C.hqL rfl hd6 ?_
    intro h7 c6' F7 N7 hd6'
    tb_start
    exact h h7 _ dr c6' _ h5.objs.size _ st F7 N7 (C.grow hOf fun _ hp => .tail _ hp) (fun _ hp => .tail _ hp) hd6' (.head _) (by simpa using hi6) hFi
end
end
section
theorem fill_L10 (w : World) : (hd.heap_39 w.params).In {} → PySem.Challenge.rw_nu0147_01.prog = PySem.Challenge.rw_nu0147_01.prog := by
  k_fill
  exact fun _ => rfl
section
variable {w : World} {mg mb : Str → Option Value} {dp un : Nat} {fr : Option (List Env)} {gd : Option (List Code)} {s : Shared} {Q E : Value → Shared → Prop}
variable {hc : Heap} {L P q : Addr} {oP oq c1 c2 c3 c4 c5 c6 c7 c8 c9 : Obj} {St : List (Addr × Obj)} {m : Str → Option Value} {frl : List Env} {Qf : Flow → Shared → Prop} {R x l : Addr} {b : Bool} {rvs lvs : List Value} {rs : List RowV} {len : Int} {tl : Tok}
theorem st9 {Lf : Addr} {ys : Array Value} {st : List Int} (C : LC w mg mb hc L P q R x l b rvs lvs rs len St) (F : Fr hc L s.heap m) (N : News hc L s.heap (ld L P q oP oq c1 c2 c3 c4 c5 c6 c7 c8 c9 St))
    (hd2 : c2.data = .cell (some (.ref x))) (hd6 : c6.data = .cell (some (.ref Lf))) (hLf : (Lf, W.listOf ys 0) ∈ St) (hi : IntsAre ys.toList (st ++ [len])) (hF : Firsts st rs)
    (hm1 : m (Str.ofString "rows") = some (.ref R)) (hm2 : m (Str.ofString "length") = some (.int len tl)) (hd : dp + 500 < recursionLimit) (hu : un < 3000)
    (h : ∀ h' tk dr m', Fr hc L h' m' → News hc L h' (ld L P q oP oq c1 c2 c3 c4 c5 c6 c7 c8 c9 St) → m' (Str.ofString "rows") = some (.ref R) → m' (Str.ofString "length") = some (.int len tl) →
      wpAny (model PR w) (AA dp un (some frl) gd) (execs (lawDef.1.drop 11) (lawEnv L)) Qf E { s with heap := h', toks := tk, drawn := dr }) :
    wpAny (model PR w) (AA dp un (some frl) gd) (execs (lawDef.1.drop 9) (lawEnv L)) Qf E s := by
  conv in List.drop _ _ => whnf
  unfold lawEnv
  conv in Prod.snd lawDef => whnf
  have G := C.G
  have X := G.X
  have T := G.T
  have HS := Has.of N ld_St
  have hn8 := C.n8
  have hsl := hF.len_le
  have hyl := hi.length
  rw [List.length_append, List.length_singleton] at hyl
  have hfl := list_of_obj (N _ (ld_St _ hLf)).1
  dsimp only at hfl
  refine wpAny_execs_cons ?_
  tb_start
  refine comp_range_new (fun i y fam => ∃ (T T2 : Addr) (t ta tb : Tok), y = Value.ref T ∧ fam = [(T, ({ cls := .type "tuple", data := .seq #[.int (st.getD i 0) t, .ref T2] } : Obj)), (T2, ({ cls := .type "tuple", data := .seq #[.int (st.getD i 0) ta, .int (st.getD (i + 1) len) tb] } : Obj))]) rfl rfl (by decide) rfl (by decide) rfl ?_
  tb_start
  refine len_at (vs := ys.toList) (n := st.length + 1) (by rw [Array.toArray_toList]; exact hfl) hyl (by omega) ?_
  intro t4 k4
  tb_start
  refine range1_kp ?_
  intro r t' u h5 k5 hr hk5
  tb_start
  have F5' := fr_kp F hk5
  have N5' := news_kp N hk5
  refine ⟨r, st.length, _, _, _, _, rfl, hr, by omega, by omega, by omega, by rw [sizeLine_eq]; omega, ?_, ?_⟩
  · intro C' i' t s₃ m₃ E'' hi' hn₃ hm₃ hk₃
    have F5 := fr_kp F5' hk₃
    have N5 := news_kp N5' hk₃
    have G5 := G.kp F5.keep
    have hc6 : s₃.heap.IsCell (L + 6) (some (.ref Lf)) := ⟨_, (N5 (L + 6, c6) (by simp [ld])).1, hd6⟩
    have hfl5 : s₃.heap.IsList Lf ys.toList.toArray := by rw [Array.toArray_toList]; exact list_of_obj (N5 _ (ld_St _ hLf)).1
    tb_start
    have gi : ∀ (j : Nat) (hj : j < (st ++ [len]).length), j < (st ++ [len]).length := fun _ h => h
    refine sub_ints (vs := ys.toList) (ns := st ++ [len]) (i := i') hfl5 hi rfl (by rw [List.length_append]; omega) (by rw [List.length_append, List.length_singleton]; omega) ?_
    intro t6
    rw [fget0 hi']
    tb_start
    refine sub_ints (vs := ys.toList) (ns := st ++ [len]) (i := i') hfl5 hi rfl (by rw [List.length_append]; omega) (by rw [List.length_append, List.length_singleton]; omega) ?_
    intro t7
    rw [fget0 hi']
    tb_start
    refine sub_ints (vs := ys.toList) (ns := st ++ [len]) (i := i' + 1) hfl5 hi (by omega) (by rw [List.length_append, List.length_singleton]; omega) (by rw [List.length_append, List.length_singleton]; omega) ?_
    intro t8
    rw [fget1 hi']
    tb_start
    refine tup_raw (by simp) fun hn1 ho1 => ?_
    tb_start
    refine tup_raw (by simp) fun hn2 ho2 => ?_
    refine ⟨⟨_, ⟨_, s₃.heap.objs.size, t6, t7, t8, rfl, rfl⟩, fun p hp => ?_⟩, ⟨_, _, rfl, fun b o e => Heap.get?_push_of_some _ (Heap.get?_push_of_some _ e)⟩⟩
    rcases List.mem_cons.mp hp with rfl | hp
    · refine ⟨?_, ho2⟩
      show s₃.heap.get? (s₃.heap.push _).objs.size = none
      rw [Heap.size_push]
      exact Heap.get?_none_of_le (Nat.le_succ _)
    · rw [List.mem_singleton.mp hp]
      exact ⟨hn1, Heap.get?_push_of_some _ ho1⟩
  · intro D h' tk' ys2 k hD hoD hsz hys hk'
    tb_start
    obtain ⟨kvs, hkl, hkr⟩ := build_of (l := ys2.toList) (R := fun i y kv => PairAt h' y kv ∧ kv.1 = st.getD i 0 ∧ SpanAt h' kv.2 (st.getD i 0, st.getD (i + 1) len)) (fun i y e => by
      rw [Array.getElem?_toList] at e
      obtain ⟨fam, ⟨T, T2, t, ta, tb, rfl, rfl⟩, hfam⟩ := hys i y e
      exact ⟨(st.getD i 0, .ref T2), ⟨T, t, rfl, _, (hfam _ (.head _)).2.2, rfl, _, rfl⟩, rfl, T2, ta, tb, rfl, _, (hfam _ (.tail _ (.head _))).2.2, rfl, _, rfl⟩)
    replace hkl : kvs.length = st.length := by rw [hkl, ← hsz]; simp
    have hPr : Paired (PairAt h') ys2.toList kvs := paired_of (by rw [Array.length_toList, hsz, hkl]) fun i y kv e1 e2 => by
      obtain ⟨kv', e3, e4⟩ := hkr i y e1
      rw [e2] at e3; rw [Option.some.inj e3]; exact e4.1
    have hks : SpansAt h' kvs (spansOf st len) := paired_of (by rw [hkl, spansOf_length]) fun i kv sp e1 e2 => by
      have hi' : i < st.length := by rw [← hkl]; exact (List.getElem?_eq_some_iff.mp e1).1
      rw [spansOf_get hi'] at e2
      obtain ⟨kv', e3, e4⟩ := hkr i ys2[i] (by rw [Array.getElem?_toList]; exact Array.getElem?_eq_getElem (by omega))
      rw [e1] at e3
      rw [Option.some.inj e3, ← Option.some.inj e2]
      exact ⟨e4.2.1, e4.2.2⟩
    have hkst : kvs.map (·.1) = st := by rw [keys_of (fun _ _ q => q.1) hks, spansOf_fst]
    have hnd : (kvs.map (·.1)).Nodup := by rw [hkst]; exact hF.nd
    refine call_dict_pairs rfl hoD hPr hnd (by omega) ?_
    intro d h6 tk6 od hdge hdn hod hdd hk6
    show wpAny _ _ _ _ _ { s with heap := h6, toks := tk6 }
    replace hks := hks.kp hk6
    have F6 := fr_kp (fr_kp F5' hk') hk6
    have N6 := news_new (fr_kp F5' hk') (news_kp N5' hk') hk6 hdn hod
    tb_start
    refine store_loc F6 rfl rfl ?_
    intro h7 F7 hk7
    have N7 := news_but N6 hk7
    have hks7 : SpansAt h7 kvs (spansOf st len) := Paired.imp' (fun _ _ q => ⟨q.1, q.2.but F6.ns hk7⟩) hks
    clear F6 N6
    tb_start
    refine ⟨X.keeps F7.keep, ?_⟩
    have N7' : News hc L h7 (ld L P q oP oq c1 c2 c3 c4 c5 c6 c7 c8 c9 St) := news_sub N7 fun p hp => .tail _ hp
    have HS7 := Has.of N7' ld_St
    refine cs_spec (G.kp F7.keep) (C.shp _ HS7) (C.lst _ HS7) (C.lrow _ HS7) (by rw [srs_len]; exact hn8) (by omega) ?_
    intro d2 h8 k8 dr8 st2 kvs2 od2 fam2 hk8 hfam2 hdd2 hP2 _ hd2s hF2
    show wpAny _ _ _ _ _ { s with heap := h8, toks := k8, drawn := dr8 }
    have est : st2 = st := strict_ext hF2.up hF.up fun k => by
      rw [hF2.mem, hF.mem]
      simp only [List.mem_map, srs_mem]
    subst est
    have F8 := fr_kp F7 hk8
    have N8 := news_kp N7 hk8
    have hP2' : SpansAt h8 kvs2 (spansOf st2 len) := Paired.imp' (fun kv sp q => ⟨q.1, by
      obtain ⟨t, ta, tb, n, e, i⟩ := q.2
      exact ⟨t, ta, tb, e, _, (hfam2 _ (.tail _ i)).1, rfl, _, rfl⟩⟩) hP2
    have hks8 := hks7.kp hk8
    have hlo : (d == sysModules) = false := by
      have h1 : @LT.lt Nat _ sysModules hc.objs.size := modules_low T.nolimit
      have h2 : @LE.le Nat _ hc.objs.size L := F5'.above
      have h3 : @LT.lt Nat _ L h'.objs.size := (fr_kp F5' hk').ns.lt
      have h4 : @LE.le Nat _ h'.objs.size d := hdge
      exact beq_eq_false_iff_ne.mpr (show @Ne Nat d sysModules by omega)
    have hl2 := hP2.length
    rw [spansOf_length] at hl2
    tb_start
    refine keq_ne (knd := PySem.intKind PR w) (r := true) hd2s hlo (Heap.dictOf_iff.mpr ⟨od2, (hfam2 (d2, od2) (.head _)).1, hdd2⟩) (Heap.dictOf_iff.mpr ⟨od, (N8 (d, od) (.head _)).1, hdd⟩) (by show un < cLine; unfold cLine; omega)
      (fun _ => hits_of (by show un + 1 < cLine; unfold cLine; omega) hP2' (spans_lookup hks8 hnd)) ?_
    rw [hl2, hkl, beq_self_eq_true, Bool.and_true, Bool.not_true]
    tb_start
    exact h h8 _ dr8 _ F8 (news_sub N8 fun p hp => .tail _ hp) (by tb_rel) (by tb_rel)
end
end
section
theorem fill_L11 (w : World) : (hd.heap_39 w.params).In {} → PySem.Challenge.rw_nu0147_01.prog = PySem.Challenge.rw_nu0147_01.prog := by
  k_fill
  exact fun _ => rfl
section
variable {w : World} {mg mb : Str → Option Value} {dp un : Nat} {fr : Option (List Env)} {gd : Option (List Code)} {s : Shared} {Q E : Value → Shared → Prop}
variable {hc : Heap} {L P q : Addr} {oP oq c1 c2 c3 c4 c5 c6 c7 c8 c9 : Obj} {St : List (Addr × Obj)} {m : Str → Option Value} {frl : List Env} {Qf : Flow → Shared → Prop} {R x l : Addr} {b : Bool} {rvs lvs : List Value} {rs : List RowV} {len : Int} {tl : Tok}
theorem st11 {Lf : Addr} {ys : Array Value} {st : List Int} {v3 : Option Value} (C : LC w mg mb hc L P q R x l b rvs lvs rs len St) (F : Fr hc L s.heap m) (N : News hc L s.heap (ld L P q oP oq c1 c2 c3 c4 c5 c6 c7 c8 c9 St))
    (hd3 : c3.data = .cell v3) (hd6 : c6.data = .cell (some (.ref Lf))) (hd7 : c7.data = .cell none) (hd8 : c8.data = .cell none) (hd9 : c9.data = .cell none) (hLf : (Lf, W.listOf ys 0) ∈ St) (hi : IntsAre ys.toList (st ++ [len])) (hF : Firsts st rs)
    (hm1 : m (Str.ofString "rows") = some (.ref R)) (hm2 : m (Str.ofString "length") = some (.int len tl)) (hd : dp + 500 < recursionLimit) (hu : un < 3000)
    (h : ∀ h' tk m' c3' c7' c8' c9' Pl pys n7 t7, Fr hc L h' m' → News hc L h' (ld L P q oP oq c1 c2 c3' c4 c5 c6 c7' c8' c9' ((Pl, W.listOf pys n7) :: St)) → Off L P q ((Pl, W.listOf pys n7) :: St) → (∃ v, c3'.data = .cell v) → c7'.data = .cell (some (.int (caretFold rs (spansOf st len)).2 t7)) → IntsAre pys.toList (caretFold rs (spansOf st len)).1 → 
      m' (Str.ofString "rows") = some (.ref R) → m' (Str.ofString "length") = some (.int len tl) → m' (Str.ofString "places") = some (.ref Pl) →
      wpAny (model PR w) (AA dp un (some frl) gd) (execs (lawDef.1.drop 13) (lawEnv L)) Qf E { s with heap := h', toks := tk }) :
    wpAny (model PR w) (AA dp un (some frl) gd) (execs (lawDef.1.drop 11) (lawEnv L)) Qf E s := by
  conv in List.drop _ _ => whnf
  unfold lawEnv
  conv in Prod.snd lawDef => whnf
  have G := C.G
  have X := G.X
  have T := G.T
  have HS := Has.of N ld_St
  have hn8 := C.n8
  have hsl := hF.len_le
  have hyl := hi.length
  rw [List.length_append, List.length_singleton] at hyl
  refine wpAny_execs_cons ?_
  tb_start
  (rename Fr _ _ _ _ => F1)
  (rename News _ _ _ _ => N1)
  rename_i Pl h1 lt1
  refine tup_raw (by simp) fun hn2 ho2 => ?_
  replace N1 := N1.grown fun _ _ e => Heap.get?_push_of_some { cls := .type "tuple", data := .seq [Value.ref Pl, Value.int 0 s.toks].toArray } e
  replace F1 := F1.push { cls := .type "tuple", data := .seq [Value.ref Pl, Value.int 0 s.toks].toArray }
  refine unpack_N rfl ⟨_, ho2, rfl, _, rfl⟩ fun h2 hk2 => ?_
  replace F1 := fr_kp F1 hk2
  replace N1 := news_kp N1 hk2
  tb_start
  refine store_loc F1 rfl rfl ?_
  intro h3 F3 hk3
  have N3 := news_but N1 hk3
  have hne1 : ∀ p ∈ ld L P q oP oq c1 c2 c3 c4 c5 c6 c7 c8 c9 St, @Ne Nat p.1 Pl := lt_ne (allLt_at lt1)
  have hO3 := off_put (D := Pl) (o := W.listOf #[] 0) C.off hne1
  tb_start
  refine store_7 F3 (ld_put (mid := []) N3) hO3 C.hPL C.hqL rfl hd7 ?_
  intro h4 c7a F4 N4 hd7a
  tb_start
  refine for_go ?_
  tb_start
  have hfl4 : h4.IsList Lf ys.toList.toArray := by rw [Array.toArray_toList]; exact list_of_obj (N4 _ (ld_St _ (.tail _ hLf))).1
  refine len_at (vs := ys.toList) (n := st.length + 1) hfl4 hyl (by omega) ?_
  intro t4 k4
  tb_start
  refine range1_kp ?_
  intro r t' u h5 k5 hr hk5
  show wpAny _ _ _ _ _ { s with heap := h5, toks := k5 }
  tb_start
  have F5 := fr_kp F4 hk5
  have N5 := news_kp N4 hk5
  refine for_range (h₀ := hc) (n := st.length) (fun i m nx => ∃ Pl pys n c3' c7' c8' c9' t7, nx = ld L P q oP oq c1 c2 c3' c4 c5 c6 c7' c8' c9' ((Pl, W.listOf pys n) :: St) ∧ Off L P q ((Pl, W.listOf pys n) :: St) ∧ (∃ v, c3'.data = .cell v) ∧ (∃ v, c8'.data = .cell v) ∧ (∃ v, c9'.data = .cell v) ∧
      c7'.data = .cell (some (.int (caretFold rs ((spansOf st len).take i)).2 t7)) ∧ IntsAre pys.toList (caretFold rs ((spansOf st len).take i)).1 ∧
      m (Str.ofString "rows") = some (.ref R) ∧ m (Str.ofString "length") = some (.int len tl) ∧ m (Str.ofString "places") = some (.ref Pl))
    rfl hr (by omega) (by omega) (by omega) (by omega) (by omega) F5 N5 ⟨Pl, #[], 0, c3, c7a, c8, c9, _, rfl, hO3, ⟨_, hd3⟩, ⟨_, hd8⟩, ⟨_, hd9⟩, hd7a, .nil, by tb_rel, by tb_rel, by tb_rel⟩ ?turn ?done
  case turn =>
    rintro i m₁ nx h6 tk6 t6 I oI E6 hi' hIlt hIne hJ0 F6 N6
    generalize hZ1 : TurnPost _ _ I _ _ _ _ = Z1
    revert Z1
    refine blk ?_
    intro Z1 hZ1
    show wpAny _ _ _ _ _ { s with heap := h6, toks := tk6 }
    obtain ⟨Pl, pys, n, c3', c7', c8', c9', t7, rfl, hO6, ⟨v3', hd3'⟩, ⟨v8, hd8'⟩, ⟨v9, hd9'⟩, hd7', hip, hq1, hq2, hq3⟩ := hJ0
    have hO7 := off_put (D := I) (o := oI) hO6 hIne
    tb_start
    refine store_3 F6 (ld_put (mid := []) N6) hO7 C.hPL C.hqL rfl hd3' ?_
    intro h7 c3'' F7 N7 hd3''
    tb_start
    refine wpAny_execs_cons ?_
    have HS7 := Has.of N7 (fun _ hp => ld_St _ (.tail _ (.tail _ hp)))
    have hrw7 := C.rws _ HS7
    have hR7 := C.row _ HS7
    have hrl := hR7.length
    have hil : (st ++ [len]).length = st.length + 1 := by rw [List.length_append, List.length_singleton]
    tb_start
    refine comp_list (rowIs h7 (st.getD i 0)) (intOf h7 (·.a)) rfl rfl (by decide) rfl (by decide) rfl ?_
    tb_start
    refine ⟨R, rvs, rfl, hrw7, by rw [sizeLine_eq]; omega, ?_, ?_, ?_⟩
    · intro C' v s₃ m₃ E'' hv hn₃ hm₃ hk₃
      obtain ⟨r, hr, hRv⟩ := paired_mem hR7 v hv
      have F8 := fr_kp F7 hk₃
      have N8 := news_kp N7 hk₃
      have G8 := G.kp F8.keep
      have hc6 : s₃.heap.IsCell (L + 6) (some (.ref Lf)) := ⟨_, (N8 (L + 6, c6) (by simp [ld])).1, hd6⟩
      have hc3 : s₃.heap.IsCell (L + 3) (some (.int (0 + (i : Int)) t6)) := ⟨_, (N8 (L + 3, c3'') (by simp [ld])).1, hd3''⟩
      have hfl8 : s₃.heap.IsList Lf ys.toList.toArray := by rw [Array.toArray_toList]; exact list_of_obj (N8 _ (ld_St _ (.tail _ (.tail _ hLf)))).1
      refine wpAny_tests_one ?_
      rw [rowIs_at hRv]
      obtain ⟨bb, t1, t2, t3, t4, t5, t8, rfl, itup⟩ := hRv.kp hk₃
      tb_start
      refine item_tupleT itup (by decide) (by decide) rfl rfl ?_
      tb_start
      refine sub_ints (vs := ys.toList) (ns := st ++ [len]) (i := i) hfl8 hi (by omega) (by omega) (by omega) ?_
      intro t9
      rw [fget0 hi']
      tb_start
      exact ⟨by generalize st.getD i 0 = z; rw [Bool.eq_iff_iff]; simp, keeps_toks⟩
    · intro C' v s₃ m₃ E'' hv _ hn₃ hm₃ hk₃
      obtain ⟨r, hr, hRv⟩ := paired_mem hR7 v hv
      exact Subscript_ (nm_local hn₃ hm₃ (row_at2 (hRv.kp hk₃) fun t => ⟨⟨r, t, hRv, rfl⟩, keeps_toks⟩) rfl rfl rfl)
    · intro D h8 k8 zs n8 hD ho8 hP8 hk8
      have hiz := ints_of_is hR7 hP8
      have F8 := fr_kp F7 hk8
      have N8 := news_kp N7 hk8
      tb_start
      refine sum_kp rfl (list_of_obj ho8) hiz ?_
      intro h9 k9 t9 hk9
      show wpAny _ _ _ _ _ { s with heap := h9, toks := k9 }
      replace F8 := fr_kp F8 hk9
      replace N8 := news_kp N8 hk9
      have hfl9 : h9.IsList Lf ys.toList.toArray := by rw [Array.toArray_toList]; exact list_of_obj (N8 _ (ld_St _ (.tail _ (.tail _ hLf)))).1
      tb_start
      refine sub_ints (vs := ys.toList) (ns := st ++ [len]) (i := i + 1) hfl9 hi (by omega) (by omega) (by omega) ?_
      intro ta
      rw [fget1 hi']
      tb_start
      refine sub_ints (vs := ys.toList) (ns := st ++ [len]) (i := i) hfl9 hi (by omega) (by omega) (by omega) ?_
      intro tb
      rw [fget0 hi']
      tb_start
      have hsp := spans_in hF C.bc (spansOf_get (len := len) hi')
      have hstk : (spansOf st len).take (i + 1) = (spansOf st len).take i ++ [(st.getD i 0, st.getD (i + 1) len)] := by
        rw [List.take_add_one, spansOf_get hi']; rfl
      obtain ⟨_, hk2, hk3, hk4, _⟩ := hsp
      dsimp only at hk2 hk3 hk4
      have hbl := C.bl
      have hadv := advOf_bound C.ba hn8 (st.getD i 0)
      have hcb := caretFold_bound C.ba hn8 ((spansOf st len).take i) ([], 0) (Int.le_refl _)
      have hcl := caretFold_len rs ((spansOf st len).take i) ([], 0) fun sp' hsp' => by
        obtain ⟨q, hq⟩ := List.mem_iff_getElem?.mp (List.mem_of_mem_take hsp')
        have := spans_in hF C.bc hq
        omega
      change IntsAre pys.toList (((spansOf st len).take i).foldl (caretStep rs) ([], 0)).1 at hip
      change c7'.data = .cell (some (.int (((spansOf st len).take i).foldl (caretStep rs) ([], 0)).2 t7)) at hd7'
      have hcf : caretFold rs ((spansOf st len).take (i + 1)) = caretStep rs (((spansOf st len).take i).foldl (caretStep rs) ([], 0)) (st.getD i 0, st.getD (i + 1) len) := by
        rw [hstk, caretFold_snoc]; rfl
      rw [hcf] at hZ1
      generalize (((spansOf st len).take i).foldl (caretStep rs) ([], 0)) = cf at hip hd7' hcb hcl hZ1
      obtain ⟨cps, cbg⟩ := cf
      dsimp only at hip hd7' hcb hcl hZ1
      have hlt : ((spansOf st len).take i).length ≤ 8 := by rw [List.length_take, spansOf_length]; omega
      change wpAny _ _ (newTuple [.int (advOf rs (st.getD i 0)) t9, _]) _ _ _
      unfold caretStep at hZ1
      dsimp only at hZ1
      generalize advOf rs (st.getD i 0) = wd at hadv hZ1 ⊢
      generalize st.getD i 0 = ka at hk2 hk3 hZ1 ⊢
      generalize st.getD (i + 1) len = kb at hk3 hk4 hZ1 ⊢
      refine tup_raw (by simp) fun hn2 ho2 => ?_
      replace N8 := N8.grown fun _ _ e => Heap.get?_push_of_some { cls := .type "tuple", data := .seq [Value.int wd t9, Value.int (kb - ka) (k9 + 1 + 1)].toArray } e
      replace F8 := F8.push { cls := .type "tuple", data := .seq [Value.int wd t9, Value.int (kb - ka) (k9 + 1 + 1)].toArray }
      refine unpack_N rfl ⟨_, ho2, rfl, _, rfl⟩ fun h10 hk10 => ?_
      replace F8 := fr_kp F8 hk10
      replace N8 := news_kp N8 hk10
      tb_start
      refine store_8 F8 N8 hO7 C.hPL C.hqL rfl hd8' ?_
      intro h11 c8'' F11 N11 hd8''
      tb_start
      refine store_9 F11 N11 hO7 C.hPL C.hqL rfl hd9' ?_
      intro h12 c9'' F12 N12 hd9''
      tb_start
      refine wpAny_execs_cons ?_
      tb_start
      refine comp_range (fun _ => true) (fun v y => ∃ (j : Nat) (t t' : Tok), v = Value.int j t ∧ y = Value.int (cbg + Int.fdiv (wd * (j : Int)) (kb - ka)) t') rfl rfl (by decide) rfl (by decide) rfl ?_
      tb_start
      refine range1_kp ?_
      intro r2 t2' u2 h13 k13 hr13 hk13
      tb_start
      have F13 := fr_kp F12 hk13
      have N13 := news_kp N12 hk13
      refine ⟨r2, (kb - ka).toNat, _, _, _, _, rfl, hr13, by omega, by omega, rfl, by rw [sizeLine_eq]; omega, ?_, ?_, ?_⟩
      · intro C i t s₃ m₃ E'' _ _ _ _
        exact wpAny_tests_nil ⟨rfl, keeps_rfl⟩
      · intro C' j t s₃ m₃ E'' hj _ hn₃ hm₃ hk₃
        have F14 := fr_kp F13 hk₃
        have N14 := news_kp N13 hk₃
        have G14 := G.kp F14.keep
        have hc7 : s₃.heap.IsCell (L + 7) (some (.int cbg t7)) := ⟨_, (N14 (L + 7, c7') (by simp [ld])).1, hd7'⟩
        have hc8 : s₃.heap.IsCell (L + 8) (some (.int wd t9)) := ⟨_, (N14 (L + 8, c8'') (by simp [ld])).1, hd8''⟩
        have hc9 : s₃.heap.IsCell (L + 9) (some (.int (kb - ka) (k9 + 1 + 1))) := ⟨_, (N14 (L + 9, c9'') (by simp [ld])).1, hd9''⟩
        tb_start
        exact ⟨⟨j, t, _, rfl, rfl⟩, _, _, rfl, fun _ _ e => e⟩
      · intro D2 h14 k14 ws n14 vs14 hD2 ho14 hi14 hP14 hk14
        have hiw : IntsAre ws.toList (pieceN cbg wd (ka, kb) (kb - ka).toNat) := ints_map hi14 (paired_true hP14)
        have F14 := fr_kp F13 hk14
        have N14 := news_new F13 N13 hk14 hD2 ho14
        tb_start
        refine add_arrays_ints F14 N14 (list_of_obj (N14 (Pl, W.listOf pys n) (by simp [ld])).1) (list_of_obj (N14 (D2, W.listOf ws n14) (.head _)).1) hip hiw ?_ (by rw [sizeLine_eq, pieceN_length]; simp only [List.length_nil] at hcl; omega)
        intro h15 F15 N15 hi15
        have hne15 : ∀ p ∈ ld L P q oP oq c1 c2 c3'' c4 c5 c6 c7' c8'' c9'' ((I, oI) :: (Pl, W.listOf pys n) :: St), @Ne Nat p.1 h14.objs.size := fun p hp => Nat.ne_of_lt (Heap.lt_size (N14 p (.tail _ hp)).1)
        have hO16 := off_put (D := h14.objs.size) (o := W.listOf (pys.toList ++ ws.toList).toArray 0) hO7 hne15
        tb_start
        refine store_loc F15 rfl rfl ?_
        intro h16 F16 hk16
        have N16 := news_but N15 hk16
        tb_start
        refine store_7 F16 (ld_put (mid := [(D2, _)]) N16) hO16 C.hPL C.hqL rfl hd7' ?_
        intro h17 c7'' F17 N17 hd7''
        tb_start
        subst hZ1
        refine TurnEnd.intro F17 (nx' := ld L P q oP oq c1 c2 c3'' c4 c5 c6 c7'' c8'' c9'' ((h14.objs.size, W.listOf (pys.toList ++ ws.toList).toArray 0) :: St)) (news_sub N17 fun p hp => ?_) (fun p hp => ?_) ⟨h14.objs.size, _, 0, c3'', c7'', c8'', c9'', _, rfl, fun p hp => hO16 p ?_, ⟨_, hd3''⟩, ⟨_, hd8''⟩, ⟨_, hd9''⟩, hd7'', by unfold piece; simpa using hi15, by tb_rel, by tb_rel, by tb_rel⟩
        · refine ld_mono (fun p hp => ?_) p (ld_out p hp)
          simp only [List.mem_append, List.mem_cons, List.not_mem_nil, or_false] at hp ⊢
          rcases hp with hp | hp | hp <;> simp [hp]
        · rcases List.mem_cons.mp (ld_in (new := [(h14.objs.size, W.listOf (pys.toList ++ ws.toList).toArray 0)]) p hp) with rfl | hp
          · exact Ne.symm (hne15 (I, oI) (ld_St _ (.head _)))
          · exact ne_map (l := ld L P q oP oq c1 c2 c3' c4 c5 c6 c7' c8' c9' St) (l' := ld L P q oP oq c1 c2 c3'' c4 c5 c6 c7'' c8'' c9'' St) rfl (fun p hp => hIne p (ld_mono (fun _ h => .tail _ h) p hp)) p (show p ∈ ld L P q oP oq c1 c2 c3'' c4 c5 c6 c7'' c8'' c9'' St from hp)
        · rcases List.mem_cons.mp hp with rfl | hp
          · exact .head _
          · exact .tail _ (.tail _ (.tail _ hp))
  case done =>
    rintro m₁ nx h6 tk6 ⟨Pl, pys, n, c3', c7', c8', c9', t7, rfl, hO6, ⟨v3', hd3'⟩, ⟨v8, hd8'⟩, ⟨v9, hd9'⟩, hd7', hip, hq1, hq2, hq3⟩ F6 N6
    rw [List.take_of_length_le (by rw [spansOf_length]; exact Nat.le_refl _)] at hd7' hip
    tb_start
    exact h h6 _ m₁ c3' c7' c8' c9' Pl pys n t7 F6 N6 hO6 ⟨_, hd3'⟩ hd7' hip hq1 hq2 hq3
end
end
section
theorem fill_L12 (w : World) : (hd.heap_39 w.params).In {} → PySem.Challenge.rw_nu0147_01.prog = PySem.Challenge.rw_nu0147_01.prog := by
  k_fill
  exact fun _ => rfl
section
variable {w : World} {mg mb : Str → Option Value} {dp un : Nat} {fr : Option (List Env)} {gd : Option (List Code)} {s : Shared} {Q E : Value → Shared → Prop}
variable {hc : Heap} {L P q : Addr} {oP oq c1 c2 c3 c4 c5 c6 c7 c8 c9 : Obj} {St : List (Addr × Obj)} {m : Str → Option Value} {frl : List Env} {Qf : Flow → Shared → Prop} {R x l : Addr} {b : Bool} {rvs lvs : List Value} {rs : List RowV} {len : Int} {tl : Tok}
theorem ints_carets {b : Bool} {B : Int} : ∀ {vs : List Value} {ns : List Int} {ys : List Value}, IntsAre vs ns → Paired (fun v y => ∃ k t t', v = Value.int k t ∧ y = Value.int (if b then B - k else k) t') vs ys → IntsAre ys (ns.map fun p => if b then B - p else p)
  | _, _, _, .nil, .nil => .nil
  | _, _, _, .cons _ _ r, .cons ⟨k, t, t', e, e'⟩ p => by
    rw [Value.int.injEq] at e
    rw [e', List.map_cons, ← e.1]
    exact .cons _ _ (ints_carets r p)
theorem st13 {st : List Int} {Pl : Addr} {pys : Array Value} {n7 : Nat} {t7 : Tok} (C : LC w mg mb hc L P q R x l b rvs lvs rs len St) (F : Fr hc L s.heap m) (N : News hc L s.heap (ld L P q oP oq c1 c2 c3 c4 c5 c6 c7 c8 c9 ((Pl, W.listOf pys n7) :: St)))
    (hd1 : c1.data = .cell (some (.bool b))) (hd2 : c2.data = .cell (some (.ref x))) (hd7 : c7.data = .cell (some (.int (caretFold rs (spansOf st len)).2 t7))) (hip : IntsAre pys.toList (caretFold rs (spansOf st len)).1) (hF : Firsts st rs)
    (hm1 : m (Str.ofString "rows") = some (.ref R)) (hm2 : m (Str.ofString "length") = some (.int len tl)) (hm3 : m (Str.ofString "places") = some (.ref Pl)) (hd : dp + 500 < recursionLimit) (hu : un < 3000)
    (h : ∀ h' tk dr m', Fr hc L h' m' → News hc L h' (ld L P q oP oq c1 c2 c3 c4 c5 c6 c7 c8 c9 St) → m' (Str.ofString "rows") = some (.ref R) →
      wpAny (model PR w) (AA dp un (some frl) gd) (execs (lawDef.1.drop 15) (lawEnv L)) Qf E { s with heap := h', toks := tk, drawn := dr }) :
    wpAny (model PR w) (AA dp un (some frl) gd) (execs (lawDef.1.drop 13) (lawEnv L)) Qf E s := by
  conv in List.drop _ _ => whnf
  unfold lawEnv
  conv in Prod.snd lawDef => whnf
  have G := C.G
  have X := G.X
  have T := G.T
  have hn8 := C.n8
  have hsl := hF.len_le
  have hcl := caretFold_len rs (spansOf st len) ([], 0) fun sp' hsp' => by
    obtain ⟨q, hq⟩ := List.mem_iff_getElem?.mp hsp'
    have := spans_in hF C.bc hq
    have := C.bl
    omega
  rw [spansOf_length] at hcl
  change (caretFold rs (spansOf st len)).1.length ≤ _ at hcl
  simp only [List.length_nil] at hcl
  refine wpAny_execs_cons ?_
  tb_start
  (rename Fr _ _ _ _ => F1)
  (rename News _ _ _ _ => N1)
  rename_i lx h1 lt1
  refine add_arrays_ints F1 N1 (list_of_obj (N1 (Pl, W.listOf pys n7) (by simp [ld])).1) (list_of_obj (N1 (lx, _) (.head _)).1) hip (.cons _ _ .nil) ?_ (by rw [sizeLine_eq]; simp only [List.length_cons, List.length_nil]; omega)
  intro h2 F2 N2 hi2
  tb_start
  refine store_loc F2 rfl rfl ?_
  intro h3 F3 hk3
  have N3 := news_but N2 hk3
  tb_start
  have HS3 : Has h3 St := Has.of N3 (fun _ hp => .tail _ (.tail _ (ld_St _ (.tail _ hp))))
  refine ⟨X.keeps F3.keep, ?_⟩
  refine cp_spec (G.kp F3.keep) (C.shp _ HS3) (C.lst _ HS3) (C.lrow _ HS3) (by rw [srs_len]; exact hn8) (fun r hr => C.ba r (srs_mem.mp hr)) (fun r hr => C.bc r (srs_mem.mp hr)) C.bl (by omega) ?_
  intro D1 h4 k4 dr4 ys1 n1 st1 hk4 hD1 ho1 hi1 hz1 hF1
  show wpAny _ _ _ _ _ { s with heap := h4, toks := k4, drawn := dr4 }
  have est : st1 = st := strict_ext hF1.up hF.up fun k => by
    rw [hF1.mem, hF.mem]
    simp only [List.mem_map, srs_mem]
  subst est
  have F4 := fr_kp F3 hk4
  have N4 := news_new F3 N3 hk4 hD1 ho1
  unfold caretsOf at hi1
  rw [caretFold_srs] at hi1
  generalize caretFold rs (spansOf st1 len) = cf at hi1 hip hi2 hd7 hcl N4
  obtain ⟨cps, cbg⟩ := cf
  dsimp only at hi1 hip hi2 hd7 hcl N4
  have hi1' : IntsAre ys1.toList ((cps ++ [cbg]).map fun p => if b then cbg - p else p) := by
    cases b
    · simpa using hi1
    · simpa using hi1
  clear hi1
  tb_start
  refine comp_list (fun _ => true) (fun v y => ∃ k t t', v = Value.int k t ∧ y = Value.int (if b then cbg - k else k) t') rfl rfl (by decide) rfl (by decide) rfl ?_
  tb_start
  have hl4 := hi2.length
  refine ⟨h1.objs.size, pys.toList ++ #[Value.int cbg t7].toList, rfl, list_of_obj (N4 (h1.objs.size, W.listOf (pys.toList ++ #[Value.int cbg t7].toList).toArray 0) (.tail _ (.head _))).1, ?_, ?_, ?_, ?_⟩
  · rw [hl4, sizeLine_eq, List.length_append, List.length_singleton]; omega
  · intro C v s₃ m₃ E'' _ _ _ _
    exact wpAny_tests_nil ⟨rfl, keeps_rfl⟩
  · intro C' v s₃ m₃ E'' hv _ hn₃ hm₃ hk₃
    have F5 := fr_kp F4 hk₃
    have N5 := news_kp N4 hk₃
    have G5 := G.kp F5.keep
    obtain ⟨k, t, rfl⟩ := ints_mem hi2 v hv
    have hc7 : s₃.heap.IsCell (L + 7) (some (.int cbg t7)) := ⟨_, (N5 (L + 7, c7) (by simp [ld])).1, hd7⟩
    have hc1 : s₃.heap.IsCell (L + 1) (some (.bool b)) := ⟨_, (N5 (L + 1, c1) (by simp [ld])).1, hd1⟩
    tb_start
    · rename_i hb
      exact ⟨⟨k, t, _, rfl, by rw [if_pos hb]⟩, keeps_toks⟩
    · rename_i hb
      exact ⟨⟨k, t, _, rfl, by rw [if_neg (by simp [hb])]⟩, keeps_rfl⟩
  · intro D5 h5 k5 ys5 n5 hD5 ho5 hP5 hk5
    have hi5 : IntsAre ys5.toList ((cps ++ [cbg]).map fun p => if b then cbg - p else p) := ints_carets hi2 (paired_true hP5)
    have F5 := fr_kp F4 hk5
    have N5 := news_new F4 N4 hk5 hD5 ho5
    have hsz := hi1'.length
    have hsz5 := hi5.length
    rw [Array.length_toList] at hsz hsz5
    tb_start
    refine ne_lst (list_of_obj (N5 (D1, W.listOf ys1 n1) (.tail _ (.head _))).1) (list_of_obj (N5 (D5, W.listOf ys5 n5) (.head _)).1) (by rw [hsz, hsz5]) (by show un < cLine; unfold cLine; omega) (fun j h1 h2 => eqAt_ints hi1' hi5 j h1 h2) ?_
    tb_start
    exact h h5 _ _ _ F5 (news_sub N5 fun p hp => .tail _ (.tail _ (.tail _ (.tail _ (ld_mono (fun _ h => .tail _ h) p hp))))) (by tb_rel)
end
end
section
theorem fill_LT (w : World) : (hd.heap_39 w.params).In {} → PySem.Challenge.rw_nu0147_01.prog = PySem.Challenge.rw_nu0147_01.prog := by
  k_fill
  exact fun _ => rfl
section
variable {w : World} {mg mb : Str → Option Value} {dp un : Nat} {fr : Option (List Env)} {gd : Option (List Code)} {s : Shared} {Q E : Value → Shared → Prop}
variable {hc : Heap} {L P q : Addr} {oP oq c1 c2 c3 c4 c5 c6 c7 c8 c9 : Obj} {St : List (Addr × Obj)} {m : Str → Option Value} {frl : List Env} {Qf : Flow → Shared → Prop} {R x l : Addr} {b : Bool} {rvs lvs : List Value} {rs : List RowV} {len : Int} {tl : Tok}
def grpTail : List Stmt := match lawDef.1.drop 16 with
  | .For _ _ b _ _ :: _ => b.drop 1
  | _ => []
theorem st_tail {Gl : Addr} {gvs : List Value} {n i : Nat} {fam : List (Addr × Obj)} {I I2 : Addr} {oI oI2 : Obj} {v : Value} {rr : List RowV} {sb : Bool} (G : Gd w mg mb hc) (F : Fr hc L s.heap m)
    (N : News hc L s.heap (ld L P q oP oq c1 c2 c3 c4 c5 c6 c7 c8 c9 ((I, oI) :: (I2, oI2) :: (Gl, W.listOf gvs.toArray n) :: (fam ++ St)))) (O : Off L P q ((I, oI) :: (I2, oI2) :: (Gl, W.listOf gvs.toArray n) :: (fam ++ St)))
    (hP : Paired (GroupIn fam) gvs (grpFold rr i)) (hgl : gvs.length ≤ i) (hgs : ∀ gs ∈ grpFold rr i, gs.length ≤ i) (hi : i < rr.length) (h8 : rr.length ≤ 8) (hv : ∀ h, Has h St → RowAt h v rr[i]) (hsb : sb = true ↔ 0 < i ∧ (rr[i]?).map (·.c) = (rr[i - 1]?).map (·.c))
    (hm1 : m (Str.ofString "groups") = some (.ref Gl)) (hm2 : m (Str.ofString "row") = some v) (hm3 : m (Str.ofString "same_one") = some (.bool sb)) (hd : dp + 500 < recursionLimit) (hu : un < 3000)
    (h : ∀ h' tk m' Gl' gvs' n' fam', Fr hc L h' m' → News hc L h' (ld L P q oP oq c1 c2 c3 c4 c5 c6 c7 c8 c9 ((I, oI) :: (I2, oI2) :: (Gl', W.listOf (List.toArray gvs') n') :: (fam' ++ St))) → Off L P q ((I, oI) :: (I2, oI2) :: (Gl', W.listOf (List.toArray gvs') n') :: (fam' ++ St)) → 
      Paired (GroupIn fam') gvs' (grpFold rr (i + 1)) → gvs'.length ≤ i + 1 → m' (Str.ofString "groups") = some (.ref Gl') → (∀ p ∈ (Gl', W.listOf (List.toArray gvs') n') :: (fam' ++ St), @Ne Nat p.1 I ∧ @Ne Nat p.1 I2) → Qf .next { s with heap := h', toks := tk })
    (hII : ∀ p ∈ (Gl, W.listOf gvs.toArray n) :: (fam ++ St), @Ne Nat p.1 I ∧ @Ne Nat p.1 I2) :
    wpAny (model PR w) (AA dp un (some frl) gd) (execs grpTail (lawEnv L)) Qf E s := by
  conv in grpTail => whnf
  unfold lawEnv
  conv in Prod.snd lawDef => whnf
  have X := G.X
  have T := G.T
  have hmS : ∀ p ∈ St, p ∈ (I, oI) :: (I2, oI2) :: (Gl, W.listOf gvs.toArray n) :: (fam ++ St) := fun p hp => .tail _ (.tail _ (.tail _ (List.mem_append_right _ hp)))
  have hNe : ∀ (h' : Heap) (mid : List (Addr × Obj)), News hc L h' (mid ++ ld L P q oP oq c1 c2 c3 c4 c5 c6 c7 c8 c9 ((I, oI) :: (I2, oI2) :: (Gl, W.listOf gvs.toArray n) :: (fam ++ St))) → ∀ p ∈ ld L P q oP oq c1 c2 c3 c4 c5 c6 c7 c8 c9 ((I, oI) :: (I2, oI2) :: (Gl, W.listOf gvs.toArray n) :: (fam ++ St)), @Ne Nat p.1 h'.objs.size := fun h' mid N' p hp => Nat.ne_of_lt (Heap.lt_size (N' p (List.mem_append_right _ hp)).1)
  refine wpAny_execs_cons ?_
  tb_start
  · rename_i hst
    subst hst
    obtain ⟨h0, hcc⟩ := hsb.mp rfl
    obtain ⟨l0, gs0, hfo⟩ : ∃ l0 gs0, grpFold rr i = l0 ++ [gs0] := ⟨_, _, (List.dropLast_concat_getLast (grpFold_ne rr h0)).symm⟩
    rw [hfo] at hP hgs
    obtain ⟨gv0, va, hgv, ⟨a, ys, na, rfl, hma, hia⟩, hP0⟩ := paired_last hP
    have hstep : grpFold rr (i + 1) = l0 ++ [gs0 ++ [rr[i].g]] := by
      rw [grpFold_succ, hfo]
      refine grpStep_same hi h0 ?_
      rw [List.getElem?_eq_getElem hi, List.getElem?_eq_getElem (by omega : i - 1 < rr.length)] at hcc
      exact Option.some.inj hcc
    have hgs0 : gs0.length ≤ i := hgs gs0 (by simp)
    have hGl := list_of_obj (N (Gl, W.listOf gvs.toArray n) (ld_St _ (.tail _ (.tail _ (.head _))))).1
    dsimp only at hGl
    walk1
    (rename Fr _ _ _ _ => F1)
    (rename News _ _ _ _ => N1)
    rename_i h1
    rw [pick_init _ (by rw [List.size_toArray, hgv]; simp)] at N1
    have eg0 : gvs.toArray.toList.dropLast = gv0 := by rw [hgv]; simp
    rw [eg0] at N1
    clear eg0
    have hGl1 : h1.IsList Gl (gv0 ++ [Value.ref a]).toArray := by rw [← hgv]; exact list_of_obj (N1 (Gl, W.listOf gvs.toArray n) (.tail _ (ld_St _ (.tail _ (.tail _ (.head _)))))).1
    tb_start
    refine sub_neg1 (vs := gv0) hGl1 ?_
    tb_start
    refine row_sub0 (hv _ (Has.of N1 fun p hp => .tail _ (ld_St _ (hmS p hp)))) fun tg => ?_
    tb_start
    (rename Fr _ _ _ _ => F2)
    (rename News _ _ _ _ => N2)
    rename_i lr h2 lt2
    refine add_arrays_ints F2 N2 (list_of_obj (N2 (a, W.listOf ys.toArray na) (.tail _ (.tail _ (ld_St _ (.tail _ (.tail _ (.tail _ (List.mem_append_left _ hma)))))))).1) (list_of_obj (N2 (lr, _) (.head _)).1) (by simpa using hia) (.cons _ _ .nil) ?_ (by rw [sizeLine_eq]; simp only [List.length_cons, List.length_nil]; omega)
    intro h3 F3 N3 hi3
    have hneA := hNe h2 [(lr, _), (s.heap.objs.size + 1, _)] N2
    have hOA := off_put (D := h2.objs.size) (o := W.listOf (ys ++ [Value.int rr[i].g tg]).toArray 0) O hneA
    tb_start
    (rename Fr _ _ _ _ => F4)
    (rename News _ _ _ _ => N4)
    rename_i lb h4 lt4
    refine add_arrays F4 N4 (list_of_obj (N4 (s.heap.objs.size + 1, _) (.tail _ (.tail _ (.tail _ (.head _))))).1) (list_of_obj (N4 (lb, _) (.head _)).1) ?_ (by rw [sizeLine_eq, List.size_toArray]; have := congrArg List.length hgv; simp at this ⊢; omega)
    intro h5 F5 N5
    have hneC := hNe h4 [(lb, _), (h2.objs.size, _), (lr, _), (s.heap.objs.size + 1, _)] N4
    have hOC := off_put (D := h4.objs.size) (o := W.listOf (gv0 ++ [Value.ref h2.objs.size]).toArray 0) O hneC
    tb_start
    refine store_loc F5 rfl rfl ?_
    intro h6 F6 hk6
    have N6 := news_but N5 hk6
    tb_start
    refine h h6 _ _ h4.objs.size (gv0 ++ [.ref h2.objs.size]) 0 ((h2.objs.size, W.listOf (ys ++ [Value.int rr[i].g tg]).toArray 0) :: fam) F6 (news_grp (top := [(h4.objs.size, _), (lb, _), (h2.objs.size, _), (lr, _), (s.heap.objs.size + 1, _)]) N6 (.tail _ (.tail _ (.head _))) (.head _)) (off_grp O hOA hOC) (by rw [hstep]; exact grp_add hP0 (by simpa using hi3)) (by have := congrArg List.length hgv; simp at this ⊢; omega) (by tb_rel) fun p hp => ?_
    rcases List.mem_cons.mp hp with rfl | hp
    · exact ⟨Ne.symm (hneC (I, oI) (ld_St _ (.head _))), Ne.symm (hneC (I2, oI2) (ld_St _ (.tail _ (.head _))))⟩
    rcases List.mem_cons.mp hp with rfl | hp
    · exact ⟨Ne.symm (hneA (I, oI) (ld_St _ (.head _))), Ne.symm (hneA (I2, oI2) (ld_St _ (.tail _ (.head _))))⟩
    exact hII p (.tail _ hp)
  · rename_i hsf
    have hstep : grpFold rr (i + 1) = grpFold rr i ++ [[rr[i].g]] := by
      rw [grpFold_succ]
      refine grpStep_new hi ?_
      by_cases h0 : 0 < i
      · refine .inr ⟨by omega, fun q => ?_⟩
        have : sb = true := hsb.mpr ⟨h0, by rw [List.getElem?_eq_getElem hi, List.getElem?_eq_getElem (by omega : i - 1 < rr.length)]; simp [q]⟩
        rw [this] at hsf; cases hsf
      · exact .inl h0
    refine row_sub0 (hv _ (Has.of N fun p hp => ld_St _ (hmS p hp))) fun tg => ?_
    tb_start
    (rename Fr _ _ _ _ => F2)
    (rename News _ _ _ _ => N2)
    rename_i la h1 lt1 lb h2 lt2
    have hneA : ∀ p ∈ ld L P q oP oq c1 c2 c3 c4 c5 c6 c7 c8 c9 ((I, oI) :: (I2, oI2) :: (Gl, W.listOf gvs.toArray n) :: (fam ++ St)), @Ne Nat p.1 la := lt_ne (allLt_at lt1)
    have hOA := off_put (D := la) (o := W.listOf [Value.int rr[i].g tg].toArray 0) O hneA
    refine add_arrays F2 N2 (list_of_obj (N2 (Gl, W.listOf gvs.toArray n) (.tail _ (.tail _ (ld_St _ (.tail _ (.tail _ (.head _))))))).1) (list_of_obj (N2 (lb, _) (.head _)).1) ?_ (by rw [sizeLine_eq, List.size_toArray]; simp only [List.size_toArray, List.length_cons, List.length_nil]; omega)
    intro h5 F5 N5
    have hneC := hNe h2 [(lb, _), (la, _)] N2
    have hOC := off_put (D := h2.objs.size) (o := W.listOf (gvs ++ [Value.ref la]).toArray 0) O hneC
    tb_start
    refine store_loc F5 rfl rfl ?_
    intro h6 F6 hk6
    have N6 := news_but N5 hk6
    tb_start
    refine h h6 _ _ h2.objs.size (gvs ++ [.ref la]) 0 ((la, W.listOf [Value.int rr[i].g tg].toArray 0) :: fam) F6 (news_grp (top := [(h2.objs.size, _), (lb, _), (la, _)]) N6 (.tail _ (.tail _ (.head _))) (.head _)) (off_grp O hOA hOC) (by rw [hstep]; exact grp_add hP (.cons _ _ .nil)) (by simp; omega) (by tb_rel) fun p hp => ?_
    rcases List.mem_cons.mp hp with rfl | hp
    · exact ⟨Ne.symm (hneC (I, oI) (ld_St _ (.head _))), Ne.symm (hneC (I2, oI2) (ld_St _ (.tail _ (.head _))))⟩
    rcases List.mem_cons.mp hp with rfl | hp
    · exact ⟨Ne.symm (hneA (I, oI) (ld_St _ (.head _))), Ne.symm (hneA (I2, oI2) (ld_St _ (.tail _ (.head _))))⟩
    exact hII p (.tail _ hp)
end
end
section
theorem fill_L13 (w : World) : (hd.heap_39 w.params).In {} → PySem.Challenge.rw_nu0147_01.prog = PySem.Challenge.rw_nu0147_01.prog := by
  k_fill
  exact fun _ => rfl
section
variable {w : World} {mg mb : Str → Option Value} {dp un : Nat} {fr : Option (List Env)} {gd : Option (List Code)} {s : Shared} {Q E : Value → Shared → Prop}
variable {hc : Heap} {L P q : Addr} {oP oq c1 c2 c3 c4 c5 c6 c7 c8 c9 : Obj} {St : List (Addr × Obj)} {m : Str → Option Value} {frl : List Env} {Qf : Flow → Shared → Prop} {R x l : Addr} {b : Bool} {rvs lvs : List Value} {rs : List RowV} {len : Int} {tl : Tok}
theorem st15 {v3 : Option Value} (C : LC w mg mb hc L P q R x l b rvs lvs rs len St) (F : Fr hc L s.heap m) (N : News hc L s.heap (ld L P q oP oq c1 c2 c3 c4 c5 c6 c7 c8 c9 St))
    (hd2 : c2.data = .cell (some (.ref x))) (hd3 : c3.data = .cell v3) (hd : dp + 500 < recursionLimit) (hu : un < 3000)
    (h : ∀ h' tk m', Fr hc L h' m' → Qf (.ret (.bool true)) { s with heap := h', toks := tk }) :
    wpAny (model PR w) (AA dp un (some frl) gd) (execs (lawDef.1.drop 15) (lawEnv L)) Qf E s := by
  conv in List.drop _ _ => whnf
  unfold lawEnv
  conv in Prod.snd lawDef => whnf
  have G := C.G
  have X := G.X
  have T := G.T
  have hn8 := C.n8
  refine wpAny_execs_cons ?_
  tb_start
  (rename Fr _ _ _ _ => F1)
  (rename News _ _ _ _ => N1)
  rename_i Gl h1 lt1
  have hne1 : ∀ p ∈ ld L P q oP oq c1 c2 c3 c4 c5 c6 c7 c8 c9 St, @Ne Nat p.1 Gl := lt_ne (allLt_at lt1)
  have hO1 := off_put (D := Gl) (o := W.listOf #[] 0) C.off hne1
  refine store_loc F1 rfl rfl ?_
  intro h2 F2 hk2
  have N2 := news_but N1 hk2
  have N2' := ld_put (mid := []) N2
  have HS2 : Has h2 St := Has.of N2' (fun _ hp => ld_St _ (.tail _ hp))
  have hS2 := C.shp _ HS2
  tb_start
  refine for_go ?_
  tb_start
  refine for_enum (h₀ := hc) (vs := lvs) (fun i m nx => ∃ Gl gvs n fam c3', nx = ld L P q oP oq c1 c2 c3' c4 c5 c6 c7 c8 c9 ((Gl, W.listOf (List.toArray gvs) n) :: (fam ++ St)) ∧ Off L P q ((Gl, W.listOf (List.toArray gvs) n) :: (fam ++ St)) ∧ (∃ v, c3'.data = .cell v) ∧ Paired (GroupIn fam) gvs (grpFold (srs b rs) i) ∧ gvs.length ≤ i ∧ (∀ gs ∈ grpFold (srs b rs) i, gs.length ≤ i) ∧ m (Str.ofString "groups") = some (.ref Gl))
    rfl ?lst F2 N2' ⟨Gl, [], 0, [], c3, rfl, hO1, ⟨_, hd3⟩, .nil, Nat.le_refl _, fun _ h => (by cases h), by tb_rel⟩ ?turn ?done
  case lst =>
    rintro i h m nx ⟨Gl, gvs, n, fam, c3', rfl, _⟩ _ N
    exact C.lst _ (Has.of N fun _ hp => ld_St _ (.tail _ (List.mem_append_right _ hp)))
  case turn =>
    rintro i v T t m₁ nx h3 tk3 I I2 oI oI2 E3 hv hIne hI2ne hJ0 F3 N3 hT
    generalize hZ1 : TurnPost _ _ I _ _ _ _ = Z1
    revert Z1
    refine blk ?_
    intro Z1 hZ1
    show wpAny _ _ _ _ _ { s with heap := h3, toks := tk3 }
    obtain ⟨Gl, gvs, n, fam, c3', rfl, hO3, ⟨v3', hd3'⟩, hP3, hgl, hgs, hq1⟩ := hJ0
    have hO4 := off_put (D := I) (o := oI) (off_put (D := I2) (o := oI2) hO3 hI2ne) hIne
    have N4 : News hc L h3 (ld L P q oP oq c1 c2 c3' c4 c5 c6 c7 c8 c9 ((I, oI) :: (I2, oI2) :: (Gl, W.listOf (List.toArray gvs) n) :: (fam ++ St))) := news_sub N3 fun p hp => ld_in (new := [(I, oI), (I2, oI2)]) p hp
    clear N3
    refine unpack_N rfl hT fun h4 hk4 => ?_
    have F4 := fr_kp F3 hk4
    replace N4 := news_kp N4 hk4
    tb_start
    refine store_3 F4 N4 hO4 C.hPL C.hqL rfl hd3' ?_
    intro h5 c3'' F5 N5 hd3''
    tb_start
    refine store_loc F5 rfl rfl ?_
    intro h6 F6 hk6
    have N6 := news_but N5 hk6
    have HS6 : Has h6 St := Has.of N6 (fun _ hp => ld_St _ (.tail _ (.tail _ (.tail _ (List.mem_append_right _ hp)))))
    have hS6 := C.shp _ HS6
    have hl6 := C.lst _ HS6
    have hR6 := C.lrow _ HS6
    have hrl := (C.lrow _ HS6).length
    have hi' : i < lvs.length := (List.getElem?_eq_some_iff.mp hv).1
    have hri : i < (srs b rs).length := by omega
    have h8 : (srs b rs).length ≤ 8 := by rw [srs_len]; exact hn8
    have hva : ∀ h, Has h St → RowAt h v (srs b rs)[i] := fun h H => by
      obtain ⟨r, hr, hR⟩ := paired_getL (C.lrow h H) hv
      rw [List.getElem?_eq_getElem hri] at hr
      rw [Option.some.inj hr]; exact hR
    have hmS : ∀ p ∈ St, p ∈ (I, oI) :: (I2, oI2) :: (Gl, W.listOf (List.toArray gvs) n) :: (fam ++ St) := fun p hp => .tail _ (.tail _ (.tail _ (List.mem_append_right _ hp)))
    have hII : ∀ p ∈ (Gl, W.listOf (List.toArray gvs) n) :: (fam ++ St), @Ne Nat p.1 I ∧ @Ne Nat p.1 I2 := fun p hp => ⟨hIne p (ld_St _ hp), hI2ne p (ld_St _ hp)⟩
    have hfin : ∀ (h' : Heap) (tk : Nat) (m' : Str → Option Value) Gl' gvs' n' fam', Fr hc L h' m' → News hc L h' (ld L P q oP oq c1 c2 c3'' c4 c5 c6 c7 c8 c9 ((I, oI) :: (I2, oI2) :: (Gl', W.listOf (List.toArray gvs') n') :: (fam' ++ St))) → Off L P q ((I, oI) :: (I2, oI2) :: (Gl', W.listOf (List.toArray gvs') n') :: (fam' ++ St)) → 
      Paired (GroupIn fam') gvs' (grpFold (srs b rs) (i + 1)) → gvs'.length ≤ i + 1 → m' (Str.ofString "groups") = some (.ref Gl') → (∀ p ∈ (Gl', W.listOf (List.toArray gvs') n') :: (fam' ++ St), @Ne Nat p.1 I ∧ @Ne Nat p.1 I2) →
      ∀ Z, TurnEnd hc L I [(I, oI), (I2, oI2)] (fun m nx => (∃ Gl gvs n fam c3', nx = ld L P q oP oq c1 c2 c3' c4 c5 c6 c7 c8 c9 ((Gl, W.listOf (List.toArray gvs) n) :: (fam ++ St)) ∧ Off L P q ((Gl, W.listOf (List.toArray gvs) n) :: (fam ++ St)) ∧ (∃ v, c3'.data = .cell v) ∧ Paired (GroupIn fam) gvs (grpFold (srs b rs) (i + 1)) ∧ gvs.length ≤ i + 1 ∧ (∀ gs ∈ grpFold (srs b rs) (i + 1), gs.length ≤ i + 1) ∧ m (Str.ofString "groups") = some (.ref Gl)) ∧ ∀ p ∈ nx, @Ne Nat p.1 I2) Z { Z with heap := h', toks := tk } := by
      intro h' tk m' Gl' gvs' n' fam' F' N' O' P' g' q' ne' Z
      have hx : ∀ (J : Addr), (∀ p ∈ ld L P q oP oq c1 c2 c3' c4 c5 c6 c7 c8 c9 ((Gl, W.listOf (List.toArray gvs) n) :: (fam ++ St)), @Ne Nat p.1 J) → (∀ p ∈ (Gl', W.listOf (List.toArray gvs') n') :: (fam' ++ St), @Ne Nat p.1 J) → ∀ p ∈ ld L P q oP oq c1 c2 c3'' c4 c5 c6 c7 c8 c9 ((Gl', W.listOf (List.toArray gvs') n') :: (fam' ++ St)), @Ne Nat p.1 J := fun J a1 a2 p hp => by
        rcases List.mem_append.mp (ld_in (new := (Gl', W.listOf (List.toArray gvs') n') :: (fam' ++ St)) (St := []) p (by simpa using hp)) with hp | hp
        · exact a2 p hp
        · exact ne_map (l := ld L P q oP oq c1 c2 c3' c4 c5 c6 c7 c8 c9 []) (l' := ld L P q oP oq c1 c2 c3'' c4 c5 c6 c7 c8 c9 []) rfl (fun p hp => a1 p (ld_mono (fun _ h => by cases h) p hp)) p hp
      refine TurnEnd.intro F' (nx' := ld L P q oP oq c1 c2 c3'' c4 c5 c6 c7 c8 c9 ((Gl', W.listOf (List.toArray gvs') n') :: (fam' ++ St))) (news_sub N' fun p hp => ld_out (new := [(I, oI), (I2, oI2)]) p hp) (hx I hIne fun p hp => (ne' p hp).1) ⟨⟨Gl', gvs', n', fam', c3'', rfl, fun p hp => O' p (.tail _ (.tail _ hp)), ⟨_, hd3''⟩, P', g', grp_size _ hgs, q'⟩, hx I2 hI2ne fun p hp => (ne' p hp).2⟩
    clear hIne hI2ne
    tb_start
    · rename_i hpos
      have h0 : 0 < i := by
        rcases Nat.eq_zero_or_pos i with q | q
        · rw [q] at hpos; simp at hpos
        · exact q
      obtain ⟨v1, hv1, hR1⟩ := paired_get hR6 (List.getElem?_eq_getElem (show i - 1 < (srs b rs).length by omega))
      refine sub_list (vs := lvs) (v := v1) hl6 (by omega) (by omega) (by rw [show ((i : Int) - 1).toNat = i - 1 by omega]; exact hv1) ?_
      tb_start
      refine row_sub1 hR1 fun ta => ?_
      tb_start
      refine row_sub1 (hva _ HS6) fun tb => ?_
      tb_start
      refine store_loc F6 rfl rfl ?_
      intro h7 F7 hk7
      have N7 := news_but N6 hk7
      tb_start
      subst hZ1
      show wpAny _ _ (execs grpTail (lawEnv L)) _ _ _
      refine st_tail (rr := srs b rs) (v := v) (sb := ((srs b rs)[i - 1].c == (srs b rs)[i].c)) G F7 N7 hO4 hP3 hgl hgs hri h8 hva ?_ (by tb_rel) (by tb_rel) (by tb_rel) hd hu (fun h' tk m' Gl' gvs' n' fam' a1 a2 a3 a4 a5 a6 a7 => hfin h' tk m' Gl' gvs' n' fam' a1 a2 a3 a4 a5 a6 a7 _) hII
      rw [List.getElem?_eq_getElem hri, List.getElem?_eq_getElem (show i - 1 < (srs b rs).length by omega), beq_iff_eq]
      exact ⟨fun q => ⟨h0, by simp [q]⟩, fun q => (Option.some.inj q.2).symm⟩
    · rename_i hpos
      have h0 : ¬ 0 < i := by
        intro q
        have : (0 : Int) < (i : Int) := by omega
        simp at hpos; omega
      have e0 : decide ((0 : Int) < (i : Int)) = false := by rw [decide_eq_false_iff_not]; omega
      rw [e0]
      refine store_loc F6 rfl rfl ?_
      intro h7 F7 hk7
      have N7 := news_but N6 hk7
      tb_start
      subst hZ1
      show wpAny _ _ (execs grpTail (lawEnv L)) _ _ _
      exact st_tail (rr := srs b rs) (v := v) (sb := false) G F7 N7 hO4 hP3 hgl hgs hri h8 hva ⟨fun q => (by cases q), fun q => absurd q.1 h0⟩ (by tb_rel) (by tb_rel) (by tb_rel) hd hu (fun h' tk m' Gl' gvs' n' fam' a1 a2 a3 a4 a5 a6 a7 => hfin h' tk m' Gl' gvs' n' fam' a1 a2 a3 a4 a5 a6 a7 _) hII
  case done =>
    rintro m₁ nx h3 tk3 ⟨Gl, gvs, n, fam, c3', rfl, hO3, ⟨v3', hd3'⟩, hP3, hgl, hgs, hq1⟩ F3 N3
    show wpAny _ _ (execs _ _) _ _ _
    refine wpAny_execs_cons ?_
    have HS3 : Has h3 St := Has.of N3 (fun _ hp => ld_St _ (.tail _ (List.mem_append_right _ hp)))
    tb_start
    refine ⟨X.keeps F3.keep, ?_⟩
    refine cg_spec (G.kp F3.keep) (C.shp _ HS3) (C.lst _ HS3) (C.lrow _ HS3) (by rw [srs_len]; exact hn8) (by omega) ?_
    intro D h4 k4 hvs n4 hk4 hD4 ho4 hP4
    show wpAny _ _ _ _ _ { s with heap := h4, toks := k4 }
    have hll := (C.lrow _ HS3).length
    rw [← hll] at hP4
    have N4 := news_kp N3 hk4
    have F4 := fr_kp F3 hk4
    have hP3' : Paired (GroupAt h4) gvs (grpFold (srs b rs) lvs.length) := Paired.imp' (fun _ _ q => by
      obtain ⟨a, ys, n, e, hm, hi⟩ := q
      exact ⟨a, ys, n, e, (N4 (a, W.listOf ys.toArray n) (ld_St _ (.tail _ (List.mem_append_left _ hm)))).1, hi⟩) hP3
    have hl1 := hP4.length
    have hl2 := hP3'.length
    tb_start
    refine eq_lst (list_of_obj ho4) (list_of_obj (N4 (Gl, W.listOf (List.toArray gvs) n) (ld_St _ (.head _))).1) (by rw [List.size_toArray, List.size_toArray, hl1, hl2]) (by show un < cLine; unfold cLine; omega) (fun j h1 h2 => groups_eq hP4 hP3' (by show un + 1 < cLine; unfold cLine; omega) j h1 h2) ?_
    exact h h4 _ _ F4
end
end
section
theorem fill_L14 (w : World) : (hd.heap_39 w.params).In {} → PySem.Challenge.rw_nu0147_01.prog = PySem.Challenge.rw_nu0147_01.prog := by
  k_fill
  exact fun _ => rfl
section
variable {w : World} {mg mb : Str → Option Value} {dp un : Nat} {fr : Option (List Env)} {gd : Option (List Code)} {s : Shared} {Q E : Value → Shared → Prop}
variable {hc : Heap} {L P q : Addr} {oP oq c1 c2 c3 c4 c5 c6 c7 c8 c9 : Obj} {St : List (Addr × Obj)} {m : Str → Option Value} {frl : List Env} {Qf : Flow → Shared → Prop} {R x l : Addr} {b : Bool} {rvs lvs : List Value} {rs : List RowV} {len : Int} {tl : Tok}
theorem st0 {ls : Addr} {vs : List Value} {ns : List Int} (G : Gd w mg mb hc) (S : hc.NoSeer) (F : Fr hc L s.heap m) (N : News hc L s.heap [(L + 1, c1), (L + 2, c2), (L + 3, c3), (L + 4, c4), (L + 5, c5), (L + 6, c6), (L + 7, c7), (L + 8, c8), (L + 9, c9)])
    (hd1 : c1.data = .cell none) (hl : hc.IsList ls vs.toArray) (hi : IntsAre vs ns) (h63 : vs.length ≤ 63)
    (hm1 : m (Str.ofString "script") = some (.ref ls)) (hd : dp + 500 < recursionLimit) (hu : un < 3000)
    (h : ∀ h' tk m' P q oP oq c1' b R n rvs rs fam len tl, Fr hc L h' m' → News hc L h' (ld L P q oP oq c1' c2 c3 c4 c5 c6 c7 c8 c9 ((R, W.listOf (List.toArray rvs) n) :: fam)) → Off L P q ((R, W.listOf (List.toArray rvs) n) :: fam) → PL L P → PL L q → P ≠ q → PenOf q oP oq → c1'.data = .cell (some (.bool b)) →
      Paired (RowIn fam) rvs rs → rs.length ≤ 8 → 1 ≤ rs.length → (∀ r ∈ rs, 0 ≤ r.a ∧ r.a ≤ 600) → (∀ r ∈ rs, 0 ≤ r.c ∧ r.c < len) → len ≤ 200 → (rs.map (·.c)).Pairwise (· ≤ ·) → m' (Str.ofString "rows") = some (.ref R) → m' (Str.ofString "pen") = some (.ref P) → m' (Str.ofString "length") = some (.int len tl) →
      wpAny (model PR w) (AA dp un (some frl) gd) (execs (lawDef.1.drop 4) (lawEnv L)) Qf E { s with heap := h', toks := tk }) :
    wpAny (model PR w) (AA dp un (some frl) gd) (execs (lawDef.1.drop 0) (lawEnv L)) Qf E s := by
  conv in List.drop _ _ => whnf
  unfold lawEnv
  conv in Prod.snd lawDef => whnf
  have X := G.X
  have T := G.T
  tb_start
  refine ⟨X.keeps F.keep, ?_⟩
  refine pn_spec (G.kp F.keep) (isList_kp hl F.keep) hi h63 (by omega) (by omega) ?_
  intro h1 k1 P q oP oq hk1 hP0 hq0 hPq hP1 hq1 hpen
  show wpAny _ _ _ _ _ { s with heap := h1, toks := k1 }
  have hPL := pl_of F N hP0
  have hqL := pl_of F N hq0
  have F1 := fr_kp F hk1
  have N1q := news_new F N hk1 hq0 hq1
  have N1 : News hc L h1 (ld L P q oP oq c1 c2 c3 c4 c5 c6 c7 c8 c9 []) := by
    intro p hp
    rcases List.mem_cons.mp hp with rfl | hp
    · exact news_new F N hk1 hP0 hP1 _ (.head _)
    · exact N1q p hp
  have hO0 : Off L P q [] := fun p hp => by cases hp
  clear N1q F N
  tb_start
  refine store_loc F1 rfl rfl ?_
  intro h2 F2 hk2
  have N2 := news_but N1 hk2
  tb_start
  refine wpAny_execs_cons ?_
  tb_start
  (rename Fr _ _ _ _ => F3)
  (rename News _ _ _ _ => N3)
  rename_i R h3 lt3
  have hneR : ∀ p ∈ ld L P q oP oq c1 c2 c3 c4 c5 c6 c7 c8 c9 [], @Ne Nat p.1 R := by
    intro p hp
    simp only [ld, List.mem_cons, List.not_mem_nil, or_false] at hp
    obtain ⟨a1, a2, a3, a4, a5, a6, a7, a8, a9, b1, b2⟩ := lt3
    rcases hp with rfl | rfl | rfl | rfl | rfl | rfl | rfl | rfl | rfl | rfl | rfl
    all_goals exact Nat.ne_of_lt (by assumption)
  have hO3 := off_put (D := R) (o := W.listOf #[] 0) hO0 hneR
  refine ⟨X.keeps F3.keep, ?_⟩
  refine draw_L G S hO3 hPL hqL hPq F3 (ld_put (mid := []) N3) hpen (by decide) (by decide) (by omega) (by omega) ?_
  intro h4 k4 d4 t4 oP4 oq4 _ _ hpen4 F4 N4
  show wpAny _ _ _ _ _ { s with heap := h4, toks := k4 }
  clear F3 N3
  tb_start
  refine tup_raw (by simp) fun hn5 ho5 => ?_
  replace N4 := N4.grown fun _ _ e => Heap.get?_push_of_some { cls := .type "tuple", data := .seq [Value.ref R, Value.int 0 (k1 + 1), Value.bool (d4 == 0)].toArray } e
  replace F4 := F4.push { cls := .type "tuple", data := .seq [Value.ref R, Value.int 0 (k1 + 1), Value.bool (d4 == 0)].toArray }
  refine unpack_N rfl ⟨_, ho5, rfl, _, rfl⟩ fun h5 hk5 => ?_
  have F5 := fr_kp F4 hk5
  have N5 := news_kp N4 hk5
  clear F4 N4
  tb_start
  refine store_loc F5 rfl rfl ?_
  intro h6 F6 hk6
  have N6 := news_but N5 hk6
  clear F5 N5
  tb_start
  refine store_loc F6 rfl rfl ?_
  intro h7 F7 hk7
  have N7 := news_but N6 hk7
  clear F6 N6
  tb_start
  refine store_1 F7 N7 hO3 hPL hqL rfl hd1 ?_
  intro h8 c1' F8 N8 hd1'
  clear F7 N7
  tb_start
  refine for_go ?_
  tb_start
  refine ⟨X.keeps F8.keep, ?_⟩
  refine draw_L G S hO3 hPL hqL hPq F8 N8 hpen4 (by decide) (by decide) (by omega) (by omega) ?_
  intro h9 k9 d9 t9 oP9 oq9 hd90 hd91 hpen9 F9 N9
  show wpAny _ _ _ _ _ { s with heap := h9, toks := k9 }
  clear F8 N8
  tb_start
  refine range1_kp ?_
  intro r tr ur h10 k10 hr hk10
  show wpAny _ _ _ _ _ { s with heap := h10, toks := k10 }
  have F10 := fr_kp F9 hk10
  have N10 := news_kp N9 hk10
  clear F9 N9
  tb_start
  refine for_range (h₀ := hc) (n := (1 + d9).toNat) (fun i m nx => ∃ oP oq n rvs rs fam clu tc, nx = ld L P q oP oq c1' c2 c3 c4 c5 c6 c7 c8 c9 ((R, W.listOf (List.toArray rvs) n) :: fam) ∧ PenOf q oP oq ∧ Off L P q ((R, W.listOf (List.toArray rvs) n) :: fam) ∧ (∀ p ∈ fam, @Ne Nat p.1 R) ∧ Paired (RowIn fam) rvs rs ∧ rs.length = i ∧
      (∀ r ∈ rs, 0 ≤ r.a ∧ r.a ≤ 600) ∧ (∀ r ∈ rs, 0 ≤ r.c ∧ r.c ≤ clu) ∧ (rs.map (·.c)).Pairwise (· ≤ ·) ∧ 0 ≤ clu ∧ clu ≤ 3 * (i : Int) ∧ m (Str.ofString "rows") = some (.ref R) ∧ m (Str.ofString "cluster") = some (.int clu tc) ∧ m (Str.ofString "pen") = some (.ref P))
    rfl hr (by omega) (by omega) (by omega) (by omega) (by omega) F10 N10 ⟨oP9, oq9, 0, [], [], [], 0, _, rfl, hpen9, hO3, fun p hp => (by cases hp), .nil, rfl, fun _ h => (by cases h), fun _ h => (by cases h), .nil, Int.le_refl _, by omega, by tb_rel, by tb_rel, by tb_rel⟩ ?turn ?done
  case turn =>
    rintro i m₁ nx h11 tk11 t11 I oI E11 hi' hIlt hIne hJ0 F11 N11
    generalize hZ1 : TurnPost _ _ I _ _ _ _ = Z1
    revert Z1
    refine blk ?_
    intro Z1 hZ1
    show wpAny _ _ _ _ _ { s with heap := h11, toks := tk11 }
    obtain ⟨oP, oq, n, rvs, rs, fam, clu, tc, rfl, hpn, hO, hfR, hPr, hlen, hba, hbc, hup, hcl0, hcl1, hq1, hq2, hq3⟩ := hJ0
    have hO11 := off_put (D := I) (o := oI) hO hIne
    replace N11 := ld_put (mid := []) N11
    tb_start
    refine store_loc F11 rfl rfl ?_
    intro h12 F12 hk12
    have N12 := news_but N11 hk12
    clear F11 N11
    tb_start
    refine ⟨X.keeps F12.keep, ?_⟩
    refine draw_L G S hO11 hPL hqL hPq F12 N12 hpn (by decide) (by decide) (by omega) (by omega) ?_
    intro h13 k13 d13 t13 oP13 oq13 _ _ hpen13 F13 N13
    show wpAny _ _ _ _ _ { s with heap := h13, toks := k13 }
    clear F12 N12
    tb_start
    refine ⟨X.keeps F13.keep, ?_⟩
    refine draw_L G S hO11 hPL hqL hPq F13 N13 hpen13 (by decide) (by decide) (by omega) (by omega) ?_
    intro h14 k14 d14 t14 oP14 oq14 hd140 hd141 hpen14 F14 N14
    show wpAny _ _ _ _ _ { s with heap := h14, toks := k14 }
    clear F13 N13
    tb_start
    (rename Fr _ _ _ _ => F15)
    (rename News _ _ _ _ => N15)
    rename_i lp h15 lt15
    have hne15 : ∀ p ∈ ld L P q oP14 oq14 c1' c2 c3 c4 c5 c6 c7 c8 c9 ((I, oI) :: (R, W.listOf (List.toArray rvs) n) :: fam), @Ne Nat p.1 lp := lt_ne (allLt_at lt15)
    have hO15 := off_put (D := lp) (o := W.listOf #[Value.int d14 t14, Value.int 0 k14, Value.int 7 (k14 + 1)] 0) hO11 hne15
    replace N15 := ld_put (mid := []) N15
    refine ⟨X.keeps F15.keep, ?_⟩
    refine pick_L (o := oI) (vs := [Value.int d14 t14, Value.int 0 k14, Value.int 7 (k14 + 1)]) G S hO15 hPL hqL hPq F15 N15 hpen14 (.head _) (by simp) (by simp) (by omega) (by omega) ?_
    intro h16 k16 v16 oP16 oq16 hv16 hpen16 F16 N16
    show wpAny _ _ _ _ _ { s with heap := h16, toks := k16 }
    obtain ⟨va, ta, rfl, hva0, hva1⟩ : ∃ va ta, v16 = Value.int va ta ∧ 0 ≤ va ∧ va ≤ 600 := by
      simp only [List.mem_cons, List.not_mem_nil, or_false] at hv16
      rcases hv16 with rfl | rfl | rfl
      · exact ⟨_, _, rfl, by omega, by omega⟩
      · exact ⟨_, _, rfl, by decide, by decide⟩
      · exact ⟨_, _, rfl, by decide, by decide⟩
    clear hv16 F15 N15
    replace N16 : News hc L h16 (ld L P q oP16 oq16 c1' c2 c3 c4 c5 c6 c7 c8 c9 ((I, oI) :: (R, W.listOf (List.toArray rvs) n) :: fam)) := news_sub N16 (ld_mono fun _ h => .tail _ h)
    tb_start
    refine ⟨X.keeps F16.keep, ?_⟩
    refine draw_L G S hO11 hPL hqL hPq F16 N16 hpen16 (by decide) (by decide) (by omega) (by omega) ?_
    intro h17 k17 d17 t17 oP17 oq17 _ _ hpen17 F17 N17
    show wpAny _ _ _ _ _ { s with heap := h17, toks := k17 }
    clear F16 N16
    tb_start
    refine tup_raw (by simp) fun hn18 ho18 => ?_
    have N18 := N17.push F17 { cls := .type "tuple", data := .seq [Value.int d13 t13, Value.int clu tc, Value.int va ta, Value.int 0 k16, Value.int d17 t17, Value.int 0 k17, Value.bool false].toArray }
    have F18 := F17.push { cls := .type "tuple", data := .seq [Value.int d13 t13, Value.int clu tc, Value.int va ta, Value.int 0 k16, Value.int d17 t17, Value.int 0 k17, Value.bool false].toArray }
    have hneT : ∀ p ∈ ld L P q oP17 oq17 c1' c2 c3 c4 c5 c6 c7 c8 c9 ((I, oI) :: (R, W.listOf (List.toArray rvs) n) :: fam), @Ne Nat p.1 h17.objs.size := fun p hp => Nat.ne_of_lt (Heap.lt_size (N17 p hp).1)
    have hOT := off_put (D := h17.objs.size) (o := { cls := .type "tuple", data := .seq [Value.int d13 t13, Value.int clu tc, Value.int va ta, Value.int 0 k16, Value.int d17 t17, Value.int 0 k17, Value.bool false].toArray }) hO11 hneT
    have hneR' : ∀ p ∈ ld L P q oP17 oq17 c1' c2 c3 c4 c5 c6 c7 c8 c9 ((I, oI) :: fam), @Ne Nat p.1 R := by
      intro p hp
      rcases List.mem_append.mp (ld_in (new := (I, oI) :: fam) (St := []) p (by simpa using hp)) with hp | hp
      · rcases List.mem_cons.mp hp with rfl | hp
        · exact Ne.symm (hIne (R, W.listOf (List.toArray rvs) n) (ld_St _ (.head _)))
        · exact hfR p hp
      · refine ne_map ?_ hneR p hp
        rfl
    generalize hTe : h17.objs.size = T18 at *
    generalize hte : ({ cls := .type "tuple", data := .seq [Value.int d13 t13, Value.int clu tc, Value.int va ta, Value.int 0 k16, Value.int d17 t17, Value.int 0 k17, Value.bool false].toArray } : Obj) = otup at *
    have N19 : News hc L (h17.push otup) ([(T18, otup)] ++ (R, W.listOf (List.toArray rvs) n) :: ld L P q oP17 oq17 c1' c2 c3 c4 c5 c6 c7 c8 c9 ((I, oI) :: fam)) := news_sub N18 fun p hp => by
      rcases List.mem_cons.mp hp with rfl | hp
      · exact .head _
      rcases List.mem_cons.mp hp with rfl | hp
      · exact .tail _ (ld_St _ (.tail _ (.head _)))
      · refine .tail _ (ld_mono (fun p hp => ?_) p hp)
        rcases List.mem_cons.mp hp with rfl | hp
        · exact .head _
        · exact .tail _ (.tail _ hp)
    tb_start
    refine append_N (pre := [(T18, otup)]) (post := ld L P q oP17 oq17 c1' c2 c3 c4 c5 c6 c7 c8 c9 ((I, oI) :: fam)) (L := L) (h₀ := hc) F18 N19 (fun p hp => by rw [List.mem_singleton.mp hp]; exact Ne.symm (hneT (R, W.listOf (List.toArray rvs) n) (ld_St _ (.tail _ (.head _))))) hneR' (by rw [sizeLine_eq, List.size_toArray, hPr.length]; omega) ?_
    intro h20 n20 F20 N20
    rw [List.push_toArray] at N20
    tb_start
    (rename Fr _ _ _ _ => F21)
    (rename News _ _ _ _ => N21)
    rename_i lq h21 lt21
    have hlt21 : ∀ p ∈ [(T18, otup)] ++ (R, W.listOf (List.toArray (rvs ++ [Value.ref T18])) n20) :: ld L P q oP17 oq17 c1' c2 c3 c4 c5 c6 c7 c8 c9 ((I, oI) :: fam), @Ne Nat p.1 lq := lt_ne lt21
    have hO21 : Off L P q ((I, oI) :: (R, W.listOf (List.toArray (rvs ++ [Value.ref T18])) n20) :: (T18, otup) :: fam) := by
      intro p hp
      rcases List.mem_cons.mp hp with rfl | hp
      · exact hOT _ (.tail _ (.head _))
      rcases List.mem_cons.mp hp with rfl | hp
      · exact hOT (R, W.listOf (List.toArray rvs) n) (.tail _ (.tail _ (.head _)))
      rcases List.mem_cons.mp hp with rfl | hp
      · exact hOT _ (.head _)
      · exact hOT p (.tail _ (.tail _ (.tail _ hp)))
    generalize hl4 : W.listOf #[Value.int 1 _, Value.int 0 _, Value.int 2 _, Value.int 3 _] 0 = ol4 at N21
    obtain ⟨u1, u2, u3, u4, rfl⟩ : ∃ u1 u2 u3 u4, ol4 = W.listOf [Value.int 1 u1, Value.int 0 u2, Value.int 2 u3, Value.int 3 u4].toArray 0 := ⟨_, _, _, _, hl4.symm⟩
    clear hl4
    have hne22 : ∀ p ∈ ld L P q oP17 oq17 c1' c2 c3 c4 c5 c6 c7 c8 c9 ((I, oI) :: fam), @Ne Nat p.1 lq := fun p hp => hlt21 p (.tail _ (.tail _ hp))
    have hO22 := off_put (D := lq) (o := W.listOf [Value.int 1 u1, Value.int 0 u2, Value.int 2 u3, Value.int 3 u4].toArray 0) hO21 hne22
    have N22 : News hc L h21 (ld L P q oP17 oq17 c1' c2 c3 c4 c5 c6 c7 c8 c9 ((lq, W.listOf [Value.int 1 u1, Value.int 0 u2, Value.int 2 u3, Value.int 3 u4].toArray 0) :: (I, oI) :: (R, W.listOf (List.toArray (rvs ++ [Value.ref T18])) n20) :: (T18, otup) :: fam)) := news_sub N21 fun p hp => by
      have := ld_in (new := [(lq, W.listOf [Value.int 1 u1, Value.int 0 u2, Value.int 2 u3, Value.int 3 u4].toArray 0), (I, oI), (R, W.listOf (List.toArray (rvs ++ [Value.ref T18])) n20), (T18, otup)]) p hp
      rcases List.mem_cons.mp this with rfl | hp
      · exact .head _
      rcases List.mem_cons.mp hp with rfl | hp
      · exact .tail _ (.tail _ (.tail _ (ld_St _ (.head _))))
      rcases List.mem_cons.mp hp with rfl | hp
      · exact .tail _ (.tail _ (.head _))
      rcases List.mem_cons.mp hp with rfl | hp
      · exact .tail _ (.head _)
      · exact .tail _ (.tail _ (.tail _ (ld_mono (fun _ h => .tail _ h) p hp)))
    refine ⟨X.keeps F21.keep, ?_⟩
    refine pick_L (o := oI) (vs := [Value.int 1 u1, Value.int 0 u2, Value.int 2 u3, Value.int 3 u4]) G S hO22 hPL hqL hPq F21 N22 hpen17 (.head _) (by simp) (by simp) (by omega) (by omega) ?_
    intro h23 k23 v23 oP23 oq23 hv23 hpen23 F23 N23
    show wpAny _ _ _ _ _ { s with heap := h23, toks := k23 }
    obtain ⟨vk, tk, rfl, hvk0, hvk1⟩ : ∃ va ta, v23 = Value.int va ta ∧ 0 ≤ va ∧ va ≤ 3 := by
      simp only [List.mem_cons, List.not_mem_nil, or_false] at hv23
      rcases hv23 with rfl | rfl | rfl | rfl
      · exact ⟨_, _, rfl, by decide, by decide⟩
      · exact ⟨_, _, rfl, by decide, by decide⟩
      · exact ⟨_, _, rfl, by decide, by decide⟩
      · exact ⟨_, _, rfl, by decide, by decide⟩
    clear hv23 F21 N21 N22
    tb_start
    refine store_loc F23 rfl rfl ?_
    intro h24 F24 hk24
    have N24 := news_but N23 hk24
    clear F23 N23
    tb_start
    subst hZ1
    refine TurnEnd.intro F24 (nx' := ld L P q oP23 oq23 c1' c2 c3 c4 c5 c6 c7 c8 c9 ((R, W.listOf (List.toArray (rvs ++ [Value.ref T18])) n20) :: (T18, otup) :: fam)) (news_sub N24 fun p hp => ld_mono (fun _ h => .tail _ h) p (ld_out (new := [(I, oI)]) p hp)) ?hI ⟨oP23, oq23, n20, rvs ++ [Value.ref T18], rs ++ [⟨d13, clu, va, d17⟩], (T18, otup) :: fam, clu + vk, _, rfl, hpen23, fun p hp => hO21 p (.tail _ hp), ?hfR, ?hPr, by simp [hlen], ?hba, ?hbc, ?hup, by omega, by omega, by tb_rel, by tb_rel, by tb_rel⟩
    case hI =>
      intro p hp
      rcases List.mem_cons.mp (show p ∈ (R, W.listOf (List.toArray (rvs ++ [Value.ref T18])) n20) :: ((T18, otup) :: ld L P q oP23 oq23 c1' c2 c3 c4 c5 c6 c7 c8 c9 fam) from ld_in (new := [(R, W.listOf (List.toArray (rvs ++ [Value.ref T18])) n20), (T18, otup)]) p hp) with rfl | hp
      · exact hIne (R, W.listOf (List.toArray rvs) n) (ld_St _ (.head _))
      rcases List.mem_cons.mp hp with rfl | hp
      · exact Ne.symm (hneT (I, oI) (ld_St _ (.head _)))
      · refine ne_map ?_ (fun p hp => hIne p (ld_mono (fun _ h => .tail _ h) p hp)) p hp
        rfl
    case hfR =>
      intro p hp
      rcases List.mem_cons.mp hp with rfl | hp
      · exact Ne.symm (hneT (R, W.listOf (List.toArray rvs) n) (ld_St _ (.tail _ (.head _))))
      · exact hfR p hp
    case hPr => exact paired_snoc (Paired.imp' (fun _ _ y => y.mono fun _ h => .tail _ h) hPr) ⟨T18, t13, tc, ta, _, t17, _, rfl, by rw [← hte]; exact .head _⟩
    case hba =>
      intro r hr
      rcases List.mem_append.mp hr with q | q
      · exact hba r q
      · rw [List.mem_singleton.mp q]; exact ⟨hva0, hva1⟩
    case hbc =>
      intro r hr
      rcases List.mem_append.mp hr with q | q
      · have := hbc r q; omega
      · rw [List.mem_singleton.mp q]; show 0 ≤ clu ∧ clu ≤ clu + vk; omega
    case hup => exact up_snoc (k := 0) hup fun y hy => (hbc y hy).2
  case done =>
    rintro m₁ nx h11 tk11 ⟨oP, oq, n, rvs, rs, fam, clu, tc, rfl, hpn, hO, hfR, hPr, hlen, hba, hbc, hup, hcl0, hcl1, hq1, hq2, hq3⟩ F11 N11
    have hne : rs ≠ [] := by
      intro q
      rw [q] at hlen
      simp only [List.length_nil] at hlen
      omega
    obtain ⟨r0, rl, hrs⟩ : ∃ r0 rl, rs = r0 ++ [rl] := ⟨_, _, (List.dropLast_concat_getLast hne).symm⟩
    subst hrs
    obtain ⟨rv0, v, rfl, hv, _⟩ := paired_last hPr
    have hvr : ∀ h, Has h fam → RowAt h v rl := fun h H => by
      obtain ⟨t, t1, t2, t3, t4, t5, t6, e, i⟩ := hv
      exact ⟨t, t1, t2, t3, t4, t5, t6, e, _, H _ i, rfl, _, rfl⟩
    have hrl := hbc rl (by simp)
    tb_start
    show wpAny _ _ (execs _ _) _ _ _
    refine wpAny_execs_cons ?_
    tb_start
    refine sub_neg1 (vs := rv0) (v := v) (list_of_obj (N11 (R, W.listOf (List.toArray (rv0 ++ [v])) n) (ld_St _ (.head _))).1) ?_
    tb_start
    refine row_sub1 (hvr _ (Has.of N11 fun p hp => ld_St _ (.tail _ hp))) fun t12 => ?_
    tb_start
    refine ⟨X.keeps F11.keep, ?_⟩
    refine draw_L G S hO hPL hqL hPq F11 N11 hpn (by decide) (by decide) (by omega) (by omega) ?_
    intro h13 k13 d13 t13 oP13 oq13 hd130 hd131 hpen13 F13 N13
    show wpAny _ _ _ _ _ { s with heap := h13, toks := k13 }
    tb_start
    refine store_loc F13 rfl rfl ?_
    intro h14 F14 hk14
    have N14 := news_but N13 hk14
    tb_start
    have hmax := last_max hup
    exact h h14 _ _ P q oP13 oq13 c1' _ R n (rv0 ++ [v]) (r0 ++ [rl]) fam (rl.c + 1 + d13) _ F14 N14 hO hPL hqL hPq hpen13 hd1' hPr (by omega) (by omega) hba (fun r hr => ⟨(hbc r hr).1, by have := hmax r hr; omega⟩) (by omega) hup (by tb_rel) (by tb_rel) (by tb_rel)
end
end
end
end Mine
end
section
open PySem PySem.W PySem.Spec PySem.Calls PyProof.Rows
set_option maxRecDepth 100000
set_option maxHeartbeats 8000000
namespace Mine
theorem paired_rev {α β : Type} {F : α → β → Prop} : ∀ {l : List α} {m : List β}, Paired F l m → Paired F l.reverse m.reverse
  | _, _, .nil => .nil
  | _, _, .cons h r => by
    rw [List.reverse_cons, List.reverse_cons]
    exact paired_snoc (paired_rev r) h
section
variable {w : World} {mg mb : Str → Option Value} {dp un : Nat} {gd : Option (List Code)} {s : Shared} {E : Value → Shared → Prop} {hc : Heap} {L : Addr} {c1 c2 c3 c4 c5 c6 c7 c8 c9 : Obj} {m : Str → Option Value} {frl : List Env} {Qf : Flow → Shared → Prop}
theorem law_walk {ls : Addr} {vs : List Value} {ns : List Int} (G : Gd w mg mb hc) (S : hc.NoSeer) (F : Fr hc L s.heap m) (N : News hc L s.heap [(L + 1, c1), (L + 2, c2), (L + 3, c3), (L + 4, c4), (L + 5, c5), (L + 6, c6), (L + 7, c7), (L + 8, c8), (L + 9, c9)])
    (hd1 : c1.data = .cell none) (hd2 : c2.data = .cell none) (hd3 : c3.data = .cell none) (hd4 : c4.data = .cell none) (hd5 : c5.data = .cell none) (hd6 : c6.data = .cell none) (hd7 : c7.data = .cell none) (hd8 : c8.data = .cell none) (hd9 : c9.data = .cell none)
    (hl : hc.IsList ls vs.toArray) (hi : IntsAre vs ns) (h63 : vs.length ≤ 63)
    (hm1 : m (Str.ofString "script") = some (.ref ls)) (hd : dp + 500 < recursionLimit) (hu : un < 3000)
    (h : ∀ h' tk dr m', Fr hc L h' m' → Qf (.ret (.bool true)) { s with heap := h', toks := tk, drawn := dr }) :
    wpAny (model PR w) (AA dp un (some frl) gd) (execs (lawDef.1.drop 0) (lawEnv L)) Qf E s := by
  refine st0 G S F N hd1 hl hi h63 hm1 hd hu ?_
  intro h1 tk1 m1 P q oP oq c1' b R n rvs rs fam len tl F1 N1 O1 hPL hqL hPq hpen hd1' hPr hn8 hn1 hba hbc hbl hup hq1 hq2 hq3
  have hrl := hPr.length
  have hrw : ∀ h, Has h ((R, W.listOf (List.toArray rvs) n) :: fam) → h.IsList R rvs.toArray := fun h H => list_of_obj (H _ (.head _))
  have hrr : ∀ h, Has h ((R, W.listOf (List.toArray rvs) n) :: fam) → RowsAt h rvs rs := fun h H => rows_has hPr (H.sub fun _ hp => .tail _ hp)
  refine st4 G F1 N1 O1 hPL hqL hPq hpen hd1' hd2 hrw hrr (by omega) hq1 hq2 hq3 hd hu ?_
  intro x l lvs h2 tk2 c2' St2 F2 N2 O2 hd2' hsub hshp hlv
  have C2 : LC w mg mb hc L P q R x l b rvs lvs rs len St2 := by
    refine ⟨G, S, hPL, hqL, hPq, O2, fun h H => (hshp h H).1, fun h H => (hshp h H).2, fun h H => hrw h (H.sub hsub), fun h H => hrr h (H.sub hsub), fun h H => ?_, hn8, hn1, hba, hbc, hbl, hup⟩
    rw [hlv]
    cases b
    · exact hrr h (H.sub hsub)
    · exact paired_rev (hrr h (H.sub hsub))
  refine st5 C2 F2 N2 hd1' hd2' hq1 hd hu ?_
  intro h3 tk3 St3 F3 N3 C3 _
  refine st6 C3 F3 N3 hd2' hd4 hq1 hd hu ?_
  intro h4 tk4 D ys4 n4 c4' St4 F4 N4 C4 _ hd4' hD4 hst4
  refine st7 C4 F4 N4 hpen hd2' hd4' hd5 hD4 hst4 hq1 hq3 hq2 hd hu ?_
  intro h5 tk5 m5 oP5 oq5 c5' St5 F5 N5 C5 _ hq1 hq3
  refine st8 C5 F5 N5 hd6 hq1 hq3 hd hu ?_
  intro h6 tk6 dr6 c6' St6 Lf ys6 st F6 N6 C6 _ hd6' hLf hi6 hF6
  refine st9 C6 F6 N6 hd2' hd6' hLf hi6 hF6 hq1 hq3 hd hu ?_
  intro h7 tk7 dr7 m7 F7 N7 hq1 hq3
  refine st11 C6 F7 N7 hd3 hd6' hd7 hd8 hd9 hLf hi6 hF6 hq1 hq3 hd hu ?_
  intro h8 tk8 m8 c3' c7' c8' c9' Pl pys n7 t7 F8 N8 O8 hd3' hd7' hip hq1 hq3 hq4
  obtain ⟨v3, hd3'⟩ := hd3'
  refine st13 C6 F8 N8 hd1' hd2' hd7' hip hF6 hq1 hq3 hq4 hd hu ?_
  intro h9 tk9 dr9 m9 F9 N9 hq1
  refine st15 C6 F9 N9 hd2' hd3' hd hu ?_
  intro h10 tk10 m10 F10
  exact h h10 tk10 _ m10 F10
end
end Mine
end
section
open PySem PySem.W PySem.Spec PySem.Calls PyProof.Rows
set_option maxRecDepth 100000
set_option maxHeartbeats 8000000
namespace Mine
theorem the_law : PySem.Challenge.rw_nu0147_01.Holds := by
  refine Mine.hd ?_
  k_fill
  intro w s₀ s₁ mg mb G Y fa o pm cd doc dV kV ho hd hcd hD hmg hg args vals as hpre hlay hrd hwl hlo
  have KX := kIn_of Y
  have X := (Ground.X G).1
  refine Ground.open G ?_
  intro T B D TE TW
  try (refine guard_noD D (by decide +kernel) ?_; clear D)
  have hfa : mg (Str.ofString "law") = some (.ref 95) := mg_of KX T.g (by k_is)
  have hfa' : fa = 95 := by
    have q := hmg.symm.trans hfa
    injection q with q
    injection q
  subst hfa'
  have hS : s₁.heap.NoSeer := T.seer (by decide +kernel)
  have GG : Gd w mg mb s₁.heap := ⟨KX, topRead_of T⟩
  clear hmg hfa
  wrow_args hpre hlay hrd hwl hlo
  clear hd ho hcd hD X B TE TW Y G
  rename_i hL _ _ _ hI _ hcond _
  show wpAny (model PR w) (AA (1 + claimMargin) 4 (some []) (some [])) (call (.ref 95) [.ref _]) _ _ _
  have hlen := hI.length
  refine' call_fnC (f := 95) (binds := [(Str.ofString "script", .ref _)]) GG ?ho ?hcd ?hroom ?hbind ?hloc ?hnd ?hbody ?hco ?hgen ?hk
  case ho => k_is
  case hcd => k_is
  case hroom => decide +kernel
  case hbind => rfl
  case hloc => rfl
  case hnd => decide
  case hco => rfl
  case hgen => rfl
  case hk => rfl
  intro h₁ tk cells E' F K N X0
  obtain ⟨o1, o2, o3, o4, o5, o6, o7, o8, o9, rfl, q1, q2, q3, q4, q5, q6, q7, q8, q9⟩ := kc_nine X0
  have N2 : News s₁.heap s₁.heap.objs.size h₁ [(s₁.heap.objs.size + 1, o9), (s₁.heap.objs.size + 2, o8), (s₁.heap.objs.size + 3, o7), (s₁.heap.objs.size + 4, o6), (s₁.heap.objs.size + 5, o5), (s₁.heap.objs.size + 6, o4), (s₁.heap.objs.size + 7, o3), (s₁.heap.objs.size + 8, o2), (s₁.heap.objs.size + 9, o1)] := news_sub N fun p hp => List.mem_reverse.mp hp
  refine law_walk (L := s₁.heap.objs.size) (ls := _) GG hS F N2 q9 q8 q7 q6 q5 q4 q3 q2 q1 hL hI (by omega) rfl ?_ ?_ ?_
  · show 1 + claimMargin + 1 + 500 < recursionLimit
    decide +kernel
  · show 4 + 3 < 3000
    decide
  · intro h' tk' dr m' F'
    show GoodWG _ _ _ _ _ _ _
    show GoodWG _ _ _ _ _ (Except.ok (Flow.ret (Value.bool true))) { s₁ with heap := h', toks := tk', drawn := dr }
    refine (goodW_bool (s' := { s₁ with heap := h', toks := tk', drawn := dr }) (L := s₁.heap.objs.size) (m := m') F' hg ?_ ?_).toG
    · intro cls; rfl
    · with_unfolding_all rfl
end Mine
end
theorem PySem.Challenge.cw_nu0147_01_holds : PySem.Challenge.rw_nu0147_01.Holds :=
  Mine.the_law
