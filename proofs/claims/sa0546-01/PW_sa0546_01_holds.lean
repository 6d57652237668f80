import PyProof.Rows.All
import Wide.All
import OpenK.AllK
import Wide.FinOn
import PySem.Challenge.RW_sa0546_01
set_option compiler.extract_closed false
open PySem PySem.W PyProof.Rows PySem.Calls
set_option Elab.async false
set_option maxRecDepth 100000
namespace Mine
set_option maxHeartbeats 8000000 in
open_top hd for PySem.Challenge.rw_sa0546_01
/-- the program's written part, and what names mean, over a ground heap -/
structure Gd (w : World) (G : Heap) : Prop where
  X : (hd.heap_39 w.params).In G
  T : ∃ (p : Program) (loose : List Str) (mg mb : Str → Option Value), TopRead p loose mg mb G

theorem Gd.keeps {w : World} {G h : Heap} (g : Gd w G) (k : G.StaysIn h) : Gd w h :=
  ⟨g.X.keeps k, let ⟨p, l, a, b, T⟩ := g.T; ⟨p, l, a, b, T.keeps k⟩⟩

/-- all but the named addresses stay -/
def Ext (S : List Addr) (h h' : Heap) : Prop := ∀ b o, b ∉ S → h.get? b = some o → h'.get? b = some o
theorem Ext.refl (S : List Addr) (h : Heap) : Ext S h h := fun _ _ _ e => e
theorem Ext.trans {S : List Addr} {h h' h'' : Heap} (a : Ext S h h') (b : Ext S h' h'') : Ext S h h'' := fun x o n e => b x o n (a x o n e)
theorem Ext.mono {S S' : List Addr} {h h' : Heap} (a : Ext S h h') (k : ∀ b ∈ S, b ∈ S') : Ext S' h h' := fun x o n e => a x o (fun q => n (k x q)) e
theorem Ext.stays {S : List Addr} {g h h' : Heap} (a : Ext S h h') (k : g.StaysIn h) (n : ∀ b ∈ S, g.get? b = none) : g.StaysIn h' :=
  fun b o e => a b o (fun q => by rw [n b q] at e; cases e) (k b o e)
theorem Ext.ns {S : List Addr} {h h' : Heap} {L : Addr} {m : Str → Option Value} (a : Ext S h h') (n : h.Ns L m) (q : L ∉ S) : h'.Ns L m :=
  let ⟨o, es, ep, ho, r⟩ := n; ⟨o, es, ep, a L o q ho, r⟩
theorem Ext.fr {S : List Addr} {g h h' : Heap} {L : Addr} {m : Str → Option Value} (a : Ext S h h') (F : Fr g L h m) (n : ∀ b ∈ S, g.get? b = none) (q : L ∉ S) : Fr g L h' m :=
  ⟨a.ns F.ns q, a.stays F.keep n, F.above⟩
theorem Ext.news {S : List Addr} {g h h' : Heap} {L : Addr} {news : List (Addr × Obj)} (a : Ext S h h') (N : News g L h news) (n : ∀ p ∈ news, p.1 ∉ S) : News g L h' news :=
  fun p hp => ⟨a _ _ (n p hp) (N p hp).1, (N p hp).2⟩

/-- a call's end: a value, a heap that kept all but S, a word on both -/
def Ret (s : Shared) (S : List Addr) (P : Value → Heap → Prop) (r : Result) (s' : Shared) : Prop :=
  ∃ v h' tk', r = .ok (.ret v) ∧ s' = { s with heap := h', toks := tk' } ∧ Ext S s.heap h' ∧ P v h'

section
variable {prog : Program} {w : World} {A : Around} {E : Value → Shared → Prop} {s : Shared} {G g : Heap} {L : Addr} {m : Str → Option Value} {env : Env} {x : Str} {pos : Pos} {v : Value}

theorem call_of {f : Value} {args : List Value} {S : List Addr} {P : Value → Heap → Prop} {Q : Value → Shared → Prop} {hh : Heap} {gs : Array GenState} {dr : Drawn} {tk : Nat} {os : OsState}
    (h : codeAny (model prog w) A (.call f ⟨args, []⟩) (Ret ⟨hh, gs, dr, tk, os⟩ S P) ⟨hh, gs, dr, tk, os⟩)
    (k : ∀ v h' tk', Ext S hh h' → P v h' → Q v ⟨h', gs, dr, tk', os⟩) : wpAny (model prog w) A (call f args) Q E ⟨hh, gs, dr, tk, os⟩ :=
  wpAny_call (codeAny_mono h fun r s' hr => by obtain ⟨v, h', tk', rfl, rfl, e, p⟩ := hr; exact k v h' tk' e p)

theorem nm_glob {Q : Value → Shared → Prop} (gd : Gd w G) (st : G.StaysIn s.heap) (e : nsIn (hd.heap_39 w.params) mainGlobals x = some (some v)) (h : Q v s)
    (hg : env.globals = mainGlobals) (hk : env.scope.kind = .function) (hx : env.kindOf x = some .globalImplicit) (hd : (x == ("__debug__" : Str)) = false) :
    wpAny (model prog w) A (eval (.Name x pos) env) Q E s := by
  obtain ⟨p, l, a, b, T⟩ := gd.T
  exact Name_function_global hk hx (loadGlobal_global (env := env) (by rw [hg]; exact T.g.keeps st) (mg_of gd.X T.g e) h) hd
theorem nm_built {Q : Value → Shared → Prop} (gd : Gd w G) (st : G.StaysIn s.heap) (e : nsIn (hd.heap_39 w.params) mainGlobals x = some none) (hv : bootBuiltins x = some v) (hn : x ≠ "__name__") (h : Q v s)
    (hg : env.globals = mainGlobals) (hb : env.builtins = builtinsNs) (hk : env.scope.kind = .function) (hx : env.kindOf x = some .globalImplicit) (hd : (x == ("__debug__" : Str)) = false) :
    wpAny (model prog w) A (eval (.Name x pos) env) Q E s := by
  obtain ⟨p, l, a, b, T⟩ := gd.T
  exact Name_function_global hk hx (loadGlobal_builtin (env := env) (by rw [hg]; exact T.g.keeps st) (mg_none_of gd.X T.g e) (by rw [hb]; exact T.b.keeps st) ((T.builtins x hn).trans hv) h) hd
theorem nm_loc {Q : Value → Shared → Prop} (F : s.heap.Ns env.locals m) (hv : m x = some v) (h : Q v s)
    (hk : env.scope.kind = .function) (hx : env.kindOf x = some .local) (hd : (x == ("__debug__" : Str)) = false) :
    wpAny (model prog w) A (eval (.Name x pos) env) Q E s := wpAny_Name (wpAny_loadName_local hk hx F hv h) hd
theorem nm_cell {Q : Value → Shared → Prop} {c : Addr} (hv : s.heap.IsCell c (some v)) (h : Q v s) (hc : env.cells.lookup x = some c)
    (hk : env.scope.kind = .function) (hx : env.kindOf x = some .cell) (hd : (x == ("__debug__" : Str)) = false) :
    wpAny (model prog w) A (eval (.Name x pos) env) Q E s := wpAny_Name (wpAny_loadName_cell hk hx hc hv h) hd

theorem callWith_G {p : Pos} {f : Value} {first : List Value} {e : Expr} {rest : List Expr} {Q : Value → Shared → Prop} (gd : Gd w G) (_st : G.StaysIn s.heap) (hk : keepIn (hd.heap_39 w.params) f = true)
    (h : wpAny (model prog w) A (spliced (backTo p (starEach (e :: rest) env))) (fun vs s₁ => G.StaysIn s₁.heap ∧ wpAny (model prog w) A (call f (first ++ vs)) Q E s₁) E s)
    (he : starEach (e :: rest) env = (false, eval e env) :: starEach rest env) (hplain : (backTo p (starEach rest env)).any (·.1) = false) :
    wpAny (model prog w) A (callWith p f first (backTo p (starEach (e :: rest) env)) []) Q E s :=
  callWith_K gd.X hk (wpAny_mono h (fun _ _ q => ⟨gd.X.keeps q.1, q.2⟩) fun _ _ q => q) he hplain

theorem sub_listN {value slice : Expr} {news : List (Addr × Obj)} {l : Addr} {its : List Value} {n : Nat} {k : Int} {u : Tok} {Q : Value → Shared → Prop} (N : News g L s.heap news) (hm : (l, listOf its.toArray n) ∈ news)
    (h0 : 0 ≤ k) (hhi : k < 2 ^ 63) (hx : its[k.toNat]? = some v) (h : Q v s)
    (hs : subscripted slice false (.ref l) (.int k u) = operate [.ref l, .int k u] (getItem (.ref l) (.int k u))) :
    wpAny (model prog w) A (subscriptTail value slice (.ref l) (.int k u)) Q E s :=
  item_listR ⟨_, (N _ hm).1, rfl, n, rfl⟩ h0 hhi (by simpa using hx) h hs

theorem newTuple_F {news : List (Addr × Obj)} {vs : List Value} {Q : Value → Shared → Prop} (F : Fr g L s.heap m) (N : News g L s.heap news)
    (h : ∀ h' a, Fr g L h' m → News g L h' ((a, ({ cls := .type "tuple", data := .seq vs.toArray } : Obj)) :: news) → L < a → Q (.ref a) { s with heap := h' }) (hsz : vs.length ≤ sizeLine) :
    wpAny (model prog w) A (newTuple vs) Q E s := newTuple_N F N (fun h' F' N' => h h' _ F' N' F.ns.lt) hsz
theorem newList_F {news : List (Addr × Obj)} {vs : List Value} {Q : Value → Shared → Prop} (F : Fr g L s.heap m) (N : News g L s.heap news)
    (h : ∀ h' a, Fr g L h' m → News g L h' ((a, listOf vs.toArray 0) :: news) → L < a → Q (.ref a) { s with heap := h' }) (hsz : vs.length ≤ sizeLine) :
    wpAny (model prog w) A (newList vs) Q E s := newList_N F N (fun h' F' N' => h h' _ F' N' F.ns.lt) hsz

/-- a statement's end told by a word, and the rest for whatever bears it -/
theorem cut_stmt {st : Stmt} {rest : List Stmt} {Q : Flow → Shared → Prop} (P : Shared → Prop) (h : wpAny (model prog w) A (exec st env) (fun f s' => f = .next ∧ P s') E s)
    (k : ∀ s', P s' → wpAny (model prog w) A (execs rest env) Q E s') : wpAny (model prog w) A (execs (st :: rest) env) Q E s :=
  wpAny_execs_cons (wpAny_mono h (fun f s' q => by obtain ⟨rfl, p⟩ := q; exact k s' p) fun _ _ x => x)

/-- into a def without cells -/
theorem enter {R : Result → Shared → Prop} {name qual : Str} {params : Arguments} {body : List Stmt} {scope : Scope} {dV kV doc pm cdv ct oc : Value} {an od : Option Addr} {osl : Array (Option Value)} {f : Addr} {args : Args} {binds : List (Str × Value)}
    (gd : Gd w s.heap) (ho : (hd.heap_39 w.params).lookup f = some ⟨oc, od, .func (fnX name qual params body scope [] dV kV doc pm an cdv ct), osl⟩) (hcd : codeIn (hd.heap_39 w.params) cdv qual = true) (hroom : A.depth < recursionLimit)
    (hbind : BindsTo s (fnX name qual params body scope [] dV kV doc pm an cdv ct) args binds) (hloc : ∀ y ∈ binds, scope.names.lookup y.1 = some .local)
    (h : ∀ h₁ tk, Fr s.heap s.heap.objs.size h₁ (fun y => binds.reverse.lookup y) →
      wpAny (model prog w) (A.deeper (envX qual scope s.heap.objs.size f cdv [])) (execs body (envX qual scope s.heap.objs.size f cdv []))
        (fun fl s' => R (.ok (.ret (match fl with | .ret v => v | _ => .none))) s') (fun _ _ => False) { s with heap := h₁, toks := tk })
    (hco : scope.isCoroutine = false) (hgen : scope.isGenerator = false) (hk : scope.kind = .function)
    (hcell : ∀ x ∈ scope.names, x.2 ≠ .cell) : codeAny (model prog w) A (.call (.ref f) args) R s := by
  obtain ⟨p, l, a, b, T⟩ := gd.T
  refine codeAny_call_def (fd := fnX name qual params body scope [] dV kV doc pm an cdv ct) (body := body) (binds := binds) hroom (gd.X _ _ ho) rfl T.nolimit (codeRec_of gd.X hcd) rfl hbind hcell hloc (fun h₁ hns hk₁ => ?_) hco hgen hk
  exact wpAny_mono (h h₁ _ ⟨hns, hk₁, Nat.le_refl _⟩) (fun _ _ y => y) fun _ _ y => y.elim

/-- into a def with cells -/
theorem enterC {R : Result → Shared → Prop} {name qual : Str} {params : Arguments} {body : List Stmt} {scope : Scope} {dV kV doc pm cdv ct oc : Value} {an od : Option Addr} {osl : Array (Option Value)} {f : Addr} {args : Args} {binds : List (Str × Value)}
    (gd : Gd w s.heap) (ho : (hd.heap_39 w.params).lookup f = some ⟨oc, od, .func (fnX name qual params body scope [] dV kV doc pm an cdv ct), osl⟩) (hcd : codeIn (hd.heap_39 w.params) cdv qual = true) (hroom : A.depth < recursionLimit)
    (hbind : BindsTo s (fnX name qual params body scope [] dV kV doc pm an cdv ct) args binds)
    (hkind : (binds.all fun y => scope.names.lookup y.1 == some .local || scope.names.lookup y.1 == some .cell) = true) (hnd : ((cellsFrom 0 scope.names []).map (·.1)).Nodup)
    (h : ∀ h₁ tk cells, Fr s.heap s.heap.objs.size h₁ (bindL (envOfC qual scope s.heap.objs.size f cdv).kindOf binds fun _ => none) → News s.heap s.heap.objs.size h₁ cells →
      CellsAre (bindC (envOfC qual scope s.heap.objs.size f cdv).kindOf binds fun _ => none) (cellsFrom (s.heap.objs.size + 1) scope.names []) cells → 
      wpAny (model prog w) (A.deeper (envOfC qual scope s.heap.objs.size f cdv)) (execs body (envOfC qual scope s.heap.objs.size f cdv))
        (fun fl s' => R (.ok (.ret (match fl with | .ret v => v | _ => .none))) s') (fun _ _ => False) { s with heap := h₁, toks := tk })
    (hco : scope.isCoroutine = false) (hgen : scope.isGenerator = false) (hk : scope.kind = .function) : codeAny (model prog w) A (.call (.ref f) args) R s := by
  obtain ⟨p, l, a, b, T⟩ := gd.T
  refine codeAny_call_function hroom (gd.X _ _ ho) rfl hco hgen rfl (codeRec_of gd.X hcd) (hbind _ _ _ _ ?_)
  refine wpAny_newFunctionEnv_cells hk (kindsX hkind _) fun env' he s' x => ?_
  subst he
  refine ⟨T.nolimit.keeps x.toInCall.keep, codeAny_func ?_⟩
  obtain ⟨h₁, tk, rfl, _⟩ := x.done
  have hk₁ := x.toInCall.keep
  obtain ⟨cells, NC, Y⟩ := Cl.news (h₀ := s.heap) (Nat.le_refl _) fun n c hm => ⟨x.cell n c (lookup_of_mem_nodup (cellsFrom_names scope.names 0 (s.heap.objs.size + 1) [] [] rfl ▸ hnd) hm), x.above n c hm⟩
  exact wpAny_mono (h h₁ tk cells ⟨x.toInCall.ns, hk₁, Nat.le_refl _⟩ NC Y) (fun fl s' hl => hl) fun _ _ y => y.elim
end

/-! rules over a state that is written out: what they leave is written out too -/
section
variable {M : Model} {prog : Program} {w : World} {A : Around} {E : Value → Shared → Prop} {h : Heap} {gs : Array GenState} {dr : Drawn} {k : Nat} {os : OsState} {env : Env} {pos : Pos} {kd : Nat} {Q : Value → Shared → Prop} {a b : Int} {t u : Tok}
theorem f_int {i : Int} (q : Q (.int i k) ⟨h, gs, dr, k + 1, os⟩) : wpAny M A (eval (.Constant (.int i) kd pos) env) Q E ⟨h, gs, dr, k, os⟩ := wpAny_Constant_int q
theorem f_str {x : Str} (q : Q (.str x k) ⟨h, gs, dr, k + 1, os⟩) : wpAny M A (eval (.Constant (.str x) kd pos) env) Q E ⟨h, gs, dr, k, os⟩ := Constant_str q
theorem f_bytes {x : List UInt8} (q : Q (.bytes x.toArray k) ⟨h, gs, dr, k + 1, os⟩) : wpAny M A (eval (.Constant (.bytes x) kd pos) env) Q E ⟨h, gs, dr, k, os⟩ := Constant_bytes q
theorem f_add (q : Q (.int (a + b) k) ⟨h, gs, dr, k + 1, os⟩) : wpAny (model prog w) A (binaryOp .Add (.int a t) (.int b u)) Q E ⟨h, gs, dr, k, os⟩ := add_int q
theorem f_sub (q : Q (.int (a - b) k) ⟨h, gs, dr, k + 1, os⟩) : wpAny (model prog w) A (binaryOp .Sub (.int a t) (.int b u)) Q E ⟨h, gs, dr, k, os⟩ := PyProof.Rows.sub_int q
theorem f_mul (q : Q (.int (a * b) k) ⟨h, gs, dr, k + 1, os⟩) (hm : IntMulOk a b) : wpAny (model prog w) A (binaryOp .Mult (.int a t) (.int b u)) Q E ⟨h, gs, dr, k, os⟩ := mul_int q hm
theorem f_mod (hb : b ≠ 0) (q : Q (.int (a.fmod b) k) ⟨h, gs, dr, k + 1, os⟩) : wpAny (model prog w) A (binaryOp .Mod (.int a t) (.int b u)) Q E ⟨h, gs, dr, k, os⟩ := mod_int' hb q
theorem f_fdiv (hb : b ≠ 0) (q : Q (.int (a.fdiv b) k) ⟨h, gs, dr, k + 1, os⟩) (hp : Builtin.divisionGoesByPylong a b = false) : wpAny (model prog w) A (binaryOp .FloorDiv (.int a t) (.int b u)) Q E ⟨h, gs, dr, k, os⟩ := floordiv_int hb q (Or.inl hp)
theorem f_neg (q : Q (.int (-a) k) ⟨h, gs, dr, k + 1, os⟩) : wpAny (model prog w) A (unaryOp .USub (.int a t)) Q E ⟨h, gs, dr, k, os⟩ := PyProof.Rows.neg_int q
end
section
variable {prog : Program} {w : World} {A : Around} {E : Value → Shared → Prop} {g h : Heap} {L : Addr} {m : Str → Option Value} {gs : Array GenState} {dr : Drawn} {k : Nat} {os : OsState} {news : List (Addr × Obj)} {vs : List Value}
theorem f_newTuple {Q : Value → Shared → Prop} (F : Fr g L h m) (N : News g L h news)
    (q : ∀ h' a, Fr g L h' m → News g L h' ((a, ({ cls := .type "tuple", data := .seq vs.toArray } : Obj)) :: news) → L < a → Q (.ref a) ⟨h', gs, dr, k, os⟩) (hsz : vs.length ≤ sizeLine) :
    wpAny (model prog w) A (newTuple vs) Q E ⟨h, gs, dr, k, os⟩ := newTuple_F (s := ⟨h, gs, dr, k, os⟩) F N q hsz
theorem f_newList {Q : Value → Shared → Prop} (F : Fr g L h m) (N : News g L h news)
    (q : ∀ h' a, Fr g L h' m → News g L h' ((a, listOf vs.toArray 0) :: news) → L < a → Q (.ref a) ⟨h', gs, dr, k, os⟩) (hsz : vs.length ≤ sizeLine) :
    wpAny (model prog w) A (newList vs) Q E ⟨h, gs, dr, k, os⟩ := newList_F (s := ⟨h, gs, dr, k, os⟩) F N q hsz
theorem f_storeX {cn : Str} {sc : Scope} {a : Addr} {ccd : Value} {cl : List (Str × Addr)} {x : Str} {v : Value} {Q : Unit → Shared → Prop} (F : Fr g L h m) (N : News g L h news)
    (q : ∀ h', Fr g L h' (fun y => if y = x then some v else m y) → News g L h' news → Q () ⟨h', gs, dr, k + 1, os⟩)
    (hk : sc.kind = .function) (hx : (envX cn sc L a ccd cl).kindOf x = some .local) : wpAny (model prog w) A (storeName (envX cn sc L a ccd cl) x v) Q E ⟨h, gs, dr, k, os⟩ := storeX_L (s := ⟨h, gs, dr, k, os⟩) F N q hk hx
end

section
variable {prog : Program} {w : World} {A : Around} {E : Value → Shared → Prop} {R : Result → Shared → Prop} {s : Shared} {env : Env}

/-- the tests of a comprehension's one clause -/
abbrev testsOf (ifs : List Expr) (cenv : Env) : Sem Bool := forIn ifs true fun c r => if r = true then do let ok ← isTrue c cenv (eval c cenv); pure (ForInStep.yield ok) else pure (ForInStep.yield r)

/-- one turn: the tests, then the element -/
def CompStep (prog : Program) (w : World) (A : Around) (ifs : List Expr) (elt : Expr) (cenv : Env) (S : List Addr) (Inv : Nat → List Value → Heap → Prop) (i : Nat) (ys : List Value) (s₃ : Shared) : Prop :=
  ∀ E', wpAny (model prog w) A (testsOf ifs cenv) (fun ok s₄ =>
    if ok = true then wpAny (model prog w) A (eval elt cenv) (fun y s₅ => ∃ h' tk', s₅ = { s₃ with heap := h', toks := tk' } ∧ Ext S s₃.heap h' ∧ Inv (i + 1) (ys ++ [y]) h') E' s₄
    else ∃ h' tk', s₄ = { s₃ with heap := h', toks := tk' } ∧ Ext S s₃.heap h' ∧ Inv (i + 1) ys h') E' s₃

/-- a comprehension's premises over the state behind its iterator -/
def CompAt (prog : Program) (w : World) (A : Around) (env : Env) (scope : Scope) (cl : List (Str × Addr)) (x : Str) (ifs : List Expr) (elt : Expr) (I : Addr) (s₂ : Shared)
    (K : (S wr : List Addr) → (n : Nat) → (Nat → List Value → Heap → Prop) → Prop) : Prop :=
  ∃ fp wr n P St S Inv, Walks prog w A I fp wr n P St ∧ n ≤ sizeLine ∧ St 0 s₂.heap ∧ (∀ b ∈ fp, b < s₂.heap.objs.size) ∧ (∀ b ∈ S, b ∉ fp ∧ b < s₂.heap.objs.size) ∧
    (∀ i ys h h', Inv i ys h → (∀ b o, b ∉ wr → b ≠ s₂.heap.objs.size → b ≠ s₂.heap.objs.size + 1 → h.get? b = some o → h'.get? b = some o) → Inv i ys h') ∧ Inv 0 [] s₂.heap ∧
    (∀ i v ys (s₃ : Shared) cm, i < n → P i v → Inv i ys s₃.heap → (∀ b o, b ∉ S → b ∉ wr → s₂.heap.get? b = some o → s₃.heap.get? b = some o) → s₂.heap.objs.size + 2 ≤ s₃.heap.objs.size →
      s₃.heap.Ns (s₂.heap.objs.size + 1) cm → cm x = some v → CompStep prog w A ifs elt (compEnvC scope cl (s₂.heap.objs.size + 1) env) S Inv i ys s₃) ∧
    K S wr n Inv
theorem CompAt.imp {scope : Scope} {cl : List (Str × Addr)} {x : Str} {ifs : List Expr} {elt : Expr} {I : Addr} {K K' : (S wr : List Addr) → (n : Nat) → (Nat → List Value → Heap → Prop) → Prop}
    (c : CompAt prog w A env scope cl x ifs elt I s K)
    (f : ∀ S wr n Inv, (∀ i ys (h h' : Heap), Inv i ys h → Ext [s.heap.objs.size + 1] h h' → Inv i ys h') → K S wr n Inv → K' S wr n Inv) : CompAt prog w A env scope cl x ifs elt I s K' :=
  let ⟨fp, wr, n, P, St, S, Inv, c1, c2, c3, c4, c5, stab, c7, c8, k⟩ := c
  ⟨fp, wr, n, P, St, S, Inv, c1, c2, c3, c4, c5, stab, c7, c8, f S wr n Inv (fun i ys h h' p e => stab i ys h h' p fun b o _ _ q => e b o fun z => q (List.mem_singleton.mp z)) k⟩

theorem Ext.but {a : Addr} {h h' : Heap} (b : Heap.SameBut a h h') : Ext [a] h h' := fun x o q e => b.extBut x o (fun z => q (z ▸ List.Mem.head _)) e

/-- a source's next value, stored under a name -/
theorem walk_store {x : Str} {px : Pos} {I : Addr} {fp wr : List Addr} {n i : Nat} {P : Nat → Value → Prop} {St : Nat → Heap → Prop} {m : Str → Option Value} {Q : Option Value → Shared → Prop} {K : Value → Shared → Prop}
    (W : Walks prog w A I fp wr n P St) (off : env.locals ∉ fp) (hx : env.kindOf x = some .local) (hp : (env.scope.kind == .class || (env.scope.kind == .module && env.locals != env.globals)) = false)
    (hi : i < n) (st : St i s.heap) (ns : s.heap.Ns env.locals m) (up : ∀ v s₁, wpAny (model prog w) A (assign (.Name x px) env v) (fun _ => K v) E s₁ → Q (some v) s₁)
    (k : ∀ v h tk, P i v → St (i + 1) h → h.Ns env.locals (fun y => if y = x then some v else m y) → Ext (env.locals :: wr) s.heap h → K v { s with heap := h, toks := tk }) :
    wpAny (model prog w) A (pyNext (.ref I)) Q E s :=
  W.item i s Q E hi st fun v _ _ p st₁ e₁ => up v _ <| wpAny_assign_Name <| wpAny_storeName_local hx (Ext.ns (S := wr) e₁ ns fun q => off (W.sub _ q)) (hp := hp) fun h₂ ns₂ sb =>
    k v h₂ _ p (W.frame _ _ _ st₁ fun b hb o => Ext.but sb b o fun q => off (List.mem_singleton.mp q ▸ hb)) ns₂ fun b o q e =>
      Ext.but sb b o (fun z => q (List.mem_singleton.mp z ▸ List.Mem.head _)) (e₁ b o (fun z => q (.tail _ z)) e)

/-- two objects more, the second one changed since -/
theorem two_more {h h' : Heap} {o o' : Obj} (hf : o.isFreed = false) (sb : Heap.SameBut (h.push o).objs.size ((h.push o).push o') h') : Ext [] h h' ∧ h'.get? h.objs.size = some o := by
  have z : (h.push o).objs.size = h.objs.size + 1 := Heap.size_push ..
  have far : ∀ b, b ≤ h.objs.size → b ∉ [(h.push o).objs.size] := fun b l q => Nat.ne_of_lt (Nat.lt_succ_of_le l) ((List.mem_singleton.mp q).trans z)
  exact ⟨fun b x _ e => Ext.but sb b x (far b (Nat.le_of_lt (Heap.lt_size e))) (Heap.get?_push_of_some _ (Heap.get?_push_of_some _ e)),
    Ext.but sb _ _ (far _ (Nat.le_refl _)) (Heap.get?_push_of_some _ (Heap.get?_push_size _ hf))⟩

/-- a comprehension's list and its frame, made -/
theorem begin_comp {scope : Scope} {cl : List (Str × Addr)} {Q : Value → Env → Shared → Prop} (hcell : ∀ y ∈ scope.names, y.2 ≠ .cell) (hkind : scope.kind = .function)
    (k : ∀ (cenv : Env) h tk m, cenv.locals = s.heap.objs.size + 1 → { cenv with scope := relabel scope env } = compEnvC scope cl (s.heap.objs.size + 1) env → Ext [] s.heap h → h.PlainList s.heap.objs.size #[] →
      h.Ns (s.heap.objs.size + 1) m → Q (.ref s.heap.objs.size) cenv { s with heap := h, toks := tk }) :
    wpAny (model prog w) A (newList []) (fun acc s₃ => wpAny (model prog w) A (newFunctionEnv scope env.globals cl [] env.qual none .none (some env)) (Q acc) E s₃) E s :=
  wpAny_newObj_type (wpAny_newFunctionEnv hcell (fun _ q => nomatch q) (hk := hkind) fun h ns sb =>
    have z : ∀ o : Obj, (s.heap.push o).objs.size = s.heap.objs.size + 1 := fun _ => Heap.size_push ..
    k _ h _ _ (z _) (congrArg (fun L => compEnvC scope cl L env) (z _)) (two_more rfl sb).1 ⟨_, (two_more rfl sb).2⟩ (z _ ▸ ns))

/-- what stands between two turns of a comprehension that began in s -/
structure Between (s : Shared) (off : List Addr) (St : Nat → Heap → Prop) (Inv : Nat → List Value → Heap → Prop) (i : Nat) (ys : List Value) (h : Heap) : Prop where
  st : St i h
  acc : h.PlainList s.heap.objs.size ys.toArray
  ns : ∃ m, h.Ns (s.heap.objs.size + 1) m
  inv : Inv i ys h
  le : ys.length ≤ i
  ext : Ext off s.heap h

theorem comp_run {elt iter : Expr} {x : Str} {px : Pos} {ifs : List Expr} {scope : Scope} {cl : List (Str × Addr)} {pos : Pos} {I : Addr} {RR : Value → Addr → Result → Shared → Prop}
    (hcell : ∀ y ∈ scope.names, y.2 ≠ .cell) (hkind : scope.kind = .function) (hx : scope.names.lookup x = some .local)
    (c : CompAt prog w A env scope cl x ifs elt I s (fun S wr n Inv => ∀ h' tk m' (ys : List Value), h'.Ns (s.heap.objs.size + 1) m' → h'.PlainList s.heap.objs.size ys.toArray → ys.length ≤ n → Inv n ys h' →
      Ext (S ++ wr) s.heap h' → RR (.ref s.heap.objs.size) (s.heap.objs.size + 1) (.ok .next) { s with heap := h', toks := tk })) :
    wpAny (model prog w) A (newList []) (fun acc s₃ => wpAny (model prog w) A (newFunctionEnv scope env.globals cl [] env.qual none .none (some env))
      (fun cenv s₄ => codeAny (model prog w) A (.compStart (.ListComp elt [⟨.Name x px, iter, ifs, 0⟩] scope pos) 0 (.ref I) acc { cenv with scope := relabel scope env }) (RR acc cenv.locals) s₄) E s₃) E s := by
  obtain ⟨fp, wr, n, P, St, S, Inv, W, hsz, st0, hfp, hS, stab, inv0, step, fin⟩ := c
  refine begin_comp hcell hkind fun cenv h₀ tk₀ m₀ hl hc old acc₀ ns₀ => ?_
  rw [hc, hl]
  have D1 : s.heap.objs.size ≠ s.heap.objs.size + 1 := Nat.ne_of_lt (Nat.lt_succ_self _)
  have Dfp : s.heap.objs.size ∉ fp := fun q => Nat.lt_irrefl _ (hfp _ q)
  have Cfp : s.heap.objs.size + 1 ∉ fp := fun q => Nat.lt_irrefl _ (Nat.lt_of_succ_lt (hfp _ q))
  have DS : s.heap.objs.size ∉ S := fun q => Nat.lt_irrefl _ (hS _ q).2
  have CS : s.heap.objs.size + 1 ∉ S := fun q => Nat.lt_irrefl _ (Nat.lt_of_succ_lt (hS _ q).2)
  have low : ∀ b o, s.heap.get? b = some o → b ≠ s.heap.objs.size ∧ b ≠ s.heap.objs.size + 1 := fun b o e => ⟨Nat.ne_of_lt (Heap.lt_size e), Nat.ne_of_lt (Nat.lt_succ_of_lt (Heap.lt_size e))⟩
  have start : Between s (S ++ wr) St Inv 0 [] h₀ :=
    ⟨W.frame _ _ _ st0 fun b _ o => old b o List.not_mem_nil, acc₀, ⟨_, ns₀⟩, stab _ _ _ _ inv0 fun b o _ _ _ => old b o List.not_mem_nil, Nat.le_refl _, fun b o _ => old b o List.not_mem_nil⟩
  suffices go : codeAny (model prog w) A (.compLoop (.ListComp elt [⟨.Name x px, iter, ifs, 0⟩] scope pos) 0 (.ref I) (.ref s.heap.objs.size) (compEnvC scope cl (s.heap.objs.size + 1) env))
      (RR (.ref s.heap.objs.size) (s.heap.objs.size + 1)) { s with heap := h₀, toks := tk₀ } from codeAny_compStart_list go (W.self 0 _ _ _ start.st go)
  refine codeAny_compLoop_tests (fun k s' => ∃ i ys h tk, s' = { s with heap := h, toks := tk } ∧ i ≤ n ∧ k = n - i ∧ Between s (S ++ wr) St Inv i ys h) ?_ n ⟨0, [], h₀, tk₀, rfl, Nat.zero_le _, rfl, start⟩
  rintro k s' ⟨i, ys, h, tk, rfl, hi, rfl, B⟩
  obtain ⟨m, ns⟩ := B.ns
  rcases Nat.lt_or_ge i n with lt | ge
  · refine walk_store (env := compEnvC scope cl (s.heap.objs.size + 1) env) W Cfp (lookup_relabel_local hx) (by simp [compEnvC, relabel, hkind]) lt B.st ns (fun _ _ q => q) fun v h₂ tk₂ p st₂ ns₂ e₂ => ?_
    have acc₂ : h₂.PlainList s.heap.objs.size ys.toArray := B.acc.at fun o => e₂ _ o fun q => (List.mem_cons.mp q).elim D1 fun q => Dfp (W.sub _ q)
    have ext₂ : Ext (S ++ wr) s.heap h₂ := fun b o q e => e₂ b o (fun z => (List.mem_cons.mp z).elim (low b o e).2 fun z => q (List.mem_append_right _ z)) (B.ext b o q e)
    have close : ∀ ys' h₃ tk₃, Ext (s.heap.objs.size :: S) h₂ h₃ → Inv (i + 1) ys' h₃ → h₃.PlainList s.heap.objs.size ys'.toArray → ys'.length ≤ i + 1 →
        ∃ k, k < n - i ∧ ∃ i ys h tk, ({ s with heap := h₃, toks := tk₃ } : Shared) = { s with heap := h, toks := tk } ∧ i ≤ n ∧ k = n - i ∧ Between s (S ++ wr) St Inv i ys h := fun ys' h₃ tk₃ e₃ inv₃ acc₃ le₃ =>
      ⟨n - (i + 1), by omega, i + 1, ys', h₃, tk₃, rfl, lt, rfl, W.frame _ _ _ st₂ fun b hb o => e₃ b o fun z => (List.mem_cons.mp z).elim (fun z => Dfp (z ▸ hb)) fun z => (hS b z).1 hb, acc₃,
        ⟨_, e₃.ns ns₂ fun z => (List.mem_cons.mp z).elim (fun z => D1 z.symm) CS⟩, inv₃, le₃, fun b o q e => e₃ b o (fun z => (List.mem_cons.mp z).elim (low b o e).1 fun z => q (List.mem_append_left _ z)) (ext₂ b o q e)⟩
    refine wpAny_mono (step i v ys { s with heap := h₂, toks := tk₂ } _ lt p (stab _ _ _ _ B.inv fun b o q1 _ q3 => e₂ b o fun z => (List.mem_cons.mp z).elim q3 q1)
      (fun b o q1 q2 => ext₂ b o fun z => (List.mem_append.mp z).elim q1 q2) (Nat.succ_le_of_lt ns₂.lt) ns₂ (if_pos rfl) _) (fun ok s₄ r => ?_) fun _ _ z => z
    cases ok with
    | false =>
      rw [if_neg Bool.false_ne_true] at r
      obtain ⟨h₃, tk₃, rfl, e₃, inv₃⟩ := r
      exact close ys h₃ tk₃ (e₃.mono fun _ q => .tail _ q) inv₃ (acc₂.at fun o => e₃ _ o DS) (Nat.le_succ_of_le B.le)
    | true =>
      rw [if_pos rfl] at r
      refine wpAny_mono r (fun y s₅ r => ?_) fun _ _ z => z
      obtain ⟨h₃, tk₃, rfl, e₃, inv₃⟩ := r
      refine wpAny_list_append_plain (acc₂.at fun o => e₃ _ o DS) (fun h₄ l₄ sb => ?_) (by have := B.le; rw [List.size_toArray]; omega)
      exact close (ys ++ [y]) h₄ tk₃ ((e₃.mono fun _ q => .tail _ q).trans ((Ext.but sb).mono fun _ q => List.mem_singleton.mp q ▸ List.Mem.head _)) (stab _ _ _ _ inv₃ fun b o _ q _ => sb.extBut b o q)
        (by rw [← List.push_toArray]; exact l₄) (by rw [List.length_append]; exact Nat.succ_le_succ B.le)
  · obtain rfl := Nat.le_antisymm hi ge
    refine W.done _ _ _ B.st fun h₁ tk₁ e₁ => fin h₁ tk₁ m ys (Ext.ns (S := wr) e₁ ns fun q => Cfp (W.sub _ q)) (B.acc.at fun o => e₁ _ o fun q => Dfp (W.sub _ q)) B.le (stab _ _ _ _ B.inv fun b o q _ _ => e₁ b o q)
      fun b o q e => e₁ b o (fun z => q (List.mem_append_right _ z)) (B.ext b o q e)

theorem ListComp_inv {elt iter : Expr} {x : Str} {px : Pos} {ifs : List Expr} {scope : Scope} {cl : List (Str × Addr)} {pos : Pos} {Q : Value → Shared → Prop}
    (hclos : closureFor scope env = pure cl) (hcell : ∀ y ∈ scope.names, y.2 ≠ .cell) (hkind : scope.kind = .function)
    (hnames : ∀ y ∈ scope.names, y.2 = .local → scope.names.lookup y.1 = some .local) (hx : scope.names.lookup x = some .local)
    (hs : ∀ x, foldedSetIterable iter env x = pure x)
    (h : wpAny (model prog w) A (eval iter env) (fun xv s₁ => wpAny (model prog w) A (pyIter xv) (fun it s₂ => ∃ I, it = .ref I ∧
      CompAt prog w A env scope cl x ifs elt I s₂ (fun S wr n Inv =>
        ∀ h' tk (ys : List Value), h'.PlainList s₂.heap.objs.size ys.toArray → ys.length ≤ n → Inv n ys h' → (∀ b o, b ∉ S → b ∉ wr → s₂.heap.get? b = some o → h'.get? b = some o) →
          Q (.ref s₂.heap.objs.size) { s₂ with heap := h', toks := tk })) E s₁) E s) :
    wpAny (model prog w) A (eval (.ListComp elt [⟨.Name x px, iter, ifs, 0⟩] scope pos) env) Q E s := by
  rw [eval_ListComp]
  refine wpAny_comprehension_free (use := none) rfl hs hclos hkind hnames (wpAny_mono h (fun xv s₁ q₁ => wpAny_mono q₁ (fun it s₂ q₂ => ?_) fun _ _ z => z) fun _ _ z => z)
  obtain ⟨I, rfl, c⟩ := q₂
  refine comp_run (RR := fun acc C => compPost (model prog w) A E none Q acc C) hcell hkind hx (c.imp fun S wr n Inv keep k h' tk m' ys ns l le inv e => ⟨m', ns, fun h'' sb => ?_⟩)
  exact k h'' tk ys (l.at fun o => Ext.but sb _ o fun z => Nat.ne_of_lt (Nat.lt_succ_self _) (List.mem_singleton.mp z)) le (keep _ _ _ _ inv (.but sb)) fun b o q1 q2 x =>
    Ext.but sb b o (fun z => Nat.ne_of_lt (Nat.lt_succ_of_lt (Heap.lt_size x)) (List.mem_singleton.mp z)) (e b o (fun z => (List.mem_append.mp z).elim q1 q2) x)

theorem Assign_ListComp_inv {elt iter : Expr} {x y : Str} {px py : Pos} {ifs : List Expr} {scope : Scope} {cl : List (Str × Addr)} {pos spos : Pos} {Q : Flow → Shared → Prop}
    (hsw : swapsWith (.ListComp elt [⟨.Name x px, iter, ifs, 0⟩] scope pos) (some (.Name y py)) spos.line env = pure true)
    (hclos : closureFor scope env = pure cl) (hcell : ∀ z ∈ scope.names, z.2 ≠ .cell) (hkind : scope.kind = .function)
    (hnames : ∀ z ∈ scope.names, z.2 = .local → scope.names.lookup z.1 = some .local) (hx : scope.names.lookup x = some .local)
    (hs : ∀ x, foldedSetIterable iter env x = pure x)
    (h : wpAny (model prog w) A (eval iter env) (fun xv s₁ => wpAny (model prog w) A (pyIter xv) (fun it s₂ => ∃ I, it = .ref I ∧
      CompAt prog w A env scope cl x ifs elt I s₂ (fun S wr n Inv =>
        ∀ h' tk (ys : List Value), h'.PlainList s₂.heap.objs.size ys.toArray → ys.length ≤ n → Inv n ys h' → (∀ b o, b ∉ S → b ∉ wr → s₂.heap.get? b = some o → h'.get? b = some o) →
          wpAny (model prog w) A (storeName env y (.ref s₂.heap.objs.size)) (fun _ s' => ∃ L, L < s₂.heap.objs.size ∧ Heap.SameBut L h' s'.heap ∧
            ∀ h'', Heap.SameBut (s₂.heap.objs.size + 1) s'.heap h'' → Q .next { s' with heap := h'' }) E { s₂ with heap := h', toks := tk })) E s₁) E s) :
    wpAny (model prog w) A (exec (.Assign [.Name y py] (.ListComp elt [⟨.Name x px, iter, ifs, 0⟩] scope pos) spos) env) Q E s := by
  rw [exec_Assign_Name_used _ _ _ _ hsw]
  refine wpAny_bind (wpAny_standAt (wpAny_bind (wpAny_bind (wpAny_mono
    (wpAny_comprehension_free (use := some (assign (.Name y py) env)) (Q := fun _ => Q .next) rfl hs hclos hkind hnames (wpAny_mono h (fun xv s₁ q₁ => wpAny_mono q₁ (fun it s₂ q₂ => ?_) fun _ _ z => z) fun _ _ z => z))
    (fun _ _ q => wpAny_pure (wpAny_pure q)) fun _ _ z => z))))
  obtain ⟨I, rfl, c⟩ := q₂
  refine comp_run (RR := fun acc C => compPost (model prog w) A E (some (assign (.Name y py) env)) (fun _ => Q .next) acc C) hcell hkind hx (c.imp fun S wr n Inv _ k h' tk m' ys ns l le inv e => ?_)
  refine wpAny_assign_Name (wpAny_mono (k h' tk ys l le inv fun b o q1 q2 => e b o fun z => (List.mem_append.mp z).elim q1 q2) (fun _ s' r => ?_) fun _ _ z => z)
  obtain ⟨L, lt, sb, r⟩ := r
  exact ⟨m', ns.sameBut sb (Nat.ne_of_gt (Nat.lt_succ_of_lt lt)), r⟩
end

/-! a for over a walked source -/
section
variable {prog : Program} {w : World} {A : Around} {E : Value → Shared → Prop} {s : Shared} {env : Env}
theorem for_loop {R : Result → Shared → Prop} {x : Str} {px : Pos} {body : List Stmt} {I : Addr} {fp wr : List Addr} {n : Nat} {P : Nat → Value → Prop} {St : Nat → Heap → Prop} {m₀ : Str → Option Value}
    (W : Walks prog w A I fp wr n P St) (hx : env.kindOf x = some .local) (hp : (env.scope.kind == .class || (env.scope.kind == .module && env.locals != env.globals)) = false) (hLf : env.locals ∉ fp)
    (hst : St 0 s.heap) (hn : s.heap.Ns env.locals m₀) (S : List Addr) (hS : ∀ b ∈ S, b ∉ fp)
    (Inv : Nat → (Str → Option Value) → Heap → Prop)
    (stab : ∀ i m h h', Inv i m h → (∀ b o, b ∉ wr → b ≠ env.locals → h.get? b = some o → h'.get? b = some o) → Inv i m h')
    (h0 : Inv 0 m₀ s.heap)
    (step : ∀ i v m (s₁ : Shared), (∃ h tk, s₁ = { s with heap := h, toks := tk }) → i < n → P i v → St (i + 1) s₁.heap → Inv i m s₁.heap → s₁.heap.Ns env.locals (fun y => if y = x then some v else m y) →
      (∀ b o, b ∉ S → b ∉ wr → b ≠ env.locals → s.heap.get? b = some o → s₁.heap.get? b = some o) →
      ∀ E', wpAny (model prog w) A (execs body env) (fun f s₂ => match f with
        | .ret v => R (.ok (.ret v)) s₂
        | .brk => R (.ok .next) s₂
        | _ => ∃ h' tk' m', s₂ = { s₁ with heap := h', toks := tk' } ∧ (∀ b o, b ∉ S → b ≠ env.locals → s₁.heap.get? b = some o → h'.get? b = some o) ∧ h'.Ns env.locals m' ∧ Inv (i + 1) m' h') E' s₁)
    (hR : ∀ h' tk m', h'.Ns env.locals m' → Inv n m' h' → (∀ b o, b ∉ S → b ∉ wr → b ≠ env.locals → s.heap.get? b = some o → h'.get? b = some o) → R (.ok .next) { s with heap := h', toks := tk }) :
    codeAny (model prog w) A (.forLoop (.Name x px) (.ref I) body [] env) R s := by
  have LS : env.locals ∉ wr := fun q => hLf (W.sub _ q)
  refine codeAny_forLoop (fun k s' => ∃ i h tk m, s' = { s with heap := h, toks := tk } ∧ i ≤ n ∧ k = n - i ∧ St i h ∧ h.Ns env.locals m ∧ Inv i m h ∧ Ext (env.locals :: (S ++ wr)) s.heap h) ?_ n
    ⟨0, s.heap, s.toks, m₀, rfl, Nat.zero_le _, rfl, hst, hn, h0, Ext.refl _ _⟩
  rintro k s' ⟨i, h, tk, m, rfl, hi, rfl, st, ns, inv, ext⟩
  rcases Nat.lt_or_ge i n with lt | ge
  · refine walk_store W hLf hx hp lt st ns (fun _ _ q => q) fun v h₂ tk₂ p st₂ ns₂ e₂ => ?_
    have ext₂ : Ext (env.locals :: (S ++ wr)) s.heap h₂ := ext.trans (e₂.mono fun b q => (List.mem_cons.mp q).elim (· ▸ List.Mem.head _) fun q => .tail _ (List.mem_append_right _ q))
    refine wpAny_mono (step i v m { s with heap := h₂, toks := tk₂ } ⟨_, _, rfl⟩ lt p st₂ (stab _ _ _ _ inv fun b o q1 q2 => e₂ b o fun z => (List.mem_cons.mp z).elim q2 q1) ns₂
      (fun b o q1 q2 q3 => ext₂ b o fun z => (List.mem_cons.mp z).elim q3 fun z => (List.mem_append.mp z).elim q1 q2) _) (fun f s₃ r => ?_) fun _ _ z => z
    have on : (∃ h' tk' m', s₃ = { ({ s with heap := h₂, toks := tk₂ } : Shared) with heap := h', toks := tk' } ∧ (∀ b o, b ∉ S → b ≠ env.locals → h₂.get? b = some o → h'.get? b = some o) ∧ h'.Ns env.locals m' ∧ Inv (i + 1) m' h') →
        ∃ k, k < n - i ∧ ∃ i h tk m, s₃ = { s with heap := h, toks := tk } ∧ i ≤ n ∧ k = n - i ∧ St i h ∧ h.Ns env.locals m ∧ Inv i m h ∧ Ext (env.locals :: (S ++ wr)) s.heap h := by
      rintro ⟨h₃, tk₃, m₃, rfl, e₃, ns₃, inv₃⟩
      exact ⟨n - (i + 1), by omega, i + 1, h₃, tk₃, m₃, rfl, lt, rfl, W.frame _ _ _ st₂ fun b hb o => e₃ b o (fun z => hS b z hb) fun z => hLf (z ▸ hb), ns₃, inv₃,
        ext₂.trans fun b o q => e₃ b o (fun z => q (.tail _ (List.mem_append_left _ z))) fun z => q (z ▸ List.Mem.head _)⟩
    cases f with
    | ret v => exact r
    | brk => exact r
    | next => exact on r
    | cont => exact on r
  · obtain rfl := Nat.le_antisymm hi ge
    exact W.done _ _ _ st fun h₁ tk₁ e₁ => wpAny_execs_nil (hR h₁ tk₁ m (Ext.ns (S := wr) e₁ ns LS) (stab _ _ _ _ inv fun b o q _ => e₁ b o q)
      fun b o q1 q2 q3 e => e₁ b o q2 (ext b o (fun z => (List.mem_cons.mp z).elim q3 fun z => (List.mem_append.mp z).elim q1 q2) e))
end

/-! a list that grows -/
section
variable {prog : Program} {w : World} {A : Around} {E : Value → Shared → Prop} {s : Shared}
theorem append_at {l : Addr} {xs : List Value} {n : Nat} {v : Value} {Q : Value → Shared → Prop} (hl : s.heap.get? l = some (listOf xs.toArray n)) (hsz : xs.length ≤ sizeLine)
    (h : ∀ h' n', Heap.SameBut l s.heap h' → h'.get? l = some (listOf (xs ++ [v]).toArray n') → Q .none { s with heap := h' }) : wpAny (model prog w) A (call (.builtin "list.append") [.ref l, v]) Q E s :=
  PyProof.Rows.append_at hl (fun h' sb e => h h' _ sb (by rw [List.push_toArray] at e; exact e)) (by rw [List.size_toArray]; exact hsz)
end

theorem ext_iter {S : List Addr} {h₁ h' : Heap} {x : Obj} (k : ∀ b o, b ∉ S → b ∉ [h₁.objs.size] → (h₁.push x).get? b = some o → h'.get? b = some o) : Ext S h₁ h' :=
  fun b o hb e => k b o hb (fun q => Nat.ne_of_lt (Heap.lt_size e) (List.mem_singleton.mp q)) (Heap.get?_push_of_some _ e)
theorem ext_stays {g h h' : Heap} (e : Ext [] h h') (k : g.StaysIn h) : g.StaysIn h' := fun b o q => e b o (by simp) (k b o q)
theorem strs_get : ∀ {vs : List Value} {ss : List Str} {i : Nat} {v : Value}, StrsAre vs ss → vs[i]? = some v → ∃ x t, v = .str x t ∧ ss[i]? = some x
  | _, _, i, v, .nil, e => by simp at e
  | _, _, i, v, .cons x t r, e => by
    cases i with
    | zero => simp at e; subst e; exact ⟨x, t, rfl, rfl⟩
    | succ i => simpa using strs_get r (by simpa using e)
section
variable {prog : Program} {w : World} {A : Around} {E : Value → Shared → Prop} {s : Shared}
theorem range_iter {r : Addr} {a b c : Int} {t u v : Tok} {n : Nat} {Q : Value → Shared → Prop} (hr : IsRange s.heap r a b c t u v) (hsmall : Builtin.Range.small a b c = true) (hsz : Builtin.Range.rangeSize a b c = (n : Int))
    (h : ∀ o, IsRangeIter (s.heap.push o) s.heap.objs.size (a + ((0 : Nat) : Int) * c) ((n : Int) - ((0 : Nat) : Int)) c → Q (.ref s.heap.objs.size) { s with heap := s.heap.push o }) : wpAny (model prog w) A (pyIter (.ref r)) Q E s := by
  refine wpAny_pyIter_range hr hsmall (h _ ?_)
  rw [hsz]
  simp only [Int.natCast_zero, Int.zero_mul, Int.add_zero, Int.sub_zero]
  exact Heap.get?_push_size _ rfl
end


/-- the data that the law builds -/
inductive D where
  | none
  | int (i : Int)
  | str (x : Str)
  | bytes (b : Array UInt8)
  | tup (l : List D)
  | lst (l : List D)
  | sec (path : List Int) (names : List Str) (par : D)

noncomputable abbrev tupO (vs : List Value) (n : Nat) : Obj := { cls := .type "tuple", data := .seq vs.toArray n }
noncomputable abbrev secDict (h1 h2 h3 h4 : Int) (k1 k2 k3 k4 : Tok) (pa na : Addr) (wt : Tok) (pv : Value) : List DictEntry :=
  [⟨h1, .str (Str.ofString "path") k1, .ref pa⟩, ⟨h2, .str (Str.ofString "word") k2, .str (Str.ofString "HEADER.FIELDS") wt⟩, ⟨h3, .str (Str.ofString "names") k3, .ref na⟩, ⟨h4, .str (Str.ofString "partial") k4, pv⟩]

mutual
/-- a value stands for a datum over what lies -/
def Rep (π : Addr → Obj → Prop) : D → Value → Prop
  | .none, v => v = .none
  | .int i, v => ∃ t, v = .int i t
  | .str x, v => ∃ t, v = .str x t
  | .bytes b, v => ∃ t, v = .bytes b t
  | .tup l, v => ∃ a vs n, v = .ref a ∧ π a (tupO vs n) ∧ RepL π l vs
  | .lst l, v => ∃ a vs n, v = .ref a ∧ π a (listOf vs.toArray n) ∧ RepL π l vs
  | .sec path names par, v => ∃ a dx h1 h2 h3 h4 k1 k2 k3 k4 pa na wt pv nd pvs pn nvs nn, v = .ref a ∧ π a (instObj 50 dx) ∧ π dx (dictOf (secDict h1 h2 h3 h4 k1 k2 k3 k4 pa na wt pv) nd) ∧
      π pa (tupO pvs pn) ∧ IntsAre pvs path ∧ π na (tupO nvs nn) ∧ StrsAre nvs names ∧ Rep π par pv
def RepL (π : Addr → Obj → Prop) : List D → List Value → Prop
  | [], vs => vs = []
  | d :: ds, vs => ∃ v r, vs = v :: r ∧ Rep π d v ∧ RepL π ds r
end

mutual
theorem Rep.mono {π π' : Addr → Obj → Prop} (k : ∀ a o, π a o → π' a o) : ∀ (d : D) (v : Value), Rep π d v → Rep π' d v
  | .none, _, h => h
  | .int _, _, h => h
  | .str _, _, h => h
  | .bytes _, _, h => h
  | .tup l, _, h => by
    simp only [Rep] at h ⊢
    obtain ⟨a, vs, n, e, p, r⟩ := h
    exact ⟨a, vs, n, e, k _ _ p, RepL.mono k l vs r⟩
  | .lst l, _, h => by
    simp only [Rep] at h ⊢
    obtain ⟨a, vs, n, e, p, r⟩ := h
    exact ⟨a, vs, n, e, k _ _ p, RepL.mono k l vs r⟩
  | .sec path names par, _, h => by
    simp only [Rep] at h ⊢
    obtain ⟨a, dx, h1, h2, h3, h4, k1, k2, k3, k4, pa, na, wt, pv, nd, pvs, pn, nvs, nn, e, p1, p2, p3, i, p4, st, r⟩ := h
    exact ⟨a, dx, h1, h2, h3, h4, k1, k2, k3, k4, pa, na, wt, pv, nd, pvs, pn, nvs, nn, e, k _ _ p1, k _ _ p2, k _ _ p3, i, k _ _ p4, st, Rep.mono k par pv r⟩
theorem RepL.mono {π π' : Addr → Obj → Prop} (k : ∀ a o, π a o → π' a o) : ∀ (l : List D) (vs : List Value), RepL π l vs → RepL π' l vs
  | [], _, h => h
  | d :: ds, vs, h => by
    simp only [RepL] at h ⊢
    obtain ⟨v, r, e, p, q⟩ := h
    exact ⟨v, r, e, Rep.mono k d v p, RepL.mono k ds r q⟩
end
theorem RepL.length {π : Addr → Obj → Prop} : ∀ {l : List D} {vs : List Value}, RepL π l vs → vs.length = l.length
  | [], _, h => by simp only [RepL] at h; subst h; rfl
  | d :: ds, vs, h => by
    simp only [RepL] at h
    obtain ⟨v, r, rfl, _, q⟩ := h
    simp [RepL.length q]
theorem RepL.append {π : Addr → Obj → Prop} : ∀ {l l' : List D} {vs vs' : List Value}, RepL π l vs → RepL π l' vs' → RepL π (l ++ l') (vs ++ vs')
  | [], _, _, _, h, h' => by simp only [RepL] at h; subst h; exact h'
  | d :: ds, _, vs, _, h, h' => by
    simp only [RepL] at h
    obtain ⟨v, r, rfl, p, q⟩ := h
    simp only [List.cons_append, RepL]
    exact ⟨v, _, rfl, p, RepL.append q h'⟩
theorem RepL.one {π : Addr → Obj → Prop} {d : D} {v : Value} (h : Rep π d v) : RepL π [d] [v] := by
  simp only [RepL]; exact ⟨v, [], rfl, h, rfl⟩
theorem RepL.nil {π : Addr → Obj → Prop} : RepL π [] [] := by simp only [RepL]
theorem RepL.cons {π : Addr → Obj → Prop} {d : D} {ds : List D} {v : Value} {vs : List Value} (h : Rep π d v) (h' : RepL π ds vs) : RepL π (d :: ds) (v :: vs) := by
  simp only [RepL]; exact ⟨v, vs, rfl, h, h'⟩
theorem RepL.get {π : Addr → Obj → Prop} : ∀ {l : List D} {vs : List Value} {i : Nat} {d : D}, RepL π l vs → l[i]? = some d → ∃ v, vs[i]? = some v ∧ Rep π d v
  | [], _, _, _, _, e => by simp at e
  | d :: ds, vs, i, d', h, e => by
    simp only [RepL] at h
    obtain ⟨v, r, rfl, p, q⟩ := h
    cases i with
    | zero => simp at e; subst e; exact ⟨v, rfl, p⟩
    | succ i => simpa using RepL.get q (by simpa using e)
theorem RepL.getV {π : Addr → Obj → Prop} : ∀ {l : List D} {vs : List Value} {i : Nat} {v : Value}, RepL π l vs → vs[i]? = some v → ∃ d, l[i]? = some d ∧ Rep π d v
  | [], _, _, _, h, e => by simp only [RepL] at h; subst h; simp at e
  | d :: ds, vs, i, v', h, e => by
    simp only [RepL] at h
    obtain ⟨v, r, rfl, p, q⟩ := h
    cases i with
    | zero => simp at e; subst e; exact ⟨d, rfl, p⟩
    | succ i => simpa using RepL.getV q (by simpa using e)
theorem Rep.tupI {π : Addr → Obj → Prop} {l : List D} {a : Addr} {vs : List Value} {n : Nat} (h : π a (tupO vs n)) (r : RepL π l vs) : Rep π (.tup l) (.ref a) := by
  simp only [Rep]; exact ⟨a, vs, n, rfl, h, r⟩
theorem Rep.lstI {π : Addr → Obj → Prop} {l : List D} {a : Addr} {vs : List Value} {n : Nat} (h : π a (listOf vs.toArray n)) (r : RepL π l vs) : Rep π (.lst l) (.ref a) := by
  simp only [Rep]; exact ⟨a, vs, n, rfl, h, r⟩
theorem Rep.intI {π : Addr → Obj → Prop} {i : Int} {t : Tok} : Rep π (.int i) (.int i t) := by simp only [Rep]; exact ⟨t, rfl⟩
theorem Rep.strI {π : Addr → Obj → Prop} {x : Str} {t : Tok} : Rep π (.str x) (.str x t) := by simp only [Rep]; exact ⟨t, rfl⟩
theorem Rep.bytesI {π : Addr → Obj → Prop} {b : Array UInt8} {t : Tok} : Rep π (.bytes b) (.bytes b t) := by simp only [Rep]; exact ⟨t, rfl⟩
theorem Rep.noneI {π : Addr → Obj → Prop} : Rep π .none .none := by simp only [Rep]

/-- what a list of entries says -/
abbrev inL (tl : List (Addr × Obj)) : Addr → Obj → Prop := fun a o => (a, o) ∈ tl
/-- entries that lie at a heap and were made behind another -/
def Fresh (h h' : Heap) (tl : List (Addr × Obj)) : Prop := ∀ p ∈ tl, h'.get? p.1 = some p.2 ∧ ∀ b o, h.get? b = some o → b < p.1

/-- what lies at a heap, at addresses of a kind -/
abbrev inP (P : Addr → Prop) (h : Heap) : Addr → Obj → Prop := fun a o => h.get? a = some o ∧ P a

/-! equality of data -/
mutual
/-- no list, no section within -/
noncomputable def D.flat : D → Bool
  | .sec _ _ _ => false
  | .lst _ => false
  | .tup l => D.flatL l
  | _ => true
noncomputable def D.flatL : List D → Bool
  | [] => true
  | d :: r => d.flat && D.flatL r
end
mutual
noncomputable def D.dep : D → Nat
  | .tup l => D.depL l + 1
  | .lst l => D.depL l + 1
  | .sec _ _ p => p.dep + 4
  | _ => 0
noncomputable def D.depL : List D → Nat
  | [] => 0
  | d :: r => max d.dep (D.depL r)
end
abbrev lies (h : Heap) : Addr → Obj → Prop := fun a o => h.get? a = some o

section
open SeqAt
theorem eqAt_bytes {A : Around} {s : Shared} (b : Array UInt8) (t u : Tok) : EqAt A s (.bytes b t) (.bytes b u) true := fun prog w E Q h => by
  unfold eqBool
  refine wpAny_holding ?_
  refine wpAny_ite_split (fun _ => wpAny_bind (wpAny_rule (wpAny_pure h))) (fun _ => ?_)
  refine wpAny_bind (show wpAny _ _ (compareOp .Eq _ _) _ _ _ from eq_bytes ?_)
  rw [beq_self_eq_true]
  exact wpAny_truthy_bool h

theorem all_true (n : Nat) : (List.range n).all (fun _ => true) = true := by simp
mutual
theorem eqAt_rep : ∀ (d : D) (A : Around) (s : Shared) (v v' : Value), d.flat = true → A.units + d.dep < cLine → Rep (lies s.heap) d v → Rep (lies s.heap) d v' → EqAt A s v v' true
  | .none, A, s, v, v', _, _, h, h' => by
    simp only [Rep] at h h'; subst h h'; exact .same _
  | .int i, A, s, v, v', _, _, h, h' => by
    simp only [Rep] at h h'; obtain ⟨t, rfl⟩ := h; obtain ⟨u, rfl⟩ := h'
    have := EqAt.int_int (A := A) (s := s) i t i u
    rwa [beq_self_eq_true] at this
  | .str x, A, s, v, v', _, _, h, h' => by
    simp only [Rep] at h h'; obtain ⟨t, rfl⟩ := h; obtain ⟨u, rfl⟩ := h'
    have := EqAt.str_str (A := A) (s := s) x t x u
    rwa [beq_self_eq_true] at this
  | .bytes b, A, s, v, v', _, _, h, h' => by
    simp only [Rep] at h h'; obtain ⟨t, rfl⟩ := h; obtain ⟨u, rfl⟩ := h'
    exact eqAt_bytes b t u
  | .tup l, A, s, v, v', hf, hu, h, h' => by
    simp only [Rep] at h h'; obtain ⟨a, vs, n, rfl, p, r⟩ := h; obtain ⟨a', vs', n', rfl, p', r'⟩ := h'
    simp only [D.flat] at hf
    simp only [D.dep] at hu
    by_cases e : a = a'
    · subst e; exact .same _
    · have hl : s.heap.IsTuple a vs.toArray := ⟨_, p, rfl, _, rfl⟩
      have hl' : s.heap.IsTuple a' vs'.toArray := ⟨_, p', rfl, _, rfl⟩
      have key := RcAt.tuples (A := A) (e := fun _ => true) hl hl' (by omega) (fun j h1 h2 => by
        simpa using eqAt_repL l A.in1 s vs vs' hf (by show A.units + 1 + D.depL l < cLine; omega) r r' j (by simpa using h1) (by simpa using h2))
      rw [all_true] at key
      simp only [List.size_toArray, r.length, r'.length, beq_self_eq_true, Bool.and_self] at key
      exact .of_refs e key
  | .lst _, _, _, _, _, hf, _, _, _ => by simp [D.flat] at hf
  | .sec _ _ _, _, _, _, _, hf, _, _, _ => by simp [D.flat] at hf
theorem eqAt_repL : ∀ (l : List D) (A : Around) (s : Shared) (vs vs' : List Value), D.flatL l = true → A.units + D.depL l < cLine → RepL (lies s.heap) l vs → RepL (lies s.heap) l vs' →
    ∀ j (h1 : j < vs.length) (h2 : j < vs'.length), EqAt A s vs[j] vs'[j] true
  | [], A, s, vs, vs', _, _, h, _, j, h1, _ => by simp only [RepL] at h; subst h; simp at h1
  | d :: r, A, s, vs, vs', hf, hu, h, h', j, h1, h2 => by
    simp only [D.flatL, Bool.and_eq_true] at hf
    simp only [D.depL] at hu
    simp only [RepL] at h h'
    obtain ⟨v, q, rfl, hv, hr⟩ := h
    obtain ⟨v', q', rfl, hv', hr'⟩ := h'
    cases j with
    | zero => exact eqAt_rep d A s v v' hf.1 (by omega) hv hv'
    | succ j => exact eqAt_repL r A s q q' hf.2 (by omega) hr hr' j (by simpa using h1) (by simpa using h2)
end

variable {prog : Program} {w : World} {A : Around} {E : Value → Shared → Prop} {s : Shared} {Q : Value → Shared → Prop}
theorem rep_eq {l : List D} {v v' : Value} (hf : D.flatL l = true) (hu : A.units + (D.depL l + 1) < cLine) (h : Rep (lies s.heap) (.tup l) v) (h' : Rep (lies s.heap) (.tup l) v')
    (q : Q (.bool true) s) : wpAny (model prog w) A (compareOp .Eq v v') Q E s := by
  simp only [Rep] at h h'; obtain ⟨a, vs, n, rfl, p, r⟩ := h; obtain ⟨a', vs', n', rfl, p', r'⟩ := h'
  have hl : s.heap.IsTuple a vs.toArray := ⟨_, p, rfl, _, rfl⟩
  have hl' : s.heap.IsTuple a' vs'.toArray := ⟨_, p', rfl, _, rfl⟩
  have key := RcAt.tuples (A := A) (e := fun _ => true) hl hl' (by omega) (fun j h1 h2 => by
    simpa using eqAt_repL l A.in1 s vs vs' hf (by show A.units + 1 + D.depL l < cLine; omega) r r' j (by simpa using h1) (by simpa using h2))
  rw [all_true] at key
  simp only [List.size_toArray, r.length, r'.length, beq_self_eq_true, Bool.and_self] at key
  exact key prog w E Q q
theorem rep_ne {l : List D} {v v' : Value} (hf : D.flatL l = true) (hu : A.units + (D.depL l + 1) < cLine) (h : Rep (lies s.heap) (.tup l) v) (h' : Rep (lies s.heap) (.tup l) v')
    (q : Q (.bool false) s) : wpAny (model prog w) A (compareOp .NotEq v v') Q E s := by
  simp only [Rep] at h h'; obtain ⟨a, vs, n, rfl, p, r⟩ := h; obtain ⟨a', vs', n', rfl, p', r'⟩ := h'
  have hl : s.heap.IsTuple a vs.toArray := ⟨_, p, rfl, _, rfl⟩
  have hl' : s.heap.IsTuple a' vs'.toArray := ⟨_, p', rfl, _, rfl⟩
  have key := RcNeAt.tuples (A := A) (e := fun _ => true) hl hl' (by omega) (fun j h1 h2 => by
    simpa using eqAt_repL l A.in1 s vs vs' hf (by show A.units + 1 + D.depL l < cLine; omega) r r' j (by simpa using h1) (by simpa using h2))
  rw [all_true] at key
  simp only [List.size_toArray, r.length, r'.length, beq_self_eq_true, Bool.and_self, Bool.not_true] at key
  exact key prog w E Q q
end

/-! anything compared with a text -/
section
variable {prog : Program} {w : World} {A : Around} {E : Value → Shared → Prop} {s : Shared} {Q : Value → Shared → Prop}
theorem bytes_declines_str (b : Array UInt8) (t : Tok) (y : Str) (u : Tok) : Gives (Builtin.«bytes.__eq__» ⟨[.bytes b t, .str y u], []⟩) (.val .notImplemented) := by
  refine .of_wp fun M A E s Q hq => ?_
  show wpAny M A (isInstance (.str y u) (.type "bytes") >>= fun r => _) _ E s
  have f1 := F.sub_str_bytes
  obtain ⟨hp, g, d, tk, os⟩ := s
  wp_walk
  exact ⟨_, rfl, hq⟩
theorem str_declines_bytes (y : Str) (u : Tok) (b : Array UInt8) (t : Tok) : Gives (Builtin.«str.__eq__» ⟨[.str y u, .bytes b t], []⟩) (.val .notImplemented) :=
  .of_wp fun M A E s Q h => by obtain ⟨hp, g, d, tk, os⟩ := s; have f1 := F.sub_bytes_str; wp_walk; exact ⟨_, rfl, h⟩
theorem eq_bytes_str (b : Array UInt8) (t : Tok) (y : Str) (u : Tok) (h : Q (.bool false) s) : wpAny (model prog w) A (compareOp .Eq (.bytes b t) (.str y u)) Q E s :=
  SeqAt.rc_eq_decline_or (k := false) (typeIs_bytes s b t) (typeIs_str s y u) (by decide) F.sub_str_bytes FB.slot_bytes_eq F.slot_str_eq_refl
    (fun _ hq => call_gives FB.slot_bytes_eq (typeIs_bytes s b t) FB.entry_bytes_eq (FB.args_bytes_eq_2 _ _) (bytes_declines_str b t y u) hq)
    (fun _ hq => call_gives F.slot_str_eq_refl (typeIs_str s y u) F.entry_str_eq (F.args_str_eq_2 _ _) (str_declines_bytes y u b t) hq)
    (fun _ hq => wpAny_of_eq (rfl : isSame (.bytes b t) (.str y u) = pure false) hq) (.inl rfl) h

theorem ifBound_B {M : Model} {K : Frag} {x C : Addr} {ox : Obj} {od : Option Obj} {name : Str} {B id : String} {args : List Value} {Q : Option Value → Shared → Prop} (X : K.In s.heap) (I : InstAt s.heap x ox C od)
    (hs : findIn K (.ref C) name = some (some (.builtin id))) (S : Slot B name id)
    (h : wpAny M A (call (.builtin id) (.ref x :: args)) (fun v => Q (some v)) E s) : wpAny M A (callSpecialIfBound? (.ref x) name args) Q E s := by
  simp only [callSpecialIfBound?, bindSpecialIfBound?]
  refine wpAny_holding (wpAny_bind (wpAny_bind (wpAny_bind (I.type.here ((looks_findIn X hs).here ?_)))))
  simp only [S.bind]
  refine wpAny_bind (wpAny_askSetting (wpAny_ite ?_))
  have fin : wpAny M A (call (.builtin id) ([.ref x] ++ args) >>= fun v => pure (some v)) Q E s := wpAny_bind (wpAny_mono h (fun v s' h' => wpAny_pure h') fun _ _ h' => h')
  split
  · exact wpAny_bind (wpAny_pure (wpAny_pure fin))
  · exact wpAny_tryCatch (wpAny_bind (wpAny_pure (wpAny_pure fin)))

theorem sec_declines {K : Frag} {x C : Addr} {ox : Obj} {od : Option Obj} {y : Str} {u : Tok} {Q : Value → Shared → Prop} (X : K.In s.heap) (I : InstAt s.heap x ox C od) (hm : mroIn K C (.type "object") = some true) (q : Q .notImplemented s) :
    wpAny (model prog w) A (call (.builtin "object.__eq__") [.ref x, .str y u]) Q E s := by
  refine wpAny_call (codeAny_call_builtin F.cmp_object.eq.plain F.cmpEntry_eq ?_)
  simp only [checkBuiltinCall, F.cmpKind_eq, F.cmpSplit_eq]
  have L : Looks (model prog w) s.heap (isInstance (.ref x) (.type "object")) true := I.type.andThen (looks_mroIn X hm)
  refine wpAny_bind (L.here ?_)
  simp only [Bool.not_true, Bool.false_eq_true, if_false]
  have ha := F.cmpArgs_eq (.ref x) (.str y u)
  have fin : wpAny (model prog w) A.in1 (Builtin.«object.__eq__» ⟨[.ref x, .str y u], []⟩) (fun fin s' => match fin with | .done f => (match (Except.ok f : Result) with | .ok (.ret v) => Q v s' | .error e => E e s' | _ => False) | .again c' => c'.quiet = true ∧ codeAny (model prog w) A c' (fun r s' => match r with | .ok (.ret v) => Q v s' | .error e => E e s' | _ => False) s') (fun e s' => E e s') s := by
    unfold Builtin.«object.__eq__»
    refine wpAny_bind (wpAny_of_eq (a := (Value.ref x, [Value.str y u])) rfl ?_)
    refine wpAny_bind (wpAny_of_eq (rfl : isSame (.ref x) (.str y u) = pure false) ?_)
    exact wpAny_pure q
  cases hsig : Manifest.signature? "object.__eq__" with
  | none => exact wpAny_pure fin
  | some sig =>
    simp only [argsOk, hsig] at ha
    have h2 : Bind.checkArgs "object.__eq__" sig ⟨[.ref x, .str y u], []⟩ = pure () := ha
    show wpAny _ _ (Bind.checkArgs "object.__eq__" sig ⟨[.ref x, .str y u], []⟩) _ _ _
    rw [h2]
    exact wpAny_pure fin

theorem str_declines_inst {x : Addr} {ox : Obj} {C : Addr} {od : Option Obj} {K : Frag} (X : K.In s.heap) (I : InstAt s.heap x ox C od) (hp : ox.data = .plain) (y : Str) (u : Tok) {Q : Value → Shared → Prop}
    (q : Q .notImplemented s) : wpAny (model prog w) A (call (.builtin "str.__eq__") [.str y u, .ref x]) Q E s := by
  refine call_meets F.slot_str_eq_refl (typeIs_str s y u) F.entry_str_eq (F.args_str_eq_2 _ _) (S := fun _ R s => (K.In s.heap ∧ InstAt s.heap x ox C od) ∧ R (.ok (.ret .notImplemented)) s) ?_ ⟨⟨X, I⟩, q⟩
  intro prog w A R s h
  obtain ⟨h0, g, d, tk, os⟩ := s
  obtain ⟨⟨X, I⟩, h⟩ := h
  unfold Builtin.«str.__eq__»
  repeat lk
  refine nd_load I.at_ (nd_pure ?_)
  rw [hp]
  refine wpAny_pure ?_
  exact wpAny_bind (wpAny_rule (wpAny_pure h))
theorem eq_inst_str {x : Addr} {ox : Obj} {C : Addr} {od : Option Obj} {K : Frag} (X : K.In s.heap) (I : InstAt s.heap x ox C od) (hu : A.units < cLine) (hs : findIn K (.ref C) "__eq__" = some (some (.builtin "object.__eq__")))
    (hm : mroIn K C (.type "object") = some true) (hp : ox.data = .plain) (hsub2 : subIn K (.type "str") (.ref C) = some false) (y : Str) (u : Tok) (h : Q (.bool false) s) :
    wpAny (model prog w) A (compareOp .Eq (.ref x) (.str y u)) Q E s := by
  show wpAny _ _ (richCompare .Eq (.ref x) (.str y u)) _ _ _
  unfold richCompare
  simp only [oneThing_ref]
  refine wpAny_holding (wpAny_bind (wpAny_cRoomFor hu ?_))
  refine wpAny_bind (I.type.here (wpAny_bind (wpAny_typeOf (typeIs_str s y u) ?_)))
  rw [if_pos (by simp)]
  refine wpAny_bind ((looks_subIn X hsub2).here ?_)
  simp only [Bool.false_eq_true, if_false, Bool.not_false, if_true]
  refine wpAny_bind (m := tryCompare (.ref x) _ (.str y u)) ?_
  unfold tryCompare
  refine wpAny_bind (ifBound_B X I hs F.cmp_object.eq (sec_declines X I hm ?_))
  refine wpAny_pure ?_
  refine wpAny_bind (m := tryCompare (.str y u) _ (.ref x)) (wpAny_tryCompare_declines (typeIs_str s y u) F.slot_str_eq_refl (str_declines_inst X I hp y u ⟨rfl, ?_⟩))
  exact wpAny_bind (wpAny_rule (wpAny_bind (wpAny_of_eq (rfl : isSame (.ref x) (.str y u) = pure false) (wpAny_pure h))))
end

example : (PySem.Challenge.rw_sa0546_01, hd.heap_39).2 = hd.heap_39 := by k_fill; rfl

/-- the sides of 'enter' -/
local macro_rules | `(tactic| walk_at "sides") => `(tactic| (
  (case ho => k_is)
  (case hcd => k_is)
  (case hbind => exact BindsTo.of_eq rfl)
  (case hloc => exact locs rfl)
  (case c2 => exact rfl)
  (case c3 => exact rfl)
  (case c4 => exact rfl)
  (case c5 => decide)
  (case hroom => first | assumption | omega)))
local macro_rules | `(tactic| walk_at "room") => `(tactic| first | assumption | omega | ((simp only [Around.deeper, Around.in1, Around.mark]); omega))
local macro_rules | `(tactic| walk_at "stays") => `(tactic| first | assumption | exact Fr.keep (by assumption) | exact (fun b o e => Fr.keep (by assumption) b o ((by assumption : Heap.StaysIn _ _) b o e)))
local macro_rules | `(tactic| walk_at "name") => `(tactic| first
  | (refine' nm_loc ?F ?hv ?_ ?hk ?hx ?hd; (case hx => exact rfl); (case F => assumption); (case hk => exact rfl); (case hd => decide); (case hv => assumption))
  | (refine' nm_loc (Fr.ns ?F) ?hv ?_ ?hk ?hx ?hd; (case hx => exact rfl); (case F => assumption); (case hk => exact rfl); (case hd => decide); (case hv => exact rfl))
  | (refine' nm_glob (by assumption) ?st ?e ?_ ?hg ?hk ?hx ?hd; (case hx => exact rfl); (case hg => exact rfl); (case hk => exact rfl); (case hd => decide); (case e => k_is); (case st => walk_at "stays"))
  | (refine' nm_built (by assumption) ?st ?e ?hv ?hn ?_ ?hg ?hb ?hk ?hx ?hd; (case hx => exact rfl); (case hg => exact rfl); (case hb => exact rfl); (case hk => exact rfl); (case hd => decide); (case e => k_is); (case hv => boot_fast); (case hn => decide); (case st => walk_at "stays")))
local macro_rules | `(tactic| walk_at "go") => `(tactic| first
  | ((with_reducible show Heap.StaysIn _ _ ∧ _); refine ⟨?st, ?_⟩; (case st => walk_at "stays"); (try dsimp only [List.nil_append, List.cons_append]))
  | ((with_reducible show wpAny _ _ (call _ (_ ++ _)) _ _ _); dsimp only [List.nil_append, List.cons_append])
  | (with_reducible refine wpAny_execs_nil ?_; (try dsimp only))
  | (with_reducible refine wpAny_execs_cons ?_; (try dsimp only))
  | with_reducible refine wpAny_Return_some ?_
  | with_reducible refine wpAny_If ?_
  | ((with_reducible show wpAny _ _ (exec (Stmt.Expr _ _) _) _ _ _); refine wpAny_Expr ?_ ?hi ?hs; (case hi => exact rfl); (case hs => with_unfolding_all rfl))
  | (with_reducible refine wpAny_Assign_Name ?_ ?hm; (case hm => with_unfolding_all rfl))
  | (with_reducible refine wpAny_Assign_Subscript ?_ ?hm; (case hm => with_unfolding_all rfl))
  | (with_reducible refine plainObj_wpAny_Assign_Attribute ?_ ?hm; (case hm => with_unfolding_all rfl))
  | with_reducible refine Subscript_ ?_
  | with_reducible refine isTrue_and_nil ?_
  | with_reducible refine isTrue_or_nil ?_
  | with_reducible refine isTrue_and ?_
  | with_reducible refine isTrue_or ?_
  | with_reducible refine List_ ?_
  | with_reducible refine Tuple_ ?_
  | ((with_reducible show wpAny _ _ (storeName _ _ _) _ _ _); refine' f_storeX ?F ?N ?_ ?a ?b; (case F => assumption); (case N => assumption); (case a => exact rfl); (case b => exact rfl); intro h' F' N'; (try dsimp only at F' N'))
  | ((with_reducible show wpAny _ _ (subscriptTail _ _ (Value.ref _) (Value.int _ _)) _ _ _); refine' sub_listN ?N ?m ?a ?b ?x ?_ ?s; (case N => assumption); (case m => k_mem); (case a => decide); (case b => decide); (case x => exact rfl); (case s => with_unfolding_all rfl))
  | ((with_reducible show wpAny _ _ (newList _) _ _ _); refine' f_newList ?F ?N ?_ ?z; (case F => assumption); (case N => assumption); (case z => size_fits); intro h' a' F' N' l'; (try dsimp only at F' N'))
  | ((with_reducible show wpAny _ _ (newTuple _) _ _ _); refine' f_newTuple ?F ?N ?_ ?z; (case F => assumption); (case N => assumption); (case z => size_fits); intro h' a' F' N' l'; (try dsimp only at F' N'))
  | with_reducible refine eq_int ?_
  | with_reducible refine gt_int ?_
  | with_reducible refine f_sub ?_
  | with_reducible refine Constant_none ?_
  | with_reducible refine Constant_bool ?_
  | with_reducible refine f_bytes ?_
  | (with_reducible refine f_mod ?nz ?_; (case nz => first | decide | omega))
  | (with_reducible refine f_fdiv ?nz ?_ ?hp; (case nz => first | decide | omega); (case hp => exact (PyProof.noPylong_small (by first | decide | omega))))
  | (with_reducible refine f_mul ?_ ?hm; (case hm => mul_fits))
  | ((with_reducible show wpAny _ _ (setItem (Value.ref _) (Value.int _ _) _) _ _ _); refine' ki_set ?F ?N ?a ?b ?e ?U ?_; (case F => assumption); (case N => assumption); (case U => k_upd); (case a => decide); (case b => decide); (case e => rfl); intro h' F' N'; (try dsimp only at F' N'))
  | with_reducible refine ne_int ?_
  | with_reducible refine IfExp_ ?_
  | with_reducible refine wpAny_BinOp ?_
  | (with_reducible refine Call_ ?_ ?hm; (case hm => with_unfolding_all rfl))
  | (with_reducible refine' MethodCall_ ?_ ?hm; (case hm => with_unfolding_all rfl))
  | with_reducible refine args_nil ?_
  | (with_reducible refine args_cons ?_ ?hm; (case hm => with_unfolding_all rfl))
  | with_reducible refine GM.join ?_
  | (with_reducible refine Attribute_Name_ ?_ ?hm; (case hm => with_unfolding_all rfl))
  | ((with_reducible show wpAny _ _ (callWith _ (Value.type _) _ _ _) _ _ _); with_unfolding_all refine Pv.callWith_type1 ?_)
  | with_reducible refine P.ord_of_char ?_
  | with_reducible refine callWith_method0 ?_
  | (with_reducible refine PyProof.Rows.callWith_builtin1 ?_ ?hm ?hn; (case hm => with_unfolding_all rfl); (case hn => with_unfolding_all rfl))
  | (with_reducible refine callWith_method1 ?_ ?hm ?hn; (case hm => with_unfolding_all rfl); (case hn => with_unfolding_all rfl))
  | ((with_reducible show wpAny _ _ (callWith _ (Value.ref _) _ _ _) _ _ _); refine' callWith_G (by assumption) ?st ?k ?_ ?hm ?hn; (case hm => with_unfolding_all rfl); (case hn => with_unfolding_all rfl); (case k => k_is); (case st => walk_at "stays"))
  | with_reducible refine f_int ?_
  | with_reducible refine f_str ?_
  | ((with_reducible show wpAny _ _ (eval (Expr.Name _ _) _) _ _ _); walk_at "name")
  | (with_reducible refine isTrue_chain ?_ ?hm; (case hm => with_unfolding_all rfl))
  | with_reducible refine test_link ?_
  | (with_reducible refine test_link ?_)
  | ((with_reducible show wpAny _ _ (testChain _ _ [_] _) _ _ _); refine test_last ?_)
  | with_reducible refine ite_tt ?_
  | with_reducible refine ite_ff ?_
  | with_reducible refine le_int ?_
  | with_reducible refine lt_int ?_
  | with_reducible refine f_add ?_
  | with_reducible refine wpAny_truthy_bool ?_
  | (with_reducible refine wpAny_isTrue_Compare1 ?_ ?hm; (case hm => with_unfolding_all rfl))
  | ((with_reducible show wpAny _ _ (isTrue (Expr.Call _ _ _ _) _ _) _ _ _); (with_reducible refine isTrue_plain ?_ ?hm); (case hm => with_unfolding_all rfl)))


local macro_rules | `(tactic| walk_at "comp") => `(tactic| (
  refine' ListComp_inv ?hclos ?hcell ?hkind ?hnames ?hx ?hs ?_
  (case hclos => with_unfolding_all rfl)
  (case hcell => decide)
  (case hkind => exact rfl)
  (case hnames => decide)
  (case hx => exact rfl)
  (case hs => (intro _; with_unfolding_all rfl))))
local macro_rules | `(tactic| walk_at "comp=") => `(tactic| (
  refine' Assign_ListComp_inv ?hsw ?hclos ?hcell ?hkind ?hnames ?hx ?hs ?_
  (case hsw => with_unfolding_all rfl)
  (case hclos => with_unfolding_all rfl)
  (case hcell => decide)
  (case hkind => exact rfl)
  (case hnames => decide)
  (case hx => exact rfl)
  (case hs => (intro _; with_unfolding_all rfl))))

/-! the kinds of data: isinstance, and '== a text' -/
noncomputable def D.isSeq : D → Bool
  | .tup _ => true
  | .lst _ => true
  | _ => false
noncomputable def D.isSec : D → Bool
  | .sec _ _ _ => true
  | _ => false
noncomputable def D.isStr (y : Str) : D → Bool
  | .str x => x == y
  | _ => false
theorem sec_at {h : Heap} {a dx : Addr} {o : Obj} (p1 : h.get? a = some (instObj 50 dx)) (p2 : h.get? dx = some o) : InstAt h a (instObj 50 dx) 50 (some o) := ⟨p1, rfl, rfl, p2⟩
section
variable {prog : Program} {w : World} {A : Around} {E : Value → Shared → Prop} {s : Shared} {Q : Value → Shared → Prop}
theorem kitx_sec {a dx : Addr} {od : Obj} : KitX (hd.heap_39 w.params) (.ref a) (.ref 50) (fun h => InstAt h a (instObj 50 dx) 50 (some od)) := by
  refine' kitx_own ?a ?b ?c ?d ?e ?f
  all_goals k_is

theorem cmp_str (gd : Gd w s.heap) (hu : A.units < cLine) {d : D} {v : Value} (r : Rep (lies s.heap) d v) {y : Str} {u : Tok} (h : Q (.bool (d.isStr y)) s) : wpAny (model prog w) A (compareOp .Eq v (.str y u)) Q E s := by
  cases d with
  | none => simp only [Rep] at r; subst r; exact SeqAt.RcAt.none_str y u prog w E Q h
  | int i => simp only [Rep] at r; obtain ⟨t, rfl⟩ := r; exact SeqAt.RcAt.int_str i t y u prog w E Q h
  | str x => simp only [Rep] at r; obtain ⟨t, rfl⟩ := r; exact SeqAt.RcAt.str_str x t y u prog w E Q h
  | bytes b => simp only [Rep] at r; obtain ⟨t, rfl⟩ := r; exact eq_bytes_str b t y u h
  | tup l => simp only [Rep] at r; obtain ⟨a, vs, n, rfl, p, _⟩ := r; exact SeqAt.RcAt.tuple_str y u (l := a) (items := vs.toArray) ⟨_, p, rfl, _, rfl⟩ hu prog w E Q h
  | lst l => simp only [Rep] at r; obtain ⟨a, vs, n, rfl, p, _⟩ := r; exact SeqAt.RcAt.list_str y u (l := a) (items := vs.toArray) ⟨_, p, rfl, _, rfl⟩ hu prog w E Q h
  | sec path names par =>
    simp only [Rep] at r
    obtain ⟨a, dx, h1, h2, h3, h4, k1, k2, k3, k4, pa, na, wt, pv, nd, pvs, pn, nvs, nn, rfl, p1, p2, r⟩ := r
    refine' eq_inst_str (K := hd.heap_39 w.params) gd.X (sec_at p1 p2) hu ?e1 ?e2 rfl ?e3 y u h
    all_goals k_is

theorem isi_seq (gd : Gd w s.heap) {d : D} {v : Value} (r : Rep (lies s.heap) d v) {tp : Addr} {n : Nat} (htp : s.heap.get? tp = some (tupO [.type "tuple", .type "list"] n)) (h : ∀ tk, Q (.bool d.isSeq) { s with toks := tk }) :
    wpAny (model prog w) A (call (.builtin "isinstance") [v, .ref tp]) Q E s := by
  cases d with
  | none => simp only [Rep] at r; subst r; (refine' kia_tup kitx_none gd.X trivial htp ?e ?nb h; (case e => kit_is); (case nb => intro q; cases q))
  | int i => simp only [Rep] at r; obtain ⟨t, rfl⟩ := r; (refine' kia_tup kitx_int gd.X trivial htp ?e ?nb h; (case e => kit_is); (case nb => intro q; cases q))
  | str x => simp only [Rep] at r; obtain ⟨t, rfl⟩ := r; (refine' kia_tup kitx_str gd.X trivial htp ?e ?nb h; (case e => kit_is); (case nb => intro q; cases q))
  | bytes b => simp only [Rep] at r; obtain ⟨t, rfl⟩ := r; (refine' kia_tup kitx_bytes gd.X trivial htp ?e ?nb h; (case e => kit_is); (case nb => intro q; cases q))
  | tup l => simp only [Rep] at r; obtain ⟨a, vs, n, rfl, p, _⟩ := r; (refine' kia_tup kitx_tuple gd.X ⟨_, p, rfl⟩ htp ?e ?nb h; (case e => kit_is); (case nb => intro q; cases q))
  | lst l => simp only [Rep] at r; obtain ⟨a, vs, n, rfl, p, _⟩ := r; (refine' kia_tup kitx_list gd.X ⟨_, p, rfl⟩ htp ?e ?nb h; (case e => kit_is); (case nb => intro q; cases q))
  | sec path names par =>
    simp only [Rep] at r
    obtain ⟨a, dx, h1, h2, h3, h4, k1, k2, k3, k4, pa, na, wt, pv, nd, pvs, pn, nvs, nn, rfl, p1, p2, r⟩ := r
    (refine' kia_tup kitx_sec gd.X (sec_at p1 p2) htp ?e ?nb h; (case e => kit_is); (case nb => intro q; cases q))
theorem isi_sec (gd : Gd w s.heap) {d : D} {v : Value} (r : Rep (lies s.heap) d v) (h : ∀ tk, Q (.bool d.isSec) { s with toks := tk }) :
    wpAny (model prog w) A (call (.builtin "isinstance") [v, .ref 50]) Q E s := by
  cases d with
  | none => simp only [Rep] at r; subst r; (refine' kia_one kitx_none gd.X trivial ?e ?nb h; (case e => kit_is); (case nb => intro q; cases q))
  | int i => simp only [Rep] at r; obtain ⟨t, rfl⟩ := r; (refine' kia_one kitx_int gd.X trivial ?e ?nb h; (case e => kit_is); (case nb => intro q; cases q))
  | str x => simp only [Rep] at r; obtain ⟨t, rfl⟩ := r; (refine' kia_one kitx_str gd.X trivial ?e ?nb h; (case e => kit_is); (case nb => intro q; cases q))
  | bytes b => simp only [Rep] at r; obtain ⟨t, rfl⟩ := r; (refine' kia_one kitx_bytes gd.X trivial ?e ?nb h; (case e => kit_is); (case nb => intro q; cases q))
  | tup l => simp only [Rep] at r; obtain ⟨a, vs, n, rfl, p, _⟩ := r; (refine' kia_one kitx_tuple gd.X ⟨_, p, rfl⟩ ?e ?nb h; (case e => kit_is); (case nb => intro q; cases q))
  | lst l => simp only [Rep] at r; obtain ⟨a, vs, n, rfl, p, _⟩ := r; (refine' kia_one kitx_list gd.X ⟨_, p, rfl⟩ ?e ?nb h; (case e => kit_is); (case nb => intro q; cases q))
  | sec path names par =>
    simp only [Rep] at r
    obtain ⟨a, dx, h1, h2, h3, h4, k1, k2, k3, k4, pa, na, wt, pv, nd, pvs, pn, nvs, nn, rfl, p1, p2, r⟩ := r
    (refine' kia_one kitx_sec gd.X (sec_at p1 p2) ?e ?nb h; (case e => kit_is); (case nb => intro q; cases q))
theorem item_tup {value slice : Expr} {a : Addr} {vs : List Value} {n : Nat} {i : Int} {t : Tok} {v : Value} {Q : Value → Shared → Prop} (ho : s.heap.get? a = some (tupO vs n)) (h0 : 0 ≤ i) (h1 : i < vs.length) (hz : vs.length ≤ sizeLine)
    (hx : vs[i.toNat]? = some v) (h : Q v s) (hs : subscripted slice false (.ref a) (.int i t) = operate [.ref a, .int i t] (getItem (.ref a) (.int i t))) :
    wpAny (model prog w) A (subscriptTail value slice (.ref a) (.int i t)) Q E s := by
  rw [sizeLine_eq] at hz
  exact item_tupleT (l := vs) ⟨_, ho, rfl, n, rfl⟩ (by omega) (by omega) (j := i.toNat) (by simp [seqIndex?]; omega) hx h hs
theorem len_seq {d : D} {l : List D} {v : Value} (hd : d = .tup l ∨ d = .lst l) (hl : l.length ≤ sizeLine) (r : Rep (lies s.heap) d v) (h : ∀ t tk, Q (.int (l.length : Int) t) { s with toks := tk }) :
    wpAny (model prog w) A (call (.builtin "len") [v]) Q E s := by
  rw [sizeLine_eq] at hl
  rcases hd with rfl | rfl
  · simp only [Rep] at r; obtain ⟨a, vs, n, rfl, p, q⟩ := r
    have e := q.length
    exact len_tuple (items := vs.toArray) ⟨_, p, rfl, _, rfl⟩ (by rw [List.size_toArray]; omega) (by rw [List.size_toArray, e]; exact h _ _)
  · simp only [Rep] at r; obtain ⟨a, vs, n, rfl, p, q⟩ := r
    have e := q.length
    exact len_list (items := vs.toArray) ⟨_, p, rfl, _, rfl⟩ (by rw [List.size_toArray]; omega) (by rw [List.size_toArray, e]; exact h _ _)
theorem item_seq {value slice : Expr} {d d' : D} {l : List D} {v : Value} {i : Int} {t : Tok} (hd : d = .tup l ∨ d = .lst l) (hl : l.length ≤ sizeLine) (r : Rep (lies s.heap) d v) (h0 : 0 ≤ i) (hx : l[i.toNat]? = some d')
    (h : ∀ x, Rep (lies s.heap) d' x → Q x s) (hs : ∀ a, subscripted slice false (.ref a) (.int i t) = operate [.ref a, .int i t] (getItem (.ref a) (.int i t))) :
    wpAny (model prog w) A (subscriptTail value slice v (.int i t)) Q E s := by
  have hi : i.toNat < l.length := (List.getElem?_eq_some_iff.mp hx).1
  have hl' := hl
  rw [sizeLine_eq] at hl'
  rcases hd with rfl | rfl
  · simp only [Rep] at r; obtain ⟨a, vs, n, rfl, p, q⟩ := r
    have e := q.length
    obtain ⟨x, hx', rx⟩ := q.get hx
    exact item_tup p h0 (by omega) (by rw [e]; exact hl) hx' (h x rx) (hs a)
  · simp only [Rep] at r; obtain ⟨a, vs, n, rfl, p, q⟩ := r
    have e := q.length
    obtain ⟨x, hx', rx⟩ := q.get hx
    have hL : s.heap.IsList a vs.toArray := ⟨_, p, rfl, n, rfl⟩
    exact tail_any hL.typeIs slot_list_getitem.lookup (wpAny_getItem_list hL h0 (by omega) (by simpa using hx') (h x rx)) (hs a)
end

noncomputable def lc (c : Int) : Int := if 65 ≤ c ∧ c ≤ 90 then c + 32 else c
theorem lower_code_spec {prog : Program} {w : World} {A : Around} {s : Shared} {c : Int} {t : Tok} (gd : Gd w s.heap) (hr : A.depth < recursionLimit) :
    codeAny (model prog w) A (.call (.ref 21) ⟨[.int c t], []⟩) (Ret s [] fun v _ => ∃ t', v = .int (lc c) t') s := by
  refine' enter (binds := [(Str.ofString "code", .int c t)]) (by assumption) ?ho ?hcd ?hroom ?hbind ?hloc ?_ ?c2 ?c3 ?c4 ?c5
  walk_at "sides"
  intro h₁ tk F
  repeat walk_at "go"
  refine split_bool (fun h1 => ?_) (fun h1 => ?_)
  · repeat walk_at "go"
    refine split_bool (fun h2 => ?_) (fun h2 => ?_)
    · repeat walk_at "go"
      dsimp only
      simp only [decide_eq_true_eq] at h1 h2
      exact ⟨_, _, _, rfl, rfl, fun b o _ e => F.keep b o e, ktn_int (by simp [lc, h1, h2])⟩
    · repeat walk_at "go"
      dsimp only
      simp only [decide_eq_false_iff_not] at h1 h2
      exact ⟨_, _, _, rfl, rfl, fun b o _ e => F.keep b o e, ktn_int (by simp [lc, h2])⟩
  · repeat walk_at "go"
    dsimp only
    simp only [decide_eq_false_iff_not] at h1
    exact ⟨_, _, _, rfl, rfl, fun b o _ e => F.keep b o e, ktn_int (by simp [lc, h1])⟩


noncomputable def lowSigns (l : List Nat) : List Str := l.map fun (c : Nat) => (⟨#[(lc (c : Int)).toNat]⟩ : Str)
noncomputable def lowT (x : Str) : Str := Txt.join (Str.ofString "") (lowSigns x.cps.toList)
theorem lowSigns_take (l : List Nat) (i : Nat) (c : Nat) (h : l[i]? = some c) : lowSigns (l.take (i + 1)) = lowSigns (l.take i) ++ [⟨#[(lc (c : Int)).toNat]⟩] := by
  unfold lowSigns
  rw [List.take_add_one, h]; simp
theorem lc_range {c : Nat} (h : c < 128) : 0 ≤ lc (c : Int) ∧ lc (c : Int) ≤ 1114111 := by
  unfold lc; split <;> omega
theorem lower_text_spec {prog : Program} {w : World} {A : Around} {s : Shared} {x : Str} {t : Tok} (gd : Gd w s.heap) (hr : A.depth + 2 < recursionLimit) (hh : A.handled = none)
    (hx : ∀ c ∈ x.cps.toList, c < 128) (hlen : x.cps.size ≤ 100) :
    codeAny (model prog w) A (.call (.ref 26) ⟨[.str x t], []⟩) (Ret s [] fun v _ => ∃ t', v = .str (lowT x) t') s := by
  refine' enter (binds := [(Str.ofString "text", .str x t)]) (by assumption) ?ho ?hcd ?hroom ?hbind ?hloc ?_ ?c2 ?c3 ?c4 ?c5
  walk_at "sides"
  intro h₁ tk F
  repeat walk_at "go"
  walk_at "comp"
  repeat walk_at "go"
  refine wpAny_pyIter_str fun o St W st0 => ?_
  dsimp only at *
  refine ⟨_, rfl, _, _, _, _, _, [], fun i ys _ => ∃ l : List (Str × Tok), ys = strValues l ∧ l.map (·.1) = lowSigns (x.cps.toList.take i), W _ hh, by rw [sizeLine_eq]; omega, st0, ?_, by simp, fun _ _ _ _ q _ => q, ⟨[], rfl, rfl⟩, ?_, ?_⟩
  · intro b hb
    rw [List.mem_singleton.mp hb, Heap.size_push]
    exact Nat.lt_succ_self _
  · rintro i v ys s₃ cm hi ⟨c, u, hc, rfl⟩ ⟨l, rfl, hl⟩ hk hsz hn hcm E'
    have hst : s.heap.StaysIn s₃.heap := fun b o e => hk b o (by simp) (fun q => Nat.lt_irrefl _ (Nat.lt_of_lt_of_le (List.mem_singleton.mp q ▸ Heap.lt_size e) (Nat.le_of_lt F.ns.lt))) (Heap.get?_push_of_some _ (F.keep b o e))
    refine wpAny_tests_nil ?_
    repeat walk_at "go"
    refine call_of (lower_code_spec (gd.keeps hst) ?r) fun v h' tk' hext hv => ?_
    (case r => walk_at "room")
    obtain ⟨t', rfl⟩ := hv
    repeat walk_at "go"
    have hc128 : c < 128 := hx c (by rw [Array.mem_toList_iff]; exact Array.mem_of_getElem? hc)
    refine chr_of_range (lc_range hc128).1 (lc_range hc128).2 ?_
    refine ⟨h', _, rfl, hext, l ++ [(⟨#[(lc (c : Int)).toNat]⟩, tk')], ?_, ?_⟩
    · simp only [strValues, List.map_append, List.map_cons, List.map_nil]
    · rw [lowSigns_take _ _ c (by simpa using hc), ← hl]; simp
  · rintro h' tk' ys hpl hlen' ⟨l, rfl, hl⟩ hk
    repeat walk_at "go"
    rw [show List.take x.cps.size x.cps.toList = x.cps.toList from by rw [← Array.length_toList, List.take_length]] at hl
    refine SC.join (Heap.PlainList.isList hpl) hl ?_ fun t' k => ?_
    · have hsum : ∀ l : List Nat, ((lowSigns l).map (·.length)).sum = l.length := fun l => by
        induction l with
        | nil => rfl
        | cons a r ih =>
          show Str.length ⟨#[(lc (a : Int)).toNat]⟩ + ((lowSigns r).map (·.length)).sum = r.length + 1
          rw [ih]; show 1 + _ = _; omega
      refine joinOk_of ?_
      rw [hsum]
      have h0 : (Str.ofString "").length = 0 := by decide +kernel
      rw [h0, Array.length_toList]; omega
    · dsimp only
      refine ⟨_, _, _, rfl, rfl, fun b o _ e => hk b o (by simp) ?_ (Heap.get?_push_of_some _ (F.keep b o e)), _, rfl⟩
      exact fun q => Nat.lt_irrefl _ (Nat.lt_of_lt_of_le (List.mem_singleton.mp q ▸ Heap.lt_size e) (Nat.le_of_lt F.ns.lt))

noncomputable def fiveN : List Str := [Str.ofString "To", Str.ofString "x-A", Str.ofString "x-a", Str.ofString "TO", Str.ofString "Cc"]
noncomputable def lowN : List Str := [Str.ofString "cc", Str.ofString "to", Str.ofString "x-a"]
noncomputable def smallN (names : List Str) : List Str := lowN.filter fun x => (names.map lowT).contains x
noncomputable def ddI (ss : List Str) : Nat → List Str
  | 0 => []
  | i + 1 => ddI ss i ++ (if i = 0 ∨ ss[i]? ≠ ss[i - 1]? then ss[i]?.toList else [])
theorem dd0 : ddI [] 0 = lowN.filter fun x => ([] : List Str).contains x := by decide +kernel
theorem dd1 : ∀ a ∈ lowN, ddI [a] 1 = lowN.filter fun x => [a].contains x := by decide +kernel
theorem dd2 : ∀ a ∈ lowN, ∀ b ∈ lowN, sortedS [a, b] = true → ddI [a, b] 2 = lowN.filter fun x => [a, b].contains x := by decide +kernel
theorem dd3 : ∀ a ∈ lowN, ∀ b ∈ lowN, ∀ c ∈ lowN, sortedS [a, b, c] = true → ddI [a, b, c] 3 = lowN.filter fun x => [a, b, c].contains x := by decide +kernel
theorem low_five : ∀ x ∈ fiveN, lowT x ∈ lowN := by decide +kernel
theorem dd_law {names ss : List Str} (hl : names.length ≤ 3) (hn : ∀ x ∈ names, x ∈ fiveN) (hp : ss.Perm (names.map lowT)) (hs : sortedS ss = true) : ddI ss ss.length = smallN names := by
  have e : smallN names = lowN.filter fun x => ss.contains x := by
    unfold smallN
    congr 1
    funext x
    rw [Bool.eq_iff_iff, List.contains_iff_mem, List.contains_iff_mem]
    exact hp.mem_iff.symm
  have hm : ∀ x ∈ ss, x ∈ lowN := fun x hx => by
    obtain ⟨y, hy, rfl⟩ := List.mem_map.mp (hp.mem_iff.mp hx)
    exact low_five y (hn y hy)
  have hlen : ss.length ≤ 3 := by rw [hp.length_eq, List.length_map]; exact hl
  rw [e]
  match ss, hlen, hm, hs with
  | [], _, _, _ => exact dd0
  | [a], _, hm, _ => exact dd1 a (hm a (by simp))
  | [a, b], _, hm, hs => exact dd2 a (hm a (by simp)) b (hm b (by simp)) hs
  | [a, b, c], _, hm, hs => exact dd3 a (hm a (by simp)) b (hm b (by simp)) c (hm c (by simp)) hs
  | _ :: _ :: _ :: _ :: _, h, _, _ => exact absurd h (by simp)
theorem five_ascii : ∀ x ∈ fiveN, ∀ c ∈ x.cps.toList, c < 128 := by decide +kernel
theorem five_len : ∀ x ∈ fiveN, x.cps.size ≤ 100 := by decide +kernel
theorem rep_handed {π : Addr → Obj → Prop} {d : D} {v : Value} (r : Rep π d v) : handedIn v = true := by
  cases d <;> simp only [Rep] at r
  · subst r; rfl
  · obtain ⟨_, rfl⟩ := r; rfl
  · obtain ⟨_, rfl⟩ := r; rfl
  · obtain ⟨_, rfl⟩ := r; rfl
  · obtain ⟨_, _, _, rfl, _⟩ := r; rfl
  · obtain ⟨_, _, _, rfl, _⟩ := r; rfl
  · obtain ⟨_, _, _, _, _, _, _, _, _, _, _, _, _, _, _, _, _, _, _, rfl, _⟩ := r; rfl
theorem rep_ints {π : Addr → Obj → Prop} : ∀ {vs : List Value} {ns : List Int}, IntsAre vs ns → RepL π (ns.map .int) vs
  | _, _, .nil => .nil
  | _, _, .cons k t r => .cons .intI (rep_ints r)
theorem rep_strs {π : Addr → Obj → Prop} : ∀ {vs : List Value} {ns : List Str}, StrsAre vs ns → RepL π (ns.map .str) vs
  | _, _, .nil => .nil
  | _, _, .cons k t r => .cons .strI (rep_strs r)
local macro_rules | `(tactic| walk_at "attr") => `(tactic| (
  refine' get_own ?kF ?kX ?kI ?k4 ?k5 ?k6 ?k7 ?k8 ?k9 ?_
  (case kI => assumption)
  (case kF => assumption)
  (case kX => assumption)
  (case k4 => k_is)
  (case k5 => k_is)
  (case k6 => k_is)
  (case k7 => k_is)
  (case k8 => exact rfl)
  (case k9 => first | exact rfl | exact rep_handed (by assumption))))
theorem sec_told_spec {prog : Program} {w : World} {A : Around} {s : Shared} {P : Addr → Prop} {path : List Int} {names : List Str} {par : D} {a : Addr} (gd : Gd w s.heap) (hr : A.depth + 4 < recursionLimit) (hh : A.handled = none) (hu : A.units + 64 < cLine)
    (r : Rep (inP P s.heap) (.sec path names par) (.ref a)) (hl0 : names.length ≤ 3) (hn : ∀ x ∈ names, x ∈ fiveN) :
    codeAny (model prog w) A (.call (.ref 47) ⟨[.ref a], []⟩) (Ret s [] fun v h' => Rep (inP (fun a => P a ∨ s.heap.objs.size ≤ a) h') (.tup [.tup (path.map .int), .str (Str.ofString "HEADER.FIELDS"), .tup ((smallN names).map .str), par]) v) s := by
  simp only [Rep] at r
  obtain ⟨a', dx, h1, h20, h30, h40, k1, k2, k3, k40, pa, na, wt, pv, nd, pvs, pn, nvs, nn, e, ⟨p1, q1⟩, ⟨p2, q2⟩, ⟨p3, q3⟩, hpath, ⟨p4, q4⟩, hnames, rpar⟩ := r
  obtain rfl : a = a' := Value.ref.inj e
  refine' enterC (binds := [(Str.ofString "self", .ref a)]) (by assumption) ?ho ?hcd ?hroom ?hbind ?hkind ?hnd ?_ ?c2 ?c3 ?c4
  (case ho => k_is)
  (case hcd => k_is)
  (case hbind => exact BindsTo.of_eq rfl)
  (case hkind => exact rfl)
  (case hnd => decide +kernel)
  (case c2 => exact rfl)
  (case c3 => exact rfl)
  (case c4 => exact rfl)
  (case hroom => walk_at "room")
  intro h₁ tk cells F N Y
  k_cells Y
  rename_i o1 d1
  replace d1 : o1.data = .cell none := d1
  have I : InstAt h₁ a (instObj 50 dx) 50 (some (dictOf (secDict h1 h20 h30 h40 k1 k2 k3 k40 pa na wt pv) nd)) := sec_at (F.keep _ _ p1) (F.keep _ _ p2)
  have gX := gd.X
  repeat walk_at "go"
  walk_at "comp"
  repeat walk_at "go"
  walk_at "attr"
  have hna : IsTup h₁ na nvs.toArray := ⟨_, F.keep _ _ p4, rfl, _, rfl⟩
  refine wpAny_pyIter_tuple hna ?_
  dsimp only
  have hne : na ≠ h₁.objs.size := Nat.ne_of_lt (Heap.lt_size (F.keep _ _ p4))
  have hlen : nvs.length = names.length := hnames.len_eq
  refine ⟨_, rfl, _, _, _, _, _, [], fun i ys _ => ∃ l : List (Str × Tok), ys = strValues l ∧ l.map (·.1) = (names.take i).map lowT, Walks.tuple (A := A.deeper _) hh _ na hne nvs.toArray, ?_, ⟨⟨_, Heap.get?_push_size _ rfl, rfl, rfl⟩, hna.push _⟩, ?_, by simp, fun _ _ _ _ q _ => q, ⟨[], rfl, rfl⟩, ?_, ?_⟩
  · rw [sizeLine_eq, List.size_toArray]; omega
  · intro b hb
    rw [Heap.size_push]
    rcases List.mem_cons.mp hb with rfl | hb
    · exact Nat.lt_succ_self _
    · rw [List.mem_singleton.mp hb]; exact Nat.lt_succ_of_lt (Heap.lt_size (F.keep _ _ p4))
  · rintro i v ys s₃ cm hi hv ⟨l, rfl, hl⟩ hk hsz hnc hcm E'
    have hx₃ := ext_iter hk
    have hst : s.heap.StaysIn s₃.heap := ext_stays hx₃ F.keep
    obtain ⟨x, t, rfl, hx⟩ := strs_get hnames (by simpa using hv)
    refine wpAny_tests_nil ?_
    repeat walk_at "go"
    have hx5 := hn x (List.mem_of_getElem? hx)
    refine call_of (lower_text_spec (gd.keeps hst) ?r hh ?a ?b) fun v h' tk' hext hv => ?_
    (case r => walk_at "room")
    (case a => exact five_ascii x hx5)
    (case b => exact five_len x hx5)
    obtain ⟨t', rfl⟩ := hv
    refine ⟨h', _, rfl, hext, l ++ [(lowT x, t')], ?_, ?_⟩
    · simp only [strValues, List.map_append, List.map_cons, List.map_nil]
    · rw [List.map_append, hl, List.take_add_one, hx]; simp
  · rintro h' tk' ys hpl hlen' ⟨l, rfl, hl⟩ hk
    have hx₁ := ext_iter hk
    rw [show List.take nvs.toArray.size names = names from by rw [List.size_toArray, hlen, List.take_length]] at hl
    have hS1 := strsAre_of_values l
    rw [hl] at hS1
    have F1 := hx₁.fr F (by simp) (by simp)
    have N1 := hx₁.news N (by simp)
    clear hx₁ hk I hna
    repeat walk_at "go"
    refine sorted_N_str F1 N1 (Heap.PlainList.isList hpl) hS1 ?_ fun h2 vs' ss' e2 F2 N2 hS2 hp2 hs2 => ?_
    · have := hS1.len_eq
      rw [List.length_map] at this
      omega
    have hlt1 : s.heap.objs.size < h'.objs.size := F1.ns.lt
    clear F N F1 N1 hpl
    have hlen2 : ss'.length = names.length := by rw [hp2.length_eq, List.length_map]
    repeat walk_at "go"
    refine storeX_C F2 N2 (x := Str.ofString "small") (v₀ := none) rfl (.tail ?ne (.head ?all)) d1 ?_ rfl rfl
    (case ne => exact Nat.ne_of_gt (Nat.succ_lt_succ hlt1))
    (case all => exact fun _ h => nomatch h)
    intro h3 o3 F3 N3 d3
    dsimp only at N3
    have cell : ∀ h', Ext [] h3 h' → h'.IsCell (s.heap.objs.size + 1) (some (.ref (h'.objs.size + 1))) → True := fun _ _ _ => trivial
    clear cell F2 N2
    have hL2 : h3.IsList (h'.objs.size + 1) vs'.toArray := ⟨_, (N3 _ (.head _)).1, rfl, _, rfl⟩
    have hC : h3.get? (s.heap.objs.size + 1) = some o3 := (N3 _ (.tail _ (.head _))).1
    repeat walk_at "go"
    walk_at "comp"
    repeat walk_at "go"
    refine' nm_cell (c := s.heap.objs.size + 1) ⟨_, hC, d3⟩ ?_ rfl rfl rfl (by decide)
    repeat walk_at "go"
    have hvs : vs'.length = ss'.length := hS2.len_eq
    refine len_list hL2 (by rw [List.size_toArray]; omega) ?_
    repeat walk_at "go"
    refine range1_rows F3 N3 fun h4 tk4 t4 u4 v4 R4 F4 N4 k4 => ?_
    refine range_iter (n := vs'.length) R4 (small_one (by omega) (by omega) (by omega) (by rw [List.size_toArray]; omega)) ?_ fun o it => ?_
    · rw [rangeSize_nat, List.size_toArray]; omega
    dsimp only at it
    refine ⟨_, rfl, _, _, _, _, _, [], fun i ys _ => ∃ l : List (Str × Tok), ys = strValues l ∧ l.map (·.1) = ddI ss' i, Walks.range (A := A.deeper _) hh _ 0 1 vs'.length, ?_, it, ?_, by simp, fun _ _ _ _ q _ => q, ⟨[], rfl, rfl⟩, ?_, ?_⟩
    · rw [sizeLine_eq]; omega
    · intro b hb
      rw [List.mem_singleton.mp hb, Heap.size_push]
      exact Nat.lt_succ_self _
    · rintro i v ys s₃ cm hi ⟨t, rfl⟩ ⟨l, rfl, hl⟩ hk hsz hnc hcm E'
      have hx₃ := ext_iter hk
      have hL3 : s₃.heap.IsList (h'.objs.size + 1) vs'.toArray := ⟨_, hx₃ _ _ (by simp) (N4 _ (.head _)).1, rfl, _, rfl⟩
      have hC3 : s₃.heap.IsCell (s.heap.objs.size + 1) (some (.ref (h'.objs.size + 1))) := ⟨_, hx₃ _ _ (by simp) (N4 _ (.tail _ (.head _))).1, d3⟩
      simp only [Int.zero_add, Int.mul_one] at hcm
      have hi' : i < ss'.length := by omega
      obtain ⟨x, hx⟩ : ∃ x, ss'[i]? = some x := ⟨_, List.getElem?_eq_getElem hi'⟩
      obtain ⟨tx, hvx⟩ := hS2.get _ _ hx
      have hadd : ∀ (b : Bool), (b = true ↔ (i = 0 ∨ ss'[i]? ≠ ss'[i - 1]?)) → ddI ss' (i + 1) = ddI ss' i ++ (if b then [x] else []) := by
        intro b hb
        simp only [ddI]
        rw [hx]
        cases b with
        | true => rw [if_pos (hx ▸ hb.mp rfl)]; rfl
        | false => rw [if_neg (fun q => by have := hb.mpr (hx.symm ▸ q); cases this)]; rfl
      refine wpAny_tests_one ?_
      repeat walk_at "go"
      have okk : ∀ (tk' : Nat), ddI ss' (i + 1) = ddI ss' i ++ [x] → ∃ h' tk'', ({ s₃ with toks := tk' } : Shared) = { s₃ with heap := h', toks := tk'' } ∧ Ext [] s₃.heap h' ∧ ∃ l' : List (Str × Tok), strValues l ++ [.str x tx] = strValues l' ∧ l'.map (·.1) = ddI ss' (i + 1) :=
        fun tk' e => ⟨_, _, rfl, Ext.refl _ _, l ++ [(x, tx)], by simp only [strValues, List.map_append, List.map_cons, List.map_nil], by rw [List.map_append, hl, e]; rfl⟩
      refine split_bool (fun hz => ?_) (fun hz => ?_)
      · repeat walk_at "go"
        refine' nm_cell hC3 ?_ rfl rfl rfl (by decide)
        repeat walk_at "go"
        refine item_listR hL3 (by omega) (by omega) (x := .str x tx) (by simpa using hvx) ?_ (by with_unfolding_all rfl)
        have hz' : i = 0 := by simpa using hz
        exact okk _ (hadd true (by simp [hz']))
      · have hz' : i ≠ 0 := by simpa using hz
        obtain ⟨x0, hx0⟩ : ∃ x0, ss'[i - 1]? = some x0 := ⟨_, List.getElem?_eq_getElem (by omega)⟩
        obtain ⟨tx0, hvx0⟩ := hS2.get _ _ hx0
        repeat walk_at "go"
        refine' nm_cell hC3 ?_ rfl rfl rfl (by decide)
        repeat walk_at "go"
        refine item_listR hL3 (by omega) (by omega) (x := .str x tx) (by simpa using hvx) ?_ (by with_unfolding_all rfl)
        repeat walk_at "go"
        refine' nm_cell hC3 ?_ rfl rfl rfl (by decide)
        repeat walk_at "go"
        refine item_listR hL3 (by omega) (by omega) (x := .str x0 tx0) (by rw [show ((i : Int) - 1).toNat = i - 1 from by omega]; simpa using hvx0) ?_ (by with_unfolding_all rfl)
        refine ne_str ?_
        repeat walk_at "go"
        refine split_bool (fun hy => ?_) (fun hy => ?_)
        · have hy' : x ≠ x0 := by simpa using hy
          repeat walk_at "go"
          refine' nm_cell hC3 ?_ rfl rfl rfl (by decide)
          repeat walk_at "go"
          refine item_listR hL3 (by omega) (by omega) (x := .str x tx) (by simpa using hvx) ?_ (by with_unfolding_all rfl)
          exact okk _ (hadd true (by rw [hx, hx0]; simp [hy']))
        · have hy' : x = x0 := by simpa using hy
          repeat walk_at "go"
          exact ⟨_, _, rfl, Ext.refl _ _, l, rfl, by rw [hl, hadd false (by rw [hx, hx0]; simp [hy', hz'])]; simp⟩
    · rintro h5 tk5 ys hpl hlen5 ⟨l, rfl, hl⟩ hk
      have hx₁ := ext_iter hk
      have F5 := hx₁.fr F4 (by simp) (by simp)
      have N5 := hx₁.news N4 (by simp)
      rw [show vs'.length = ss'.length from hvs, dd_law hl0 hn hp2 hs2] at hl
      clear F4 N4 F3 N3 hk hx₁
      have hSl := strsAre_of_values l
      rw [hl] at hSl
      have hls : l.length ≤ 3 := by
        have := hSl.len_eq
        have h3 : (smallN names).length ≤ lowN.length := List.length_filter_le _ _
        have h4 : lowN.length = 3 := rfl
        simp only [strValues, List.length_map] at this
        omega
      repeat walk_at "go"
      refine kde_tupleOf F5 N5 (Heap.PlainList.isList hpl) (by simp only [strValues, List.size_toArray, List.length_map]; omega) rfl fun D h6 F6 N6 l6 => ?_
      repeat walk_at "go"
      rename_i h7 F7 N7
      have I7 : InstAt h7 a (instObj 50 dx) 50 (some (dictOf (secDict h1 h20 h30 h40 k1 k2 k3 k40 pa na wt pv) nd)) := sec_at (F7.keep _ _ p1) (F7.keep _ _ p2)
      clear F6 N6 F5 N5
      walk_at "attr"
      repeat walk_at "go"
      walk_at "attr"
      repeat walk_at "go"
      walk_at "attr"
      repeat walk_at "go"
      rename_i h8 a8 F8 N8 l8
      dsimp only
      refine ⟨_, _, _, rfl, rfl, fun b o _ e => F8.keep b o e, ?_⟩
      have lD : s.heap.objs.size ≤ D := Nat.le_of_lt (Nat.lt_trans (Nat.lt_succ_self _) (l6 (s.heap.objs.size + 1, o3) (by simp)))
      refine Rep.tupI (n := 0) ⟨(N8 _ (.head _)).1, .inr (Nat.le_of_lt l8)⟩ (.cons (Rep.tupI (n := pn) ⟨F8.keep _ _ p3, .inl q3⟩ (rep_ints hpath)) (.cons .strI (.cons (Rep.tupI (n := 0) ⟨(N8 _ (.tail _ (.head _))).1, .inr lD⟩ (rep_strs hSl)) (.cons (rpar.mono (fun b o e => ⟨F8.keep b o e.1, .inl e.2⟩) _ _) .nil))))

/-! what told_argument answers, in plain Lean -/
mutual
noncomputable def D.told : D → D
  | .tup l => .tup (D.toldL l)
  | .lst l => .tup (D.toldL l)
  | .sec path names par => .tup [.tup (path.map .int), .str (Str.ofString "HEADER.FIELDS"), .tup ((smallN names).map .str), par]
  | .none => .none
  | .int i => .int i
  | .str x => .str x
  | .bytes b => .bytes b
noncomputable def D.toldL : List D → List D
  | [] => []
  | d :: r => d.told :: D.toldL r
end
theorem toldL_map : ∀ l, D.toldL l = l.map D.told
  | [] => rfl
  | d :: r => by simp only [D.toldL, List.map_cons, toldL_map r]
mutual
/-- how far it leans to the left, at most -/
noncomputable def D.sp : D → Nat
  | .tup l => D.spL l
  | .lst l => D.spL l
  | _ => 0
noncomputable def D.spL : List D → Nat
  | [] => 0
  | _ :: r => D.spH r + 1
noncomputable def D.spH : List D → Nat
  | [] => 0
  | x :: _ => x.sp
end
noncomputable abbrev andS : Str := Str.ofString "and"
/-- data that told_argument tells within n frames -/
inductive Tb : Nat → D → Prop
  | leaf {n : Nat} {d : D} : d.isSeq = false → d.isSec = false → Tb n d
  | sec {n : Nat} {path : List Int} {names : List Str} {par : D} : names.length ≤ 3 → (∀ x ∈ names, x ∈ fiveN) → Tb n (.sec path names par)
  | tup {n : Nat} {l : List D} : l.length ≤ 2000 → (∀ d ∈ l, d.sp ≤ 2000) → (∀ d ∈ l, Tb n d) → Tb (n + 1) (.tup l)
  | lst {n : Nat} {l : List D} : l.length ≤ 2000 → (∀ d ∈ l, d.sp ≤ 2000) → (∀ d ∈ l, Tb n d) → Tb (n + 1) (.lst l)
  | andT {n : Nat} {x y : D} : Tb (n + 1) x → y.sp ≤ 2000 → Tb n y → Tb (n + 1) (.tup [.str andS, x, y])
theorem Tb.succ {n : Nat} {d : D} (h : Tb n d) : Tb (n + 1) d := by
  induction h with
  | leaf a b => exact .leaf a b
  | sec a b => exact .sec a b
  | tup a b _ ih => exact .tup a b ih
  | lst a b _ ih => exact .lst a b ih
  | andT _ b _ ih1 ih2 => exact .andT ih1 b ih2
/-- the shape that the while asks for -/
theorem Tb.split {n : Nat} {d : D} {l : List D} {y0 x y : D} (h : Tb n d) (hd : d = .tup l ∨ d = .lst l) (hl : l = [y0, x, y]) : ∃ k, n = k + 1 ∧ Tb n x ∧ Tb k y ∧ y.sp ≤ 2000 := by
  subst hl
  cases h with
  | leaf a b => rcases hd with rfl | rfl <;> simp [D.isSeq] at a
  | sec a b => rcases hd with h | h <;> cases h
  | tup a b c =>
    rcases hd with h | h <;> cases h
    exact ⟨_, rfl, (c x (by simp)).succ, c y (by simp), b y (by simp)⟩
  | lst a b c =>
    rcases hd with h | h <;> cases h
    exact ⟨_, rfl, (c x (by simp)).succ, c y (by simp), b y (by simp)⟩
  | andT a b c =>
    rcases hd with h | h <;> cases h
    exact ⟨_, rfl, a, c, b⟩
theorem Tb.items {n : Nat} {d : D} {l : List D} (h : Tb n d) (hd : d = .tup l ∨ d = .lst l) (hl : ¬ ∃ x y, l = [.str andS, x, y]) : ∃ k, n = k + 1 ∧ l.length ≤ 2000 ∧ ∀ e ∈ l, Tb k e ∧ e.sp ≤ 2000 := by
  cases h with
  | leaf a b => rcases hd with rfl | rfl <;> simp [D.isSeq] at a
  | sec a b => rcases hd with h | h <;> cases h
  | tup a b c => rcases hd with h | h <;> cases h; exact ⟨_, rfl, a, fun e he => ⟨c e he, b e he⟩⟩
  | lst a b c => rcases hd with h | h <;> cases h; exact ⟨_, rfl, a, fun e he => ⟨c e he, b e he⟩⟩
  | andT a b c => rcases hd with h | h <;> cases h; exact absurd ⟨_, _, rfl⟩ hl
theorem Tb.len {n : Nat} {d : D} {l : List D} (h : Tb n d) (hd : d = .tup l ∨ d = .lst l) : l.length ≤ 2000 := by
  cases h with
  | leaf a b => rcases hd with rfl | rfl <;> simp [D.isSeq] at a
  | sec a b => rcases hd with h | h <;> cases h
  | tup a b c => rcases hd with h | h <;> cases h; exact a
  | lst a b c => rcases hd with h | h <;> cases h; exact a
  | andT a b c => rcases hd with h | h <;> cases h; simp
/-- the rights put back upon what was left -/
noncomputable def unspine (x : D) (ys : List D) : D := ys.foldr (fun y acc => .tup [.str andS, acc, y.told]) x
theorem unspine_snoc (x : D) (ys : List D) (y : D) : unspine x (ys ++ [y]) = unspine (.tup [.str andS, x, y.told]) ys := by
  simp [unspine]
theorem told_and {d : D} {x y : D} (hd : d = .tup [.str andS, x, y] ∨ d = .lst [.str andS, x, y]) : d.told = .tup [.str andS, x.told, y.told] := by
  rcases hd with rfl | rfl <;> simp [D.told, D.toldL]
theorem sp_and {d : D} {y0 x y : D} (hd : d = .tup [y0, x, y] ∨ d = .lst [y0, x, y]) : d.sp = x.sp + 1 := by
  rcases hd with rfl | rfl <;> simp [D.sp, D.spL, D.spH]
theorem seq_cases {d : D} (h : d.isSeq = true) : ∃ l, d = .tup l ∨ d = .lst l := by
  cases d with
  | tup l => exact ⟨l, .inl rfl⟩
  | lst l => exact ⟨l, .inr rfl⟩
  | _ => simp [D.isSeq] at h
theorem isStr_eq {d : D} {y : Str} (h : d.isStr y = true) : d = .str y := by
  cases d <;> simp [D.isStr] at h
  rw [h]
theorem leaf_told {d : D} (h : d.isSeq = false) (h' : d.isSec = false) : d.told = d := by
  cases d <;> simp [D.isSeq, D.isSec] at h h' <;> simp [D.told]

theorem cut_at {M : Model} {A : Around} {E : Value → Shared → Prop} {s : Shared} {t : Sem Flow} {R : Flow → Shared → Prop} (P : Shared → Prop) (h : wpAny M A t (fun f s' => f = .next ∧ P s') E s) (k : ∀ s', P s' → R .next s') : wpAny M A t R E s :=
  wpAny_mono h (fun f s' q => by obtain ⟨rfl, p⟩ := q; exact k s' p) fun _ _ x => x

theorem rep_seq {π : Addr → Obj → Prop} {d : D} {l : List D} {v : Value} (hd : d = .tup l ∨ d = .lst l) (r : Rep π d v) : ∃ a vs n, v = .ref a ∧ (π a (tupO vs n) ∨ π a (listOf vs.toArray n)) ∧ RepL π l vs := by
  rcases hd with rfl | rfl
  · simp only [Rep] at r; obtain ⟨a, vs, n, e, p, q⟩ := r; exact ⟨a, vs, n, e, .inl p, q⟩
  · simp only [Rep] at r; obtain ⟨a, vs, n, e, p, q⟩ := r; exact ⟨a, vs, n, e, .inr p, q⟩
theorem item_at {prog : Program} {w : World} {A : Around} {E : Value → Shared → Prop} {s : Shared} {value slice : Expr} {a : Addr} {vs : List Value} {n : Nat} {i : Int} {t : Tok} {x : Value} {Q : Value → Shared → Prop}
    (ho : s.heap.get? a = some (tupO vs n) ∨ s.heap.get? a = some (listOf vs.toArray n)) (hz : vs.length ≤ sizeLine) (h0 : 0 ≤ i) (hx : vs[i.toNat]? = some x) (h : Q x s)
    (hs : subscripted slice false (.ref a) (.int i t) = operate [.ref a, .int i t] (getItem (.ref a) (.int i t))) : wpAny (model prog w) A (subscriptTail value slice (.ref a) (.int i t)) Q E s := by
  have hi : i.toNat < vs.length := (List.getElem?_eq_some_iff.mp hx).1
  have hz' := hz
  rw [sizeLine_eq] at hz'
  rcases ho with ho | ho
  · exact item_tup ho h0 (by omega) hz hx h hs
  · exact item_listR (items := vs.toArray) ⟨_, ho, rfl, n, rfl⟩ h0 (by omega) (by simpa using hx) h hs

theorem same_ext {a : Addr} {h h' : Heap} (e : Heap.SameBut a h h') : Ext [a] h h' := fun b o hb q => e.extBut b o (fun z => hb (by simp [z])) q
theorem one_news {g h h' : Heap} {L a : Addr} {o o' : Obj} {rest : List (Addr × Obj)} (N : News g L h ((a, o) :: rest)) (q : h'.get? a = some o') : News g L h' [(a, o')] := fun p hp => by
  rw [List.mem_singleton.mp hp]
  exact ⟨q, (N _ (.head _)).2⟩
theorem grown_fr {g h h' : Heap} {L a : Addr} {o : Obj} {m : Str → Option Value} {rest : List (Addr × Obj)} (F : Fr g L h m) (N : News g L h ((a, o) :: rest)) (e : Heap.SameBut a h h') : Fr g L h' m :=
  (same_ext e).fr F (fun b hb => by rw [List.mem_singleton.mp hb]; exact (N _ (.head _)).2.2) (fun q => (N _ (.head _)).2.1 (List.mem_singleton.mp q).symm)

theorem shadow {x : Str} {v v' : Value} {m : Str → Option Value} : (fun y => if y = x then some v else if y = x then some v' else m y) = fun y => if y = x then some v else m y := by
  funext y
  by_cases h : y = x <;> simp [h]

theorem seq_iter {prog : Program} {w : World} {A : Around} {E : Value → Shared → Prop} {s : Shared} {a : Addr} {vs : List Value} {n : Nat} {Q : Value → Shared → Prop}
    (ho : s.heap.get? a = some (tupO vs n) ∨ s.heap.get? a = some (listOf vs.toArray n)) (hh : A.handled = none)
    (h : ∀ o St, Walks prog w A s.heap.objs.size [s.heap.objs.size, a] [s.heap.objs.size] vs.length (fun i v => vs[i]? = some v) St → St 0 (s.heap.push o) → Q (.ref s.heap.objs.size) { s with heap := s.heap.push o }) :
    wpAny (model prog w) A (pyIter (.ref a)) Q E s := by
  rcases ho with ho | ho
  · have hT : s.heap.IsTuple a vs.toArray := ⟨_, ho, rfl, _, rfl⟩
    have W := Walks.tuple (prog := prog) (w := w) (A := A) hh s.heap.objs.size a (Nat.ne_of_lt (Heap.lt_size ho)) vs.toArray
    simp only [List.size_toArray, List.getElem?_toArray] at W
    exact wpAny_pyIter_tuple hT (h _ _ W ⟨⟨_, Heap.get?_push_size _ rfl, rfl, rfl⟩, hT.push _⟩)
  · have hT : s.heap.IsList a vs.toArray := ⟨_, ho, rfl, _, rfl⟩
    have W := Walks.list (prog := prog) (w := w) (A := A) hh s.heap.objs.size a (Nat.ne_of_lt (Heap.lt_size ho)) vs.toArray
    simp only [List.size_toArray, List.getElem?_toArray] at W
    exact wpAny_pyIter_list hT (h _ _ W ⟨⟨_, Heap.get?_push_size _ rfl, rfl, rfl⟩, hT.push _⟩)
theorem toldL_take : ∀ (l : List D) (i : Nat) (e : D), l[i]? = some e → D.toldL (l.take (i + 1)) = D.toldL (l.take i) ++ [e.told] := fun l i e h => by
  rw [toldL_map, toldL_map, List.take_add_one, h]; simp

theorem store_ext {M : Model} {A : Around} {E : Value → Shared → Prop} {s : Shared} {g : Heap} {L a : Addr} {m : Str → Option Value} {cn : Str} {cs : Scope} {ccd : Value} {cl : List (Str × Addr)}
    {x : Str} {v : Value} {Q : Unit → Shared → Prop} {news : List (Addr × Obj)} (F : Fr g L s.heap m) (N : News g L s.heap news)
    (h : ∀ h', Fr g L h' (fun y => if y = x then some v else m y) → News g L h' news → Ext [L] s.heap h' → Q () { s with heap := h', toks := s.toks + 1 })
    (hk : cs.kind = .function) (hx : (envX cn cs L a ccd cl).kindOf x = some .local) : wpAny M A (storeName (envX cn cs L a ccd cl) x v) Q E s :=
  wpAny_storeName_local hx F.ns (fun h' hn hs => h h' (F.set hn hs) (N.set hs) (same_ext hs)) (by show (cs.kind == .class || (cs.kind == .module && L != mainGlobals)) = false; rw [hk]; rfl)

theorem tuple_of_list {prog : Program} {w : World} {A : Around} {E : Value → Shared → Prop} {s : Shared} {l : Addr} {vs : List Value} {Q : Value → Shared → Prop} (hl : s.heap.IsList l vs.toArray) (hz : vs.length ≤ sizeLine)
    (k : ∀ h' D, Ext [] s.heap h' → h'.get? D = some (tupO vs 0) → (∀ b o, s.heap.get? b = some o → b < D) → Q (.ref D) { s with heap := h' }) : wpAny (model prog w) A (call (.type "tuple") [.ref l]) Q E s :=
  call_tuple_list hl (fun h' hk => k _ _ (fun b o _ e => Heap.get?_push_of_some _ (hk b o e)) (Heap.get?_push_size _ rfl) fun b o e => Heap.lt_size (hk b o e)) (by rw [List.size_toArray]; exact hz)
theorem tuple_ext {prog : Program} {w : World} {A : Around} {E : Value → Shared → Prop} {s : Shared} {vs : List Value} {Q : Value → Shared → Prop} (hz : vs.length ≤ sizeLine)
    (k : ∀ h' D, Ext [] s.heap h' → h'.get? D = some (tupO vs 0) → (∀ b o, s.heap.get? b = some o → b < D) → Q (.ref D) { s with heap := h' }) : wpAny (model prog w) A (newTuple vs) Q E s :=
  wpAny_newObj_type (k _ _ (fun b o _ e => Heap.get?_push_of_some _ e) (Heap.get?_push_size _ rfl) fun b o e => Heap.lt_size e) (by show vs.toArray.size ≤ sizeLine; rw [List.size_toArray]; exact hz)
theorem ns_at {h : Heap} {L : Addr} {m : Str → Option Value} (n : h.Ns L m) : ∃ o, h.get? L = some o := let ⟨o, _, _, e, _⟩ := n; ⟨o, e⟩

theorem told_seq {d : D} {l : List D} (h : d = .tup l ∨ d = .lst l) : d.told = .tup (D.toldL l) := by rcases h with rfl | rfl <;> simp [D.told]

local macro_rules | `(tactic| walk_at "gox") => `(tactic| first
  | ((with_reducible show wpAny _ _ (storeName _ _ _) _ _ _); refine' store_ext ?F ?N ?_ ?a ?b; (case F => assumption); (case N => assumption); (case a => exact rfl); (case b => exact rfl); intro h' F' N' e'; (try dsimp only at F' N' e'))
  | walk_at "go")
def ToldSpec (prog : Program) (w : World) (n : Nat) : Prop := ∀ (A : Around) (s : Shared) (d : D) (v : Value) (P : Addr → Prop), Gd w s.heap → A.depth + n + 8 < recursionLimit → A.units + 3 * n + 80 < cLine → A.handled = none →
    Tb n d → d.sp ≤ 2000 → Rep (inP P s.heap) d v →
    codeAny (model prog w) A (.call (.ref 89) ⟨[v], []⟩) (Ret s [] fun v' h' => Rep (inP (fun a => P a ∨ s.heap.objs.size ≤ a) h') d.told v') s

def ToldP1 (s : Shared) (n : Nat) (d : D) (v : Value) (P : Addr → Prop) (r : Addr) : Shared → Prop :=
  fun s' => ∃ (h : Heap) (tk : Nat) (dc : D) (vc : Value) (yD : List D) (ys : List Value) (nr : Nat), s' = { s with heap := h, toks := tk } ∧
    Fr s.heap s.heap.objs.size h (fun y => if y = Str.ofString "here" then some vc else if y = Str.ofString "rights" then some (.ref r) else List.lookup y [(Str.ofString "value", v)].reverse) ∧
    News s.heap s.heap.objs.size h [(r, listOf ys.toArray nr)] ∧ Tb n dc ∧ Rep (inP P s.heap) dc vc ∧ RepL (inP P s.heap) yD ys ∧ (∀ y ∈ yD, ∃ j, n = j + 1 ∧ Tb j y ∧ y.sp ≤ 2000) ∧ d.told = unspine dc.told yD ∧ yD.length + dc.sp ≤ 2000 ∧
    (∀ l, dc = .tup l ∨ dc = .lst l → ¬ ∃ x y, l = [.str andS, x, y])
def ToldP2 (s : Shared) (n : Nat) (d : D) (v : Value) (P : Addr → Prop) (r : Addr) : Nat → Shared → Prop :=
  fun k s' => ∃ (h : Heap) (tk : Nat) (dc : D) (vc : Value) (yD : List D) (ys : List Value) (nr : Nat), s' = { s with heap := h, toks := tk } ∧
      Fr s.heap s.heap.objs.size h (fun y => if y = Str.ofString "here" then some vc else if y = Str.ofString "rights" then some (.ref r) else List.lookup y [(Str.ofString "value", v)].reverse) ∧
      News s.heap s.heap.objs.size h [(r, listOf ys.toArray nr)] ∧ Tb n dc ∧ Rep (inP P s.heap) dc vc ∧ RepL (inP P s.heap) yD ys ∧ (∀ y ∈ yD, ∃ j, n = j + 1 ∧ Tb j y ∧ y.sp ≤ 2000) ∧ d.told = unspine dc.told yD ∧ yD.length + dc.sp ≤ 2000 ∧ k = dc.sp
def ToldP3 (s : Shared) (dc : D) (vc v : Value) (P : Addr → Prop) (r : Addr) (ys : List Value) (nr : Nat) : Shared → Prop :=
  fun s' => ∃ (h' : Heap) (tk' : Nat) (vf : Value), s' = { s with heap := h', toks := tk' } ∧
      Fr s.heap s.heap.objs.size h' (fun y => if y = Str.ofString "found" then some vf else if y = Str.ofString "here" then some vc else if y = Str.ofString "rights" then some (.ref r) else List.lookup y [(Str.ofString "value", v)].reverse) ∧
      News s.heap s.heap.objs.size h' [(r, listOf ys.toArray nr)] ∧ Rep (inP (fun a => (P a ∨ s.heap.objs.size ≤ a) ∧ a ≠ s.heap.objs.size) h') dc.told vf
def ToldP4 (s : Shared) (dc : D) (P : Addr → Prop) (yD : List D) : Shared → Prop :=
  fun s' => ∃ (h6 : Heap) (tk6 : Nat) (m6 : Str → Option Value) (vf : Value), s' = { s with heap := h6, toks := tk6 } ∧ h6.Ns s.heap.objs.size m6 ∧ m6 (Str.ofString "found") = some vf ∧ s.heap.StaysIn h6 ∧
        Rep (inP (fun a => P a ∨ s.heap.objs.size ≤ a) h6) (unspine dc.told yD) vf
theorem told_step {prog : Program} {w : World} (n : Nat) (ih : ∀ k, n = k + 1 → ToldSpec prog w k) : ToldSpec prog w n := by
  intro A s d v P gd hr hun hh htb hsp hrep
  refine' enter (binds := [(Str.ofString "value", v)]) (by assumption) ?ho ?hcd ?hroom ?hbind ?hloc ?_ ?c2 ?c3 ?c4 ?c5
  walk_at "sides"
  intro h₁ tk F
  have N : News s.heap s.heap.objs.size h₁ [] := fun _ h => nomatch h
  repeat walk_at "go"
  rename_i h2 r F1 N1 l1 h3 F2 N2 h4 F3 N3
  clear F1 N1 F N F2 N2
  refine cut_at (ToldP1 s n d v P r) ?_ ?_
  · refine wpAny_While ?_
    refine codeAny_whileLoop (ToldP2 s n d v P r) ?_ d.sp ?_
    · rintro k s' ⟨h, tk, dc, vc, yD, ys, nr, rfl, F4, N4, htc, hrc, hry, hyt, heq, hlen, rfl⟩
      clear F3 N3
      have hrc4 : Rep (lies h) dc vc := hrc.mono (fun b o e => F4.keep b o e.1) _ _
      repeat walk_at "go"
      rename_i h5 a5 F5 N5 l5
      refine isi_seq ?g5 (hrc.mono (fun b o e => F5.keep b o e.1) _ _) (N5 _ (.head _)).1 fun tk5 => ?_
      (case g5 => exact gd.keeps F5.keep)
      refine wpAny_truthy_bool ?_
      have N5' : News s.heap s.heap.objs.size h5 [(r, listOf ys.toArray nr)] := fun p hp => N5 p (.tail _ hp)
      clear F4 N4 hrc4
      cases hseq : dc.isSeq with
      | false =>
        repeat walk_at "go"
        exact ⟨rfl, h5, tk5, dc, vc, yD, ys, nr, rfl, F5, N5', htc, hrc, hry, hyt, heq, hlen, fun l hl => by rcases hl with rfl | rfl <;> simp [D.isSeq] at hseq⟩
      | true =>
        obtain ⟨l, hl⟩ := seq_cases hseq
        have hll := htc.len hl
        have same : ∀ l', dc = .tup l' ∨ dc = .lst l' → l' = l := fun l' hl' => by
          rcases hl with rfl | rfl <;> rcases hl' with h | h <;> cases h <;> rfl
        repeat walk_at "go"
        have hrc5 := hrc.mono (π' := lies h5) (fun b o e => F5.keep b o e.1)
        refine len_seq hl (by rw [sizeLine_eq]; omega) hrc5 fun t6 tk6 => ?_
        repeat walk_at "go"
        refine split_bool (fun h3 => ?_) (fun h3 => ?_)
        · have h3' : l.length = 3 := by
            have := of_decide_eq_true (p := ((l.length : Int) = 3)) h3
            omega
          obtain ⟨y0, x, y, hxy⟩ : ∃ y0 x y, l = [y0, x, y] := by
            match l, h3' with
            | [a, b, c], _ => exact ⟨a, b, c, rfl⟩
          repeat walk_at "go"
          refine item_seq hl (by rw [sizeLine_eq]; omega) hrc5 (by decide) (d' := y0) (by rw [hxy]; rfl) (fun x0 hx0 => ?_) (fun _ => by with_unfolding_all rfl)
          repeat walk_at "go"
          refine' cmp_str ?g6 ?u6 ?r6 ?_
          (case r6 => exact hx0)
          (case g6 => exact gd.keeps F5.keep)
          (case u6 => walk_at "room")
          repeat walk_at "go"
          refine split_bool (fun h0 => ?_) (fun h0 => ?_)
          · have hy0 := isStr_eq h0
            subst hy0
            obtain ⟨k, hnk, htx, hty, hyp⟩ := htc.split hl hxy
            obtain ⟨a, vs, na, rfl, hva, hrl⟩ := rep_seq hl hrc
            rw [hxy] at hrl
            simp only [RepL] at hrl
            obtain ⟨v0, _, rfl, _, v1, _, rfl, hx1, v2, _, rfl, hx2, rfl⟩ := hrl
            have hva5 := hva.imp (fun e => F5.keep _ _ e.1) (fun e => F5.keep _ _ e.1)
            clear hrc5 N5
            repeat walk_at "go"
            refine' kl_method ?N ?m slot_list_append PySem.F.type_list_append ?_
            (case N => exact N5')
            (case m => exact .head _)
            try dsimp only
            repeat walk_at "go"
            refine item_at hva5 (by simp [sizeLine_eq]) (by decide) (x := v2) rfl ?_ (by with_unfolding_all rfl)
            repeat walk_at "go"
            have hyl : ys.length = yD.length := hry.length
            refine' append_at ?al ?az fun h6 n6 hs6 hg6 => ?_
            (case al => exact (N5' _ (.head _)).1)
            (case az => rw [sizeLine_eq]; omega)
            have F6 := grown_fr F5 N5' hs6
            have N6 := one_news N5' hg6
            try dsimp only
            clear hrc hs6 hg6
            have hva6 := hva.imp (fun e => F6.keep _ _ e.1) (fun e => F6.keep _ _ e.1)
            clear hva hva5
            repeat walk_at "go"
            refine item_at hva6 (by simp [sizeLine_eq]) (by decide) (x := v1) rfl ?_ (by with_unfolding_all rfl)
            repeat walk_at "go"
            rename_i h7 F7 N7
            rw [shadow] at F7
            have hd3 : dc = .tup [.str andS, x, y] ∨ dc = .lst [.str andS, x, y] := by rw [← hxy]; exact hl
            have hspe := sp_and hd3
            refine ⟨x.sp, by omega, h7, _, x, v1, yD ++ [y], ys ++ [v2], n6, rfl, F7, N7, htx, hx1, hry.append (.one hx2), ?_, ?_, ?_, rfl⟩
            · intro z hz
              rcases List.mem_append.mp hz with hz | hz
              · exact hyt z hz
              · rw [List.mem_singleton.mp hz]; exact ⟨k, hnk, hty, hyp⟩
            · rw [heq, told_and hd3, unspine_snoc]
            · rw [List.length_append, List.length_singleton]; omega
          · repeat walk_at "go"
            refine ⟨rfl, h5, _, dc, vc, yD, ys, nr, rfl, F5, N5', htc, hrc, hry, hyt, heq, hlen, fun l' hl' ⟨x', y', e⟩ => ?_⟩
            rw [same l' hl', hxy] at e
            cases e
            simp [D.isStr] at h0
        · repeat walk_at "go"
          refine ⟨rfl, h5, _, dc, vc, yD, ys, nr, rfl, F5, N5', htc, hrc, hry, hyt, heq, hlen, fun l' hl' ⟨x', y', e⟩ => ?_⟩
          rw [same l' hl'] at e
          rw [e] at h3
          simp at h3
    · exact ⟨h4, _, d, v, [], [], 0, rfl, F3, fun p hp => N3 p hp, htb, hrep, .nil, (fun _ h => nomatch h), rfl, by simpa using hsp, rfl⟩
  · rintro s' ⟨h, tk, dc, vc, yD, ys, nr, rfl, F4, N4, htc, hrc, hry, hyt, heq, hlen, hnot⟩
    clear F3 N3
    try dsimp only
    refine wpAny_execs_cons ?_
    have hrc' : Rep (inP (fun a => P a ∧ a < s.heap.objs.size) s.heap) dc vc := hrc.mono (fun b o e => ⟨e.1, e.2, Heap.lt_size e.1⟩) _ _
    have hry' : RepL (inP (fun a => P a ∧ a < s.heap.objs.size) s.heap) yD ys := hry.mono (fun b o e => ⟨e.1, e.2, Heap.lt_size e.1⟩) _ _
    clear hrc hry
    refine cut_at (ToldP3 s dc vc v P r ys nr) ?_ ?_
    · repeat walk_at "go"
      refine' isi_sec ?g ?r1 fun tk5 => ?_
      (case r1 => exact hrc'.mono (fun b o e => F4.keep b o e.1) _ _)
      (case g => exact gd.keeps F4.keep)
      refine wpAny_truthy_bool ?_
      have hLs : s.heap.objs.size < h.objs.size := F4.ns.lt
      cases hsec : dc.isSec with
      | true =>
        cases dc with
        | sec path names par =>
          have r0 := hrc'
          simp only [Rep] at r0
          obtain ⟨a, dx, h1, h20, h30, h40, k1, k2, k3, k40, pa, na, wt, pv, nd, pvs, pn, nvs, nn, rfl, ⟨p1, q1⟩, ⟨p2, q2⟩, _⟩ := r0
          have I : InstAt h a (instObj 50 dx) 50 (some (dictOf (secDict h1 h20 h30 h40 k1 k2 k3 k40 pa na wt pv) nd)) := sec_at (F4.keep _ _ p1) (F4.keep _ _ p2)
          have hns : names.length ≤ 3 ∧ ∀ x ∈ names, x ∈ fiveN := by
            cases htc with
            | leaf a b => simp [D.isSec] at b
            | sec a b => exact ⟨a, b⟩
          repeat walk_at "go"
          refine' method_inst F4 gd.X I ?k4 ?k5 ?k6 ?k7 ?_
          (case k4 => k_is)
          (case k5 => k_is)
          (case k6 => k_is)
          (case k7 => exact rfl)
          try dsimp only
          refine' callWith_K0 ?cx ?ck ?_
          (case cx => exact gd.X.keeps F4.keep)
          (case ck => k_is)
          refine' call_of (sec_told_spec ?g2 ?r2 hh ?u2 (hrc'.mono (fun b o e => ⟨F4.keep b o e.1, e.2⟩) _ _) hns.1 hns.2) ?_
          (case g2 => exact gd.keeps F4.keep)
          (case r2 => walk_at "room")
          (case u2 => walk_at "room")
          intro v' h' tk' hext hv'
          have F5 := hext.fr F4 (by simp) (by simp)
          have N5 := hext.news N4 (by simp)
          clear F4 N4 I
          repeat walk_at "gox"
          rename_i h6 F6 N6 e6
          refine ⟨rfl, h6, _, v', rfl, F6, N6, hv'.mono (fun b o e => ?_) _ _⟩
          have hb : b ≠ s.heap.objs.size := by
            rcases e.2 with q | q
            · exact Nat.ne_of_lt q.2
            · exact Nat.ne_of_gt (Nat.lt_of_lt_of_le hLs q)
          exact ⟨e6 b o (by simpa using hb) e.1, e.2.imp (·.1) (fun q => Nat.le_of_lt (Nat.lt_of_lt_of_le hLs q)), hb⟩
        | _ => simp [D.isSec] at hsec
      | false =>
        repeat walk_at "go"
        rename_i h5 a5 F5 N5 l5
        refine' isi_seq ?g5 ?r5 (N5 _ (.head _)).1 fun tk5 => ?_
        (case r5 => exact hrc'.mono (fun b o e => F5.keep b o e.1) _ _)
        (case g5 => exact gd.keeps F5.keep)
        refine wpAny_truthy_bool ?_
        have N5' : News s.heap s.heap.objs.size h5 [(r, listOf ys.toArray nr)] := fun p hp => N5 p (.tail _ hp)
        clear F4 N4 N5
        cases hseq : dc.isSeq with
        | false =>
          repeat walk_at "gox"
          rename_i h6 F6 N6 e6
          refine ⟨rfl, h6, _, vc, rfl, F6, N6, ?_⟩
          rw [leaf_told hseq hsec]
          refine hrc'.mono (fun b o e => ⟨F6.keep _ _ e.1, .inl e.2.1, Nat.ne_of_lt e.2.2⟩) _ _
        | true =>
          obtain ⟨l, hl⟩ := seq_cases hseq
          obtain ⟨k, hnk, hll, hitems⟩ := htc.items hl (hnot l hl)
          obtain ⟨a, vs, na, rfl, hva, hrl⟩ := rep_seq hl hrc'
          have hva5 := hva.imp (fun e => F5.keep _ _ e.1) (fun e => F5.keep _ _ e.1)
          have hal : a < s.heap.objs.size := hva.elim (fun e => e.2.2) (fun e => e.2.2)
          clear hva
          repeat walk_at "go"
          walk_at "comp"
          repeat walk_at "go"
          have hL5 : s.heap.objs.size < h5.objs.size := F5.ns.lt
          have ha5 : a < h5.objs.size := Nat.lt_trans hal hL5
          refine' seq_iter ?sho hh fun o St W st0 => ?_
          (case sho => exact hva5)
          try dsimp only at *
          refine ⟨_, rfl, _, _, _, _, _, [], fun i zs H => RepL (inP (fun b => (P b ∨ s.heap.objs.size ≤ b) ∧ b ≠ s.heap.objs.size ∧ b ≠ h5.objs.size ∧ b ≠ (h5.push o).objs.size ∧ b ≠ (h5.push o).objs.size + 1) H) (D.toldL (l.take i)) zs, W, ?_, st0, ?_, by simp, ?_, ?_, ?_, ?_⟩
          · rw [sizeLine_eq, hrl.length]; omega
          · intro b hb
            rw [Heap.size_push]
            rcases List.mem_cons.mp hb with rfl | hb
            · exact Nat.lt_succ_self _
            · rw [List.mem_singleton.mp hb]; exact Nat.lt_succ_of_lt ha5
          · intro i zs H H' hI hk
            exact hI.mono (fun b o e => ⟨hk b o (by simpa using e.2.2.2.1) e.2.2.2.2.1 e.2.2.2.2.2 e.1, e.2⟩) _ _
          · exact .nil
          · rintro i v zs s₃ cm hi hv hI hk hsz hnc hcm E'
            have hx₃ := ext_iter hk
            have hst : s.heap.StaysIn s₃.heap := ext_stays hx₃ F5.keep
            obtain ⟨e, hle, hre⟩ := hrl.getV hv
            obtain ⟨hte, hse⟩ := hitems e (List.mem_of_getElem? hle)
            refine wpAny_tests_nil ?_
            repeat walk_at "go"
            refine' call_of (ih k hnk _ _ e v (fun a => P a ∧ a < s.heap.objs.size) (gd.keeps hst) ?r3 ?u3 hh hte hse ?rr3) ?_
            (case r3 => walk_at "room")
            (case u3 => walk_at "room")
            (case rr3 => exact hre.mono (fun b o q => ⟨hst b o q.1, q.2⟩) _ _)
            intro v' h' tk' hext hv'
            refine ⟨h', _, rfl, hext, ?_⟩
            rw [toldL_take l i e hle]
            refine (hI.mono (fun b o q => ⟨hext b o (by simp) q.1, q.2⟩) _ _).append (.one (hv'.mono (fun b ob q => ⟨q.1, ?_⟩) _ _))
            have hz : (h5.push o).objs.size = h5.objs.size + 1 := Heap.size_push ..
            have hsz' : @LE.le Nat _ (h5.objs.size + 3) s₃.heap.objs.size := by dsimp only at hsz; rw [hz] at hsz; exact hsz
            have hL5' : @LT.lt Nat _ s.heap.objs.size h5.objs.size := hL5
            rcases q.2 with q | q
            · obtain ⟨q1, q2⟩ : P b ∧ @LT.lt Nat _ b s.heap.objs.size := q
              exact ⟨.inl q1, Nat.ne_of_lt q2, Nat.ne_of_lt (by omega), Nat.ne_of_lt (by omega), Nat.ne_of_lt (by omega)⟩
            · have q2 : @LE.le Nat _ s₃.heap.objs.size b := q
              exact ⟨.inr (show @LE.le Nat _ _ _ by omega), Nat.ne_of_gt (by omega), Nat.ne_of_gt (by omega), Nat.ne_of_gt (by omega), Nat.ne_of_gt (by omega)⟩
          · rintro h6 tk6 zs hpl hlen6 hI hk
            have hx₁ := ext_iter hk
            rw [List.take_of_length_le (by rw [hrl.length]; exact Nat.le_refl _)] at hI
            have F6 := hx₁.fr F5 (by simp) (by simp)
            have N6 := hx₁.news N5' (by simp)
            clear F5 N5' hk
            repeat walk_at "gox"
            refine tuple_of_list (vs := zs) (Heap.PlainList.isList hpl) ?_ fun h7 D7 e7 g7 lt7 => ?_
            · rw [sizeLine_eq]; have := hrl.length; omega
            obtain ⟨oL, hoL⟩ := ns_at F6.ns
            have hD7 := lt7 _ _ hoL
            have F7 := e7.fr F6 (by simp) (by simp)
            have N7 := e7.news N6 (by simp)
            clear F6 N6
            try dsimp only
            repeat walk_at "gox"
            rename_i h8 F8 N8 e8
            refine ⟨rfl, h8, _, .ref D7, rfl, F8, N8, ?_⟩
            rw [told_seq hl]
            refine Rep.tupI (n := 0) ⟨e8 _ _ (by simpa using Nat.ne_of_gt hD7) g7, .inr (Nat.le_of_lt hD7), Nat.ne_of_gt hD7⟩ (hI.mono (fun b o q => ⟨e8 _ _ (by simpa using q.2.2.1) (e7 _ _ (by simp) q.1), q.2.1, q.2.2.1⟩) _ _)
    · rintro s' ⟨h', tk', vf, rfl, F5, N5, hrf⟩
      clear F4 N4
      try dsimp only
      refine wpAny_execs_cons ?_
      refine cut_at (ToldP4 s dc P yD) ?_ ?_
      · refine wpAny_For ?_ (fun _ => by with_unfolding_all rfl)
        repeat walk_at "go"
        have es : ys.toArray.size = yD.length := by simp [hry'.length]
        refine' call_reversed_list (l := r) (items := ys.toArray) ?rl ?_
        (case rl => exact ⟨_, (N5 _ (.head _)).1, rfl, _, rfl⟩)
        try dsimp only
        have F6 := F5.push (revObj r ((ys.toArray.size : Int) - 1))
        have N6 := News.push F5 N5 (revObj r ((ys.toArray.size : Int) - 1))
        have h0r : Rep (inP (fun a => (P a ∨ s.heap.objs.size ≤ a) ∧ a ≠ s.heap.objs.size ∧ a ≠ h'.objs.size) (h'.push (revObj r ((ys.toArray.size : Int) - 1)))) dc.told vf :=
          hrf.mono (fun b o q => ⟨Heap.get?_push_of_some _ q.1, q.2.1, q.2.2, Nat.ne_of_lt (Heap.lt_size q.1)⟩) _ _
        have hrI : r < h'.objs.size := Heap.lt_size (N5 _ (.head _)).1
        have hLI : s.heap.objs.size < h'.objs.size := F5.ns.lt
        generalize hI : h'.objs.size = I at *
        generalize h'.push (revObj r ((ys.toArray.size : Int) - 1)) = h6 at *
        refine wpAny_pyIter_revIter (l := r) (i := (ys.toArray.size : Int) - 1) ⟨_, (N6 _ (.head _)).1, rfl, rfl⟩ ?_
        refine' for_loop (Walks.listRev (A := A.deeper _) hh I r (Nat.ne_of_lt hrI) ys.toArray) ?fx ?fp ?fL ?fst F6.ns [] (by simp)
          (fun i m H => ∃ vf, m (Str.ofString "found") = some vf ∧ Rep (inP (fun a => (P a ∨ s.heap.objs.size ≤ a) ∧ a ≠ s.heap.objs.size ∧ a ≠ I) H) (unspine dc.told (yD.drop (yD.length - i))) vf) ?stab ?h0 ?step ?hR
        (case fx => exact rfl)
        (case fp => exact rfl)
        (case fL =>
          intro q
          rcases List.mem_cons.mp q with e | q
          · exact Nat.ne_of_lt hLI e
          · exact Nat.ne_of_lt l1 (List.mem_singleton.mp q))
        (case fst =>
          refine ⟨Nat.zero_le _, ⟨_, (N6 _ (.head _)).1, rfl, ?_⟩, ⟨_, (N6 _ (.tail _ (.head _))).1, rfl, _, rfl⟩⟩
          simp [revObj])
        (case stab =>
          rintro i m H H' ⟨vf, hm, hr⟩ hk
          exact ⟨vf, hm, hr.mono (fun b o q => ⟨hk b o (by simpa using q.2.2.2) q.2.2.1 q.1, q.2⟩) _ _⟩)
        (case h0 =>
          refine ⟨_, rfl, ?_⟩
          rw [Nat.sub_zero, List.drop_length]
          exact h0r)
        (case hR =>
          rintro h7 tk7 m7 hn7 ⟨vf, hm, hr⟩ hk
          rw [es, Nat.sub_self, List.drop_zero] at hr
          refine ⟨rfl, h7, tk7, m7, vf, rfl, hn7, hm, fun b o e => ?_, hr.mono (fun b o q => ⟨q.1, q.2.1⟩) _ _⟩
          have hb := Heap.lt_size e
          exact hk b o (by simp) (by simpa using Nat.ne_of_lt (Nat.lt_trans hb hLI)) (Nat.ne_of_lt hb) (F6.keep b o e))
        (case step =>
          rintro i v1 m s₁ ⟨hs1, tks, rfl⟩ hi hv hSt ⟨vf, hm, hrv⟩ hn hk E'
          obtain ⟨oI, hoI0, _, _⟩ := hSt.2.1
          have hst : s.heap.StaysIn hs1 := fun b o e => by
            have hb := Heap.lt_size e
            exact hk b o (by simp) (by simpa using Nat.ne_of_lt (Nat.lt_trans hb hLI)) (Nat.ne_of_lt hb) (F6.keep b o e)
          rw [es] at hi hv
          obtain ⟨y, hly, hre⟩ := hry'.getV (by simpa using hv)
          obtain ⟨k, hnk, hty, hyp⟩ := hyt y (List.mem_of_getElem? hly)
          have hlt1 : s.heap.objs.size < hs1.objs.size := hn.lt
          have q1 : (fun z => if z = Str.ofString "one" then some v1 else m z) (Str.ofString "found") = some vf := by
            show (if _ then _ else _) = _
            rw [if_neg (by decide)]; exact hm
          have q2 : (fun z => if z = Str.ofString "one" then some v1 else m z) (Str.ofString "one") = some v1 := if_pos rfl
          try dsimp only at hn
          generalize (fun z => if z = Str.ofString "one" then some v1 else m z) = m1 at hn q1 q2
          clear F6 N6 F5 N5
          repeat walk_at "go"
          refine' call_of (ih k hnk _ _ y v1 (fun a => P a ∧ a < s.heap.objs.size) (gd.keeps hst) ?r3 ?u3 hh hty hyp ?rr3) ?_
          (case r3 => walk_at "room")
          (case u3 => walk_at "room")
          (case rr3 => exact hre.mono (fun b o q => ⟨hst b o q.1, q.2⟩) _ _)
          intro v' h8 tk8 hext hv'
          have hn8 := hext.ns hn (by simp)
          clear hn
          repeat walk_at "go"
          refine' tuple_ext ?tz fun h9 D9 e9 g9 lt9 => ?_
          (case tz => simp [sizeLine_eq])
          have hn9 := e9.ns hn8 (by simp)
          obtain ⟨oL, hoL⟩ := ns_at hn8
          have hD9 := lt9 _ _ hoL
          have hoI := hext I _ (by simp) hoI0
          have hD9I := lt9 _ _ hoI
          clear hn8
          try dsimp only
          refine wpAny_storeName_local rfl hn9 (fun h10 hn10 hs10 => ?_) rfl
          have e10 := same_ext hs10
          repeat walk_at "go"
          refine ⟨h10, _, _, rfl, fun b o _ hb e => e10 b o (by simpa using hb) (e9 b o (by simp) (hext b o (by simp) e)), hn10, .ref D9, if_pos rfl, ?_⟩
          have hly' : yD[yD.length - (i + 1)]? = some y := by
            rw [show yD.length - (i + 1) = yD.length - 1 - i from by omega]; exact hly
          have hj : yD.length - (i + 1) < yD.length := by omega
          rw [List.drop_eq_getElem_cons hj, show yD[yD.length - (i + 1)] = y from by rw [List.getElem?_eq_getElem hj] at hly'; exact Option.some.inj hly', show yD.length - (i + 1) + 1 = yD.length - i from by omega]
          have up : ∀ b o, b ≠ s.heap.objs.size → h8.get? b = some o → h10.get? b = some o := fun b o hb e => e10 b o (by simpa using hb) (e9 b o (by simp) e)
          refine Rep.tupI (n := 0) ⟨e10 _ _ (by simpa using Nat.ne_of_gt hD9) g9, .inr (Nat.le_of_lt hD9), Nat.ne_of_gt hD9, Nat.ne_of_gt hD9I⟩ (.cons .strI (.cons (hrv.mono (fun b o q => ⟨up b o q.2.2.1 (hext b o (by simp) q.1), q.2⟩) _ _) (.cons (hv'.mono (fun b o q => ?_) _ _) .nil)))
          have hI1 : I < hs1.objs.size := Heap.lt_size hoI0
          rcases q.2 with z | z
          · obtain ⟨z1, z2⟩ : P b ∧ b < s.heap.objs.size := z
            exact ⟨up b o (Nat.ne_of_lt z2) q.1, .inl z1, Nat.ne_of_lt z2, Nat.ne_of_lt (Nat.lt_trans z2 hLI)⟩
          · have z2 : hs1.objs.size ≤ b := z
            exact ⟨up b o (Nat.ne_of_gt (Nat.lt_of_lt_of_le hlt1 z2)) q.1, .inr (Nat.le_of_lt (Nat.lt_of_lt_of_le hlt1 z2)), Nat.ne_of_gt (Nat.lt_of_lt_of_le hlt1 z2), Nat.ne_of_gt (Nat.lt_of_lt_of_le hI1 z2)⟩)
      · rintro s' ⟨h6, tk6, m6, vf, rfl, n6, hm6, st6, hr6⟩
        try dsimp only
        repeat walk_at "go"
        try dsimp only
        exact ⟨_, _, _, rfl, rfl, fun b o _ e => st6 b o e, heq ▸ hr6⟩

theorem told_spec {prog : Program} {w : World} : ∀ n, ToldSpec prog w n
  | 0 => told_step 0 (fun _ h => by cases h)
  | n + 1 => told_step (n + 1) (fun k h => by obtain rfl : n = k := Nat.succ.inj h; exact told_spec n)


def cellOk (v : Value) : Prop := ∃ i t, v = .int i t ∧ 0 ≤ i ∧ i < 10 ^ 60
theorem cellsInts : ∀ {l : List Value}, (∀ v ∈ l, cellOk v) → ∃ ns, IntsAre l ns
  | [], _ => ⟨[], .nil⟩
  | v :: r, h => by
    obtain ⟨i, t, rfl, _⟩ := h v (.head _)
    obtain ⟨ns, hn⟩ := cellsInts fun x hx => h x (.tail _ hx)
    exact ⟨i :: ns, .cons i t hn⟩
/-- the urn's two objects: its list, and the cells -/
def UrnO (u c : Addr) (uo co : Obj) (B : Int) : Prop :=
  ∃ a b q cs t1 t2 t3 n nc, uo = listOf #[.ref c, .int a t1, .int b t2, .int q t3] n ∧ co = listOf (List.toArray cs) nc ∧ u ≠ c ∧
    (∀ v ∈ cs, cellOk v) ∧ cs.length ≤ 64 ∧ 0 ≤ a ∧ a < 10 ^ 60 ∧ 0 ≤ b ∧ b ≤ B ∧ 0 ≤ q ∧ q < 2 ^ 20
def Urn (h : Heap) (u c : Addr) (B : Int) : Prop := ∃ uo co, UrnO u c uo co B ∧ h.get? u = some uo ∧ h.get? c = some co
theorem Urn.mono {h : Heap} {u c : Addr} {B B' : Int} (U : Urn h u c B) (k : B ≤ B') : Urn h u c B' := by
  obtain ⟨uo, co, ⟨a, b, q, cs, t1, t2, t3, n, nc, e1, e2, e3, e4, e5, e6, e7, e8, e9, e10⟩, hu, hc⟩ := U
  exact ⟨uo, co, ⟨a, b, q, cs, t1, t2, t3, n, nc, e1, e2, e3, e4, e5, e6, e7, e8, Int.le_trans e9 k, e10⟩, hu, hc⟩
theorem Urn.ext {h h' : Heap} {u c : Addr} {B : Int} (U : Urn h u c B) (k : ∀ b o, b = u ∨ b = c → h.get? b = some o → h'.get? b = some o) : Urn h' u c B :=
  let ⟨uo, co, O, a, b⟩ := U; ⟨uo, co, O, k _ _ (.inl rfl) a, k _ _ (.inr rfl) b⟩
theorem Urn.lt {h : Heap} {u c : Addr} {B : Int} (U : Urn h u c B) : u < h.objs.size ∧ c < h.objs.size :=
  let ⟨_, _, _, a, b⟩ := U; ⟨Heap.lt_size a, Heap.lt_size b⟩

theorem pull_spec {prog : Program} {w : World} {A : Around} {s : Shared} {G : Heap} {u c : Addr} {many B : Int} {t : Tok} (gd : Gd w G) (st : G.StaysIn s.heap)
    (hr : A.depth < recursionLimit) (hun : A.units + 70 < cLine) (U : Urn s.heap u c B) (h1 : 1 ≤ many) (h2 : many < 2000) (hB : B < 2 ^ 30) :
    codeAny (model prog w) A (.call (.ref 101) ⟨[.ref u, .int many t], []⟩) (Ret s [u, c] fun v h' => (∃ d t', v = .int d t' ∧ 0 ≤ d ∧ d < many) ∧ Urn h' u c (B + 1)) s := by
  obtain ⟨uo, co, ⟨a, b, q, cs, t1, t2, t3, n, nc, rfl, rfl, huc, hcs, hlen, ha0, ha1, hb0, hb1, hq0, hq1⟩, hU, hC⟩ := U
  have gd' := gd.keeps st
  have huc' : @Ne Nat u c := huc
  refine' enter (binds := [(Str.ofString "urn", .ref u), (Str.ofString "many", .int many t)]) (by assumption) ?ho ?hcd ?hroom ?hbind ?hloc ?_ ?c2 ?c3 ?c4 ?c5
  walk_at "sides"
  intro h₁ tk F₀
  have F : Fr (hideAll s.heap [u, c]) s.heap.objs.size h₁ (fun y => List.lookup y [(Str.ofString "urn", Value.ref u), (Str.ofString "many", Value.int many t)].reverse) :=
    ⟨F₀.ns, fun x o e => F₀.keep x o (of_hideAll _ e), Nat.le_of_eq (hideAll_size _ _)⟩
  have N : News (hideAll s.heap [u, c]) s.heap.objs.size h₁ [(u, listOf #[.ref c, .int a t1, .int b t2, .int q t3] n), (c, listOf cs.toArray nc)] := by
    intro p hp
    rcases List.mem_cons.mp hp with rfl | hp
    · exact ⟨F₀.keep _ _ hU, Nat.ne_of_lt (Heap.lt_size hU), hideAll_none _ (by simp)⟩
    · rw [List.mem_singleton.mp hp]
      exact ⟨F₀.keep _ _ hC, Nat.ne_of_lt (Heap.lt_size hC), hideAll_none _ (by simp)⟩
  clear F₀
  refine cut_stmt (fun s' => ∃ (h' : Heap) (tk' : Nat) (a' : Int) (cs' : List Value) (n' nc' : Nat) (t1' : Tok), s' = { s with heap := h', toks := tk' } ∧
    Fr (hideAll s.heap [u, c]) s.heap.objs.size h' (fun y => List.lookup y [(Str.ofString "urn", Value.ref u), (Str.ofString "many", Value.int many t)].reverse) ∧
    News (hideAll s.heap [u, c]) s.heap.objs.size h' [(u, listOf #[.ref c, .int a' t1', .int b t2, .int q t3] n'), (c, listOf cs'.toArray nc')] ∧
    (∀ v ∈ cs', cellOk v) ∧ cs'.length ≤ 64 ∧ 0 ≤ a' ∧ a' < 10 ^ 60) ?_ ?_
  · repeat walk_at "go"
    refine split_bool (fun hz => ?_) (fun hz => ?_)
    · repeat walk_at "go"
      rename_i h2 a2 F2 N2 _
      obtain ⟨ns, hns⟩ := cellsInts hcs
      refine ne_intsK (vs := cs) (ns := ns) (us := []) (ms := []) ⟨_, (N2 _ (.tail _ (.tail _ (.head _)))).1, rfl, _, rfl⟩ hns ⟨_, (N2 _ (.head _)).1, rfl, _, rfl⟩ .nil ?_ ?_
      · walk_at "room"
      repeat walk_at "go"
      refine split_bool (fun he => ?_) (fun he => ?_)
      · have N3 : News _ _ _ [(u, listOf #[.ref c, .int a t1, .int b t2, .int q t3] n), (c, listOf cs.toArray nc)] := fun p hp => N2 p (.tail _ hp)
        obtain ⟨v, r, rfl⟩ : ∃ v r, cs = v :: r := by
          cases hns with
          | nil => simp at he
          | cons k t r => exact ⟨_, _, rfl⟩
        obtain ⟨i, ti, rfl, hi0, hi1⟩ := hcs _ (.head _)
        repeat walk_at "go"
        refine kl_method N3 (.tail _ (.head _)) PySem.F.slot_list_pop PySem.F.type_list_pop ?_
        repeat walk_at "go"
        refine kl_popAt F2 N3 (k := 0) (p := []) (q := r) (y := .int i ti) rfl ?_ rfl (.tail huc (.head fun _ h => nomatch h)) ?_ fun h3 F3 N4 => ?_
        · simp [seqIndex?]
        · rw [sizeLine_eq]; simp at hlen ⊢; omega
        repeat walk_at "go"
        rename_i h4 F4 N5
        exact ⟨rfl, _, _, i, r, n, nc + 1, ti, rfl, F4, N5, fun x hx => hcs x (.tail _ hx), by simp at hlen; omega, hi0, hi1⟩
      · repeat walk_at "go"
        refine ⟨rfl, _, _, a, cs, n, nc, t1, rfl, F2, fun p hp => N2 p (.tail _ hp), hcs, hlen, ha0, ha1⟩
    · repeat walk_at "go"
      exact ⟨rfl, _, _, a, cs, n, nc, t1, rfl, F, N, hcs, hlen, ha0, ha1⟩
  · rintro s' ⟨h', tk', a', cs', n', nc', t1', rfl, F', N', hcs', hlen', ha0', ha1'⟩
    clear F N
    repeat walk_at "go"
    dsimp only
    rename_i hF FF NN
    have hm : 0 < many := by omega
    have e1 : a'.fdiv many = a' / many := Int.fdiv_eq_ediv_of_nonneg _ (by omega)
    have e2 : a' / many ≤ a' := Int.ediv_le_self _ ha0'
    have e3 : 0 ≤ a' / many := Int.ediv_nonneg ha0' (by omega)
    exact ⟨_, _, _, rfl, rfl, fun x o hb e => FF.keep x o (hideAll_get _ e hb), ⟨_, _, rfl, Int.fmod_nonneg_of_pos _ hm, Int.fmod_lt_of_pos _ hm⟩,
      _, _, ⟨a'.fdiv many, b + 1, q, cs', _, _, _, _, _, rfl, rfl, huc, hcs', hlen', by omega, by omega, by omega, by omega, hq0, hq1⟩, (NN _ (.head _)).1, (NN _ (.tail _ (.head _))).1⟩


/-- a frame's state beside the urn: its names, the urn, its cells, what it has made -/
structure Sit (g : Heap) (L : Addr) (m : Str → Option Value) (u c : Addr) (B : Int) (cs : List (Addr × Option Value)) (post : List (Addr × Obj)) (h : Heap) : Prop where
  F : Fr g L h m
  urn : Urn h u c B
  get' : ∀ p ∈ post, h.get? p.1 = some p.2
  cell : ∀ q ∈ cs, h.IsCell q.1 q.2
  lo : ∀ p ∈ post, L < p.1 ∧ p.1 ≠ u ∧ p.1 ≠ c ∧ (∀ q ∈ cs, p.1 ≠ q.1)
  clo : ∀ q ∈ cs, q.1 ≠ L ∧ q.1 ≠ u ∧ q.1 ≠ c ∧ g.get? q.1 = none
  uL : u ≠ L ∧ g.get? u = none
  cL : c ≠ L ∧ g.get? c = none
/-- the addresses above all that lie -/
def Over (h : Heap) (a : Addr) : Prop := ∀ b o, h.get? b = some o → b < a
theorem Over.of_le {h : Heap} {a : Addr} (k : h.objs.size ≤ a) : Over h a := fun _ _ e => Nat.lt_of_lt_of_le (Heap.lt_size e) k
theorem Over.none {g h : Heap} {a : Addr} (k : g.StaysIn h) (o : Over h a) : g.get? a = none := by
  cases e : g.get? a with
  | none => rfl
  | some x => exact absurd (o _ _ (k _ _ e)) (Nat.lt_irrefl _)
section
variable {prog : Program} {w : World} {A : Around} {E : Value → Shared → Prop} {s : Shared} {G g h : Heap} {L u c : Addr} {m : Str → Option Value} {B B' : Int} {cs : List (Addr × Option Value)} {post : List (Addr × Obj)}
theorem Sit.get (S : Sit g L m u c B cs post h) {a : Addr} {o : Obj} (hm : (a, o) ∈ post) : h.get? a = some o := S.get' _ hm
theorem Sit.fresh {s₀ : Heap} (S : Sit g L m u c B cs post h) (e : s₀.objs.size = L) {tl : List (Addr × Obj)} (sub : ∀ p ∈ tl, p ∈ post) : Fresh s₀ h tl :=
  fun p hp => ⟨S.get (sub p hp), fun b o q => Nat.lt_trans (Heap.lt_size q) (e ▸ (S.lo p (sub p hp)).1)⟩
theorem Sit.up (S : Sit g L m u c B cs post h) (k : B ≤ B') : Sit g L m u c B' cs post h := { S with urn := S.urn.mono k }
theorem Sit.sub {post' : List (Addr × Obj)} (S : Sit g L m u c B cs post h) (k : ∀ p ∈ post', p ∈ post) : Sit g L m u c B cs post' h := { S with get' := fun p hp => S.get' p (k p hp), lo := fun p hp => S.lo p (k p hp) }
theorem Sit.atL (S : Sit g L m u c B cs post h) : ∃ o, h.get? L = some o := let ⟨o, _, _, e, _⟩ := S.F.ns; ⟨o, e⟩
theorem Sit.atU (S : Sit g L m u c B cs post h) : (∃ o, h.get? u = some o) ∧ ∃ o, h.get? c = some o := let ⟨_, _, _, a, b⟩ := S.urn; ⟨⟨_, a⟩, ⟨_, b⟩⟩
theorem Sit.fresh_lo {h' : Heap} {tl : List (Addr × Obj)} (S : Sit g L m u c B cs post h) (fr : Fresh h h' tl) : ∀ p ∈ tl, L < p.1 ∧ p.1 ≠ u ∧ p.1 ≠ c ∧ (∀ q ∈ cs, p.1 ≠ q.1) := fun p hp => by
  have k := (fr p hp).2
  obtain ⟨_, e1⟩ := S.atL
  obtain ⟨⟨_, e2⟩, ⟨_, e3⟩⟩ := S.atU
  exact ⟨k _ _ e1, Nat.ne_of_gt (k _ _ e2), Nat.ne_of_gt (k _ _ e3), fun q hq => let ⟨_, e4, _⟩ := S.cell q hq; Nat.ne_of_gt (k _ _ e4)⟩
/-- behind a call that turned the urn alone -/
theorem Sit.after {h' : Heap} {tl : List (Addr × Obj)} (S : Sit g L m u c B cs post h) (ext : Ext [u, c] h h') (U : Urn h' u c B') (fr : Fresh h h' tl) : Sit g L m u c B' cs (tl ++ post) h' := by
  have off : ∀ a, a ≠ u → a ≠ c → a ∉ [u, c] := fun a h1 h2 q => by
    rcases List.mem_cons.mp q with e | q
    · exact h1 e
    · exact h2 (List.mem_singleton.mp q)
  refine ⟨ext.fr S.F (fun b q => ?_) (off L S.uL.1.symm S.cL.1.symm), U, fun p hp => ?_, fun q hq => ?_, fun p hp => ?_, S.clo, S.uL, S.cL⟩
  · rcases List.mem_cons.mp q with e | q
    · rw [e]; exact S.uL.2
    · rw [List.mem_singleton.mp q]; exact S.cL.2
  · rcases List.mem_append.mp hp with hp | hp
    · exact (fr p hp).1
    · exact ext _ _ (off _ (S.lo p hp).2.1 (S.lo p hp).2.2.1) (S.get' p hp)
  · obtain ⟨o, e, d⟩ := S.cell q hq
    exact ⟨o, ext _ _ (off _ (S.clo q hq).2.1 (S.clo q hq).2.2.1) e, d⟩
  · rcases List.mem_append.mp hp with hp | hp
    · exact S.fresh_lo fr p hp
    · exact S.lo p hp
/-- behind a step that turned nothing -/
theorem Sit.step {h' : Heap} {tl : List (Addr × Obj)} (S : Sit g L m u c B cs post h) (ext : Ext [] h h') (fr : Fresh h h' tl) : Sit g L m u c B cs (tl ++ post) h' :=
  S.after (ext.mono (fun _ h => nomatch h)) (S.urn.ext fun b o _ e => ext b o (by simp) e) fr
theorem Sit.step0 {h' : Heap} (S : Sit g L m u c B cs post h) (ext : Ext [] h h') : Sit g L m u c B cs post h' := S.step (tl := []) ext (fun _ h => nomatch h)
theorem Sit.stored {h' : Heap} {m' : Str → Option Value} (S : Sit g L m u c B cs post h) (hn : h'.Ns L m') (hs : Heap.SameBut L h h') : Sit g L m' u c B cs post h' := by
  have k : ∀ b o, b ≠ L → h.get? b = some o → h'.get? b = some o := fun b o hb e => hs.extBut b o hb e
  refine ⟨⟨hn, fun b o e => k b o (fun q => ?_) (S.F.keep b o e), S.F.above⟩, S.urn.ext fun b o hb e => k b o (fun q => ?_) e, fun p hp => k _ _ (Nat.ne_of_gt (S.lo p hp).1) (S.get' p hp), fun q hq => ?_, S.lo, S.clo, S.uL, S.cL⟩
  · exact Nat.lt_irrefl _ (Nat.lt_of_lt_of_le (q ▸ Heap.lt_size e) S.F.above)
  · rcases hb with hb | hb
    · exact S.uL.1 (hb ▸ q)
    · exact S.cL.1 (hb ▸ q)
  · obtain ⟨o, e, d⟩ := S.cell q hq
    exact ⟨o, k _ _ (S.clo q hq).1 e, d⟩
theorem Sit.celled {h' : Heap} {k : Addr} {v₀ v : Option Value} {cs' : List (Addr × Option Value)} (S : Sit g L m u c B cs post h) (hk : (k, v₀) ∈ cs) (hv : h'.IsCell k v) (hs : Heap.SameBut k h h')
    (hc : ∀ q ∈ cs', q = (k, v) ∨ (q ∈ cs ∧ q.1 ≠ k)) : Sit g L m u c B cs' post h' := by
  have kl := S.clo _ hk
  have up : ∀ b o, b ≠ k → h.get? b = some o → h'.get? b = some o := fun b o hb e => hs.extBut b o hb e
  have hin : ∀ q ∈ cs', ∃ q' ∈ cs, q'.1 = q.1 := fun q hq => by
    rcases hc q hq with rfl | ⟨h1, _⟩
    · exact ⟨_, hk, rfl⟩
    · exact ⟨q, h1, rfl⟩
  refine ⟨⟨S.F.ns.sameBut hs (Ne.symm kl.1), fun b o e => up b o (fun q => ?_) (S.F.keep b o e), S.F.above⟩, S.urn.ext fun b o hb e => up b o (fun q => ?_) e, fun p hp => up _ _ ((S.lo p hp).2.2.2 _ hk) (S.get' p hp), fun q hq => ?_, fun p hp => ?_, fun q hq => ?_, S.uL, S.cL⟩
  · rw [q, kl.2.2.2] at e; cases e
  · rcases hb with hb | hb
    · exact kl.2.1 (hb ▸ q).symm
    · exact kl.2.2.1 (hb ▸ q).symm
  · rcases hc q hq with rfl | ⟨h1, h2⟩
    · exact hv
    · obtain ⟨o, e, d⟩ := S.cell q h1
      exact ⟨o, up _ _ h2 e, d⟩
  · obtain ⟨h1, h2, h3, h4⟩ := S.lo p hp
    refine ⟨h1, h2, h3, fun q hq => ?_⟩
    obtain ⟨q', hq', e⟩ := hin q hq
    exact e ▸ h4 q' hq'
  · obtain ⟨q', hq', e⟩ := hin q hq
    exact e ▸ S.clo q' hq'
theorem Sit.keepsExt {s₀ : Heap} (S : Sit (hideAll s₀ [u, c]) L m u c B cs post h) : Ext [u, c] s₀ h := fun b o hb e => S.F.keep b o (hideAll_get _ e hb)

theorem sit_store {cn : Str} {sc : Scope} {a : Addr} {ccd : Value} {cl : List (Str × Addr)} {x : Str} {v : Value} {Q : Unit → Shared → Prop} (S : Sit g L m u c B cs post s.heap)
    (k : ∀ h', Sit g L (fun y => if y = x then some v else m y) u c B cs post h' → Q () { s with heap := h', toks := s.toks + 1 })
    (hk : sc.kind = .function) (hx : (envX cn sc L a ccd cl).kindOf x = some .local) : wpAny (model prog w) A (storeName (envX cn sc L a ccd cl) x v) Q E s :=
  wpAny_storeName_local hx S.F.ns (fun h' hn hs => k h' (S.stored hn hs)) (by show (sc.kind == .class || (sc.kind == .module && L != mainGlobals)) = false; rw [hk]; rfl)
theorem sit_storeC {cn : Str} {sc : Scope} {a ca : Addr} {ccd : Value} {cl : List (Str × Addr)} {x : Str} {v : Value} {v₀ : Option Value} {cs' : List (Addr × Option Value)} {Q : Unit → Shared → Prop} (S : Sit g L m u c B cs post s.heap)
    (hc : cl.lookup x = some ca) (hm : (ca, v₀) ∈ cs) (hc' : ∀ q ∈ cs', q = (ca, some v) ∨ (q ∈ cs ∧ q.1 ≠ ca))
    (k : ∀ h', Sit g L m u c B cs' post h' → Q () { s with heap := h' })
    (hk : sc.kind = .function) (hx : (envX cn sc L a ccd cl).kindOf x = some .cell) : wpAny (model prog w) A (storeName (envX cn sc L a ccd cl) x v) Q E s :=
  wpAny_storeName_cell hk hx hc (S.cell _ hm) fun h' hv hs => k h' (S.celled hm hv hs hc')
theorem sit_made {o : Obj} (S : Sit g L m u c B cs post s.heap) (hf : o.isFreed = false) : Sit g L m u c B cs ((s.heap.objs.size, o) :: post) (s.heap.push o) :=
  S.step (tl := [(s.heap.objs.size, o)]) (fun b o' _ e => Heap.get?_push_of_some _ e) fun p hp => by
    rw [List.mem_singleton.mp hp]
    exact ⟨Heap.get?_push_size _ hf, fun b o' e => Heap.lt_size e⟩
theorem sit_tuple {vs : List Value} {Q : Value → Shared → Prop} (S : Sit g L m u c B cs post s.heap) (k : ∀ h' a, Sit g L m u c B cs ((a, tupO vs 0) :: post) h' → Q (.ref a) { s with heap := h' })
    (hsz : vs.length ≤ sizeLine) : wpAny (model prog w) A (newTuple vs) Q E s :=
  wpAny_newObj_type (k _ _ (sit_made S rfl)) (by show vs.toArray.size ≤ sizeLine; rw [List.size_toArray]; exact hsz)
theorem sit_list {vs : List Value} {Q : Value → Shared → Prop} (S : Sit g L m u c B cs post s.heap) (k : ∀ h' a, Sit g L m u c B cs ((a, listOf vs.toArray 0) :: post) h' → Q (.ref a) { s with heap := h' })
    (hsz : vs.length ≤ sizeLine) : wpAny (model prog w) A (newList vs) Q E s :=
  wpAny_newObj_type (k _ _ (sit_made S rfl)) (by show vs.toArray.size ≤ sizeLine; rw [List.size_toArray]; exact hsz)
theorem sit_pull {many : Int} {t : Tok} {Q : Value → Shared → Prop} (gd : Gd w G) (st : G.StaysIn s.heap) (S : Sit g L m u c B cs post s.heap) (hr : A.depth < recursionLimit) (hun : A.units + 70 < cLine)
    (h1 : 1 ≤ many) (h2 : many < 2000) (hB : B < 2 ^ 30)
    (k : ∀ d t' h' tk', 0 ≤ d → d < many → Sit g L m u c (B + 1) cs post h' → Q (.int d t') { s with heap := h', toks := tk' }) : wpAny (model prog w) A (call (.ref 101) [.ref u, .int many t]) Q E s :=
  call_of (pull_spec gd st hr hun S.urn h1 h2 hB) fun v h' tk' ext hp => by
    obtain ⟨⟨d, t', rfl, d0, d1⟩, U'⟩ := hp
    exact k d t' h' tk' d0 d1 (S.after (tl := []) ext U' (fun _ hp => nomatch hp))
theorem sit_enter {s₀ h₁ : Heap} (F₀ : Fr s₀ L h₁ m) (U : Urn s₀ u c B) (hL : s₀.objs.size = L) : Sit (hideAll s₀ [u, c]) L m u c B [] [] h₁ := by
  have hlt := U.lt
  refine ⟨⟨F₀.ns, fun x o e => F₀.keep x o (of_hideAll _ e), Nat.le_of_eq ((hideAll_size _ _).trans hL)⟩, U.ext fun b o _ e => F₀.keep b o e, (fun _ hp => nomatch hp), (fun _ hp => nomatch hp), (fun _ hp => nomatch hp), (fun _ hp => nomatch hp), ?_, ?_⟩
  · exact ⟨hL ▸ Nat.ne_of_lt hlt.1, hideAll_none _ (by simp)⟩
  · exact ⟨hL ▸ Nat.ne_of_lt hlt.2, hideAll_none _ (by simp)⟩
/-- the cells that lie when a frame begins -/
theorem sit_enterC {s₀ h₁ : Heap} {cells : List (Addr × Obj)} {cs : List (Addr × Option Value)} (F₀ : Fr s₀ L h₁ m) (N : News s₀ L h₁ cells) (U : Urn s₀ u c B) (hL : s₀.objs.size = L) (hc : ∀ q ∈ cs, ∃ o, (q.1, o) ∈ cells ∧ o.data = .cell q.2) :
    Sit (hideAll s₀ [u, c]) L m u c B cs [] h₁ := by
  have S := sit_enter F₀ U hL
  refine ⟨S.F, S.urn, S.get', fun q hq => ?_, (fun _ hp => nomatch hp), fun q hq => ?_, S.uL, S.cL⟩
  · obtain ⟨o, hm, d⟩ := hc q hq
    exact ⟨o, (N _ hm).1, d⟩
  · obtain ⟨o, hm, d⟩ := hc q hq
    obtain ⟨_, h2, h3⟩ := N _ hm
    obtain ⟨uo, co, _, hu, hcc⟩ := U
    refine ⟨h2, fun e => ?_, fun e => ?_, ?_⟩
    · dsimp only at h3; rw [e, hu] at h3; cases h3
    · dsimp only at h3; rw [e, hcc] at h3; cases h3
    · cases e : (hideAll s₀ [u, c]).get? q.1 with
      | none => rfl
      | some x =>
        have h3' : s₀.get? q.1 = none := h3
        have := of_hideAll _ e
        rw [h3'] at this
        cases this
end
theorem stays_hide {G h : Heap} {u c : Addr} (st : G.StaysIn h) (hGu : G.get? u = none) (hGc : G.get? c = none) : G.StaysIn (hideAll h [u, c]) := fun b o e => hideAll_get _ (st b o e) (by
    intro q
    rcases List.mem_cons.mp q with z | q
    · rw [z, hGu] at e; cases e
    · rw [List.mem_singleton.mp q, hGc] at e; cases e)
section
variable {prog : Program} {w : World} {A : Around} {E : Value → Shared → Prop} {G g h : Heap} {L u c : Addr} {m : Str → Option Value} {B : Int} {cs : List (Addr × Option Value)} {post : List (Addr × Obj)} {gs : Array GenState} {dr : Drawn} {tk : Nat} {os : OsState} {vs : List Value}
theorem f_sitStore {cn : Str} {sc : Scope} {a : Addr} {ccd : Value} {cl : List (Str × Addr)} {x : Str} {v : Value} {Q : Unit → Shared → Prop} (S : Sit g L m u c B cs post h)
    (k : ∀ h', Sit g L (fun y => if y = x then some v else m y) u c B cs post h' → Q () ⟨h', gs, dr, tk + 1, os⟩)
    (hk : sc.kind = .function) (hx : (envX cn sc L a ccd cl).kindOf x = some .local) : wpAny (model prog w) A (storeName (envX cn sc L a ccd cl) x v) Q E ⟨h, gs, dr, tk, os⟩ := sit_store (s := ⟨h, gs, dr, tk, os⟩) S k hk hx
theorem f_sitTuple {Q : Value → Shared → Prop} (S : Sit g L m u c B cs post h) (k : ∀ h' a, Sit g L m u c B cs ((a, tupO vs 0) :: post) h' → Q (.ref a) ⟨h', gs, dr, tk, os⟩)
    (hsz : vs.length ≤ sizeLine) : wpAny (model prog w) A (newTuple vs) Q E ⟨h, gs, dr, tk, os⟩ := sit_tuple (s := ⟨h, gs, dr, tk, os⟩) S k hsz
theorem f_sitList {Q : Value → Shared → Prop} (S : Sit g L m u c B cs post h) (k : ∀ h' a, Sit g L m u c B cs ((a, listOf vs.toArray 0) :: post) h' → Q (.ref a) ⟨h', gs, dr, tk, os⟩)
    (hsz : vs.length ≤ sizeLine) : wpAny (model prog w) A (newList vs) Q E ⟨h, gs, dr, tk, os⟩ := sit_list (s := ⟨h, gs, dr, tk, os⟩) S k hsz
theorem f_sitPull {many : Int} {t : Tok} {Q : Value → Shared → Prop} (gd : Gd w G) (st : G.StaysIn h) (S : Sit g L m u c B cs post h) (hr : A.depth < recursionLimit) (hun : A.units + 70 < cLine)
    (h1 : 1 ≤ many) (h2 : many < 2000) (hB : B < 2 ^ 30)
    (k : ∀ d t' h' tk', 0 ≤ d → d < many → Sit g L m u c (B + 1) cs post h' → Q (.int d t') ⟨h', gs, dr, tk', os⟩) : wpAny (model prog w) A (call (.ref 101) [.ref u, .int many t]) Q E ⟨h, gs, dr, tk, os⟩ := sit_pull (s := ⟨h, gs, dr, tk, os⟩) gd st S hr hun h1 h2 hB k
end
theorem room0 {a K n : Nat} (h : a + K < n) : a < n := Nat.lt_of_le_of_lt (Nat.le_add_right _ _) h
theorem room1 {a k K n : Nat} (h : a + K < n) (e : k ≤ K) : a + k < n := Nat.lt_of_le_of_lt (Nat.add_le_add_left e _) h
theorem room2 {a k j K n : Nat} (h : a + K < n) (e : k + j ≤ K) : a + k + j < n := by rw [Nat.add_assoc]; exact room1 h e

/-! a comprehension whose element may turn the urn -/
section
variable {prog : Program} {w : World} {A : Around} {E : Value → Shared → Prop}
theorem compAt_urn {env : Env} {scope : Scope} {cl : List (Str × Addr)} {x : Str} {elt : Expr} {s₂ : Shared} {h1 : Heap} {ob : Obj} {n : Nat} {P : Nat → Value → Prop} {St : Nat → Heap → Prop} {fp : List Addr} {u c : Addr} {B K : Int} {Q : Heap → Nat → Prop}
    (W : Walks prog w A h1.objs.size fp [h1.objs.size] n P St) (he : s₂.heap = h1.push ob) (hst : St 0 (h1.push ob)) (hn : n ≤ 16000) (hfp : ∀ b ∈ fp, b = h1.objs.size ∨ (b < h1.objs.size ∧ b ≠ u ∧ b ≠ c))
    (U : Urn h1 u c B) (hK : 0 ≤ K) (El : Nat → D → Prop)
    (step : ∀ i v (s₃ : Shared) cm, i < n → P i v → Urn s₃.heap u c (B + (i : Int) * K) → Ext [u, c] h1 s₃.heap → s₃.heap.Ns (h1.objs.size + 1 + 1) cm → cm x = some v →
      ∀ E', wpAny (model prog w) A (eval elt (compEnvC scope cl (h1.objs.size + 1 + 1) env)) (fun y s₅ => ∃ h' tk' d tl, s₅ = { s₃ with heap := h', toks := tk' } ∧ Ext [u, c] s₃.heap h' ∧ Urn h' u c (B + (i : Int) * K + K) ∧ El i d ∧ Rep (inL tl) d y ∧ Fresh s₃.heap h' tl) E' s₃)
    (fin : ∀ h' tk (ys : List Value) ds tl no, Ext [u, c] h1 h' → Fresh h1 h' ((h1.objs.size + 1, listOf ys.toArray no) :: tl) → (∀ p ∈ (h1.objs.size + 1, listOf ys.toArray no) :: tl, p.1 ≠ h1.objs.size + 1 + 1) → RepL (inL tl) ds ys → ds.length = n → (∀ i d, ds[i]? = some d → El i d) → Urn h' u c (B + (n : Int) * K) →
      Q h' tk) :
    CompAt prog w A env scope cl x [] elt h1.objs.size s₂ (fun S wr n Inv => ∀ h' tk (ys : List Value), h'.PlainList s₂.heap.objs.size ys.toArray → ys.length ≤ n → Inv n ys h' → (∀ b o, b ∉ S → b ∉ wr → s₂.heap.get? b = some o → h'.get? b = some o) → Q h' tk) := by
  have hsz : s₂.heap.objs.size = h1.objs.size + 1 := by rw [he, Heap.size_push]
  have hult := U.lt
  have old : ∀ b o, h1.get? b = some o → s₂.heap.get? b = some o := fun b o e => by rw [he]; exact Heap.get?_push_of_some _ e
  have notS : ∀ b, b < h1.objs.size → b ∉ [h1.objs.size] := fun b hb q => Nat.ne_of_lt hb (List.mem_singleton.mp q)
  refine ⟨fp, [h1.objs.size], n, P, St, [u, c], fun i ys H => ∃ ds tl, RepL (inL tl) ds ys ∧ ds.length = i ∧ (∀ j d, ds[j]? = some d → El j d) ∧ (∀ p ∈ tl, H.get? p.1 = some p.2 ∧ h1.objs.size + 3 ≤ p.1) ∧ Urn H u c (B + (i : Int) * K), W, ?_, ?_, ?_, ?_, ?_, ?_, ?_, ?_⟩
  · rw [sizeLine_eq]; omega
  · rw [he]; exact hst
  · intro b hb
    rw [hsz]
    rcases hfp b hb with rfl | h
    · exact Nat.lt_succ_self _
    · exact Nat.lt_succ_of_lt h.1
  · intro b hb
    rw [hsz]
    have key : ∀ a, a < h1.objs.size → (a = u ∨ a = c) → a ∉ fp ∧ a < h1.objs.size + 1 := fun a ha hac => ⟨fun q => by
      rcases hfp a q with e | h
      · exact Nat.ne_of_lt ha e
      · rcases hac with e | e
        · exact h.2.1 e
        · exact h.2.2 e, Nat.lt_succ_of_lt ha⟩
    rcases List.mem_cons.mp hb with rfl | hb
    · exact key _ hult.1 (.inl rfl)
    · rw [List.mem_singleton.mp hb]; exact key _ hult.2 (.inr rfl)
  · rintro i ys H H' ⟨ds, tl, h₁, h₂, h₃, h₄, h₅⟩ hk
    rw [hsz] at hk
    refine ⟨ds, tl, h₁, h₂, h₃, fun p hp => ?_, h₅.ext fun b o hb e => ?_⟩
    · obtain ⟨g1, g2⟩ := h₄ p hp
      have g3 : @LE.le Nat _ (h1.objs.size + 3) p.1 := g2
      exact ⟨hk _ _ (fun q => Nat.ne_of_gt (show @LT.lt Nat _ h1.objs.size p.1 by omega) (List.mem_singleton.mp q)) (Nat.ne_of_gt (show @LT.lt Nat _ (h1.objs.size + 1) p.1 by omega)) (Nat.ne_of_gt (show @LT.lt Nat _ (h1.objs.size + 1 + 1) p.1 by omega)) g1, g2⟩
    · have hb' : @LT.lt Nat _ b h1.objs.size := by
        rcases hb with rfl | rfl
        · exact hult.1
        · exact hult.2
      exact hk _ _ (notS _ hb') (Nat.ne_of_lt (show @LT.lt Nat _ b (h1.objs.size + 1) by omega)) (Nat.ne_of_lt (show @LT.lt Nat _ b (h1.objs.size + 1 + 1) by omega)) e
  · refine ⟨[], [], .nil, rfl, (fun j d e => by simp at e), (fun _ h => nomatch h), ?_⟩
    have : B + ((0 : Nat) : Int) * K = B := by simp
    rw [this]
    exact U.ext fun b o _ e => old b o e
  · rintro i v ys s₃ cm hi hP ⟨ds, tl, h₁, h₂, h₃, h₄, h₅⟩ hk hsz3 hnc hcm E'
    rw [hsz] at hsz3 hnc ⊢
    have hx : Ext [u, c] h1 s₃.heap := fun b o hb e => hk b o hb (notS _ (Heap.lt_size e)) (old b o e)
    refine wpAny_tests_nil ?_
    simp only [if_true]
    refine wpAny_mono (step i v s₃ cm hi hP h₅ hx hnc hcm E') (fun y s₅ q => ?_) fun _ _ e => e
    obtain ⟨h', tk', d, tl', rfl, ext, U', hel, hrep, fr⟩ := q
    refine ⟨h', tk', rfl, ext, ds ++ [d], tl ++ tl', (h₁.mono (fun a o q => List.mem_append_left _ q) _ _).append (.one (hrep.mono (fun a o q => List.mem_append_right _ q) _ _)), by simp [h₂], fun j e hj => ?_, fun p hp => ?_, ?_⟩
    · by_cases hji : j < ds.length
      · rw [List.getElem?_append_left hji] at hj; exact h₃ j e hj
      · rw [List.getElem?_append_right (by omega)] at hj
        have : j - ds.length = 0 := by
          cases hz : j - ds.length with
          | zero => rfl
          | succ z => rw [hz] at hj; simp at hj
        rw [this] at hj
        have hj' : j = i := by omega
        simp at hj
        rw [hj', ← hj]; exact hel
    · rcases List.mem_append.mp hp with hp | hp
      · obtain ⟨g1, g2⟩ := h₄ p hp
        have g3 : @LE.le Nat _ (h1.objs.size + 3) p.1 := g2
        refine ⟨ext _ _ (fun q => ?_) g1, g2⟩
        rcases List.mem_cons.mp q with e | q
        · exact Nat.ne_of_gt (show @LT.lt Nat _ u p.1 by have : @LT.lt Nat _ u h1.objs.size := hult.1; omega) e
        · exact Nat.ne_of_gt (show @LT.lt Nat _ c p.1 by have : @LT.lt Nat _ c h1.objs.size := hult.2; omega) (List.mem_singleton.mp q)
      · obtain ⟨oC, hoC⟩ := ns_at hnc
        have := (fr p hp).2 _ _ hoC
        exact ⟨(fr p hp).1, this⟩
    · have e : B + ((i + 1 : Nat) : Int) * K = B + (i : Int) * K + K := by push_cast; rw [Int.add_mul, Int.one_mul]; omega
      rw [e]; exact U'
  · rintro h' tk ys ⟨no, hpl⟩ hlen ⟨ds, tl, h₁, h₂, h₃, h₄, h₅⟩ hk
    rw [hsz] at hpl
    refine fin h' tk ys ds tl no (fun b o hb e => hk b o hb (notS _ (Heap.lt_size e)) (old b o e)) (fun p hp => ?_) (fun p hp => ?_) h₁ h₂ h₃ h₅
    rotate_left
    · rcases List.mem_cons.mp hp with rfl | hp
      · exact Nat.ne_of_lt (Nat.lt_succ_self _)
      · exact Nat.ne_of_gt (h₄ p hp).2
    rcases List.mem_cons.mp hp with rfl | hp
    · exact ⟨hpl, fun b o e => Nat.lt_succ_of_lt (Heap.lt_size e)⟩
    · refine ⟨(h₄ p hp).1, fun b o e => ?_⟩
      have g3 : @LE.le Nat _ (h1.objs.size + 3) p.1 := (h₄ p hp).2
      have g4 : @LT.lt Nat _ b h1.objs.size := Heap.lt_size e
      exact (show @LT.lt Nat _ b p.1 by omega)
end

/-- a comprehension's list is stored -/
theorem Sit.other {h' : Heap} {g h : Heap} {L u c C : Addr} {m : Str → Option Value} {B : Int} {cs : List (Addr × Option Value)} {post : List (Addr × Obj)} (S : Sit g L m u c B cs post h) (hs : Heap.SameBut C h h') (hL : C ≠ L) (hu : C ≠ u) (hc : C ≠ c) (hg : g.get? C = none)
    (hp : ∀ p ∈ post, p.1 ≠ C) (hq : ∀ q ∈ cs, q.1 ≠ C) : Sit g L m u c B cs post h' := by
  have k : ∀ b o, b ≠ C → h.get? b = some o → h'.get? b = some o := fun b o hb e => hs.extBut b o hb e
  refine ⟨⟨S.F.ns.sameBut hs (Ne.symm hL), fun b o e => k b o (fun q => ?_) (S.F.keep b o e), S.F.above⟩, S.urn.ext fun b o hb e => k b o (fun q => ?_) e, fun p hp' => k _ _ (hp p hp') (S.get' p hp'), fun q hq' => ?_, S.lo, S.clo, S.uL, S.cL⟩
  · rw [q, hg] at e; cases e
  · rcases hb with hb | hb
    · exact hu (q.symm.trans hb)
    · exact hc (q.symm.trans hb)
  · obtain ⟨o, e, d⟩ := S.cell q hq'
    exact ⟨o, k _ _ (hq q hq') e, d⟩
section
variable {M : Model} {A : Around} {E : Value → Shared → Prop} {s : Shared} {g h1 h' : Heap} {L u c : Addr} {m : Str → Option Value} {B B' : Int} {cs : List (Addr × Option Value)} {post fl : List (Addr × Obj)} {cn : Str} {sc : Scope} {a : Addr} {ccd : Value} {cl : List (Str × Addr)} {x : Str} {v : Value} {Da C : Addr} {tk : Nat} {Q : Shared → Prop}
theorem sit_asg (S : Sit g L m u c B cs post h1) (ext : Ext [u, c] h1 h') (fr : Fresh h1 h' fl) (U' : Urn h' u c B') (hne : ∀ p ∈ fl, p.1 ≠ C) (hC : Over h1 C) (hD : L < Da)
    (k : ∀ h'' tk, Sit g L (fun y => if y = x then some v else m y) u c B' cs (fl ++ post) h'' → Q { s with heap := h'', toks := tk })
    (hk : sc.kind = .function) (hx : (envX cn sc L a ccd cl).kindOf x = some .local) :
    wpAny M A (storeName (envX cn sc L a ccd cl) x v) (fun _ s' => ∃ L', L' < Da ∧ Heap.SameBut L' h' s'.heap ∧ ∀ h'', Heap.SameBut C s'.heap h'' → Q { s' with heap := h'' }) E { s with heap := h', toks := tk } := by
  have S2 := S.after ext U' fr
  obtain ⟨⟨_, eu⟩, ⟨_, ec⟩⟩ := S.atU
  obtain ⟨_, eL⟩ := S.atL
  refine wpAny_storeName_local hx S2.F.ns (fun h3 hn hs => ⟨L, hD, hs, fun h'' hs'' => ?_⟩) (by show (sc.kind == .class || (sc.kind == .module && L != mainGlobals)) = false; rw [hk]; rfl)
  refine k h'' _ ((S2.stored hn hs).other hs'' (Nat.ne_of_gt (hC _ _ eL)) (Nat.ne_of_gt (hC _ _ eu)) (Nat.ne_of_gt (hC _ _ ec)) (Over.none S.F.keep hC) (fun p hp => ?_) fun q hq => ?_)
  · rcases List.mem_append.mp hp with hp | hp
    · exact hne p hp
    · exact Nat.ne_of_lt (hC _ _ (S.get' p hp))
  · obtain ⟨o, e, d⟩ := S.cell q hq
    exact Nat.ne_of_lt (hC _ _ e)
theorem nm_sitC {prog : Program} {w : World} {env : Env} {pos : Pos} {ca : Addr} {Q : Value → Shared → Prop} (S : Sit g L m u c B cs post s.heap) (hm : (ca, some v) ∈ cs) (h : Q v s) (hc : env.cells.lookup x = some ca)
    (hk : env.scope.kind = .function) (hx : env.kindOf x = some .cell) (hd : (x == ("__debug__" : Str)) = false) : wpAny (model prog w) A (eval (.Name x pos) env) Q E s := nm_cell (S.cell _ hm) h hc hk hx hd
end
theorem repL_ints {π : Addr → Obj → Prop} : ∀ {ds : List D} {ys : List Value}, RepL π ds ys → (∀ (i : Nat) (d : D), ds[i]? = some d → ∃ k, d = D.int k) → ∃ path, ds = path.map D.int ∧ IntsAre ys path
  | [], _, h, _ => by simp only [RepL] at h; subst h; exact ⟨[], rfl, .nil⟩
  | d :: r, _, h, k => by
    simp only [RepL] at h
    obtain ⟨v, q, rfl, h1, h2⟩ := h
    obtain ⟨i, rfl⟩ := k 0 d rfl
    obtain ⟨path, rfl, hp⟩ := repL_ints h2 (fun j e hj => k (j + 1) e hj)
    simp only [Rep] at h1
    obtain ⟨t, rfl⟩ := h1
    exact ⟨i :: path, rfl, .cons i t hp⟩
theorem repL_strs {π : Addr → Obj → Prop} {P : Str → Prop} : ∀ {ds : List D} {ys : List Value}, RepL π ds ys → (∀ (i : Nat) (d : D), ds[i]? = some d → ∃ k, d = D.str k ∧ P k) → ∃ names, ds = names.map D.str ∧ StrsAre ys names ∧ ∀ x ∈ names, P x
  | [], _, h, _ => by simp only [RepL] at h; subst h; exact ⟨[], rfl, .nil, fun _ h => nomatch h⟩
  | d :: r, _, h, k => by
    simp only [RepL] at h
    obtain ⟨v, q, rfl, h1, h2⟩ := h
    obtain ⟨i, rfl, hi⟩ := k 0 d rfl
    obtain ⟨names, rfl, hp, hq⟩ := repL_strs h2 (fun j e hj => k (j + 1) e hj)
    simp only [Rep] at h1
    obtain ⟨t, rfl⟩ := h1
    refine ⟨i :: names, rfl, .cons i t hp, fun x hx => ?_⟩
    rcases List.mem_cons.mp hx with rfl | hx
    · exact hi
    · exact hq x hx

section
variable {prog : Program} {w : World} {A : Around} {E : Value → Shared → Prop} {s : Shared} {G g h1 h' : Heap} {L u c : Addr} {m : Str → Option Value} {B : Int} {cs : List (Addr × Option Value)} {post : List (Addr × Obj)}
theorem sit_range {n : Int} {t : Tok} {Q : Value → Shared → Prop} (S : Sit g L m u c B cs post s.heap)
    (k : ∀ h' tk r t' u' v', Sit g L m u c B cs post h' → IsRange h' r 0 n 1 t' u' v' → Q (.ref r) { s with heap := h', toks := tk }) : wpAny (model prog w) A (call (.type "range") [.int n t]) Q E s :=
  range1_rows S.F (news := []) (fun _ h => nomatch h) fun h' tk t₁ u₁ v₁ R _ _ keep => k h' tk _ _ _ _ (S.step0 fun b o _ e => keep b o e) R
theorem ext_staysG (hGu : G.get? u = none) (hGc : G.get? c = none) (e : Ext [u, c] h1 h') (k : G.StaysIn h1) : G.StaysIn h' := e.stays k (by
  intro b hb
  rcases List.mem_cons.mp hb with rfl | hb
  · exact hGu
  · rw [List.mem_singleton.mp hb]; exact hGc)
theorem Sit.cell_ext {ca : Addr} {v : Option Value} (S : Sit g L m u c B cs post h1) (e : Ext [u, c] h1 h') (hm : (ca, v) ∈ cs) : h'.IsCell ca v := by
  obtain ⟨o, e1, d⟩ := S.cell _ hm
  refine ⟨o, e _ _ (fun q => ?_) e1, d⟩
  rcases List.mem_cons.mp q with z | q
  · exact (S.clo _ hm).2.1 z
  · exact (S.clo _ hm).2.2.1 (List.mem_singleton.mp q)
theorem Sit.stG (S : Sit g L m u c B cs post h1) (k : G.StaysIn g) : G.StaysIn h1 := fun b o e => S.F.keep b o (k b o e)
theorem range_walk {r : Addr} {n : Int} {t u v : Tok} {Q : Value → Shared → Prop} (hr : IsRange s.heap r 0 n 1 t u v) (h0 : 0 ≤ n) (h1 : n < 16000)
    (h : ∀ o, IsRangeIter (s.heap.push o) s.heap.objs.size (0 + ((0 : Nat) : Int) * 1) (((n.toNat : Nat) : Int) - ((0 : Nat) : Int)) 1 → Q (.ref s.heap.objs.size) { s with heap := s.heap.push o }) : wpAny (model prog w) A (pyIter (.ref r)) Q E s :=
  range_iter hr (small_one (by omega) (by omega) (by omega) (by omega)) (by rw [rangeSize_nat]; omega) h
end

theorem over_urn {h : Heap} {u c D : Addr} {B : Int} (U : Urn h u c B) (o : Over h D) : D ∉ [u, c] := by
  obtain ⟨_, _, _, a, b⟩ := U
  intro q
  rcases List.mem_cons.mp q with z | q
  · exact Nat.ne_of_gt (o _ _ a) z
  · exact Nat.ne_of_gt (o _ _ b) (List.mem_singleton.mp q)
theorem cell_ext0 {h h' : Heap} {ca : Addr} {v : Option Value} (x : h.IsCell ca v) (e : Ext [] h h') : h'.IsCell ca v := let ⟨o, e1, d⟩ := x; ⟨o, e _ _ (by simp) e1, d⟩
theorem urn_ext0 {h h' : Heap} {u c : Addr} {B : Int} (U : Urn h u c B) (e : Ext [] h h') : Urn h' u c B := U.ext fun b o _ q => e b o (by simp) q
theorem Ext.thenU {h h1 h2 : Heap} {S : List Addr} (a : Ext [] h h1) (b : Ext S h1 h2) : Ext S h h2 := fun x o n e => b x o n (a x o (by simp) e)
theorem sit_unpack2 {prog : Program} {w : World} {A : Around} {E : Value → Shared → Prop} {s : Shared} {g : Heap} {L u c a : Addr} {m : Str → Option Value} {B : Int} {cs : List (Addr × Option Value)} {post : List (Addr × Obj)} {v1 v2 : Value} {n N : Nat} {Q : List Value → Shared → Prop}
    (S : Sit g L m u c B cs post s.heap) (hm : (a, tupO [v1, v2] n) ∈ post) (hh : A.handled = none) (hN : N = 2) (k : ∀ h', Sit g L m u c B cs post h' → Q [v1, v2] { s with heap := h' }) : wpAny (model prog w) A (unpackItems (.ref a) N none) Q E s := by
  have ht : IsTup s.heap a [v1, v2].toArray := ⟨_, S.get hm, rfl, _, rfl⟩
  have hs : N = [v1, v2].toArray.size := hN
  rw [hs]
  refine unpackItems_tuple hh ht fun h' he => ?_
  exact k h' (S.step0 fun b o _ e => he b o (Nat.ne_of_lt (Heap.lt_size e)) e)

local macro_rules | `(tactic| walk_at "room") => `(tactic| first
  | exact room0 ((by assumption : ∀ e : Env, (Around.deeper _ e).depth + _ < _) _)
  | exact room1 ((by assumption : ∀ e : Env, (Around.deeper _ e).depth + _ < _) _) (by decide)
  | exact room2 ((by assumption : ∀ e : Env, (Around.deeper _ e).depth + _ < _) _) (by decide)
  | exact room1 ((by assumption : ∀ e : Env, (Around.deeper _ e).units + _ < _) _) (by decide)
  | exact room2 ((by assumption : ∀ e : Env, (Around.deeper _ e).units + _ < _) _) (by decide)
  | fail)
local macro_rules | `(tactic| walk_at "stays") => `(tactic| exact (fun b o e => (Sit.F (by assumption)).keep b o ((by assumption : Heap.StaysIn _ _) b o e)))
local macro_rules | `(tactic| walk_at "name") => `(tactic| first
  | (refine' nm_loc (Fr.ns (Sit.F ?S)) ?hv ?_ ?hk ?hx ?hd; (case hx => exact rfl); (case S => assumption); (case hk => exact rfl); (case hd => decide); (case hv => exact rfl))
  | (refine' nm_sitC ?S ?m ?_ ?hc ?hk ?hx ?hd; (case hx => exact rfl); (case S => assumption); (case hc => exact rfl); (case hk => exact rfl); (case hd => decide); (case m => k_mem)))
local macro_rules | `(tactic| walk_at "sit") => `(tactic| first
  | ((with_reducible show wpAny _ _ (storeName _ _ _) _ _ _); refine' f_sitStore ?S ?_ ?a ?b; (case S => assumption); (case a => exact rfl); (case b => exact rfl); intro h' S'; (try dsimp only at S'))
  | ((with_reducible show wpAny _ _ (newTuple _) _ _ _); refine' f_sitTuple ?S ?_ ?z; (case S => assumption); (case z => size_fits); intro h' a' S'; (try dsimp only at S'))
  | ((with_reducible show wpAny _ _ (newList _) _ _ _); refine' f_sitList ?S ?_ ?z; (case S => assumption); (case z => size_fits); intro h' a' S'; (try dsimp only at S'))
  | ((with_reducible show wpAny _ _ (call (Value.ref 101) _) _ _ _); refine' f_sitPull (by assumption) ?st ?S ?r ?r2 ?a ?b ?c ?_; (case S => assumption); (case st => walk_at "stays"); (case r => walk_at "room"); (case r2 => walk_at "room"); (case a => decide); (case b => decide); (case c => first | decide | omega); intro d' t' h' tk' d0' d1' S')
  | walk_at "go")

inductive KeyD : Nat → D → Prop
  | all {n : Nat} : KeyD n (.tup [.str (Str.ofString "all")])
  | flag {n : Nat} : KeyD n (.tup [.str (Str.ofString "flag"), .str (Str.ofString "\\Seen")])
  | uid {n : Nat} : KeyD n (.tup [.str (Str.ofString "uid"), .tup [.tup [.int 1, .int 4], .tup [.int 0, .int 0]]])
  | header {n : Nat} : KeyD n (.tup [.str (Str.ofString "header"), .str (Str.ofString "x-a"), .bytes [97, 110, 100].toArray])
  | not {n : Nat} {k : D} : KeyD n k → KeyD (n + 1) (.tup [.str (Str.ofString "not"), k])
  | two {n : Nat} {x : Str} {k k' : D} : x = Str.ofString "or" ∨ x = Str.ofString "and" → KeyD n k → KeyD n k' → KeyD (n + 1) (.tup [.str x, k, k'])
noncomputable def Kc : Nat → Int
  | 0 => 2
  | n + 1 => 2 * Kc n + 2
theorem Kc_pos : ∀ n, 2 ≤ Kc n
  | 0 => by simp [Kc]
  | n + 1 => by have := Kc_pos n; simp only [Kc]; omega

def KeySpec (prog : Program) (w : World) (G : Heap) (u c : Addr) (n : Nat) : Prop := ∀ (A : Around) (s : Shared) (B : Int) (t : Tok), G.StaysIn s.heap →
    A.depth + n + 1 < recursionLimit → A.units + 3 * n + 80 < cLine → Urn s.heap u c B → B + Kc n < 2 ^ 30 →
    codeAny (model prog w) A (.call (.ref 108) ⟨[.ref u, .int (n : Int) t], []⟩) (Ret s [u, c] fun v h' => ∃ d tl, KeyD n d ∧ Rep (inL tl) d v ∧ Fresh s.heap h' tl ∧ Urn h' u c (B + Kc n)) s

theorem sit_key {prog : Program} {w : World} {A : Around} {E : Value → Shared → Prop} {s : Shared} {G g : Heap} {L u c : Addr} {m : Str → Option Value} {B : Int} {cs : List (Addr × Option Value)} {post : List (Addr × Obj)} {k : Nat} {i : Int} {t : Tok} {Q : Value → Shared → Prop}
    (K : KeySpec prog w G u c k) (st : G.StaysIn s.heap) (S : Sit g L m u c B cs post s.heap) (hi : i = (k : Int)) (hr : A.depth + k + 1 < recursionLimit) (hun : A.units + 3 * k + 80 < cLine) (hB : B + Kc k < 2 ^ 30)
    (go : ∀ v d tl h' tk', KeyD k d → Rep (inL tl) d v → Sit g L m u c (B + Kc k) cs (tl ++ post) h' → Q v { s with heap := h', toks := tk' }) : wpAny (model prog w) A (call (.ref 108) [.ref u, .int i t]) Q E s := by
  subst hi
  refine call_of (K A s B t st hr hun S.urn hB) fun v h' tk' ext hp => ?_
  obtain ⟨d, tl, hk, hrep, fr, U'⟩ := hp
  exact go v d tl h' tk' hk hrep (S.after ext U' fr)
def KeyP (s : Shared) (u c L : Addr) (B : Int) (n : Nat) (t : Tok) : Shared → Prop :=
  fun s' => ∃ (h' : Heap) (tk' : Nat) (d : Int) (t' : Tok), s' = { s with heap := h', toks := tk' } ∧ 0 ≤ d ∧ d < 7 ∧ (n = 0 → d = 0) ∧
    Sit (hideAll s.heap [u, c]) L (fun y => if y = Str.ofString "way" then some (Value.int d t') else List.lookup y [(Str.ofString "urn", Value.ref u), (Str.ofString "deep", Value.int (n : Int) t)].reverse) u c (B + 1) [] [] h'
theorem key_step {prog : Program} {w : World} {G : Heap} (gd : Gd w G) {u c : Addr} (hGu : G.get? u = none) (hGc : G.get? c = none) (n : Nat) (ih : ∀ k, n = k + 1 → KeySpec prog w G u c k) : KeySpec prog w G u c n := by
  intro A s B t st hr hun U hB
  have gd' := gd.keeps st
  have hK := Kc_pos n
  refine' enter (binds := [(Str.ofString "urn", .ref u), (Str.ofString "deep", .int (n : Int) t)]) (by assumption) ?ho ?hcd ?hroom ?hbind ?hloc ?_ ?c2 ?c3 ?c4 ?c5
  walk_at "sides"
  have rD : ∀ e : Env, (A.deeper e).depth + 0 < recursionLimit := fun _ => by show A.depth + 1 + 0 < recursionLimit; omega
  have rU : ∀ e : Env, (A.deeper e).units + 77 < cLine := fun _ => by show A.units + 3 + 77 < cLine; omega
  generalize hL : s.heap.objs.size = L at *
  intro h₁ tk F₀
  have S := sit_enter F₀ U hL
  have hGg := stays_hide st hGu hGc
  clear F₀ gd'
  refine cut_stmt (KeyP s u c L B n t) ?_ ?_
  · repeat walk_at "sit"
    refine split_bool (fun hz => ?_) (fun hz => ?_)
    · repeat walk_at "sit"
      rename_i d t' h' tk' d0 d1 S1 h2 S2
      exact ⟨rfl, _, _, d, t', rfl, d0, d1, fun e => (by subst e; simp at hz), S2⟩
    · repeat walk_at "sit"
      rename_i h2 S2
      exact ⟨rfl, _, _, 0, _, rfl, by decide, by decide, fun _ => rfl, S2.up (by omega)⟩
  · rintro s' ⟨h', tk', way, t', rfl, hw0, hw1, hwn, S'⟩
    clear S
    repeat walk_at "sit"
    refine split_bool (fun hz => ?_) (fun hz => ?_)
    · repeat walk_at "sit"
      rename_i d t2 h2 tk2 d0 d1 S2
      have hd : d = 0 ∨ d = 1 ∨ d = 2 ∨ d = 3 := by omega
      rcases hd with rfl | rfl | rfl | rfl
      · refine item_tup (S2.get (.head _)) (by decide) (by simp) (by size_fits) rfl ?_ (by with_unfolding_all rfl)
        try dsimp only
        exact ⟨_, _, _, rfl, rfl, S2.keepsExt, _, _, .all, Rep.tupI (π := inL _) (by k_mem) (.cons .strI .nil), S2.fresh hL (fun _ h => h), (S2.up (by omega)).urn⟩
      · refine item_tup (S2.get (.head _)) (by decide) (by simp) (by size_fits) rfl ?_ (by with_unfolding_all rfl)
        try dsimp only
        exact ⟨_, _, _, rfl, rfl, S2.keepsExt, _, _, .flag, Rep.tupI (π := inL _) (by k_mem) (.cons .strI (.cons .strI .nil)), S2.fresh hL (fun _ h => h), (S2.up (by omega)).urn⟩
      · refine item_tup (S2.get (.head _)) (by decide) (by simp) (by size_fits) rfl ?_ (by with_unfolding_all rfl)
        try dsimp only
        exact ⟨_, _, _, rfl, rfl, S2.keepsExt, _, _, .uid, Rep.tupI (π := inL _) (by k_mem) (.cons .strI (.cons (Rep.tupI (by k_mem) (.cons (Rep.tupI (by k_mem) (.cons .intI (.cons .intI .nil))) (.cons (Rep.tupI (by k_mem) (.cons .intI (.cons .intI .nil))) .nil))) .nil)), S2.fresh hL (fun _ h => h), (S2.up (by omega)).urn⟩
      · refine item_tup (S2.get (.head _)) (by decide) (by simp) (by size_fits) rfl ?_ (by with_unfolding_all rfl)
        try dsimp only
        exact ⟨_, _, _, rfl, rfl, S2.keepsExt, _, _, .header, Rep.tupI (π := inL _) (by k_mem) (.cons .strI (.cons .strI (.cons .bytesI .nil))), S2.fresh hL (fun _ h => h), (S2.up (by omega)).urn⟩
    · obtain ⟨k, rfl⟩ : ∃ k, n = k + 1 := by
        cases n with
        | zero => have := hwn rfl; subst this; simp at hz
        | succ k => exact ⟨k, rfl⟩
      have hk := ih k rfl
      clear ih
      have hKk : Kc (k + 1) = 2 * Kc k + 2 := rfl
      have hK2 := Kc_pos k
      repeat walk_at "sit"
      refine sit_key hk ?st S' ?i ?r ?r2 ?b fun v1 d1 tl1 h1 tk1 hd1 hr1 S1 => ?_
      (case st => walk_at "stays")
      (case i => omega)
      (case r => walk_at "room")
      (case r2 => walk_at "room")
      (case b => omega)
      repeat walk_at "sit"
      refine split_bool (fun hy => ?_) (fun hy => ?_)
      · repeat walk_at "sit"
        rename_i h2 S2 h3 a3 S3
        try dsimp only
        refine ⟨_, _, _, rfl, rfl, S3.keepsExt, _, _, .not hd1, Rep.tupI (π := inL _) (.head _) (.cons .strI (.cons (hr1.mono (fun x o q => ?_) _ _) .nil)), S3.fresh hL (fun _ h => h), (S3.up (by omega)).urn⟩
        exact .tail _ (List.mem_append_left _ q)
      · have hway : way = 5 ∨ way = 6 := by
          simp only [decide_eq_false_iff_not, beq_eq_false_iff_ne, ne_eq] at hz hy
          omega
        repeat walk_at "sit"
        rename_i h2 S2 h3 a3 S3
        have pick : ∃ x, (x = Str.ofString "or" ∨ x = Str.ofString "and") ∧ ∃ tx, [Value.str (Str.ofString "or") (tk1 + 1 + 1), Value.str (Str.ofString "and") (tk1 + 1 + 1 + 1)][(way - 5).toNat]? = some (.str x tx) := by
          rcases hway with rfl | rfl
          · exact ⟨_, .inl rfl, _, rfl⟩
          · exact ⟨_, .inr rfl, _, rfl⟩
        obtain ⟨x, hx, tx, hpick⟩ := pick
        refine item_tup (S3.get (.head _)) (by omega) (by simp; omega) (by size_fits) hpick ?_ (by with_unfolding_all rfl)
        repeat walk_at "sit"
        refine sit_key hk ?st S3 ?i ?r ?r2 ?b fun v4 d4 tl4 h4 tk4 hd4 hr4 S4 => ?_
        (case st => walk_at "stays")
        (case i => omega)
        (case r => walk_at "room")
        (case r2 => walk_at "room")
        (case b => omega)
        repeat walk_at "sit"
        rename_i h5 a5 S5
        try dsimp only
        refine ⟨_, _, _, rfl, rfl, S5.keepsExt, _, _, .two hx hd1 hd4, Rep.tupI (π := inL _) (.head _) (.cons .strI (.cons (hr1.mono (fun x o q => ?_) _ _) (.cons (hr4.mono (fun x o q => ?_) _ _) .nil))), S5.fresh hL (fun _ h => h), (S5.up (by omega)).urn⟩
        · exact .tail _ (List.mem_append_right _ (.tail _ (List.mem_append_left _ q)))
        · exact .tail _ (List.mem_append_left _ q)

theorem key_spec {prog : Program} {w : World} {G : Heap} (gd : Gd w G) {u c : Addr} (hGu : G.get? u = none) (hGc : G.get? c = none) : ∀ n, KeySpec prog w G u c n
  | 0 => key_step gd hGu hGc 0 (fun _ h => by cases h)
  | n + 1 => key_step gd hGu hGc (n + 1) (fun k h => by obtain rfl : n = k := Nat.succ.inj h; exact key_spec gd hGu hGc n)

/-! making a Section, making a Command -/
theorem keeps_hide {s₀ h : Heap} {L dx : Addr} {m : Str → Option Value} (F : Fr (hideAll s₀ [dx]) L h m) : Ext [dx] s₀ h := fun b o hb e => F.keep b o (hideAll_get _ e hb)
theorem over_hide {s₀ h : Heap} {L dx D : Addr} {m : Str → Option Value} {o : Obj} (F : Fr (hideAll s₀ [dx]) L h m) (hd : h.get? dx = some o) (lt : ∀ b o, h.get? b = some o → b < D) : Over s₀ D := fun b ob e => by
  by_cases hb : b = dx
  · exact hb ▸ lt _ _ hd
  · exact lt _ _ (keeps_hide F b ob (by simpa using hb) e)
theorem news_cons {g h h' : Heap} {L D : Addr} {m : Str → Option Value} {o : Obj} {news : List (Addr × Obj)} (F : Fr g L h m) (N : News g L h news) (e : Ext [] h h') (gd : h'.get? D = some o) (lt : ∀ b o, h.get? b = some o → b < D) :
    Fr g L h' m ∧ News g L h' ((D, o) :: news) := by
  obtain ⟨oL, hoL⟩ := ns_at F.ns
  refine ⟨e.fr F (by simp) (by simp), fun p hp => ?_⟩
  rcases List.mem_cons.mp hp with rfl | hp
  · exact ⟨gd, Nat.ne_of_gt (lt _ _ hoL), Over.none F.keep lt⟩
  · exact ⟨e _ _ (by simp) (N p hp).1, (N p hp).2⟩
local macro_rules | `(tactic| walk_at "put") => `(tactic| (
  refine' set_dict ?k1 ?k2 ?k3 ?k4 ?k5 ?k6 ?k7 ?k8 ?k9 ?k10 ?k11 ?k12 ?k13 ?_
  (case k1 => assumption)
  (case k2 => assumption)
  (case k3 => assumption)
  (case k4 => assumption)
  (case k5 => exact rfl)
  (case k6 => k_is)
  (case k7 => k_is)
  (case k8 => k_is)
  (case k9 => k_is)
  (case k10 => k_get)
  (case k11 => k_put)
  (case k12 => first | exact .head (fun _ h => nomatch h) | exact .tail (by assumption) (.head (fun _ h => nomatch h)) | exact .tail (by assumption) (.tail (by assumption) (.head (fun _ h => nomatch h))))
  (case k13 => exact Nat.le_of_ble_eq_true rfl)))
theorem stays_hide1 {G h : Heap} {a : Addr} (st : G.StaysIn h) (hG : G.get? a = none) : G.StaysIn (hideAll h [a]) := fun b o e => hideAll_get _ (st b o e) (by
    intro q
    rw [List.mem_singleton.mp q, hG] at e; cases e)
theorem init_sec {prog : Program} {w : World} {A : Around} {s : Shared} {G : Heap} {x dx pl nl : Addr} {pvs nvs : List Value} {np nn : Nat} {wt : Tok} {pv : Value} (gd : Gd w G) (st : G.StaysIn s.heap) (hG : G.get? dx = none) (hr : A.depth < recursionLimit)
    (hx : s.heap.get? x = some (instObj 50 dx)) (hdx : s.heap.get? dx = some (dictOf [] 0)) (hp : s.heap.get? pl = some (listOf pvs.toArray np)) (hn : s.heap.get? nl = some (listOf nvs.toArray nn))
    (hpl : pvs.length ≤ 2000) (hnl : nvs.length ≤ 2000) :
    codeAny (model prog w) A (.call (.ref 42) ⟨[.ref x, .ref pl, .str (Str.ofString "HEADER.FIELDS") wt, .ref nl, pv], []⟩) (Ret s [dx] fun v h' => v = .none ∧ ∃ h1 h2 h3 h4 k1 k2 k3 k4 pa na nd,
      h'.get? dx = some (dictOf (secDict h1 h2 h3 h4 k1 k2 k3 k4 pa na wt pv) nd) ∧ h'.get? pa = some (tupO pvs 0) ∧ h'.get? na = some (tupO nvs 0) ∧ Over s.heap pa ∧ Over s.heap na) s := by
  have gd' := gd.keeps (stays_hide1 st hG)
  refine' enter (binds := [(Str.ofString "self", .ref x), (Str.ofString "path", .ref pl), (Str.ofString "word", .str (Str.ofString "HEADER.FIELDS") wt), (Str.ofString "names", .ref nl), (Str.ofString "partial", pv)]) ?gg ?ho ?hcd ?hroom ?hbind ?hloc ?_ ?c2 ?c3 ?c4 ?c5
  (case gg => exact gd.keeps st)
  (case ho => k_is)
  (case hcd => k_is)
  (case hbind => exact binds_K (gd.X.keeps st) rfl (by k_is) rfl rfl rfl)
  (case hloc => exact locs rfl)
  (case c2 => exact rfl)
  (case c3 => exact rfl)
  (case c4 => exact rfl)
  (case c5 => decide)
  (case hroom => assumption)
  intro h₁ tk F₀
  have F : Fr (hideAll s.heap [dx]) s.heap.objs.size h₁ (fun y => List.lookup y [(Str.ofString "self", Value.ref x), (Str.ofString "path", .ref pl), (Str.ofString "word", .str (Str.ofString "HEADER.FIELDS") wt), (Str.ofString "names", .ref nl), (Str.ofString "partial", pv)].reverse) :=
    ⟨F₀.ns, fun b o e => F₀.keep b o (of_hideAll _ e), Nat.le_of_eq (hideAll_size _ _)⟩
  have N : News (hideAll s.heap [dx]) s.heap.objs.size h₁ [(dx, dictOf [] 0)] := fun p hp => by
    rw [List.mem_singleton.mp hp]
    exact ⟨F₀.keep _ _ hdx, Nat.ne_of_lt (Heap.lt_size hdx), hideAll_none _ (by simp)⟩
  have xd : x ≠ dx := fun e => by rw [e, hdx] at hx; cases hx
  have pd : pl ≠ dx := fun e => by rw [e, hdx] at hp; have h := congrArg (fun o => o.map Obj.cls) hp; simp at h
  have ndx : nl ≠ dx := fun e => by rw [e, hdx] at hn; have h := congrArg (fun o => o.map Obj.cls) hn; simp at h
  have gX := gd'.X
  clear gd F₀
  repeat walk_at "go"
  refine' tuple_of_list (vs := pvs) ?tl ?tz fun h2 D2 e2 g2 lt2 => ?_
  (case tl => exact ⟨_, keeps_hide F _ _ (by simpa using pd) hp, rfl, _, rfl⟩)
  (case tz => rw [sizeLine_eq]; omega)
  have ov2 := over_hide F (N _ (.head _)).1 lt2
  obtain ⟨F2, N2⟩ := news_cons F N e2 g2 lt2
  clear F N
  repeat walk_at "go"
  have I2 : InstAt h2 x (instObj 50 dx) 50 (some (dictOf [] 0)) := ⟨keeps_hide F2 _ _ (by simpa using xd) hx, rfl, rfl, (N2 _ (.tail _ (.head _))).1⟩
  have ne2 : (D2, tupO pvs 0).1 ≠ dx := Nat.ne_of_gt (ov2 _ _ hdx)
  walk_at "put"
  intro h3 F3 N3
  clear F2 N2 I2
  try dsimp only at N3
  repeat walk_at "go"
  have I3 := sec_at (keeps_hide F3 _ _ (by simpa using xd) hx) (show h3.get? dx = some (dictOf _ _) from (N3 _ (.tail _ (.head _))).1)
  walk_at "put"
  intro h4 F4 N4
  clear F3 N3 I3
  try dsimp only at N4
  repeat walk_at "go"
  refine' tuple_of_list (vs := nvs) ?tl ?tz fun h5 D5 e5 g5 lt5 => ?_
  (case tl => exact ⟨_, keeps_hide F4 _ _ (by simpa using ndx) hn, rfl, _, rfl⟩)
  (case tz => rw [sizeLine_eq]; omega)
  have ov5 := over_hide F4 (N4 _ (.tail _ (.head _))).1 lt5
  obtain ⟨F5, N5⟩ := news_cons F4 N4 e5 g5 lt5
  have ne5 : (D5, tupO nvs 0).1 ≠ dx := Nat.ne_of_gt (ov5 _ _ hdx)
  clear F4 N4
  repeat walk_at "go"
  have I5 := sec_at (keeps_hide F5 _ _ (by simpa using xd) hx) (show h5.get? dx = some (dictOf _ _) from (N5 _ (.tail _ (.tail _ (.head _)))).1)
  walk_at "put"
  intro h6 F6 N6
  clear F5 N5 I5
  try dsimp only at N6
  repeat walk_at "go"
  have I6 := sec_at (keeps_hide F6 _ _ (by simpa using xd) hx) (show h6.get? dx = some (dictOf _ _) from (N6 _ (.tail _ (.tail _ (.head _)))).1)
  walk_at "put"
  intro h7 F7 N7
  clear F6 N6 I6
  try dsimp only at N7
  repeat walk_at "go"
  exact ⟨_, _, _, rfl, rfl, keeps_hide F7, rfl, _, _, _, _, _, _, _, _, _, _, _, (N7 _ (.tail _ (.tail _ (.head _)))).1, (N7 _ (.tail _ (.head _))).1, (N7 _ (.head _)).1, ov2, ov5⟩

theorem inst_at {h : Heap} {C x dx : Addr} {o : Obj} (p1 : h.get? x = some (instObj C dx)) (p2 : h.get? dx = some o) : InstAt h x (instObj C dx) C (some o) := ⟨p1, rfl, rfl, p2⟩
noncomputable abbrev cmdDict (h1 h2 h3 : Int) (k1 k2 k3 : Tok) (t1 t2 : Tok) (aa : Addr) : List DictEntry :=
  [⟨h1, .str (Str.ofString "tag") k1, .str (Str.ofString "a1") t1⟩, ⟨h2, .str (Str.ofString "word") k2, .str (Str.ofString "SEARCH") t2⟩, ⟨h3, .str (Str.ofString "args") k3, .ref aa⟩]
theorem make_sec {prog : Program} {w : World} {A : Around} {E : Value → Shared → Prop} {s : Shared} {G : Heap} {pl nl : Addr} {pvs nvs : List Value} {np nn : Nat} {wt : Tok} {pv : Value} {Q : Value → Shared → Prop} (gd : Gd w G) (st : G.StaysIn s.heap) (hr : A.depth + 1 < recursionLimit)
    (hp : s.heap.get? pl = some (listOf pvs.toArray np)) (hn : s.heap.get? nl = some (listOf nvs.toArray nn)) (hpl : pvs.length ≤ 2000) (hnl : nvs.length ≤ 2000)
    (k : ∀ h' x dx tk' pa na tl h1 h2 h3 h4 k1 k2 k3 k4 nd, Ext [] s.heap h' → Fresh s.heap h' tl → (x, instObj 50 dx) ∈ tl → (dx, dictOf (secDict h1 h2 h3 h4 k1 k2 k3 k4 pa na wt pv) nd) ∈ tl → (pa, tupO pvs 0) ∈ tl → (na, tupO nvs 0) ∈ tl →
      Q (.ref x) { s with heap := h', toks := tk' }) :
    wpAny (model prog w) A (call (.ref 50) [.ref pl, .str (Str.ofString "HEADER.FIELDS") wt, .ref nl, pv]) Q E s := by
  obtain ⟨hh, g, d, t, os⟩ := s
  have X : (hd.heap_39 w.params).In hh := gd.X.keeps st
  have e1 : ((hh.push emptyDict).push (instObj 50 hh.objs.size)).get? hh.objs.size = some emptyDict := Heap.get?_push_of_some _ (Heap.get?_push_size _ rfl)
  have e2 : ((hh.push emptyDict).push (instObj 50 hh.objs.size)).get? (hh.objs.size + 1) = some (instObj 50 hh.objs.size) := by
    have : ((hh.push emptyDict).push (instObj 50 hh.objs.size)).get? (hh.push emptyDict).objs.size = some (instObj 50 hh.objs.size) := Heap.get?_push_size _ rfl
    rwa [Heap.size_push] at this
  have old : ∀ b o, hh.get? b = some o → ((hh.push emptyDict).push (instObj 50 hh.objs.size)).get? b = some o := fun b o e => Heap.get?_push_of_some _ (Heap.get?_push_of_some _ e)
  refine wpAny_call (make_core (init := .ref 42) (makes_of X ?hm) (looks_findIn X ?hi) (fun self => bind_fn X self ?hf) (.inl rfl) ?_)
  (case hm => k_is)
  (case hi => k_is)
  (case hf => k_is)
  refine codeAny_mono (init_sec (s := ⟨(hh.push emptyDict).push (instObj 50 hh.objs.size), g, d, t, os⟩) (pvs := pvs) (nvs := nvs) gd (fun b o e => old b o (st b o e)) ?_ ?_ e2 e1 (old _ _ hp) (old _ _ hn) hpl hnl) fun r s' hr => ?_
  · exact Over.none (h := hh) st (Over.of_le (Nat.le_refl _))
  · rw [depth_under_make]; omega
  · obtain ⟨v, h', tk', rfl, rfl, ext, rfl, h1, h2, h3, h4, k1, k2, k3, k4, pa, na, nd, g1, g2, g3, o1, o2⟩ := hr
    refine ⟨rfl, k h' (hh.objs.size + 1) hh.objs.size tk' pa na [(hh.objs.size + 1, instObj 50 hh.objs.size), (hh.objs.size, _), (pa, tupO pvs 0), (na, tupO nvs 0)] h1 h2 h3 h4 k1 k2 k3 k4 nd ?_ ?_ (.head _) (.tail _ (.head _)) (.tail _ (.tail _ (.head _))) (.tail _ (.tail _ (.tail _ (.head _))))⟩
    · intro b o _ e
      exact ext b o (by simpa using Nat.ne_of_lt (Heap.lt_size e)) (old b o e)
    · intro p hp
      simp only [List.mem_cons, List.not_mem_nil, or_false] at hp
      rcases hp with rfl | rfl | rfl | rfl
      · exact ⟨ext _ _ (by simp) e2, fun b o e => Nat.lt_succ_of_lt (Heap.lt_size e)⟩
      · exact ⟨g1, fun b o e => Heap.lt_size e⟩
      · exact ⟨g2, fun b o e => o1 b o (old b o e)⟩
      · exact ⟨g3, fun b o e => o2 b o (old b o e)⟩
local macro_rules | `(tactic| walk_at "put") => `(tactic| (
  refine' set_dict ?k1 ?k2 ?k3 ?k4 ?k5 ?k6 ?k7 ?k8 ?k9 ?k10 ?k11 ?k12 ?k13 ?_
  (case k1 => assumption)
  (case k2 => assumption)
  (case k3 => assumption)
  (case k4 => assumption)
  (case k5 => exact rfl)
  (case k6 => k_is)
  (case k7 => k_is)
  (case k8 => k_is)
  (case k9 => k_is)
  (case k10 => k_get)
  (case k11 => k_put)
  (case k12 => first | exact .head (fun _ h => nomatch h) | exact .tail (by assumption) (.head (fun _ h => nomatch h)) | exact .tail (by assumption) (.tail (by assumption) (.head (fun _ h => nomatch h))))
  (case k13 => exact Nat.le_of_ble_eq_true rfl)))

theorem init_cmd {prog : Program} {w : World} {A : Around} {s : Shared} {G : Heap} {x dx al : Addr} {avs : List Value} {na : Nat} {t1 t2 : Tok} (gd : Gd w G) (st : G.StaysIn s.heap) (hG : G.get? dx = none) (hr : A.depth < recursionLimit)
    (hx : s.heap.get? x = some (instObj 80 dx)) (hdx : s.heap.get? dx = some (dictOf [] 0)) (ha : s.heap.get? al = some (listOf avs.toArray na)) (hal : avs.length ≤ 2000) :
    codeAny (model prog w) A (.call (.ref 70) ⟨[.ref x, .str (Str.ofString "a1") t1, .str (Str.ofString "SEARCH") t2, .ref al], []⟩) (Ret s [dx] fun v h' => v = .none ∧ ∃ h1 h2 h3 k1 k2 k3 aa nd,
      h'.get? dx = some (dictOf (cmdDict h1 h2 h3 k1 k2 k3 t1 t2 aa) nd) ∧ h'.get? aa = some (tupO avs 0) ∧ Over s.heap aa) s := by
  have gd' := gd.keeps (stays_hide1 st hG)
  refine' enter (binds := [(Str.ofString "self", .ref x), (Str.ofString "tag", .str (Str.ofString "a1") t1), (Str.ofString "word", .str (Str.ofString "SEARCH") t2), (Str.ofString "args", .ref al)]) ?gg ?ho ?hcd ?hroom ?hbind ?hloc ?_ ?c2 ?c3 ?c4 ?c5
  (case gg => exact gd.keeps st)
  (case ho => k_is)
  (case hcd => k_is)
  (case hbind => exact binds_K (gd.X.keeps st) rfl (by k_is) rfl rfl rfl)
  (case hloc => exact locs rfl)
  (case c2 => exact rfl)
  (case c3 => exact rfl)
  (case c4 => exact rfl)
  (case c5 => decide)
  (case hroom => assumption)
  intro h₁ tk F₀
  have F : Fr (hideAll s.heap [dx]) s.heap.objs.size h₁ (fun y => List.lookup y [(Str.ofString "self", Value.ref x), (Str.ofString "tag", .str (Str.ofString "a1") t1), (Str.ofString "word", .str (Str.ofString "SEARCH") t2), (Str.ofString "args", .ref al)].reverse) :=
    ⟨F₀.ns, fun b o e => F₀.keep b o (of_hideAll _ e), Nat.le_of_eq (hideAll_size _ _)⟩
  have N : News (hideAll s.heap [dx]) s.heap.objs.size h₁ [(dx, dictOf [] 0)] := fun p hp => by
    rw [List.mem_singleton.mp hp]
    exact ⟨F₀.keep _ _ hdx, Nat.ne_of_lt (Heap.lt_size hdx), hideAll_none _ (by simp)⟩
  have xd : x ≠ dx := fun e => by rw [e, hdx] at hx; cases hx
  have pd : al ≠ dx := fun e => by rw [e, hdx] at ha; have h := congrArg (fun o => o.map Obj.cls) ha; simp at h
  have gX := gd'.X
  clear gd F₀
  repeat walk_at "go"
  have I2 := inst_at (keeps_hide F _ _ (by simpa using xd) hx) (show h₁.get? dx = some (dictOf _ _) from (N _ (.head _)).1)
  walk_at "put"
  intro h3 F3 N3
  clear F N I2
  try dsimp only at N3
  repeat walk_at "go"
  have I3 := inst_at (keeps_hide F3 _ _ (by simpa using xd) hx) (show h3.get? dx = some (dictOf _ _) from (N3 _ (.head _)).1)
  walk_at "put"
  intro h4 F4 N4
  clear F3 N3 I3
  try dsimp only at N4
  repeat walk_at "go"
  refine' tuple_of_list (vs := avs) ?tl ?tz fun h5 D5 e5 g5 lt5 => ?_
  (case tl => exact ⟨_, keeps_hide F4 _ _ (by simpa using pd) ha, rfl, _, rfl⟩)
  (case tz => rw [sizeLine_eq]; omega)
  have ov5 := over_hide F4 (N4 _ (.head _)).1 lt5
  obtain ⟨F5, N5⟩ := news_cons F4 N4 e5 g5 lt5
  have ne5 : (D5, tupO avs 0).1 ≠ dx := Nat.ne_of_gt (ov5 _ _ hdx)
  clear F4 N4
  repeat walk_at "go"
  have I5 := inst_at (keeps_hide F5 _ _ (by simpa using xd) hx) (show h5.get? dx = some (dictOf _ _) from (N5 _ (.tail _ (.head _))).1)
  walk_at "put"
  intro h6 F6 N6
  clear F5 N5 I5
  try dsimp only at N6
  repeat walk_at "go"
  exact ⟨_, _, _, rfl, rfl, keeps_hide F6, rfl, _, _, _, _, _, _, _, _, (N6 _ (.tail _ (.head _))).1, (N6 _ (.head _)).1, ov5⟩

theorem make_cmd {prog : Program} {w : World} {A : Around} {E : Value → Shared → Prop} {s : Shared} {G : Heap} {al : Addr} {avs : List Value} {na : Nat} {t1 t2 : Tok} {Q : Value → Shared → Prop} (gd : Gd w G) (st : G.StaysIn s.heap) (hr : A.depth + 1 < recursionLimit)
    (ha : s.heap.get? al = some (listOf avs.toArray na)) (hal : avs.length ≤ 2000)
    (k : ∀ h' x dx tk' aa tl h1 h2 h3 k1 k2 k3 nd, Ext [] s.heap h' → Fresh s.heap h' tl → (x, instObj 80 dx) ∈ tl → (dx, dictOf (cmdDict h1 h2 h3 k1 k2 k3 t1 t2 aa) nd) ∈ tl → (aa, tupO avs 0) ∈ tl →
      Q (.ref x) { s with heap := h', toks := tk' }) :
    wpAny (model prog w) A (call (.ref 80) [.str (Str.ofString "a1") t1, .str (Str.ofString "SEARCH") t2, .ref al]) Q E s := by
  obtain ⟨hh, g, d, t, os⟩ := s
  have X : (hd.heap_39 w.params).In hh := gd.X.keeps st
  have e1 : ((hh.push emptyDict).push (instObj 80 hh.objs.size)).get? hh.objs.size = some emptyDict := Heap.get?_push_of_some _ (Heap.get?_push_size _ rfl)
  have e2 : ((hh.push emptyDict).push (instObj 80 hh.objs.size)).get? (hh.objs.size + 1) = some (instObj 80 hh.objs.size) := by
    have : ((hh.push emptyDict).push (instObj 80 hh.objs.size)).get? (hh.push emptyDict).objs.size = some (instObj 80 hh.objs.size) := Heap.get?_push_size _ rfl
    rwa [Heap.size_push] at this
  have old : ∀ b o, hh.get? b = some o → ((hh.push emptyDict).push (instObj 80 hh.objs.size)).get? b = some o := fun b o e => Heap.get?_push_of_some _ (Heap.get?_push_of_some _ e)
  refine wpAny_call (make_core (init := .ref 70) (makes_of X ?hm) (looks_findIn X ?hi) (fun self => bind_fn X self ?hf) (.inl rfl) ?_)
  (case hm => k_is)
  (case hi => k_is)
  (case hf => k_is)
  refine codeAny_mono (init_cmd (s := ⟨(hh.push emptyDict).push (instObj 80 hh.objs.size), g, d, t, os⟩) (avs := avs) gd (fun b o e => old b o (st b o e)) ?_ ?_ e2 e1 (old _ _ ha) hal) fun r s' hr => ?_
  · exact Over.none (h := hh) st (Over.of_le (Nat.le_refl _))
  · rw [depth_under_make]; omega
  · obtain ⟨v, h', tk', rfl, rfl, ext, rfl, h1, h2, h3, k1, k2, k3, aa, nd, g1, g2, o1⟩ := hr
    refine ⟨rfl, k h' (hh.objs.size + 1) hh.objs.size tk' aa [(hh.objs.size + 1, instObj 80 hh.objs.size), (hh.objs.size, _), (aa, tupO avs 0)] h1 h2 h3 k1 k2 k3 nd ?_ ?_ (.head _) (.tail _ (.head _)) (.tail _ (.tail _ (.head _)))⟩
    · intro b o _ e
      exact ext b o (by simpa using Nat.ne_of_lt (Heap.lt_size e)) (old b o e)
    · intro p hp
      simp only [List.mem_cons, List.not_mem_nil, or_false] at hp
      rcases hp with rfl | rfl | rfl
      · exact ⟨ext _ _ (by simp) e2, fun b o e => Nat.lt_succ_of_lt (Heap.lt_size e)⟩
      · exact ⟨g1, fun b o e => Heap.lt_size e⟩
      · exact ⟨g2, fun b o e => o1 b o (old b o e)⟩

local macro_rules | `(tactic| walk_at "attr") => `(tactic| (
  refine' get_own ?kF ?kX ?kI ?k4 ?k5 ?k6 ?k7 ?k8 ?k9 ?_
  (case kI => assumption)
  (case kF => assumption)
  (case kX => assumption)
  (case k4 => k_is)
  (case k5 => k_is)
  (case k6 => k_is)
  (case k7 => k_is)
  (case k8 => exact rfl)
  (case k9 => exact rfl)))
theorem cmd_told_spec {prog : Program} {w : World} {A : Around} {s : Shared} {G : Heap} {x dx aa : Addr} {h1 h2 h3 : Int} {k1 k2 k3 t1 t2 : Tok} {nd n : Nat} {l : List D} (P : Addr → Prop) (gd : Gd w G) (st : G.StaysIn s.heap) (hr : A.depth + n + 10 < recursionLimit) (hu : A.units + 3 * n + 90 < cLine) (hh : A.handled = none)
    (hx : s.heap.get? x = some (instObj 80 dx)) (hdx : s.heap.get? dx = some (dictOf (cmdDict h1 h2 h3 k1 k2 k3 t1 t2 aa) nd)) (hrep : Rep (inP P s.heap) (.tup l) (.ref aa)) (htb : Tb n (.tup l)) (hsp : (D.tup l).sp ≤ 2000) :
    codeAny (model prog w) A (.call (.ref 77) ⟨[.ref x], []⟩) (Ret s [] fun v h' => Rep (inP (fun a => P a ∨ s.heap.objs.size ≤ a) h') (.tup [.str (Str.ofString "a1"), .str (Str.ofString "SEARCH"), .tup (D.toldL l)]) v) s := by
  have gd' := gd.keeps st
  refine' enter (binds := [(Str.ofString "self", .ref x)]) (by assumption) ?ho ?hcd ?hroom ?hbind ?hloc ?_ ?c2 ?c3 ?c4 ?c5
  (case ho => k_is)
  (case hcd => k_is)
  (case hbind => exact BindsTo.of_eq rfl)
  (case hloc => exact locs rfl)
  (case c2 => exact rfl)
  (case c3 => exact rfl)
  (case c4 => exact rfl)
  (case c5 => decide)
  (case hroom => omega)
  intro h₁ tk F
  have gX := gd'.X
  have N : News s.heap s.heap.objs.size h₁ [] := fun _ h => nomatch h
  have I1 := inst_at (F.keep _ _ hx) (F.keep _ _ hdx)
  clear gd
  repeat walk_at "go"
  walk_at "attr"
  repeat walk_at "go"
  walk_at "attr"
  repeat walk_at "go"
  walk_at "attr"
  repeat walk_at "go"
  refine' call_of (told_spec n _ _ (.tup l) _ P ?g1 ?r1 ?u1 hh htb hsp ?rr) ?_
  (case g1 => exact gd'.keeps F.keep)
  (case r1 => walk_at "room")
  (case u1 => walk_at "room")
  (case rr => exact hrep.mono (fun b o e => ⟨F.keep _ _ e.1, e.2⟩) _ _)
  intro v' h2 tk2 ext hv'
  have F2 := ext.fr F (by simp) (by simp)
  have hL1 : s.heap.objs.size ≤ h₁.objs.size := Nat.le_of_lt F.ns.lt
  clear F I1 N
  repeat walk_at "go"
  refine' tuple_ext ?tz fun h3 D3 e3 g3 lt3 => ?_
  (case tz => simp [sizeLine_eq])
  try dsimp only
  refine ⟨_, _, _, rfl, rfl, fun b o _ e => e3 b o (by simp) (F2.keep b o e), Rep.tupI (n := 0) ⟨g3, .inr (Nat.le_of_lt (lt3 _ _ (ns_at F2.ns).choose_spec))⟩ (.cons .strI (.cons .strI (.cons ?_ .nil)))⟩
  simp only [D.told] at hv'
  exact hv'.mono (fun b o e => ⟨e3 b o (by simp) e.1, e.2.imp id (Nat.le_trans hL1)⟩) _ _

/-! what _law_arg builds -/
structure ArgOk (n : Nat) (d : D) : Prop where
  tb : Tb n d
  sp : d.sp ≤ n
  flat : d.told.flat = true
  dep : d.told.dep ≤ 2 * n + 3
noncomputable def Ka : Nat → Int
  | 0 => 2
  | n + 1 => 3 * Ka n + 10
theorem Ka_pos : ∀ n, 2 ≤ Ka n
  | 0 => by simp [Ka]
  | n + 1 => by have := Ka_pos n; simp only [Ka]; omega
def ArgSpec (prog : Program) (w : World) (G : Heap) (u c : Addr) (n : Nat) : Prop := ∀ (A : Around) (s : Shared) (B : Int) (t : Tok), G.StaysIn s.heap →
    A.depth + n + 6 < recursionLimit → A.units + 3 * n + 90 < cLine → A.handled = none → Urn s.heap u c B → B + Ka n < 2 ^ 30 →
    codeAny (model prog w) A (.call (.ref 113) ⟨[.ref u, .int (n : Int) t], []⟩) (Ret s [u, c] fun v h' => ∃ d tl, ArgOk n d ∧ Rep (inL tl) (.tup [d, d.told]) v ∧ Fresh s.heap h' tl ∧ Urn h' u c (B + Ka n)) s
theorem ArgOk.leaf {n : Nat} {d : D} (h : d.isSeq = false) (h' : d.isSec = false) : ArgOk n d := by
  refine ⟨.leaf h h', ?_, ?_, ?_⟩
  · cases d <;> simp [D.isSeq, D.isSec] at h h' <;> simp [D.sp]
  · rw [leaf_told h h']; cases d <;> simp [D.isSeq, D.isSec] at h h' <;> simp [D.flat]
  · rw [leaf_told h h']; cases d <;> simp [D.isSeq, D.isSec] at h h' <;> simp [D.dep]
theorem flatL_ints : ∀ l : List Int, D.flatL (l.map .int) = true ∧ D.depL (l.map .int) = 0
  | [] => by simp [D.flatL, D.depL]
  | a :: r => by have := flatL_ints r; simp [D.flatL, D.depL, D.flat, D.dep, this]
theorem flatL_strs : ∀ l : List Str, D.flatL (l.map .str) = true ∧ D.depL (l.map .str) = 0
  | [] => by simp [D.flatL, D.depL]
  | a :: r => by have := flatL_strs r; simp [D.flatL, D.depL, D.flat, D.dep, this]
theorem ArgOk.secI {n : Nat} {path : List Int} {names : List Str} {par : D} (h1 : names.length ≤ 3) (h2 : ∀ x ∈ names, x ∈ fiveN) (h3 : par.flat = true) (h4 : par.dep ≤ 1) : ArgOk n (.sec path names par) := by
  have a := flatL_ints path
  have b := flatL_strs (smallN names)
  refine ⟨.sec h1 h2, by simp [D.sp], ?_, ?_⟩
  · simp [D.told, D.flat, D.flatL, a.1, b.1, h3]
  · simp [D.told, D.dep, D.depL, a.2, b.2]; omega
theorem all_argok : ∀ {l : List D} {n : Nat}, (∀ d ∈ l, ArgOk n d) → D.flatL (D.toldL l) = true ∧ D.depL (D.toldL l) ≤ 2 * n + 3
  | [], n, _ => by simp [D.toldL, D.flatL, D.depL]
  | d :: r, n, h => by
    have h1 := h d (.head _)
    have h2 := all_argok (fun e he => h e (.tail _ he))
    refine ⟨?_, ?_⟩
    · simp [D.toldL, D.flatL, h1.flat, h2.1]
    · simp only [D.toldL, D.depL]; have := h1.dep; have := h2.2; omega
theorem spL_le {l : List D} {n : Nat} (h : ∀ d ∈ l, ArgOk n d) : D.spL l ≤ n + 1 := by
  match l, h with
  | [], _ => simp [D.spL]
  | [a], _ => simp [D.spL, D.spH]
  | a :: b :: r, h => have := (h b (by simp)).sp; simp only [D.spL, D.spH]; omega
theorem ArgOk.tupI {n : Nat} {l : List D} (hn : n ≤ 100) (hl : l.length ≤ 2000) (h : ∀ d ∈ l, ArgOk n d) : ArgOk (n + 1) (.tup l) := by
  have a := all_argok h
  refine ⟨.tup hl (fun d hd => by have := (h d hd).sp; omega) (fun d hd => (h d hd).tb), ?_, ?_, ?_⟩
  · simp only [D.sp]; exact spL_le h
  · simp only [D.told, D.flat]; exact a.1
  · simp only [D.told, D.dep]; omega
theorem ArgOk.lstI {n : Nat} {l : List D} (hn : n ≤ 100) (hl : l.length ≤ 2000) (h : ∀ d ∈ l, ArgOk n d) : ArgOk (n + 1) (.lst l) := by
  have a := all_argok h
  refine ⟨.lst hl (fun d hd => by have := (h d hd).sp; omega) (fun d hd => (h d hd).tb), ?_, ?_, ?_⟩
  · simp only [D.sp]; exact spL_le h
  · simp only [D.told, D.flat]; exact a.1
  · simp only [D.told, D.dep]; omega

theorem lower_five : ∀ x ∈ fiveN, Txt.lower x = lowT x := by decide +kernel
theorem short_five : ∀ x ∈ fiveN, x.length ≤ 100 := by decide +kernel
theorem sit_tupleOf {prog : Program} {w : World} {A : Around} {E : Value → Shared → Prop} {s : Shared} {g : Heap} {L u c l : Addr} {m : Str → Option Value} {B : Int} {cs : List (Addr × Option Value)} {post : List (Addr × Obj)} {vs : List Value} {n : Nat} {Q : Value → Shared → Prop}
    (S : Sit g L m u c B cs post s.heap) (hm : (l, listOf vs.toArray n) ∈ post) (hz : vs.length ≤ 2000) (k : ∀ h' D, Sit g L m u c B cs ((D, tupO vs 0) :: post) h' → Q (.ref D) { s with heap := h' }) : wpAny (model prog w) A (call (.type "tuple") [.ref l]) Q E s :=
  tuple_of_list ⟨_, S.get hm, rfl, _, rfl⟩ (by rw [sizeLine_eq]; omega) fun h' D e gd lt => k h' D (S.step (tl := [(D, tupO vs 0)]) e fun p hp => by rw [List.mem_singleton.mp hp]; exact ⟨gd, lt⟩)

theorem snoc_strs (l : List (Str × Tok)) (x : Str) (t : Tok) : strValues l ++ [.str x t] = strValues (l ++ [(x, t)]) := by simp only [strValues, List.map_append, List.map_cons, List.map_nil]

theorem Rep.secI {π : Addr → Obj → Prop} {path : List Int} {names : List Str} {par : D} {a dx pa na : Addr} {h1 h2 h3 h4 : Int} {k1 k2 k3 k4 wt : Tok} {pv : Value} {nd pn nn : Nat} {pvs nvs : List Value} (m1 : π a (instObj 50 dx)) (m2 : π dx (dictOf (secDict h1 h2 h3 h4 k1 k2 k3 k4 pa na wt pv) nd))
    (m3 : π pa (tupO pvs pn)) (hp : IntsAre pvs path) (m4 : π na (tupO nvs nn)) (hn : StrsAre nvs names) (r : Rep π par pv) : Rep π (.sec path names par) (.ref a) := by
  simp only [Rep]
  exact ⟨a, dx, h1, h2, h3, h4, k1, k2, k3, k4, pa, na, wt, pv, nd, pvs, pn, nvs, nn, rfl, m1, m2, m3, hp, m4, hn, r⟩

/-! rows: concatenation beside the urn -/
theorem cells_list {h : Heap} : ∀ (cs : List (Addr × Option Value)), (∀ q ∈ cs, h.IsCell q.1 q.2) → ∃ l : List (Addr × Obj), (∀ p ∈ l, h.get? p.1 = some p.2 ∧ ∃ q ∈ cs, p.1 = q.1) ∧ ∀ q ∈ cs, ∃ o, (q.1, o) ∈ l ∧ o.data = .cell q.2
  | [], _ => ⟨[], (fun _ h => nomatch h), fun _ h => nomatch h⟩
  | q :: r, hc => by
    obtain ⟨l, h1, h2⟩ := cells_list r fun q' hq' => hc q' (.tail _ hq')
    obtain ⟨o, e, d⟩ := hc q (.head _)
    refine ⟨(q.1, o) :: l, fun p hp => ?_, fun q' hq' => ?_⟩
    · rcases List.mem_cons.mp hp with rfl | hp
      · exact ⟨e, q, .head _, rfl⟩
      · obtain ⟨a, q', hq', b⟩ := h1 p hp
        exact ⟨a, q', .tail _ hq', b⟩
    · rcases List.mem_cons.mp hq' with rfl | hq'
      · exact ⟨o, .head _, d⟩
      · obtain ⟨o', a, b⟩ := h2 q' hq'
        exact ⟨o', .tail _ a, b⟩
theorem Sit.pack {g h : Heap} {L u c : Addr} {m : Str → Option Value} {B : Int} {cs : List (Addr × Option Value)} {post : List (Addr × Obj)} (S : Sit g L m u c B cs post h) :
    ∃ all, News g L h all ∧ ∀ h' D o, Fr g L h' m → News g L h' ((D, o) :: all) → Over h D → Sit g L m u c B cs ((D, o) :: post) h' := by
  obtain ⟨cl, c1, c2⟩ := cells_list cs S.cell
  obtain ⟨uo, co, O, gu, gc⟩ := S.urn
  refine ⟨(u, uo) :: (c, co) :: (cl ++ post), fun p hp => ?_, fun h' D o F' N' ov => ?_⟩
  · have out : ∀ a ob, h.get? a = some ob → L < a → g.get? a = none ∨ True := fun _ _ _ _ => .inr trivial
    rcases List.mem_cons.mp hp with rfl | hp
    · exact ⟨gu, S.uL.1, S.uL.2⟩
    · rcases List.mem_cons.mp hp with rfl | hp
      · exact ⟨gc, S.cL.1, S.cL.2⟩
      · rcases List.mem_append.mp hp with hp | hp
        · obtain ⟨a, q, hq, b⟩ := c1 p hp
          exact ⟨a, b ▸ (S.clo q hq).1, b ▸ (S.clo q hq).2.2.2⟩
        · refine ⟨S.get' p hp, Nat.ne_of_gt (S.lo p hp).1, ?_⟩
          cases e : g.get? p.1 with
          | none => rfl
          | some x => exact absurd (Nat.lt_of_lt_of_le (Heap.lt_size e) S.F.above) (Nat.not_lt.mpr (Nat.le_of_lt (S.lo p hp).1))
  · have get : ∀ p ∈ (u, uo) :: (c, co) :: (cl ++ post), h'.get? p.1 = some p.2 := fun p hp => (N' p (.tail _ hp)).1
    refine ⟨F', ⟨uo, co, O, get _ (.head _), get _ (.tail _ (.head _))⟩, fun p hp => (N' p (by
      rcases List.mem_cons.mp hp with rfl | hp
      · exact .head _
      · exact .tail _ (.tail _ (.tail _ (List.mem_append_right _ hp))))).1, fun q hq => ?_, fun p hp => ?_, S.clo, S.uL, S.cL⟩
    · obtain ⟨ob, a, b⟩ := c2 q hq
      exact ⟨ob, get (q.1, ob) (.tail _ (.tail _ (List.mem_append_left _ a))), b⟩
    · rcases List.mem_cons.mp hp with rfl | hp
      · obtain ⟨_, e1⟩ := S.atL
        exact ⟨ov _ _ e1, Nat.ne_of_gt (ov _ _ gu), Nat.ne_of_gt (ov _ _ gc), fun q hq => let ⟨_, e, _⟩ := S.cell q hq; Nat.ne_of_gt (ov _ _ e)⟩
      · exact S.lo p hp
section
variable {prog : Program} {w : World} {A : Around} {E : Value → Shared → Prop} {s : Shared} {g : Heap} {L u c l b : Addr} {m : Str → Option Value} {B : Int} {cs : List (Addr × Option Value)} {post : List (Addr × Obj)} {vs ws : List Value} {n1 n2 : Nat} {Q : Value → Shared → Prop}
theorem sit_addL (S : Sit g L m u c B cs post s.heap) (hm1 : (l, listOf vs.toArray n1) ∈ post) (hm2 : (b, listOf ws.toArray n2) ∈ post) (hz : vs.length + ws.length ≤ 4000)
    (k : ∀ h' Dd, Sit g L m u c B cs ((Dd, listOf (vs ++ ws).toArray 0) :: post) h' → Q (.ref Dd) { s with heap := h' }) : wpAny (model prog w) A (binaryOp .Add (.ref l) (.ref b)) Q E s := by
  obtain ⟨all, N, back⟩ := S.pack
  exact add_lists S.F N ⟨_, S.get hm1, rfl, _, rfl⟩ ⟨_, S.get hm2, rfl, _, rfl⟩ (fun h' F' N' => k h' _ (back h' _ _ F' N' (Over.of_le (Nat.le_refl _)))) (by rw [sizeLine_eq]; omega)
theorem sit_addT (S : Sit g L m u c B cs post s.heap) (hm1 : (l, tupO vs n1) ∈ post) (hm2 : (b, tupO ws n2) ∈ post) (hv : vs ≠ []) (hz : vs.length + ws.length ≤ 4000)
    (k : ∀ h' Dd post' n, Sit g L m u c B cs post' h' → (∀ p ∈ post, p ∈ post') → (Dd, tupO (vs ++ ws) n) ∈ post' → Q (.ref Dd) { s with heap := h' }) : wpAny (model prog w) A (binaryOp .Add (.ref l) (.ref b)) Q E s := by
  obtain ⟨all, N, back⟩ := S.pack
  refine add_tuples S.F N ⟨_, S.get hm1, rfl, _, rfl⟩ ⟨_, S.get hm2, rfl, _, rfl⟩ (fun e => absurd e hv) (fun _ e => ?_) (fun _ _ h' F' N' => k h' _ _ 0 (back h' _ _ F' N' (Over.of_le (Nat.le_refl _))) (fun p hp => .tail _ hp) (.head _)) (by rw [sizeLine_eq]; omega)
  subst e
  exact k s.heap l post n1 S (fun _ h => h) (by rw [List.append_nil]; exact hm1)
end
theorem repL_pairs {π : Addr → Obj → Prop} {P : D → Prop} : ∀ {ds : List D}, (∀ (i : Nat) (d : D), ds[i]? = some d → ∃ e, d = D.tup [e, e.told] ∧ P e) → ∃ es : List D, ds = es.map (fun e => .tup [e, e.told]) ∧ ∀ e ∈ es, P e
  | [], _ => ⟨[], rfl, fun _ h => nomatch h⟩
  | d :: r, k => by
    obtain ⟨e, rfl, he⟩ := k 0 d rfl
    obtain ⟨es, rfl, hq⟩ := repL_pairs (π := π) (ds := r) (fun j x hj => k (j + 1) x hj)
    refine ⟨e :: es, rfl, fun x hx => ?_⟩
    rcases List.mem_cons.mp hx with rfl | hx
    · exact he
    · exact hq x hx
theorem pair_get {π : Addr → Obj → Prop} {es : List D} {ys : List Value} {i : Nat} {v : Value} (h : RepL π (es.map fun e => .tup [e, e.told]) ys) (hv : ys[i]? = some v) : ∃ e a n v0 v1, es[i]? = some e ∧ v = .ref a ∧ π a (tupO [v0, v1] n) ∧ Rep π e v0 ∧ Rep π e.told v1 := by
  obtain ⟨d, hd, hr⟩ := h.getV hv
  rw [List.getElem?_map] at hd
  obtain ⟨e, he, rfl⟩ := Option.map_eq_some_iff.mp hd
  simp only [Rep] at hr
  obtain ⟨a, vs, n, rfl, p, q⟩ := hr
  simp only [RepL] at q
  obtain ⟨v0, _, rfl, h0, v1, _, rfl, h1, rfl⟩ := q
  exact ⟨e, a, n, v0, v1, he, rfl, p, h0, h1⟩
theorem compAt_read {prog : Program} {w : World} {A : Around} {env : Env} {scope : Scope} {cl : List (Str × Addr)} {x : Str} {elt : Expr} {s₂ : Shared} {h1 : Heap} {ob : Obj} {n : Nat} {P : Nat → Value → Prop} {St : Nat → Heap → Prop} {fp : List Addr} {Q : Heap → Nat → Prop}
    (W : Walks prog w A h1.objs.size fp [h1.objs.size] n P St) (he : s₂.heap = h1.push ob) (hst : St 0 (h1.push ob)) (hn : n ≤ 16000) (hfp : ∀ b ∈ fp, b = h1.objs.size ∨ b < h1.objs.size)
    (Inv : Nat → List Value → Prop) (h0 : Inv 0 [])
    (step : ∀ i v zs (s₃ : Shared) cm, i < n → P i v → Inv i zs → Ext [] h1 s₃.heap → s₃.heap.Ns (h1.objs.size + 1 + 1) cm → cm x = some v →
      ∀ E', wpAny (model prog w) A (eval elt (compEnvC scope cl (h1.objs.size + 1 + 1) env)) (fun y s₅ => ∃ h' tk', s₅ = { s₃ with heap := h', toks := tk' } ∧ Ext [] s₃.heap h' ∧ Inv (i + 1) (zs ++ [y])) E' s₃)
    (fin : ∀ h' tk (zs : List Value) no, Ext [] h1 h' → Fresh h1 h' [(h1.objs.size + 1, listOf zs.toArray no)] → Inv n zs → Q h' tk) :
    CompAt prog w A env scope cl x [] elt h1.objs.size s₂ (fun S wr n Inv => ∀ h' tk (ys : List Value), h'.PlainList s₂.heap.objs.size ys.toArray → ys.length ≤ n → Inv n ys h' → (∀ b o, b ∉ S → b ∉ wr → s₂.heap.get? b = some o → h'.get? b = some o) → Q h' tk) := by
  have hsz : s₂.heap.objs.size = h1.objs.size + 1 := by rw [he, Heap.size_push]
  have old : ∀ b o, h1.get? b = some o → s₂.heap.get? b = some o := fun b o e => by rw [he]; exact Heap.get?_push_of_some _ e
  have notS : ∀ b, b < h1.objs.size → b ∉ [h1.objs.size] := fun b hb q => Nat.ne_of_lt hb (List.mem_singleton.mp q)
  refine ⟨fp, [h1.objs.size], n, P, St, [], fun i ys _ => Inv i ys, W, ?_, ?_, ?_, by simp, fun _ _ _ _ q _ => q, h0, ?_, ?_⟩
  · rw [sizeLine_eq]; omega
  · rw [he]; exact hst
  · intro b hb
    rw [hsz]
    rcases hfp b hb with rfl | h
    · exact Nat.lt_succ_self _
    · exact Nat.lt_succ_of_lt h
  · rintro i v ys s₃ cm hi hP hI hk hsz3 hnc hcm E'
    rw [hsz] at hsz3 hnc ⊢
    refine wpAny_tests_nil ?_
    simp only [if_true]
    exact step i v ys s₃ cm hi hP hI (fun b o _ e => hk b o (by simp) (notS _ (Heap.lt_size e)) (old b o e)) hnc hcm E'
  · rintro h' tk ys ⟨no, hpl⟩ hlen hI hk
    rw [hsz] at hpl
    refine fin h' tk ys no (fun b o _ e => hk b o (by simp) (notS _ (Heap.lt_size e)) (old b o e)) (fun p hp => ?_) hI
    rw [List.mem_singleton.mp hp]
    exact ⟨hpl, fun b o e => Nat.lt_succ_of_lt (Heap.lt_size e)⟩
theorem take_snoc {α : Type} {l : List α} {i : Nat} {e : α} (h : l[i]? = some e) : l.take (i + 1) = l.take i ++ [e] := by rw [List.take_add_one, h]; rfl

local macro_rules | `(tactic| walk_at "sit") => `(tactic| ((with_reducible show wpAny _ _ (exec (Stmt.Assign [Expr.Tuple _ _ _] _ _) _) _ _ _); first | refine Assign_Tuple_swapped (names := [Str.ofString "path", Str.ofString "partial"]) ?_ (by with_unfolding_all rfl) (by with_unfolding_all rfl) | refine Assign_Tuple_swapped (names := [Str.ofString "row", Str.ofString "due"]) ?_ (by with_unfolding_all rfl) (by with_unfolding_all rfl)))

def ArgP (s : Shared) (u c L : Addr) (B : Int) (n : Nat) (t : Tok) (m₀ : Str → Option Value) : Shared → Prop :=
  fun s' => ∃ (h' : Heap) (tk' : Nat) (d : Int) (t' : Tok), s' = { s with heap := h', toks := tk' } ∧ 0 ≤ d ∧ d < 9 ∧ (n = 0 → d < 4) ∧
    Sit (hideAll s.heap [u, c]) L (fun y => if y = Str.ofString "way" then some (Value.int d t') else m₀ y) u c (B + 1) [(L + 1 + 1 + 1, none), (L + 1 + 1, some (.int (n : Int) t)), (L + 1, some (.ref u))] [] h'
set_option maxHeartbeats 8000000 in
theorem arg_step {prog : Program} {w : World} {G : Heap} (gd : Gd w G) {u c : Addr} (hGu : G.get? u = none) (hGc : G.get? c = none) (n : Nat) (hn100 : n ≤ 100) (ih : ∀ k, n = k + 1 → ArgSpec prog w G u c k) : ArgSpec prog w G u c n := by
  intro A s B t st hr hun hh U hB
  have hK := Ka_pos n
  refine' enterC (binds := [(Str.ofString "urn", .ref u), (Str.ofString "deep", .int (n : Int) t)]) ?gg ?ho ?hcd ?hroom ?hbind ?hkind ?hnd ?_ ?c2 ?c3 ?c4
  (case gg => exact gd.keeps st)
  (case ho => k_is)
  (case hcd => k_is)
  (case hbind => exact BindsTo.of_eq rfl)
  (case hkind => exact rfl)
  (case hnd => decide +kernel)
  (case c2 => exact rfl)
  (case c3 => exact rfl)
  (case c4 => exact rfl)
  (case hroom => omega)
  have rD : ∀ e : Env, (A.deeper e).depth + 5 < recursionLimit := fun _ => by show A.depth + 1 + 5 < recursionLimit; omega
  have rU : ∀ e : Env, (A.deeper e).units + 87 < cLine := fun _ => by show A.units + 3 + 87 < cLine; omega
  generalize hL : s.heap.objs.size = L at *
  intro h₁ tk cells F₀ N₀ Y
  k_cells Y
  rename_i o1 o2 o3 d1 d2 d3
  replace d1 : o1.data = .cell none := d1
  replace d2 : o2.data = .cell (some (.int (n : Int) t)) := d2
  replace d3 : o3.data = .cell (some (.ref u)) := d3
  have S := sit_enterC (cs := [(L + 1 + 1 + 1, none), (L + 1 + 1, some (.int (n : Int) t)), (L + 1, some (.ref u))]) F₀ N₀ U hL (by
    intro q hq
    simp only [List.mem_cons, List.not_mem_nil, or_false] at hq
    rcases hq with rfl | rfl | rfl
    · exact ⟨o1, by simp, d1⟩
    · exact ⟨o2, by simp, d2⟩
    · exact ⟨o3, by simp, d3⟩)
  have hGg := stays_hide st hGu hGc
  generalize (bindL _ _ _) = m₀ at S
  clear F₀ N₀ d1 d2 d3
  refine cut_stmt (ArgP s u c L B n t m₀) ?_ ?_
  · repeat walk_at "sit"
    refine split_bool (fun hz => ?_) (fun hz => ?_)
    · repeat walk_at "sit"
      rename_i d t' h' tk' d0 d1 S1 h2 S2
      exact ⟨rfl, _, _, d, t', rfl, d0, d1, fun e => (by subst e; simp at hz), S2⟩
    · repeat walk_at "sit"
      rename_i d t' h' tk' d0 d1 S1 h2 S2
      exact ⟨rfl, _, _, d, t', rfl, d0, by omega, fun _ => d1, S2⟩
  · rintro s' ⟨h', tk', way, t', rfl, hw0, hw1, hwn, S'⟩
    clear S
    repeat walk_at "sit"
    refine split_bool (fun hz => ?_) (fun hz => ?_)
    · have hw4 : way < 4 := by simpa using hz
      repeat walk_at "sit"
      rename_i d t2 h2 tk2 d0 d1 S2 h3 a3 S3
      clear S' S2
      have pick : ∃ x dd, [Value.str (Str.ofString "and") (tk' + 1), Value.bytes #[97, 110, 100] (tk' + 1 + 1), Value.none, Value.int d t2][way.toNat]? = some x ∧ Rep (inL []) dd x ∧ dd.isSeq = false ∧ dd.isSec = false := by
        have hw : way = 0 ∨ way = 1 ∨ way = 2 ∨ way = 3 := by omega
        rcases hw with rfl | rfl | rfl | rfl
        · exact ⟨_, .str _, rfl, .strI, rfl, rfl⟩
        · exact ⟨_, .bytes _, rfl, .bytesI, rfl, rfl⟩
        · exact ⟨_, .none, rfl, .noneI, rfl, rfl⟩
        · exact ⟨_, .int _, rfl, .intI, rfl, rfl⟩
      obtain ⟨x, dd, hx, rdd, e1, e2⟩ := pick
      refine item_tup (S3.get (.head _)) hw0 (by simp; omega) (by size_fits) hx ?_ (by with_unfolding_all rfl)
      repeat walk_at "sit"
      rename_i h4 S4 h5 a5 S5
      try dsimp only
      have rdd' : Rep (inL ((a5, tupO [x, x] 0) :: (a3, tupO [Value.str (Str.ofString "and") (tk' + 1), Value.bytes #[97, 110, 100] (tk' + 1 + 1), Value.none, Value.int d t2] 0) :: [])) dd x := rdd.mono (fun _ _ q => nomatch q) _ _
      exact ⟨_, _, _, rfl, rfl, S5.keepsExt, dd, _, .leaf e1 e2, Rep.tupI (π := inL _) (.head _) (.cons rdd' (.cons ((leaf_told e1 e2).symm ▸ rdd') .nil)), S5.fresh hL (fun _ h => h), (S5.up (by omega)).urn⟩
    · have hw4 : 4 ≤ way := by simpa using hz
      obtain ⟨k, rfl⟩ : ∃ k, n = k + 1 := by
        cases n with
        | zero => have := hwn rfl; omega
        | succ k => exact ⟨k, rfl⟩
      have hk := ih k rfl
      have hKk : Ka (k + 1) = 3 * Ka k + 10 := rfl
      have hK2 := Ka_pos k
      clear ih
      repeat walk_at "sit"
      refine split_bool (fun hy => ?_) (fun hy => ?_)
      · have hy4 : way = 4 := by simpa using hy
        repeat walk_at "sit"
        walk_at "comp"
        repeat walk_at "sit"
        rename_i nn tn hn tkn nn0 nn1 Sn
        clear S'
        refine' sit_range ?rS fun h5 tk5 r5 t5 u5 v5 S5 R5 => ?_
        (case rS => exact Sn)
        clear Sn
        refine range_walk R5 nn0 (by omega) fun o5 it5 => ?_
        try dsimp only at it5
        refine ⟨_, rfl, ?_⟩
        refine' compAt_urn (K := 1) ?cW ?che ?chst ?chn ?chfp ?cU ?chK (fun _ d => ∃ x, d = .str x ∧ x ∈ fiveN) ?cstep ?cfin
        (case cW => exact Walks.range (A := A.deeper _) hh _ 0 1 nn.toNat)
        (case che => exact rfl)
        (case chst => exact it5)
        (case chn => omega)
        (case chfp => simp)
        (case cU => exact S5.urn)
        (case chK => decide)
        · rintro i v s₃ cm hi ⟨tv, rfl⟩ U3 hx3 hnc hcm E'
          have hst := ext_staysG hGu hGc hx3 (S5.stG hGg)
          have hC := S5.cell_ext hx3 (ca := L + 1) (v := some (.ref u)) (by k_mem)
          repeat walk_at "go"
          refine' tuple_ext ?tz fun h6 D6 e6 g6 lt6 => ?_
          (case tz => simp [sizeLine_eq])
          have hst6 := ext_stays e6 hst
          have U6 := urn_ext0 U3 e6
          have hC6 := cell_ext0 hC e6
          repeat walk_at "go"
          refine' nm_cell hC6 ?_ rfl rfl rfl (by decide)
          repeat walk_at "go"
          refine' call_of (pull_spec gd hst6 ?pr ?pu U6 (by decide) (by decide) ?pB) ?_
          (case pr => walk_at "room")
          (case pu => walk_at "room")
          (case pB => omega)
          rintro v7 h7 tk7 ext7 ⟨⟨d7, t7, rfl, d70, d71⟩, U7⟩
          have pick : ∃ x tx, [Value.str (Str.ofString "To") (s₃.toks), Value.str (Str.ofString "x-A") (s₃.toks + 1), Value.str (Str.ofString "x-a") (s₃.toks + 1 + 1), Value.str (Str.ofString "TO") (s₃.toks + 1 + 1 + 1), Value.str (Str.ofString "Cc") (s₃.toks + 1 + 1 + 1 + 1)][d7.toNat]? = some (.str x tx) ∧ x ∈ fiveN := by
            have hw : d7 = 0 ∨ d7 = 1 ∨ d7 = 2 ∨ d7 = 3 ∨ d7 = 4 := by omega
            rcases hw with rfl | rfl | rfl | rfl | rfl <;> exact ⟨_, _, rfl, by simp [fiveN]⟩
          obtain ⟨x, tx, hpx, hx5⟩ := pick
          refine' item_tup (ext7 _ _ (over_urn U3 lt6) g6) d70 ?l1 ?l2 hpx ?_ (by with_unfolding_all rfl)
          (case l1 => simp; omega)
          (case l2 => simp [sizeLine_eq])
          exact ⟨h7, tk7, .str x, [], rfl, e6.thenU ext7, U7, ⟨x, rfl, hx5⟩, .strI, fun _ h => nomatch h⟩
        · intro h6 tk6 ys ds tl no ext6 fr6 ne6 rl6 ln6 el6 U6
          obtain ⟨names, rfl, hnames, hn5⟩ := repL_strs rl6 el6
          rw [List.length_map] at ln6
          have S6 := S5.after ext6 U6 fr6
          try dsimp only
          rw [Heap.size_push]
          generalize h5.objs.size + 1 = Dn at S6 ⊢
          clear S5 R5 it5 ext6 fr6 ne6 rl6 el6 U6
          refine' sit_storeC (cs' := [(L + 1 + 1 + 1, some (.ref Dn)), (L + 1 + 1, some (.int (((k + 1 : Nat) : Int)) t)), (L + 1, some (.ref u))]) S6 (v₀ := none) (ca := L + 1 + 1 + 1) ?xc ?xm ?xq (fun h7 S7 => ?_) ?xk ?xx
          (case xc => exact rfl)
          (case xm => k_mem)
          (case xk => exact rfl)
          (case xx => exact rfl)
          (case xq =>
            intro q hq
            simp only [List.mem_cons, List.not_mem_nil, or_false] at hq
            rcases hq with rfl | rfl | rfl
            · exact .inl rfl
            · exact .inr ⟨by simp, fun e => by simp at e⟩
            · exact .inr ⟨by simp, fun e => by simp at e⟩)
          clear S6
          try dsimp only
          repeat walk_at "sit"
          walk_at "comp"
          repeat walk_at "sit"
          rename_i pn tp hpn tkp pn0 pn1 Sp
          clear S7
          refine' sit_range ?rS2 fun h8 tk8 r8 t8 u8 v8 S8 R8 => ?_
          (case rS2 => exact Sp)
          clear Sp
          refine range_walk R8 pn0 (by omega) fun o8 it8 => ?_
          try dsimp only at it8
          refine ⟨_, rfl, ?_⟩
          refine' compAt_urn (K := 1) ?cW2 ?che2 ?chst2 ?chn2 ?chfp2 ?cU2 ?chK2 (fun _ d => ∃ x, d = .int x) ?cstep2 ?cfin2
          (case cW2 => exact Walks.range (A := A.deeper _) hh _ 0 1 pn.toNat)
          (case che2 => exact rfl)
          (case chst2 => exact it8)
          (case chn2 => omega)
          (case chfp2 => simp)
          (case cU2 => exact S8.urn)
          (case chK2 => decide)
          · rintro i v s₃ cm hi ⟨tv, rfl⟩ U3 hx3 hnc hcm E'
            have hst := ext_staysG hGu hGc hx3 (S8.stG hGg)
            have hC := S8.cell_ext hx3 (ca := L + 1) (v := some (.ref u)) (by k_mem)
            repeat walk_at "go"
            refine' nm_cell hC ?_ rfl rfl rfl (by decide)
            repeat walk_at "go"
            refine' call_of (pull_spec gd hst ?pr2 ?pu2 U3 (by decide) (by decide) ?pB2) ?_
            (case pr2 => walk_at "room")
            (case pu2 => walk_at "room")
            (case pB2 => omega)
            rintro v7 h9 tk7 ext7 ⟨⟨d7, t7, rfl, d70, d71⟩, U7⟩
            repeat walk_at "go"
            exact ⟨h9, _, .int _, [], rfl, ext7, U7, ⟨_, rfl⟩, .intI, fun _ h => nomatch h⟩
          · intro h9 tk9 ys2 ds2 tl2 no2 ext9 fr9 ne9 rl9 ln9 el9 U9
            obtain ⟨path, rfl, hpath⟩ := repL_ints rl9 el9
            have S9 := S8.after ext9 U9 fr9
            try dsimp only
            rw [Heap.size_push]
            generalize h8.objs.size + 1 = Dp at S9 ⊢
            clear S8 R8 it8 ext9 fr9 ne9 rl9 el9 U9
            repeat walk_at "sit"
            rename_i hA aA SA hB2 aB SB dq tq hq tkq dq0 dq1 Sq
            clear S9 SA SB
            have pick : ∃ x dd, [Value.none, Value.ref aA][dq.toNat]? = some x ∧ Rep (inL [(aA, tupO [Value.int 0 tk9, Value.int 5 (tk9 + 1)] 0)]) dd x ∧ dd.flat = true ∧ dd.dep ≤ 1 := by
              have hw : dq = 0 ∨ dq = 1 := by omega
              rcases hw with rfl | rfl
              · exact ⟨_, .none, rfl, .noneI, rfl, by simp [D.dep]⟩
              · exact ⟨_, .tup [.int 0, .int 5], rfl, Rep.tupI (.head _) (.cons .intI (.cons .intI .nil)), rfl, by simp [D.dep, D.depL]⟩
            obtain ⟨pv, par, hpv, rpar, pf, pd⟩ := pick
            refine item_tup (Sq.get (.head _)) dq0 (by simp; omega) (by size_fits) hpv ?_ (by with_unfolding_all rfl)
            repeat walk_at "sit"
            rename_i hE aE SE
            clear Sq
            refine' sit_unpack2 SE (.head _) hh rfl fun h10 S10 => ?_
            clear SE
            dsimp only [List.map, List.reverse, List.reverseAux]
            refine assignInOrder_cons (bindName_ ?_)
            repeat walk_at "sit"
            refine assignInOrder_cons (bindName_ ?_)
            repeat walk_at "sit"
            refine assignInOrder_nil ?_
            rename_i h11 S11 h12 S12
            clear S10 S11
            try dsimp only
            repeat walk_at "sit"
            walk_at "comp="
            repeat walk_at "sit"
            rename_i hF aF SF
            clear S12
            refine' seq_iter ?sio hh fun oF St WF st0 => ?_
            (case sio => exact .inl (SF.get (.head _)))
            try dsimp only
            have hlowS : ∀ t1 t2 t3, StrsAre [Value.str (Str.ofString "cc") t1, Value.str (Str.ofString "to") t2, Value.str (Str.ofString "x-a") t3] lowN := fun t1 t2 t3 => .cons _ _ (.cons _ _ (.cons _ _ .nil))
            have hnamesL : hF.get? Dn = some (listOf ys.toArray no) := SF.get (by simp)
            have hysl : ys.length = names.length := hnames.len_eq
            refine ⟨_, rfl, _, _, _, _, _, [], fun i zs _ => ∃ l : List (Str × Tok), zs = strValues l ∧ l.map (·.1) = (lowN.take i).filter (fun x => (names.map lowT).contains x), WF, ?_, st0, ?_, by simp, fun _ _ _ _ q _ => q, ⟨[], rfl, rfl⟩, ?_, ?_⟩
            · simp [sizeLine_eq]
            · intro b hb
              rw [Heap.size_push]
              rcases List.mem_cons.mp hb with rfl | hb
              · exact Nat.lt_succ_self _
              · rw [List.mem_singleton.mp hb]; exact Nat.lt_succ_of_lt (Heap.lt_size (SF.get (.head _)))
            · rintro i v zs s₃ cm hi hv ⟨l, rfl, hl⟩ hk hsz hnc hcm E'
              have hx₃ := ext_iter hk
              have hNm : s₃.heap.IsCell (L + 1 + 1 + 1) (some (.ref Dn)) := cell_ext0 (SF.cell (L + 1 + 1 + 1, some (.ref Dn)) (.head _)) hx₃
              have hNl : s₃.heap.get? Dn = some (listOf ys.toArray no) := hx₃ _ _ (by simp) hnamesL
              obtain ⟨x, tx, rfl, hx⟩ := strs_get (hlowS _ _ _) hv
              refine wpAny_tests_one ?_
              repeat walk_at "go"
              walk_at "comp"
              refine' nm_cell hNm ?_ rfl rfl rfl (by decide)
              refine' seq_iter ?sio2 hh fun oG StG WG stG => ?_
              (case sio2 => exact .inr hNl)
              try dsimp only
              refine ⟨_, rfl, _, _, _, _, _, [], fun i zs _ => ∃ l : List (Str × Tok), zs = strValues l ∧ l.map (·.1) = (names.take i).map lowT, WG, ?_, stG, ?_, by simp, fun _ _ _ _ q _ => q, ⟨[], rfl, rfl⟩, ?_, ?_⟩
              · rw [sizeLine_eq]; omega
              · intro b hb
                rw [Heap.size_push]
                rcases List.mem_cons.mp hb with rfl | hb
                · exact Nat.lt_succ_self _
                · rw [List.mem_singleton.mp hb]; exact Nat.lt_succ_of_lt (Heap.lt_size hNl)
              · rintro j vj zs s₄ cm4 hj hvj ⟨l4, rfl, hl4⟩ hk4 hsz4 hnc4 hcm4 E4
                obtain ⟨xj, txj, rfl, hxj⟩ := strs_get hnames hvj
                have hx5 := hn5 xj (List.mem_of_getElem? hxj)
                refine wpAny_tests_nil ?_
                repeat walk_at "go"
                refine GM.lower ?_
                repeat walk_at "go"
                refine SCL.lower ?lf ?_
                (case lf => have := short_five xj hx5; omega)
                intro _
                rw [lower_five xj hx5]
                refine ⟨_, _, rfl, Ext.refl _ _, l4 ++ [(lowT xj, _)], snoc_strs _ _ _, ?_⟩
                rw [List.map_append, hl4, List.take_add_one, hxj]; simp
              · rintro h14 tk14 zs2 hpl14 hlen14 ⟨l4, rfl, hl4⟩ hk14
                rw [show List.take ys.length names = names from by rw [hysl, List.take_length]] at hl4
                have hS4 := strsAre_of_values l4
                rw [hl4] at hS4
                have hx14 := ext_iter hk14
                have hn14 := hx14.ns hnc (by simp)
                repeat walk_at "go"
                refine' in_list_strs ?il hS4 ?_
                (case il => exact Heap.PlainList.isList hpl14)
                repeat walk_at "go"
                rw [show (List.map lowT names).any (fun y => y == x) = (names.map lowT).contains x from by
                  rw [Bool.eq_iff_iff, List.any_eq_true, List.contains_iff_mem]
                  exact ⟨fun ⟨y, h1, h2⟩ => (beq_iff_eq.mp h2) ▸ h1, fun h => ⟨x, h, beq_self_eq_true x⟩⟩]
                refine split_bool (fun hc => ?_) (fun hc => ?_)
                · repeat walk_at "go"
                  refine ⟨_, _, rfl, hx14, l ++ [(x, tx)], snoc_strs _ _ _, ?_⟩
                  rw [List.map_append, hl, List.take_add_one, hx, List.filter_append]
                  congr 1
                  show _ = List.filter _ [x]
                  rw [List.filter_cons_of_pos hc]; rfl
                · repeat walk_at "go"
                  refine ⟨_, _, rfl, hx14, l, rfl, ?_⟩
                  rw [hl, List.take_add_one, hx, List.filter_append]
                  show _ = _ ++ List.filter _ [x]
                  rw [List.filter_cons_of_neg (by rw [hc]; decide), List.filter_nil, List.append_nil]
            · rintro h13 tk13 zs ⟨no13, hpl⟩ hlen13 ⟨l, rfl, hl⟩ hk13
              have hx13 := ext_iter hk13
              have hl3 : l.map (·.1) = smallN names := hl
              have hSs := strsAre_of_values l
              rw [hl3] at hSs
              rw [Heap.size_push] at hpl ⊢
              have hLD : L < hF.objs.size + 1 := Nat.lt_succ_of_lt SF.F.ns.lt
              refine' sit_asg (fl := [(hF.objs.size + 1, listOf (strValues l).toArray no13)]) SF (hx13.mono (fun _ h => nomatch h)) ?fr13 (urn_ext0 SF.urn hx13) ?ne13 ?ov13 hLD ?_ ?ak ?ax
              (case ak => exact rfl)
              (case ax => exact rfl)
              (case ov13 => exact Over.of_le (Nat.le_of_lt (Nat.lt_succ_of_lt (Nat.lt_succ_self _))))
              (case ne13 =>
                intro p hp
                rw [List.mem_singleton.mp hp]
                exact Nat.ne_of_lt (Nat.lt_succ_self _))
              (case fr13 =>
                intro p hp
                rw [List.mem_singleton.mp hp]
                exact ⟨hpl, fun b o e => Nat.lt_succ_of_lt (Heap.lt_size e)⟩)
              intro h15 tk15 S15
              clear SF hpl hk13 hx13
              generalize hF.objs.size + 1 = Ds at S15
              repeat walk_at "sit"
              have hpl2 : ys2.length = path.length := hpath.length
              rw [List.length_map] at ln9
              have hss : (strValues l).length ≤ 3 := by
                have h1 := hSs.len_eq
                have h3 : (smallN names).length ≤ lowN.length := List.length_filter_le _ _
                have h4 : lowN.length = 3 := rfl
                omega
              refine' make_sec (pvs := ys2) (nvs := ys) (np := no2) (nn := no) gd ?mst ?mr ?mp ?mn ?mpl ?mnl ?_
              (case mst => exact S15.stG hGg)
              (case mr => walk_at "room")
              (case mp => exact S15.get (by simp))
              (case mn => exact S15.get (by simp))
              (case mpl => omega)
              (case mnl => omega)
              intro h16 x16 dx16 tk16 pa na tl16 e1 e2 e3 e4 f1 f2 f3 f4 nd16 ext16 fr16 m1 m2 m3 m4
              have S16 := S15.step ext16 fr16
              clear S15 ext16 fr16
              repeat walk_at "sit"
              refine' sit_tupleOf (vs := ys2) (n := no2) S16 (by simp) (by omega) fun h17 D17 S17 => ?_
              clear S16
              repeat walk_at "sit"
              refine' sit_tupleOf (vs := strValues l) (n := no13) S17 (by simp) (by omega) fun h18 D18 S18 => ?_
              clear S17
              repeat walk_at "sit"
              rename_i h19 aT S19 h20 aR S20
              clear S18 S19
              have rpar' : ∀ post', (aA, tupO [Value.int 0 tk9, Value.int 5 (tk9 + 1)] 0) ∈ post' → Rep (inL post') par pv := fun post' hm => rpar.mono (fun a o q => by
                show (a, o) ∈ post'
                rw [List.mem_singleton.mp q]; exact hm) _ _
              refine' ⟨_, _, _, rfl, rfl, S20.keepsExt, .sec path names par, _, .secI (by omega) hn5 pf pd, Rep.tupI (π := inL _) (.head _) (.cons (Rep.secI (.tail _ (.tail _ (.tail _ (.tail _ (List.mem_append_left _ m1))))) (.tail _ (.tail _ (.tail _ (.tail _ (List.mem_append_left _ m2)))))
                (.tail _ (.tail _ (.tail _ (.tail _ (List.mem_append_left _ m3))))) hpath (.tail _ (.tail _ (.tail _ (.tail _ (List.mem_append_left _ m4))))) hnames (rpar' _ ?mA)) (.cons ?_ .nil)), S20.fresh hL (fun _ h => h), (S20.up (by omega)).urn⟩
              (case mA => exact .tail _ (.tail _ (.tail _ (.tail _ (List.mem_append_right _ (by simp))))))
              simp only [D.told]
              refine' Rep.tupI (n := 0) (.tail _ (.head _)) (.cons (Rep.tupI (n := 0) (.tail _ (.tail _ (.tail _ (.head _)))) (rep_ints hpath)) (.cons .strI (.cons (Rep.tupI (n := 0) (.tail _ (.tail _ (.head _))) (rep_strs hSs)) (.cons (rpar' _ ?mA2) .nil))))
              (case mA2 => exact .tail _ (.tail _ (.tail _ (.tail _ (List.mem_append_right _ (by simp))))))
      · have hy5 : 5 ≤ way := by
          have : way ≠ 4 := by simpa using hy
          omega
        repeat walk_at "sit"
        walk_at "comp="
        repeat walk_at "sit"
        rename_i nn tn hn tkn nn0 nn1 Sn
        clear S'
        refine' sit_range ?rSa fun h5 tk5 r5 t5 u5 v5 S5 R5 => ?_
        (case rSa => exact Sn)
        clear Sn
        refine range_walk R5 nn0 (by omega) fun o5 it5 => ?_
        try dsimp only at it5
        refine ⟨_, rfl, ?_⟩
        refine' compAt_urn (K := Ka k) ?cWa ?chea ?chsta ?chna ?chfpa ?cUa ?chKa (fun _ d => ∃ e, d = D.tup [e, e.told] ∧ ArgOk k e) ?cstepa ?cfina
        (case cWa => exact Walks.range (A := A.deeper _) hh _ 0 1 nn.toNat)
        (case chea => exact rfl)
        (case chsta => exact it5)
        (case chna => omega)
        (case chfpa => simp)
        (case cUa => exact S5.urn)
        (case chKa => omega)
        · rintro i v s₃ cm hi ⟨tv, rfl⟩ U3 hx3 hnc hcm E'
          have hst := ext_staysG hGu hGc hx3 (S5.stG hGg)
          have hC := S5.cell_ext hx3 (ca := L + 1) (v := some (.ref u)) (by k_mem)
          have hCd := S5.cell_ext hx3 (ca := L + 1 + 1) (v := some (.int (((k + 1 : Nat) : Int)) t)) (by k_mem)
          repeat walk_at "go"
          refine' nm_cell hC ?_ rfl rfl rfl (by decide)
          repeat walk_at "go"
          refine' nm_cell hCd ?_ rfl rfl rfl (by decide)
          repeat walk_at "go"
          have hi3 : (i : Int) * Ka k ≤ 2 * Ka k := Int.mul_le_mul_of_nonneg_right (by omega) (by omega)
          have hdk : (((k + 1 : Nat) : Int) - 1) = (k : Int) := by push_cast; omega
          rw [hdk]
          refine' call_of (hk _ _ _ _ hst ?ar ?au hh U3 ?aB) ?_
          (case ar => walk_at "room")
          (case au => walk_at "room")
          (case aB => omega)
          rintro v7 h7 tk7 ext7 ⟨e, tl7, ok7, rep7, fr7, U7⟩
          exact ⟨h7, tk7, _, tl7, rfl, ext7, U7, ⟨e, rfl, ok7⟩, rep7, fr7⟩
        · intro h6 tk6 ys ds tl no ext6 fr6 ne6 rl6 ln6 el6 U6
          obtain ⟨es, rfl, hes⟩ := repL_pairs (π := inL tl) el6
          rw [List.length_map] at ln6
          have hKn : (nn.toNat : Int) * Ka k ≤ 3 * Ka k := Int.mul_le_mul_of_nonneg_right (by omega) (by omega)
          try dsimp only
          rw [Heap.size_push]
          refine' sit_asg S5 ext6 fr6 U6 ne6 ?ov6 ?hd6 ?_ ?ak6 ?ax6
          (case ak6 => exact rfl)
          (case ax6 => exact rfl)
          (case ov6 => exact Over.of_le (Nat.le_of_lt (Nat.lt_succ_of_lt (Nat.lt_succ_self _))))
          (case hd6 => exact Nat.lt_succ_of_lt S5.F.ns.lt)
          intro h7 tk7 S7
          have hysl : ys.length = es.length := by have := rl6.length; rwa [List.length_map] at this
          generalize h5.objs.size + 1 = Dq at S7
          clear S5 R5 it5 ext6 fr6 ne6 el6 U6
          repeat walk_at "sit"
          walk_at "comp"
          repeat walk_at "sit"
          refine' seq_iter (vs := ys) (n := no) ?si1 hh fun oG StG WG stG => ?_
          (case si1 => exact .inr (S7.get (List.mem_append_left _ (.head _))))
          try dsimp only
          refine ⟨_, rfl, ?_⟩
          refine' compAt_read ?cWb ?cheb ?chstb ?chnb ?chfpb (fun i zs => RepL (inL tl) (es.take i) zs) ?h0b ?cstepb ?cfinb
          (case cWb => exact WG)
          (case cheb => exact rfl)
          (case chstb => exact stG)
          (case chnb => omega)
          (case chfpb =>
            intro b hb
            rcases List.mem_cons.mp hb with rfl | hb
            · exact .inl rfl
            · rw [List.mem_singleton.mp hb]; exact .inr (Heap.lt_size (S7.get (List.mem_append_left _ (.head _)))))
          (case h0b => exact .nil)
          · rintro i v zs s₃ cm hi hv hI hx3 hnc hcm E'
            obtain ⟨e, a, na, v0, v1, he, rfl, pa, r0, r1⟩ := pair_get rl6 hv
            repeat walk_at "go"
            refine' item_tup (hx3 _ _ (by simp) (S7.get (List.mem_append_left _ (.tail _ pa)))) (by decide) (by simp) (by simp [sizeLine_eq]) (v := v0) rfl ?_ (by with_unfolding_all rfl)
            refine ⟨_, _, rfl, Ext.refl _ _, ?_⟩
            rw [take_snoc he]
            exact hI.append (.one r0)
          · intro h8 tk8 rows no8 ext8 fr8 hI8
            rw [List.take_of_length_le (by omega)] at hI8
            have S8 := S7.step ext8 fr8
            rw [Heap.size_push]
            generalize h7.objs.size + 1 = Dr at S8 ⊢
            clear S7 ext8 fr8 stG WG
            repeat walk_at "sit"
            walk_at "comp"
            repeat walk_at "sit"
            refine' seq_iter (vs := ys) (n := no) ?si2 hh fun oH StH WH stH => ?_
            (case si2 => exact .inr (S8.get (List.mem_append_right _ (List.mem_append_left _ (.head _)))))
            try dsimp only
            refine ⟨_, rfl, ?_⟩
            refine' compAt_read ?cWc ?chec ?chstc ?chnc ?chfpc (fun i zs => RepL (inL tl) ((es.take i).map D.told) zs) ?h0c ?cstepc ?cfinc
            (case cWc => exact WH)
            (case chec => exact rfl)
            (case chstc => exact stH)
            (case chnc => omega)
            (case chfpc =>
              intro b hb
              rcases List.mem_cons.mp hb with rfl | hb
              · exact .inl rfl
              · rw [List.mem_singleton.mp hb]; exact .inr (Heap.lt_size (S8.get (List.mem_append_right _ (List.mem_append_left _ (.head _))))))
            (case h0c => exact .nil)
            · rintro i v zs s₃ cm hi hv hI hx3 hnc hcm E'
              obtain ⟨e, a, na, v0, v1, he, rfl, pa, r0, r1⟩ := pair_get rl6 hv
              repeat walk_at "go"
              refine' item_tup (hx3 _ _ (by simp) (S8.get (List.mem_append_right _ (List.mem_append_left _ (.tail _ pa))))) (by decide) (by simp) (by simp [sizeLine_eq]) (v := v1) rfl ?_ (by with_unfolding_all rfl)
              refine ⟨_, _, rfl, Ext.refl _ _, ?_⟩
              rw [take_snoc he, List.map_append]
              exact hI.append (.one r1)
            · intro h9 tk9 dues no9 ext9 fr9 hI9
              rw [List.take_of_length_le (by omega)] at hI9
              have S9 := S8.step ext9 fr9
              rw [Heap.size_push]
              generalize h8.objs.size + 1 = De at S9 ⊢
              clear S8 ext9 fr9 stH WH
              have hrl : rows.length = es.length := hI8.length
              have hdl : dues.length = es.length := by have := hI9.length; rwa [List.length_map] at this
              have hel : es.length ≤ 3 := by omega
              repeat walk_at "sit"
              refine' sit_tupleOf (vs := dues) (n := no9) S9 (.head _) (by omega) fun h10 Dt S10 => ?_
              clear S9
              repeat walk_at "sit"
              rename_i hE aE SE
              clear S10
              refine' sit_unpack2 SE (.head _) hh rfl fun h11 S11 => ?_
              clear SE
              dsimp only [List.map, List.reverse, List.reverseAux]
              refine assignInOrder_cons (bindName_ ?_)
              repeat walk_at "sit"
              refine assignInOrder_cons (bindName_ ?_)
              repeat walk_at "sit"
              refine assignInOrder_nil ?_
              rename_i h12 S12 h13 S13
              clear S11 S12
              try dsimp only
              have S14 := S13.sub (post' := (Dt, tupO dues 0) :: (Dr, listOf rows.toArray no8) :: tl) (by
                intro p hp
                rcases List.mem_cons.mp hp with rfl | hp
                · exact .tail _ (.head _)
                · refine .tail _ (.tail _ (List.mem_append_right _ ?_))
                  rcases List.mem_cons.mp hp with rfl | hp
                  · exact .head _
                  · exact List.mem_append_right _ (List.mem_append_left _ (.tail _ hp)))
              clear S13
              have hall : ∀ d ∈ D.str andS :: es, ArgOk k d := fun d hd => by
                rcases List.mem_cons.mp hd with rfl | hd
                · exact .leaf rfl rfl
                · exact hes d hd
              have hne : ∀ tt, [Value.str (Str.ofString "and") tt] ≠ [] := fun _ e => by cases e
              repeat walk_at "sit"
              refine split_bool (fun h5 => ?_) (fun h5 => ?_)
              · repeat walk_at "sit"
                refine' sit_addL (n1 := 0) (n2 := no8) (ws := rows) (by assumption) (.head _) (.tail _ (.tail _ (.head _))) ?az1 fun h15 D15 S15 => ?_
                (case az1 => simp; omega)
                repeat walk_at "sit"
                refine' sit_addT (n1 := 0) (n2 := 0) (ws := dues) (by assumption) (.head _) (.tail _ (.tail _ (.tail _ (.head _)))) (hne _) ?az2 fun h16 D16 post16 n16 S16 sub16 m16 => ?_
                (case az2 => simp; omega)
                repeat walk_at "sit"
                rename_i h17 a17 S17
                have r1 := hI8.mono (π' := inL ((a17, tupO [Value.ref D15, Value.ref D16] 0) :: post16)) (fun a o q => .tail _ (sub16 _ (.tail _ (.tail _ (.tail _ (.tail _ (.tail _ q))))))) _ _
                have r2 := hI9.mono (π' := inL ((a17, tupO [Value.ref D15, Value.ref D16] 0) :: post16)) (fun a o q => .tail _ (sub16 _ (.tail _ (.tail _ (.tail _ (.tail _ (.tail _ q))))))) _ _
                refine ⟨_, _, _, rfl, rfl, S17.keepsExt, .lst (.str andS :: es), _, .lstI (by omega) (by simp; omega) hall, Rep.tupI (π := inL _) (.head _) (.cons (Rep.lstI (n := 0) (.tail _ (sub16 _ (.tail _ (.head _)))) (RepL.cons .strI r1)) (.cons ?_ .nil)), S17.fresh hL (fun _ h => h), (S17.up (by omega)).urn⟩
                rw [show (D.lst (.str andS :: es)).told = .tup (.str andS :: es.map D.told) from by simp [D.told, D.toldL, toldL_map]]
                exact Rep.tupI (.tail _ m16) (RepL.cons .strI r2)
              · repeat walk_at "sit"
                refine split_bool (fun h6 => ?_) (fun h6 => ?_)
                · repeat walk_at "sit"
                  refine' sit_tupleOf (vs := rows) (n := no8) (by assumption) (.tail _ (.tail _ (.head _))) (by omega) fun h15 D15 S15 => ?_
                  repeat walk_at "sit"
                  refine' sit_addT (n1 := 0) (n2 := 0) (ws := rows) S15 (.tail _ (.head _)) (.head _) (hne _) ?az3 fun h16 D16 post16 n16 S16 sub16 m16 => ?_
                  (case az3 => simp; omega)
                  clear S15
                  repeat walk_at "sit"
                  refine' sit_addT (n1 := 0) (n2 := 0) (ws := dues) (by assumption) (.head _) (.tail _ (sub16 _ (.tail _ (.tail _ (.head _))))) (hne _) ?az4 fun h17 D17 post17 n17 S17 sub17 m17 => ?_
                  (case az4 => simp; omega)
                  repeat walk_at "sit"
                  rename_i h18 a18 S18
                  have r1 := hI8.mono (π' := inL ((a18, tupO [Value.ref D16, Value.ref D17] 0) :: post17)) (fun a o q => .tail _ (sub17 _ (.tail _ (sub16 _ (.tail _ (.tail _ (.tail _ (.tail _ q)))))))) _ _
                  have r2 := hI9.mono (π' := inL ((a18, tupO [Value.ref D16, Value.ref D17] 0) :: post17)) (fun a o q => .tail _ (sub17 _ (.tail _ (sub16 _ (.tail _ (.tail _ (.tail _ (.tail _ q)))))))) _ _
                  refine ⟨_, _, _, rfl, rfl, S18.keepsExt, .tup (.str andS :: es), _, .tupI (by omega) (by simp; omega) hall, Rep.tupI (π := inL _) (.head _) (.cons (Rep.tupI (.tail _ (sub17 _ (.tail _ m16))) (RepL.cons .strI r1)) (.cons ?_ .nil)), S18.fresh hL (fun _ h => h), (S18.up (by omega)).urn⟩
                  rw [show (D.tup (.str andS :: es)).told = .tup (.str andS :: es.map D.told) from by simp [D.told, D.toldL, toldL_map]]
                  exact Rep.tupI (.tail _ m17) (RepL.cons .strI r2)
                · repeat walk_at "sit"
                  refine split_bool (fun h7 => ?_) (fun h7 => ?_)
                  · repeat walk_at "sit"
                    rename_i h15 a15 S15
                    have r1 := hI8.mono (π' := inL ((a15, tupO [Value.ref Dr, Value.ref Dt] 0) :: (Dt, tupO dues 0) :: (Dr, listOf rows.toArray no8) :: tl)) (fun a o q => .tail _ (.tail _ (.tail _ q))) _ _
                    have r2 := hI9.mono (π' := inL ((a15, tupO [Value.ref Dr, Value.ref Dt] 0) :: (Dt, tupO dues 0) :: (Dr, listOf rows.toArray no8) :: tl)) (fun a o q => .tail _ (.tail _ (.tail _ q))) _ _
                    refine ⟨_, _, _, rfl, rfl, S15.keepsExt, .lst es, _, .lstI (by omega) (by omega) hes, Rep.tupI (π := inL _) (.head _) (.cons (Rep.lstI (.tail _ (.tail _ (.head _))) r1) (.cons ?_ .nil)), S15.fresh hL (fun _ h => h), (S15.up (by omega)).urn⟩
                    rw [show (D.lst es).told = .tup (es.map D.told) from by simp [D.told, toldL_map]]
                    exact Rep.tupI (n := 0) (.tail _ (.head _)) r2
                  · repeat walk_at "sit"
                    refine' sit_tupleOf (vs := rows) (n := no8) (by assumption) (.tail _ (.head _)) (by omega) fun h15 D15 S15 => ?_
                    clear S14
                    repeat walk_at "sit"
                    rename_i h16 a16 S16
                    have r1 := hI8.mono (π' := inL ((a16, tupO [Value.ref D15, Value.ref Dt] 0) :: (D15, tupO rows 0) :: (Dt, tupO dues 0) :: (Dr, listOf rows.toArray no8) :: tl)) (fun a o q => .tail _ (.tail _ (.tail _ (.tail _ q)))) _ _
                    have r2 := hI9.mono (π' := inL ((a16, tupO [Value.ref D15, Value.ref Dt] 0) :: (D15, tupO rows 0) :: (Dt, tupO dues 0) :: (Dr, listOf rows.toArray no8) :: tl)) (fun a o q => .tail _ (.tail _ (.tail _ (.tail _ q)))) _ _
                    refine ⟨_, _, _, rfl, rfl, S16.keepsExt, .tup es, _, .tupI (by omega) (by omega) hes, Rep.tupI (π := inL _) (.head _) (.cons (Rep.tupI (n := 0) (.tail _ (.head _)) r1) (.cons ?_ .nil)), S16.fresh hL (fun _ h => h), (S16.up (by omega)).urn⟩
                    rw [show (D.tup es).told = .tup (es.map D.told) from by simp [D.told, toldL_map]]
                    exact Rep.tupI (n := 0) (.tail _ (.tail _ (.head _))) r2

theorem arg_spec {prog : Program} {w : World} {G : Heap} (gd : Gd w G) {u c : Addr} (hGu : G.get? u = none) (hGc : G.get? c = none) : ∀ n, n ≤ 100 → ArgSpec prog w G u c n
  | 0, h => arg_step gd hGu hGc 0 h (fun _ h => by cases h)
  | n + 1, h => arg_step gd hGu hGc (n + 1) h (fun k e => by obtain rfl : n = k := Nat.succ.inj e; exact arg_spec gd hGu hGc n (by omega))

/-! _law_urn -/
section
variable {M : Model} {A : Around} {E : Value → Shared → Prop} {s : Shared} {g h1 h' : Heap} {L : Addr} {m : Str → Option Value} {fl : List (Addr × Obj)} {cn : Str} {sc : Scope} {a : Addr} {ccd : Value} {cl : List (Str × Addr)} {x : Str} {v : Value} {Da C : Addr} {tk : Nat} {Q : Shared → Prop}
theorem fr_asg (F : Fr g L h1 m) (ext : Ext [] h1 h') (fr : Fresh h1 h' fl) (hne : ∀ p ∈ fl, p.1 ≠ C) (hC : Over h1 C) (hD : L < Da)
    (k : ∀ h'' tk, Fr g L h'' (fun y => if y = x then some v else m y) → (∀ p ∈ fl, h''.get? p.1 = some p.2) → Q { s with heap := h'', toks := tk })
    (hk : sc.kind = .function) (hx : (envX cn sc L a ccd cl).kindOf x = some .local) :
    wpAny M A (storeName (envX cn sc L a ccd cl) x v) (fun _ s' => ∃ L', L' < Da ∧ Heap.SameBut L' h' s'.heap ∧ ∀ h'', Heap.SameBut C s'.heap h'' → Q { s' with heap := h'' }) E { s with heap := h', toks := tk } := by
  obtain ⟨oL, eL⟩ := ns_at F.ns
  have F2 : Fr g L h' m := ext.fr F (by simp) (by simp)
  refine wpAny_storeName_local hx F2.ns (fun h3 hn hs => ⟨L, hD, hs, fun h'' hs'' => ?_⟩) (by show (sc.kind == .class || (sc.kind == .module && L != mainGlobals)) = false; rw [hk]; rfl)
  have low : ∀ b o, g.get? b = some o → b ≠ L ∧ b ≠ C := fun b o e => ⟨Nat.ne_of_lt (Nat.lt_of_lt_of_le (Heap.lt_size e) F.above), Nat.ne_of_lt (hC _ _ (F.keep b o e))⟩
  refine k h'' _ ⟨hn.sameBut hs'' (Nat.ne_of_lt (hC _ _ eL)), fun b o e => hs''.extBut b o (low b o e).2 (hs.extBut b o (low b o e).1 (F2.keep b o e)), F.above⟩ fun p hp => ?_
  exact hs''.extBut _ _ (hne p hp) (hs.extBut _ _ (Nat.ne_of_gt ((fr p hp).2 _ _ eL)) (fr p hp).1)
end
theorem call_abs_cell {prog : Program} {w : World} {A : Around} {E : Value → Shared → Prop} {s : Shared} {i : Int} {t : Tok} {Q : Value → Shared → Prop} (h : ∀ j u tk, 0 ≤ j → Q (.int j u) { s with toks := tk }) :
    wpAny (model prog w) A (call (.builtin "abs") [.int i t]) Q E s := call_abs_int fun u tk => h _ u tk (by split <;> omega)
theorem slice_up {prog : Program} {w : World} {A : Around} {E : Value → Shared → Prop} {s : Shared} {a : Addr} {vs : List Value} {k : Nat} {t : Tok} {value slice : Expr} {Q : Value → Shared → Prop}
    (hl : s.heap.IsList a vs.toArray) (hz : vs.length ≤ 4000)
    (h : ∀ h' l, Ext [] s.heap h' → h'.get? l = some (listOf (vs.take k).toArray 0) → (∀ b o, s.heap.get? b = some o → b < l) → Q (.ref l) { s with heap := h' })
    (hs : subscripted slice false (.ref a) (.ref s.heap.objs.size) = operate [.ref s.heap.objs.size, .ref a] (getItem (.ref a) (.ref s.heap.objs.size)))
    (ht : ∀ r, letTemporaryGo value (.ref a) r = pure ()) :
    wpAny (model prog w) A (subscriptTail value slice (.ref a) (.ref s.heap.objs.size)) Q E { s with heap := s.heap.push { cls := .type "slice", data := .fields #[.none, .int (k : Int) t, .none] } } := by
  refine slice_listK (l := a) (items := vs.toArray) hl .none (.int _ _) (h _ _ (fun b o _ e => Heap.get?_push_of_some _ (Heap.get?_push_of_some _ e)) ?_ fun b o e => Nat.lt_succ_of_lt (Heap.lt_size e)) hs ht (by rw [sizeLine_eq]; simp; omega)
  have e : s.heap.objs.size + 1 = (s.heap.push { cls := .type "slice", data := .fields #[.none, .int (k : Int) t, .none] }).objs.size := by rw [Heap.size_push]
  rw [slicePick_upto' vs.toArray k, e]
  exact Heap.get?_push_size _ rfl
theorem snoc_ints : ∀ {vs : List Value} {xs : List Int}, IntsAre vs xs → ∀ k t, IntsAre (vs ++ [.int k t]) (xs ++ [k])
  | _, _, .nil, k, t => .cons k t .nil
  | _, _, .cons x u r, k, t => .cons x u (snoc_ints r k t)
theorem sum_bound : ∀ (ns : List Int), (∀ k ∈ ns, 0 ≤ k ∧ k < 1009) → 0 ≤ ns.sum ∧ ns.sum ≤ 1009 * (ns.length : Int)
  | [], _ => by simp
  | a :: r, h => by
    have h1 := h a (.head _)
    have h2 := sum_bound r fun k hk => h k (.tail _ hk)
    simp only [List.sum_cons, List.length_cons]
    push_cast
    omega
theorem sum_ints {prog : Program} {w : World} {A : Around} {E : Value → Shared → Prop} {s : Shared} {l : Addr} {zs : List Value} {ns : List Int} {n : Nat} {Q : Value → Shared → Prop} (hh : A.handled = none)
    (hl : s.heap.get? l = some (listOf zs.toArray n)) (hi : IntsAre zs ns) (h : ∀ h' tk t, Ext [] s.heap h' → Q (.int ns.sum t) { s with heap := h', toks := tk }) : wpAny (model prog w) A (call (.builtin "sum") [.ref l]) Q E s := by
  have hall := hi.allInts
  have hn : numsOf zs.toArray.toList = ns := hi.numsOf
  have hl' : s.heap.IsList l zs.toArray := ⟨_, hl, rfl, _, rfl⟩
  generalize zs.toArray = items at *
  obtain ⟨xs, rfl⟩ := hall.items
  rw [nums_intItems] at hn
  refine sum_intListG hh hl' fun h' tk t' hk => ?_
  have := h h' tk t' fun b o _ e => hk b o e
  rw [preSum_eq, hn, List.take_of_length_le (by rw [← hn]; simp)]
  exact this
def UrnCut (s : Shared) (a : Addr) : Shared → Prop := fun s' => ∃ (h' : Heap) (tk' : Nat) (c : Addr) (cs : List Value) (nc : Nat), s' = { s with heap := h', toks := tk' } ∧ Fr s.heap s.heap.objs.size h' (fun y => if y = Str.ofString "cells" then some (.ref c) else List.lookup y [(Str.ofString "script", Value.ref a)].reverse) ∧
    h'.get? c = some (listOf cs.toArray nc) ∧ (∀ v ∈ cs, cellOk v) ∧ cs.length ≤ 40 ∧ Over s.heap c
theorem urn_spec {prog : Program} {w : World} {A : Around} {s : Shared} {a : Addr} {vs : List Value} {xs : List Int} {G : Heap} (gd : Gd w G) (st : G.StaysIn s.heap)
    (hr : A.depth < recursionLimit) (hh : A.handled = none) (ha : s.heap.IsList a vs.toArray) (hi : IntsAre vs xs) (hl : xs.length ≤ 63) :
    codeAny (model prog w) A (.call (.ref 94) ⟨[.ref a], []⟩) (Ret s [] fun v h' => ∃ u c, v = .ref u ∧ Urn h' u c 0 ∧ Over s.heap u ∧ Over s.heap c) s := by
  have gd' := gd.keeps st
  have hvl := hi.length
  refine' enter (binds := [(Str.ofString "script", .ref a)]) (by assumption) ?ho ?hcd ?hroom ?hbind ?hloc ?_ ?c2 ?c3 ?c4 ?c5
  walk_at "sides"
  clear gd'
  intro h₁ tk F
  have ha1 := ha.at fun o e => F.keep _ _ e
  have st1 : G.StaysIn h₁ := fun b o e => F.keep b o (st b o e)
  refine cut_stmt (UrnCut s a) ?_ ?_
  · walk_at "comp="
    repeat walk_at "go"
    refine wpAny_Slice ?_
    simp only [evalPart_none, evalPart_some]
    refine wpAny_pure ?_
    repeat walk_at "go"
    refine wpAny_pure ?_
    try dsimp only
    refine' slice_up (k := 40) (s := { s with heap := h₁, toks := _ }) ha1 (by omega) (fun h2 l2 e2 g2 o2 => ?_) ?sl1 ?sl2
    (case sl1 => with_unfolding_all rfl)
    (case sl2 => intro _; with_unfolding_all rfl)
    try dsimp only
    refine seq_iter (.inr g2) hh fun o3 St3 W3 st3 => ?_
    try dsimp only at W3 st3 ⊢
    refine ⟨_, rfl, ?_⟩
    have hl2 := Heap.lt_size g2
    refine' compAt_read W3 rfl st3 ?cn ?cf (fun i zs => (∀ v ∈ zs, cellOk v) ∧ zs.length = i) ⟨by simp, rfl⟩ ?step ?fin
    (case cn => simp; omega)
    (case cf => intro b hb; rcases List.mem_cons.mp hb with rfl | hb; exact .inl rfl; rw [List.mem_singleton.mp hb]; exact .inr hl2)
    (case step =>
      rintro i v zs s₃ cm hi3 hv ⟨hz1, hz2⟩ hx3 hnc hcm E'
      have hst : G.StaysIn s₃.heap := ext_stays hx3 (ext_stays e2 st1)
      obtain ⟨x, t, rfl⟩ := (hi.take 40).all _ (List.mem_of_getElem? hv)
      repeat walk_at "go"
      refine call_int_int ?_
      repeat walk_at "go"
      refine call_abs_cell fun j u tk3 hj => ?_
      repeat walk_at "go"
      refine pow_int_small (by decide) (by decide) (by decide) ?_
      repeat walk_at "go"
      refine ⟨s₃.heap, _, rfl, Ext.refl _ _, fun v hv => ?_, by simp [hz2]⟩
      rcases List.mem_append.mp hv with hv | hv
      · exact hz1 v hv
      · rw [List.mem_singleton.mp hv]
        exact ⟨_, _, rfl, Int.fmod_nonneg_of_pos _ (by decide), Int.fmod_lt_of_pos _ (by decide)⟩)
    (case fin =>
      intro h4 tk4 zs no ext4 fr4 hI4
      have F2 := e2.fr F (by simp) (by simp)
      obtain ⟨oL, eL⟩ := ns_at F2.ns
      have eL' := Heap.lt_size eL
      rw [Heap.size_push]
      refine' fr_asg (Q := fun s' => True ∧ UrnCut s a s') (fl := [(h2.objs.size + 1, listOf zs.toArray no)]) F2 ext4 fr4 ?f1 ?f2 ?f3 ?_ ?f4 ?f5
      (case f1 => intro p hp; rw [List.mem_singleton.mp hp]; exact Nat.ne_of_lt (Nat.lt_succ_self _))
      (case f2 => exact fun b o e => Nat.lt_succ_of_lt (Nat.lt_succ_of_lt (Heap.lt_size e)))
      (case f3 => exact Nat.lt_succ_of_lt eL')
      (case f4 => exact rfl)
      (case f5 => exact rfl)
      intro h5 tk5 F5 g5
      refine ⟨trivial, _, _, _, zs, no, rfl, F5, g5 _ (.head _), hI4.1, by rw [hI4.2]; simp; omega, fun b o e => Nat.lt_succ_of_lt (Heap.lt_size (F2.keep b o e))⟩)
  · rintro s' ⟨h', tk', c, cs, nc, rfl, F', gc, hcs, hcl, oc⟩
    have ha2 := ha.at fun o e => F'.keep _ _ e
    have st2 : G.StaysIn h' := fun b o e => F'.keep b o (st b o e)
    clear F ha1 st1
    repeat walk_at "go"
    walk_at "comp"
    repeat walk_at "go"
    refine wpAny_Slice ?_
    simp only [evalPart_none, evalPart_some]
    refine wpAny_pure ?_
    repeat walk_at "go"
    refine wpAny_pure ?_
    try dsimp only
    refine' slice_up (k := 40) (s := { s with heap := h', toks := _ }) ha2 (by omega) (fun h2 l2 e2 g2 o2 => ?_) ?su1 ?su2
    (case su1 => with_unfolding_all rfl)
    (case su2 => intro _; with_unfolding_all rfl)
    try dsimp only
    refine seq_iter (.inr g2) hh fun o3 St3 W3 st3 => ?_
    try dsimp only at W3 st3 ⊢
    refine ⟨_, rfl, ?_⟩
    have hl2 := Heap.lt_size g2
    refine' compAt_read W3 rfl st3 ?cn2 ?cf2 (fun i zs => (∃ ns, IntsAre zs ns ∧ ∀ k ∈ ns, 0 ≤ k ∧ k < 1009) ∧ zs.length = i) ⟨⟨[], .nil, by simp⟩, rfl⟩ ?step2 ?fin2
    (case cn2 => simp; omega)
    (case cf2 => intro b hb; rcases List.mem_cons.mp hb with rfl | hb; exact .inl rfl; rw [List.mem_singleton.mp hb]; exact .inr hl2)
    (case step2 =>
      rintro i v zs s₃ cm hi3 hv ⟨⟨ns, hz1, hz3⟩, hz2⟩ hx3 hnc hcm E'
      have hst : G.StaysIn s₃.heap := ext_stays hx3 (ext_stays e2 st2)
      obtain ⟨x, t, rfl⟩ := (hi.take 40).all _ (List.mem_of_getElem? hv)
      repeat walk_at "go"
      refine call_int_int ?_
      repeat walk_at "go"
      refine ⟨s₃.heap, _, rfl, Ext.refl _ _, ⟨ns ++ [x.fmod 1009], snoc_ints hz1 _ _, fun k hk => ?_⟩, by simp [hz2]⟩
      rcases List.mem_append.mp hk with hk | hk
      · exact hz3 k hk
      · rw [List.mem_singleton.mp hk]
        exact ⟨Int.fmod_nonneg_of_pos _ (by decide), Int.fmod_lt_of_pos _ (by decide)⟩)
    (case fin2 =>
      rintro h4 tk4 zs no ext4 fr4 ⟨⟨ns, hz1, hz3⟩, hz2⟩
      repeat walk_at "go"
      rw [Heap.size_push]
      refine sum_ints hh (fr4 _ (.head _)).1 hz1 fun h5 tk5 t5 e5 => ?_
      have e15 : Ext [] h' h5 := (e2.trans ext4).trans e5
      have F5 := e15.fr F' (by simp) (by simp)
      have gc5 := e15 _ _ (by simp) gc
      have hsum := sum_bound ns hz3
      have hlen : ns.length ≤ 40 := by rw [← hz1.length, hz2]; simp; omega
      clear F' gc
      repeat walk_at "go"
      refine wpAny_newObj_type ?_ (by show (4 : Nat) ≤ sizeLine; rw [sizeLine_eq]; decide)
      have cs5 := Heap.lt_size gc5
      refine ⟨_, _, _, rfl, rfl, fun b o _ e => Heap.get?_push_of_some _ (F5.keep b o e), _, c, rfl, ⟨_, _, ⟨0, 0, ns.sum, cs, _, _, _, _, _, rfl, rfl, Nat.ne_of_gt cs5, hcs, by omega, by decide, by decide, by decide, by decide, hsum.1, by omega⟩, Heap.get?_push_size _ rfl, Heap.get?_push_of_some _ gc5⟩, fun b o e => Heap.lt_size (F5.keep b o e), oc⟩)

/-! the law's data -/
mutual
/-- data of texts, numbers and tuples, not deep, not wide -/
noncomputable def D.plainN : Nat → D → Bool
  | n, .tup l => decide (1 ≤ n) && (decide (l.length ≤ 3) && D.plainL (n - 1) l)
  | _, .sec _ _ _ => false
  | _, .lst _ => false
  | _, .none => true
  | _, .int _ => true
  | _, .str _ => true
  | _, .bytes _ => true
noncomputable def D.plainL : Nat → List D → Bool
  | _, [] => true
  | n, d :: r => D.plainN n d && D.plainL n r
end
theorem plain_sp : ∀ (n : Nat) (d : D), d.plainN n = true → d.sp ≤ n
  | 0, d, h => by cases d <;> simp [D.plainN] at h <;> simp [D.sp]
  | n + 1, d, h => by
    cases d with
    | tup l =>
      simp only [D.plainN, Nat.add_sub_cancel, Bool.and_eq_true] at h
      replace h := h.2
      match l, h with
      | [], _ => simp [D.sp, D.spL]
      | [a], _ => simp [D.sp, D.spL, D.spH]
      | a :: b :: r, h =>
        simp only [D.plainL, Bool.and_eq_true] at h
        have := plain_sp n b h.2.2.1
        simp only [D.sp, D.spL, D.spH]; omega
    | _ => first | (simp [D.plainN] at h; done) | simp [D.sp]
theorem plain_mem : ∀ (l : List D) (n : Nat), D.plainL n l = true → ∀ e ∈ l, e.plainN n = true
  | [], _, _ => fun _ h => nomatch h
  | d :: r, n, h => fun e he => by
    simp only [D.plainL, Bool.and_eq_true] at h
    rcases List.mem_cons.mp he with rfl | he
    · exact h.1
    · exact plain_mem r n h.2 e he
mutual
theorem plain_tb : ∀ (n : Nat) (d : D), n ≤ 2000 → d.plainN n = true → Tb n d
  | 0, d, _, h => by cases d <;> first | exact .leaf rfl rfl | simp [D.plainN] at h
  | n + 1, d, hn, h => by
    cases d with
    | tup l =>
      simp only [D.plainN, Nat.add_sub_cancel, Bool.and_eq_true, decide_eq_true_eq] at h
      replace h := h.2
      exact .tup (by omega) (fun e he => Nat.le_trans (plain_sp n e (plain_mem l n h.2 e he)) (by omega)) (plain_tbL n l (by omega) h.2)
    | _ => first | exact .leaf rfl rfl | simp [D.plainN] at h
theorem plain_tbL : ∀ (n : Nat) (l : List D), n ≤ 2000 → D.plainL n l = true → ∀ e ∈ l, Tb n e
  | _, [], _, _ => fun _ h => nomatch h
  | n, d :: r, hn, h => fun e he => by
    simp only [D.plainL, Bool.and_eq_true] at h
    rcases List.mem_cons.mp he with h0 | he
    · rw [h0]; exact plain_tb n d hn h.1
    · exact plain_tbL n r hn h.2 e he
end
mutual
theorem plain_told : ∀ (n : Nat) (d : D), d.plainN n = true → d.told = d ∧ d.flat = true ∧ d.dep ≤ n
  | 0, d, h => by cases d <;> simp [D.plainN] at h <;> simp [D.told, D.flat, D.dep]
  | n + 1, d, h => by
    cases d with
    | tup l =>
      simp only [D.plainN, Nat.add_sub_cancel, Bool.and_eq_true] at h
      replace h := h.2
      obtain ⟨a, b, c⟩ := plain_toldL n l h.2
      exact ⟨by simp only [D.told, a], by simp only [D.flat, b], by simp only [D.dep]; omega⟩
    | _ => first | (simp [D.plainN] at h; done) | simp [D.told, D.flat, D.dep]
theorem plain_toldL : ∀ (n : Nat) (l : List D), D.plainL n l = true → D.toldL l = l ∧ D.flatL l = true ∧ D.depL l ≤ n
  | _, [], _ => by simp [D.toldL, D.flatL, D.depL]
  | n, d :: r, h => by
    simp only [D.plainL, Bool.and_eq_true] at h
    obtain ⟨a, b, c⟩ := plain_told n d h.1
    obtain ⟨a', b', c'⟩ := plain_toldL n r h.2
    exact ⟨by simp only [D.toldL, a, a'], by simp only [D.flatL, b, b', Bool.and_self], by simp only [D.depL]; omega⟩
end
theorem KeyD.plain {n : Nat} {d : D} (h : KeyD n d) : d.plainN (n + 3) = true := by
  induction h with
  | all => rfl
  | flag => rfl
  | uid => simp [D.plainN, D.plainL]
  | header => rfl
  | not _ ih => simp [D.plainN, D.plainL, ih]
  | two _ _ _ ih1 ih2 => simp [D.plainN, D.plainL, ih1, ih2]
theorem KeyD.tupForm {n : Nat} {d : D} (h : KeyD n d) : ∃ l, d = .tup l := by cases h <;> exact ⟨_, rfl⟩

/-- the chain of ands over the keys -/
noncomputable def kAt (ks : List D) (j : Nat) : D := ks.getD j .none
noncomputable def spine (ks : List D) (st : Nat) : Nat → D
  | 0 => kAt ks 0
  | i + 1 => .tup [.str andS, spine ks st i, kAt ks ((st * (i + 1)) % 5)]
structure Keys (ks : List D) : Prop where
  len : ks.length = 5
  key : ∀ (i : Nat) (d : D), ks[i]? = some d → KeyD 2 d
theorem Keys.at' {ks : List D} (K : Keys ks) {j : Nat} (h : j < 5) : ks[j]? = some (kAt ks j) ∧ KeyD 2 (kAt ks j) := by
  have e : ks[j]? = some (kAt ks j) := by
    unfold kAt
    rw [List.getD_eq_getElem?_getD, List.getElem?_eq_getElem (by rw [K.len]; exact h)]; rfl
  exact ⟨e, K.key j _ e⟩
theorem spine_tb {ks : List D} (K : Keys ks) (st : Nat) : ∀ i, Tb 6 (spine ks st i)
  | 0 => (plain_tb 5 _ (by decide) (K.at' (by decide)).2.plain).succ
  | i + 1 => by
    have k := (K.at' (j := (st * (i + 1)) % 5) (Nat.mod_lt _ (by decide))).2.plain
    exact .andT (spine_tb K st i) (Nat.le_trans (plain_sp 5 _ k) (by decide)) (plain_tb 5 _ (by decide) k)
theorem spine_sp {ks : List D} (K : Keys ks) (st : Nat) : ∀ i, (spine ks st i).sp ≤ i + 5
  | 0 => plain_sp 5 _ (K.at' (by decide)).2.plain
  | i + 1 => by
    have := spine_sp K st i
    simp only [spine, D.sp, D.spL, D.spH]; omega
theorem spine_told {ks : List D} (K : Keys ks) (st : Nat) : ∀ i, (spine ks st i).told = spine ks st i
  | 0 => (plain_told 5 _ (K.at' (by decide)).2.plain).1
  | i + 1 => by
    have k := (K.at' (j := (st * (i + 1)) % 5) (Nat.mod_lt _ (by decide))).2.plain
    simp only [spine, D.told, D.toldL, spine_told K st i, (plain_told 5 _ k).1]
theorem args_tb {es : List D} (h : ∀ e ∈ es, ArgOk 3 e) {t : D} (ht : Tb 6 t) (hs : t.sp ≤ 2000) (hl : es.length ≤ 3) : Tb 7 (.tup (t :: es)) ∧ (D.tup (t :: es)).sp ≤ 2000 := by
  have sp : ∀ e ∈ es, e.sp ≤ 2000 := fun e he => by have := (h e he).sp; omega
  refine ⟨.tup (by simp; omega) (fun d hd => ?_) (fun d hd => ?_), ?_⟩
  · rcases List.mem_cons.mp hd with rfl | hd
    · exact hs
    · exact sp d hd
  · rcases List.mem_cons.mp hd with rfl | hd
    · exact ht
    · exact (h d hd).tb.succ.succ.succ
  · match es, h with
    | [], _ => simp [D.sp, D.spL, D.spH]
    | a :: r, h => have := (h a (.head _)).sp; simp only [D.sp, D.spL, D.spH]; omega

/-! what a datum stands on, listed -/
mutual
theorem rep_list {π : Addr → Obj → Prop} : ∀ (d : D) (v : Value), Rep π d v → ∃ tl : List (Addr × Obj), (∀ p ∈ tl, π p.1 p.2) ∧ Rep (inL tl) d v
  | .none, v, h => ⟨[], (fun _ h => nomatch h), h⟩
  | .int _, v, h => ⟨[], (fun _ h => nomatch h), h⟩
  | .str _, v, h => ⟨[], (fun _ h => nomatch h), h⟩
  | .bytes _, v, h => ⟨[], (fun _ h => nomatch h), h⟩
  | .tup l, v, h => by
    simp only [Rep] at h
    obtain ⟨a, vs, n, rfl, p, r⟩ := h
    obtain ⟨tl, h1, h2⟩ := rep_listL l vs r
    refine ⟨(a, tupO vs n) :: tl, fun q hq => ?_, Rep.tupI (.head _) (h2.mono (fun _ _ q => .tail _ q) _ _)⟩
    rcases List.mem_cons.mp hq with rfl | hq
    · exact p
    · exact h1 q hq
  | .lst l, v, h => by
    simp only [Rep] at h
    obtain ⟨a, vs, n, rfl, p, r⟩ := h
    obtain ⟨tl, h1, h2⟩ := rep_listL l vs r
    refine ⟨(a, listOf vs.toArray n) :: tl, fun q hq => ?_, Rep.lstI (.head _) (h2.mono (fun _ _ q => .tail _ q) _ _)⟩
    rcases List.mem_cons.mp hq with rfl | hq
    · exact p
    · exact h1 q hq
  | .sec path names par, v, h => by
    simp only [Rep] at h
    obtain ⟨a, dx, h1, h2, h3, h4, k1, k2, k3, k4, pa, na, wt, pv, nd, pvs, pn, nvs, nn, rfl, p1, p2, p3, i, p4, st, r⟩ := h
    obtain ⟨tl, g1, g2⟩ := rep_list par pv r
    refine ⟨(a, instObj 50 dx) :: (dx, dictOf (secDict h1 h2 h3 h4 k1 k2 k3 k4 pa na wt pv) nd) :: (pa, tupO pvs pn) :: (na, tupO nvs nn) :: tl, fun q hq => ?_, ?_⟩
    · simp only [List.mem_cons] at hq
      rcases hq with rfl | rfl | rfl | rfl | hq
      · exact p1
      · exact p2
      · exact p3
      · exact p4
      · exact g1 q hq
    · exact Rep.secI (π := inL _) (.head _) (.tail _ (.head _)) (.tail _ (.tail _ (.head _))) i (.tail _ (.tail _ (.tail _ (.head _)))) st (g2.mono (fun _ _ q => .tail _ (.tail _ (.tail _ (.tail _ q)))) _ _)
theorem rep_listL {π : Addr → Obj → Prop} : ∀ (l : List D) (vs : List Value), RepL π l vs → ∃ tl : List (Addr × Obj), (∀ p ∈ tl, π p.1 p.2) ∧ RepL (inL tl) l vs
  | [], vs, h => ⟨[], (fun _ h => nomatch h), h⟩
  | d :: r, vs, h => by
    simp only [RepL] at h
    obtain ⟨v, q, rfl, h1, h2⟩ := h
    obtain ⟨t1, a1, b1⟩ := rep_list d v h1
    obtain ⟨t2, a2, b2⟩ := rep_listL r q h2
    refine ⟨t1 ++ t2, fun p hp => ?_, .cons (b1.mono (fun _ _ q => List.mem_append_left _ q) _ _) (b2.mono (fun _ _ q => List.mem_append_right _ q) _ _)⟩
    rcases List.mem_append.mp hp with hp | hp
    · exact a1 p hp
    · exact a2 p hp
end
/-- an address that is none of a frame's own -/
def Off (L u c : Addr) (cs : List (Addr × Option Value)) (a : Addr) : Prop := L < a ∧ a ≠ u ∧ a ≠ c ∧ ∀ q ∈ cs, a ≠ q.1
theorem Sit.inOff {g h : Heap} {L u c : Addr} {m : Str → Option Value} {B : Int} {cs : List (Addr × Option Value)} {post : List (Addr × Obj)} (S : Sit g L m u c B cs post h) {d : D} {v : Value} (r : Rep (inL post) d v) : Rep (inP (Off L u c cs) h) d v :=
  r.mono (fun a o q => ⟨S.get q, S.lo _ q⟩) _ _
theorem Sit.lies {g h : Heap} {L u c : Addr} {m : Str → Option Value} {B : Int} {cs : List (Addr × Option Value)} {post : List (Addr × Obj)} (S : Sit g L m u c B cs post h) {d : D} {v : Value} (r : Rep (inL post) d v) : Rep (lies h) d v :=
  r.mono (fun a o q => S.get q) _ _
theorem Sit.more {g h : Heap} {L u c : Addr} {m : Str → Option Value} {B : Int} {cs : List (Addr × Option Value)} {post tl : List (Addr × Obj)} (S : Sit g L m u c B cs post h) (k : ∀ p ∈ tl, inP (Off L u c cs) h p.1 p.2) : Sit g L m u c B cs (tl ++ post) h :=
  { S with
    get' := fun p hp => by
      rcases List.mem_append.mp hp with hp | hp
      · exact (k p hp).1
      · exact S.get' p hp
    lo := fun p hp => by
      rcases List.mem_append.mp hp with hp | hp
      · exact (k p hp).2
      · exact S.lo p hp }
theorem Sit.offNew {g h : Heap} {L u c : Addr} {m : Str → Option Value} {B : Int} {cs : List (Addr × Option Value)} {post : List (Addr × Obj)} (S : Sit g L m u c B cs post h) {a : Addr} (k : h.objs.size ≤ a) : Off L u c cs a := by
  obtain ⟨_, e1⟩ := S.atL
  obtain ⟨⟨_, e2⟩, ⟨_, e3⟩⟩ := S.atU
  have lt : ∀ b o, h.get? b = some o → b < a := Over.of_le k
  exact ⟨lt _ _ e1, Nat.ne_of_gt (lt _ _ e2), Nat.ne_of_gt (lt _ _ e3), fun q hq => let ⟨_, e4, _⟩ := S.cell q hq; Nat.ne_of_gt (lt _ _ e4)⟩
/-- a datum told apart from the frame's own joins what has been made -/
theorem Sit.join {g h h' : Heap} {L u c : Addr} {m : Str → Option Value} {B : Int} {cs : List (Addr × Option Value)} {post : List (Addr × Obj)} (S : Sit g L m u c B cs post h) (e : Ext [] h h') {d : D} {v : Value} (r : Rep (inP (fun a => Off L u c cs a ∨ h.objs.size ≤ a) h') d v) :
    ∃ tl, Sit g L m u c B cs (tl ++ post) h' ∧ Rep (inL tl) d v := by
  have S' := S.step0 e
  obtain ⟨tl, a, b⟩ := rep_list d v r
  exact ⟨tl, S'.more fun p hp => ⟨(a p hp).1, (a p hp).2.elim id S.offNew⟩, b⟩
/-! whatever is not equal to itself -/
theorem rep_neD {prog : Program} {w : World} {A : Around} {E : Value → Shared → Prop} {s : Shared} {Q : Value → Shared → Prop} {d : D} {v v' : Value} (hf : d.flat = true) (hu : A.units + d.dep < cLine) (h : Rep (lies s.heap) d v) (h' : Rep (lies s.heap) d v')
    (q : Q (.bool false) s) : wpAny (model prog w) A (compareOp .NotEq v v') Q E s := by
  cases d with
  | none => simp only [Rep] at h h'; subst h h'; exact SeqAt.RcNeAt.none_none prog w E Q q
  | int i => simp only [Rep] at h h'; obtain ⟨t, rfl⟩ := h; obtain ⟨u, rfl⟩ := h'; exact SeqAt.RcNeAt.int_int i t i u prog w E Q (by simpa using q)
  | str x => simp only [Rep] at h h'; obtain ⟨t, rfl⟩ := h; obtain ⟨u, rfl⟩ := h'; exact SeqAt.RcNeAt.str_str x t x u prog w E Q (by simpa using q)
  | bytes b => simp only [Rep] at h h'; obtain ⟨t, rfl⟩ := h; obtain ⟨u, rfl⟩ := h'; exact ne_bytes (by simpa using q)
  | tup l => simp only [D.flat] at hf; simp only [D.dep] at hu; exact rep_ne hf (by omega) h h' q
  | lst _ => simp [D.flat] at hf
  | sec _ _ _ => simp [D.flat] at hf

/-! a for whose frame stays a Sit -/
theorem Sit.moved {g h h' : Heap} {L u c : Addr} {m : Str → Option Value} {B : Int} {cs : List (Addr × Option Value)} {post : List (Addr × Obj)} {wr : List Addr} (S : Sit g L m u c B cs post h)
    (k : ∀ b o, b ∉ wr → h.get? b = some o → h'.get? b = some o) (hw : ∀ b ∈ wr, Off L u c cs b) (hp : ∀ p ∈ post, p.1 ∉ wr) : Sit g L m u c B cs post h' := by
  have hL : L ∉ wr := fun q => Nat.lt_irrefl _ (hw _ q).1
  have hu : u ∉ wr := fun q => (hw _ q).2.1 rfl
  have hc : c ∉ wr := fun q => (hw _ q).2.2.1 rfl
  refine ⟨⟨S.F.ns.at' fun o e => k _ o hL e, fun b o e => k b o (fun q => ?_) (S.F.keep b o e), S.F.above⟩, S.urn.ext fun b o hb e => k b o (fun q => ?_) e, fun p hp' => k _ _ (hp p hp') (S.get' p hp'), fun q hq => ?_, S.lo, S.clo, S.uL, S.cL⟩
  · exact Nat.lt_irrefl _ (Nat.lt_trans (hw _ q).1 (Nat.lt_of_lt_of_le (Heap.lt_size e) S.F.above))
  · rcases hb with rfl | rfl
    · exact hu q
    · exact hc q
  · obtain ⟨o, e, d⟩ := S.cell q hq
    exact ⟨o, k _ _ (fun z => (hw _ z).2.2.2 q hq rfl) e, d⟩
theorem lay_list {h : Heap} : ∀ (fp : List Addr), (∀ b ∈ fp, ∃ o, h.get? b = some o) → ∃ its : List (Addr × Obj), (∀ b ∈ fp, ∃ o, (b, o) ∈ its) ∧ ∀ q ∈ its, q.1 ∈ fp ∧ h.get? q.1 = some q.2
  | [], _ => ⟨[], (fun _ h => nomatch h), fun _ h => nomatch h⟩
  | b :: r, k => by
    obtain ⟨o, e⟩ := k b (.head _)
    obtain ⟨its, h1, h2⟩ := lay_list r fun b' hb' => k b' (.tail _ hb')
    refine ⟨(b, o) :: its, fun b' hb' => ?_, fun q hq => ?_⟩
    · rcases List.mem_cons.mp hb' with rfl | hb'
      · exact ⟨o, .head _⟩
      · obtain ⟨o', h⟩ := h1 b' hb'; exact ⟨o', .tail _ h⟩
    · rcases List.mem_cons.mp hq with rfl | hq
      · exact ⟨.head _, e⟩
      · exact ⟨.tail _ (h2 q hq).1, (h2 q hq).2⟩
section
variable {prog : Program} {w : World} {A : Around} {E : Value → Shared → Prop} {s : Shared} {env : Env} {g : Heap} {L u c : Addr} {B : Int} {cs : List (Addr × Option Value)} {post : List (Addr × Obj)}
theorem for_sit {R : Result → Shared → Prop} {target : Expr} {body : List Stmt} {I : Addr} {fp wr : List Addr} {n : Nat} {P : Nat → Value → Prop} {St : Nat → Heap → Prop} {m₀ : Str → Option Value}
    (W : Walks prog w A I fp wr n P St)
    (U : Nat → Value → (Str → Option Value) → (Str → Option Value) → Prop)
    (hgo : ∀ i v (s₁ : Shared) (Q' : Unit → Shared → Prop) E', P i v → St (i + 1) s₁.heap → Q' () s₁ → wpAny (model prog w) A (letOwnedTupleGo target (.ref I) v) Q' E' s₁)
    (hasg : ∀ i v m post' (s₁ : Shared) (Q' : Unit → Shared → Prop) E', i < n → P i v → (∀ p ∈ post, p ∈ post') → Sit g L m u c B cs post' s₁.heap →
      (∀ h' tk' m', U i v m m' → Sit g L m' u c B cs post' h' → Q' () { s₁ with heap := h', toks := tk' }) → wpAny (model prog w) A (assign target env v) Q' E' s₁)
    (S : Sit g L m₀ u c B cs post s.heap) (hst : St 0 s.heap) (hfp : ∀ b ∈ fp, Off L u c cs b) (hpw : ∀ p ∈ post, p.1 ∉ wr)
    (hlie : ∀ i h, St i h → ∀ b ∈ fp, ∃ o, h.get? b = some o)
    (J : Nat → (Str → Option Value) → List (Addr × Obj) → Prop) (h0 : J 0 m₀ post)
    (step : ∀ i v m m' post' its (s₁ : Shared), (∃ h tk, s₁ = { s with heap := h, toks := tk }) → i < n → P i v → U i v m m' → J i m post' → (∀ p ∈ post, p ∈ post') → Sit g L m' u c B cs (its ++ post') s₁.heap →
      ∀ E', wpAny (model prog w) A (execs body env) (fun f s₂ => match f with
        | .ret v => R (.ok (.ret v)) s₂
        | .brk => R (.ok .next) s₂
        | _ => ∃ h' tk' m'' new, s₂ = { s₁ with heap := h', toks := tk' } ∧ Sit g L m'' u c B cs (new ++ (its ++ post')) h' ∧ J (i + 1) m'' (new ++ post') ∧ ∀ p ∈ new, ∀ q ∈ its, p.1 ≠ q.1) E' s₁)
    (hR : ∀ h' tk m' post', Sit g L m' u c B cs post' h' → (∀ p ∈ post, p ∈ post') → J n m' post' → R (.ok .next) { s with heap := h', toks := tk }) :
    codeAny (model prog w) A (.forLoop target (.ref I) body [] env) R s := by
  have hwr : ∀ b ∈ wr, Off L u c cs b := fun b hb => hfp b (W.sub b hb)
  refine codeAny_forLoop_any
    (fun k s' => ∃ h' tk m' i post', s' = { s with heap := h', toks := tk } ∧ St i h' ∧ Sit g L m' u c B cs post' h' ∧ J i m' post' ∧ (∀ p ∈ post, p ∈ post') ∧ (∀ p ∈ post', p.1 ∉ wr) ∧ i ≤ n ∧ k = n + 1 - i) ?_ (n + 1)
    ⟨s.heap, s.toks, m₀, 0, post, rfl, hst, S, h0, fun _ h => h, hpw, Nat.zero_le _, rfl⟩
  rintro k s' ⟨h', tk, m', i, post', rfl, hst', S', hJ, hsub, hpw', hi, rfl⟩
  by_cases hlt : i < n
  · refine W.item i _ _ _ hlt hst' fun v h₁ tk₁ hP hst₁ hk₁ => ?_
    refine hgo i v _ _ _ hP hst₁ ?_
    have S₁ := S'.moved hk₁ hwr hpw'
    obtain ⟨its, hi1, hi2⟩ := lay_list fp (hlie _ _ hst₁)
    have S₂ : Sit g L m' u c B cs (its ++ post') h₁ := S₁.more fun p hp => ⟨(hi2 p hp).2, hfp _ (hi2 p hp).1⟩
    refine hasg i v m' (its ++ post') { s with heap := h₁, toks := tk₁ } _ _ hlt hP (fun p hp => List.mem_append_right _ (hsub p hp)) S₂ fun h₂ tk₂ m₂ hU S₃ => ?_
    refine wpAny_mono (step i v m' m₂ post' its { s with heap := h₂, toks := tk₂ } ⟨_, _, rfl⟩ hlt hP hU hJ hsub S₃ _) (fun f s₃ h₃ => ?_) fun _ _ e => e
    have goOn : (∃ h' tk' m'' new, s₃ = { ({ s with heap := h₂, toks := tk₂ } : Shared) with heap := h', toks := tk' } ∧ Sit g L m'' u c B cs (new ++ (its ++ post')) h' ∧ J (i + 1) m'' (new ++ post') ∧ ∀ p ∈ new, ∀ q ∈ its, p.1 ≠ q.1) →
        ∃ m, m < n + 1 - i ∧ ∃ h' tk m' i post', s₃ = { s with heap := h', toks := tk } ∧ St i h' ∧ Sit g L m' u c B cs post' h' ∧ J i m' post' ∧ (∀ p ∈ post, p ∈ post') ∧ (∀ p ∈ post', p.1 ∉ wr) ∧ i ≤ n ∧ m = n + 1 - i := by
      rintro ⟨h₄, tk₄, m₄, new, rfl, S₄, hJ', dis⟩
      refine ⟨n + 1 - (i + 1), by omega, h₄, tk₄, m₄, i + 1, new ++ post', rfl, W.frame _ _ _ hst₁ (fun b hb o e => ?_), S₄.sub (fun p hp => ?_), hJ', fun p hp => List.mem_append_right _ (hsub p hp), fun p hp => ?_, hlt, rfl⟩
      · obtain ⟨o', ho'⟩ := hi1 b hb
        have e1 := (hi2 _ ho').2
        have e2 := S₄.get (List.mem_append_right _ (List.mem_append_left _ ho'))
        dsimp only at e1
        rw [e1] at e
        cases e
        exact e2
      · rcases List.mem_append.mp hp with hp | hp
        · exact List.mem_append_left _ hp
        · exact List.mem_append_right _ (List.mem_append_right _ hp)
      · rcases List.mem_append.mp hp with hp | hp
        · intro q
          obtain ⟨o', ho'⟩ := hi1 p.1 (W.sub _ q)
          exact dis p hp _ ho' rfl
        · exact hpw' p hp
    cases f with
    | ret v => exact h₃
    | brk => exact h₃
    | next => exact goOn h₃
    | cont => exact goOn h₃
  · have hin : i = n := by omega
    subst hin
    refine W.done _ _ _ hst' fun h₁ tk₁ hk₁ => wpAny_execs_nil ?_
    exact hR h₁ tk₁ m' post' (S'.moved hk₁ hwr hpw') hsub hJ
end
/-- a name's target -/
theorem asg_name {prog : Program} {w : World} {A : Around} {E : Value → Shared → Prop} {s : Shared} {g : Heap} {L u c a : Addr} {m : Str → Option Value} {B : Int} {cs : List (Addr × Option Value)} {post : List (Addr × Obj)} {cn : Str} {sc : Scope} {ccd : Value} {cl : List (Str × Addr)} {x : Str} {px : Pos} {v : Value} {Q : Unit → Shared → Prop}
    (hk : sc.kind = .function) (hx : (envX cn sc L a ccd cl).kindOf x = some .local) (S : Sit g L m u c B cs post s.heap)
    (k : ∀ h' tk' m', m' = (fun y => if y = x then some v else m y) → Sit g L m' u c B cs post h' → Q () { s with heap := h', toks := tk' }) : wpAny (model prog w) A (assign (.Name x px) (envX cn sc L a ccd cl) v) Q E s :=
  wpAny_assign_Name (sit_store S (fun h' S' => k h' _ _ rfl S') hk hx)
/-- a pair of names as the target -/
theorem asg_pair {prog : Program} {w : World} {A : Around} {E : Value → Shared → Prop} {s : Shared} {g : Heap} {L u c a t : Addr} {m : Str → Option Value} {B : Int} {cs : List (Addr × Option Value)} {post : List (Addr × Obj)} {cn : Str} {sc : Scope} {ccd : Value} {cl : List (Str × Addr)} {x y : Str} {px py pt : Pos} {x1} {v0 v1 : Value} {n : Nat} {Q : Unit → Shared → Prop}
    (hh : A.handled = none) (hk : sc.kind = .function) (hx : (envX cn sc L a ccd cl).kindOf x = some .local) (hy : (envX cn sc L a ccd cl).kindOf y = some .local) (S : Sit g L m u c B cs post s.heap) (ht : (t, tupO [v0, v1] n) ∈ post)
    (k : ∀ h' tk' m', m' = (fun z => if z = y then some v1 else if z = x then some v0 else m z) → Sit g L m' u c B cs post h' → Q () { s with heap := h', toks := tk' }) :
    wpAny (model prog w) A (assign (.Tuple [.Name x px, .Name y py] x1 pt) (envX cn sc L a ccd cl) (.ref t)) Q E s := by
  refine assign_Tuple_tuple (items := [v0, v1].toArray) hh ⟨_, S.get ht, rfl, _, rfl⟩ rfl rfl fun h' he => ?_
  have S1 := S.step0 (h' := h') fun b o _ e => he b o (Nat.ne_of_lt (Heap.lt_size e)) e
  show wpAny _ _ (assignInOrder [assign (.Name x px) _, assign (.Name y py) _] [v0, v1]) _ _ _
  refine assignInOrder_cons (wpAny_assign_Name (sit_store (s := { s with heap := h' }) S1 (fun h2 S2 => ?_) hk hx))
  refine assignInOrder_cons (wpAny_assign_Name (sit_store (s := { s with heap := h2, toks := _ }) S2 (fun h3 S3 => ?_) hk hy))
  exact assignInOrder_nil (k h3 _ _ rfl S3)
theorem go_name {prog : Program} {w : World} {A : Around} {E : Value → Shared → Prop} {s : Shared} {x : Str} {px : Pos} {I v : Value} {Q : Unit → Shared → Prop} (h : Q () s) : wpAny (model prog w) A (letOwnedTupleGo (.Name x px) I v) Q E s := wpAny_pure h

/-! a slice of three: its first two -/
theorem applied2 {prog : Program} {w : World} {A : Around} {E : Value → Shared → Prop} {s : Shared} {sl : Addr} {u : Tok} {Q : Int × Int × Nat → Shared → Prop} (hs : s.heap.IsSliceOf sl .none (.int 2 u) .none) (h : Q ((0 : Int), 1, 2) s) :
    wpAny (model prog w) A (Builtin.Slice.sliceApplied (.ref sl) (pure (((3 : Nat) : Int)))) Q E s := by
  obtain ⟨os, hos, hcs, hds⟩ := id hs
  unfold Builtin.Slice.sliceApplied Builtin.Slice.sliceFields
  refine wpAny_bind (wpAny_bind (wpAny_field hos hds (x := .none) rfl (wpAny_bind (wpAny_field hos hds (x := .int 2 u) rfl (wpAny_bind (wpAny_field hos hds (x := .none) rfl (wpAny_pure ?_)))))))
  refine wpAny_bind (slicePart_none ?_)
  show wpAny _ _ (if ((1 : Int) == 0) = true then _ else _) _ _ s
  rw [if_neg (by decide)]
  refine wpAny_bind (slicePart_none (wpAny_bind (slicePart_int (wpAny_bind (wpAny_pure ?_)))))
  show wpAny _ _ (match Builtin.Slice.sliceAdjust none (some (2 : Int)) 1 (3 : Int) with | (lo, hi) => pure (lo, (1 : Int), Builtin.Slice.slicePlaces lo hi 1)) _ _ s
  have e : Builtin.Slice.sliceAdjust none (some (2 : Int)) 1 (3 : Int) = (0, 2) := by decide
  rw [e]
  show wpAny _ _ (pure ((0 : Int), (1 : Int), Builtin.Slice.slicePlaces (0 : Int) (2 : Int) 1)) _ _ s
  have e2 : Builtin.Slice.slicePlaces (0 : Int) (2 : Int) 1 = 2 := by decide
  rw [e2]
  exact wpAny_pure h
theorem slice_first2 {prog : Program} {w : World} {A : Around} {E : Value → Shared → Prop} {s : Shared} {a : Addr} {v0 v1 v2 : Value} {n : Nat} {t : Tok} {value slice : Expr} {Q : Value → Shared → Prop}
    (hl : s.heap.get? a = some (tupO [v0, v1, v2] n))
    (h : ∀ h' l, Ext [] s.heap h' → h'.get? l = some (tupO [v0, v1] 0) → (∀ b o, s.heap.get? b = some o → b < l) → Q (.ref l) { s with heap := h' })
    (hs : subscripted slice false (.ref a) (.ref s.heap.objs.size) = operate [.ref s.heap.objs.size, .ref a] (getItem (.ref a) (.ref s.heap.objs.size)))
    (ht : ∀ r, letTemporaryGo value (.ref a) r = pure ()) :
    wpAny (model prog w) A (subscriptTail value slice (.ref a) (.ref s.heap.objs.size)) Q E { s with heap := s.heap.push { cls := .type "slice", data := .fields #[.none, .int 2 t, .none] } } := by
  have hT : IsTup (s.heap.push { cls := .type "slice", data := .fields #[.none, .int 2 t, .none] }) a #[v0, v1, v2] := ⟨_, Heap.get?_push_of_some _ hl, rfl, _, rfl⟩
  have hS : (s.heap.push { cls := .type "slice", data := .fields #[.none, .int 2 t, .none] }).IsSliceOf s.heap.objs.size .none (.int 2 t) .none := Heap.IsSliceOf.new ..
  generalize hH : s.heap.push { cls := .type "slice", data := .fields #[.none, .int 2 t, .none] } = H at hT hS
  have old : ∀ b o, s.heap.get? b = some o → H.get? b = some o := fun b o e => by rw [← hH]; exact Heap.get?_push_of_some _ e
  have hsz : H.objs.size = s.heap.objs.size + 1 := by rw [← hH, Heap.size_push]
  refine subscriptTail_ops (s := { s with heap := H }) hT.typeIs slot_tuple_getitem.lookup ?_ hs ht
  obtain ⟨os, hos, hcs, hds⟩ := id hS
  have hTs : Shared.TypeIs { s with heap := H } (.ref s.heap.objs.size) "slice" := ⟨os, hos, hcs⟩
  unfold getItem
  try with_reducible refine wpAny_holding ?_
  first | refine wpAny_bind (wpAny_pure ?_) | skip
  refine wpAny_bind (wpAny_sequenceKey (s := { s with heap := H }) hT.typeIs (by decide) ?_)
  refine wpAny_bind (wpAny_callSpecial?_slot (s := { s with heap := H }) (name := Str.ofString "__getitem__") hT.typeIs slot_tuple_getitem
    (wpAny_call_entry slot_tuple_getitem hT.typeIs entry_tuple_getitem ?_ (args_tuple_getitem _ _)))
  show wpAny _ _ (Builtin.Tuple.tupleItemsOf (.ref a) >>= _) _ _ _
  refine wpAny_bind (tupleItemsOf_ hT ?_)
  refine wpAny_bind (wpAny_typeOf hTs ?_)
  rw [if_pos (by decide)]
  refine wpAny_bind (applied2 hS ?_)
  show wpAny _ _ (if ((0 : Int) == 0 && (1 : Int) == 1 && (2 : Nat) == 3) = true then _ else _) _ _ _
  rw [if_neg (by decide)]
  have e : ((List.range 2).filterMap fun (k : Nat) => (#[v0, v1, v2] : Array Value)[((0 : Int) + (k : Int) * 1).toNat]?).toArray = #[v0, v1] := rfl
  rw [e]
  have hfin : ∀ tk : Nat, Q (.ref (s.heap.objs.size + 1)) { s with heap := H.push (tupO [v0, v1] 0) } := fun _ => by
    have gH : (H.push (tupO [v0, v1] 0)).get? (s.heap.objs.size + 1) = some (tupO [v0, v1] 0) := by
      have := Heap.get?_push_size H (o := tupO [v0, v1] 0) rfl
      rwa [hsz] at this
    exact h _ _ (fun b o _ q => Heap.get?_push_of_some _ (old b o q)) gH fun b o q => Nat.lt_succ_of_lt (Heap.lt_size q)
  rw [← hsz] at hfin
  have hz2 : sizeOk (.seq (#[v0, v1] : Array Value)) := by show (2 : Nat) ≤ sizeLine; rw [sizeLine_eq]; decide
  first
    | exact wpAny_bind (m := Builtin.Tuple.tupleExact _) (wpAny_newObj_type (wpAny_pure ⟨_, rfl, wpAny_pure (hfin 0)⟩) hz2)
    | exact wpAny_bind (m := Builtin.Tuple.tupleExact _) (wpAny_newObj_type (wpAny_bind (wpAny_pure (wpAny_pure ⟨_, rfl, wpAny_pure (hfin 0)⟩))) hz2)
    | exact wpAny_bind (wpAny_bind (m := Builtin.Tuple.tupleExact _) (wpAny_newObj_type (wpAny_pure (wpAny_pure ⟨_, rfl, wpAny_pure (hfin 0)⟩)) hz2))
    | exact wpAny_bind (wpAny_bind (m := Builtin.Tuple.tupleExact _) (wpAny_newObj_type (wpAny_pure ⟨_, rfl, wpAny_pure (hfin 0)⟩) hz2))
theorem slice_rest {prog : Program} {w : World} {A : Around} {E : Value → Shared → Prop} {s : Shared} {a : Addr} {vs : List Value} {n : Nat} {t : Tok} {value slice : Expr} {Q : Value → Shared → Prop}
    (hl : s.heap.get? a = some (tupO vs n)) (h1 : 1 ≤ vs.length) (hz : vs.length ≤ 4000)
    (h : ∀ h' l, Ext [] s.heap h' → h'.get? l = some (tupO (vs.drop 1) 0) → (∀ b o, s.heap.get? b = some o → b < l) → Q (.ref l) { s with heap := h' })
    (hs : subscripted slice false (.ref a) (.ref s.heap.objs.size) = operate [.ref s.heap.objs.size, .ref a] (getItem (.ref a) (.ref s.heap.objs.size))) :
    wpAny (model prog w) A (subscriptTail value slice (.ref a) (.ref s.heap.objs.size)) Q E { s with heap := s.heap.push { cls := .type "slice", data := .fields #[.int 1 t, .none, .none] } } := by
  have hT : IsTup (s.heap.push { cls := .type "slice", data := .fields #[.int 1 t, .none, .none] }) a vs.toArray := ⟨_, Heap.get?_push_of_some _ hl, rfl, _, rfl⟩
  refine tail_any (s := { s with heap := s.heap.push { cls := .type "slice", data := .fields #[.int 1 t, .none, .none] } }) hT.typeIs slot_tuple_getitem.lookup
    (getItem_tuple_from (a := 1) hT (Heap.IsSliceOf.new ..) (Nat.le_refl _) (by rw [List.size_toArray]; exact h1) ?_ (by rw [List.size_toArray, sizeLine_eq]; omega)) hs
  refine h _ _ (fun b o _ e => Heap.get?_push_of_some _ (Heap.get?_push_of_some _ e)) (Heap.get?_push_size _ rfl) fun b o e => ?_
  show b < (s.heap.push _).objs.size
  rw [Heap.size_push]
  exact Nat.lt_succ_of_lt (Heap.lt_size e)

/-! ranges, keys, tuples beside the urn -/
theorem keyVal {π : Addr → Obj → Prop} {ks : List D} {ys : List Value} (K : Keys ks) (r : RepL π ks ys) {j : Nat} (h : j < 5) : ∃ v, ys[j]? = some v ∧ Rep π (kAt ks j) v := r.get (K.at' h).1
theorem size_up {z : Int} (h : 1 ≤ z) : Builtin.Range.rangeSize 1 z 1 = ((z - 1).toNat : Int) := rangeSize_nat 1 z
theorem size_down {z : Int} : Builtin.Range.rangeSize (z - 1) 0 (-1) = ((z - 1).toNat : Int) := by rw [rangeSize_downNat, Int.sub_zero]
theorem small_keys {z : Int} (h : 1 ≤ z) (h' : z < 2000) : Builtin.Range.small (z - 1) 0 (-1) = true := small_down (by omega) (by omega) (by omega) (by omega)
section
variable {prog : Program} {w : World} {A : Around} {E : Value → Shared → Prop} {s : Shared} {g : Heap} {L u c : Addr} {m : Str → Option Value} {B : Int} {cs : List (Addr × Option Value)} {post : List (Addr × Obj)}
theorem sit_range2 {a b : Int} {t t' : Tok} {Q : Value → Shared → Prop} (S : Sit g L m u c B cs post s.heap)
    (k : ∀ h' tk r t₁ u₁ v₁, Sit g L m u c B cs post h' → IsRange h' r a b 1 t₁ u₁ v₁ → Q (.ref r) { s with heap := h', toks := tk }) : wpAny (model prog w) A (call (.type "range") [.int a t, .int b t']) Q E s :=
  range2_rows S.F (news := []) (fun _ h => nomatch h) fun h' tk t₁ u₁ v₁ R _ _ keep => k h' tk _ _ _ _ (S.step0 fun b o _ e => keep b o e) R
theorem sit_range3 {a b c' : Int} {t t' t'' : Tok} {Q : Value → Shared → Prop} (S : Sit g L m u c B cs post s.heap) (hc : c' ≠ 0) (hp : Builtin.divisionGoesByPylong (b - a) c' = false)
    (k : ∀ h' tk r t₁ u₁ v₁, Sit g L m u c B cs post h' → IsRange h' r a b c' t₁ u₁ v₁ → Q (.ref r) { s with heap := h', toks := tk }) : wpAny (model prog w) A (call (.type "range") [.int a t, .int b t', .int c' t'']) Q E s :=
  range3_rows S.F (news := []) (fun _ h => nomatch h) hc (fun h' tk t₁ u₁ v₁ R _ _ keep => k h' tk _ _ _ _ (S.step0 fun b o _ e => keep b o e) R) (Or.inl hp)
theorem sit_iter {r : Addr} {a b c' : Int} {t₁ u₁ v₁ : Tok} {n : Nat} {Q : Value → Shared → Prop} (S : Sit g L m u c B cs post s.heap) (hr : IsRange s.heap r a b c' t₁ u₁ v₁) (hsmall : Builtin.Range.small a b c' = true) (hsz : Builtin.Range.rangeSize a b c' = (n : Int))
    (k : ∀ h' I, Sit g L m u c B cs post h' → IsRangeIter h' I (a + ((0 : Nat) : Int) * c') ((n : Int) - ((0 : Nat) : Int)) c' → Off L u c cs I → (∀ p ∈ post, p.1 ∉ [I]) → Q (.ref I) { s with heap := h' }) : wpAny (model prog w) A (pyIter (.ref r)) Q E s :=
  range_iter hr hsmall hsz fun o it => k _ _ (S.step0 fun b o _ e => Heap.get?_push_of_some _ e) it (S.offNew (Nat.le_refl _)) fun p hp q => Nat.ne_of_lt (Heap.lt_size (S.get' p hp)) (List.mem_singleton.mp q)
theorem sit_tupleN {vs : List Value} {Q : Value → Shared → Prop} (S : Sit g L m u c B cs post s.heap) (k : ∀ h' a, Sit g L m u c B cs ((a, tupO vs 0) :: post) h' → (∀ p ∈ post, p.1 ≠ a) → Q (.ref a) { s with heap := h' })
    (hsz : vs.length ≤ sizeLine) : wpAny (model prog w) A (newTuple vs) Q E s :=
  wpAny_newObj_type (k _ _ (sit_made S rfl) fun p hp => Nat.ne_of_lt (Heap.lt_size (S.get' p hp))) (by show vs.toArray.size ≤ sizeLine; rw [List.size_toArray]; exact hsz)
end
theorem f_sitTupleN {prog : Program} {w : World} {A : Around} {E : Value → Shared → Prop} {g h : Heap} {L u c : Addr} {m : Str → Option Value} {B : Int} {cs : List (Addr × Option Value)} {post : List (Addr × Obj)} {gs : Array GenState} {dr : Drawn} {tk : Nat} {os : OsState} {vs : List Value} {Q : Value → Shared → Prop}
    (S : Sit g L m u c B cs post h) (k : ∀ h' a, Sit g L m u c B cs ((a, tupO vs 0) :: post) h' → (∀ p ∈ post, p.1 ≠ a) → Q (.ref a) ⟨h', gs, dr, tk, os⟩)
    (hsz : vs.length ≤ sizeLine) : wpAny (model prog w) A (newTuple vs) Q E ⟨h, gs, dr, tk, os⟩ := sit_tupleN (s := ⟨h, gs, dr, tk, os⟩) S k hsz
theorem idx_mod {st : Int} (h : 0 ≤ st) (i : Nat) : ((st * (i : Int)).fmod 5).toNat = (st.toNat * i) % 5 ∧ 0 ≤ (st * (i : Int)).fmod 5 ∧ (st * (i : Int)).fmod 5 < 5 := by
  obtain ⟨k, rfl⟩ := Int.eq_ofNat_of_zero_le h
  rw [Int.fmod_eq_emod_of_nonneg _ (by decide), Int.toNat_natCast]
  have e : ((k : Int) * (i : Int)) % 5 = ((k * i % 5 : Nat) : Int) := by push_cast; rfl
  rw [e, Int.toNat_natCast]
  have : k * i % 5 < 5 := Nat.mod_lt _ (by decide)
  omega
theorem loop_names {x y : Str} {a b a' b' : Option Value} {m : Str → Option Value} :
    (fun z => if z = x then a else if z = y then b else if z = x then a' else if z = y then b' else m z) = fun z => if z = x then a else if z = y then b else m z := by
  funext z
  by_cases h : z = x
  · simp [h]
  · by_cases h' : z = y <;> simp [h, h']
theorem rep_three {π : Addr → Obj → Prop} {d0 d1 d2 : D} {v : Value} (r : Rep π (.tup [d0, d1, d2]) v) : ∃ a n v0 v1 v2, v = .ref a ∧ π a (tupO [v0, v1, v2] n) ∧ Rep π d0 v0 ∧ Rep π d1 v1 ∧ Rep π d2 v2 := by
  simp only [Rep] at r
  obtain ⟨a, vs, n, rfl, p, q⟩ := r
  simp only [RepL] at q
  obtain ⟨v0, _, rfl, h0, v1, _, rfl, h1, v2, _, rfl, h2, rfl⟩ := q
  exact ⟨a, n, v0, v1, v2, rfl, p, h0, h1, h2⟩
theorem rep_tup {π : Addr → Obj → Prop} {l : List D} {v : Value} (r : Rep π (.tup l) v) : ∃ a n vs, v = .ref a ∧ π a (tupO vs n) ∧ RepL π l vs := by
  simp only [Rep] at r
  obtain ⟨a, vs, n, rfl, p, q⟩ := r
  exact ⟨a, n, vs, rfl, p, q⟩
theorem repL_cons {π : Addr → Obj → Prop} {d : D} {l : List D} {vs : List Value} (r : RepL π (d :: l) vs) : ∃ v r', vs = v :: r' ∧ Rep π d v ∧ RepL π l r' := by
  simp only [RepL] at r
  exact r
theorem sit_listiter {prog : Program} {w : World} {A : Around} {E : Value → Shared → Prop} {s : Shared} {g : Heap} {L u c l : Addr} {m : Str → Option Value} {B : Int} {cs : List (Addr × Option Value)} {post : List (Addr × Obj)} {vs : List Value} {n : Nat} {Q : Value → Shared → Prop} (S : Sit g L m u c B cs post s.heap) (hm : (l, listOf vs.toArray n) ∈ post)
    (k : ∀ h' I, Sit g L m u c B cs post h' → h'.IsListIter I l 0 → h'.IsList l vs.toArray → l ≠ I → Off L u c cs I → (∀ p ∈ post, p.1 ∉ [I]) → Q (.ref I) { s with heap := h' }) : wpAny (model prog w) A (pyIter (.ref l)) Q E s := by
  have hl := S.get hm
  have hT : s.heap.IsList l vs.toArray := ⟨_, hl, rfl, _, rfl⟩
  exact wpAny_pyIter_list hT (k _ _ (S.step0 fun b o _ e => Heap.get?_push_of_some _ e) ⟨_, Heap.get?_push_size _ rfl, rfl, rfl⟩ (hT.push _) (Nat.ne_of_lt (Heap.lt_size hl)) (S.offNew (Nat.le_refl _)) fun p hp q => Nat.ne_of_lt (Heap.lt_size (S.get' p hp)) (List.mem_singleton.mp q))

local macro_rules | `(tactic| walk_at "sit") => `(tactic| first
  | ((with_reducible show wpAny _ _ (newTuple _) _ _ _); refine' f_sitTupleN ?S ?_ ?z; (case S => assumption); (case z => size_fits); intro h' a' S' ne'; (try dsimp only at S'))
  | with_reducible refine UnaryOp_ ?_
  | (with_reducible refine wpAny_Compare1 ?_ ?hm; (case hm => with_unfolding_all rfl))
  | with_reducible refine f_neg ?_)
/-- the frame of the law behind its urn -/
def LawAt (s : Shared) (L u c : Addr) (m₀ : Str → Option Value) (B : Int) (sz : Option Value) (s' : Shared) : Prop :=
  ∃ h' tk', s' = { s with heap := h', toks := tk' } ∧ Sit s.heap L m₀ u c B [(L + 1 + 1, sz), (L + 1, some (.ref u))] [] h'

/-- … behind the keys -/
def LawSome (s : Shared) (L u c : Addr) (m₀ : Str → Option Value) (z : Int) (tz : Tok) (D : Addr) (post : List (Addr × Obj)) (s' : Shared) : Prop :=
  ∃ h' tk', s' = { s with heap := h', toks := tk' } ∧ Sit s.heap L (fun y => if y = Str.ofString "some" then some (.ref D) else m₀ y) u c 100 [(L + 1 + 1, some (.int z tz)), (L + 1, some (.ref u))] post h'
def LawSomeP (s : Shared) (L u c : Addr) (m₀ : Str → Option Value) (z : Int) (tz : Tok) (s' : Shared) : Prop :=
  ∃ D tl ks ys no, Keys ks ∧ RepL (inL tl) ks ys ∧ LawSome s L u c m₀ z tz D ((D, listOf (List.toArray ys) no) :: tl) s'
/-- … behind the arguments -/
noncomputable def lawM (m₀ : Str → Option Value) (Ds Da : Addr) (st : Int) (tst : Tok) : Str → Option Value :=
  fun y => if y = Str.ofString "args" then some (.ref Da) else if y = Str.ofString "step" then some (.int st tst) else if y = Str.ofString "some" then some (.ref Ds) else m₀ y
def LawArgsP (s : Shared) (L u c : Addr) (m₀ : Str → Option Value) (z : Int) (tz : Tok) (st : Int) (tst : Tok) (Ds : Addr) (post : List (Addr × Obj)) (s' : Shared) : Prop :=
  ∃ (Da : Addr) (tla : List (Addr × Obj)) (es : List D) (ya : List Value) (na : Nat) (h' : Heap) (tk' : Nat), (∀ e ∈ es, ArgOk 3 e) ∧ es.length ≤ 3 ∧ RepL (inL tla) (es.map fun e => D.tup [e, e.told]) ya ∧ s' = { s with heap := h', toks := tk' } ∧
    Sit s.heap L (lawM m₀ Ds Da st tst) u c 1000 [(L + 1 + 1, some (.int z tz)), (L + 1, some (.ref u))] ((Da, listOf (List.toArray ya) na) :: (tla ++ post)) h'
/-- … behind the telling -/
noncomputable def dueM (m₀ : Str → Option Value) (Ds Da : Addr) (st : Int) (tst : Tok) (tv : Value) (msp : Option Value) (ta x : Addr) (md ma : Option Value) : Str → Option Value :=
  fun y => if y = Str.ofString "due" then md else if y = Str.ofString "arg" then ma else if y = Str.ofString "told" then some (.ref ta) else if y = Str.ofString "command" then some (.ref x) else
    if y = Str.ofString "tree" then some tv else if y = Str.ofString "spot" then msp else lawM m₀ Ds Da st tst y
/-- … behind the tree -/
noncomputable def treeM (m₀ : Str → Option Value) (Ds Da : Addr) (st : Int) (tst : Tok) (tv : Value) (msp : Option Value) : Str → Option Value :=
  fun y => if y = Str.ofString "tree" then some tv else if y = Str.ofString "spot" then msp else lawM m₀ Ds Da st tst y
def LawTreeP (s : Shared) (L u c : Addr) (m₀ : Str → Option Value) (z : Int) (tz : Tok) (st : Int) (tst : Tok) (Ds Da : Addr) (ks : List D) (post : List (Addr × Obj)) (s' : Shared) : Prop :=
  ∃ (tv : Value) (msp : Option Value) (post' : List (Addr × Obj)) (h' : Heap) (tk' : Nat), s' = { s with heap := h', toks := tk' } ∧ (∀ p ∈ post, p ∈ post') ∧ Rep (inL post') (spine ks st.toNat (z - 1).toNat) tv ∧
    Sit s.heap L (treeM m₀ Ds Da st tst tv msp) u c 1000 [(L + 1 + 1, some (.int z tz)), (L + 1, some (.ref u))] post' h'
theorem sit_urn {g h₁ h2 h' : Heap} {L u c : Addr} {m : Str → Option Value} {o1 o2 : Obj} (F : Fr g L h₁ m) (n1 : h₁.get? (L + 1 + 1) = some o1) (d1 : o1.data = .cell none) (n2 : h₁.get? (L + 1) = some o2)
    (ext : Ext [] h₁ h2) (U : Urn h2 u c 0) (ou : Over h₁ u) (oc : Over h₁ c) (hv : h'.IsCell (L + 1) (some (.ref u))) (hs : Heap.SameBut (L + 1) h2 h') : Sit g L m u c 0 [(L + 1 + 1, none), (L + 1, some (.ref u))] [] h' := by
  obtain ⟨oL, eL⟩ := ns_at F.ns
  have lu : ∀ b o, h₁.get? b = some o → b < u := ou
  have lc : ∀ b o, h₁.get? b = some o → b < c := oc
  have gn : ∀ a, L ≤ a → g.get? a = none := fun a k => by
    cases e : g.get? a with
    | none => rfl
    | some x => exact absurd (Nat.lt_of_lt_of_le (Heap.lt_size e) F.above) (Nat.not_lt.mpr k)
  have keep : ∀ b o, b ≠ L + 1 → h₁.get? b = some o → h'.get? b = some o := fun b o hb e => hs.extBut b o hb (ext b o (by simp) e)
  have L1 : L ≠ L + 1 := Nat.ne_of_lt (Nat.lt_succ_self _)
  have uL := lu _ _ eL
  have cL := lc _ _ eL
  refine ⟨⟨F.ns.at' fun o e => keep _ o L1 e, fun b o e => keep b o (fun q => ?_) (F.keep b o e), F.above⟩, U.ext fun b o hb e => hs.extBut b o (fun q => ?_) e, (fun _ h => nomatch h), fun q hq => ?_, (fun _ h => nomatch h), fun q hq => ?_, ⟨Nat.ne_of_gt uL, gn u (Nat.le_of_lt uL)⟩, ⟨Nat.ne_of_gt cL, gn c (Nat.le_of_lt cL)⟩⟩
  · rw [q, gn _ (Nat.le_succ _)] at e; cases e
  · rcases hb with hb | hb
    · exact Nat.ne_of_gt (lu _ _ n2) (hb ▸ q)
    · exact Nat.ne_of_gt (lc _ _ n2) (hb ▸ q)
  · simp only [List.mem_cons, List.not_mem_nil, or_false] at hq
    rcases hq with rfl | rfl
    · exact ⟨o1, keep _ _ (Nat.ne_of_gt (Nat.lt_succ_self _)) n1, d1⟩
    · exact hv
  · simp only [List.mem_cons, List.not_mem_nil, or_false] at hq
    rcases hq with rfl | rfl
    · exact ⟨Nat.ne_of_gt (Nat.lt_succ_of_lt (Nat.lt_succ_self _)), Nat.ne_of_lt (lu _ _ n1), Nat.ne_of_lt (lc _ _ n1), gn _ (Nat.le_succ_of_le (Nat.le_succ _))⟩
    · exact ⟨Nat.ne_of_gt (Nat.lt_succ_self _), Nat.ne_of_lt (lu _ _ n2), Nat.ne_of_lt (lc _ _ n2), gn _ (Nat.le_succ _)⟩

set_option maxHeartbeats 8000000 in
theorem law_spec {prog : Program} {w : World} {A : Around} {s : Shared} {a : Addr} {vs : List Value} {xs : List Int} {G : Heap} (gd : Gd w G) (st : G.StaysIn s.heap)
    (hr : A.depth + 40 < recursionLimit) (hun : A.units + 200 < cLine) (hh : A.handled = none) (ha : s.heap.IsList a vs.toArray) (hi : IntsAre vs xs) (hl : xs.length ≤ 63) :
    codeAny (model prog w) A (.call (.ref 118) ⟨[.ref a], []⟩) (Ret s [] fun v _ => v = .bool true) s := by
  refine' enterC (binds := [(Str.ofString "script", .ref a)]) ?gg ?ho ?hcd ?hroom ?hbind ?hkind ?hnd ?_ ?c2 ?c3 ?c4
  (case gg => exact gd.keeps st)
  (case ho => k_is)
  (case hcd => k_is)
  (case hbind => exact BindsTo.of_eq rfl)
  (case hkind => exact rfl)
  (case hnd => decide +kernel)
  (case c2 => exact rfl)
  (case c3 => exact rfl)
  (case c4 => exact rfl)
  (case hroom => omega)
  have rD : ∀ e : Env, (A.deeper e).depth + 38 < recursionLimit := fun _ => by show A.depth + 1 + 38 < recursionLimit; omega
  have rU : ∀ e : Env, (A.deeper e).units + 190 < cLine := fun _ => by show A.units + 3 + 190 < cLine; omega
  generalize hL : s.heap.objs.size = L at *
  intro h₁ tk cells F₀ N₀ Y
  k_cells Y
  rename_i o1 o2 d1 d2
  replace d1 : o1.data = .cell none := d1
  replace d2 : o2.data = .cell none := d2
  obtain ⟨m₀, F₀, hsc⟩ : ∃ m₀, Fr s.heap L h₁ m₀ ∧ m₀ (Str.ofString "script") = some (.ref a) := ⟨_, F₀, rfl⟩
  have n₀ := F₀.ns
  refine cut_stmt (fun s' => ∃ u c, LawAt s L u c m₀ 0 none s') ?_ ?_
  · have stF : G.StaysIn h₁ := fun b o e => F₀.keep b o (st b o e)
    repeat walk_at "go"
    refine call_of (urn_spec gd ?us ?ur hh (ha.at fun o e => F₀.keep _ _ e) hi hl) fun v h2 tk2 ext hp => ?_
    (case us => exact stF)
    (case ur => walk_at "room")
    obtain ⟨u, c, rfl, U, ou, oc⟩ := hp
    repeat walk_at "go"
    have n2 := (N₀ _ (.tail _ (.head _))).1
    refine' wpAny_storeName_cell ?wk ?wx ?wc ⟨o2, ext _ _ (by simp) n2, d2⟩ fun h3 hv hs => ?_
    (case wk => exact rfl)
    (case wx => exact rfl)
    (case wc => exact rfl)
    exact ⟨rfl, u, c, h3, _, rfl, sit_urn F₀ (N₀ _ (.head _)).1 d1 n2 ext U ou oc hv hs⟩
  · rintro s' ⟨u, c, h2, tk2, rfl, S2⟩
    have stG : G.StaysIn s.heap := st
    have hGu : G.get? u = none := by
      cases e : G.get? u with
      | none => rfl
      | some x => have := st _ _ e; rw [S2.uL.2] at this; cases this
    have hGc : G.get? c = none := by
      cases e : G.get? c with
      | none => rfl
      | some x => have := st _ _ e; rw [S2.cL.2] at this; cases this
    clear F₀ N₀ d1 d2 n₀ hsc
    refine cut_stmt (fun s' => ∃ z tz, 3 ≤ z ∧ z ≤ 1010 ∧ LawAt s L u c m₀ 5 (some (.int z tz)) s') ?_ ?_
    · repeat walk_at "sit"
      rename_i da _ _ _ a0 a1 _ db _ _ _ b0 b1 _ dc _ _ _ c0 c1 _ dd _ _ _ dd0 dd1 _ _ aT _ _ di _ h3 _ di0 di1 S3
      clear S2
      have pick : ∀ t1 t2 t3 t4, ∃ z tz, [Value.int (3 + da) t1, Value.int (8 + db) t2, Value.int (90 + dc) t3, Value.int (1001 + dd) t4][di.toNat]? = some (.int z tz) ∧ 3 ≤ z ∧ z ≤ 1010 := by
        intro t1 t2 t3 t4
        have hw : di = 0 ∨ di = 1 ∨ di = 2 ∨ di = 3 := by omega
        rcases hw with rfl | rfl | rfl | rfl <;> exact ⟨_, _, rfl, by omega, by omega⟩
      obtain ⟨z, tz, hz, hz3, hz4⟩ := pick _ _ _ _
      refine item_tup (S3.get (.head _)) di0 (by simp; omega) (by size_fits) hz ?_ (by with_unfolding_all rfl)
      repeat walk_at "sit"
      refine' sit_storeC (cs' := [(L + 1 + 1, some (.int z tz)), (L + 1, some (.ref u))]) S3 (v₀ := none) (ca := L + 1 + 1) ?xc ?xm ?xq (fun h7 S7 => ?_) ?xk ?xx
      (case xc => exact rfl)
      (case xm => k_mem)
      (case xk => exact rfl)
      (case xx => exact rfl)
      (case xq =>
        intro q hq
        simp only [List.mem_cons, List.not_mem_nil, or_false] at hq
        rcases hq with rfl | rfl
        · exact .inl rfl
        · exact .inr ⟨by simp, fun e => by simp at e⟩)
      exact ⟨rfl, z, tz, hz3, hz4, h7, _, rfl, (S7.sub (post' := []) (fun p hp => by simp at hp)).up (by decide)⟩
    · rintro s' ⟨z, tz, hz3, hz4, h3, tk3, rfl, S3⟩
      clear S2
      refine cut_stmt (LawSomeP s L u c m₀ z tz) ?_ ?_
      · walk_at "comp="
        repeat walk_at "sit"
        refine' sit_range ?rS fun h5 tk5 r5 t5 u5 v5 S5 R5 => ?_
        (case rS => exact S3)
        clear S3
        refine range_walk R5 (by decide) (by decide) fun o5 it5 => ?_
        try dsimp only at it5
        refine ⟨_, rfl, ?_⟩
        refine' compAt_urn (K := Kc 2) ?cW ?che ?chst ?chn ?chfp ?cU ?chK (fun _ d => KeyD 2 d) ?cstep ?cfin
        (case cW => exact Walks.range (A := A.deeper _) hh _ 0 1 5)
        (case che => exact rfl)
        (case chst => exact it5)
        (case chn => decide)
        (case chfp => simp)
        (case cU => exact S5.urn)
        (case chK => decide)
        · rintro i v s₃ cm hi5 ⟨tv, rfl⟩ U3 hx3 hnc hcm E'
          have hst := ext_staysG hGu hGc hx3 (S5.stG stG)
          have hCu := S5.cell_ext hx3 (ca := L + 1) (v := some (.ref u)) (by k_mem)
          have hCs := S5.cell_ext hx3 (ca := L + 1 + 1) (v := some (.int z tz)) (by k_mem)
          have hi14 : (i : Int) * Kc 2 ≤ 56 := by show (i : Int) * 14 ≤ 56; omega
          have hi0 : 0 ≤ (i : Int) * Kc 2 := by show 0 ≤ (i : Int) * 14; omega
          have hKc2 : Kc 2 = 14 := rfl
          repeat walk_at "go"
          refine' nm_cell hCs ?_ rfl rfl rfl (by decide)
          repeat walk_at "go"
          refine split_bool (fun hz => ?_) (fun hz => ?_)
          · repeat walk_at "go"
            refine' nm_cell hCu ?_ rfl rfl rfl (by decide)
            repeat walk_at "go"
            refine' call_of (key_spec gd hGu hGc 2 _ _ _ _ hst ?kr ?ku U3 ?kB) ?_
            (case kr => walk_at "room")
            (case ku => walk_at "room")
            (case kB => omega)
            rintro v7 h7 tk7 ext7 ⟨e, tl7, ok7, rep7, fr7, U7⟩
            exact ⟨h7, tk7, _, tl7, rfl, ext7, U7, ok7, rep7, fr7⟩
          · repeat walk_at "go"
            refine' tuple_ext ?tz fun h7 D7 e7 g7 lt7 => ?_
            (case tz => simp [sizeLine_eq])
            exact ⟨h7, _, _, [(D7, _)], rfl, e7.mono (fun _ h => nomatch h), (urn_ext0 U3 e7).mono (by omega), .all, Rep.tupI (π := inL _) (n := 0) (.head _) (.cons .strI .nil), fun p hp => by rw [List.mem_singleton.mp hp]; exact ⟨g7, lt7⟩⟩
        · intro h6 tk6 ys ds tl no ext6 fr6 ne6 rl6 ln6 el6 U6
          try dsimp only at ext6 fr6 ne6 ⊢
          rw [Heap.size_push]
          refine' sit_asg (Q := fun s' => Flow.next = Flow.next ∧ LawSomeP s L u c m₀ z tz s') S5 ext6 fr6 U6 ne6 ?ov6 ?hd6 ?_ ?ak6 ?ax6
          (case ak6 => exact rfl)
          (case ax6 => exact rfl)
          (case ov6 => exact Over.of_le (Nat.le_of_lt (Nat.lt_succ_of_lt (Nat.lt_succ_self _))))
          (case hd6 => exact Nat.lt_succ_of_lt S5.F.ns.lt)
          intro h7 tk7 S7
          refine ⟨rfl, h5.objs.size + 1, tl, ds, ys, no, ⟨ln6, el6⟩, rl6, h7, tk7, rfl, (S7.sub (fun p hp => ?_)).up (by decide)⟩
          rwa [List.append_nil]
      · rintro s' ⟨Ds, tls, ks, ys, no, hks, hrk, S4⟩
        obtain ⟨h4, tk4, rfl, S4⟩ := S4
        clear S3
        repeat walk_at "sit"
        rename_i st0 _ _ tst st1 st2 _ h5 S5
        clear S4
        refine cut_at (LawArgsP s L u c m₀ z tz (1 + st0) tst Ds ((Ds, listOf (List.toArray ys) no) :: tls)) ?_ ?_
        · walk_at "comp="
          repeat walk_at "sit"
          rename_i nd tnd hnd tknd nd0 nd1 Snd
          clear S5
          refine' sit_range ?rA fun h5 tk5 r5 t5 u5 v5 S5 R5 => ?_
          (case rA => exact Snd)
          clear Snd
          refine range_walk R5 (by omega) (by omega) fun o5 it5 => ?_
          try dsimp only at it5
          refine ⟨_, rfl, ?_⟩
          refine' compAt_urn (K := Ka 3) ?dW ?dhe ?dhst ?dhn ?dhfp ?dU ?dhK (fun _ d => ∃ e, d = .tup [e, e.told] ∧ ArgOk 3 e) ?dstep ?dfin
          (case dW => exact Walks.range (A := A.deeper _) hh _ 0 1 (1 + nd).toNat)
          (case dhe => exact rfl)
          (case dhst => exact it5)
          (case dhn => omega)
          (case dhfp => simp)
          (case dU => exact S5.urn)
          (case dhK => decide)
          · rintro i v s₃ cm hi5 ⟨tv, rfl⟩ U3 hx3 hnc hcm E'
            have hst := ext_staysG hGu hGc hx3 (S5.stG stG)
            have hCu := S5.cell_ext hx3 (ca := L + 1) (v := some (.ref u)) (by k_mem)
            have hKa3 : Ka 3 = 184 := rfl
            have hi14 : (i : Int) * Ka 3 ≤ 368 := by rw [hKa3]; omega
            repeat walk_at "go"
            refine' nm_cell hCu ?_ rfl rfl rfl (by decide)
            repeat walk_at "go"
            refine' call_of (arg_spec gd hGu hGc 3 (by decide) _ _ _ _ hst ?ar ?au hh U3 ?aB) ?_
            (case ar => walk_at "room")
            (case au => walk_at "room")
            (case aB => omega)
            rintro v7 h7 tk7 ext7 ⟨e, tl7, ok7, rep7, fr7, U7⟩
            exact ⟨h7, tk7, _, tl7, rfl, ext7, U7, ⟨e, rfl, ok7⟩, rep7, fr7⟩
          · intro h6 tk6 ya ds tla na ext6 fr6 ne6 rl6 ln6 el6 U6
            obtain ⟨es, rfl, hes⟩ := repL_pairs (π := inL tla) el6
            rw [List.length_map] at ln6
            try dsimp only at ext6 fr6 ne6 ⊢
            rw [Heap.size_push]
            refine' sit_asg (Q := fun s' => Flow.next = Flow.next ∧ LawArgsP s L u c m₀ z tz (1 + st0) tst Ds ((Ds, listOf (List.toArray ys) no) :: tls) s') S5 ext6 fr6 U6 ne6 ?ow6 ?hd7 ?_ ?ak7 ?ax7
            (case ak7 => exact rfl)
            (case ax7 => exact rfl)
            (case ow6 => exact Over.of_le (Nat.le_of_lt (Nat.lt_succ_of_lt (Nat.lt_succ_self _))))
            (case hd7 => exact Nat.lt_succ_of_lt S5.F.ns.lt)
            intro h7 tk7 S7
            have hKn : ((1 + nd).toNat : Int) * Ka 3 ≤ 552 := by show ((1 + nd).toNat : Int) * 184 ≤ 552; omega
            exact ⟨rfl, h5.objs.size + 1, tla, es, ya, na, h7, tk7, hes, by omega, rl6, rfl, S7.up (by omega)⟩
        · rintro s' ⟨Da, tla, es, ya, na, h6, tk6, hes, hel, hra, rfl, S6⟩
          clear S5
          have hst0 : 0 ≤ 1 + st0 := by omega
          generalize hS : 1 + st0 = sp at *
          clear st1
          obtain ⟨post6, S6, hmA, hmS, rA, rK⟩ : ∃ post6, Sit s.heap L (lawM m₀ Ds Da sp tst) u c 1000 [(L + 1 + 1, some (.int z tz)), (L + 1, some (.ref u))] post6 h6 ∧ (Da, listOf (List.toArray ya) na) ∈ post6 ∧ (Ds, listOf (List.toArray ys) no) ∈ post6 ∧
              RepL (inL post6) (es.map fun e => D.tup [e, e.told]) ya ∧ RepL (inL post6) ks ys :=
            ⟨_, S6, .head _, .tail _ (List.mem_append_right _ (.head _)), hra.mono (fun _ _ q => .tail _ (List.mem_append_left _ q)) _ _, hrk.mono (fun _ _ q => .tail _ (List.mem_append_right _ (.tail _ q))) _ _⟩
          clear hra hrk
          try dsimp only
          repeat walk_at "sit"
          obtain ⟨v0, hv0, rv0⟩ := keyVal hks rK (j := 0) (by decide)
          have hyl := rK.length
          have hk5 := hks.len
          refine item_at (.inr (S6.get hmS)) (by rw [sizeLine_eq]; omega) (by decide) hv0 ?_ (by with_unfolding_all rfl)
          repeat walk_at "sit"
          rename_i h7 S7
          clear S6
          refine cut_at (LawTreeP s L u c m₀ z tz sp tst Ds Da ks post6) ?_ ?_
          · refine wpAny_For ?_ (fun _ => by with_unfolding_all rfl)
            repeat walk_at "sit"
            refine' sit_range2 ?q1 fun h9 tk9 r9 t9 u9 v9 S9 R9 => ?_
            (case q1 => exact S7)
            refine' sit_iter S9 R9 ?sm (size_up (by omega)) fun h10 I S10 it10 oI nI => ?_
            (case sm => exact small_one (by omega) (by omega) (by omega) (by omega))
            clear S9 S7
            try dsimp only
            refine' for_sit (n := (z - 1).toNat) (Walks.range (A := A.deeper _) hh I 1 1 (z - 1).toNat) (fun _ v m m' => m' = fun y => if y = Str.ofString "spot" then some v else m y) ?hgo ?hasg S10 ?hst ?hfp nI ?hlie
              (fun i m post' => ∃ tv msp, m = treeM m₀ Ds Da sp tst tv msp ∧ Rep (inL post') (spine ks sp.toNat i) tv) ?h0 ?step ?hR
            (case hgo => intro _ _ _ _ _ _ _ hq; exact go_name hq)
            (case hasg => intro _ _ _ _ _ _ _ _ _ _ Sx kx; exact asg_name rfl rfl Sx kx)
            (case hst => exact it10)
            (case hfp => intro b hb; rw [List.mem_singleton.mp hb]; exact oI)
            (case hlie => intro _ _ hx b hb; rw [List.mem_singleton.mp hb]; exact ⟨_, hx⟩)
            (case h0 => exact ⟨v0, lawM m₀ Ds Da sp tst (Str.ofString "spot"), by unfold treeM; funext y; by_cases hy : y = Str.ofString "spot" <;> simp [hy], rv0⟩)
            (case step =>
              rintro i v m m' p9 its s₁ ⟨hs, tks, rfl⟩ hin ⟨tv, rfl⟩ rfl ⟨tr, msp, rfl, rtr⟩ hsub S11 E'
              have hm9 : (Ds, listOf (List.toArray ys) no) ∈ its ++ p9 := List.mem_append_right _ (hsub _ hmS)
              repeat walk_at "sit"
              obtain ⟨ix, ix0, ix1⟩ := idx_mod hst0 (i + 1)
              have e1 : (1 + (i : Int) * 1) = ((i + 1 : Nat) : Int) := by push_cast; omega
              obtain ⟨vk, hvk, rvk⟩ := keyVal hks rK (j := (sp.toNat * (i + 1)) % 5) (Nat.mod_lt _ (by decide))
              rw [e1]
              refine item_at (.inr (S11.get hm9)) (by rw [sizeLine_eq]; omega) ix0 (by rw [ix]; exact hvk) ?_ (by with_unfolding_all rfl)
              repeat walk_at "sit"
              rename_i h12 a12 S12 n12 h13 S13
              refine ⟨h13, _, _, [(a12, _)], rfl, S13, ⟨.ref a12, _, loop_names, Rep.tupI (π := inL _) (n := 0) (.head _) (.cons .strI (.cons (rtr.mono (fun _ _ q => .tail _ q) _ _) (.cons (rvk.mono (fun _ _ q => .tail _ (hsub _ q)) _ _) .nil)))⟩, fun p hp q hq => ?_⟩
              rw [List.mem_singleton.mp hp]
              exact (n12 q (List.mem_append_left _ hq)).symm)
            (case hR =>
              rintro h11 tk11 m11 p11 S11 hsub ⟨tr, msp, rfl, rtr⟩
              exact ⟨rfl, tr, msp, p11, h11, tk11, rfl, hsub, rtr, S11⟩)
          · rintro s' ⟨tv, msp, p7, h8, tk8, rfl, hsub, rT, S8⟩
            clear S7
            have hmA7 := hsub _ hmA
            have hmS7 := hsub _ hmS
            have rA7 := rA.mono (π' := inL p7) (fun _ _ q => hsub _ q) _ _
            have rK7 := rK.mono (π' := inL p7) (fun _ _ q => hsub _ q) _ _
            have hyal : ya.length = es.length := by have := rA.length; rwa [List.length_map] at this
            clear rA rK rv0 hv0 hmA hmS hsub
            try dsimp only
            repeat walk_at "sit"
            rename_i hB aB SB
            clear S8
            walk_at "comp"
            repeat walk_at "sit"
            refine' seq_iter (vs := ya) (n := na) ?si1 hh fun oG StG WG stG => ?_
            (case si1 => exact .inr (SB.get (.tail _ hmA7)))
            try dsimp only at WG stG ⊢
            refine ⟨_, rfl, ?_⟩
            refine' compAt_read ?eW ?ehe ?ehst ?ehn ?ehfp (fun i zs => RepL (inL p7) (es.take i) zs) ?eh0 ?estep ?efin
            (case eW => exact WG)
            (case ehe => exact rfl)
            (case ehst => exact stG)
            (case ehn => omega)
            (case ehfp =>
              intro b hb
              rcases List.mem_cons.mp hb with rfl | hb
              · exact .inl rfl
              · rw [List.mem_singleton.mp hb]; exact .inr (Heap.lt_size (SB.get (.tail _ hmA7))))
            (case eh0 => exact .nil)
            · rintro i v zs s₃ cm hi hv hI hx3 hnc hcm E'
              obtain ⟨e, a, nn, w0, w1, he, rfl, pa, r0, r1⟩ := pair_get rA7 hv
              repeat walk_at "go"
              refine' item_tup (hx3 _ _ (by simp) (SB.get (.tail _ pa))) (by decide) (by simp) (by simp [sizeLine_eq]) (v := w0) rfl ?_ (by with_unfolding_all rfl)
              refine ⟨_, _, rfl, Ext.refl _ _, ?_⟩
              rw [take_snoc he]
              exact hI.append (.one r0)
            · intro h8 tk8 rows no8 ext8 fr8 hI8
              rw [List.take_of_length_le (by omega)] at hI8
              have S9 := SB.step ext8 fr8
              rw [Heap.size_push]
              generalize hB.objs.size + 1 = Dr at S9 ⊢
              clear SB ext8 fr8 stG WG
              repeat walk_at "sit"
              have hrl : rows.length = es.length := hI8.length
              refine' sit_addL (l := aB) (vs := [tv]) (n1 := 0) (b := Dr) (ws := rows) (n2 := no8) S9 (by simp) (.head _) (by simp; omega) fun h10 Dq S10 => ?_
              clear S9
              repeat walk_at "sit"
              refine' make_cmd gd ?mst ?mr (S10.get (.head _)) ?ml fun h11 x dx tk11 aa tlc c1 c2 c3 c4 c5 c6 nd ext11 fr11 mx mdx maa => ?_
              (case mst => exact S10.stG stG)
              (case mr => walk_at "room")
              (case ml => simp; omega)
              have S11 := S10.step ext11 fr11
              have rC : Rep (inL (tlc ++ ((Dq, listOf ([tv] ++ rows).toArray 0) :: ([(Dr, listOf rows.toArray no8)] ++ (aB, listOf #[tv] 0) :: p7)))) (.tup (spine ks sp.toNat (z - 1).toNat :: es)) (.ref aa) :=
                Rep.tupI (π := inL _) (n := 0) (List.mem_append_left _ maa) (.cons (rT.mono (fun _ _ q => List.mem_append_right _ (.tail _ (.tail _ (.tail _ q)))) _ _) (hI8.mono (fun _ _ q => List.mem_append_right _ (.tail _ (.tail _ (.tail _ q)))) _ _))
              have hm7 : ∀ p ∈ p7, p ∈ tlc ++ ((Dq, listOf ([tv] ++ rows).toArray 0) :: ([(Dr, listOf rows.toArray no8)] ++ (aB, listOf #[tv] 0) :: p7)) := fun p hp => List.mem_append_right _ (.tail _ (.tail _ (.tail _ hp)))
              have mx' := List.mem_append_left ((Dq, listOf ([tv] ++ rows).toArray 0) :: ([(Dr, listOf rows.toArray no8)] ++ (aB, listOf #[tv] 0) :: p7)) mx
              have mdx' := List.mem_append_left ((Dq, listOf ([tv] ++ rows).toArray 0) :: ([(Dr, listOf rows.toArray no8)] ++ (aB, listOf #[tv] 0) :: p7)) mdx
              generalize (tlc ++ ((Dq, listOf ([tv] ++ rows).toArray 0) :: ([(Dr, listOf rows.toArray no8)] ++ (aB, listOf #[tv] 0) :: p7))) = p11 at S11 rC hm7 mx' mdx'
              clear S10 ext11 fr11 mx mdx maa hI8
              have hmA11 := hm7 _ hmA7
              have hmS11 := hm7 _ hmS7
              have rA11 := rA7.mono (π' := inL p11) (fun _ _ q => hm7 _ q) _ _
              have rK11 := rK7.mono (π' := inL p11) (fun _ _ q => hm7 _ q) _ _
              clear hm7 hmA7 hmS7 rA7 rK7 rT
              try dsimp only
              repeat walk_at "sit"
              rename_i h12 S12
              clear S11
              have gds := gd.keeps st
              have I12 := inst_at (S12.get mx') (S12.get mdx')
              refine' method_inst S12.F gds.X I12 ?k4 ?k5 ?k6 ?k7 ?_
              (case k4 => k_is)
              (case k5 => k_is)
              (case k6 => k_is)
              (case k7 => exact rfl)
              try dsimp only
              refine' callWith_K0 ?cx ?ck ?_
              (case cx => exact gds.X.keeps S12.F.keep)
              (case ck => k_is)
              have htb := args_tb hes (spine_tb hks sp.toNat (z - 1).toNat) (Nat.le_trans (spine_sp hks sp.toNat (z - 1).toNat) (by omega)) hel
              refine' call_of (cmd_told_spec (n := 7) (Off L u c [(L + 1 + 1, some (.int z tz)), (L + 1, some (.ref u))]) gd ?ts ?tr ?tu hh (S12.get mx') (S12.get mdx') (S12.inOff rC) htb.1 htb.2) ?_
              (case ts => exact S12.stG stG)
              (case tr => walk_at "room")
              (case tu => walk_at "room")
              intro vt h13 tk13 ext13 hvt
              obtain ⟨tlt, S13, rTold⟩ := S12.join ext13 hvt
              rw [toldL_map, List.map_cons, spine_told hks] at rTold
              have hmA13 : (Da, listOf (List.toArray ya) na) ∈ tlt ++ p11 := List.mem_append_right _ hmA11
              have hmS13 : (Ds, listOf (List.toArray ys) no) ∈ tlt ++ p11 := List.mem_append_right _ hmS11
              have rA13 := rA11.mono (π' := inL (tlt ++ p11)) (fun _ _ q => List.mem_append_right _ q) _ _
              have rK13 := rK11.mono (π' := inL (tlt ++ p11)) (fun _ _ q => List.mem_append_right _ q) _ _
              replace rTold := rTold.mono (π' := inL (tlt ++ p11)) (fun _ _ q => List.mem_append_left _ q) _ _
              generalize tlt ++ p11 = p13 at S13 hmA13 hmS13 rA13 rK13 rTold
              clear S12 I12 gds hvt ext13 hmA11 hmS11 rA11 rK11 rC mx' mdx' htb
              obtain ⟨ta, tn, w0, w1, w2, rfl, pT, rw0, rw1, rw2⟩ := rep_three rTold
              obtain ⟨ua, un, uvs, rfl, pU, rU⟩ := rep_tup rw2
              obtain ⟨hv, dvs, rfl, rhere, rdues⟩ := repL_cons rU
              have hdl : dvs.length = es.length := by have := rdues.length; rwa [List.length_map] at this
              clear rw2 rU rTold
              repeat walk_at "sit"
              rename_i h14 S14
              clear S13
              refine wpAny_Slice ?_
              simp only [evalPart_none, evalPart_some]
              refine wpAny_pure ?_
              repeat walk_at "sit"
              refine wpAny_pure ?_
              try dsimp only
              refine' slice_first2 (s := { s with heap := h14, toks := _ }) (S14.get pT) (fun h15 l15 e15 g15 o15 => ?_) ?sl1 ?sl2
              (case sl1 => with_unfolding_all rfl)
              (case sl2 => intro _; with_unfolding_all rfl)
              have S15 := S14.step (tl := [(l15, tupO [w0, w1] 0)]) e15 (fun p hp => by rw [List.mem_singleton.mp hp]; exact ⟨g15, o15⟩)
              clear S14 e15 g15 o15
              try dsimp only
              repeat walk_at "sit"
              rename_i h16 a16 S16 n16
              clear S15
              refine' rep_ne (l := [D.str (Str.ofString "a1"), D.str (Str.ofString "SEARCH")]) rfl ?un1 ?re1 ?re2 ?_
              (case un1 => simp only [D.depL, D.dep]; walk_at "room")
              (case re1 => exact Rep.tupI (π := lies _) (n := 0) (S16.get (.tail _ (.head _))) (.cons (S16.lies (rw0.mono (fun _ _ q => .tail _ (.tail _ q)) _ _)) (.cons (S16.lies (rw1.mono (fun _ _ q => .tail _ (.tail _ q)) _ _)) .nil)))
              (case re2 => exact Rep.tupI (π := lies _) (n := 0) (S16.get (.head _)) (.cons .strI (.cons .strI .nil)))
              have S17 := S16.sub (post' := p13) (fun p hp => .tail _ (.tail _ hp))
              clear S16 n16
              repeat walk_at "sit"
              refine item_tup (S17.get pT) (by decide) (by simp) (by simp [sizeLine_eq]) (v := .ref ua) rfl ?_ (by with_unfolding_all rfl)
              repeat walk_at "sit"
              refine wpAny_Slice ?_
              simp only [evalPart_none, evalPart_some]
              repeat walk_at "sit"
              refine wpAny_pure ?_
              refine wpAny_pure ?_
              try dsimp only
              refine' slice_rest (s := { s with heap := h16, toks := _ }) (S17.get pU) ?sq1 ?sq2 (fun h18 l18 e18 g18 o18 => ?_) ?sq3
              (case sq1 => simp)
              (case sq2 => simp; omega)
              (case sq3 => with_unfolding_all rfl)
              have S18 := S17.step (tl := [(l18, tupO dvs 0)]) e18 (fun p hp => by rw [List.mem_singleton.mp hp]; exact ⟨g18, o18⟩)
              clear S17 e18 g18 o18
              try dsimp only
              repeat walk_at "sit"
              walk_at "comp"
              repeat walk_at "sit"
              refine' seq_iter (vs := ya) (n := na) ?sj1 hh fun oH StH WH stH => ?_
              (case sj1 => exact .inr (S18.get (.tail _ hmA13)))
              try dsimp only at WH stH ⊢
              refine ⟨_, rfl, ?_⟩
              refine' compAt_read ?fW ?fhe ?fhst ?fhn ?fhfp (fun i zs => RepL (inL p13) ((es.take i).map D.told) zs) ?fh0 ?fstep ?ffin
              (case fW => exact WH)
              (case fhe => exact rfl)
              (case fhst => exact stH)
              (case fhn => omega)
              (case fhfp =>
                intro b hb
                rcases List.mem_cons.mp hb with rfl | hb
                · exact .inl rfl
                · rw [List.mem_singleton.mp hb]; exact .inr (Heap.lt_size (S18.get (.tail _ hmA13))))
              (case fh0 => exact .nil)
              · rintro i v zs s₃ cm hi hv3 hI hx3 hnc hcm E'
                obtain ⟨e, a, nn, x0, x1, he, rfl, pa, r0, r1⟩ := pair_get rA13 hv3
                repeat walk_at "go"
                refine' item_tup (hx3 _ _ (by simp) (S18.get (.tail _ pa))) (by decide) (by simp) (by simp [sizeLine_eq]) (v := x1) rfl ?_ (by with_unfolding_all rfl)
                refine ⟨_, _, rfl, Ext.refl _ _, ?_⟩
                rw [take_snoc he, List.map_append]
                exact hI.append (.one r1)
              · intro h19 tk19 dues no19 ext19 fr19 hI19
                rw [List.take_of_length_le (by omega)] at hI19
                have S19 := S18.step ext19 fr19
                rw [Heap.size_push]
                generalize h18.objs.size + 1 = De at S19 ⊢
                clear S18 ext19 fr19 stH WH
                have hdul : dues.length = es.length := by have := hI19.length; rwa [List.length_map] at this
                repeat walk_at "sit"
                refine' sit_tupleOf (vs := dues) (n := no19) S19 (.head _) (by omega) fun h20 Dt S20 => ?_
                clear S19
                repeat walk_at "sit"
                have hflat := all_argok hes
                rw [toldL_map] at hflat
                refine' rep_ne (l := es.map D.told) hflat.1 ?un2 ?rf1 ?rf2 ?_
                (case un2 => have := hflat.2; walk_at "room")
                (case rf1 => exact S20.lies (Rep.tupI (π := inL _) (n := 0) (.tail _ (.tail _ (.head _))) (rdues.mono (fun _ _ q => .tail _ (.tail _ (.tail _ q))) _ _)))
                (case rf2 => exact S20.lies (Rep.tupI (π := inL _) (n := 0) (.head _) (hI19.mono (fun _ _ q => .tail _ (.tail _ (.tail _ q))) _ _)))
                have S21 := S20.sub (post' := p13) (fun p hp => .tail _ (.tail _ (.tail _ hp)))
                clear S20 hI19 rdues
                repeat walk_at "sit"
                refine len_tuple (items := [w0, w1, .ref ua].toArray) ⟨_, S21.get pT, rfl, _, rfl⟩ (by show ((3 : Nat) : Int) < 2 ^ 63; decide) ?_
                repeat walk_at "sit"
                refine split_bool (fun hq => absurd hq (by simp)) (fun hq => ?_)
                clear hq
                repeat walk_at "sit"
                generalize hM : (fun y => if y = Str.ofString "told" then some (Value.ref ta) else if y = Str.ofString "command" then some (Value.ref x) else treeM m₀ Ds Da sp tst tv msp y) = M at S21
                have hMa : M (Str.ofString "args") = some (.ref Da) := by rw [← hM]; rfl
                refine cut_at (fun s' => ∃ md ma h' tk', s' = { s with heap := h', toks := tk' } ∧ Sit s.heap L (fun y => if y = Str.ofString "due" then md else if y = Str.ofString "arg" then ma else M y) u c 1000 [(L + 1 + 1, some (.int z tz)), (L + 1, some (.ref u))] p13 h') ?_ ?_
                · refine wpAny_For ?_ (fun _ => by with_unfolding_all rfl)
                  refine' nm_loc (Fr.ns (Sit.F S21)) hMa ?_ rfl rfl (by decide)
                  refine' sit_listiter S21 hmA13 fun h22 I S22 it22 il22 neI oI nI => ?_
                  clear S21
                  try dsimp only
                  refine' for_sit (n := ya.toArray.size) (Walks.list (A := A.deeper _) hh I Da neI ya.toArray)
                    (fun _ v m m' => ∃ e v0 v1, e ∈ es ∧ Rep (inL p13) e v0 ∧ Rep (inL p13) e.told v1 ∧ m' = fun zz => if zz = Str.ofString "due" then some v1 else if zz = Str.ofString "arg" then some v0 else m zz) ?ggo ?gasg S22 ?gst ?gfp nI ?glie
                    (fun i m post' => ∃ md ma, m = fun y => if y = Str.ofString "due" then md else if y = Str.ofString "arg" then ma else M y) ?g0 ?gstep ?gR
                  (case ggo =>
                    intro i v s₁ Q' E' hv hSt hq
                    obtain ⟨e, a, nn, x0, x1, he, rfl, pa, r0, r1⟩ := pair_get rA13 (by simpa using hv)
                    exact wpAny_letOwnedTupleGo_listiter hSt.1 hq)
                  (case gasg =>
                    intro i v m post' s₁ Q' E' hi hv hsub Sx kx
                    obtain ⟨e, a, nn, x0, x1, he, rfl, pa, r0, r1⟩ := pair_get rA13 (by simpa using hv)
                    exact asg_pair hh rfl rfl rfl Sx (hsub _ pa) fun h' tk' m' em Sy => kx h' tk' m' ⟨e, x0, x1, List.mem_of_getElem? he, r0, r1, em⟩ Sy)
                  (case gst => exact ⟨it22, il22⟩)
                  (case gfp =>
                    intro b hb
                    rcases List.mem_cons.mp hb with rfl | hb
                    · exact oI
                    · rw [List.mem_singleton.mp hb]; exact S22.lo _ hmA13)
                  (case glie =>
                    intro i h hx b hb
                    rcases List.mem_cons.mp hb with rfl | hb
                    · exact ⟨_, hx.1.choose_spec.1⟩
                    · rw [List.mem_singleton.mp hb]; exact ⟨_, hx.2.choose_spec.1⟩)
                  (case g0 => exact ⟨M (Str.ofString "due"), M (Str.ofString "arg"), by
                    funext y
                    split
                    · next h1 => rw [h1]
                    · split
                      · next h2 => rw [h2]
                      · rfl⟩)
                  (case gstep =>
                    rintro i v m m' p9 its s₁ ⟨hs, tks, rfl⟩ hin hv ⟨e, x0, x1, hee, r0, r1, rfl⟩ ⟨md, ma, rfl⟩ hsub S23 E'
                    repeat walk_at "sit"
                    have hok := hes e hee
                    refine' call_of (told_spec 3 _ _ e x0 (Off L u c [(L + 1 + 1, some (.int z tz)), (L + 1, some (.ref u))]) ?hg3 ?hr3 ?hu3 hh hok.tb ?hs3 (S23.inOff (r0.mono (fun _ _ q => List.mem_append_right _ (hsub _ q)) _ _))) ?_
                    (case hg3 => exact gd.keeps (S23.stG stG))
                    (case hr3 => walk_at "room")
                    (case hu3 => walk_at "room")
                    (case hs3 => have := hok.sp; omega)
                    intro v24 h24 tk24 ext24 hv24
                    obtain ⟨tl24, S24, rV⟩ := S23.join ext24 hv24
                    clear S23 ext24 hv24
                    repeat walk_at "sit"
                    refine' rep_neD hok.flat ?hu4 (S24.lies (rV.mono (fun _ _ q => List.mem_append_left _ q) _ _)) (S24.lies (r1.mono (fun _ _ q => List.mem_append_right _ (List.mem_append_right _ (hsub _ q))) _ _)) ?_
                    (case hu4 => have := hok.dep; walk_at "room")
                    repeat walk_at "sit"
                    exact ⟨h24, _, _, [], rfl, S24.sub (fun p hp => List.mem_append_right _ hp), ⟨some x1, some x0, loop_names⟩, fun _ h => nomatch h⟩)
                  (case gR =>
                    rintro h23 tk23 m23 p23 S23 hsub ⟨md, ma, rfl⟩
                    exact ⟨rfl, md, ma, h23, tk23, rfl, S23.sub hsub⟩)
                · rintro s' ⟨md, ma, h23, tk23, rfl, S23⟩
                  clear S21
                  try dsimp only
                  subst hM
                  repeat walk_at "sit"
                  refine item_tup (S23.get pT) (by decide) (by simp) (by simp [sizeLine_eq]) (v := .ref ua) rfl ?_ (by with_unfolding_all rfl)
                  repeat walk_at "sit"
                  refine item_tup (S23.get pU) (by decide) (by simp) (by simp [sizeLine_eq]; omega) (v := hv) rfl ?_ (by with_unfolding_all rfl)
                  repeat walk_at "sit"
                  rename_i h25 S25
                  clear S23
                  have S26 : Sit s.heap L (fun y => if y = Str.ofString "here" then some hv else dueM m₀ Ds Da sp tst tv msp ta x md ma y) u c 1000 [(L + 1 + 1, some (.int z tz)), (L + 1, some (.ref u))] p13 h25 := S25
                  clear S25
                  refine cut_at (fun s' => ∃ hvj msp' h' tk', s' = { s with heap := h', toks := tk' } ∧ Rep (inL p13) (kAt ks 0) hvj ∧
                    Sit s.heap L (fun y => if y = Str.ofString "here" then some hvj else if y = Str.ofString "spot" then msp' else dueM m₀ Ds Da sp tst tv msp ta x md ma y) u c 1000 [(L + 1 + 1, some (.int z tz)), (L + 1, some (.ref u))] p13 h') ?_ ?_
                  · refine wpAny_For ?_ (fun _ => by with_unfolding_all rfl)
                    repeat walk_at "sit"
                    refine' sit_range3 ?q3 (by decide) ?q4 fun h27 tk27 r27 t27 u27 v27 S27 R27 => ?_
                    (case q3 => exact S26)
                    (case q4 => exact PyProof.noPylong_small (by decide))
                    refine' sit_iter S27 R27 (small_keys (by omega) (by omega)) size_down fun h28 I S28 it28 oI nI => ?_
                    clear S27 S26
                    try dsimp only
                    refine' for_sit (n := (z - 1).toNat) (Walks.range (A := A.deeper _) hh I (z - 1) (-1) (z - 1).toNat) (fun _ v m m' => m' = fun y => if y = Str.ofString "spot" then some v else m y) ?lgo ?lasg S28 ?lst ?lfp nI ?llie
                      (fun i m post' => ∃ hvj msp', m = (fun y => if y = Str.ofString "here" then some hvj else if y = Str.ofString "spot" then msp' else dueM m₀ Ds Da sp tst tv msp ta x md ma y) ∧ Rep (inL p13) (spine ks sp.toNat ((z - 1).toNat - i)) hvj) ?l0 ?lstep ?lR
                    (case lgo => intro _ _ _ _ _ _ _ hq; exact go_name hq)
                    (case lasg => intro _ _ _ _ _ _ _ _ _ _ Sx kx; exact asg_name rfl rfl Sx kx)
                    (case lst => exact it28)
                    (case lfp => intro b hb; rw [List.mem_singleton.mp hb]; exact oI)
                    (case llie => intro _ _ hx b hb; rw [List.mem_singleton.mp hb]; exact ⟨_, hx⟩)
                    (case l0 =>
                      refine ⟨hv, dueM m₀ Ds Da sp tst tv msp ta x md ma (Str.ofString "spot"), ?_, rhere⟩
                      funext y
                      split
                      · rfl
                      · split
                        · next h => rw [h]
                        · rfl)
                    (case lstep =>
                      rintro i v m m' p9 its s₁ ⟨hs, tks, rfl⟩ hin ⟨tw, rfl⟩ rfl ⟨hvj, msp', rfl, rj⟩ hsub S29 E'
                      obtain ⟨j, hj⟩ : ∃ j, (z - 1).toNat - i = j + 1 := ⟨(z - 1).toNat - i - 1, by omega⟩
                      have hj' : (z - 1).toNat - (i + 1) = j := by omega
                      have hsp : (z - 1) + (i : Int) * (-1) = ((j + 1 : Nat) : Int) := by omega
                      rw [hsp] at S29
                      rw [hj] at rj
                      obtain ⟨ja, jn, y0, y1, y2, rfl, pJ, ry0, ry1, ry2⟩ := rep_three rj
                      have pJ' : (ja, tupO [y0, y1, y2] jn) ∈ its ++ p9 := List.mem_append_right _ (hsub _ pJ)
                      repeat walk_at "sit"
                      refine len_tuple (items := [y0, y1, y2].toArray) ⟨_, S29.get pJ', rfl, _, rfl⟩ (by show ((3 : Nat) : Int) < 2 ^ 63; decide) ?_
                      repeat walk_at "sit"
                      refine split_bool (fun hq => absurd hq (by simp)) (fun hq => ?_)
                      clear hq
                      repeat walk_at "sit"
                      refine item_tup (S29.get pJ') (by decide) (by simp) (by simp [sizeLine_eq]) (v := y0) rfl ?_ (by with_unfolding_all rfl)
                      repeat walk_at "sit"
                      refine' rep_neD (d := .str (Str.ofString "and")) rfl ?ud1 (S29.lies (ry0.mono (fun _ _ q => List.mem_append_right _ (hsub _ q)) _ _)) .strI ?_
                      (case ud1 => simp only [D.dep]; walk_at "room")
                      repeat walk_at "sit"
                      refine item_tup (S29.get pJ') (by decide) (by simp) (by simp [sizeLine_eq]) (v := y2) rfl ?_ (by with_unfolding_all rfl)
                      repeat walk_at "sit"
                      obtain ⟨ix, ix0, ix1⟩ := idx_mod hst0 (j + 1)
                      obtain ⟨vk, hvk, rvk⟩ := keyVal hks rK13 (j := (sp.toNat * (j + 1)) % 5) (Nat.mod_lt _ (by decide))
                      have kp := plain_told 5 _ (hks.at' (j := (sp.toNat * (j + 1)) % 5) (Nat.mod_lt _ (by decide))).2.plain
                      refine item_at (.inr (S29.get (List.mem_append_right _ (hsub _ hmS13)))) (by rw [sizeLine_eq]; omega) ix0 (by rw [ix]; exact hvk) ?_ (by with_unfolding_all rfl)
                      repeat walk_at "sit"
                      refine' rep_neD kp.2.1 ?ud2 (S29.lies (ry2.mono (fun _ _ q => List.mem_append_right _ (hsub _ q)) _ _)) (S29.lies (rvk.mono (fun _ _ q => List.mem_append_right _ (hsub _ q)) _ _)) ?_
                      (case ud2 => have := kp.2.2; walk_at "room")
                      repeat walk_at "sit"
                      refine item_tup (S29.get pJ') (by decide) (by simp) (by simp [sizeLine_eq]) (v := y1) rfl ?_ (by with_unfolding_all rfl)
                      repeat walk_at "sit"
                      rename_i h31 S31
                      exact ⟨h31, _, _, [], rfl, S31, ⟨y1, _, loop_names, by rw [hj']; exact ry1⟩, fun _ h => nomatch h⟩)
                    (case lR =>
                      rintro h30 tk30 m30 p30 S30 hsub ⟨hvj, msp', rfl, rj⟩
                      rw [Nat.sub_self] at rj
                      exact ⟨rfl, hvj, msp', h30, tk30, rfl, rj, S30.sub hsub⟩)
                  · rintro s' ⟨hvj, msp', h30, tk30, rfl, rj, S30⟩
                    clear S26
                    try dsimp only
                    repeat walk_at "sit"
                    obtain ⟨vk, hvk, rvk⟩ := keyVal hks rK13 (j := 0) (by decide)
                    refine item_at (.inr (S30.get hmS13)) (by rw [sizeLine_eq]; omega) (by decide) hvk ?_ (by with_unfolding_all rfl)
                    repeat walk_at "sit"
                    have kp := plain_told 5 _ (hks.at' (j := 0) (by decide)).2.plain
                    obtain ⟨kl, hkl⟩ := (hks.at' (j := 0) (by decide)).2.tupForm
                    rw [hkl] at rj rvk kp
                    simp only [D.flat, D.dep] at kp
                    refine' rep_eq kp.2.1 ?ud3 (S30.lies rj) (S30.lies rvk) ?_
                    (case ud3 => have := kp.2.2; walk_at "room")
                    repeat walk_at "sit"
                    try dsimp only
                    exact ⟨_, _, _, rfl, rfl, fun b o _ e => S30.F.keep b o e, rfl⟩

end Mine
set_option maxHeartbeats 8000000 in
theorem PySem.Challenge.cw_sa0546_01_holds : PySem.Challenge.rw_sa0546_01.Holds := by
  exact Mine.hd (by
    k_fill
    intro w s₀ s₁ mg mb G Y fa o pm cd doc dV kV ho hdd hcd hD hmg hg args vals as hpre hlay hrd hwl hlo
    have KX := kIn_of Y
    clear Y
    refine Ground.open G ?_
    intro T B D TE TW
    have gd : Mine.Gd w s₁.heap := ⟨KX, _, _, _, _, topRead_of T⟩
    have e118 : mg (PySem.Str.ofString "law") = some (.ref 118) := mg_of KX T.g (by k_is)
    have hfa : fa = 118 := Value.ref.inj (Option.some.inj (hmg.symm.trans e118))
    subst hfa
    clear ho hdd hcd hD hmg B D TE TW T KX e118 G
    wrow_args hpre hlay hrd hwl hlo
    rename_i hL _ _ _ hI _ hlen _
    refine enter_call ?_
    refine codeAny_mono (Mine.law_spec gd (fun _ _ e => e) ?r1 ?r2 ?r3 hL hI ?r4) fun r s' hr => ?_
    (case r1 => decide +kernel)
    (case r2 => decide +kernel)
    (case r3 => exact rfl)
    (case r4 => omega)
    obtain ⟨v, h', tk', rfl, rfl, ext, rfl⟩ := hr
    refine GoodW.toG ⟨.inl ⟨.bool true, .bool true, [], rfl, raisesW_false ?n1, .bool true, ?n2, unshared_nil⟩, fun b o e => ext b o (by simp) e, rfl, hg⟩
    (case n1 => wrow_none_raised)
    (case n2 => wrow_post))
