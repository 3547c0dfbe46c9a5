import PyProof.Rows.All
import Wide.All
import OpenK.AllK
import Wide.FinOn
import PySem.Challenge.RW_on0227_01
open PySem PySem.W PySem.Spec PySem.Calls PyProof.Rows
set_option Elab.async false
set_option compiler.extract_closed false
set_option maxRecDepth 100000
set_option linter.unusedVariables false
local macro_rules | `(tactic| walk_at "call ref") => `(tactic| walk_at "MINE call ref")
local macro_rules | `(tactic| walk_at "subscriptTail") => `(tactic| walk_at "MINE subscriptTail")
local macro_rules | `(tactic| walk_at "ite") => `(tactic| walk_at "MINE ite")
local macro_rules | `(tactic| walk_at "binaryOp FloorDiv int int") => `(tactic| walk_at "MINE binaryOp FloorDiv int int")
local macro_rules | `(tactic| walk_at "binaryOp Mod int int") => `(tactic| walk_at "MINE binaryOp Mod int int")
local macro_rules | `(tactic| walk_at "call builtin:len") => `(tactic| walk_at "MINE call builtin:len")
local macro_rules | `(tactic| walk_at "setItem ref str") => `(tactic| walk_at "MINE setItem ref str")
local macro_rules | `(tactic| walk_at "call builtin:sorted") => `(tactic| walk_at "MINE call builtin:sorted")
local macro_rules | `(tactic| walk_at "callWith ref") => `(tactic| walk_at "MINE callWith ref")
local macro_rules | `(tactic| walk_at "pyIter ref") => `(tactic| walk_at "MINE pyIter ref")
local macro_rules | `(tactic| walk_at "exec Raise some none") => `(tactic| walk_at "MINE exec Raise some none")
local macro_rules | `(tactic| walk_at "setAttr ref") => `(tactic| walk_at "MINE setAttr ref")
local macro_rules | `(tactic| walk_at "leaving ref") => `(tactic| walk_at "MINE leaving ref")
local macro_rules | `(tactic| walk_at "binaryOp Add str str") => `(tactic| walk_at "MINE binaryOp Add str str")

namespace Mine
set_option maxHeartbeats 8000000 in
open_top hd0227 for PySem.Challenge.rw_on0227_01
local macro_rules | `(tactic| k_room) => `(tactic| ktr_room)
local macro_rules | `(tactic| k_units) => `(tactic| ((try dsimp only [ktrTop]); (try simp only [units_in1, units_deeper, Around.mark_units, units_caller]); (have hcL9 := cLine_is); omega))

section
section
variable {prog : Program} {w : World} {A A₀ : Around} {s : Shared} {K : Frag} {L : Addr} {h₀ base : Heap} {m mg mb : Str → Option Value} {vis hid : List (Addr × Obj)} {p : Program} {loose : List Str} {mean : ExcName → Option Value}

/-- A def is entered: of the caller's ledger the part `vis` stays in sight, the part `hid` is kept as it stands. -/
theorem enter {env : Env} {outer : List Env} {R : Result → Shared → Prop} {name qual : Str} {params : Arguments} {body : List Stmt} {scope : Scope} {dV kV doc pm cdv ct oc : Value} {an od : Option Addr} {osl : Array (Option Value)} {f : Addr} {args : Args} {binds : List (Str × Value)}
    (B : Below A₀ base outer h₀) (F : Fr h₀ L s.heap m) (X₀ : K.In h₀) (N : News h₀ L s.heap vis) (H : News h₀ L s.heap hid) (apart : ∀ q ∈ hid, q.1 ∉ vis.map (·.1)) (T : Top p loose mean mg mb h₀) (hA : A.frames = some (env :: outer)) (hf : env.frame = some L) (hke : env.scope.kind = .function)
    (ho : K.lookup f = some ⟨oc, od, .func (fnOf name qual params body scope dV kV doc pm an cdv ct), osl⟩) (hcd : codeIn K cdv qual = true) (hroom : A.depth < recursionLimit)
    (hbind : BindsTo s (fnOf name qual params body scope dV kV doc pm an cdv ct) args binds) (hloc : ∀ y ∈ binds, scope.names.lookup y.1 = some .local)
    (h : ∀ g L' h₁, Fr h₀ L g m → Fr g L' h₁ (fun y => binds.reverse.lookup y) → News g L' h₁ vis → Below A base (env :: outer) g → K.In g → Top p loose mean mg mb g → (∀ b o, s.heap.get? b = some o → b ∉ vis.map (·.1) → g.get? b = some o) →
      wpAny (model prog w) (A.deeper (envOf qual scope L' f cdv)) (execs body (envOf qual scope L' f cdv))
        (fun fl s' => LeaveK h₀ L m g (fun r s'' => News h₀ L s''.heap hid → R r s'') (match fl with | .ret v => v | _ => .none) s')
        (fun e s' => wpAny (model prog w) (A.deeper (envOf qual scope L' f cdv)) (leaving (envOf qual scope L' f cdv) e) (fun _ s'' => R (.error e) s'') (fun e' s'' => R (.error e') s'') s')
        { s with heap := h₁, toks := s.toks + binds.length })
    (hco : scope.isCoroutine = false) (hgen : scope.isGenerator = false) (hk : scope.kind = .function)
    (hcell : ∀ x ∈ scope.names, x.2 ≠ .cell) : codeAny (model prog w) A (.call (.ref f) args) R s := by
  obtain ⟨FG, BG, st, lv⟩ := groundX (R := R) B F N hA hf hke
  refine codeAny_call_def (fd := fnOf name qual params body scope dV kV doc pm an cdv ct) (body := body) (binds := binds) hroom ((X₀.keeps F.keep) _ _ ho) rfl (T.nolimit.keeps F.keep) (codeRec_of (X₀.keeps F.keep) hcd) rfl hbind hcell hloc (fun h₁ hns hk₁ => ?_) hco hgen hk
  refine wpAny_mono (h _ s.heap.objs.size h₁ FG ⟨hns, fun b o e => hk₁ b o (of_hideAll _ e), Nat.le_of_eq (hideAll_size _ _)⟩
    (fun q hq => ⟨hk₁ _ _ (N q hq).1, Nat.ne_of_lt (Heap.lt_size (N q hq).1), hideAll_none _ (List.mem_map_of_mem hq)⟩) BG (X₀.keeps st) (T.keeps st) (fun b o e nb => hideAll_get _ e nb)) (fun fl s' hl => ?_) fun _ _ y => y
  obtain ⟨L', m', news', F', N', k⟩ := hl
  refine lv _ _ ⟨L', m', news', F', N', fun kF kN => k kF kN ?_⟩
  exact fun q hq => ⟨F'.keep _ _ (hideAll_get _ (H q hq).1 (apart q hq)), (H q hq).2.1, (H q hq).2.2⟩

/-- The same for a def whose names a comprehension of its own captures. -/
theorem enterC {env : Env} {outer : List Env} {R : Result → Shared → Prop} {name qual : Str} {params : Arguments} {body : List Stmt} {scope : Scope} {dV kV doc pm cdv ct oc : Value} {an od : Option Addr} {osl : Array (Option Value)} {f : Addr} {args : Args} {binds : List (Str × Value)}
    (B : Below A₀ base outer h₀) (F : Fr h₀ L s.heap m) (X₀ : K.In h₀) (N : News h₀ L s.heap vis) (H : News h₀ L s.heap hid) (apart : ∀ q ∈ hid, q.1 ∉ vis.map (·.1)) (T : Top p loose mean mg mb h₀) (hA : A.frames = some (env :: outer)) (hf : env.frame = some L) (hke : env.scope.kind = .function)
    (ho : K.lookup f = some ⟨oc, od, .func (fnOf name qual params body scope dV kV doc pm an cdv ct), osl⟩) (hcd : codeIn K cdv qual = true) (hroom : A.depth < recursionLimit)
    (hbind : BindsTo s (fnOf name qual params body scope dV kV doc pm an cdv ct) args binds) (hkind : (binds.all fun y => scope.names.lookup y.1 == some .local || scope.names.lookup y.1 == some .cell) = true)
    (hnd : ((cellsFrom 0 scope.names []).map (·.1)).Nodup)
    (h : ∀ g L' h₁ tk cells, Fr h₀ L g m → Fr g L' h₁ (bindL (envOfC qual scope L' f cdv).kindOf binds fun _ => none) → News g L' h₁ (cells ++ vis) →
      CellsAre (bindC (envOfC qual scope L' f cdv).kindOf binds fun _ => none) (cellsFrom (L' + 1) scope.names []) cells → Below A base (env :: outer) g → K.In g → Top p loose mean mg mb g → (∀ q ∈ vis, q.1 < L') →
      (∀ b o, s.heap.get? b = some o → b ∉ vis.map (·.1) → g.get? b = some o) →
      wpAny (model prog w) (A.deeper (envOfC qual scope L' f cdv)) (execs body (envOfC qual scope L' f cdv))
        (fun fl s' => LeaveK h₀ L m g (fun r s'' => News h₀ L s''.heap hid → R r s'') (match fl with | .ret v => v | _ => .none) s')
        (fun e s' => wpAny (model prog w) (A.deeper (envOfC qual scope L' f cdv)) (leaving (envOfC qual scope L' f cdv) e) (fun _ s'' => R (.error e) s'') (fun e' s'' => R (.error e') s'') s')
        { s with heap := h₁, toks := tk })
    (hco : scope.isCoroutine = false) (hgen : scope.isGenerator = false) (hk : scope.kind = .function) : codeAny (model prog w) A (.call (.ref f) args) R s := by
  obtain ⟨FG, BG, st, lv⟩ := groundX (R := R) B F N hA hf hke
  refine codeAny_call_function hroom ((X₀.keeps F.keep) _ _ ho) rfl hco hgen rfl (codeRec_of (X₀.keeps F.keep) hcd) (hbind _ _ _ _ ?_)
  refine wpAny_newFunctionEnv_cells hk (kindsX hkind _) fun env' he s' x => ?_
  subst he
  refine ⟨(T.nolimit.keeps F.keep).keeps x.toInCall.keep, codeAny_func ?_⟩
  obtain ⟨h₁, tk, rfl, _⟩ := x.done
  have hk₁ := x.toInCall.keep
  obtain ⟨cells, NC, Y⟩ := Cl.news (h₀ := s.heap) (Nat.le_refl _) fun n c hm => ⟨x.cell n c (lookup_of_mem_nodup (cellsFrom_names scope.names 0 (s.heap.objs.size + 1) [] [] rfl ▸ hnd) hm), x.above n c hm⟩
  refine wpAny_mono (h _ s.heap.objs.size h₁ tk cells FG ⟨x.toInCall.ns, fun b o e => hk₁ b o (of_hideAll _ e), Nat.le_of_eq (hideAll_size _ _)⟩ (fun q hq => ?_) Y BG (X₀.keeps st) (T.keeps st) (fun q hq => Heap.lt_size (N q hq).1) (fun b o e nb => hideAll_get _ e nb)) (fun fl s' hl => ?_) fun _ _ y => y
  · rcases List.mem_append.mp hq with hq | hq
    · refine ⟨(NC q hq).1, (NC q hq).2.1, ?_⟩
      cases e : (hideAll s.heap (vis.map (·.1))).get? q.1 with
      | none => rfl
      | some o => have := of_hideAll _ e; rw [(NC q hq).2.2] at this; cases this
    · exact ⟨hk₁ _ _ (N q hq).1, Nat.ne_of_lt (Heap.lt_size (N q hq).1), hideAll_none _ (List.mem_map_of_mem hq)⟩
  · obtain ⟨L', m', news', F', N', k⟩ := hl
    refine lv _ _ ⟨L', m', news', F', N', fun kF kN => k kF kN ?_⟩
    exact fun q hq => ⟨F'.keep _ _ (hideAll_get _ (H q hq).1 (apart q hq)), (H q hq).2.1, (H q hq).2.2⟩

end

/-- A call of the def at `f` with `vs` gives back a value that `Ret` says; it makes nothing that it leaves behind, and turns nothing. `r`, `c`: the frames and the C units that it wants. -/
def Pure (r c : Nat) (f : Addr) (vs : List Value) (Ret : Value → Prop) : Prop :=
  ∀ (w : World) (loose : List Str) (mean : ExcName → Option Value) (mg mb : Str → Option Value) (dp un : Nat) (gd : Option (List Code)) (cn : Str) (cs : Scope) (a : Addr) (ccd : Value) (cl : List (Str × Addr)) (outer : List Env) (A₀ : Around) (base h₀ : Heap) (L : Addr) (m : Str → Option Value) (news : List (Addr × Obj)) (s : Shared) (Q E : Value → Shared → Prop),
    Below A₀ base outer h₀ → Fr h₀ L s.heap m → (hd0227.heap_39 w.params).In h₀ → News h₀ L s.heap news → Top hd0227.view_39 loose mean mg mb h₀ → cs.kind = .function → dp + r < recursionLimit → un + c < cLine →
    (∀ (v : Value) (h' : Heap) (tk' : Nat), Ret v → Fr h₀ L h' m → News h₀ L h' news → s.heap.StaysIn h' → Q v { s with heap := h', toks := tk' }) →
    wpAny (model PySem.Challenge.rw_on0227_01.row.prog w) (ktrTop dp un gd cn cs L a ccd cl outer) (call (.ref f) vs) Q E s

/-- The item of three at a place that is not written. -/
def sel (k : Int) {α : Type} (a b c : α) : α := if k = 0 then a else if k = 1 then b else c
theorem sel_ge {z k a b c : Int} (ha : z ≤ a) (hb : z ≤ b) (hc : z ≤ c) : z ≤ sel k a b c := by
  unfold sel
  split
  · exact ha
  · split <;> assumption
theorem sel_le {z k a b c : Int} (ha : a ≤ z) (hb : b ≤ z) (hc : c ≤ z) : sel k a b c ≤ z := by
  unfold sel
  split
  · exact ha
  · split <;> assumption
theorem tup_at {prog : Program} {w : World} {A : Around} {E : Value → Shared → Prop} {s : Shared} {value slice : PySem.Expr} {l : Addr} {k : Int} {u : Tok} {a b c d : Int} {ua ub uc ud : Tok} {Q : Value → Shared → Prop}
    (i : IsTup s.heap l #[.int a ua, .int b ub, .int c uc, .int d ud]) (h0 : 0 ≤ k) (h1 : k < 3) (h : Q (.int (sel k a b c) (sel k ua ub uc)) s)
    (hs : subscripted slice false (.ref l) (.int k u) = operate [.ref l, .int k u] (getItem (.ref l) (.int k u))) :
    wpAny (model prog w) A (subscriptTail value slice (.ref l) (.int k u)) Q E s := by
  have hx : #[Value.int a ua, .int b ub, .int c uc, .int d ud][k.toNat]? = some (.int (sel k a b c) (sel k ua ub uc)) := by
    have hk : k = 0 ∨ k = 1 ∨ k = 2 := by omega
    rcases hk with rfl | rfl | rfl <;> rfl
  exact tail_any i.typeIs slot_tuple_getitem.lookup (getItem_tuple i (by omega) (by omega) (seqIndex_of h0 (by simp; omega)) hx h) hs
theorem news_cons {h₀ h : Heap} {L : Addr} {p : Addr × Obj} {l news : List (Addr × Obj)} (N : News h₀ L h l) (hm : p ∈ l) (N' : News h₀ L h news) : News h₀ L h (p :: news) := fun q hq => by
  rcases List.mem_cons.mp hq with rfl | hq
  · exact N _ hm
  · exact N' _ hq
theorem tup_over {h g : Heap} {t : Addr} {items : Array Value} (i : IsTup h t items) (k : ∀ b o, h.get? b = some o → b ∉ ([] : List (Addr × Obj)).map (·.1) → g.get? b = some o) : IsTup g t items :=
  IsTup.keeps i fun b o e => k b o e (by simp)
theorem stays_back {h g h' : Heap} {L' : Addr} {m' : Str → Option Value} (k : ∀ b o, h.get? b = some o → b ∉ ([] : List (Addr × Obj)).map (·.1) → g.get? b = some o) (F' : Fr g L' h' m') : h.StaysIn h' := fun b o e => F'.keep b o (k b o e (by simp))
end

section
/-- A call of blended_part in the mode `mo` gives back `f` of its four ints. -/
structure BpOk (mo : Str) (f : Int → Int → Int → Int → Int) : Prop where
  go : ∀ (t0 : Tok) (one : Int) (t1 : Tok) (alpha : Int) (t2 : Tok) (other : Int) (t3 : Tok) (beta : Int) (t4 : Tok), 0 ≤ one → one ≤ alpha → alpha ≤ 255 → 0 ≤ other → other ≤ beta → beta ≤ 255 →
    Pure 4 30 123 [.str mo t0, .int one t1, .int alpha t2, .int other t3, .int beta t4] (fun v => ∃ t, v = .int (f one alpha other beta) t)

theorem bp_use {mo : Str} {f : Int → Int → Int → Int → Int} {t0 : Tok} {one : Int} {t1 : Tok} {alpha : Int} {t2 : Tok} {other : Int} {t3 : Tok} {beta : Int} {t4 : Tok}
    {w : World} {loose : List Str} {mean : ExcName → Option Value} {mg mb : Str → Option Value} {dp un : Nat} {gd : Option (List Code)} {cn : Str} {cs : Scope} {a : Addr} {ccd : Value} {cl : List (Str × Addr)} {outer : List Env} {A₀ : Around} {base h₀ : Heap} {L : Addr} {m : Str → Option Value} {news : List (Addr × Obj)} {s : Shared} {Q E : Value → Shared → Prop}
    (C : BpOk mo f) (b1 : 0 ≤ one) (b2 : one ≤ alpha) (b3 : alpha ≤ 255) (b4 : 0 ≤ other) (b5 : other ≤ beta) (b6 : beta ≤ 255)
    (B : Below A₀ base outer h₀) (F : Fr h₀ L s.heap m) (X : (hd0227.heap_39 w.params).In h₀) (N : News h₀ L s.heap news) (T : Top hd0227.view_39 loose mean mg mb h₀) (hk : cs.kind = .function) (hd : dp + 4 < recursionLimit) (hu : un + 30 < cLine)
    (h : ∀ (t : Tok) (h' : Heap) (tk' : Nat), Fr h₀ L h' m → News h₀ L h' news → s.heap.StaysIn h' → Q (.int (f one alpha other beta) t) { s with heap := h', toks := tk' }) :
    wpAny (model PySem.Challenge.rw_on0227_01.row.prog w) (ktrTop dp un gd cn cs L a ccd cl outer) (call (.ref 123) [.str mo t0, .int one t1, .int alpha t2, .int other t3, .int beta t4]) Q E s :=
  C.go t0 one t1 alpha t2 other t3 beta t4 b1 b2 b3 b4 b5 b6 w loose mean mg mb dp un gd cn cs a ccd cl outer A₀ base h₀ L m news s Q E B F X N T hk hd hu
    (fun v h' tk' r F' N' S' => by obtain ⟨t, rfl⟩ := r; exact h t h' tk' F' N' S')
theorem inElt_on {a b c : Heap} (e : InElt a b) (k : b.StaysIn c) : InElt a c := fun x o h => k x o (e x o h)

theorem blended_end {f : Int → Int → Int → Int → Int} {o0 o1 o2 p0 p1 p2 alpha beta : Int} {h₀ : Heap} {L : Addr} {m : Str → Option Value} {news l : List (Addr × Obj)} {s : Shared} {Q : Value → Shared → Prop}
    (hret : ∀ (r : Addr) (x0 x1 x2 x3 : Tok) (h' : Heap) (tk' : Nat), Fr h₀ L h' m → News h₀ L h' ((r, ({ cls := .type "tuple", data := .seq #[.int (f o0 alpha p0 beta) x0, .int (f o1 alpha p1 beta) x1, .int (f o2 alpha p2 beta) x2, .int ((2 * (alpha * 255 + beta * (255 - alpha)) + 255).fdiv (2 * 255)) x3] } : Obj)) :: news) → Q (.ref r) { s with heap := h', toks := tk' })
    {r : Addr} {x0 x1 x2 x3 : Tok} {h' : Heap} {tk' : Nat} (F : Fr h₀ L h' m) (N' : News h₀ L h' news)
    (N : News h₀ L h' ((r, ({ cls := .type "tuple", data := .seq #[.int (f (sel (0 + 0) o0 o1 o2) alpha (sel (0 + 0) p0 p1 p2) beta) x0, .int (f (sel (0 + 1) o0 o1 o2) alpha (sel (0 + 1) p0 p1 p2) beta) x1, .int (f (sel (0 + 2) o0 o1 o2) alpha (sel (0 + 2) p0 p1 p2) beta) x2, .int ((2 * (alpha * 255 + beta * (255 - alpha)) + 255).fdiv (2 * 255)) x3] } : Obj)) :: l)) :
    Q (.ref r) { s with heap := h', toks := tk' } := hret r x0 x1 x2 x3 h' tk' F (news_cons N (List.Mem.head _) N')
set_option maxHeartbeats 4000000 in
theorem blended_go {mo : Str} {f : Int → Int → Int → Int → Int} (C : BpOk mo f) (t0 : Tok) (ta tb : Addr) (o0 o1 o2 p0 p1 p2 alpha beta : Int) (u0 u1 u2 u3 v0 v1 v2 v3 : Tok)
   (ha : 0 ≤ alpha) (ha' : alpha ≤ 255) (hb : 0 ≤ beta) (hb' : beta ≤ 255) (c0 : 0 ≤ o0) (c0' : o0 ≤ alpha) (c1 : 0 ≤ o1) (c1' : o1 ≤ alpha) (c2 : 0 ≤ o2) (c2' : o2 ≤ alpha) (d0 : 0 ≤ p0) (d0' : p0 ≤ beta) (d1 : 0 ≤ p1) (d1' : p1 ≤ beta) (d2 : 0 ≤ p2) (d2' : p2 ≤ beta)
   : ∀ (w : World) (loose : List Str) (mean : ExcName → Option Value) (mg mb : Str → Option Value) (dp un : Nat) (gd : Option (List Code)) (cn : Str) (cs : Scope) (a : Addr) (ccd : Value) (cl : List (Str × Addr)) (outer : List Env) (A₀ : Around) (base h₀ : Heap) (L : Addr) (m : Str → Option Value) (news : List (Addr × Obj)) (s : Shared) (Q E : Value → Shared → Prop)
    (B : Below A₀ base outer h₀) (F : Fr h₀ L s.heap m) (X : (hd0227.heap_39 w.params).In h₀) (N : News h₀ L s.heap news) (T : Top hd0227.view_39 loose mean mg mb h₀) (hk : cs.kind = .function) (hd : dp + 6 < recursionLimit) (hu : un + 60 < cLine)
    (i1 : IsTup s.heap ta #[.int o0 u0, .int o1 u1, .int o2 u2, .int alpha u3])
    (i2 : IsTup s.heap tb #[.int p0 v0, .int p1 v1, .int p2 v2, .int beta v3])
    (hret : ∀ (r : Addr) (x0 x1 x2 x3 : Tok) (h' : Heap) (tk' : Nat), Fr h₀ L h' m → News h₀ L h' ((r, ({ cls := .type "tuple", data := .seq #[.int (f o0 alpha p0 beta) x0, .int (f o1 alpha p1 beta) x1, .int (f o2 alpha p2 beta) x2, .int ((2 * (alpha * 255 + beta * (255 - alpha)) + 255).fdiv (2 * 255)) x3] } : Obj)) :: news) → Q (.ref r) { s with heap := h', toks := tk' })
  , wpAny (model PySem.Challenge.rw_on0227_01.row.prog w) (ktrTop dp un gd cn cs L a ccd cl outer) (call (.ref 128) [.str mo t0, .ref ta, .ref tb]) Q E s := by
  w_top off
  k_with_none
  k_with "MINE call ref" => ((k_here; (with_reducible show wpAny _ _ (call (Value.ref 123) _) _ _ _); k_dflt (refine bp_use (by first | with_reducible assumption) (by first | with_reducible assumption | (refine sel_ge ?_ ?_ ?_ <;> with_reducible assumption) | omega) (by first | with_reducible assumption | (refine sel_le ?_ ?_ ?_ <;> with_reducible assumption) | omega) (by first | with_reducible assumption | omega) (by first | with_reducible assumption | (refine sel_ge ?_ ?_ ?_ <;> with_reducible assumption) | omega) (by first | with_reducible assumption | (refine sel_le ?_ ?_ ?_ <;> with_reducible assumption) | omega) (by first | with_reducible assumption | omega) (by k_asm) (by k_asm) (by k_asm) (by k_asm) (by k_asm) (by first | exact rfl | assumption) (by ktr_room) (by ktr_units) ?_; k_whole); intro t9 h9 tk9 F9 N9 S9; (try (have cE9 := inElt_on (by with_reducible assumption) S9)); clear S9; (try dsimp only); (try k_fold)))
  k_with "MINE subscriptTail" => ((k_here; (with_reducible show wpAny _ _ (subscriptTail _ _ (Value.ref _) (Value.int _ _)) _ _ _); k_dflt (refine tup_at (by exact Fr.tup (by assumption) (by assumption)) (by omega) (by omega) ?_ (by with_unfolding_all rfl); k_whole)))
  k_fill
  intro w loose mean mg mb dp un gd cn cs a ccd cl outer A₀ base h₀ L m news s Q E B F X N T hk hd hu i1 i2 hret
  refine wpAny_call ?_
  k_dflt (refine' Mine.enterC (vis := []) ?k1 ?k2 ?k3 ?k4 ?kH ?kP ?k5 ?kA ?kF ?kK ?k6 ?k7 ?k8 ?k9 ?kB ?kD ?_ ?c2 ?c3 ?c4; (case kA => exact rfl); (case kF => exact rfl); (case kK => assumption); (case k1 => k_asm); (case k2 => k_asm); (case k3 => k_asm); (case k4 => exact News.nil); (case kH => k_asm); (case kP => exact fun _ _ h => nomatch h); (case k5 => k_asm); (case k6 => k_is); (case k7 => k_is); (case k8 => ktr_room); (case k9 => exact BindsTo.of_eq rfl); (case kB => exact rfl); (case kD => decide +kernel); (case c2 => exact rfl); (case c3 => exact rfl); (case c4 => exact rfl); k_whole)
  intro g' L' h' tk' cells' FG' F' N' Y' B' X' T' l1 kp'
  clear l1
  have i1' := tup_over i1 kp'
  have i2' := tup_over i2 kp'
  clear kp' i1 i2
  k_cells Y'
  (try simp only [List.cons_append, List.nil_append] at N')
  (try dsimp only)
  (try k_lift B')
  (try k_fold)
  k_steps
  all_goals (try k_data)
  refine' blended_end hret ?eF ?eH ?eN
  case eN => assumption
  case eF => assumption
  case eH => assumption
end

section
/-- A call of inner in the mode `mo` upon a pair gives back `g` of its four ints. -/
structure InnerOk (mo : Str) (g : Int → Int → Int → Int → Int) : Prop where
  go : ∀ (t0 : Tok) (one : Int) (t1 : Tok) (alpha : Int) (t2 : Tok) (other : Int) (t3 : Tok) (beta : Int) (t4 : Tok), 0 ≤ one → one ≤ alpha → alpha ≤ 255 → 0 ≤ other → other ≤ beta → beta ≤ 255 → ∀ (w : World) (loose : List Str) (mean : ExcName → Option Value) (mg mb : Str → Option Value) (dp un : Nat) (gd : Option (List Code)) (cn : Str) (cs : Scope) (a : Addr) (ccd : Value) (cl : List (Str × Addr)) (outer : List Env) (A₀ : Around) (base h₀ : Heap) (L : Addr) (m : Str → Option Value) (s : Shared) (Q E : Value → Shared → Prop) (x d : Addr) (u1 u2 u3 u4 : Tok) (B : Below A₀ base outer h₀) (F : Fr h₀ L s.heap m) (X : (hd0227.heap_39 w.params).In h₀) (N : News h₀ L s.heap [(x, instObj 105 d), (d, dictOf [{ hash := PyData.keyHash w.params (Str.ofString "one"), key := .str (Str.ofString "one") u1, val := .int one t1 }, { hash := PyData.keyHash w.params (Str.ofString "alpha"), key := .str (Str.ofString "alpha") u2, val := .int alpha t2 }, { hash := PyData.keyHash w.params (Str.ofString "other"), key := .str (Str.ofString "other") u3, val := .int other t3 }, { hash := PyData.keyHash w.params (Str.ofString "beta"), key := .str (Str.ofString "beta") u4, val := .int beta t4 }] 4)]) (T : Top hd0227.view_39 loose mean mg mb h₀) (hk : cs.kind = .function) (hd : dp + 3 < recursionLimit) (hu : un + 24 < cLine), (∀ (t : Tok) (h' : Heap) (tk' : Nat), Fr h₀ L h' m → News h₀ L h' [] → Q (.int (g one alpha other beta) t) { s with heap := h', toks := tk' }) → wpAny (model PySem.Challenge.rw_on0227_01.row.prog w) (ktrTop dp un gd cn cs L a ccd cl outer) (call (.ref 116) [.str mo t0, .ref x]) Q E s

theorem inner_use {mo : Str} {g : Int → Int → Int → Int → Int} {t0 : Tok} {one : Int} {t1 : Tok} {alpha : Int} {t2 : Tok} {other : Int} {t3 : Tok} {beta : Int} {t4 : Tok}
    {w : World} {loose : List Str} {mean : ExcName → Option Value} {mg mb : Str → Option Value} {dp un : Nat} {gd : Option (List Code)} {cn : Str} {cs : Scope} {a : Addr} {ccd : Value} {cl : List (Str × Addr)} {outer : List Env} {A₀ : Around} {base h₀ : Heap} {L : Addr} {m : Str → Option Value} {s : Shared} {Q E : Value → Shared → Prop} {x d : Addr} {u1 u2 u3 u4 : Tok}
    (C : InnerOk mo g)
    (B : Below A₀ base outer h₀) (F : Fr h₀ L s.heap m) (X : (hd0227.heap_39 w.params).In h₀) (N : News h₀ L s.heap [(x, instObj 105 d), (d, dictOf [{ hash := PyData.keyHash w.params (Str.ofString "one"), key := .str (Str.ofString "one") u1, val := .int one t1 }, { hash := PyData.keyHash w.params (Str.ofString "alpha"), key := .str (Str.ofString "alpha") u2, val := .int alpha t2 }, { hash := PyData.keyHash w.params (Str.ofString "other"), key := .str (Str.ofString "other") u3, val := .int other t3 }, { hash := PyData.keyHash w.params (Str.ofString "beta"), key := .str (Str.ofString "beta") u4, val := .int beta t4 }] 4)]) (b1 : 0 ≤ one) (b2 : one ≤ alpha) (b3 : alpha ≤ 255) (b4 : 0 ≤ other) (b5 : other ≤ beta) (b6 : beta ≤ 255) (T : Top hd0227.view_39 loose mean mg mb h₀) (hk : cs.kind = .function) (hd : dp + 3 < recursionLimit) (hu : un + 24 < cLine)
    (h : (∀ (t : Tok) (h' : Heap) (tk' : Nat), Fr h₀ L h' m → News h₀ L h' [] → Q (.int (g one alpha other beta) t) { s with heap := h', toks := tk' })) : wpAny (model PySem.Challenge.rw_on0227_01.row.prog w) (ktrTop dp un gd cn cs L a ccd cl outer) (call (.ref 116) [.str mo t0, .ref x]) Q E s :=
  C.go t0 one t1 alpha t2 other t3 beta t4 b1 b2 b3 b4 b5 b6 w loose mean mg mb dp un gd cn cs a ccd cl outer A₀ base h₀ L m s Q E x d u1 u2 u3 u4 B F X N T hk hd hu h

/-- What the mode of that number makes of two parts, where both are. -/
def toldV (i : Nat) (one alpha other beta : Int) : Int := match i with
  | 0 => one * beta
  | 1 => one * other
  | 2 => one * beta + other * alpha - one * other
  | 3 => if other * alpha < one * beta then other * alpha else one * beta
  | 4 => if other * alpha > one * beta then other * alpha else one * beta
  | 5 => if 2 * one ≤ alpha then 2 * (one * other) else alpha * beta - 2 * (alpha - one) * (beta - other)
  | 6 => if 2 * other ≤ beta then 2 * (other * one) else beta * alpha - 2 * (beta - other) * (alpha - one)
  | 7 => if one * beta - other * alpha < 0 then -(one * beta - other * alpha) else one * beta - other * alpha
  | _ => one * beta + other * alpha - 2 * (one * other)
/-- What blended_part gives back. -/
def bpV (i : Nat) (one alpha other beta : Int) : Int := (2 * (toldV i one alpha other beta + one * (255 - beta) + other * (255 - alpha)) + 255).fdiv (2 * 255)

theorem bp_end {r : Int} {h₀ : Heap} {L : Addr} {m : Str → Option Value} {news : List (Addr × Obj)} {s : Shared} {Q : Value → Shared → Prop}
    (hret : ∀ (v : Value) (h' : Heap) (tk' : Nat), (∃ t, v = .int r t) → Fr h₀ L h' m → News h₀ L h' news → s.heap.StaysIn h' → Q v { s with heap := h', toks := tk' })
    {x : Int} {t : Tok} {h' : Heap} {tk' : Nat} (e : x = r) (F : Fr h₀ L h' m) (N : News h₀ L h' news) (S : s.heap.StaysIn h') : Q (.int x t) { s with heap := h', toks := tk' } :=
  hret _ _ _ ⟨t, by rw [e]⟩ F N S

theorem inner_end {r : Int} {h₀ : Heap} {L : Addr} {m : Str → Option Value} {s : Shared} {Q : Value → Shared → Prop}
    (hret : ∀ (t : Tok) (h' : Heap) (tk' : Nat), Fr h₀ L h' m → News h₀ L h' [] → Q (.int r t) { s with heap := h', toks := tk' })
    {x : Int} {t : Tok} {h' : Heap} {tk' : Nat} (e : x = r) (F : Fr h₀ L h' m) : Q (.int x t) { s with heap := h', toks := tk' } := by
  rw [e]; exact hret _ _ _ F News.nil
theorem hard_end {one alpha other beta : Int} {h₀ : Heap} {L : Addr} {m : Str → Option Value} {s : Shared} {Q : Value → Shared → Prop}
    (hret : ∀ (t : Tok) (h' : Heap) (tk' : Nat), Fr h₀ L h' m → News h₀ L h' [] → Q (.int (toldV 5 one alpha other beta) t) { s with heap := h', toks := tk' })
    {x : Int} {t : Tok} {h' : Heap} {tk' : Nat} (e : x = toldV 5 one alpha other beta) (F : Fr h₀ L h' m) : Q (.int x t) { s with heap := h', toks := tk' } := by
  rw [e]; exact hret _ _ _ F News.nil
set_option maxHeartbeats 4000000 in
/-- A call of hard upon a pair. -/
theorem hard_go {one : Int} {t1 : Tok} {alpha : Int} {t2 : Tok} {other : Int} {t3 : Tok} {beta : Int} {t4 : Tok}
    {w : World} {loose : List Str} {mean : ExcName → Option Value} {mg mb : Str → Option Value} {dp un : Nat} {gd : Option (List Code)} {cn : Str} {cs : Scope} {a : Addr} {ccd : Value} {cl : List (Str × Addr)} {outer : List Env} {A₀ : Around} {base h₀ : Heap} {L : Addr} {m : Str → Option Value} {s : Shared} {Q E : Value → Shared → Prop} {x d : Addr} {u1 u2 u3 u4 : Tok} {all : List (Addr × Obj)}
    (B : Below A₀ base outer h₀) (F : Fr h₀ L s.heap m) (X : (hd0227.heap_39 w.params).In h₀) (N : News h₀ L s.heap all) (hx : (x, instObj 105 d) ∈ all) (hdm : (d, dictOf [{ hash := PyData.keyHash w.params (Str.ofString "one"), key := .str (Str.ofString "one") u1, val := .int one t1 }, { hash := PyData.keyHash w.params (Str.ofString "alpha"), key := .str (Str.ofString "alpha") u2, val := .int alpha t2 }, { hash := PyData.keyHash w.params (Str.ofString "other"), key := .str (Str.ofString "other") u3, val := .int other t3 }, { hash := PyData.keyHash w.params (Str.ofString "beta"), key := .str (Str.ofString "beta") u4, val := .int beta t4 }] 4) ∈ all)
    (b1 : 0 ≤ one) (b2 : one ≤ alpha) (b3 : alpha ≤ 255) (b4 : 0 ≤ other) (b5 : other ≤ beta) (b6 : beta ≤ 255)
    (T : Top hd0227.view_39 loose mean mg mb h₀) (hk : cs.kind = .function) (hd : dp + 2 < recursionLimit) (hu : un + 16 < cLine)
    (hret : ∀ (t : Tok) (h' : Heap) (tk' : Nat), Fr h₀ L h' m → News h₀ L h' [] → Q (.int (toldV 5 one alpha other beta) t) { s with heap := h', toks := tk' }) :
    wpAny (model PySem.Challenge.rw_on0227_01.row.prog w) (ktrTop dp un gd cn cs L a ccd cl outer) (call (.ref 95) [.ref x]) Q E s := by
  have N2 : News h₀ L s.heap [(x, instObj 105 d), (d, dictOf [{ hash := PyData.keyHash w.params (Str.ofString "one"), key := .str (Str.ofString "one") u1, val := .int one t1 }, { hash := PyData.keyHash w.params (Str.ofString "alpha"), key := .str (Str.ofString "alpha") u2, val := .int alpha t2 }, { hash := PyData.keyHash w.params (Str.ofString "other"), key := .str (Str.ofString "other") u3, val := .int other t3 }, { hash := PyData.keyHash w.params (Str.ofString "beta"), key := .str (Str.ofString "beta") u4, val := .int beta t4 }] 4)] := fun q hq => by
    rcases List.mem_cons.mp hq with rfl | hq
    · exact N _ hx
    · rw [List.mem_singleton.mp hq]; exact N _ hdm
  clear N hx hdm
  revert X
  w_top off
  k_with_none
  k_with "MINE enter" => ((refine Mine.enter (vis := []) (by k_asm) (by k_asm) (by k_asm) (by exact News.nil) (by k_asm) (by exact fun _ _ h => nomatch h) (by k_asm) (by exact rfl) (by exact rfl) (by assumption) (by k_is) (by k_is) (by ktr_room) (by exact BindsTo.of_eq rfl) (by exact locs rfl) ?_ (by exact rfl) (by exact rfl) (by exact rfl) (by decide); k_whole; intro g' L' h' FG' F' N' B' X' T' kp'; (try dsimp only); (try k_lift B'); (try k_fold)))
  k_with "MINE enterV" => ((refine Mine.enter (hid := []) (by k_asm) (by k_asm) (by k_asm) (by k_asm) (by exact News.nil) (by exact fun _ h => nomatch h) (by k_asm) (by exact rfl) (by exact rfl) (by assumption) (by k_is) (by k_is) (by ktr_room) (by exact BindsTo.of_eq rfl) (by exact locs rfl) ?_ (by exact rfl) (by exact rfl) (by exact rfl) (by decide); k_whole; intro g' L' h' FG' F' N' B' X' T' kp'; clear kp'; (try dsimp only); (try k_lift B'); (try k_fold)))
  k_fill
  intro X
  refine wpAny_call ?_
  k_dflt (walk_at "MINE enterV")
  k_steps
  all_goals (refine hard_end hret ?_ (by assumption))
  all_goals (clear hret; simp only [toldV])
  all_goals (split <;> first | rfl | (exfalso; simp only [decide_eq_true_eq, decide_eq_false_iff_not] at *; omega))

set_option maxHeartbeats 4000000 in
theorem inn_0 : InnerOk (Str.ofString "normal") (toldV 0) := by
  refine InnerOk.mk ?_
  intro t0 one t1 alpha t2 other t3 beta t4 b1 b2 b3 b4 b5 b6
  w_top off
  k_with_none
  k_with "MINE enter" => ((refine Mine.enter (vis := []) (by k_asm) (by k_asm) (by k_asm) (by exact News.nil) (by k_asm) (by exact fun _ _ h => nomatch h) (by k_asm) (by exact rfl) (by exact rfl) (by assumption) (by k_is) (by k_is) (by ktr_room) (by exact BindsTo.of_eq rfl) (by exact locs rfl) ?_ (by exact rfl) (by exact rfl) (by exact rfl) (by decide); k_whole; intro g' L' h' FG' F' N' B' X' T' kp'; (try dsimp only); (try k_lift B'); (try k_fold)))
  k_with "MINE enterV" => ((refine Mine.enter (hid := []) (by k_asm) (by k_asm) (by k_asm) (by k_asm) (by exact News.nil) (by exact fun _ h => nomatch h) (by k_asm) (by exact rfl) (by exact rfl) (by assumption) (by k_is) (by k_is) (by ktr_room) (by exact BindsTo.of_eq rfl) (by exact locs rfl) ?_ (by exact rfl) (by exact rfl) (by exact rfl) (by decide); k_whole; intro g' L' h' FG' F' N' B' X' T' kp'; clear kp'; (try dsimp only); (try k_lift B'); (try k_fold)))
  k_fill
  intro w loose mean mg mb dp un gd cn cs a ccd cl outer A₀ base h₀ L m s Q E x d u1 u2 u3 u4 B F X N T hk hd hu hret
  refine wpAny_call ?_
  k_dflt (walk_at "MINE enterV")
  k_steps
  all_goals (refine inner_end hret ?_ (by assumption))
  all_goals (clear hret; simp only [toldV])
  all_goals (first
    | rfl
    | (split <;> first | rfl | (exfalso; simp only [decide_eq_true_eq, decide_eq_false_iff_not] at *; omega)))

set_option maxHeartbeats 4000000 in
theorem inn_1 : InnerOk (Str.ofString "multiply") (toldV 1) := by
  refine InnerOk.mk ?_
  intro t0 one t1 alpha t2 other t3 beta t4 b1 b2 b3 b4 b5 b6
  w_top off
  k_with_none
  k_with "MINE enter" => ((refine Mine.enter (vis := []) (by k_asm) (by k_asm) (by k_asm) (by exact News.nil) (by k_asm) (by exact fun _ _ h => nomatch h) (by k_asm) (by exact rfl) (by exact rfl) (by assumption) (by k_is) (by k_is) (by ktr_room) (by exact BindsTo.of_eq rfl) (by exact locs rfl) ?_ (by exact rfl) (by exact rfl) (by exact rfl) (by decide); k_whole; intro g' L' h' FG' F' N' B' X' T' kp'; (try dsimp only); (try k_lift B'); (try k_fold)))
  k_with "MINE enterV" => ((refine Mine.enter (hid := []) (by k_asm) (by k_asm) (by k_asm) (by k_asm) (by exact News.nil) (by exact fun _ h => nomatch h) (by k_asm) (by exact rfl) (by exact rfl) (by assumption) (by k_is) (by k_is) (by ktr_room) (by exact BindsTo.of_eq rfl) (by exact locs rfl) ?_ (by exact rfl) (by exact rfl) (by exact rfl) (by decide); k_whole; intro g' L' h' FG' F' N' B' X' T' kp'; clear kp'; (try dsimp only); (try k_lift B'); (try k_fold)))
  k_fill
  intro w loose mean mg mb dp un gd cn cs a ccd cl outer A₀ base h₀ L m s Q E x d u1 u2 u3 u4 B F X N T hk hd hu hret
  refine wpAny_call ?_
  k_dflt (walk_at "MINE enterV")
  k_steps
  all_goals (refine inner_end hret ?_ (by assumption))
  all_goals (clear hret; simp only [toldV])
  all_goals (first
    | rfl
    | (split <;> first | rfl | (exfalso; simp only [decide_eq_true_eq, decide_eq_false_iff_not] at *; omega)))

set_option maxHeartbeats 4000000 in
theorem inn_2 : InnerOk (Str.ofString "screen") (toldV 2) := by
  refine InnerOk.mk ?_
  intro t0 one t1 alpha t2 other t3 beta t4 b1 b2 b3 b4 b5 b6
  w_top off
  k_with_none
  k_with "MINE enter" => ((refine Mine.enter (vis := []) (by k_asm) (by k_asm) (by k_asm) (by exact News.nil) (by k_asm) (by exact fun _ _ h => nomatch h) (by k_asm) (by exact rfl) (by exact rfl) (by assumption) (by k_is) (by k_is) (by ktr_room) (by exact BindsTo.of_eq rfl) (by exact locs rfl) ?_ (by exact rfl) (by exact rfl) (by exact rfl) (by decide); k_whole; intro g' L' h' FG' F' N' B' X' T' kp'; (try dsimp only); (try k_lift B'); (try k_fold)))
  k_with "MINE enterV" => ((refine Mine.enter (hid := []) (by k_asm) (by k_asm) (by k_asm) (by k_asm) (by exact News.nil) (by exact fun _ h => nomatch h) (by k_asm) (by exact rfl) (by exact rfl) (by assumption) (by k_is) (by k_is) (by ktr_room) (by exact BindsTo.of_eq rfl) (by exact locs rfl) ?_ (by exact rfl) (by exact rfl) (by exact rfl) (by decide); k_whole; intro g' L' h' FG' F' N' B' X' T' kp'; clear kp'; (try dsimp only); (try k_lift B'); (try k_fold)))
  k_fill
  intro w loose mean mg mb dp un gd cn cs a ccd cl outer A₀ base h₀ L m s Q E x d u1 u2 u3 u4 B F X N T hk hd hu hret
  refine wpAny_call ?_
  k_dflt (walk_at "MINE enterV")
  k_steps
  all_goals (refine inner_end hret ?_ (by assumption))
  all_goals (clear hret; simp only [toldV])
  all_goals (first
    | rfl
    | (split <;> first | rfl | (exfalso; simp only [decide_eq_true_eq, decide_eq_false_iff_not] at *; omega)))

set_option maxHeartbeats 4000000 in
theorem inn_3 : InnerOk (Str.ofString "darken") (toldV 3) := by
  refine InnerOk.mk ?_
  intro t0 one t1 alpha t2 other t3 beta t4 b1 b2 b3 b4 b5 b6
  w_top off
  k_with_none
  k_with "MINE enter" => ((refine Mine.enter (vis := []) (by k_asm) (by k_asm) (by k_asm) (by exact News.nil) (by k_asm) (by exact fun _ _ h => nomatch h) (by k_asm) (by exact rfl) (by exact rfl) (by assumption) (by k_is) (by k_is) (by ktr_room) (by exact BindsTo.of_eq rfl) (by exact locs rfl) ?_ (by exact rfl) (by exact rfl) (by exact rfl) (by decide); k_whole; intro g' L' h' FG' F' N' B' X' T' kp'; (try dsimp only); (try k_lift B'); (try k_fold)))
  k_with "MINE enterV" => ((refine Mine.enter (hid := []) (by k_asm) (by k_asm) (by k_asm) (by k_asm) (by exact News.nil) (by exact fun _ h => nomatch h) (by k_asm) (by exact rfl) (by exact rfl) (by assumption) (by k_is) (by k_is) (by ktr_room) (by exact BindsTo.of_eq rfl) (by exact locs rfl) ?_ (by exact rfl) (by exact rfl) (by exact rfl) (by decide); k_whole; intro g' L' h' FG' F' N' B' X' T' kp'; clear kp'; (try dsimp only); (try k_lift B'); (try k_fold)))
  k_fill
  intro w loose mean mg mb dp un gd cn cs a ccd cl outer A₀ base h₀ L m s Q E x d u1 u2 u3 u4 B F X N T hk hd hu hret
  refine wpAny_call ?_
  k_dflt (walk_at "MINE enterV")
  k_steps
  all_goals (refine inner_end hret ?_ (by assumption))
  all_goals (clear hret; simp only [toldV])
  all_goals (first
    | rfl
    | (split <;> first | rfl | (exfalso; simp only [decide_eq_true_eq, decide_eq_false_iff_not] at *; omega)))

set_option maxHeartbeats 4000000 in
theorem inn_4 : InnerOk (Str.ofString "lighten") (toldV 4) := by
  refine InnerOk.mk ?_
  intro t0 one t1 alpha t2 other t3 beta t4 b1 b2 b3 b4 b5 b6
  w_top off
  k_with_none
  k_with "MINE enter" => ((refine Mine.enter (vis := []) (by k_asm) (by k_asm) (by k_asm) (by exact News.nil) (by k_asm) (by exact fun _ _ h => nomatch h) (by k_asm) (by exact rfl) (by exact rfl) (by assumption) (by k_is) (by k_is) (by ktr_room) (by exact BindsTo.of_eq rfl) (by exact locs rfl) ?_ (by exact rfl) (by exact rfl) (by exact rfl) (by decide); k_whole; intro g' L' h' FG' F' N' B' X' T' kp'; (try dsimp only); (try k_lift B'); (try k_fold)))
  k_with "MINE enterV" => ((refine Mine.enter (hid := []) (by k_asm) (by k_asm) (by k_asm) (by k_asm) (by exact News.nil) (by exact fun _ h => nomatch h) (by k_asm) (by exact rfl) (by exact rfl) (by assumption) (by k_is) (by k_is) (by ktr_room) (by exact BindsTo.of_eq rfl) (by exact locs rfl) ?_ (by exact rfl) (by exact rfl) (by exact rfl) (by decide); k_whole; intro g' L' h' FG' F' N' B' X' T' kp'; clear kp'; (try dsimp only); (try k_lift B'); (try k_fold)))
  k_fill
  intro w loose mean mg mb dp un gd cn cs a ccd cl outer A₀ base h₀ L m s Q E x d u1 u2 u3 u4 B F X N T hk hd hu hret
  refine wpAny_call ?_
  k_dflt (walk_at "MINE enterV")
  k_steps
  all_goals (refine inner_end hret ?_ (by assumption))
  all_goals (clear hret; simp only [toldV])
  all_goals (first
    | rfl
    | (split <;> first | rfl | (exfalso; simp only [decide_eq_true_eq, decide_eq_false_iff_not] at *; omega)))

set_option maxHeartbeats 4000000 in
theorem inn_5 : InnerOk (Str.ofString "hard-light") (toldV 5) := by
  refine InnerOk.mk ?_
  intro t0 one t1 alpha t2 other t3 beta t4 b1 b2 b3 b4 b5 b6
  w_top off
  k_with_none
  k_with "MINE enter" => ((refine Mine.enter (vis := []) (by k_asm) (by k_asm) (by k_asm) (by exact News.nil) (by k_asm) (by exact fun _ _ h => nomatch h) (by k_asm) (by exact rfl) (by exact rfl) (by assumption) (by k_is) (by k_is) (by ktr_room) (by exact BindsTo.of_eq rfl) (by exact locs rfl) ?_ (by exact rfl) (by exact rfl) (by exact rfl) (by decide); k_whole; intro g' L' h' FG' F' N' B' X' T' kp'; (try dsimp only); (try k_lift B'); (try k_fold)))
  k_with "MINE enterV" => ((refine Mine.enter (hid := []) (by k_asm) (by k_asm) (by k_asm) (by k_asm) (by exact News.nil) (by exact fun _ h => nomatch h) (by k_asm) (by exact rfl) (by exact rfl) (by assumption) (by k_is) (by k_is) (by ktr_room) (by exact BindsTo.of_eq rfl) (by exact locs rfl) ?_ (by exact rfl) (by exact rfl) (by exact rfl) (by decide); k_whole; intro g' L' h' FG' F' N' B' X' T' kp'; clear kp'; (try dsimp only); (try k_lift B'); (try k_fold)))
  k_with "MINE call ref" => ((k_here; (with_reducible show wpAny _ _ (call (Value.ref 95) _) _ _ _); k_dflt (refine hard_go (by k_asm) (by k_asm) (by k_asm) (by k_asm) (by k_mem) (by k_mem) (by with_reducible assumption) (by with_reducible assumption) (by with_reducible assumption) (by with_reducible assumption) (by with_reducible assumption) (by with_reducible assumption) (by k_asm) (by first | exact rfl | assumption) (by ktr_room) (by ktr_units) ?_; k_whole); intro t9 h9 tk9 F9 N9; (try dsimp only); (try k_sweep); (try k_fold)))
  k_fill
  intro w loose mean mg mb dp un gd cn cs a ccd cl outer A₀ base h₀ L m s Q E x d u1 u2 u3 u4 B F X N T hk hd hu hret
  refine wpAny_call ?_
  k_dflt (walk_at "MINE enterV")
  k_steps
  all_goals (refine inner_end hret ?_ (by assumption))
  all_goals (clear hret; simp only [toldV])
  all_goals (first
    | rfl
    | (split <;> first | rfl | (exfalso; simp only [decide_eq_true_eq, decide_eq_false_iff_not] at *; omega)))

set_option maxHeartbeats 4000000 in
theorem inn_6 : InnerOk (Str.ofString "overlay") (toldV 6) := by
  refine InnerOk.mk ?_
  intro t0 one t1 alpha t2 other t3 beta t4 b1 b2 b3 b4 b5 b6
  w_top off
  k_with_none
  k_with "MINE enter" => ((refine Mine.enter (vis := []) (by k_asm) (by k_asm) (by k_asm) (by exact News.nil) (by k_asm) (by exact fun _ _ h => nomatch h) (by k_asm) (by exact rfl) (by exact rfl) (by assumption) (by k_is) (by k_is) (by ktr_room) (by exact BindsTo.of_eq rfl) (by exact locs rfl) ?_ (by exact rfl) (by exact rfl) (by exact rfl) (by decide); k_whole; intro g' L' h' FG' F' N' B' X' T' kp'; (try dsimp only); (try k_lift B'); (try k_fold)))
  k_with "MINE enterV" => ((refine Mine.enter (hid := []) (by k_asm) (by k_asm) (by k_asm) (by k_asm) (by exact News.nil) (by exact fun _ h => nomatch h) (by k_asm) (by exact rfl) (by exact rfl) (by assumption) (by k_is) (by k_is) (by ktr_room) (by exact BindsTo.of_eq rfl) (by exact locs rfl) ?_ (by exact rfl) (by exact rfl) (by exact rfl) (by decide); k_whole; intro g' L' h' FG' F' N' B' X' T' kp'; clear kp'; (try dsimp only); (try k_lift B'); (try k_fold)))
  k_with "MINE call ref" => ((k_here; (with_reducible show wpAny _ _ (call (Value.ref 95) _) _ _ _); k_dflt (refine hard_go (by k_asm) (by k_asm) (by k_asm) (by k_asm) (by k_mem) (by k_mem) (by with_reducible assumption) (by with_reducible assumption) (by with_reducible assumption) (by with_reducible assumption) (by with_reducible assumption) (by with_reducible assumption) (by k_asm) (by first | exact rfl | assumption) (by ktr_room) (by ktr_units) ?_; k_whole); intro t9 h9 tk9 F9 N9; (try dsimp only); (try k_sweep); (try k_fold)))
  k_fill
  intro w loose mean mg mb dp un gd cn cs a ccd cl outer A₀ base h₀ L m s Q E x d u1 u2 u3 u4 B F X N T hk hd hu hret
  refine wpAny_call ?_
  k_dflt (walk_at "MINE enterV")
  k_steps
  all_goals (refine inner_end hret ?_ (by assumption))
  all_goals (clear hret; simp only [toldV])
  all_goals (first
    | rfl
    | (split <;> first | rfl | (exfalso; simp only [decide_eq_true_eq, decide_eq_false_iff_not] at *; omega)))

set_option maxHeartbeats 4000000 in
theorem inn_7 : InnerOk (Str.ofString "difference") (toldV 7) := by
  refine InnerOk.mk ?_
  intro t0 one t1 alpha t2 other t3 beta t4 b1 b2 b3 b4 b5 b6
  w_top off
  k_with_none
  k_with "MINE enter" => ((refine Mine.enter (vis := []) (by k_asm) (by k_asm) (by k_asm) (by exact News.nil) (by k_asm) (by exact fun _ _ h => nomatch h) (by k_asm) (by exact rfl) (by exact rfl) (by assumption) (by k_is) (by k_is) (by ktr_room) (by exact BindsTo.of_eq rfl) (by exact locs rfl) ?_ (by exact rfl) (by exact rfl) (by exact rfl) (by decide); k_whole; intro g' L' h' FG' F' N' B' X' T' kp'; (try dsimp only); (try k_lift B'); (try k_fold)))
  k_with "MINE enterV" => ((refine Mine.enter (hid := []) (by k_asm) (by k_asm) (by k_asm) (by k_asm) (by exact News.nil) (by exact fun _ h => nomatch h) (by k_asm) (by exact rfl) (by exact rfl) (by assumption) (by k_is) (by k_is) (by ktr_room) (by exact BindsTo.of_eq rfl) (by exact locs rfl) ?_ (by exact rfl) (by exact rfl) (by exact rfl) (by decide); k_whole; intro g' L' h' FG' F' N' B' X' T' kp'; clear kp'; (try dsimp only); (try k_lift B'); (try k_fold)))
  k_with "MINE call ref" => ((k_here; (with_reducible show wpAny _ _ (call (Value.ref 95) _) _ _ _); k_dflt (refine hard_go (by k_asm) (by k_asm) (by k_asm) (by k_asm) (by k_mem) (by k_mem) (by with_reducible assumption) (by with_reducible assumption) (by with_reducible assumption) (by with_reducible assumption) (by with_reducible assumption) (by with_reducible assumption) (by k_asm) (by first | exact rfl | assumption) (by ktr_room) (by ktr_units) ?_; k_whole); intro t9 h9 tk9 F9 N9; (try dsimp only); (try k_sweep); (try k_fold)))
  k_fill
  intro w loose mean mg mb dp un gd cn cs a ccd cl outer A₀ base h₀ L m s Q E x d u1 u2 u3 u4 B F X N T hk hd hu hret
  refine wpAny_call ?_
  k_dflt (walk_at "MINE enterV")
  k_steps
  all_goals (refine inner_end hret ?_ (by assumption))
  all_goals (clear hret; simp only [toldV])
  all_goals (first
    | rfl
    | (split <;> first | rfl | (exfalso; simp only [decide_eq_true_eq, decide_eq_false_iff_not] at *; omega)))

set_option maxHeartbeats 4000000 in
theorem inn_8 : InnerOk (Str.ofString "exclusion") (toldV 8) := by
  refine InnerOk.mk ?_
  intro t0 one t1 alpha t2 other t3 beta t4 b1 b2 b3 b4 b5 b6
  w_top off
  k_with_none
  k_with "MINE enter" => ((refine Mine.enter (vis := []) (by k_asm) (by k_asm) (by k_asm) (by exact News.nil) (by k_asm) (by exact fun _ _ h => nomatch h) (by k_asm) (by exact rfl) (by exact rfl) (by assumption) (by k_is) (by k_is) (by ktr_room) (by exact BindsTo.of_eq rfl) (by exact locs rfl) ?_ (by exact rfl) (by exact rfl) (by exact rfl) (by decide); k_whole; intro g' L' h' FG' F' N' B' X' T' kp'; (try dsimp only); (try k_lift B'); (try k_fold)))
  k_with "MINE enterV" => ((refine Mine.enter (hid := []) (by k_asm) (by k_asm) (by k_asm) (by k_asm) (by exact News.nil) (by exact fun _ h => nomatch h) (by k_asm) (by exact rfl) (by exact rfl) (by assumption) (by k_is) (by k_is) (by ktr_room) (by exact BindsTo.of_eq rfl) (by exact locs rfl) ?_ (by exact rfl) (by exact rfl) (by exact rfl) (by decide); k_whole; intro g' L' h' FG' F' N' B' X' T' kp'; clear kp'; (try dsimp only); (try k_lift B'); (try k_fold)))
  k_with "MINE call ref" => ((k_here; (with_reducible show wpAny _ _ (call (Value.ref 95) _) _ _ _); k_dflt (refine hard_go (by k_asm) (by k_asm) (by k_asm) (by k_asm) (by k_mem) (by k_mem) (by with_reducible assumption) (by with_reducible assumption) (by with_reducible assumption) (by with_reducible assumption) (by with_reducible assumption) (by with_reducible assumption) (by k_asm) (by first | exact rfl | assumption) (by ktr_room) (by ktr_units) ?_; k_whole); intro t9 h9 tk9 F9 N9; (try dsimp only); (try k_sweep); (try k_fold)))
  k_fill
  intro w loose mean mg mb dp un gd cn cs a ccd cl outer A₀ base h₀ L m s Q E x d u1 u2 u3 u4 B F X N T hk hd hu hret
  refine wpAny_call ?_
  k_dflt (walk_at "MINE enterV")
  k_steps
  all_goals (refine inner_end hret ?_ (by assumption))
  all_goals (clear hret; simp only [toldV])
  all_goals (first
    | rfl
    | (split <;> first | rfl | (exfalso; simp only [decide_eq_true_eq, decide_eq_false_iff_not] at *; omega)))
set_option maxHeartbeats 4000000 in
theorem bp_of {mo : Str} {g : Int → Int → Int → Int → Int} (C : InnerOk mo g) : BpOk mo (fun one alpha other beta => (2 * (g one alpha other beta + one * (255 - beta) + other * (255 - alpha)) + 255).fdiv (2 * 255)) := by
  refine BpOk.mk ?_
  intro t0 one t1 alpha t2 other t3 beta t4 b1 b2 b3 b4 b5 b6
  unfold Pure
  w_top off
  k_with_none
  k_with "MINE enter" => ((refine Mine.enter (vis := []) (by k_asm) (by k_asm) (by k_asm) (by exact News.nil) (by k_asm) (by exact fun _ _ h => nomatch h) (by k_asm) (by exact rfl) (by exact rfl) (by assumption) (by k_is) (by k_is) (by ktr_room) (by exact BindsTo.of_eq rfl) (by exact locs rfl) ?_ (by exact rfl) (by exact rfl) (by exact rfl) (by decide); k_whole; intro g' L' h' FG' F' N' B' X' T' kp'; (try dsimp only); (try k_lift B'); (try k_fold)))
  k_with "MINE enterV" => ((refine Mine.enter (hid := []) (by k_asm) (by k_asm) (by k_asm) (by k_asm) (by exact News.nil) (by exact fun _ h => nomatch h) (by k_asm) (by exact rfl) (by exact rfl) (by assumption) (by k_is) (by k_is) (by ktr_room) (by exact BindsTo.of_eq rfl) (by exact locs rfl) ?_ (by exact rfl) (by exact rfl) (by exact rfl) (by decide); k_whole; intro g' L' h' FG' F' N' B' X' T' kp'; clear kp'; (try dsimp only); (try k_lift B'); (try k_fold)))
  k_with "MINE call ref" => ((k_here; (with_reducible show wpAny _ _ (call (Value.ref 95) _) _ _ _); k_dflt (refine hard_go (by k_asm) (by k_asm) (by k_asm) (by k_asm) (by k_mem) (by k_mem) (by with_reducible assumption) (by with_reducible assumption) (by with_reducible assumption) (by with_reducible assumption) (by with_reducible assumption) (by with_reducible assumption) (by k_asm) (by first | exact rfl | assumption) (by ktr_room) (by ktr_units) ?_; k_whole); intro t9 h9 tk9 F9 N9; (try dsimp only); (try k_sweep); (try k_fold)))
  k_with "MINE call ref" => ((k_here; (with_reducible show wpAny _ _ (call (Value.ref 116) _) _ _ _); k_dflt (refine inner_use (by with_reducible assumption) (by k_asm) (by k_asm) (by k_asm) (by k_asm) (by with_reducible assumption) (by with_reducible assumption) (by with_reducible assumption) (by with_reducible assumption) (by with_reducible assumption) (by with_reducible assumption) (by k_asm) (by first | exact rfl | assumption) (by ktr_room) (by ktr_units) ?_; k_whole); intro t9 h9 tk9 F9 N9; (try dsimp only); (try k_sweep); (try k_fold)))
  k_fill
  intro w loose mean mg mb dp un gd cn cs a ccd cl outer A₀ base h₀ L m news s Q E B F X N T hk hd hu hret
  refine wpAny_call ?_
  k_dflt (walk_at "MINE enter")
  k_steps
  all_goals (exact bp_end hret rfl (by assumption) (by assumption) (stays_back (by assumption) (by assumption)))
theorem bp_0 : BpOk (Str.ofString "normal") (bpV 0) := bp_of inn_0
theorem bp_1 : BpOk (Str.ofString "multiply") (bpV 1) := bp_of inn_1
theorem bp_2 : BpOk (Str.ofString "screen") (bpV 2) := bp_of inn_2
theorem bp_3 : BpOk (Str.ofString "darken") (bpV 3) := bp_of inn_3
theorem bp_4 : BpOk (Str.ofString "lighten") (bpV 4) := bp_of inn_4
theorem bp_5 : BpOk (Str.ofString "hard-light") (bpV 5) := bp_of inn_5
theorem bp_6 : BpOk (Str.ofString "overlay") (bpV 6) := bp_of inn_6
theorem bp_7 : BpOk (Str.ofString "difference") (bpV 7) := bp_of inn_7
theorem bp_8 : BpOk (Str.ofString "exclusion") (bpV 8) := bp_of inn_8
end

section
theorem fdiv_up {a b : Int} (h : a ≤ b) : a.fdiv (2 * 255) ≤ b.fdiv (2 * 255) := by
  rw [Int.fdiv_eq_ediv_of_nonneg _ (by decide), Int.fdiv_eq_ediv_of_nonneg _ (by decide)]
  exact Int.ediv_le_ediv (by decide) h
theorem fdiv_lo {a : Int} (h : 0 ≤ a) : 0 ≤ a.fdiv (2 * 255) := by
  rw [Int.fdiv_eq_ediv_of_nonneg _ (by decide)]
  exact Int.ediv_nonneg h (by decide)

/-- The six products and how they lie. -/
structure Lies (one alpha other beta : Int) : Prop where
  p0 : 0 ≤ one * other
  pa : one * other ≤ one * beta
  pb : one * other ≤ other * alpha
  ac : one * beta ≤ alpha * beta
  bc : other * alpha ≤ alpha * beta
  un : one * beta + other * alpha - one * other ≤ alpha * beta

theorem lies {one alpha other beta : Int} (b1 : 0 ≤ one) (b2 : one ≤ alpha) (b4 : 0 ≤ other) (b5 : other ≤ beta) : Lies one alpha other beta := by
  have e1 : 0 ≤ one * other := Int.mul_nonneg b1 b4
  have e2 : 0 ≤ one * (beta - other) := Int.mul_nonneg b1 (by omega)
  have e3 : 0 ≤ other * (alpha - one) := Int.mul_nonneg b4 (by omega)
  have e4 : 0 ≤ (alpha - one) * beta := Int.mul_nonneg (by omega) (by omega)
  have e5 : 0 ≤ alpha * (beta - other) := Int.mul_nonneg (by omega) (by omega)
  have e6 : 0 ≤ (alpha - one) * (beta - other) := Int.mul_nonneg (by omega) (by omega)
  constructor <;> grind

theorem told_in (i : Nat) {one alpha other beta : Int} (b1 : 0 ≤ one) (b2 : one ≤ alpha) (b4 : 0 ≤ other) (b5 : other ≤ beta) : 0 ≤ toldV i one alpha other beta ∧ toldV i one alpha other beta ≤ alpha * beta := by
  obtain ⟨p0, pa, pb, ac, bc, un⟩ := lies b1 b2 b4 b5
  have e6 : 0 ≤ (alpha - one) * (beta - other) := Int.mul_nonneg (by omega) (by omega)
  unfold toldV
  split
  · exact ⟨by omega, by omega⟩
  · exact ⟨by omega, by omega⟩
  · exact ⟨by omega, by omega⟩
  · split <;> exact ⟨by omega, by omega⟩
  · split <;> exact ⟨by omega, by omega⟩
  · split
    · rename_i h
      have q : 0 ≤ (alpha - 2 * one) * other := Int.mul_nonneg (by omega) b4
      constructor <;> grind
    · rename_i h
      have q : 0 ≤ (2 * one - alpha) * (beta - other) := Int.mul_nonneg (by omega) (by omega)
      constructor <;> grind
  · split
    · rename_i h
      have q : 0 ≤ (beta - 2 * other) * one := Int.mul_nonneg (by omega) b1
      constructor <;> grind
    · rename_i h
      have q : 0 ≤ (2 * other - beta) * (alpha - one) := Int.mul_nonneg (by omega) (by omega)
      constructor <;> grind
  · split <;> exact ⟨by omega, by omega⟩
  · exact ⟨by omega, by omega⟩

theorem bp_lo (i : Nat) {one alpha other beta : Int} (b1 : 0 ≤ one) (b2 : one ≤ alpha) (b3 : alpha ≤ 255) (b4 : 0 ≤ other) (b5 : other ≤ beta) (b6 : beta ≤ 255) : 0 ≤ bpV i one alpha other beta := by
  have t := told_in i b1 b2 b4 b5
  have q1 : 0 ≤ one * (255 - beta) := Int.mul_nonneg b1 (by omega)
  have q2 : 0 ≤ other * (255 - alpha) := Int.mul_nonneg b4 (by omega)
  exact fdiv_lo (by omega)
theorem bp_hi (i : Nat) {one alpha other beta : Int} (b1 : 0 ≤ one) (b2 : one ≤ alpha) (b3 : alpha ≤ 255) (b4 : 0 ≤ other) (b5 : other ≤ beta) (b6 : beta ≤ 255) : bpV i one alpha other beta ≤ (2 * (alpha * 255 + beta * (255 - alpha)) + 255).fdiv (2 * 255) := by
  have t := (told_in i b1 b2 b4 b5).2
  have q1 : 0 ≤ (alpha - one) * (255 - beta) := Int.mul_nonneg (by omega) (by omega)
  have q2 : 0 ≤ (beta - other) * (255 - alpha) := Int.mul_nonneg (by omega) (by omega)
  refine fdiv_up ?_
  grind
theorem fdiv_out {x : Int} : (2 * (x * 255) + 255).fdiv (2 * 255) = x := by
  rw [Int.fdiv_eq_ediv_of_nonneg _ (by decide)]
  omega
theorem bp_left (i : Nat) {other beta : Int} : bpV i 0 0 other beta = other := by
  have e : toldV i 0 0 other beta = 0 := by
    unfold toldV
    split <;> simp
  unfold bpV
  rw [e]
  simp only [Int.zero_mul, Int.zero_add, Int.sub_zero]
  exact fdiv_out
theorem bp_right (i : Nat) {one alpha : Int} : bpV i one alpha 0 0 = one := by
  have e : toldV i one alpha 0 0 = 0 := by
    unfold toldV
    split <;> simp
  unfold bpV
  rw [e]
  simp only [Int.zero_mul, Int.zero_add, Int.sub_zero, Int.add_zero]
  exact fdiv_out
/-- The modes that leave above and below to be exchanged. -/
theorem bp_sym {i : Nat} (hi : i = 1 ∨ i = 2 ∨ i = 3 ∨ i = 4 ∨ i = 7 ∨ i = 8) (one alpha other beta : Int) : bpV i one alpha other beta = bpV i other beta one alpha := by
  unfold bpV
  congr 1
  congr 1
  congr 1
  rcases hi with rfl | rfl | rfl | rfl | rfl | rfl <;> simp only [toldV] <;> grind
theorem bp_over (one alpha other beta : Int) : bpV 6 one alpha other beta = bpV 5 other beta one alpha := by
  unfold bpV
  congr 1
  congr 1
  congr 1
  simp only [toldV]
  grind
theorem ite_no {c : Prop} [Decidable c] {p q : Prop} (hc : ¬ c) (h : q) : if c then p else q := by rw [if_neg hc]; exact h
theorem ite_yes {c : Prop} [Decidable c] {p q : Prop} (hc : c) (h : p) : if c then p else q := by rw [if_pos hc]; exact h
theorem no_self {x : Int} : ¬ ((x != x) = true) := by simp
theorem no_left {i : Nat} {other beta : Int} : ¬ ((bpV i 0 0 other beta != other) = true) := by simp [bp_left]
theorem no_right {i : Nat} {one alpha : Int} : ¬ ((bpV i one alpha 0 0 != one) = true) := by simp [bp_right]
theorem no_sym {i : Nat} {one alpha other beta : Int} (hi : i = 1 ∨ i = 2 ∨ i = 3 ∨ i = 4 ∨ i = 7 ∨ i = 8) : ¬ ((bpV i one alpha other beta != bpV i other beta one alpha) = true) := by simp [bp_sym hi one alpha other beta]
theorem no_over {one alpha other beta : Int} : ¬ ((bpV 6 one alpha other beta != bpV 5 other beta one alpha) = true) := by simp [bp_over]
theorem no_hi {i : Nat} {one alpha other beta : Int} (b1 : 0 ≤ one) (b2 : one ≤ alpha) (b3 : alpha ≤ 255) (b4 : 0 ≤ other) (b5 : other ≤ beta) (b6 : beta ≤ 255) : ¬ ((!decide (bpV i one alpha other beta ≤ (2 * (alpha * 255 + beta * (255 - alpha)) + 255).fdiv (2 * 255))) = true) := by
  rw [decide_eq_true (bp_hi i b1 b2 b3 b4 b5 b6)]
  decide
theorem yes_lo {i : Nat} {one alpha other beta : Int} (b1 : 0 ≤ one) (b2 : one ≤ alpha) (b3 : alpha ≤ 255) (b4 : 0 ≤ other) (b5 : other ≤ beta) (b6 : beta ≤ 255) : decide (0 ≤ bpV i one alpha other beta) = true :=
  decide_eq_true (bp_lo i b1 b2 b3 b4 b5 b6)
end

section
section
variable {prog : Program} {w : World} {A : Around} {E : Value → Shared → Prop} {s : Shared} {env : Env} {h₀ : Heap} {x : Str} {body : List Stmt} {Q : Flow → Shared → Prop}

/-- The end of a turn that stores the names n2, n3, n4 alone and keeps the list that it walks. -/
def TurnPost (h₀ : Heap) (L : Addr) (x n2 n3 n4 : Str) (m₀ : Str → Option Value) (I : Addr) (it : Obj) (lp : Addr × Obj) (s : Shared) (f : Flow) (s₂ : Shared) : Prop :=
  f = .next ∧ ∃ h' tk m', s₂ = { s with heap := h', toks := tk } ∧ Fr h₀ L h' m' ∧ News h₀ L h' [(I, it), lp] ∧ ∀ y, y ≠ x → y ≠ n2 → y ≠ n3 → y ≠ n4 → m' y = m₀ y

theorem turn_post {L : Addr} {n2 n3 n4 : Str} {m₀ m' : Str → Option Value} {I : Addr} {it : Obj} {lp : Addr × Obj} {s : Shared} {h' : Heap} {tk : Nat} {news : List (Addr × Obj)}
    (F : Fr h₀ L h' m') (N : News h₀ L h' news) (h1 : (I, it) ∈ news) (h2 : lp ∈ news) (hm : ∀ y, y ≠ x → y ≠ n2 → y ≠ n3 → y ≠ n4 → m' y = m₀ y) : TurnPost h₀ L x n2 n3 n4 m₀ I it lp s .next { s with heap := h', toks := tk } := by
  refine ⟨rfl, h', tk, m', rfl, F, fun p hp => ?_, hm⟩
  rcases List.mem_cons.mp hp with rfl | hp
  · exact N _ h1
  · rw [List.mem_singleton.mp hp]; exact N _ h2

theorem names4 {x n2 n3 n4 : Str} {m m₀ : Str → Option Value} (hm : ∀ y, y ≠ x → y ≠ n2 → y ≠ n3 → y ≠ n4 → m y = m₀ y) : m = fun y => if y = x then m x else if y = n2 then m n2 else if y = n3 then m n3 else if y = n4 then m n4 else m₀ y := by
  funext y
  split
  · rename_i e; rw [e]
  · split
    · rename_i e; rw [e]
    · split
      · rename_i e; rw [e]
      · split
        · rename_i e; rw [e]
        · exact hm y (by assumption) (by assumption) (by assumption) (by assumption)
theorem names4v {x n2 n3 n4 : Str} {v : Value} {m m₀ : Str → Option Value} (hm : ∀ y, y ≠ x → y ≠ n2 → y ≠ n3 → y ≠ n4 → m y = m₀ y) : (fun y => if y = x then some v else m y) = fun y => if y = x then some v else if y = n2 then m n2 else if y = n3 then m n3 else if y = n4 then m n4 else m₀ y := by
  funext y
  split
  · rfl
  · split
    · rename_i e; rw [e]
    · split
      · rename_i e; rw [e]
      · split
        · rename_i e; rw [e]
        · exact hm y (by assumption) (by assumption) (by assumption) (by assumption)

theorem rest_all {I : Addr} {lp : Addr × Obj} (n2 n3 n4 : Str) (m₀ : Str → Option Value) (hI : lp.1 ≠ I)
    (done : ∀ a b c d h tk, Fr h₀ env.locals h (fun y => if y = x then a else if y = n2 then b else if y = n3 then c else if y = n4 then d else m₀ y) → News h₀ env.locals h [lp] → Q .next { s with heap := h, toks := tk }) :
    ∀ (vs : List Value)
    (turn : ∀ v ∈ vs, ∀ b c d it h tk, Fr h₀ env.locals h (fun y => if y = x then some v else if y = n2 then b else if y = n3 then c else if y = n4 then d else m₀ y) → News h₀ env.locals h [(I, it), lp] →
      wpAny (model prog w) A (execs body env) (TurnPost h₀ env.locals x n2 n3 n4 m₀ I it lp { s with heap := h, toks := tk }) E { s with heap := h, toks := tk })
    (m : Str → Option Value) (hm : ∀ y, y ≠ x → y ≠ n2 → y ≠ n3 → y ≠ n4 → m y = m₀ y) (news : List (Addr × Obj)) (hl : lp ∈ news), ListRest prog w A E h₀ env x body Q s I lp vs m news
  | [], turn, m, hm, news, hl => by
    refine ListRest.zero fun h tk F N => done (m x) (m n2) (m n3) (m n4) h tk ?_ ?_
    · exact names4 hm ▸ F
    · intro p hp
      rw [List.mem_singleton.mp hp]; exact N _ hl
  | v :: r, turn, m, hm, news, hl => by
    refine ListRest.succ fun it h tk hit F N => ?_
    have F' : Fr h₀ env.locals h (fun y => if y = x then some v else if y = n2 then m n2 else if y = n3 then m n3 else if y = n4 then m n4 else m₀ y) := by
      exact names4v hm ▸ F
    refine wpAny_mono (turn v (.head _) (m n2) (m n3) (m n4) it h tk F' ?_) (fun f s₂ p => ?_) fun _ _ e => e
    · intro p hp
      rcases List.mem_cons.mp hp with rfl | hp
      · exact N _ (.head _)
      · rw [List.mem_singleton.mp hp]; exact N _ (.tail _ hl)
    · obtain ⟨rfl, h', tk', m', rfl, F₂, N₂, hm'⟩ := p
      refine ⟨h', tk', m', [lp], rfl, F₂, N₂, fun p hp => ?_, .head _, ?_⟩
      · rw [List.mem_singleton.mp hp]; exact hI
      · exact rest_all n2 n3 n4 m₀ hI done r (fun v hv => turn v (.tail _ hv)) m' hm' [lp] (.head _)
end
end

section
set_option maxHeartbeats 4000000
open Builtin Builtin.ObjectAttr

/-- An exception object of an own class, as its `__new__` leaves it. -/
abbrev excObj (C t : Addr) (d : Option Addr) : Obj := { cls := .ref C, dict := d, data := .fields #[.ref t, .none, .none, .none, .bool false, .none] }
abbrev tupObj (vs : List Value) : Obj := { cls := .type "tuple", data := .seq vs.toArray }

section
variable {prog : Program} {w : World} {A : Around} {h : Heap} {g : Array GenState} {d : Drawn} {t : Nat} {os : OsState}
variable {nm q : Str} {C N : Addr} {bs bm bmB : List Value} {hdct : Bool} {sn : List Str} {sub : List Value} {ab : Bool} {col : Option Bool} {dd : Option Addr} {k0 k1 k2 k3 k5 : Option Value} {B newId initId : String}

/-- The own class stands below the built-in one, and is no AttributeError and no NameError. -/
structure BelowB (B : String) (bm : List Value) : Prop where
  has : bm.contains (.type B) = true
  noA : bm.contains (.type "AttributeError") = false
  noN : bm.contains (.type "NameError") = false

theorem new_check (F : ExcBaseFacts B newId initId bmB) (T : BelowB B bm) {rest : List Value} {E : Value → Shared → Prop} {Q : Unit → Shared → Prop} (hC : h.get? C = some (excClassObj nm q C N bs bm hdct sn sub ab col dd k0 k1 k2 k3 k5 newId))
    (hq : Q () ⟨h, g, d, t, os⟩) : wpAny (model prog w) A (checkBuiltinCall newId ⟨.ref C :: rest, []⟩) Q E ⟨h, g, d, t, os⟩ := by
  have hcont : (Value.ref C :: bm).contains (.type B) = true := by rw [List.contains_cons, T.has, Bool.or_true]
  have hstar := F.noStar
  simp only [checkBuiltinCall, F.newKind, F.newSplit, F.newRow]
  repeat (first | refine wpAny_loadPart_at hC ?_ | (refine wpAny_isSubtype_exc hC ?_; rw [hcont]) | refine wpAny_staticBase_exc hC ?_ | refine wpAny_madeBy_exc hC ?_ | simp only [bne_self_eq_false, Bool.false_eq_true, if_false] | wp_step)
  exact hq

theorem new_code (F : ExcBaseFacts B newId initId bmB) (T : BelowB B bm) {rest : List Value} {R : Result → Shared → Prop} (hC : h.get? C = some (excClassObj nm q C N bs bm hdct sn sub ab col dd k0 k1 k2 k3 k5 newId))
    (hq : R (.ok (.ret (.ref (h.objs.size + 1)))) ⟨(h.push (tupObj rest)).push (excObj C h.objs.size none), g, d, t, os⟩) (hrest : rest.length ≤ sizeLine) :
    codeAny (model prog w) A (.builtin newId ⟨.ref C :: rest, []⟩) R ⟨h, g, d, t, os⟩ := by
  have hends := F.ends
  have hcB : (Value.ref C :: bm).contains (.type B) = true := by rw [List.contains_cons, T.has, Bool.or_true]
  have hcA : (Value.ref C :: bm).contains (.type "AttributeError") = false := by rw [List.contains_cons, T.noA]; rfl
  have hcN : (Value.ref C :: bm).contains (.type "NameError") = false := by rw [List.contains_cons, T.noN]; rfl
  refine codeAny_builtinAt F.entry ?_
  unfold Builtin.«BaseException.__new__»
  refine PySem.wpAt_bind ?_
  show PySem.wpAt _ _ _ (stack >>= _) _ _ _
  refine PySem.wpAt_bind (PySem.wpAt_stack fun p below => PySem.wpAt_of_wpAny ?_)
  wp_walk
  refine PySem.wpAt_of_wpAny ?_
  rw [F.owner]
  repeat (first | with_reducible refine wpAny_madeHere_exc F.canon hC ?_ | with_reducible refine wpAny_loadPart_at hC ?_ | (with_reducible refine wpAny_isSubtype_exc hC ?_; first | rw [hcB] | rw [hcA] | rw [hcN]) | wp_step)
  show R _ _
  rw [Heap.size_push]
  exact hq
end

section
variable {prog : Program} {w : World} {A : Around} {K : Frag} {h₀ : Heap} {L : Addr} {m : Str → Option Value} {news : List (Addr × Obj)} {s : Shared}
variable {nm q : Str} {C Nn : Addr} {bs bm bmB : List Value} {hdct : Bool} {sn : List Str} {sub : List Value} {ab : Bool} {col : Option Bool} {dd : Option Addr} {k0 k1 k2 k3 k5 : Option Value} {B newId initId : String}

/-- An own exception is made: its class or one above it has an `__init__` of its own. -/
theorem exc_call {fI : Addr} {rest : List Value} {Q : Value → Shared → Prop} {E : Value → Shared → Prop} (F : Fr h₀ L s.heap m) (X₀ : K.In h₀) (Nw : News h₀ L s.heap news)
    (FB : ExcBaseFacts B newId initId bmB) (T : BelowB B bm) (hC : K.lookup C = some (excClassObj nm q C Nn bs bm hdct sn sub ab col dd k0 k1 k2 k3 k5 newId))
    (hi : findIn K (.ref C) "__init__" = some (some (.ref fI))) (hf : typeIn K (.ref fI) = some (.type "function")) (hrest : rest.length ≤ sizeLine)
    (hq : ∀ e t h', Fr h₀ L h' m → News h₀ L h' ((e, excObj C t none) :: (t, tupObj rest) :: news) → (∀ p ∈ news, p.1 < t) → t < e →
      codeAny (model prog w) (A.under (.builtin "type.__call__" ⟨.ref C :: rest, []⟩)) (.call (.ref fI) ⟨.ref e :: rest, []⟩) (InitBack e fun r s' => match r with | .ok (.ret v) => Q v s' | .ok _ => False | .error e => E e s') { s with heap := h' }) :
    wpAny (model prog w) A (call (.ref C) rest []) Q E s := by
  have hX := (X₀.keeps F.keep)
  have N1 := Nw.push F (tupObj rest)
  have N2 := N1.push (F.push (tupObj rest)) (excObj C s.heap.objs.size none)
  rw [Heap.size_push] at N2
  have lt := fun p hp => Heap.lt_size (Nw p hp).1
  have F2 := (F.push (tupObj rest)).push (excObj C s.heap.objs.size none)
  have hq' := hq _ _ _ F2 N2 lt (Nat.lt_succ_self _)
  clear hq
  obtain ⟨hh, g, d, t, os⟩ := s
  have hC' : hh.get? C = some (excClassObj nm q C Nn bs bm hdct sn sub ab col dd k0 k1 k2 k3 k5 newId) := hX _ _ hC
  have f1 := tc_lookup
  have f2 := tc_bind (.ref C)
  have hT : (⟨hh, g, d, t, os⟩ : Shared).TypeIs (.ref C) "type" := ⟨_, hC', rfl⟩
  refine wpAny_call (codeAny_of_tree ?_)
  show wpAny _ _ (callAny (.ref C) _) _ _ _
  repeat (any_goals (first | assumption | with_reducible refine wpAny_loadPart_at hC' ?_ | wp_step))
  refine ⟨rfl, ?_⟩
  refine codeAny_call_builtin_at (Code.quiet_builtin _ (by decide +kernel)) entry_typeCall (wpAny_check_type_call_sub hC' ?_)
  repeat (first | with_reducible refine wpAny_loadPart_at hC' ?_ | with_reducible refine wpAny_madeBy_exc hC' ?_ | wp_step)
  refine codeAny_call_builtin_code (Code.quiet_builtin _ FB.quiet) (new_check FB T hC' ?_)
  refine new_code (rest := rest) FB T hC' ?_ hrest
  show wpAny _ _ _ _ _ _
  have keep : ∀ b o, hh.get? b = some o → ((hh.push (tupObj rest)).push (excObj C hh.objs.size none)).get? b = some o := fun b o e => Heap.get?_push_of_some _ (Heap.get?_push_of_some _ e)
  have hC₁ := keep _ _ hC'
  have hget : ((hh.push (tupObj rest)).push (excObj C hh.objs.size none)).get? (hh.objs.size + 1) = some { cls := .ref C, data := .fields #[.ref hh.objs.size, .none, .none, .none, .bool false, .none] } := (N2 _ (.head _)).1
  have hcC : (Value.ref C :: bm).contains (.ref C) = true := by simp
  unfold isInstance
  repeat (first | (with_reducible refine wpAny_loadPart_at hget ?_; dsimp only) | (with_reducible refine wpAny_isSubtype_exc hC₁ ?_; rw [hcC]) | wp_step)
  have hX₁ : K.In ((hh.push (tupObj rest)).push (excObj C hh.objs.size none)) := hX.keeps keep
  refine Looks.at (looks_findIn hX₁ hi) ?_
  refine wpAny_holding (wpAny_bind (Looks.at (bind_fn hX₁ _ hf) ?_))
  refine wpAny_bind (wpAny_call (codeAny_mono hq' fun r s' z => ?_))
  rcases r with e | (v | _ | _ | _) <;> first | exact z | exact z.elim | skip
  obtain ⟨rfl, z⟩ := z
  wp_walk
  exact z
end
end

section
set_option maxHeartbeats 4000000
open Builtin Builtin.ObjectAttr
section
variable {prog : Program} {w : World} {A : Around} {K : Frag} {C C' : Addr} {h₀ : Heap} {L : Addr} {m : Str → Option Value} {news : List (Addr × Obj)} {s : Shared}

theorem same_news {d : Addr} {h h' : Heap} (N : News h₀ L h news) (ap : ∀ q ∈ news, q.1 ≠ d) (hs : Heap.SameBut d h h') : News h₀ L h' news :=
  fun q hq => ⟨(hs.2 q.1 (ap q hq)).trans (N q hq).1, (N q hq).2⟩

/-- An attribute is stored into an own exception that has no dict yet. -/
theorem exc_store {e t : Addr} {name : Str} {v : Value} {cd : ClassData} {Q : Unit → Shared → Prop} {E : Value → Shared → Prop} (F : Fr h₀ L s.heap m) (X₀ : K.In h₀) (N : News h₀ L s.heap ((e, excObj C t none) :: news)) (ap : ∀ q ∈ news, q.1 ≠ e)
    (hs : findIn K (.ref C) "__setattr__" = some (some (.builtin "object.__setattr__"))) (hc : clsIn K C = some cd) (hm : cd.mro = [.ref C, .ref C', .type "Exception", .type "BaseException", .type "object"]) (hh : cd.hasDict = true)
    (hn : findIn K (.ref C) name = some none)
    (h : ∀ h' tk' dx, Fr h₀ L h' m → News h₀ L h' ((e, excObj C t (some dx)) :: news) → Q () { s with heap := h', toks := tk' }) :
    wpAny (model prog w) A (setAttr (.ref e) name v) Q E s := by
  obtain ⟨hp, g, d, tk, os⟩ := s
  dsimp only at F N
  have X := X₀.keeps F.keep
  have hx := (N _ (.head _)).1
  have I : InstAt hp e (excObj C t none) C none := ⟨hx, rfl, rfl, trivial⟩
  refine set_plain X I hs ?_
  have SF := PySem.F.store_object
  have sub : Looks (model prog w) hp (isInstance (.ref e) (.type "object")) true := I.type.andThen (looks_mroIn X (by unfold mroIn; rw [hc, Option.bind_some, hm]; rfl))
  refine codeAny_call_builtin SF.slot.plain SF.entry (@check_slot (model prog w) _ _ _ "object.__setattr__" "object" "__setattr__" (.ref e) [.str name tk, v] [] _ SF.kind SF.split sub (SF.args (.ref e) (.str name tk) v) ?_)
  have hmro : Looks (model prog w) hp (mroOf (.ref C)) cd.mro := (looks_clsIn X hc).andThen .now
  rw [osa_eq, refuse_eq]
  refine wpAny_bind (wpAny_bind (I.type.at (wpAny_bind (hmro.at ?_))))
  rw [hm, refuseLoop_ref, refuseLoop_ref, PySem.F.store_Exception.passes]
  refine wpAny_pure (wpAny_bind (I.type.at (wpAny_bind ((looks_findIn X hn).at (wpAny_bind (wpAny_pure ?_))))))
  dsimp only
  have hL := (N _ (.head _)).2.1
  have h0 := (N _ (.head _)).2.2
  have F1 := F.push emptyDict
  have N1 : News h₀ L (hp.push emptyDict) ((e, excObj C t none) :: news) := N.pushKeep _
  have hes : e < hp.objs.size := Heap.lt_size hx
  have hx₁ := (N1 _ (.head _)).1
  have nd : ∀ q ∈ news, q.1 ≠ hp.objs.size := fun q hq => Nat.ne_of_lt (Heap.lt_size (N q (.tail _ hq)).1)
  have hDL : hp.objs.size ≠ L := Nat.ne_of_gt F.ns.lt
  have hD0 : h₀.get? hp.objs.size = none := F.fresh
  have S2 : Heap.SameBut e (hp.push emptyDict) ((hp.push emptyDict).update e fun o => { o with dict := some hp.objs.size }) := by
    refine ⟨?_, fun b hb => Heap.get?_update_ne _ _ _ _ hb⟩
    simp [Heap.update]
  have e2 : ((hp.push emptyDict).update e fun o => { o with dict := some hp.objs.size }).get? e = some (excObj C t (some hp.objs.size)) := Heap.get?_update_self _ hx₁ rfl
  have F2 := F1.change S2 hL h0
  have N2 := News.setHead N1 ap S2 e2
  have hgd : ((hp.push emptyDict).update e fun o => { o with dict := some hp.objs.size }).get? hp.objs.size = some emptyDict :=
    (Heap.get?_update_ne _ _ _ _ (Nat.ne_of_gt hes)).trans (Heap.get?_push_at rfl rfl)
  have hnd : ((hp.push emptyDict).update e fun o => { o with dict := some hp.objs.size }).Ns hp.objs.size (fun _ => none) :=
    ⟨_, #[], _, hgd, rfl, fun e he => absurd he (by simp), fun _ => rfl⟩
  refine wpAny_bind (wpAny_pure (wpAny_bind (wpAny_bind (wpAny_loadPart hx (wpAny_bind ((looks_clsIn X hc).at ?_))))))
  rw [hh]
  show wpAny _ _ (do
      let d ← alloc { cls := Value.type "dict", data := Data.dict #[] }
      update e fun o => { cls := o.cls, dict := some d, data := o.data, slots := o.slots }
      dictMade (.ref C) e d) _ _ _
  refine wpAny_bind (wpAny_alloc' (wpAny_bind (wpAny_update' hx₁ (wpAny_pure ?_))))
  show wpAny _ _ (storeInDict hp.objs.size (.str name tk) name v) _ _ _
  unfold storeInDict newKeyGuard
  refine wpAny_bind (wpAny_pure (wpAny_bind (wpAny_nsSet1 (Heap.Ns1.of_empty hnd) fun h' hn' hs' => ?_)))
  have F3 := F2.change hs' hDL hD0
  have N3 : News h₀ L h' ((e, excObj C t (some hp.objs.size)) :: news) := same_news N2 (fun q hq => by
    rcases List.mem_cons.mp hq with rfl | hq
    · exact Nat.ne_of_lt hes
    · exact nd q hq) hs'
  obtain ⟨oD, esD, epD, hoD, hdD, hcD⟩ := hn'.count (Within.cons name v Within.nil)
  refine wpAny_bind (wpAny_lookBehind hoD (by rw [hdD]; exact pastItsLine_dict (Nat.le_trans hcD (by rw [List.length_cons, List.length_nil, sizeLine_eq]; omega))) ?_)
  exact wpAny_pure (h _ _ _ F3 N3)
end
end

section
set_option maxHeartbeats 4000000

/-- The value is an own exception that stands in the heap; it may be raised. -/
def RaisableO (C : Addr) (h₀ : Heap) (E : Value → Shared → Prop) (v : Value) (s₁ : Shared) : Prop :=
  ∃ e t d, v = .ref e ∧ (∀ b o, h₀.get? b = some o → s₁.heap.get? b = some o) ∧ s₁.heap.get? e = some (excObj C t d) ∧ E (.ref e) s₁

section
variable {M : Model} {A : Around} {E : Value → Shared → Prop} {s s' : Shared} {h₀ : Heap} {env : Env} {K : Frag}
variable {nm q : Str} {C Nn : Addr} {bs bm : List Value} {hdct : Bool} {sn : List Str} {sub : List Value} {ab : Bool} {col : Option Bool} {dd : Option Addr} {k0 k1 k2 k3 k5 : Option Value} {newId : String}

theorem raise_exc {L : Addr} {m : Str → Option Value} {x : PySem.Expr} {pos : Pos} {Q : Flow → Shared → Prop} (F₀ : Fr h₀ L s.heap m) (X₀ : K.In h₀) (hC : K.lookup C = some (excClassObj nm q C Nn bs bm hdct sn sub ab col dd k0 k1 k2 k3 k5 newId)) (hbase : bm.contains (.type "BaseException") = true) (hh : A.handled = none)
    (h : wpAny M A (eval x env) (RaisableO C h₀ E) E s) : wpAny M A (exec (.Raise (some x) none pos) env) Q E s := by
  have hcB : (Value.ref C :: bm).contains (.type "BaseException") = true := by rw [List.contains_cons, hbase, Bool.or_true]
  show wpAny M A (do standAt pos; raiseStmt env (some (do let v ← eval x env; standAt pos; pure v)) none) Q E s
  refine wpAny_bind (wpAny_standAt ?_)
  unfold raiseStmt
  dsimp only
  refine wpAny_bind (wpAny_bind (wpAny_mono h (fun v s₁ h₁ => wpAny_bind (wpAny_standAt (wpAny_pure ?_))) fun _ _ x => x))
  obtain ⟨e, t, dx, rfl, hk, he, hE⟩ := h₁
  have hC₁ := hk _ _ (X₀ _ _ hC)
  obtain ⟨hp, g, d, tk, os⟩ := s₁
  repeat (first | (with_reducible refine wpAny_loadPart_at he ?_; dsimp only) | with_reducible refine wpAny_loadPart_at hC₁ ?_ | (with_reducible refine wpAny_isSubtype_exc hC₁ ?_; rw [hcB]) | wp_step)
  exact wpAny_raiseNew_none hh hE
end

section
variable {M : Model} {A : Around} {E : Value → Shared → Prop} {s' : Shared} {base g : Heap} {outer : List Env} {L a e t C : Addr} {d : Option Addr} {vs : List Value} {m : Str → Option Value} {name : Str} {scope : Scope} {cd : Value} {Q : Unit → Shared → Prop} {all : List (Addr × Obj)}

/-- An own exception leaves the frame that raised it. -/
theorem leave_exc (K : Below A base outer g) (F : Fr g L s'.heap m) (N : News g L s'.heap all) (he : (e, excObj C t d) ∈ all) (ht : (t, tupObj vs) ∈ all)
    (hQ : ∀ h' t, RaisedS base g outer e (.ref C) t vs [] h' → RaisedK base outer e (.ref C) t vs [] h' → g.UpToSlots h' → Q () { s' with heap := h' }) (hk : scope.kind = .function := by rfl) :
    wpAny M (A.deeper (envOf name scope L a cd)) (leaving (envOf name scope L a cd) (.ref e)) Q E s' := by
  have ne : ∀ b o, g.get? b = some o → b ∉ [e, t] := fun b o q hb => by
    rcases List.mem_cons.mp hb with rfl | hb
    · rw [N.fresh he] at q; cases q
    · rw [List.mem_singleton.mp hb, N.fresh ht] at q; cases q
  have F₁ : Fr g L (hideAll s'.heap [e, t]) m := by
    refine ⟨?_, fun b o q => hideAll_get _ (F.keep b o q) (ne b o q), F.above⟩
    obtain ⟨o, es, ep, ho, r⟩ := F.ns
    refine ⟨o, es, ep, hideAll_get _ ho fun hb => ?_, r⟩
    rcases List.mem_cons.mp hb with z | hb
    · exact N.ne_locals he z.symm
    · exact N.ne_locals ht (List.mem_singleton.mp hb).symm
  have K' := K.push (name := name) (a := a) (cd := cd) F₁ hk
  have hin : ∀ env ∈ (envOf name scope L a cd :: outer), ∀ b, env.frame = some b → b ∈ (envOf name scope L a cd :: outer).filterMap (·.frame) := fun env he b hb => List.mem_filterMap.mpr ⟨env, he, hb⟩
  have st : base.StaysIn (hideAll (hideAll s'.heap [e, t]) ((envOf name scope L a cd :: outer).filterMap (·.frame))) := fun b o q => hideAll_get _ (K'.stays b o q) fun hm => by
    rw [(K'.frames.mem hm).1] at q; cases q
  have hB : ∀ b o, (hideAll (hideAll s'.heap [e, t]) ((envOf name scope L a cd :: outer).filterMap (·.frame))).get? b = some o → s'.heap.get? b = some o := fun b o q => of_hideAll _ (of_hideAll _ q)
  have fresh : ∀ b, b ∈ [e, t] → (hideAll (hideAll s'.heap [e, t]) ((envOf name scope L a cd :: outer).filterMap (·.frame))).get? b = none := fun b hb => by
    cases q : (hideAll (hideAll s'.heap [e, t]) ((envOf name scope L a cd :: outer).filterMap (·.frame))).get? b with
    | none => rfl
    | some o => have := of_hideAll _ q; rw [hideAll_none _ hb] at this; cases this
  have sg : ∀ b o, g.get? b = some o → b ∉ outer.filterMap (·.frame) → (hideAll (hideAll s'.heap [e, t]) ((envOf name scope L a cd :: outer).filterMap (·.frame))).get? b = some o := fun b o q nm => hideAll_get _ (F₁.keep b o q) fun hm => by
    rcases kts_mem hm with z | z
    · rw [z, kts_self F₁] at q
      cases q
    · exact nm z
  have hfr := (funFrames_hide K'.frames hin).of_keeps fun b o hb _ => (⟨o, of_hideAll _ hb, rfl⟩ : ∃ o', s'.heap.get? b = some o' ∧ o'.data = o.data)
  refine wpAny_leaving_firstW (a0 := .ref t) K'.stack hfr rfl (N.get he) hB (fresh e (.head _)) rfl rfl rfl fun h' hL => ?_
  obtain ⟨k1, ⟨_, _, k2⟩, k3, k4⟩ := hL
  have R : RaisedS base g outer e (.ref C) t vs [] h' := ⟨⟨_, st, sg, (fun _ h => nomatch h), ⟨k1, fresh e (.head _), k2, k3⟩, fresh t (.tail _ (.head _))⟩, Heap.TupAt.of_slots ⟨_, _, N.get ht, rfl, rfl⟩ k4⟩
  exact hQ h' t R R.toK ((Heap.UpToSlots.of_keeps F.keep).trans k4)
end
end

section
section
variable {prog : Program} {w : World} {A₀ A : Around} {s : Shared} {base h₀ : Heap} {L a : Addr} {m : Str → Option Value} {cn : Str} {cs : Scope} {ccd : Value} {hid : List (Addr × Obj)} {K : Frag} {p : Program} {loose : List Str} {mean : ExcName → Option Value} {mg mb : Str → Option Value}
    {R : Result → Shared → Prop} {name qual : Str} {params : Arguments} {body : List Stmt} {scope : Scope} {dV kV doc pm cdv ct oc : Value} {an od : Option Addr} {osl : Array (Option Value)} {f : Addr} {args : Args} {binds : List (Str × Value)}

/-- A def that catches is entered from the bottom frame; the caller's ledger is kept as it stands. -/
theorem enterS (B : Below A₀ base [] h₀) (F : Fr h₀ L s.heap m) (X₀ : K.In h₀) (H : News h₀ L s.heap hid) (T : Top p loose mean mg mb h₀) (hA : A.frames = some [envOf cn cs L a ccd])
    (ho : K.lookup f = some ⟨oc, od, .func (fnOf name qual params body scope dV kV doc pm an cdv ct), osl⟩) (hcd : codeIn K cdv qual = true) (hroom : A.depth < recursionLimit)
    (hbind : BindsTo s (fnOf name qual params body scope dV kV doc pm an cdv ct) args binds) (hloc : ∀ y ∈ binds, scope.names.lookup y.1 = some .local)
    (h : ∀ g L' h₁, Fr h₀ L g m → Fr g L' h₁ (fun y => binds.reverse.lookup y) → News g L' h₁ [] → Below A base [envOf cn cs L a ccd] g → K.In g → Top p loose mean mg mb g → KtsDicts ([envOf cn cs L a ccd].filterMap (·.frame)) g →
      wpAny (model prog w) (A.deeper (envOf qual scope L' f cdv)) (execs body (envOf qual scope L' f cdv))
        (fun fl s' => LeaveS0 ([envOf cn cs L a ccd].filterMap (·.frame)) h₀ L m g (fun r s'' => News h₀ L s''.heap hid → R r s'') (match fl with | .ret v => v | _ => .none) s')
        (fun e s' => wpAny (model prog w) (A.deeper (envOf qual scope L' f cdv)) (leaving (envOf qual scope L' f cdv) e) (fun _ s'' => R (.error e) s'') (fun e' s'' => R (.error e') s'') s')
        { s with heap := h₁, toks := s.toks + binds.length })
    (hck : cs.kind = .function) (hco : scope.isCoroutine = false) (hgen : scope.isGenerator = false) (hk : scope.kind = .function)
    (hcell : ∀ x ∈ scope.names, x.2 ≠ .cell) : codeAny (model prog w) A (.call (.ref f) args) R s := by
  have X := X₀.keeps F.keep
  refine codeAny_call_def (fd := fnOf name qual params body scope dV kV doc pm an cdv ct) (body := body) (binds := binds) hroom (X _ _ ho) rfl (T.nolimit.keeps F.keep) (codeRec_of X hcd) rfl hbind hcell hloc (fun h₁ hns hk₁ => ?_) hco hgen hk
  obtain ⟨oL, es, ep, hLg, hLd, hN, hNs, st, B₂⟩ := kts_enter B F (News.nil : News h₀ L s.heap []) hA hck
  refine wpAny_mono (h _ s.heap.objs.size h₁ ⟨hN _ hLg, st, F.above⟩ ⟨hns, fun b o e => hk₁ b o (of_hideAll _ e), Nat.le_of_eq (hideAll_size _ _)⟩ News.nil B₂ (X₀.keeps st) (T.keeps st) (fun b hb => by
      rcases kts_mem hb with rfl | z
      · exact ⟨oL, es, ep, hLg, hLd⟩
      · simp at z)) (fun fl s' hl => ?_) fun _ _ y => y
  obtain ⟨g', L', m', news', T', F', N', k⟩ := hl
  have nL₀ : h₀.get? L = none := kts_self F
  obtain ⟨sl, hs⟩ := T'.up hLg
  refine k ⟨hNs sl _ (F'.keep _ _ hs), fun b o e => F'.keep b o (T'.other b o (st b o e) (fun q => by
    rcases kts_mem q with z | z
    · rw [z, nL₀] at e
      cases e
    · simp at z)), F.above⟩ (fun p hp => ⟨(N' p hp).1, fun q => ?_, ?_⟩) (fun q hq => ⟨F'.keep _ _ (T'.other _ _ (hideAll_get _ (H q hq).1 (by simp)) (fun z => by
      rcases kts_mem z with z | z
      · exact (H q hq).2.1 z
      · simp at z)), (H q hq).2.1, (H q hq).2.2⟩)
  · have := (N' p hp).2.2; rw [q, hs] at this; cases this
  · cases q : h₀.get? p.1 with
    | none => rfl
    | some o =>
      obtain ⟨sl', hs'⟩ := T'.up (st _ _ q)
      have := (N' p hp).2.2
      rw [hs'] at this
      cases this
end
end

section
theorem belowB_51 : BelowB "Exception" [Value.ref 38, .type "Exception", .type "BaseException", .type "object"] := ⟨by decide +kernel, by decide +kernel, by decide +kernel⟩
theorem ite_noR {c : Prop} [Decidable c] {p q : Prop} (hc : ¬ c) (h : q) : if c then p else q := by rw [if_neg hc]; exact h
theorem no_bool {b : Bool} (h : b = false) : ¬ (b = true) := by simp [h]
theorem add_mode {prog : Program} {w : World} {A : Around} {E : Value → Shared → Prop} {s : Shared} {mo : Str} {t u : Tok} {Q : Value → Shared → Prop} (hl : mo.length ≤ 100) (h : ∀ t' k, Q (.str (Str.ofString "no such mode: " ++ mo) t') { s with toks := k }) :
    wpAny (model prog w) A (binaryOp .Add (.str (Str.ofString "no such mode: ") t) (.str mo u)) Q E s :=
  PySem.SB.add h (by
    have e : (Str.ofString "no such mode: ").length = 14 := by decide +kernel
    have z : 1000 ≤ sizeLine := by decide +kernel
    omega)
set_option maxHeartbeats 8000000 in
theorem refused_go (mo : Str) (t1 : Tok) (hl : mo.length ≤ 100) (n0 : (mo == Str.ofString "normal") = false) (n1 : (mo == Str.ofString "multiply") = false) (n2 : (mo == Str.ofString "screen") = false) (n3 : (mo == Str.ofString "darken") = false) (n4 : (mo == Str.ofString "lighten") = false) (n5 : (mo == Str.ofString "hard-light") = false) (n6 : (mo == Str.ofString "overlay") = false) (n7 : (mo == Str.ofString "difference") = false) (n8 : (mo == Str.ofString "exclusion") = false) : ∀ (w : World) (loose : List Str) (mean : ExcName → Option Value) (mg mb : Str → Option Value) (dp un : Nat) (gd : Option (List Code)) (cn : Str) (cs : Scope) (a : Addr) (ccd : Value) (A₀ : Around) (base h₀ : Heap) (L : Addr) (m : Str → Option Value) (news : List (Addr × Obj)) (s : Shared) (Q E : Value → Shared → Prop)
    (B : Below A₀ base [] h₀) (F : Fr h₀ L s.heap m) (X : (hd0227.heap_39 w.params).In h₀) (N : News h₀ L s.heap news) (T : Top hd0227.view_39 loose mean mg mb h₀) (XB : (hd0227.heap_39 w.params).In base) (TB : Top hd0227.view_39 loose mean mg mb base) (hk : cs.kind = .function) (hd : dp + 12 < recursionLimit) (hu : un + 120 < cLine)
    (hret : ∀ (h' : Heap) (tk' : Nat), Fr h₀ L h' m → News h₀ L h' news → Q (.bool true) { s with heap := h', toks := tk' }),
    wpAny (model PySem.Challenge.rw_on0227_01.row.prog w) (ktrTop dp un gd cn cs L a ccd [] []) (call (.ref 191) [.str mo t1]) Q E s := by
  w_top off
  k_with_none
  k_with "MINE enter" => ((refine Mine.enter (vis := []) (by k_asm) (by k_asm) (by k_asm) (by exact News.nil) (by k_asm) (by exact fun _ _ h => nomatch h) (by k_asm) (by exact rfl) (by exact rfl) (by assumption) (by k_is) (by k_is) (by ktr_room) (by exact BindsTo.of_eq rfl) (by exact locs rfl) ?_ (by exact rfl) (by exact rfl) (by exact rfl) (by decide); k_whole; intro g' L' h' FG' F' N' B' X' T' kp'; (try dsimp only); (try k_lift B'); (try k_fold)))
  k_with "MINE exec Raise some none" => ((k_here; k_dflt (refine raise_exc (C := 51) (by k_asm) (by k_asm) (by k_is) (by rfl) (by rfl) ?_; k_whole)))
  k_with "MINE call ref" => ((k_here; (with_reducible show wpAny _ _ (call (Value.ref 51) _) _ _ _); k_dflt (refine exc_call (by k_asm) (by k_asm) (by k_asm) PySem.F.excBase_Exception belowB_51 (by k_is) (by k_is) (by k_is) (by exact Nat.le_of_ble_eq_true rfl) ?_; k_whole); intro x' d' h' F' N' l1 l2; (try k_lt l1); (try k_lt2 l2); (try k_sweep); k_enter))
  k_with "MINE setAttr ref" => ((k_here; k_dflt (refine exc_store (by k_asm) (by k_asm) (by k_asm) (by k_all) (by k_is) (by k_is) (by rfl) (by rfl) (by k_is) ?_; k_whole); intro h' tk' dx' F' N'; (try k_sweep)))
  k_with "RaisableO" => ((k_here; k_dflt (refine ⟨_, _, _, rfl, Fr.keep (by k_asm), News.get (by k_asm) (by k_mem), ?_⟩; k_whole)))
  k_with "MINE leaving ref" => ((k_here; k_dflt (refine leave_exc (by assumption) (by k_asm) (by k_asm) (by k_mem) (by k_mem) ?_; k_whole); intro h' t' S' R' U'; (try dsimp only at S' R' U' ⊢)))
  k_with "MINE binaryOp Add str str" => ((k_here; (with_reducible refine add_mode (by assumption) ?_); intro _ _))
  k_with "MINE ite" => ((k_here; first | (with_reducible refine ite_noR (no_bool (by assumption)) ?_)))
  k_fill
  intro w loose mean mg mb dp un gd cn cs a ccd A₀ base h₀ L m news s Q E B F X N T XB TB hk hd hu hret
  refine wpAny_call ?_
  k_dflt (refine' enterS ?k1 ?k2 ?k3 ?k4 ?k5 ?kA ?k6 ?k7 ?k8 ?k9 ?kB ?_ ?cK ?c2 ?c3 ?c4 ?c5; (case kA => exact rfl); (case k2 => k_asm); (case k1 => k_asm); (case k3 => k_asm); (case k4 => k_asm); (case k5 => k_asm); (case k6 => k_is); (case k7 => k_is); (case k8 => k_room); (case k9 => first | exact BindsTo.of_eq rfl | fail "no rule for these arguments"); (case kB => exact locs rfl); (case cK => assumption); (case c2 => exact rfl); (case c3 => exact rfl); (case c4 => exact rfl); (case c5 => decide); k_whole)
  intro g' L' h' FG' F' N' B' X' T' D'
  (try dsimp only)
  (try k_lift B')
  (try k_fold)
  k_steps
  all_goals (try k_data)
  all_goals exact hret _ _ (by assumption) (by assumption)
end

section
theorem mod_forget {prog : Program} {w : World} {A : Around} {E : Value → Shared → Prop} {s : Shared} {a b : Int} {t u : Tok} {Q : Value → Shared → Prop} (hb : 0 < b) (h : ∀ r : Int, 0 ≤ r → r < b → Q (.int r s.toks) { s with toks := s.toks + 1 }) :
    wpAny (model prog w) A (binaryOp .Mod (.int a t) (.int b u)) Q E s :=
  mod_int' (by omega) (h _ (Int.fmod_nonneg_of_pos a hb) (Int.fmod_lt_of_pos a hb))
theorem item_at {prog : Program} {w : World} {A : Around} {E : Value → Shared → Prop} {s : Shared} {value slice : PySem.Expr} {l : Addr} {items : Array Value} {k : Int} {u : Tok} {v : Value} {Q : Value → Shared → Prop}
    (hl : s.heap.IsList l items) (h0 : 0 ≤ k) (hhi : k < 2 ^ 63) (hx : items[k.toNat]? = some v) (h : Q v s)
    (hs : subscripted slice false (.ref l) (.int k u) = operate [.ref l, .int k u] (getItem (.ref l) (.int k u))) :
    wpAny (model prog w) A (subscriptTail value slice (.ref l) (.int k u)) Q E s :=
  tail_any hl.typeIs slot_list_getitem.lookup (wpAny_getItem_list hl h0 hhi hx h) hs
theorem item_0 {prog : Program} {w : World} {A : Around} {E : Value → Shared → Prop} {s : Shared} {value slice : PySem.Expr} {l : Addr} {x y : Value} {u : Tok} {Q : Value → Shared → Prop}
    (hl : s.heap.IsList l #[x, y]) (h : Q x s) (hs : subscripted slice false (.ref l) (.int 0 u) = operate [.ref l, .int 0 u] (getItem (.ref l) (.int 0 u))) :
    wpAny (model prog w) A (subscriptTail value slice (.ref l) (.int 0 u)) Q E s := item_at hl (by decide) (by decide) rfl h hs
theorem item_1 {prog : Program} {w : World} {A : Around} {E : Value → Shared → Prop} {s : Shared} {value slice : PySem.Expr} {l : Addr} {x y : Value} {u : Tok} {Q : Value → Shared → Prop}
    (hl : s.heap.IsList l #[x, y]) (h : Q y s) (hs : subscripted slice false (.ref l) (.int 1 u) = operate [.ref l, .int 1 u] (getItem (.ref l) (.int 1 u))) :
    wpAny (model prog w) A (subscriptTail value slice (.ref l) (.int 1 u)) Q E s := item_at hl (by decide) (by decide) rfl h hs
theorem news_join {h₀ h : Heap} {L : Addr} {p : Addr × Obj} {news : List (Addr × Obj)} (N1 : News h₀ L h [p]) (N : News h₀ L h news) : News h₀ L h (p :: news) := fun q hq => by
  rcases List.mem_cons.mp hq with rfl | hq
  · exact N1 _ (.head _)
  · exact N _ hq
set_option maxHeartbeats 8000000 in
theorem take_go (src : Addr) (a0 b0 : Int) (ta tb : Tok) (n : Nat) (top : Int) (tt : Tok) (h1 : 1 ≤ top) (h2 : top ≤ 256) (hb0 : 0 ≤ b0) (hb1 : b0 < 2147483647) : ∀ (w : World) (loose : List Str) (mean : ExcName → Option Value) (mg mb : Str → Option Value) (dp un : Nat) (gd : Option (List Code)) (cn : Str) (cs : Scope) (a : Addr) (ccd : Value) (cl : List (Str × Addr)) (outer : List Env) (A₀ : Around) (base h₀ : Heap) (L : Addr) (m : Str → Option Value) (news : List (Addr × Obj)) (s : Shared) (Q E : Value → Shared → Prop)
    (B : Below A₀ base outer h₀) (F : Fr h₀ L s.heap m) (X : (hd0227.heap_39 w.params).In h₀) (N0 : News h₀ L s.heap [(src, listOf #[.int a0 ta, .int b0 tb] n)]) (N : News h₀ L s.heap news) (ap : ∀ q ∈ news, q.1 ≠ src) (T : Top hd0227.view_39 loose mean mg mb h₀) (hk : cs.kind = .function) (hd : dp + 4 < recursionLimit) (hu : un + 30 < cLine)
    (hret : ∀ (r : Int) (t : Tok) (a1 b1 : Int) (ta tb : Tok) (n : Nat) (h' : Heap) (tk' : Nat), 0 ≤ r → r < top → 0 ≤ b1 → b1 < 2147483647 → Fr h₀ L h' m → News h₀ L h' ((src, listOf #[.int a1 ta, .int b1 tb] n) :: news) → Q (.int r t) { s with heap := h', toks := tk' }),
    wpAny (model PySem.Challenge.rw_on0227_01.row.prog w) (ktrTop dp un gd cn cs L a ccd cl outer) (call (.ref 149) [.ref src, .int top tt]) Q E s := by
  w_top off
  k_with_none
  k_with "subscriptTail Name Constant ref int" => ((k_here; (with_reducible show wpAny _ _ (subscriptTail _ _ (Value.ref _) (Value.int 0 _)) _ _ _); k_dflt (refine item_0 (by exact News.isList (by k_asm) (by k_mem)) ?_ (by with_unfolding_all rfl); k_whole)))
  k_with "subscriptTail Name Constant ref int" => ((k_here; (with_reducible show wpAny _ _ (subscriptTail _ _ (Value.ref _) (Value.int 1 _)) _ _ _); k_dflt (refine item_1 (by exact News.isList (by k_asm) (by k_mem)) ?_ (by with_unfolding_all rfl); k_whole)))
  k_with "MINE binaryOp Mod int int" => ((k_here; (with_reducible refine mod_forget (by omega) ?_); intro r9 hr0 hr1))
  k_with "MINE binaryOp FloorDiv int int" => ((k_here; (with_reducible refine floordiv_int (by omega) ?_ (Or.inl (PyProof.noPylong_small (by omega))))))
  k_with "binaryOp Mult int int" => ((k_here; (with_reducible refine mul_int ?_ (PySem.IntMulOk.of_left (PySem.intBits_le_64 (by omega) (by omega))))))
  k_fill
  intro w loose mean mg mb dp un gd cn cs a ccd cl outer A₀ base h₀ L m news s Q E B F X N0 N ap T hk hd hu hret
  refine wpAny_call ?_
  k_dflt (refine' Mine.enter (vis := [(src, listOf #[.int a0 ta, .int b0 tb] n)]) ?k1 ?k2 ?k3 ?k4 ?kH ?kP ?k5 ?kA ?kF ?kK ?k6 ?k7 ?k8 ?k9 ?kB ?_ ?c2 ?c3 ?c4 ?c5; (case kA => exact rfl); (case kF => exact rfl); (case kK => assumption); (case k1 => k_asm); (case k2 => k_asm); (case k3 => k_asm); (case k4 => exact N0); (case kH => exact N); (case kP => (intro q hq h; exact ap q hq (List.mem_singleton.mp h))); (case k5 => k_asm); (case k6 => k_is); (case k7 => k_is); (case k8 => ktr_room); (case k9 => exact BindsTo.of_eq rfl); (case c5 => decide); (case kB => exact locs rfl); (case c2 => exact rfl); (case c3 => exact rfl); (case c4 => exact rfl); k_whole)
  intro g' L' h' FG' F' N' B' X' T' kp'
  clear kp'
  (try dsimp only)
  (try k_lift B')
  (try k_fold)
  k_steps
  all_goals (try k_data)
  all_goals (refine' hret _ _ _ _ _ _ _ _ _ ?a ?b ?c ?d ?e (news_join ?f ?g); (case f => assumption); (case g => assumption); (case e => assumption); (case a => assumption); (case b => assumption); (case c => omega); (case d => omega))
end

section
/-- A ledger without the entries of one place. -/
inductive Drop (src : Addr) : List (Addr × Obj) → List (Addr × Obj) → Prop
  | nil : Drop src [] []
  | skip {S l k} : Drop src l k → Drop src ((src, S) :: l) k
  | keep {p S l k} : p ≠ src → Drop src l k → Drop src ((p, S) :: l) ((p, S) :: k)
theorem Drop.news {src : Addr} {l k : List (Addr × Obj)} (D : Drop src l k) {h₀ h : Heap} {L : Addr} (N : News h₀ L h l) : News h₀ L h k := by
  induction D with
  | nil => exact N
  | skip _ ih => exact ih fun q hq => N q (.tail _ hq)
  | keep _ _ ih =>
    intro q hq
    rcases List.mem_cons.mp hq with rfl | hq
    · exact N _ (.head _)
    · exact ih (fun q hq => N q (.tail _ hq)) q hq
theorem Drop.apart {src : Addr} {l k : List (Addr × Obj)} (D : Drop src l k) : ∀ q ∈ k, q.1 ≠ src := by
  induction D with
  | nil => intro _ h; cases h
  | skip _ ih => exact ih
  | keep h _ ih =>
    intro q hq
    rcases List.mem_cons.mp hq with rfl | hq
    · exact h
    · exact ih q hq
theorem Drop.sub {src : Addr} {l k : List (Addr × Obj)} (D : Drop src l k) : ∀ q ∈ k, q ∈ l := by
  induction D with
  | nil => intro _ h; cases h
  | skip _ ih => exact fun q hq => .tail _ (ih q hq)
  | keep h _ ih =>
    intro q hq
    rcases List.mem_cons.mp hq with rfl | hq
    · exact .head _
    · exact .tail _ (ih q hq)
theorem take_use {w : World} {loose : List Str} {mean : ExcName → Option Value} {mg mb : Str → Option Value} {dp un : Nat} {gd : Option (List Code)} {cn : Str} {cs : Scope} {a : Addr} {ccd : Value} {cl : List (Str × Addr)} {outer : List Env} {A₀ : Around} {base h₀ : Heap} {L : Addr} {m : Str → Option Value} {all news : List (Addr × Obj)} {s : Shared} {Q E : Value → Shared → Prop}
    {src : Addr} {a0 b0 : Int} {ta tb : Tok} {n : Nat} {top : Int} {tt : Tok}
    (B : Below A₀ base outer h₀) (F : Fr h₀ L s.heap m) (X : (hd0227.heap_39 w.params).In h₀) (T : Top hd0227.view_39 loose mean mg mb h₀) (N : News h₀ L s.heap all) (hm : (src, listOf #[.int a0 ta, .int b0 tb] n) ∈ all) (D : Drop src all news)
    (h1 : 1 ≤ top) (h2 : top ≤ 256) (hb0 : 0 ≤ b0) (hb1 : b0 < 2147483647) (hk : cs.kind = .function) (hd : dp + 4 < recursionLimit) (hu : un + 30 < cLine)
    (hret : ∀ (r : Int) (t : Tok) (a1 b1 : Int) (ta tb : Tok) (n : Nat) (h' : Heap) (tk' : Nat), 0 ≤ r → r < top → 0 ≤ b1 → b1 < 2147483647 → Fr h₀ L h' m → News h₀ L h' ((src, listOf #[.int a1 ta, .int b1 tb] n) :: news) → Q (.int r t) { s with heap := h', toks := tk' }) :
    wpAny (model PySem.Challenge.rw_on0227_01.row.prog w) (ktrTop dp un gd cn cs L a ccd cl outer) (call (.ref 149) [.ref src, .int top tt]) Q E s :=
  take_go src a0 b0 ta tb n top tt h1 h2 hb0 hb1 w loose mean mg mb dp un gd cn cs a ccd cl outer A₀ base h₀ L m news s Q E B F X (fun q hq => by rw [List.mem_singleton.mp hq]; exact N _ hm) (D.news N) D.apart T hk hd hu hret
theorem pos_of_lt {b : Int} {n : Nat} (h : 1 ≤ n) : (1 : Int) ≤ (n : Int) := by omega
theorem news_first {h₀ h : Heap} {L : Addr} {p : Addr × Obj} {l news : List (Addr × Obj)} (N1 : News h₀ L h (p :: l)) (N : News h₀ L h news) : News h₀ L h (p :: news) := fun q hq => by
  rcases List.mem_cons.mp hq with rfl | hq
  · exact N1 _ (.head _)
  · exact N _ hq
set_option maxHeartbeats 8000000 in
theorem one_go (src th : Addr) (a0 b0 : Int) (ta tb : Tok) (n nt : Nat) (vs : Array Value) (h1 : 1 ≤ vs.size) (h2 : vs.size ≤ 256) (hb0 : 0 ≤ b0) (hb1 : b0 < 2147483647) (hne : th ≠ src) : ∀ (w : World) (loose : List Str) (mean : ExcName → Option Value) (mg mb : Str → Option Value) (dp un : Nat) (gd : Option (List Code)) (cn : Str) (cs : Scope) (a : Addr) (ccd : Value) (cl : List (Str × Addr)) (outer : List Env) (A₀ : Around) (base h₀ : Heap) (L : Addr) (m : Str → Option Value) (news : List (Addr × Obj)) (s : Shared) (Q E : Value → Shared → Prop)
    (B : Below A₀ base outer h₀) (F : Fr h₀ L s.heap m) (X : (hd0227.heap_39 w.params).In h₀) (N0 : News h₀ L s.heap [(src, listOf #[.int a0 ta, .int b0 tb] n), (th, listOf vs nt)]) (N : News h₀ L s.heap news) (ap : ∀ q ∈ news, q.1 ≠ src) (ap2 : ∀ q ∈ news, q.1 ≠ th) (T : Top hd0227.view_39 loose mean mg mb h₀) (hk : cs.kind = .function) (hd : dp + 8 < recursionLimit) (hu : un + 60 < cLine)
    (hret : ∀ (v : Value) (a1 b1 : Int) (ta tb : Tok) (n : Nat) (h' : Heap) (tk' : Nat), v ∈ vs.toList → 0 ≤ b1 → b1 < 2147483647 → Fr h₀ L h' m → News h₀ L h' ((src, listOf #[.int a1 ta, .int b1 tb] n) :: news) → Q v { s with heap := h', toks := tk' }),
    wpAny (model PySem.Challenge.rw_on0227_01.row.prog w) (ktrTop dp un gd cn cs L a ccd cl outer) (call (.ref 156) [.ref src, .ref th]) Q E s := by
  w_top off
  k_with_none
  k_with "MINE drop" => (repeat' first | exact Drop.nil | (apply Drop.skip) | (apply Drop.keep (by first | with_reducible assumption | (refine neN ?_; (try dsimp only); omega))))
  k_with "MINE call ref" => ((k_here; (with_reducible show wpAny _ _ (call (Value.ref 149) _) _ _ _); k_dflt (refine take_use (by k_asm) (by k_asm) (by k_asm) (by k_asm) (by k_asm) (by k_mem) (by walk_at "MINE drop") (by first | with_reducible assumption | omega) (by first | with_reducible assumption | omega) (by first | with_reducible assumption | omega) (by first | with_reducible assumption | omega) (by first | exact rfl | assumption) (by ktr_room) (by ktr_units) ?_; k_whole); intro r9 t9 a9 b9 ta9 tb9 n9 h9 tk9 hr0 hr1 hb90 hb91 F9 N9; (try dsimp only); (try k_sweep); (try k_fold)))
  k_with "MINE call builtin:len" => ((k_here; (with_reducible show wpAny _ _ (call (Value.builtin "len") [Value.ref _]) _ _ _); k_dflt (refine PyProof.Rows.len_list (by exact News.isList (by k_asm) (by k_mem)) (by omega) ?_; k_whole)))
  k_with "subscriptTail Name Call ref int" => ((k_here; k_dflt (refine item_at (by exact News.isList (by k_asm) (by k_mem)) (by with_reducible assumption) (by omega) (by exact Array.getElem?_eq_getElem (by omega)) ?_ (by with_unfolding_all rfl); k_whole)))
  k_fill
  intro w loose mean mg mb dp un gd cn cs a ccd cl outer A₀ base h₀ L m news s Q E B F X N0 N ap ap2 T hk hd hu hret
  refine wpAny_call ?_
  k_dflt (refine' Mine.enter (vis := [(src, listOf #[.int a0 ta, .int b0 tb] n), (th, listOf vs nt)]) ?k1 ?k2 ?k3 ?k4 ?kH ?kP ?k5 ?kA ?kF ?kK ?k6 ?k7 ?k8 ?k9 ?kB ?_ ?c2 ?c3 ?c4 ?c5; (case kA => exact rfl); (case kF => exact rfl); (case kK => assumption); (case k1 => k_asm); (case k2 => k_asm); (case k3 => k_asm); (case k4 => exact N0); (case kH => exact N); (case kP => (intro q hq h; rcases List.mem_cons.mp h with h | h; exact ap q hq h; exact ap2 q hq (List.mem_singleton.mp h))); (case k5 => k_asm); (case k6 => k_is); (case k7 => k_is); (case k8 => ktr_room); (case k9 => exact BindsTo.of_eq rfl); (case c5 => decide); (case kB => exact locs rfl); (case c2 => exact rfl); (case c3 => exact rfl); (case c4 => exact rfl); k_whole)
  intro g' L' h' FG' F' N' B' X' T' kp'
  clear kp'
  (try dsimp only)
  (try k_lift B')
  (try k_fold)
  k_steps
  all_goals (try k_data)
  all_goals (refine' hret _ _ _ _ _ _ _ _ ?a ?b ?c ?d (news_first ?f ?g); (case f => assumption); (case g => assumption); (case d => assumption); (case a => exact Array.mem_toList_iff.mpr (Array.getElem_mem _)); (case b => assumption); (case c => assumption))
theorem one_use {w : World} {loose : List Str} {mean : ExcName → Option Value} {mg mb : Str → Option Value} {dp un : Nat} {gd : Option (List Code)} {cn : Str} {cs : Scope} {a : Addr} {ccd : Value} {cl : List (Str × Addr)} {outer : List Env} {A₀ : Around} {base h₀ : Heap} {L : Addr} {m : Str → Option Value} {all some_ news : List (Addr × Obj)} {s : Shared} {Q E : Value → Shared → Prop}
    {src th : Addr} {a0 b0 : Int} {ta tb : Tok} {n nt : Nat} {vs : Array Value}
    (B : Below A₀ base outer h₀) (F : Fr h₀ L s.heap m) (X : (hd0227.heap_39 w.params).In h₀) (T : Top hd0227.view_39 loose mean mg mb h₀) (N : News h₀ L s.heap all) (hm : (src, listOf #[.int a0 ta, .int b0 tb] n) ∈ all) (ht : (th, listOf vs nt) ∈ all) (hne : th ≠ src) (D : Drop src all some_) (D2 : Drop th some_ news)
    (h1 : 1 ≤ vs.size) (h2 : vs.size ≤ 256) (hb0 : 0 ≤ b0) (hb1 : b0 < 2147483647) (hk : cs.kind = .function) (hd : dp + 8 < recursionLimit) (hu : un + 60 < cLine)
    (hret : ∀ (v : Value) (a1 b1 : Int) (ta tb : Tok) (n : Nat) (h' : Heap) (tk' : Nat), v ∈ vs.toList → 0 ≤ b1 → b1 < 2147483647 → Fr h₀ L h' m → News h₀ L h' ((src, listOf #[.int a1 ta, .int b1 tb] n) :: news) → Q v { s with heap := h', toks := tk' }) :
    wpAny (model PySem.Challenge.rw_on0227_01.row.prog w) (ktrTop dp un gd cn cs L a ccd cl outer) (call (.ref 156) [.ref src, .ref th]) Q E s :=
  one_go src th a0 b0 ta tb n nt vs h1 h2 hb0 hb1 hne w loose mean mg mb dp un gd cn cs a ccd cl outer A₀ base h₀ L m news s Q E B F X (fun q hq => by
    rcases List.mem_cons.mp hq with rfl | hq
    · exact N _ hm
    · rw [List.mem_singleton.mp hq]; exact N _ ht) (D2.news (D.news N)) (fun q hq => D.apart q (D2.sub q hq)) D2.apart T hk hd hu hret
end

section
theorem news_two {h₀ h : Heap} {L : Addr} {p q : Addr × Obj} {l news : List (Addr × Obj)} (N1 : News h₀ L h (p :: q :: l)) (N : News h₀ L h news) : News h₀ L h (p :: q :: news) := fun r hr => by
  rcases List.mem_cons.mp hr with rfl | hr
  · exact N1 _ (.head _)
  · rcases List.mem_cons.mp hr with rfl | hr
    · exact N1 _ (.tail _ (.head _))
    · exact N _ hr
theorem all_in {lo hi : Int} : ∀ {l : List Value} {v : Value}, v ∈ l → (∀ x ∈ l, ∃ k t, x = Value.int k t ∧ lo ≤ k ∧ k ≤ hi) → ∃ k t, v = Value.int k t ∧ lo ≤ k ∧ k ≤ hi := fun h a => a _ h
theorem all_in2 {alpha : Int} (hA : alpha ≤ 255) {l : List Value} {v : Value} : v ∈ l → (∀ x ∈ l, ∃ k t, x = Value.int k t ∧ 0 ≤ k ∧ k ≤ alpha) → ∃ k t, v = Value.int k t ∧ 0 ≤ k ∧ k ≤ alpha := fun h a => a _ h
theorem int_in {lo hi k : Int} {t : Tok} (h1 : lo ≤ k) (h2 : k ≤ hi) : ∃ k' t', Value.int k t = Value.int k' t' ∧ lo ≤ k' ∧ k' ≤ hi := ⟨k, t, rfl, h1, h2⟩
theorem half_lo {a b : Int} (h : 0 ≤ a) : 0 ≤ a.fdiv 2 := by
  rw [Int.fdiv_eq_ediv_of_nonneg _ (by decide)]; omega
theorem half_hi {a b : Int} (h0 : 0 ≤ a) (h : a ≤ 2 * b + 1) : a.fdiv 2 ≤ b := by
  rw [Int.fdiv_eq_ediv_of_nonneg _ (by decide)]; omega
set_option maxHeartbeats 8000000 in
theorem pair_go (src : Addr) (a0 b0 : Int) (ta tb : Tok) (n : Nat) (hb0 : 0 ≤ b0) (hb1 : b0 < 2147483647) : ∀ (w : World) (loose : List Str) (mean : ExcName → Option Value) (mg mb : Str → Option Value) (dp un : Nat) (gd : Option (List Code)) (cn : Str) (cs : Scope) (a : Addr) (ccd : Value) (cl : List (Str × Addr)) (outer : List Env) (A₀ : Around) (base h₀ : Heap) (L : Addr) (m : Str → Option Value) (news : List (Addr × Obj)) (s : Shared) (Q E : Value → Shared → Prop)
    (B : Below A₀ base outer h₀) (F : Fr h₀ L s.heap m) (X : (hd0227.heap_39 w.params).In h₀) (N0 : News h₀ L s.heap [(src, listOf #[.int a0 ta, .int b0 tb] n)]) (N : News h₀ L s.heap news) (ap : ∀ q ∈ news, q.1 ≠ src) (T : Top hd0227.view_39 loose mean mg mb h₀) (hk : cs.kind = .function) (hd : dp + 12 < recursionLimit) (hu : un + 90 < cLine)
    (hret : ∀ (x : Addr) (one alpha : Int) (t1 t2 : Tok) (a1 b1 : Int) (ta tb : Tok) (n : Nat) (h' : Heap) (tk' : Nat), 0 ≤ one → one ≤ alpha → alpha ≤ 255 → x ≠ src → 0 ≤ b1 → b1 < 2147483647 → Fr h₀ L h' m → News h₀ L h' ((x, ({ cls := .type "tuple", data := .seq #[.int one t1, .int alpha t2] } : Obj)) :: (src, listOf #[.int a1 ta, .int b1 tb] n) :: news) → Q (.ref x) { s with heap := h', toks := tk' }),
    wpAny (model PySem.Challenge.rw_on0227_01.row.prog w) (ktrTop dp un gd cn cs L a ccd cl outer) (call (.ref 163) [.ref src]) Q E s := by
  w_top off
  k_with_none
  k_with "MINE drop" => (repeat' first | exact Drop.nil | (apply Drop.skip) | (apply Drop.keep (by first | with_reducible assumption | (refine neN ?_; (try dsimp only); omega))))
  k_with "MINE call ref" => ((k_here; (with_reducible show wpAny _ _ (call (Value.ref 149) _) _ _ _); k_dflt (refine take_use (by k_asm) (by k_asm) (by k_asm) (by k_asm) (by k_asm) (by k_mem) (by walk_at "MINE drop") (by first | with_reducible assumption | omega) (by first | with_reducible assumption | omega) (by first | with_reducible assumption | omega) (by first | with_reducible assumption | omega) (by first | exact rfl | assumption) (by ktr_room) (by ktr_units) ?_; k_whole); intro r9 t9 a9 b9 ta9 tb9 n9 h9 tk9 hr0 hr1 hb90 hb91 F9 N9; (try dsimp only); (try k_sweep); (try k_fold)))
  k_with "MINE call ref" => ((k_here; (with_reducible show wpAny _ _ (call (Value.ref 156) _) _ _ _); k_dflt (refine one_use (by k_asm) (by k_asm) (by k_asm) (by k_asm) (by k_asm) (by k_mem) (by k_mem) (by k_ne) (by walk_at "MINE drop") (by walk_at "MINE drop") (by exact Nat.le_of_ble_eq_true rfl) (by exact Nat.le_of_ble_eq_true rfl) (by first | with_reducible assumption | omega) (by first | with_reducible assumption | omega) (by first | exact rfl | assumption) (by ktr_room) (by ktr_units) ?_; k_whole); intro v9 a9 b9 ta9 tb9 n9 h9 tk9 hv9 hb90 hb91 F9 N9; (try dsimp only); (try k_sweep); (try walk_at "MINE mem"); (try k_fold)))
  k_with "MINE in" => ((refine int_in ?_ ?_ <;> first | omega | (refine half_lo (b := 0) ?_; omega) | (refine half_hi ?_ ?_ <;> omega)))
  k_with "MINE all" => (first | exact List.forall_mem_nil _ | (refine List.forall_mem_cons.mpr ⟨(by walk_at "MINE in"), (by walk_at "MINE all")⟩))
  k_with "MINE mem" => (first | (rename _ ∈ Array.toList _ => hv9; with_reducible rename _ ≤ (255 : Int) => hA9; obtain ⟨k9, t9, hE9, hk90, hk91⟩ := all_in2 hA9 hv9 (by dsimp only; walk_at "MINE all"); subst hE9; clear hv9) | (rename _ ∈ Array.toList _ => hv9; obtain ⟨k9, t9, hE9, hk90, hk91⟩ := all_in (lo := 0) (hi := 255) hv9 (by dsimp only; walk_at "MINE all"); subst hE9; clear hv9))
  k_with "MINE binaryOp FloorDiv int int" => ((k_here; (with_reducible refine floordiv_int (by omega) ?_ (Or.inl (PyProof.noPylong_small (by omega))))))
  k_with "binaryOp Mult int int" => ((k_here; (with_reducible refine mul_int ?_ (PySem.IntMulOk.of_left (PySem.intBits_le_64 (by omega) (by omega))))))
  k_fill
  intro w loose mean mg mb dp un gd cn cs a ccd cl outer A₀ base h₀ L m news s Q E B F X N0 N ap T hk hd hu hret
  refine wpAny_call ?_
  k_dflt (refine' Mine.enter (vis := [(src, listOf #[.int a0 ta, .int b0 tb] n)]) ?k1 ?k2 ?k3 ?k4 ?kH ?kP ?k5 ?kA ?kF ?kK ?k6 ?k7 ?k8 ?k9 ?kB ?_ ?c2 ?c3 ?c4 ?c5; (case kA => exact rfl); (case kF => exact rfl); (case kK => assumption); (case k1 => k_asm); (case k2 => k_asm); (case k3 => k_asm); (case k4 => exact N0); (case kH => exact N); (case kP => (intro q hq h; exact ap q hq (List.mem_singleton.mp h))); (case k5 => k_asm); (case k6 => k_is); (case k7 => k_is); (case k8 => ktr_room); (case k9 => exact BindsTo.of_eq rfl); (case c5 => decide); (case kB => exact locs rfl); (case c2 => exact rfl); (case c3 => exact rfl); (case c4 => exact rfl); k_whole)
  intro g' L' h' FG' F' N' B' X' T' kp'
  clear kp'
  (try dsimp only)
  (try k_lift B')
  (try k_fold)
  k_steps
  all_goals (try k_data)
  all_goals (refine' hret _ _ _ _ _ _ _ _ _ _ _ _ ?a ?b ?c ?x ?d ?e ?f (news_two ?g ?h); (case g => assumption); (case f => assumption); (case h => assumption); (case a => assumption); (case b => assumption); (case c => assumption); (case x => exact Nat.ne_of_gt (by assumption)); (case d => assumption); (case e => assumption))
theorem pair_use {w : World} {loose : List Str} {mean : ExcName → Option Value} {mg mb : Str → Option Value} {dp un : Nat} {gd : Option (List Code)} {cn : Str} {cs : Scope} {a : Addr} {ccd : Value} {cl : List (Str × Addr)} {outer : List Env} {A₀ : Around} {base h₀ : Heap} {L : Addr} {m : Str → Option Value} {all news : List (Addr × Obj)} {s : Shared} {Q E : Value → Shared → Prop}
    {src : Addr} {a0 b0 : Int} {ta tb : Tok} {n : Nat}
    (B : Below A₀ base outer h₀) (F : Fr h₀ L s.heap m) (X : (hd0227.heap_39 w.params).In h₀) (T : Top hd0227.view_39 loose mean mg mb h₀) (N : News h₀ L s.heap all) (hm : (src, listOf #[.int a0 ta, .int b0 tb] n) ∈ all) (D : Drop src all news)
    (hb0 : 0 ≤ b0) (hb1 : b0 < 2147483647) (hk : cs.kind = .function) (hd : dp + 12 < recursionLimit) (hu : un + 90 < cLine)
    (hret : ∀ (x : Addr) (one alpha : Int) (t1 t2 : Tok) (a1 b1 : Int) (ta tb : Tok) (n : Nat) (h' : Heap) (tk' : Nat), 0 ≤ one → one ≤ alpha → alpha ≤ 255 → x ≠ src → 0 ≤ b1 → b1 < 2147483647 → Fr h₀ L h' m → News h₀ L h' ((x, ({ cls := .type "tuple", data := .seq #[.int one t1, .int alpha t2] } : Obj)) :: (src, listOf #[.int a1 ta, .int b1 tb] n) :: news) → Q (.ref x) { s with heap := h', toks := tk' }) :
    wpAny (model PySem.Challenge.rw_on0227_01.row.prog w) (ktrTop dp un gd cn cs L a ccd cl outer) (call (.ref 163) [.ref src]) Q E s :=
  pair_go src a0 b0 ta tb n hb0 hb1 w loose mean mg mb dp un gd cn cs a ccd cl outer A₀ base h₀ L m news s Q E B F X (fun q hq => by rw [List.mem_singleton.mp hq]; exact N _ hm) (D.news N) D.apart T hk hd hu hret
end

section
theorem list_keeps {g h : Heap} {L' : Addr} {m' : Str → Option Value} {sc : Addr} {vs : Array Value} (hl : g.IsList sc vs) (F : Fr g L' h m') : h.IsList sc vs := by
  obtain ⟨o, h1, h2⟩ := hl
  exact ⟨o, F.keep _ _ h1, h2⟩
theorem item_int {prog : Program} {w : World} {A : Around} {E : Value → Shared → Prop} {s : Shared} {value slice : PySem.Expr} {l : Addr} {vs : Array Value} {k : Int} {u : Tok} {Q : Value → Shared → Prop}
    (hl : s.heap.IsList l vs) (hvs : ∀ v ∈ vs.toList, ∃ i t, v = Value.int i t) (h0 : 0 ≤ k) (hk : k < vs.size) (hz : vs.size ≤ 63) (h : ∀ i t, Q (.int i t) s)
    (hs : subscripted slice false (.ref l) (.int k u) = operate [.ref l, .int k u] (getItem (.ref l) (.int k u))) :
    wpAny (model prog w) A (subscriptTail value slice (.ref l) (.int k u)) Q E s := by
  have hlt : k.toNat < vs.size := by omega
  obtain ⟨i, t, e⟩ := hvs _ (Array.mem_toList_iff.mpr (Array.getElem_mem hlt))
  exact item_at hl h0 (by omega) ((Array.getElem?_eq_getElem hlt).trans (congrArg some e)) (h i t) hs
theorem news_apart {g h : Heap} {L' : Addr} {p : Addr × Obj} {l news : List (Addr × Obj)} (N' : News g L' h (p :: l)) (ap : ∀ q ∈ news, ∃ o, g.get? q.1 = some o) : ∀ q ∈ news, q.1 ≠ p.1 := fun q hq e => by
  obtain ⟨o, ho⟩ := ap q hq
  have := (N' p (.head _)).2.2
  rw [← e, ho] at this
  cases this
set_option maxHeartbeats 8000000 in
theorem pool_go (sc : Addr) (vs : Array Value) (k : Int) (t0 : Tok) (hk0 : 0 ≤ k) (hk1 : k ≤ 1) (hz : vs.size ≤ 63) (hvs : ∀ v ∈ vs.toList, ∃ i t, v = Value.int i t) : ∀ (w : World) (loose : List Str) (mean : ExcName → Option Value) (mg mb : Str → Option Value) (dp un : Nat) (gd : Option (List Code)) (cn : Str) (cs : Scope) (a : Addr) (ccd : Value) (cl : List (Str × Addr)) (outer : List Env) (A₀ : Around) (base h₀ : Heap) (L : Addr) (m : Str → Option Value) (news : List (Addr × Obj)) (s : Shared) (Q E : Value → Shared → Prop)
    (B : Below A₀ base outer h₀) (F : Fr h₀ L s.heap m) (X : (hd0227.heap_39 w.params).In h₀) (hsc : h₀.IsList sc vs) (N : News h₀ L s.heap news) (T : Top hd0227.view_39 loose mean mg mb h₀) (hk : cs.kind = .function) (hd : dp + 4 < recursionLimit) (hu : un + 30 < cLine)
    (hret : ∀ (src : Addr) (a1 b1 : Int) (ta tb : Tok) (n : Nat) (h' : Heap) (tk' : Nat), 0 ≤ b1 → b1 < 2147483647 → Fr h₀ L h' m → News h₀ L h' ((src, listOf #[.int a1 ta, .int b1 tb] n) :: news) → (∀ q ∈ news, q.1 ≠ src) → Q (.ref src) { s with heap := h', toks := tk' }),
    wpAny (model PySem.Challenge.rw_on0227_01.row.prog w) (ktrTop dp un gd cn cs L a ccd cl outer) (call (.ref 142) [.ref sc, .int k t0]) Q E s := by
  w_top off
  k_with_none
  k_with "subscriptTail Name Name ref int" => ((k_here; k_dflt (refine item_int (list_keeps (by with_reducible assumption) (by k_asm)) (by with_reducible assumption) (by assumption) (by assumption) (by assumption) ?_ (by with_unfolding_all rfl); k_whole); intro i9 t9; (try dsimp only)))
  k_with "binaryOp Mult int int" => ((k_here; (with_reducible refine mul_int ?_ (PySem.IntMulOk.of_right (by (split <;> decide))))))
  k_fill
  intro w loose mean mg mb dp un gd cn cs a ccd cl outer A₀ base h₀ L m news s Q E B F X hsc N T hk hd hu hret
  refine wpAny_call ?_
  k_dflt (refine' Mine.enter (vis := []) ?k1 ?k2 ?k3 ?k4 ?kH ?kP ?k5 ?kA ?kF ?kK ?k6 ?k7 ?k8 ?k9 ?kB ?_ ?c2 ?c3 ?c4 ?c5; (case kA => exact rfl); (case kF => exact rfl); (case kK => assumption); (case k1 => k_asm); (case k2 => k_asm); (case k3 => k_asm); (case k4 => exact News.nil); (case kH => exact N); (case kP => exact fun _ _ h => nomatch h); (case k5 => k_asm); (case k6 => k_is); (case k7 => k_is); (case k8 => ktr_room); (case k9 => exact BindsTo.of_eq rfl); (case c5 => decide); (case kB => exact locs rfl); (case c2 => exact rfl); (case c3 => exact rfl); (case c4 => exact rfl); k_whole)
  intro g' L' h' FG' F' N' B' X' T' kp'
  have hsc' : g'.IsList sc vs := list_keeps hsc FG'
  have apart : ∀ q ∈ news, ∃ o, g'.get? q.1 = some o := fun q hq => ⟨_, kp' _ _ (N q hq).1 (by simp)⟩
  clear kp'
  (try dsimp only)
  (try k_lift B')
  (try k_fold)
  k_steps
  all_goals (try k_data)
  all_goals (refine' hret _ _ _ _ _ _ _ _ ?zza ?zzb ?zzc (news_join ?zzd ?zze) ?zzf; (case zzc => assumption); (case zzd => assumption); (case zze => assumption); (case zzf => exact news_apart (by assumption) apart); (case zza => exact Int.fmod_nonneg_of_pos _ (by decide)); (case zzb => exact Int.fmod_lt_of_pos _ (by decide)))
end

section
set_option maxHeartbeats 8000000 in
theorem share_go (top : Int) (t1 : Tok) (b1 : -1000000 ≤ top) (b2 : top ≤ 1000000) :
    Pure 4 30 170 [.int top t1] (fun v => ∃ t, v = .int ((2 * top + 255).fdiv 510) t) := by
  unfold Pure
  w_top off
  k_with_none
  k_with "MINE enter" => ((refine Mine.enter (vis := []) (by k_asm) (by k_asm) (by k_asm) (by exact News.nil) (by k_asm) (by exact fun _ _ h => nomatch h) (by k_asm) (by exact rfl) (by exact rfl) (by assumption) (by k_is) (by k_is) (by ktr_room) (by exact BindsTo.of_eq rfl) (by exact locs rfl) ?_ (by exact rfl) (by exact rfl) (by exact rfl) (by decide); k_whole; intro g' L' h' FG' F' N' B' X' T' kp'; (try dsimp only); (try k_lift B'); (try k_fold)))
  k_with "MINE binaryOp FloorDiv int int" => ((k_here; (with_reducible refine floordiv_int (by omega) ?_ (Or.inl (PyProof.noPylong_small (by omega))))))
  k_with "binaryOp Mult int int" => ((k_here; (with_reducible refine mul_int ?_ (PySem.IntMulOk.of_left (PySem.intBits_le_64 (by omega) (by omega))))))
  k_fill
  intro w loose mean mg mb dp un gd cn cs a ccd cl outer A₀ base h₀ L m news s Q E B F X N T hk hd hu hret
  refine wpAny_call ?_
  k_dflt (walk_at "MINE enter")
  k_steps
  all_goals (refine bp_end hret rfl (by assumption) (by assumption) (stays_back (by assumption) (by assumption)))
theorem share_use {w : World} {loose : List Str} {mean : ExcName → Option Value} {mg mb : Str → Option Value} {dp un : Nat} {gd : Option (List Code)} {cn : Str} {cs : Scope} {a : Addr} {ccd : Value} {cl : List (Str × Addr)} {outer : List Env} {A₀ : Around} {base h₀ : Heap} {L : Addr} {m : Str → Option Value} {news : List (Addr × Obj)} {s : Shared} {Q E : Value → Shared → Prop}
    {top : Int} {t1 : Tok} (b1 : -1000000 ≤ top) (b2 : top ≤ 1000000)
    (B : Below A₀ base outer h₀) (F : Fr h₀ L s.heap m) (X : (hd0227.heap_39 w.params).In h₀) (N : News h₀ L s.heap news) (T : Top hd0227.view_39 loose mean mg mb h₀) (hk : cs.kind = .function) (hd : dp + 4 < recursionLimit) (hu : un + 30 < cLine)
    (hret : ∀ (t : Tok) (h' : Heap) (tk' : Nat), Fr h₀ L h' m → News h₀ L h' news → s.heap.StaysIn h' → Q (.int ((2 * top + 255).fdiv 510) t) { s with heap := h', toks := tk' }) :
    wpAny (model PySem.Challenge.rw_on0227_01.row.prog w) (ktrTop dp un gd cn cs L a ccd cl outer) (call (.ref 170) [.int top t1]) Q E s :=
  share_go top t1 b1 b2 w loose mean mg mb dp un gd cn cs a ccd cl outer A₀ base h₀ L m news s Q E B F X N T hk hd hu (fun v h' tk' ⟨t, e⟩ => by subst e; exact hret t h' tk')
end

section
/-- What full coverage makes of the nine modes, as the law writes it. -/
def dueD (one other : Int) : List (PyData × PyData) :=
  [(PyData.str (Str.ofString "normal"), PyData.int one),
      (PyData.str (Str.ofString "multiply"), PyData.int ((2 * (one * other) + 255).fdiv 510)),
      (PyData.str (Str.ofString "screen"), PyData.int (255 - (2 * ((255 - one) * (255 - other)) + 255).fdiv 510)),
      (PyData.str (Str.ofString "darken"), PyData.int (if other < one then other else one)),
      (PyData.str (Str.ofString "lighten"), PyData.int (if other > one then other else one)),
      (PyData.str (Str.ofString "difference"),
        PyData.int (if other - one > one - other then other - one else one - other)),
      (PyData.str (Str.ofString "exclusion"),
        PyData.int ((2 * (255 * one + 255 * other - 2 * one * other) + 255).fdiv 510)),
      (PyData.str (Str.ofString "hard-light"),
        PyData.int
          (if decide (255 < 2 * one) = true then 255 - (2 * (2 * (255 - one) * (255 - other)) + 255).fdiv 510
          else (2 * (2 * one * other) + 255).fdiv 510)),
      (PyData.str (Str.ofString "overlay"),
        PyData.int
          (if decide (255 < 2 * other) = true then 255 - (2 * (2 * (255 - one) * (255 - other)) + 255).fdiv 510
          else (2 * (2 * one * other) + 255).fdiv 510))]
theorem bp_full (i : Nat) (one other : Int) : bpV i one 255 other 255 = (2 * toldV i one 255 other 255 + 255).fdiv 510 := by
  unfold bpV
  have e : (255 : Int) - 255 = 0 := rfl
  rw [e, Int.mul_zero, Int.mul_zero, Int.add_zero, Int.add_zero]
  rfl
theorem round_out (S : Int) : 255 - (2 * (65025 - S) + 255).fdiv 510 = (2 * S + 255).fdiv 510 := by
  rw [Int.fdiv_eq_ediv_of_nonneg _ (by decide), Int.fdiv_eq_ediv_of_nonneg _ (by decide)]
  omega
theorem fdiv_255 (x : Int) : (2 * (x * 255) + 255).fdiv 510 = x := by
  rw [Int.fdiv_eq_ediv_of_nonneg _ (by decide)]
  omega
theorem due_0 (one other : Int) : one = bpV 0 one 255 other 255 := by
  rw [bp_full]
  simp only [toldV]
  exact (fdiv_255 one).symm
theorem due_1 (one other : Int) : (2 * (one * other) + 255).fdiv 510 = bpV 1 one 255 other 255 := by
  rw [bp_full]; rfl
theorem due_2 (one other : Int) : 255 - (2 * ((255 - one) * (255 - other)) + 255).fdiv 510 = bpV 2 one 255 other 255 := by
  rw [bp_full]
  simp only [toldV]
  have e : (255 - one) * (255 - other) = 65025 - (one * 255 + other * 255 - one * other) := by grind
  rw [e]
  exact round_out _
theorem due_3 (one other : Int) : (if other < one then other else one) = bpV 3 one 255 other 255 := by
  rw [bp_full]
  simp only [toldV]
  by_cases h : other < one
  · rw [if_pos h, if_pos (by omega)]; exact (fdiv_255 _).symm
  · rw [if_neg h, if_neg (by omega)]; exact (fdiv_255 _).symm
theorem due_4 (one other : Int) : (if other > one then other else one) = bpV 4 one 255 other 255 := by
  rw [bp_full]
  simp only [toldV]
  by_cases h : other > one
  · rw [if_pos h, if_pos (by omega)]; exact (fdiv_255 _).symm
  · rw [if_neg h, if_neg (by omega)]; exact (fdiv_255 _).symm
theorem due_7 (one other : Int) : (if other - one > one - other then other - one else one - other) = bpV 7 one 255 other 255 := by
  rw [bp_full]
  simp only [toldV]
  by_cases h : other - one > one - other
  · rw [if_pos h, if_pos (by omega)]
    have e : -(one * 255 - other * 255) = (other - one) * 255 := by omega
    rw [e]; exact (fdiv_255 _).symm
  · rw [if_neg h, if_neg (by omega)]
    have e : one * 255 - other * 255 = (one - other) * 255 := by omega
    rw [e]; exact (fdiv_255 _).symm
theorem due_8 (one other : Int) : (2 * (255 * one + 255 * other - 2 * one * other) + 255).fdiv 510 = bpV 8 one 255 other 255 := by
  rw [bp_full]
  simp only [toldV]
  have e : 255 * one + 255 * other - 2 * one * other = one * 255 + other * 255 - 2 * (one * other) := by grind
  rw [e]
theorem due_5 (one other : Int) : (if decide (255 < 2 * one) = true then 255 - (2 * (2 * (255 - one) * (255 - other)) + 255).fdiv 510
          else (2 * (2 * one * other) + 255).fdiv 510) = bpV 5 one 255 other 255 := by
  rw [bp_full]
  simp only [toldV]
  by_cases h : 255 < 2 * one
  · rw [if_pos (decide_eq_true h), if_neg (by omega)]
    have r := round_out (255 * 255 - 2 * (255 - one) * (255 - other))
    have e : 65025 - (255 * 255 - 2 * (255 - one) * (255 - other)) = 2 * (255 - one) * (255 - other) := by omega
    rw [e] at r
    exact r
  · rw [if_neg (by simp [h]), if_pos (by omega)]
    have e : 2 * one * other = 2 * (one * other) := Int.mul_assoc _ _ _
    rw [e]
theorem due_6 (one other : Int) : (if decide (255 < 2 * other) = true then 255 - (2 * (2 * (255 - one) * (255 - other)) + 255).fdiv 510
          else (2 * (2 * one * other) + 255).fdiv 510) = bpV 6 one 255 other 255 := by
  rw [bp_full]
  simp only [toldV]
  by_cases h : 255 < 2 * other
  · rw [if_pos (decide_eq_true h), if_neg (by omega)]
    have r := round_out (255 * 255 - 2 * (255 - other) * (255 - one))
    have e : 65025 - (255 * 255 - 2 * (255 - other) * (255 - one)) = 2 * (255 - one) * (255 - other) := by grind
    rw [e] at r
    exact r
  · rw [if_neg (by simp [h]), if_pos (by omega)]
    have e : 2 * one * other = 2 * (other * one) := by grind
    rw [e]
theorem full_ok (one other : Int) {t0 t1 t2 t3 t4 t5 t6 t7 t8 : Tok} {v : Value} (hv : v ∈ [Value.str (Str.ofString "normal") t0, Value.str (Str.ofString "multiply") t1, Value.str (Str.ofString "screen") t2, Value.str (Str.ofString "darken") t3, Value.str (Str.ofString "lighten") t4, Value.str (Str.ofString "hard-light") t5, Value.str (Str.ofString "overlay") t6, Value.str (Str.ofString "difference") t7, Value.str (Str.ofString "exclusion") t8]) :
    ∃ mo t i, v = .str mo t ∧ BpOk mo (bpV i) ∧ Spec.lookup (PyData.str mo) (dueD one other) = some (PyData.int (bpV i one 255 other 255)) := by
  simp only [List.mem_cons, List.not_mem_nil, or_false] at hv
  rcases hv with rfl | rfl | rfl | rfl | rfl | rfl | rfl | rfl | rfl
  · exact ⟨_, _, 0, rfl, bp_0, (congrArg (fun x => some (PyData.int x)) (due_0 one other))⟩
  · exact ⟨_, _, 1, rfl, bp_1, (congrArg (fun x => some (PyData.int x)) (due_1 one other))⟩
  · exact ⟨_, _, 2, rfl, bp_2, (congrArg (fun x => some (PyData.int x)) (due_2 one other))⟩
  · exact ⟨_, _, 3, rfl, bp_3, (congrArg (fun x => some (PyData.int x)) (due_3 one other))⟩
  · exact ⟨_, _, 4, rfl, bp_4, (congrArg (fun x => some (PyData.int x)) (due_4 one other))⟩
  · exact ⟨_, _, 5, rfl, bp_5, (congrArg (fun x => some (PyData.int x)) (due_5 one other))⟩
  · exact ⟨_, _, 6, rfl, bp_6, (congrArg (fun x => some (PyData.int x)) (due_6 one other))⟩
  · exact ⟨_, _, 7, rfl, bp_7, (congrArg (fun x => some (PyData.int x)) (due_7 one other))⟩
  · exact ⟨_, _, 8, rfl, bp_8, (congrArg (fun x => some (PyData.int x)) (due_8 one other))⟩
end

section
section
variable {prog : Program} {w : World} {A : Around} {E : Value → Shared → Prop} {s : Shared} {env : Env} {h₀ : Heap} {x : Str} {body : List Stmt} {Q : Flow → Shared → Prop}
/-- The end of a turn that stores no name but the walked one and keeps the ledger. -/
def KeepPost (h₀ : Heap) (L : Addr) (x : Str) (m₀ : Str → Option Value) (ks : List (Addr × Obj)) (s : Shared) (f : Flow) (s₂ : Shared) : Prop :=
  f = .next ∧ ∃ h' tk m', s₂ = { s with heap := h', toks := tk } ∧ Fr h₀ L h' m' ∧ News h₀ L h' ks ∧ ∀ y, y ≠ x → m' y = m₀ y
theorem keep_post {L : Addr} {m₀ m' : Str → Option Value} {ks : List (Addr × Obj)} {s : Shared} {h' : Heap} {tk : Nat}
    (F : Fr h₀ L h' m') (N : News h₀ L h' ks) (hm : ∀ y, y ≠ x → m' y = m₀ y) : KeepPost h₀ L x m₀ ks s .next { s with heap := h', toks := tk } := ⟨rfl, h', tk, m', rfl, F, N, hm⟩
theorem name1 {m m₀ : Str → Option Value} (hm : ∀ y, y ≠ x → m y = m₀ y) : m = fun y => if y = x then m x else m₀ y := by
  funext y
  split
  · rename_i e; rw [e]
  · exact hm y (by assumption)
theorem name1v {v : Value} {m m₀ : Str → Option Value} (hm : ∀ y, y ≠ x → m y = m₀ y) : (fun y => if y = x then some v else m y) = fun y => if y = x then some v else m₀ y := by
  funext y
  split
  · rfl
  · exact hm y (by assumption)
theorem rest_keep {I : Addr} {lp : Addr × Obj} (ks : List (Addr × Obj)) (m₀ : Str → Option Value) (hl : lp ∈ ks) (hI : ∀ p ∈ ks, p.1 ≠ I)
    (done : ∀ a h tk, Fr h₀ env.locals h (fun y => if y = x then a else m₀ y) → News h₀ env.locals h ks → Q .next { s with heap := h, toks := tk }) :
    ∀ (vs : List Value)
    (turn : ∀ v ∈ vs, ∀ it h tk, Fr h₀ env.locals h (fun y => if y = x then some v else m₀ y) → News h₀ env.locals h ((I, it) :: ks) →
      wpAny (model prog w) A (execs body env) (KeepPost h₀ env.locals x m₀ ((I, it) :: ks) { s with heap := h, toks := tk }) E { s with heap := h, toks := tk })
    (m : Str → Option Value) (hm : ∀ y, y ≠ x → m y = m₀ y) (news : List (Addr × Obj)) (hk : ∀ p ∈ ks, p ∈ news), ListRest prog w A E h₀ env x body Q s I lp vs m news
  | [], turn, m, hm, news, hk => by
    refine ListRest.zero fun h tk F N => done (m x) h tk ?_ ?_
    · exact name1 hm ▸ F
    · exact fun p hp => N _ (hk p hp)
  | v :: r, turn, m, hm, news, hk => by
    refine ListRest.succ fun it h tk hit F N => ?_
    have F' : Fr h₀ env.locals h (fun y => if y = x then some v else m₀ y) := by
      exact name1v hm ▸ F
    refine wpAny_mono (turn v (.head _) it h tk F' ?_) (fun f s₂ p => ?_) fun _ _ e => e
    · intro p hp
      rcases List.mem_cons.mp hp with rfl | hp
      · exact N _ (.head _)
      · exact N _ (.tail _ (hk p hp))
    · obtain ⟨rfl, h', tk', m', rfl, F₂, N₂, hm'⟩ := p
      refine ⟨h', tk', m', ks, rfl, F₂, N₂, fun p hp => hI p hp, hl, ?_⟩
      exact rest_keep ks m₀ hl hI done r (fun v hv => turn v (.tail _ hv)) m' hm' ks (fun _ h => h)
/-- What full_ok says, for any item of the walked names. -/
def FullOK (one other : Int) : Prop := ∀ (t0 t1 t2 t3 t4 t5 t6 t7 t8 : Tok) (v : Value), v ∈ [Value.str (Str.ofString "normal") t0, Value.str (Str.ofString "multiply") t1, Value.str (Str.ofString "screen") t2, Value.str (Str.ofString "darken") t3, Value.str (Str.ofString "lighten") t4, Value.str (Str.ofString "hard-light") t5, Value.str (Str.ofString "overlay") t6, Value.str (Str.ofString "difference") t7, Value.str (Str.ofString "exclusion") t8] →
    ∃ mo t i, v = .str mo t ∧ BpOk mo (bpV i) ∧ Spec.lookup (PyData.str mo) (dueD one other) = some (PyData.int (bpV i one 255 other 255))
theorem fullOK (one other : Int) : FullOK one other := fun _ _ _ _ _ _ _ _ _ _ hv => full_ok one other hv
theorem FullOK.get {one other : Int} (h : FullOK one other) {t0 t1 t2 t3 t4 t5 t6 t7 t8 : Tok} {v : Value} (hv : v ∈ [Value.str (Str.ofString "normal") t0, Value.str (Str.ofString "multiply") t1, Value.str (Str.ofString "screen") t2, Value.str (Str.ofString "darken") t3, Value.str (Str.ofString "lighten") t4, Value.str (Str.ofString "hard-light") t5, Value.str (Str.ofString "overlay") t6, Value.str (Str.ofString "difference") t7, Value.str (Str.ofString "exclusion") t8]) :
    ∃ mo t i, v = .str mo t ∧ BpOk mo (bpV i) ∧ Spec.lookup (PyData.str mo) (dueD one other) = some (PyData.int (bpV i one 255 other 255)) := h _ _ _ _ _ _ _ _ _ _ hv
theorem due_item {d : Addr} {value slice : PySem.Expr} {k : Str} {t : Tok} {r : Int} {D : List (PyData × PyData)} {Q : Value → Shared → Prop} (T : StrTab prog w s.heap d D) (hl : Spec.lookup (PyData.str k) D = some (PyData.int r))
    (h : ∀ t', Q (.int r t') { s with toks := s.toks + 1 })
    (hs : subscripted slice false (.ref d) (.str k t) = operate [.ref d, .str k t] (getItem (.ref d) (.str k t)))
    (hg : ∀ q, letTemporaryGo value (.ref d) q = pure ()) :
    wpAny (model prog w) A (subscriptTail value slice (.ref d) (.str k t)) Q E s :=
  item_strTab T hl (fun v hv => by
    obtain ⟨t', rfl⟩ := PyProof.V.Flat.int_inv hv
    exact h t') hs hg
end
end

section
/-- x stands not behind y. -/
def leS (x y : Str) : Prop := ltCps y.cps.toList x.cps.toList = false
theorem leS_le {x y : Str} (h : leS x y) : x.cps.toList ≤ y.cps.toList := by
  unfold leS at h
  rw [ltCps_eq] at h
  exact List.not_lt.mp (of_decide_eq_false h)
theorem leS_of {x y : Str} (h : x.cps.toList ≤ y.cps.toList) : leS x y := by
  unfold leS
  rw [ltCps_eq]
  exact decide_eq_false (List.not_lt.mpr h)
theorem leS_eq {x y : Str} (h1 : leS x y) (h2 : leS y x) : x = y := by
  have e := List.le_antisymm (leS_le h1) (leS_le h2)
  cases x; cases y
  simp only at e
  exact congrArg _ (Array.toList_inj.mp e)
theorem rising_pair : ∀ (p : Str) (l : List Str), risingS p l = true → (p :: l).Pairwise leS
  | p, [], _ => List.pairwise_singleton _ _
  | p, x :: r, h => by
    have h' : (!ltCps x.cps.toList p.cps.toList && risingS x r) = true := h
    rw [Bool.and_eq_true] at h'
    have hx : leS p x := by unfold leS; simpa using h'.1
    have ih := rising_pair x r h'.2
    refine List.pairwise_cons.mpr ⟨fun y hy => ?_, ih⟩
    rcases List.mem_cons.mp hy with rfl | hy
    · exact hx
    · exact leS_of (List.le_trans (leS_le hx) (leS_le ((List.pairwise_cons.mp ih).1 y hy)))
theorem sorted_pair : ∀ (l : List Str), sortedS l = true → l.Pairwise leS
  | [], _ => List.Pairwise.nil
  | p :: l, h => rising_pair p l h
theorem sorted_one {l k : List Str} (hp : l.Perm k) (h1 : sortedS l = true) (h2 : sortedS k = true) : l = k :=
  List.Perm.eq_of_pairwise (le := leS) (fun _ _ _ _ => leS_eq) (sorted_pair l h1) (sorted_pair k h2) hp

def names9 : List Str := [Str.ofString "darken", Str.ofString "difference", Str.ofString "exclusion", Str.ofString "hard-light", Str.ofString "lighten", Str.ofString "multiply", Str.ofString "normal", Str.ofString "overlay", Str.ofString "screen"]
theorem names9_sorted : sortedS names9 = true := by decide +kernel
theorem names9_modes : [Str.ofString "normal", Str.ofString "multiply", Str.ofString "screen", Str.ofString "darken", Str.ofString "lighten", Str.ofString "hard-light", Str.ofString "overlay", Str.ofString "difference", Str.ofString "exclusion"].Perm names9 := by decide +kernel
theorem names9_due : [Str.ofString "normal", Str.ofString "multiply", Str.ofString "screen", Str.ofString "darken", Str.ofString "lighten", Str.ofString "difference", Str.ofString "exclusion", Str.ofString "hard-light", Str.ofString "overlay"].Perm names9 := by decide +kernel
/-- A list of the nine names in their order. -/
theorem nine {vs : List Value} (h : StrsAre vs names9) : ∃ t0 t1 t2 t3 t4 t5 t6 t7 t8, vs = [.str (Str.ofString "darken") t0, .str (Str.ofString "difference") t1, .str (Str.ofString "exclusion") t2, .str (Str.ofString "hard-light") t3, .str (Str.ofString "lighten") t4, .str (Str.ofString "multiply") t5, .str (Str.ofString "normal") t6, .str (Str.ofString "overlay") t7, .str (Str.ofString "screen") t8] := by
  unfold names9 at h
  cases h with | cons _ t0 h =>
  cases h with | cons _ t1 h =>
  cases h with | cons _ t2 h =>
  cases h with | cons _ t3 h =>
  cases h with | cons _ t4 h =>
  cases h with | cons _ t5 h =>
  cases h with | cons _ t6 h =>
  cases h with | cons _ t7 h =>
  cases h with | cons _ t8 h =>
  cases h
  exact ⟨t0, t1, t2, t3, t4, t5, t6, t7, t8, rfl⟩

section
variable {prog : Program} {w : World} {A : Around} {E : Value → Shared → Prop} {s : Shared} {h₀ : Heap} {L d : Addr} {m : Str → Option Value} {news : List (Addr × Obj)} {Q : Value → Shared → Prop}
/-- The list of the nine names in their order, at B. -/
def nineAt (t0 t1 t2 t3 t4 t5 t6 t7 t8 : Tok) (e : Nat) : Obj := listOf #[.str (Str.ofString "darken") t0, .str (Str.ofString "difference") t1, .str (Str.ofString "exclusion") t2, .str (Str.ofString "hard-light") t3, .str (Str.ofString "lighten") t4, .str (Str.ofString "multiply") t5, .str (Str.ofString "normal") t6, .str (Str.ofString "overlay") t7, .str (Str.ofString "screen") t8] e

theorem sorted_names {l : Addr} {t0 t1 t2 t3 t4 t5 t6 t7 t8 : Tok} {n : Nat} (F : Fr h₀ L s.heap m) (N : News h₀ L s.heap news)
    (hl : (l, listOf #[Value.str (Str.ofString "normal") t0, Value.str (Str.ofString "multiply") t1, Value.str (Str.ofString "screen") t2, Value.str (Str.ofString "darken") t3, Value.str (Str.ofString "lighten") t4, Value.str (Str.ofString "hard-light") t5, Value.str (Str.ofString "overlay") t6, Value.str (Str.ofString "difference") t7, Value.str (Str.ofString "exclusion") t8] n) ∈ news)
    (h : ∀ (B : Addr) (h' : Heap) (t0 t1 t2 t3 t4 t5 t6 t7 t8 : Tok) (e : Nat), Fr h₀ L h' m → News h₀ L h' ((B, listOf #[.str (Str.ofString "darken") t0, .str (Str.ofString "difference") t1, .str (Str.ofString "exclusion") t2, .str (Str.ofString "hard-light") t3, .str (Str.ofString "lighten") t4, .str (Str.ofString "multiply") t5, .str (Str.ofString "normal") t6, .str (Str.ofString "overlay") t7, .str (Str.ofString "screen") t8] e) :: news) → (∀ p ∈ news, p.1 < B) → Q (.ref B) { s with heap := h' }) :
    wpAny (model prog w) A (call (.builtin "sorted") [.ref l]) Q E s := by
  refine sorted_N_str (vs := [Value.str (Str.ofString "normal") t0, Value.str (Str.ofString "multiply") t1, Value.str (Str.ofString "screen") t2, Value.str (Str.ofString "darken") t3, Value.str (Str.ofString "lighten") t4, Value.str (Str.ofString "hard-light") t5, Value.str (Str.ofString "overlay") t6, Value.str (Str.ofString "difference") t7, Value.str (Str.ofString "exclusion") t8]) F N (News.isList N hl) (.cons _ _ (.cons _ _ (.cons _ _ (.cons _ _ (.cons _ _ (.cons _ _ (.cons _ _ (.cons _ _ (.cons _ _ .nil))))))))) (Nat.le_of_ble_eq_true rfl) fun h' vs' ss' e F' N' hS hp hs => ?_
  have hq := sorted_one (hp.trans names9_modes) hs names9_sorted
  subst hq
  obtain ⟨t0, t1, t2, t3, t4, t5, t6, t7, t8, rfl⟩ := nine hS
  exact h _ h' t0 t1 t2 t3 t4 t5 t6 t7 t8 e F' N' (fun p hp => Nat.lt_succ_of_lt (Heap.lt_size (N p hp).1))

theorem keys_all : ∀ (D : List (PyData × PyData)) (ss : List Str) (C : List Value → Prop), D.map (·.1) = ss.map PyData.str → (∀ vs, StrsAre vs ss → C vs) → KdlKeysD D C
  | [], [], C, _, h => h [] .nil
  | q :: r, [], C, e, h => by simp at e
  | [], x :: xs, C, e, h => by simp at e
  | q :: r, x :: xs, C, e, h => by
    simp only [List.map_cons, List.cons.injEq] at e
    intro v hv
    rw [e.1] at hv
    obtain ⟨t, rfl⟩ := PyProof.V.Flat.str_inv hv
    exact keys_all r xs _ e.2 fun vs hS => h _ (.cons x t hS)

theorem sort_strs {B : Addr} {vs : List Value} {ss : List Str} {n : Nat} (F : Fr h₀ L s.heap m) (N : News h₀ L s.heap ((B, listOf vs.toArray n) :: news)) (x1 : ∀ p ∈ news, p.1 < B) (hS : StrsAre vs ss) (h64 : vs.length < 64)
    (h : ∀ (vs' : List Value) (ss' : List Str) (e : Nat) (h' : Heap), Fr h₀ L h' m → News h₀ L h' ((B, listOf vs'.toArray e) :: news) → StrsAre vs' ss' → ss'.Perm ss → sortedS ss' = true → Q .none { s with heap := h' }) :
    wpAny (model prog w) A (call (.builtin "list.sort") [.ref B]) Q E s := by
  have z := N _ (.head _)
  have ho : s.heap.get? B = some (seqObj "list" vs.toArray n) := z.1
  refine wpAny_call_entry PyProof.Rows.slot_list_sort ⟨_, z.1, rfl⟩ PyProof.Rows.entry_list_sort (list_sort_treeK strKind_oneLt ho hS.keysOf (fun v₁ v₂ rest e => keyKind_strs (by rw [← e]; exact hS)) h64 fun st' a1 a2 => ⟨_, rfl, ?_⟩) (PyProof.Rows.args_list_sort _)
  obtain ⟨ss', h1, h2, h3⟩ := sorted_out_str hS a1 a2
  obtain ⟨c, hc⟩ := sortedHeap_at (vs := vs) (out := (arrOf st').map (·.2)) ho
  have F4 : Fr h₀ L (sortedHeap s.heap B vs ((arrOf st').map (·.2))) m :=
    ksk_fr (((ksk_fr F (Heap.SameBut.update s.heap B (Obj.mapSeq fun _ => #[])) z.2.1 z.2.2).push (seqObj "tuple" vs.toArray 0)).push (seqObj "list" #[] 0)) (Heap.SameBut.update _ B (Obj.mapSeq fun _ => (arrOf st').map (·.2))) z.2.1 z.2.2
  refine h _ ss' c _ F4 (fun p hq => ?_) h1 h2 h3
  rcases List.mem_cons.mp hq with rfl | hq
  · exact ⟨hc, z.2⟩
  · have y := N p (.tail _ hq)
    exact ⟨(sortedHeap_old (Nat.ne_of_lt (x1 p hq)) (Heap.lt_size y.1)).trans y.1, y.2⟩

theorem sorted_due {D : List (PyData × PyData)} (hh : A.handled = none) (F : Fr h₀ L s.heap m) (N : News h₀ L s.heap news) (Ta : TabAt (PySem.strKind prog w) PyData.str s.heap d D)
    (hD : D.map (·.1) = [Str.ofString "normal", Str.ofString "multiply", Str.ofString "screen", Str.ofString "darken", Str.ofString "lighten", Str.ofString "difference", Str.ofString "exclusion", Str.ofString "hard-light", Str.ofString "overlay"].map PyData.str)
    (h : ∀ (B : Addr) (h' : Heap) (t0 t1 t2 t3 t4 t5 t6 t7 t8 : Tok) (e tk : Nat), Fr h₀ L h' m → News h₀ L h' ((B, listOf #[.str (Str.ofString "darken") t0, .str (Str.ofString "difference") t1, .str (Str.ofString "exclusion") t2, .str (Str.ofString "hard-light") t3, .str (Str.ofString "lighten") t4, .str (Str.ofString "multiply") t5, .str (Str.ofString "normal") t6, .str (Str.ofString "overlay") t7, .str (Str.ofString "screen") t8] e) :: news) → (∀ p ∈ news, p.1 < B) → Q (.ref B) { s with heap := h', toks := tk }) :
    wpAny (model prog w) A (call (.builtin "sorted") [.ref d]) Q E s := by
  have hlen : D.length = 9 := by
    have e := congrArg List.length hD
    simpa using e
  refine kdu_sortedD (knd := PySem.strKind _ _) (enc := PyData.str) (fun _ _ => kdl_flat_str) hh F N Ta (by omega) fun B h' tk => ?_
  refine keys_all D _ _ hD fun vs hS F' N' l1 => ?_
  have hl := StrsAre.length hS
  refine sort_strs F' N' l1 hS (by simp at hl; omega) fun vs' ss' e h'' F'' N'' hS' hp hs => ?_
  have hq := sorted_one (hp.trans names9_due) hs names9_sorted
  subst hq
  obtain ⟨t0, t1, t2, t3, t4, t5, t6, t7, t8, rfl⟩ := nine hS'
  exact h _ h'' t0 t1 t2 t3 t4 t5 t6 t7 t8 e tk F'' N'' l1
end
end

section
theorem pick2 {prog : Program} {w : World} {A : Around} {E : Value → Shared → Prop} {s : Shared} {value slice : PySem.Expr} {l : Addr} {c : Prop} [Decidable c] {x y : Int} {tx ty u : Tok} {Q : Value → Shared → Prop}
    (hl : s.heap.IsList l #[.int x tx, .int y ty]) (h : ∀ t, Q (.int (if c then y else x) t) s)
    (hs : subscripted slice false (.ref l) (.int (if c then 1 else 0) u) = operate [.ref l, .int (if c then 1 else 0) u] (getItem (.ref l) (.int (if c then 1 else 0) u))) :
    wpAny (model prog w) A (subscriptTail value slice (.ref l) (.int (if c then 1 else 0) u)) Q E s := by
  refine item_at (v := .int (if c then y else x) (if c then ty else tx)) hl (by split <;> decide) (by split <;> decide) ?_ (h _) hs
  by_cases hc : c <;> simp [hc]
theorem mul_in {a b : Int} (h1 : 0 ≤ a) (h2 : a ≤ 255) (h3 : 0 ≤ b) (h4 : b ≤ 255) : 0 ≤ a * b ∧ a * b ≤ 65025 := by
  constructor
  · exact Int.mul_nonneg h1 h3
  · exact Int.mul_le_mul h2 h4 h3 (by decide)
theorem mul_in2 {a b : Int} (h1 : 0 ≤ a) (h2 : a ≤ 255) (h3 : 0 ≤ b) (h4 : b ≤ 255) : 0 ≤ 2 * a * b ∧ 2 * a * b ≤ 130050 := by
  have e : 2 * a * b = 2 * (a * b) := Int.mul_assoc 2 a b
  have := mul_in h1 h2 h3 h4
  omega
set_option maxHeartbeats 1500000 in
theorem full_go (one : Int) (t1 : Tok) (other : Int) (t2 : Tok) (b1 : 0 ≤ one) (b2 : one ≤ 255) (b3 : 0 ≤ other) (b4 : other ≤ 255) :
    Pure 12 200 184 [.int one t1, .int other t2] (fun v => v = .bool true) := by
  unfold Pure
  have hO := fullOK one other
  have p1 := mul_in b1 b2 b3 b4
  have p2 := mul_in (a := 255 - one) (b := 255 - other) (by omega) (by omega) (by omega) (by omega)
  have p3 := mul_in2 b1 b2 b3 b4
  have p4 := mul_in2 (a := 255 - one) (b := 255 - other) (by omega) (by omega) (by omega) (by omega)
  w_top off
  k_with_none
  k_with "MINE enter" => ((refine Mine.enter (vis := []) (by k_asm) (by k_asm) (by k_asm) (by exact News.nil) (by k_asm) (by exact fun _ _ h => nomatch h) (by k_asm) (by exact rfl) (by exact rfl) (by assumption) (by k_is) (by k_is) (by ktr_room) (by exact BindsTo.of_eq rfl) (by exact locs rfl) ?_ (by exact rfl) (by exact rfl) (by exact rfl) (by decide); k_whole; intro g' L' h' FG' F' N' B' X' T' kp'; (try dsimp only); (try k_lift B'); (try k_fold)))
  k_with "MINE binaryOp FloorDiv int int" => ((k_here; (with_reducible refine floordiv_int (by omega) ?_ (Or.inl (PyProof.noPylong_small (by omega))))))
  k_with "binaryOp Mult int int" => ((k_here; (with_reducible refine mul_int ?_ (PySem.IntMulOk.of_left (PySem.intBits_le_64 (by omega) (by omega))))))
  k_with "MINE call ref" => ((k_here; (with_reducible show wpAny _ _ (call (Value.ref 123) _) _ _ _); k_dflt (refine bp_use (by first | with_reducible assumption | exact bp_0 | exact bp_1 | exact bp_2 | exact bp_3 | exact bp_4 | exact bp_5 | exact bp_6 | exact bp_7 | exact bp_8) (by first | with_reducible assumption | omega) (by first | with_reducible assumption | omega) (by first | with_reducible assumption | omega) (by first | with_reducible assumption | omega) (by first | with_reducible assumption | omega) (by first | with_reducible assumption | omega) (by k_asm) (by k_asm) (by k_asm) (by k_asm) (by k_asm) (by first | exact rfl | assumption) (by ktr_room) (by ktr_units) ?_; k_whole); intro t9 h9 tk9 F9 N9 S9; clear S9; (try dsimp only); (try k_sweep); (try k_fold)))
  k_with "MINE call ref" => ((k_here; (with_reducible show wpAny _ _ (call (Value.ref 170) _) _ _ _); k_dflt (refine share_use (by omega) (by omega) (by k_asm) (by k_asm) (by k_asm) (by k_asm) (by k_asm) (by first | exact rfl | assumption) (by ktr_room) (by ktr_units) ?_; k_whole); intro t9 h9 tk9 F9 N9 S9; clear S9; (try dsimp only); (try k_sweep); (try k_fold)))
  k_with "subscriptTail Name Call ref int" => ((k_here; k_dflt (refine pick2 (by exact News.isList (by k_asm) (by k_mem)) ?_ (by with_unfolding_all rfl); k_whole); intro t9; (try dsimp only)))
  k_with "MINE setItem ref str" => ((k_here; k_dflt (refine setItem_K PyProof.V.same_str (strKind_is _ _ _ _) (by k_flat) (by k_asm) (by k_asm) (by k_updF) (by k_asm) (by k_asm) ?_ (by (rw [sizeLine_eq]; exact Nat.le_of_ble_eq_true (by with_unfolding_all rfl)))); intro h' o' F' N' hd' hf'; (try dsimp only at N'); (try k_sweep); (try k_dflt ktd_lit)))
  k_with "ListRest" => ((k_here; (with_unfolding_all refine' rest_keep _ _ ?zzListResthl ?zzListResthI ?_ _ ?_ _ (fun _ _ => rfl) _ (fun _ h => h)); k_dflt ((case zzListResthl => k_mem); (case zzListResthI => (repeat' first | exact List.forall_mem_nil _ | (refine' List.forall_mem_cons.mpr ⟨?_, ?_⟩) | (refine Nat.ne_of_lt ?_; (try dsimp only); omega))); (all_goals first | (intro v hv it h' tk' F' N'; obtain ⟨mo, t, i, hE, C, hL⟩ := FullOK.get (by assumption) hv; subst hE) | intro a h' tk' F' N'))))
  k_with "subscriptTail Name Name ref str" => ((k_here; k_dflt (refine due_item (by k_tabat) (by assumption) ?_ (by with_unfolding_all rfl) (by (intro _; with_unfolding_all rfl))); intro t9; (try dsimp only)))
  k_with "KeepPost" => ((k_here; (with_reducible rename Fr _ _ _ _ => kF'); (with_reducible rename News _ _ _ _ => kN'); k_dflt (refine keep_post kF' kN' ?zzKeepPostm; (case zzKeepPostm => (intro y h1; simp only [if_neg h1])))))
  k_with "MINE call builtin:sorted" => ((k_here; (with_reducible show wpAny _ _ (call (Value.builtin "sorted") [Value.ref _]) _ _ _); k_dflt (first | (refine sorted_names (by k_asm) (by k_asm) (by k_mem) ?_; (intro B' h' t0 t1 t2 t3 t4 t5 t6 t7 t8 e' F' N' l1; (try k_lt l1); (try k_sweep))) | (refine sorted_due (by rfl) (by k_asm) (by k_asm) (by k_tabat) (by rfl) ?_; (intro B' h' t0 t1 t2 t3 t4 t5 t6 t7 t8 e' tk' F' N' l1; (try k_lt l1); (try k_sweep))))))
  k_with "MINE ite" => ((k_here; with_reducible refine ite_no no_self ?_))
  k_with "callWith" => ((dsimp only; k_dflt (refine callWith_method1 (first := [_]) ?_)))
  k_fill
  intro w loose mean mg mb dp un gd cn cs a ccd cl outer A₀ base h₀ L m news s Q E B F X N T hk hd hu hret
  refine wpAny_call ?_
  k_dflt (walk_at "MINE enter")
  k_steps
  all_goals (refine hret _ _ _ rfl (by assumption) (by assumption) (stays_back (by assumption) (by assumption)))
end

section
theorem blended_use {mo : Str} {f : Int → Int → Int → Int → Int} {t0 : Tok} {ta tb : Addr} {o0 o1 o2 p0 p1 p2 alpha beta : Int} {u0 u1 u2 u3 v0 v1 v2 v3 : Tok}
    {w : World} {loose : List Str} {mean : ExcName → Option Value} {mg mb : Str → Option Value} {dp un : Nat} {gd : Option (List Code)} {cn : Str} {cs : Scope} {a : Addr} {ccd : Value} {cl : List (Str × Addr)} {outer : List Env} {A₀ : Around} {base h₀ : Heap} {L : Addr} {m : Str → Option Value} {news : List (Addr × Obj)} {s : Shared} {Q E : Value → Shared → Prop}
    (C : BpOk mo f)
    (B : Below A₀ base outer h₀) (F : Fr h₀ L s.heap m) (X : (hd0227.heap_39 w.params).In h₀) (N : News h₀ L s.heap news) (T : Top hd0227.view_39 loose mean mg mb h₀) (hk : cs.kind = .function) (hd : dp + 6 < recursionLimit) (hu : un + 60 < cLine)
    (i1 : IsTup s.heap ta #[.int o0 u0, .int o1 u1, .int o2 u2, .int alpha u3])
    (i2 : IsTup s.heap tb #[.int p0 v0, .int p1 v1, .int p2 v2, .int beta v3])
    (ha : 0 ≤ alpha ∧ alpha ≤ 255 ∧ 0 ≤ o0 ∧ o0 ≤ alpha ∧ 0 ≤ o1 ∧ o1 ≤ alpha ∧ 0 ≤ o2 ∧ o2 ≤ alpha)
    (hb : 0 ≤ beta ∧ beta ≤ 255 ∧ 0 ≤ p0 ∧ p0 ≤ beta ∧ 0 ≤ p1 ∧ p1 ≤ beta ∧ 0 ≤ p2 ∧ p2 ≤ beta)
    (h : ∀ (r : Addr) (x0 x1 x2 x3 : Tok) (h' : Heap) (tk' : Nat), Fr h₀ L h' m → News h₀ L h' ((r, ({ cls := .type "tuple", data := .seq #[.int (f o0 alpha p0 beta) x0, .int (f o1 alpha p1 beta) x1, .int (f o2 alpha p2 beta) x2, .int ((2 * (alpha * 255 + beta * (255 - alpha)) + 255).fdiv (2 * 255)) x3] } : Obj)) :: news) → Q (.ref r) { s with heap := h', toks := tk' }) :
    wpAny (model PySem.Challenge.rw_on0227_01.row.prog w) (ktrTop dp un gd cn cs L a ccd cl outer) (call (.ref 128) [.str mo t0, .ref ta, .ref tb]) Q E s :=
  blended_go C t0 ta tb o0 o1 o2 p0 p1 p2 alpha beta u0 u1 u2 u3 v0 v1 v2 v3 ha.1 ha.2.1 hb.1 hb.2.1 ha.2.2.1 ha.2.2.2.1 ha.2.2.2.2.1 ha.2.2.2.2.2.1 ha.2.2.2.2.2.2.1 ha.2.2.2.2.2.2.2 hb.2.2.1 hb.2.2.2.1 hb.2.2.2.2.1 hb.2.2.2.2.2.1 hb.2.2.2.2.2.2.1 hb.2.2.2.2.2.2.2
    w loose mean mg mb dp un gd cn cs a ccd cl outer A₀ base h₀ L m news s Q E B F X N T hk hd hu i1 i2 h
theorem modes_ok {t0 t1 t2 t3 t4 t5 t6 t7 t8 : Tok} {v : Value} (hv : v ∈ [Value.str (Str.ofString "normal") t0, Value.str (Str.ofString "multiply") t1, Value.str (Str.ofString "screen") t2, Value.str (Str.ofString "darken") t3, Value.str (Str.ofString "lighten") t4, Value.str (Str.ofString "hard-light") t5, Value.str (Str.ofString "overlay") t6, Value.str (Str.ofString "difference") t7, Value.str (Str.ofString "exclusion") t8]) :
    ∃ mo t i, v = .str mo t ∧ BpOk mo (bpV i) ∧ ([Str.ofString "normal", Str.ofString "overlay", Str.ofString "hard-light"].any (· == mo) = true ∨ ([Str.ofString "normal", Str.ofString "overlay", Str.ofString "hard-light"].any (· == mo) = false ∧ (i = 1 ∨ i = 2 ∨ i = 3 ∨ i = 4 ∨ i = 7 ∨ i = 8))) := by
  simp only [List.mem_cons, List.not_mem_nil, or_false] at hv
  rcases hv with rfl | rfl | rfl | rfl | rfl | rfl | rfl | rfl | rfl
  · exact ⟨_, _, 0, rfl, bp_0, .inl (by decide +kernel)⟩
  · exact ⟨_, _, 1, rfl, bp_1, .inr ⟨by decide +kernel, by decide⟩⟩
  · exact ⟨_, _, 2, rfl, bp_2, .inr ⟨by decide +kernel, by decide⟩⟩
  · exact ⟨_, _, 3, rfl, bp_3, .inr ⟨by decide +kernel, by decide⟩⟩
  · exact ⟨_, _, 4, rfl, bp_4, .inr ⟨by decide +kernel, by decide⟩⟩
  · exact ⟨_, _, 5, rfl, bp_5, .inl (by decide +kernel)⟩
  · exact ⟨_, _, 6, rfl, bp_6, .inl (by decide +kernel)⟩
  · exact ⟨_, _, 7, rfl, bp_7, .inr ⟨by decide +kernel, by decide⟩⟩
  · exact ⟨_, _, 8, rfl, bp_8, .inr ⟨by decide +kernel, by decide⟩⟩
theorem no_any {α : Type} {l : List α} {p : α → Bool} (h : l.any p = true) : ¬ ((!(l.any p)) = true) := by simp [h]
theorem yes_any {α : Type} {l : List α} {p : α → Bool} (h : l.any p = false) : (!(l.any p)) = true := by simp [h]
theorem no_bne {x y : Int} (h : x = y) : ¬ ((x != y) = true) := by simp [h]
theorem ite_both {c : Prop} [Decidable c] {p q : Prop} (h : q) (h1 : c → q → p) : if c then p else q := by
  by_cases hc : c
  · rw [if_pos hc]; exact h1 hc h
  · rw [if_neg hc]; exact h
theorem sym_of {b : Bool} {S : Prop} (hc : (!b) = true) (hd : b = true ∨ (b = false ∧ S)) : S := by
  rcases hd with h | ⟨_, h⟩
  · simp [h] at hc
  · exact h
theorem bool_true {x y : Int} (h : x = y) : Value.bool (x == y) = .bool true := by rw [h]; simp
theorem hard_both {one alpha other beta : Int} (e : alpha = 2 * one) : 2 * (one * other) = alpha * beta - 2 * (alpha - one) * (beta - other) := by subst e; grind
theorem hard_dark {one alpha other beta : Int} (e : 2 * one < alpha) : toldV 5 one alpha other beta = 2 * one * other := by
  simp only [toldV]; rw [if_pos (by omega)]; exact (Int.mul_assoc _ _ _).symm
theorem hard_light {one alpha other beta : Int} (e : ¬ 2 * one < alpha) : toldV 5 one alpha other beta = alpha * beta - 2 * (alpha - one) * (beta - other) := by
  simp only [toldV]
  split
  · exact hard_both (by omega)
  · rfl
set_option maxHeartbeats 8000000 in
theorem turns_go (one : Int) (t1 : Tok) (alpha : Int) (t2 : Tok) (other : Int) (t3 : Tok) (beta : Int) (t4 : Tok) (b1 : 0 ≤ one) (b2 : one ≤ alpha) (b3 : alpha ≤ 255) (b4 : 0 ≤ other) (b5 : other ≤ beta) (b6 : beta ≤ 255) :
    Pure 12 120 177 [.int one t1, .int alpha t2, .int other t3, .int beta t4] (fun v => v = .bool true) := by
  unfold Pure
  w_top off
  k_with_none
  k_with "MINE enter" => ((refine Mine.enter (vis := []) (by k_asm) (by k_asm) (by k_asm) (by exact News.nil) (by k_asm) (by exact fun _ _ h => nomatch h) (by k_asm) (by exact rfl) (by exact rfl) (by assumption) (by k_is) (by k_is) (by ktr_room) (by exact BindsTo.of_eq rfl) (by exact locs rfl) ?_ (by exact rfl) (by exact rfl) (by exact rfl) (by decide); k_whole; intro g' L' h' FG' F' N' B' X' T' kp'; (try dsimp only); (try k_lift B'); (try k_fold)))
  k_with "MINE call ref" => ((k_here; (with_reducible show wpAny _ _ (call (Value.ref 123) _) _ _ _); k_dflt (refine bp_use (by first | with_reducible assumption | exact bp_0 | exact bp_1 | exact bp_2 | exact bp_3 | exact bp_4 | exact bp_5 | exact bp_6 | exact bp_7 | exact bp_8) (by first | with_reducible assumption | omega) (by first | with_reducible assumption | omega) (by first | with_reducible assumption | omega) (by first | with_reducible assumption | omega) (by first | with_reducible assumption | omega) (by first | with_reducible assumption | omega) (by k_asm) (by k_asm) (by k_asm) (by k_asm) (by k_asm) (by first | exact rfl | assumption) (by ktr_room) (by ktr_units) ?_; k_whole); intro t9 h9 tk9 F9 N9 S9; clear S9; (try dsimp only); (try k_sweep); (try k_fold)))
  k_with "MINE call ref" => ((k_here; (with_reducible show wpAny _ _ (call (Value.ref 128) _) _ _ _); k_dflt (refine blended_use (by first | with_reducible assumption | exact bp_0 | exact bp_1 | exact bp_2 | exact bp_3 | exact bp_4 | exact bp_5 | exact bp_6 | exact bp_7 | exact bp_8) (by k_asm) (by k_asm) (by k_asm) (by k_asm) (by k_asm) (by first | exact rfl | assumption) (by ktr_room) (by ktr_units) (by exact News.isTup (by k_asm) (by k_mem)) (by exact News.isTup (by k_asm) (by k_mem)) (by refine ⟨?_, ?_, ?_, ?_, ?_, ?_, ?_, ?_⟩ <;> omega) (by refine ⟨?_, ?_, ?_, ?_, ?_, ?_, ?_, ?_⟩ <;> omega) ?_; k_whole); intro r9 x0 x1 x2 x3 h9 tk9 F9 N9; (try dsimp only); (try k_sweep); (try k_fold)))
  k_with "MINE call ref" => ((k_here; (with_reducible show wpAny _ _ (call (Value.ref 95) _) _ _ _); k_dflt (refine hard_go (by k_asm) (by k_asm) (by k_asm) (by k_asm) (by k_mem) (by k_mem) (by with_reducible assumption) (by with_reducible assumption) (by with_reducible assumption) (by with_reducible assumption) (by with_reducible assumption) (by with_reducible assumption) (by k_asm) (by first | exact rfl | assumption) (by ktr_room) (by ktr_units) ?_; k_whole); intro t9 h9 tk9 F9 N9; (try dsimp only); (try k_sweep); (try k_fold)))
  k_with "ListRest" => ((k_here; (with_unfolding_all refine' rest_all (Str.ofString "seen") (Str.ofString "back") (Str.ofString "whole") _ ?zzListResthI ?_ _ ?_ _ (fun _ _ _ _ _ => rfl) _ ?zzListResthl); k_dflt ((case zzListResthl => k_mem); (case zzListResthI => (refine Nat.ne_of_lt ?_; omega)); (all_goals first | (intro v hv b c d it h' tk' F' N'; obtain ⟨mo, t, i, hE, C, hd⟩ := modes_ok hv; subst hE) | intro a b c d h' tk' F' N'))))
  k_with "TurnPost" => ((k_here; (with_reducible rename Fr _ _ _ _ => kF'); (with_reducible rename News _ _ _ _ => kN'); k_dflt (refine turn_post kF' kN' ?zzTurnPosta ?zzTurnPostb ?zzTurnPostm; (case zzTurnPosta => k_mem); (case zzTurnPostb => k_mem); (case zzTurnPostm => (intro y h1 h2 h3 h4; simp only [if_neg h1, if_neg h2, if_neg h3, if_neg h4])))))
  k_with "MINE ite" => ((k_here; first | (with_reducible refine ite_no (no_bne (by with_reducible first | rfl | exact bp_left _ | exact bp_right _ | exact bp_over _ _ _ _)) ?_) | (with_reducible refine ite_no (no_bne (bp_sym (by assumption) _ _ _ _)) ?_; with_reducible assumption) | (with_reducible refine ite_both (c := (!(List.any _ _)) = true) ?_ ?_; rotate_left; intro hc hP; have hs := sym_of hc (by assumption); rotate_left) | with_reducible refine ite_no (no_hi (by assumption) (by assumption) (by assumption) (by assumption) (by assumption) (by assumption)) ?_ | with_reducible refine ite_yes (yes_lo (by assumption) (by assumption) (by assumption) (by assumption) (by assumption) (by assumption)) ?_))
  k_with "MINE callWith ref" => ((k_here; (fail_if_success (with_reducible show wpAny _ _ (callWith _ (Value.ref _) [] _ _) _ _ _)); dsimp only; k_dflt (refine callWith_K0 (by first | ((with_reducible rename Fr _ _ _ _ => kF'); exact Frag.In.keeps (by with_reducible assumption) (Fr.keep kF')) | k_in) (by k_is) ?_; k_whole)))
  k_fill
  intro w loose mean mg mb dp un gd cn cs a ccd cl outer A₀ base h₀ L m news s Q E B F X N T hk hd hu hret
  refine wpAny_call ?_
  k_dflt (walk_at "MINE enter")
  k_steps
  all_goals (try k_data)
  all_goals (refine hret _ _ _ (bool_true ?_) (by assumption) (by assumption) (stays_back (by assumption) (by assumption)); first | exact hard_dark (by assumption) | exact hard_light (by assumption))
end

section
section
variable {w : World} {loose : List Str} {mean : ExcName → Option Value} {mg mb : Str → Option Value} {dp un : Nat} {gd : Option (List Code)} {cn : Str} {cs : Scope} {a : Addr} {ccd : Value} {cl : List (Str × Addr)} {outer : List Env} {A₀ : Around} {base h₀ : Heap} {L : Addr} {m : Str → Option Value} {news : List (Addr × Obj)} {s : Shared} {Q E : Value → Shared → Prop}
theorem turns_use {one : Int} {t1 : Tok} {alpha : Int} {t2 : Tok} {other : Int} {t3 : Tok} {beta : Int} {t4 : Tok} (b1 : 0 ≤ one) (b2 : one ≤ alpha) (b3 : alpha ≤ 255) (b4 : 0 ≤ other) (b5 : other ≤ beta) (b6 : beta ≤ 255)
    (B : Below A₀ base outer h₀) (F : Fr h₀ L s.heap m) (X : (hd0227.heap_39 w.params).In h₀) (N : News h₀ L s.heap news) (T : Top hd0227.view_39 loose mean mg mb h₀) (hk : cs.kind = .function) (hd : dp + 12 < recursionLimit) (hu : un + 120 < cLine)
    (hret : ∀ (h' : Heap) (tk' : Nat), Fr h₀ L h' m → News h₀ L h' news → Q (.bool true) { s with heap := h', toks := tk' }) :
    wpAny (model PySem.Challenge.rw_on0227_01.row.prog w) (ktrTop dp un gd cn cs L a ccd cl outer) (call (.ref 177) [.int one t1, .int alpha t2, .int other t3, .int beta t4]) Q E s :=
  turns_go one t1 alpha t2 other t3 beta t4 b1 b2 b3 b4 b5 b6 w loose mean mg mb dp un gd cn cs a ccd cl outer A₀ base h₀ L m news s Q E B F X N T hk hd hu (fun v h' tk' hv F' N' _ => by subst hv; exact hret h' tk' F' N')
theorem full_use {one : Int} {t1 : Tok} {other : Int} {t2 : Tok} (b1 : 0 ≤ one) (b2 : one ≤ 255) (b3 : 0 ≤ other) (b4 : other ≤ 255)
    (B : Below A₀ base outer h₀) (F : Fr h₀ L s.heap m) (X : (hd0227.heap_39 w.params).In h₀) (N : News h₀ L s.heap news) (T : Top hd0227.view_39 loose mean mg mb h₀) (hk : cs.kind = .function) (hd : dp + 12 < recursionLimit) (hu : un + 200 < cLine)
    (hret : ∀ (h' : Heap) (tk' : Nat), Fr h₀ L h' m → News h₀ L h' news → Q (.bool true) { s with heap := h', toks := tk' }) :
    wpAny (model PySem.Challenge.rw_on0227_01.row.prog w) (ktrTop dp un gd cn cs L a ccd cl outer) (call (.ref 184) [.int one t1, .int other t2]) Q E s :=
  full_go one t1 other t2 b1 b2 b3 b4 w loose mean mg mb dp un gd cn cs a ccd cl outer A₀ base h₀ L m news s Q E B F X N T hk hd hu (fun v h' tk' hv F' N' _ => by subst hv; exact hret h' tk' F' N')
theorem ints_all {vs : List Value} {ns : List Int} (h : IntsAre vs ns) : ∀ v ∈ vs.toArray.toList, ∃ i t, v = Value.int i t := by
  show ∀ v ∈ vs, ∃ i t, v = Value.int i t
  induction h with
  | nil => intro v hv; cases hv
  | cons n t _ ih =>
    intro v hv
    rcases List.mem_cons.mp hv with rfl | hv
    · exact ⟨_, _, rfl⟩
    · exact ih v hv
def AllNe (d : Nat) : List (Addr × Obj) → Prop
  | [] => True
  | p :: r => @Ne Nat p.1 d ∧ AllNe d r
theorem allNe_of {d : Addr} : ∀ {l : List (Addr × Obj)}, (∀ p ∈ l, p.1 ≠ d) → AllNe d l
  | [], _ => trivial
  | p :: _, h => ⟨h p (.head _), allNe_of fun q hq => h q (.tail _ hq)⟩
theorem pool_use {sc : Addr} {vs : List Value} {ns : List Int} {k : Int} {t0 : Tok} (hI : IntsAre vs ns) (hz : ns.length ≤ 63) (hk0 : 0 ≤ k) (hk1 : k ≤ 1)
    (B : Below A₀ base outer h₀) (F : Fr h₀ L s.heap m) (X : (hd0227.heap_39 w.params).In h₀) (hsc : h₀.IsList sc vs.toArray) (N : News h₀ L s.heap news) (T : Top hd0227.view_39 loose mean mg mb h₀) (hk : cs.kind = .function) (hd : dp + 4 < recursionLimit) (hu : un + 30 < cLine)
    (hret : ∀ (src : Addr) (a1 b1 : Int) (ta tb : Tok) (n : Nat) (h' : Heap) (tk' : Nat), 0 ≤ b1 → b1 < 2147483647 → Fr h₀ L h' m → News h₀ L h' ((src, listOf #[.int a1 ta, .int b1 tb] n) :: news) → AllNe src news → Q (.ref src) { s with heap := h', toks := tk' }) :
    wpAny (model PySem.Challenge.rw_on0227_01.row.prog w) (ktrTop dp un gd cn cs L a ccd cl outer) (call (.ref 142) [.ref sc, .int k t0]) Q E s := by
  have hl := hI.length
  exact pool_go sc vs.toArray k t0 hk0 hk1 (by simp; omega) (ints_all hI) w loose mean mg mb dp un gd cn cs a ccd cl outer A₀ base h₀ L m news s Q E B F X hsc N T hk hd hu (fun src a1 b1 ta tb n h' tk' p q F' N' ap => hret src a1 b1 ta tb n h' tk' p q F' N' (allNe_of ap))
end
theorem refused_use {w : World} {loose : List Str} {mean : ExcName → Option Value} {mg mb : Str → Option Value} {dp un : Nat} {gd : Option (List Code)} {cn : Str} {cs : Scope} {a : Addr} {ccd : Value} {A₀ : Around} {base h₀ : Heap} {L : Addr} {m : Str → Option Value} {news : List (Addr × Obj)} {s : Shared} {Q E : Value → Shared → Prop} {v : Value} {t0 t1 t2 t3 : Tok}
    (hv : v ∈ [Value.str (Str.ofString "") t0, Value.str (Str.ofString "Normal") t1, Value.str (Str.ofString "plus") t2, Value.str (Str.ofString "multiply ") t3])
    (B : Below A₀ base [] h₀) (F : Fr h₀ L s.heap m) (X : (hd0227.heap_39 w.params).In h₀) (N : News h₀ L s.heap news) (T : Top hd0227.view_39 loose mean mg mb h₀) (XB : (hd0227.heap_39 w.params).In base) (TB : Top hd0227.view_39 loose mean mg mb base) (hk : cs.kind = .function) (hd : dp + 12 < recursionLimit) (hu : un + 120 < cLine)
    (hret : ∀ (h' : Heap) (tk' : Nat), Fr h₀ L h' m → News h₀ L h' news → Q (.bool true) { s with heap := h', toks := tk' }) :
    wpAny (model PySem.Challenge.rw_on0227_01.row.prog w) (ktrTop dp un gd cn cs L a ccd [] []) (call (.ref 191) [v]) Q E s := by
  simp only [List.mem_cons, List.not_mem_nil, or_false] at hv
  rcases hv with rfl | rfl | rfl | rfl
  all_goals exact refused_go _ _ (by decide +kernel) (by decide +kernel) (by decide +kernel) (by decide +kernel) (by decide +kernel) (by decide +kernel) (by decide +kernel) (by decide +kernel) (by decide +kernel) (by decide +kernel) w loose mean mg mb dp un gd cn cs a ccd A₀ base h₀ L m news s Q E B F X N T XB TB hk hd hu hret
end

section
/-- The end of a turn of the law's loop: what stood in `nm` stands there still. -/
def LoopTurn (h₀ : Heap) (L : Addr) (nm : Str) (v : Value) (I : Addr) (it : Obj) (s : Shared) (f : Flow) (s₂ : Shared) : Prop :=
  f = .next ∧ ∃ h' tk m', s₂ = { s with heap := h', toks := tk } ∧ Fr h₀ L h' m' ∧ News h₀ L h' [(I, it)] ∧ m' nm = some v
theorem loop_turn {h₀ : Heap} {L : Addr} {nm : Str} {v : Value} {I : Addr} {it : Obj} {s : Shared} {h' : Heap} {tk : Nat} {m' : Str → Option Value} {news : List (Addr × Obj)} (F : Fr h₀ L h' m') (N : News h₀ L h' news) (hI : (I, it) ∈ news) (hm : m' nm = some v) :
    LoopTurn h₀ L nm v I it s .next { s with heap := h', toks := tk } := ⟨rfl, h', tk, m', rfl, F, fun p hp => by rw [List.mem_singleton.mp hp]; exact N _ hI, hm⟩
section
variable {prog : Program} {w : World} {A : Around} {E : Value → Shared → Prop} {s : Shared} {env : Env} {h₀ : Heap} {x : Str} {body : List Stmt} {Q : Flow → Shared → Prop}
theorem name_on {m : Str → Option Value} {nm : Str} {v u : Value} (hm : m nm = some v) : (fun y => if y = x then some u else m y) = fun y => if y = x then some u else if y = nm then some v else m y := by
  funext y
  split
  · rfl
  · split
    · rename_i e; rw [e]; exact hm
    · rfl
theorem range_all {I : Addr} {a : Int} {n : Nat} (nm : Str) (v : Value) (hn : n ≤ 2)
    (turn : ∀ (j : Nat) (m₁ : Str → Option Value) (t : Tok) (it : Obj) (h : Heap) (tk : Nat), j ≤ 1 → Fr h₀ env.locals h (fun y => if y = x then some (.int (a + (j : Int)) t) else if y = nm then some v else m₁ y) → News h₀ env.locals h [(I, it)] →
      wpAny (model prog w) A (execs body env) (LoopTurn h₀ env.locals nm v I it { s with heap := h, toks := tk }) E { s with heap := h, toks := tk })
    (done : ∀ m h tk, Fr h₀ env.locals h m → Q .next { s with heap := h, toks := tk }) :
    ∀ (k i : Nat) (_ : i + k ≤ n) (m : Str → Option Value) (_ : m nm = some v), RangeRest prog w A E h₀ env x body Q s I a n k i m []
  | 0, i, _, m, _ => RangeRest.zero fun h tk F _ => done m h tk F
  | k + 1, i, hk, m, hm => by
    refine RangeRest.succ fun t h tk F N => ?_
    rw [name_on hm] at F
    refine wpAny_mono (turn i m t _ h tk (by omega) F N) (fun f s₂ p => ?_) fun _ _ e => e
    obtain ⟨rfl, h', tk', m', rfl, F₂, N₂, hm'⟩ := p
    exact ⟨h', tk', m', [], rfl, F₂, N₂, fun _ h => (nomatch h), range_all nm v hn turn done k (i + 1) (by omega) m' hm'⟩
theorem law_loop {L r : Addr} {b : Int} {t₀ u₀ v₀ : Tok} {m₀ : Str → Option Value} {nm : Str} {v : Value} (hL : env.locals = L) (hb : b = 1 ∨ b = 2) (hh : A.handled = none) (hr : IsRange s.heap r 0 b 1 t₀ u₀ v₀) (F : Fr h₀ L s.heap m₀) (hm : m₀ nm = some v)
    (turn : ∀ (I : Addr) (j : Nat) (m₁ : Str → Option Value) (t : Tok) (it : Obj) (h : Heap) (tk : Nat), j ≤ 1 → Fr h₀ L h (fun y => if y = x then some (.int (0 + (j : Int)) t) else if y = nm then some v else m₁ y) → News h₀ L h [(I, it)] →
      wpAny (model prog w) A (execs body env) (LoopTurn h₀ L nm v I it { s with heap := h, toks := tk }) E { s with heap := h, toks := tk })
    (done : ∀ m h tk, Fr h₀ L h m → Q .next { s with heap := h, toks := tk }) :
    wpAny (model prog w) A (pyIter (.ref r)) (fun it s₂ => LoopAtV prog w A h₀ env x body Q E it s₂) E s := by
  subst hL
  rcases hb with rfl | rfl
  · exact iter_rangeUnr (n := 1) hh hr (by rfl) (by rfl) F (News.nil : News h₀ env.locals s.heap []) fun I _ => range_all nm v (by omega) (turn I) done 1 0 (by omega) m₀ hm
  · exact iter_rangeUnr (n := 2) hh hr (by rfl) (by rfl) F (News.nil : News h₀ env.locals s.heap []) fun I _ => range_all nm v (by omega) (turn I) done 2 0 (by omega) m₀ hm
end
def LawEnd (h₀ : Heap) (L : Addr) (s : Shared) (f : Flow) (s' : Shared) : Prop := f = .ret (.bool true) ∧ ∃ h' tk' m', s' = { s with heap := h', toks := tk' } ∧ Fr h₀ L h' m' ∧ News h₀ L h' []
theorem law_cut {prog : Program} {w : World} {A : Around} {t : Sem Flow} {Q : Flow → Shared → Prop} {E : Value → Shared → Prop} {s : Shared} {h₀ : Heap} {L : Addr} {m : Str → Option Value} (F : Fr h₀ L s.heap m) (walk : wpAny (model prog w) A t (LawEnd h₀ L s) (fun _ _ => False) s)
    (fin : ∀ h' tk' m', Fr h₀ L h' m' → News h₀ L h' [] → Q (.ret (.bool true)) { s with heap := h', toks := tk' }) : wpAny (model prog w) A t Q E s :=
  wpAny_mono walk (fun f s' ⟨e, h', tk', m', e', F', N'⟩ => by subst e; subst e'; exact fin h' tk' m' F' N') fun _ _ h => h.elim
theorem law_end {h₀ : Heap} {L : Addr} {s : Shared} {h' : Heap} {tk' : Nat} {m' : Str → Option Value} (F : Fr h₀ L h' m') : LawEnd h₀ L s (.ret (.bool true)) { s with heap := h', toks := tk' } := ⟨rfl, h', tk', m', rfl, F, fun _ h => nomatch h⟩
theorem len_ints {prog : Program} {w : World} {A : Around} {s : Shared} {l : Addr} {vs : List Value} {ns : List Int} {Q : Value → Shared → Prop} {E : Value → Shared → Prop} (hl : s.heap.IsList l vs.toArray) (hI : IntsAre vs ns) (hz : ns.length ≤ 63) (h : Q (.int ns.length (s.toks + 1)) { s with toks := s.toks + 1 + 1 }) : wpAny (model prog w) A (call (.builtin "len") [.ref l]) Q E s := by
  have hlen := hI.length
  refine PyProof.Rows.len_list hl (by simp; omega) ?_
  have e : (vs.toArray.size : Int) = ns.length := by simp; omega
  rw [e]
  exact h
end
end Mine
open Mine
set_option maxHeartbeats 4000000 in
theorem PySem.Challenge.cw_on0227_01_holds : PySem.Challenge.rw_on0227_01.Holds := by
  w_top off
  k_with_none
  k_with "MINE call builtin:len" => ((k_here; (with_reducible show wpAny _ _ (call (Value.builtin "len") [Value.ref _]) _ _ _); k_dflt (refine len_ints (list_keeps (by with_reducible assumption) (by k_asm)) (by with_reducible assumption) (by omega) ?_; k_whole)))
  k_with "LawEnd" => ((k_here; (with_reducible rename Fr _ _ _ _ => kF'); k_dflt (exact law_end kF')))
  k_with "MINE pyIter ref" => ((k_here; (with_reducible show wpAny _ _ (pyIter (Value.ref _)) (fun it s₂ => LoopAtV _ _ _ _ _ _ _ _ _ it s₂) _ _); (with_reducible rename Fr _ _ _ _ => kF'); (with_unfolding_all refine' law_loop (nm := Str.ofString "script") ?zzpyIterrefhL ?zzpyIterrefhb ?zzpyIterrefhh ?zzpyIterrefhr kF' ?zzpyIterrefhm ?_ ?_); k_dflt ((case zzpyIterrefhL => exact rfl); (case zzpyIterrefhh => exact rfl); (case zzpyIterrefhr => assumption); (case zzpyIterrefhb => ((repeat' split) <;> omega)); (case zzpyIterrefhm => with_unfolding_all exact rfl); (all_goals first | (intro I' j m' t it h' tk' hj F' N'; (try k_fold)) | intro m' h' tk' F'))))
  k_with "LoopTurn" => ((k_here; (with_reducible rename Fr _ _ _ _ => kF'); (with_reducible rename News _ _ _ _ => kN'); k_dflt (refine loop_turn kF' kN' ?zzLoopTurna ?zzLoopTurnm; (case zzLoopTurna => k_mem); (case zzLoopTurnm => exact rfl))))
  k_with "MINE in" => ((refine int_in ?_ ?_ <;> first | omega | (refine half_lo (b := 0) ?_; omega) | (refine half_hi ?_ ?_ <;> omega)))
  k_with "MINE all" => (first | exact List.forall_mem_nil _ | (refine List.forall_mem_cons.mpr ⟨(by walk_at "MINE in"), (by walk_at "MINE all")⟩))
  k_with "MINE mem" => ((with_reducible rename _ ∈ Array.toList #[Value.int _ _, Value.int _ _, Value.int _ _, Value.int _ _, Value.int _ _] => hv9; obtain ⟨k9, t9, hE9, hk90, hk91⟩ := all_in (lo := 0) (hi := 255) hv9 (by dsimp only; walk_at "MINE all"); subst hE9; clear hv9))
  k_with "MINE drop" => (repeat' first | exact Drop.nil | (apply Drop.skip) | (apply Drop.keep (by first | with_reducible assumption | (refine neN ?_; (try dsimp only); omega))))
  k_with "MINE room" => (first | k_room | ktr_room)
  k_with "MINE units" => (first | k_units | ktr_units)
  k_with "MINE call ref" => ((k_here; (with_reducible show wpAny _ _ (call (Value.ref 149) _) _ _ _); k_dflt (refine take_use (by k_asm) (by k_asm) (by k_asm) (by k_asm) (by k_asm) (by k_mem) (by walk_at "MINE drop") (by first | with_reducible assumption | omega) (by first | with_reducible assumption | omega) (by first | with_reducible assumption | omega) (by first | with_reducible assumption | omega) (by first | exact rfl | assumption) (by walk_at "MINE room") (by walk_at "MINE units") ?_; k_whole); intro r9 t9 a9 b9 ta9 tb9 n9 h9 tk9 hr0 hr1 hb90 hb91 F9 N9; (try dsimp only); (try k_sweep); (try k_fold)))
  k_with "MINE call ref" => ((k_here; (with_reducible show wpAny _ _ (call (Value.ref 156) _) _ _ _); k_dflt (refine one_use (by k_asm) (by k_asm) (by k_asm) (by k_asm) (by k_asm) (by k_mem) (by k_mem) (by k_ne) (by walk_at "MINE drop") (by walk_at "MINE drop") (by exact Nat.le_of_ble_eq_true rfl) (by exact Nat.le_of_ble_eq_true rfl) (by first | with_reducible assumption | omega) (by first | with_reducible assumption | omega) (by first | exact rfl | assumption) (by walk_at "MINE room") (by walk_at "MINE units") ?_; k_whole); intro v9 a9 b9 ta9 tb9 n9 h9 tk9 hv9 hb90 hb91 F9 N9; (try dsimp only); (try k_sweep); (try walk_at "MINE mem"); (try k_fold)))
  k_with "MINE call ref" => ((k_here; (with_reducible show wpAny _ _ (call (Value.ref 163) _) _ _ _); k_dflt (refine pair_use (by k_asm) (by k_asm) (by k_asm) (by k_asm) (by k_asm) (by k_mem) (by walk_at "MINE drop") (by first | with_reducible assumption | omega) (by first | with_reducible assumption | omega) (by first | exact rfl | assumption) (by walk_at "MINE room") (by walk_at "MINE units") ?_; k_whole); intro x9 o9 al9 t19 t29 a9 b9 ta9 tb9 n9 h9 tk9 ho0 ho1 ho2 hx9 hb90 hb91 F9 N9; (try dsimp only); (try k_sweep); (try k_fold)))
  k_with "MINE call ref" => ((k_here; (with_reducible show wpAny _ _ (call (Value.ref 142) _) _ _ _); k_dflt (refine pool_use (by with_reducible assumption) (by omega) (by first | with_reducible assumption | omega) (by first | with_reducible assumption | omega) (by k_asm) (by k_asm) (by k_asm) (by k_asm) (by k_asm) (by k_asm) (by first | exact rfl | assumption) (by walk_at "MINE room") (by walk_at "MINE units") ?_; k_whole); intro src9 a9 b9 ta9 tb9 n9 h9 tk9 hb90 hb91 F9 N9 ap9; (simp only [AllNe, and_true] at ap9); (try dsimp only); (try k_sweep); (try k_fold)))
  k_with "MINE call ref" => ((k_here; (with_reducible show wpAny _ _ (call (Value.ref 177) _) _ _ _); k_dflt (refine turns_use (by first | with_reducible assumption | omega) (by first | with_reducible assumption | omega) (by first | with_reducible assumption | omega) (by first | with_reducible assumption | omega) (by first | with_reducible assumption | omega) (by first | with_reducible assumption | omega) (by k_asm) (by k_asm) (by k_asm) (by k_asm) (by k_asm) (by first | exact rfl | assumption) (by walk_at "MINE room") (by walk_at "MINE units") ?_; k_whole); intro h9 tk9 F9 N9; (try dsimp only); (try k_sweep); (try k_fold)))
  k_with "MINE call ref" => ((k_here; (with_reducible show wpAny _ _ (call (Value.ref 184) _) _ _ _); k_dflt (refine full_use (by first | with_reducible assumption | omega) (by first | with_reducible assumption | omega) (by first | with_reducible assumption | omega) (by first | with_reducible assumption | omega) (by k_asm) (by k_asm) (by k_asm) (by k_asm) (by k_asm) (by first | exact rfl | assumption) (by walk_at "MINE room") (by walk_at "MINE units") ?_; k_whole); intro h9 tk9 F9 N9; (try dsimp only); (try k_sweep); (try k_fold)))
  k_with "MINE call ref" => ((k_here; (with_reducible show wpAny _ _ (call (Value.ref 191) _) _ _ _); k_dflt (refine refused_use (by k_asm) (by k_asm) (by k_asm) (by k_asm) (by k_asm) (by k_asm) (by k_asm) (by k_asm) (by first | exact rfl | assumption) (by walk_at "MINE room") (by walk_at "MINE units") ?_; k_whole); intro h9 tk9 F9 N9; (try dsimp only); (try k_sweep); (try k_fold)))
  refine hd0227 ?_
  w_strict (k_go0)
  refine law_cut (by assumption) ?walk ?fin
  case walk =>
    (rename Ground _ _ _ _ _ _ _ _ _ => q1; clear q1)
    (rename Flt.MathXP _ _ _ => q1; clear q1)
    (rename LooseAre _ _ _ => q1; clear q1)
    (rename Glob _ _ _ _ _ _ _ _ => q1; clear q1)
    (rename Tables _ _ _ _ => q1; clear q1)
    (rename TopE _ _ _ _ => q1; clear q1)
    (rename TopW _ _ _ => q1; clear q1)
    (rename BMod _ _ _ _ _ => q1; clear q1)
    (rename Dflts _ _ _ _ _ _ => q1; clear q1)
    (rename ReadsAllW _ _ _ _ _ _ => q1; clear q1)
    (rename ReadsAll _ _ _ _ => q1; clear q1)
    (rename Well _ _ _ _ => q1; clear q1)
    (try k_fold)
    k_steps
  case fin =>
    intro h' tk' m' F' N'
    k_steps
