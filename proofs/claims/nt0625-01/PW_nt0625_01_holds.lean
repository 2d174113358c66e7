import PyProof.Rows.All
import Wide.All
import OpenK.AllK
import Wide.FinOn
import PySem.Challenge.RW_nt0625_01
open PySem PySem.W PyProof.Rows PySem.Spec PySem.Calls PySem.Builtin
set_option Elab.async false
set_option maxRecDepth 100000
set_option maxHeartbeats 8000000
set_option compiler.extract_closed false
namespace Mine
/-- the looks at the law, each a step of its own -/
theorem lawSaid : OpenLaw.wellSaid PySem.Challenge.rw_nt0625_01 = true := by
  repeat' (first | delta OpenLaw.wellSaid | delta OpenRow.wellSaid | delta OpenRow.partSaid | delta looksOpen | (with_reducible refine look_both ?_ ?_))
  all_goals decide +kernel
/-- the law's text without the two rows that name its files -/
def viewP : Program := { PySem.Challenge.rw_nt0625_01.row.prog with main := { PySem.Challenge.rw_nt0625_01.row.prog.main with body := (PySem.Challenge.rw_nt0625_01.row.prog.main.body.drop 1).take 5 ++ PySem.Challenge.rw_nt0625_01.row.prog.main.body.drop 7 } }
section
local macro_rules | `(tactic| o_law) => `(tactic| refine holds_law lawSaid fun said => ?_)
local macro_rules | `(tactic| o_head $H) => `(tactic| (
  refine holds_open (q := viewP) (loose := []) (Xt := fun s => xlAt viewP [] s && recOk (RowW.records (OpenRow.toRowW PySem.Challenge.rw_nt0625_01.row)) s) (XP := XL viewP []) (Yf := Hook.obs $H) (Ya := Hook.val $H) (YP := Hook.says $H) (N := 1078) ?hl (Hook.of $H) (Hook.keeps $H) (fun s e => xl_of s (Bool.and_eq_true_iff.mp e).1) XL.keeps (by rfl) (by rfl) (by rfl) (fun s e => recFacts_of (Bool.and_eq_true_iff.mp e).2) (by rfl) (by first | assumption | decide +kernel) (by decide +kernel) ⟨rfl, rfl, rfl, rfl, rfl, by decide +kernel⟩ ?hw ?hc
  (case hl => intro w; kernel_rfl)))
open_top hd for PySem.Challenge.rw_nt0625_01
end
theorem topOff : True := by (w_top off); trivial
section
theorem mem0 {a : Addr × Obj} {l : List (Addr × Obj)} : a ∈ a :: l := .head _
theorem mem1 {x0 a : Addr × Obj} {l : List (Addr × Obj)} : a ∈ x0 :: a :: l := .tail _ (.head _)
theorem mem2 {x0 x1 a : Addr × Obj} {l : List (Addr × Obj)} : a ∈ x0 :: x1 :: a :: l := .tail _ (.tail _ (.head _))
theorem mem3 {x0 x1 x2 a : Addr × Obj} {l : List (Addr × Obj)} : a ∈ x0 :: x1 :: x2 :: a :: l := .tail _ (.tail _ (.tail _ (.head _)))
theorem mem4 {x0 x1 x2 x3 a : Addr × Obj} {l : List (Addr × Obj)} : a ∈ x0 :: x1 :: x2 :: x3 :: a :: l := .tail _ (.tail _ (.tail _ (.tail _ (.head _))))
theorem mem5 {x0 x1 x2 x3 x4 a : Addr × Obj} {l : List (Addr × Obj)} : a ∈ x0 :: x1 :: x2 :: x3 :: x4 :: a :: l := .tail _ (.tail _ (.tail _ (.tail _ (.tail _ (.head _)))))
theorem mem6 {x0 x1 x2 x3 x4 x5 a : Addr × Obj} {l : List (Addr × Obj)} : a ∈ x0 :: x1 :: x2 :: x3 :: x4 :: x5 :: a :: l := .tail _ (.tail _ (.tail _ (.tail _ (.tail _ (.tail _ (.head _))))))
theorem mem7 {x0 x1 x2 x3 x4 x5 x6 a : Addr × Obj} {l : List (Addr × Obj)} : a ∈ x0 :: x1 :: x2 :: x3 :: x4 :: x5 :: x6 :: a :: l := .tail _ (.tail _ (.tail _ (.tail _ (.tail _ (.tail _ (.tail _ (.head _)))))))
theorem mem8 {x0 x1 x2 x3 x4 x5 x6 x7 a : Addr × Obj} {l : List (Addr × Obj)} : a ∈ x0 :: x1 :: x2 :: x3 :: x4 :: x5 :: x6 :: x7 :: a :: l := .tail _ (.tail _ (.tail _ (.tail _ (.tail _ (.tail _ (.tail _ (.tail _ (.head _))))))))
theorem mem9 {x0 x1 x2 x3 x4 x5 x6 x7 x8 a : Addr × Obj} {l : List (Addr × Obj)} : a ∈ x0 :: x1 :: x2 :: x3 :: x4 :: x5 :: x6 :: x7 :: x8 :: a :: l := .tail _ (.tail _ (.tail _ (.tail _ (.tail _ (.tail _ (.tail _ (.tail _ (.tail _ (.head _)))))))))
theorem mem10 {x0 x1 x2 x3 x4 x5 x6 x7 x8 x9 a : Addr × Obj} {l : List (Addr × Obj)} : a ∈ x0 :: x1 :: x2 :: x3 :: x4 :: x5 :: x6 :: x7 :: x8 :: x9 :: a :: l := .tail _ (.tail _ (.tail _ (.tail _ (.tail _ (.tail _ (.tail _ (.tail _ (.tail _ (.tail _ (.head _))))))))))
theorem mem11 {x0 x1 x2 x3 x4 x5 x6 x7 x8 x9 x10 a : Addr × Obj} {l : List (Addr × Obj)} : a ∈ x0 :: x1 :: x2 :: x3 :: x4 :: x5 :: x6 :: x7 :: x8 :: x9 :: x10 :: a :: l := .tail _ (.tail _ (.tail _ (.tail _ (.tail _ (.tail _ (.tail _ (.tail _ (.tail _ (.tail _ (.tail _ (.head _)))))))))))
theorem mem12 {x0 x1 x2 x3 x4 x5 x6 x7 x8 x9 x10 x11 a : Addr × Obj} {l : List (Addr × Obj)} : a ∈ x0 :: x1 :: x2 :: x3 :: x4 :: x5 :: x6 :: x7 :: x8 :: x9 :: x10 :: x11 :: a :: l := .tail _ (.tail _ (.tail _ (.tail _ (.tail _ (.tail _ (.tail _ (.tail _ (.tail _ (.tail _ (.tail _ (.tail _ (.head _))))))))))))
theorem mem13 {x0 x1 x2 x3 x4 x5 x6 x7 x8 x9 x10 x11 x12 a : Addr × Obj} {l : List (Addr × Obj)} : a ∈ x0 :: x1 :: x2 :: x3 :: x4 :: x5 :: x6 :: x7 :: x8 :: x9 :: x10 :: x11 :: x12 :: a :: l := .tail _ (.tail _ (.tail _ (.tail _ (.tail _ (.tail _ (.tail _ (.tail _ (.tail _ (.tail _ (.tail _ (.tail _ (.tail _ (.head _)))))))))))))
theorem memT {a b : Addr × Obj} {l : List (Addr × Obj)} (h : a ∈ l) : a ∈ b :: l := .tail _ h
theorem memL {a : Addr × Obj} {l r : List (Addr × Obj)} (h : a ∈ l) : a ∈ l ++ r := List.mem_append_left _ h
theorem memR {a : Addr × Obj} {l r : List (Addr × Obj)} (h : a ∈ r) : a ∈ l ++ r := List.mem_append_right _ h
theorem allN {P : Addr × Obj → Prop} : ∀ p ∈ ([] : List (Addr × Obj)), P p := fun _ h => nomatch h
theorem allC {P : Addr × Obj → Prop} {a : Addr × Obj} {t : List (Addr × Obj)} (h : P a) (ht : ∀ p ∈ t, P p) : ∀ p ∈ a :: t, P p := List.forall_mem_cons.mpr ⟨h, ht⟩
theorem subN {l : List (Addr × Obj)} : ∀ p ∈ ([] : List (Addr × Obj)), p ∈ l := fun _ h => nomatch h
theorem subC {a : Addr × Obj} {t l : List (Addr × Obj)} (h : a ∈ l) (ht : ∀ p ∈ t, p ∈ l) : ∀ p ∈ a :: t, p ∈ l := List.forall_mem_cons.mpr ⟨h, ht⟩
theorem subA {t u l : List (Addr × Obj)} (h : ∀ p ∈ t, p ∈ l) (h' : ∀ p ∈ u, p ∈ l) : ∀ p ∈ t ++ u, p ∈ l := fun p hp => (List.mem_append.mp hp).elim (h p) (h' p)
theorem subI {l : List (Addr × Obj)} : ∀ p ∈ l, p ∈ l := fun _ h => h
theorem subT {b : Addr × Obj} {t l : List (Addr × Obj)} (h : ∀ p ∈ t, p ∈ l) : ∀ p ∈ t, p ∈ b :: l := fun p hp => .tail _ (h p hp)
theorem subL {t l r : List (Addr × Obj)} (h : ∀ p ∈ t, p ∈ l) : ∀ p ∈ t, p ∈ l ++ r := fun p hp => List.mem_append_left _ (h p hp)
theorem subR {t l r : List (Addr × Obj)} (h : ∀ p ∈ t, p ∈ r) : ∀ p ∈ t, p ∈ l ++ r := fun p hp => List.mem_append_right _ (h p hp)
theorem less {h₀ h : Heap} {L : Addr} {news news' : List (Addr × Obj)} (N : News h₀ L h news') (hs : ∀ p ∈ news, p ∈ news') : News h₀ L h news := fun p hp => N p (hs p hp)
theorem disOne {a : Addr} {o : Obj} {l : List (Addr × Obj)} (h : ∀ p ∈ l, p.1 ≠ a) : ∀ p ∈ l, p.1 ∉ [(a, o)].map (·.1) := fun p hp e => h p hp (List.mem_singleton.mp e)
theorem subMem {p : Addr × Obj} {l l' : List (Addr × Obj)} (hp : p ∈ l) (h : ∀ p ∈ l, p ∈ l') : p ∈ l' := h p hp
theorem noDict {o : Obj} {d : PySem.Data} (h : o.data = d) (hd : ∀ es ep, d ≠ .dict es ep) : ¬ ∃ es ep, o.data = .dict es ep := fun ⟨es, ep, e⟩ => hd es ep (h.symm.trans e)
end
local macro_rules | `(tactic| walk_at "mem") => `(tactic| first
  | with_reducible exact mem0 | with_reducible exact mem1 | with_reducible exact mem2 | with_reducible exact mem3 | with_reducible exact mem4 | with_reducible exact mem5 | with_reducible exact mem6
  | with_reducible exact mem7 | with_reducible exact mem8 | with_reducible exact mem9 | with_reducible exact mem10 | with_reducible exact mem11 | with_reducible exact mem12 | with_reducible exact mem13
  | (with_reducible refine memL ?_; walk_at "mem")
  | (with_reducible refine memR ?_; walk_at "mem")
  | (with_reducible refine memT ?_; walk_at "mem"))
local macro_rules | `(tactic| walk_at "sub") => `(tactic| first
  | with_reducible exact subN
  | with_reducible exact subI
  | (with_reducible refine subC ?_ ?_; (walk_at "mem"); (walk_at "sub"))
  | (with_reducible refine subA ?_ ?_; (walk_at "sub"); (walk_at "sub"))
  | (with_reducible refine subL ?_; walk_at "sub")
  | (with_reducible refine subR ?_; walk_at "sub")
  | (with_reducible refine subT ?_; walk_at "sub"))
section

/-- what a call leaves as it stood -/
def Left (s : Shared) (own own' : List (Addr × Obj)) (h' : Heap) : Prop :=
  ∀ (b : Addr) (o : Obj), s.heap.get? b = some o → b ∉ own.map (·.1) → h'.get? b = some o ∧ b ∉ own'.map (·.1)

/-- a call of a text's def, seen from a frame: what it asks and what it gives back; `own` is what it may change -/
def CallC (w : World) (need : Nat) (f : Value) (vs : List Value) (own : List (Addr × Obj)) (Post : Value → List (Addr × Obj) → Prop) : Prop :=
  ∀ (p : Program) (loose : List Str) (mean : ExcName → Option Value) (mg mb : Str → Option Value)
    (dp un : Nat) (gd : Option (List Code)) (cn : Str) (cs : Scope) (a : Addr) (ccd : Value) (cl : List (Str × Addr)) (outer : List Env) (A₀ : Around) (base h₀ : Heap) (L : Addr) (m : Str → Option Value) (s : Shared) (Q E : Value → Shared → Prop),
    Below A₀ base outer h₀ → Fr h₀ L s.heap m → (hd.heap_1 w.params).In h₀ → News h₀ L s.heap own → Top p loose mean mg mb h₀ → cs.kind = .function →
    dp + need < recursionLimit → un + 8 * need < cLine →
    (∀ r own' h' tk', Fr h₀ L h' m → News h₀ L h' own' → Post r own' → Left s own own' h' → Q r { s with heap := h', toks := tk' }) →
    wpAny (model PySem.Challenge.rw_nt0625_01.row.prog w) (ktrTop dp un gd cn cs L a ccd cl outer) (call f vs) Q E s

section
variable {prog : Program} {w : World} {A A₀ : Around} {s : Shared} {K : Frag} {L : Addr} {h₀ base : Heap} {m mg mb : Str → Option Value} {news : List (Addr × Obj)} {p : Program} {loose : List Str} {mean : ExcName → Option Value}

theorem code_defF {env : Env} {outer : List Env} {R : Result → Shared → Prop} {name qual : Str} {params : Arguments} {body : List Stmt} {scope : Scope} {dV kV doc pm cdv ct oc : Value} {an od : Option Addr} {osl : Array (Option Value)} {f : Addr} {args : Args} {binds : List (Str × Value)}
    (B : Below A₀ base outer h₀) (F : Fr h₀ L s.heap m) (X₀ : K.In h₀) (N : News h₀ L s.heap news) (T : Top p loose mean mg mb h₀) (hA : A.frames = some (env :: outer)) (hf : env.frame = some L) (hke : env.scope.kind = .function)
    (ho : K.lookup f = some ⟨oc, od, .func (fnOf name qual params body scope dV kV doc pm an cdv ct), osl⟩) (hcd : codeIn K cdv qual = true) (hroom : A.depth < recursionLimit)
    (hbind : BindsTo s (fnOf name qual params body scope dV kV doc pm an cdv ct) args binds) (hloc : ∀ y ∈ binds, scope.names.lookup y.1 = some .local)
    (h : ∀ g L' h₁, (∀ b o, s.heap.get? b = some o → b ∉ news.map (·.1) → g.get? b = some o) → Fr h₀ L g m → Fr g L' h₁ (fun y => binds.reverse.lookup y) → News g L' h₁ news → Below A base (env :: outer) g → K.In g → Top p loose mean mg mb g → (∀ p ∈ news, p.1 < L') →
      wpAny (model prog w) (A.deeper (envOf qual scope L' f cdv)) (execs body (envOf qual scope L' f cdv))
        (fun fl s' => LeaveK h₀ L m g R (match fl with | .ret v => v | _ => .none) s')
        (fun e s' => wpAny (model prog w) (A.deeper (envOf qual scope L' f cdv)) (leaving (envOf qual scope L' f cdv) e) (fun _ s'' => R (.error e) s'') (fun e' s'' => R (.error e') s'') s')
        { s with heap := h₁, toks := s.toks + binds.length })
    (hco : scope.isCoroutine = false) (hgen : scope.isGenerator = false) (hk : scope.kind = .function)
    (hcell : ∀ x ∈ scope.names, x.2 ≠ .cell) : codeAny (model prog w) A (.call (.ref f) args) R s := by
  obtain ⟨FG, BG, st, lv⟩ := groundX (R := R) B F N hA hf hke
  refine codeAny_call_def (fd := fnOf name qual params body scope dV kV doc pm an cdv ct) (body := body) (binds := binds) hroom ((X₀.keeps F.keep) _ _ ho) rfl ((T.nolimit).keeps F.keep) (codeRec_of (X₀.keeps F.keep) hcd) rfl hbind hcell hloc (fun h₁ hns hk₁ => ?_) hco hgen hk
  exact wpAny_mono (h _ s.heap.objs.size h₁ (fun b o e n => hideAll_get _ e n) FG ⟨hns, fun b o e => hk₁ b o (of_hideAll _ e), Nat.le_of_eq (hideAll_size _ _)⟩
    (fun p hp => ⟨hk₁ _ _ (N p hp).1, Nat.ne_of_lt (Heap.lt_size (N p hp).1), hideAll_none _ (List.mem_map_of_mem hp)⟩) BG (X₀.keeps st) (T.keeps st) (fun p hp => Heap.lt_size (N p hp).1)) (fun fl s' hl => lv _ _ hl) fun _ _ y => y

theorem code_defCF {env : Env} {outer : List Env} {R : Result → Shared → Prop} {name qual : Str} {params : Arguments} {body : List Stmt} {scope : Scope} {dV kV doc pm cdv ct oc : Value} {an od : Option Addr} {osl : Array (Option Value)} {f : Addr} {args : Args} {binds : List (Str × Value)}
    (B : Below A₀ base outer h₀) (F : Fr h₀ L s.heap m) (X₀ : K.In h₀) (N : News h₀ L s.heap news) (T : Top p loose mean mg mb h₀) (hA : A.frames = some (env :: outer)) (hf : env.frame = some L) (hke : env.scope.kind = .function)
    (ho : K.lookup f = some ⟨oc, od, .func (fnOf name qual params body scope dV kV doc pm an cdv ct), osl⟩) (hcd : codeIn K cdv qual = true) (hroom : A.depth < recursionLimit)
    (hbind : BindsTo s (fnOf name qual params body scope dV kV doc pm an cdv ct) args binds) (hkind : (binds.all fun y => scope.names.lookup y.1 == some .local || scope.names.lookup y.1 == some .cell) = true)
    (hnd : ((cellsFrom 0 scope.names []).map (·.1)).Nodup)
    (h : ∀ g L' h₁ tk cells, (∀ b o, s.heap.get? b = some o → b ∉ news.map (·.1) → g.get? b = some o) → Fr h₀ L g m → Fr g L' h₁ (bindL (envOfC qual scope L' f cdv).kindOf binds fun _ => none) → News g L' h₁ (cells ++ news) →
      CellsAre (bindC (envOfC qual scope L' f cdv).kindOf binds fun _ => none) (cellsFrom (L' + 1) scope.names []) cells → Below A base (env :: outer) g → K.In g → Top p loose mean mg mb g → (∀ p ∈ news, p.1 < L') →
      wpAny (model prog w) (A.deeper (envOfC qual scope L' f cdv)) (execs body (envOfC qual scope L' f cdv))
        (fun fl s' => LeaveK h₀ L m g R (match fl with | .ret v => v | _ => .none) s')
        (fun e s' => wpAny (model prog w) (A.deeper (envOfC qual scope L' f cdv)) (leaving (envOfC qual scope L' f cdv) e) (fun _ s'' => R (.error e) s'') (fun e' s'' => R (.error e') s'') s')
        { s with heap := h₁, toks := tk })
    (hco : scope.isCoroutine = false) (hgen : scope.isGenerator = false) (hk : scope.kind = .function) : codeAny (model prog w) A (.call (.ref f) args) R s := by
  obtain ⟨FG, BG, st, lv⟩ := groundX (R := R) B F N hA hf hke
  refine codeAny_call_function hroom ((X₀.keeps F.keep) _ _ ho) rfl hco hgen rfl (codeRec_of (X₀.keeps F.keep) hcd) (hbind _ _ _ _ ?_)
  refine wpAny_newFunctionEnv_cells hk (kindsX hkind _) fun env' he s' x => ?_
  subst he
  refine ⟨((T.nolimit).keeps F.keep).keeps x.toInCall.keep, codeAny_func ?_⟩
  obtain ⟨h₁, tk, rfl, _⟩ := x.done
  have hk₁ := x.toInCall.keep
  obtain ⟨cells, NC, Y⟩ := Cl.news (h₀ := s.heap) (Nat.le_refl _) fun n c hm => ⟨x.cell n c (lookup_of_mem_nodup (cellsFrom_names scope.names 0 (s.heap.objs.size + 1) [] [] rfl ▸ hnd) hm), x.above n c hm⟩
  refine wpAny_mono (h _ s.heap.objs.size h₁ tk cells (fun b o e n => hideAll_get _ e n) FG ⟨x.toInCall.ns, fun b o e => hk₁ b o (of_hideAll _ e), Nat.le_of_eq (hideAll_size _ _)⟩ (fun p hp => ?_) Y BG (X₀.keeps st) (T.keeps st) (fun p hp => Heap.lt_size (N p hp).1)) (fun fl s' hl => lv _ _ hl) fun _ _ y => y
  rcases List.mem_append.mp hp with hp | hp
  · refine ⟨(NC p hp).1, (NC p hp).2.1, ?_⟩
    cases q : (hideAll s.heap (news.map (·.1))).get? p.1 with
    | none => rfl
    | some o => have := of_hideAll _ q; rw [(NC p hp).2.2] at this; cases this
  · exact ⟨hk₁ _ _ (N p hp).1, Nat.ne_of_lt (Heap.lt_size (N p hp).1), hideAll_none _ (List.mem_map_of_mem hp)⟩

theorem code_nestF {env : Env} {outer : List Env} {R : Result → Shared → Prop} {name qual : Str} {params : Arguments} {body : List Stmt} {scope : Scope} {cl : List (Str × Addr)} {doc pm ctv : Value} {c' : Addr} {f : Addr} {args : Args} {binds : List (Str × Value)}
    (B : Below A₀ base outer h₀) (F : Fr h₀ L s.heap m) (X₀ : K.In h₀) (N : News h₀ L s.heap news) (T : Top p loose mean mg mb h₀) (hA : A.frames = some (env :: outer)) (hf : env.frame = some L) (hke : env.scope.kind = .function)
    (ho : (f, fnMade name qual params body scope cl doc pm c' ctv) ∈ news) (hcd : s.heap.CodeRec (.ref c') qual) (hroom : A.depth < recursionLimit)
    (hbind : BindsTo s (fnX name qual params body scope cl .none .none doc pm none (.ref c') ctv) args binds) (hloc : ∀ y ∈ binds, scope.names.lookup y.1 = some .local)
    (h : ∀ g L' h₁, (∀ b o, s.heap.get? b = some o → b ∉ news.map (·.1) → g.get? b = some o) → Fr h₀ L g m → Fr g L' h₁ (fun y => binds.reverse.lookup y) → News g L' h₁ news → Below A base (env :: outer) g → K.In g → Top p loose mean mg mb g → (∀ p ∈ news, p.1 < L') →
      wpAny (model prog w) (A.deeper (envX qual scope L' f (.ref c') cl)) (execs body (envX qual scope L' f (.ref c') cl))
        (fun fl s' => LeaveK h₀ L m g R (match fl with | .ret v => v | _ => .none) s')
        (fun e s' => wpAny (model prog w) (A.deeper (envX qual scope L' f (.ref c') cl)) (leaving (envX qual scope L' f (.ref c') cl) e) (fun _ s'' => R (.error e) s'') (fun e' s'' => R (.error e') s'') s')
        { s with heap := h₁, toks := s.toks + binds.length })
    (hco : scope.isCoroutine = false) (hgen : scope.isGenerator = false) (hk : scope.kind = .function)
    (hcell : ∀ x ∈ scope.names, x.2 ≠ .cell) : codeAny (model prog w) A (.call (.ref f) args) R s := by
  obtain ⟨FG, BG, st, lv⟩ := groundX (R := R) B F N hA hf hke
  refine codeAny_call_def (fd := fnX name qual params body scope cl .none .none doc pm none (.ref c') ctv) (body := body) (binds := binds) hroom (N _ ho).1 rfl ((T.nolimit).keeps F.keep) hcd rfl hbind hcell hloc (fun h₁ hns hk₁ => ?_) hco hgen hk
  exact wpAny_mono (h _ s.heap.objs.size h₁ (fun b o e n => hideAll_get _ e n) FG ⟨hns, fun b o e => hk₁ b o (of_hideAll _ e), Nat.le_of_eq (hideAll_size _ _)⟩
    (fun p hp => ⟨hk₁ _ _ (N p hp).1, Nat.ne_of_lt (Heap.lt_size (N p hp).1), hideAll_none _ (List.mem_map_of_mem hp)⟩) BG (X₀.keeps st) (T.keeps st) (fun p hp => Heap.lt_size (N p hp).1)) (fun fl s' hl => lv _ _ hl) fun _ _ y => y

theorem kla_codeF {env : Env} {outer : List Env} {R : Result → Shared → Prop} {name qual : Str} {params : Arguments} {body : Expr} {scope : Scope} {cl : List (Str × Addr)} {pm ctv : Value} {c' : Addr} {f : Addr} {args : Args} {binds : List (Str × Value)}
    (B : Below A₀ base outer h₀) (F : Fr h₀ L s.heap m) (X₀ : K.In h₀) (N : News h₀ L s.heap news) (T : Top p loose mean mg mb h₀) (hA : A.frames = some (env :: outer)) (hf : env.frame = some L) (hke : env.scope.kind = .function)
    (ho : (f, kla_obj name qual params body scope cl pm c' ctv) ∈ news) (hcd : s.heap.CodeRec (.ref c') qual) (hroom : A.depth < recursionLimit)
    (hbind : bindArgs (kla_fn name qual params body scope cl pm (.ref c') ctv) args = pure binds) (hloc : ∀ y ∈ binds, scope.names.lookup y.1 = some .local)
    (h : ∀ g L' h₁, (∀ b o, s.heap.get? b = some o → b ∉ news.map (·.1) → g.get? b = some o) → Fr h₀ L g m → Fr g L' h₁ (fun y => binds.reverse.lookup y) → News g L' h₁ news → Below A base (env :: outer) g → K.In g → Top p loose mean mg mb g → (∀ p ∈ news, p.1 < L') →
      wpAny (model prog w) (A.deeper (envX qual scope L' f (.ref c') cl)) (eval body (envX qual scope L' f (.ref c') cl))
        (fun v s' => LeaveK h₀ L m g R v s')
        (fun e s' => wpAny (model prog w) (A.deeper (envX qual scope L' f (.ref c') cl)) (leaving (envX qual scope L' f (.ref c') cl) e) (fun _ s'' => R (.error e) s'') (fun e' s'' => R (.error e') s'') s')
        { s with heap := h₁, toks := s.toks + binds.length })
    (hco : scope.isCoroutine = false) (hgen : scope.isGenerator = false) (hk : scope.kind = .function)
    (hcell : ∀ x ∈ scope.names, x.2 ≠ .cell) : codeAny (model prog w) A (.call (.ref f) args) R s := by
  obtain ⟨FG, BG, st, lv⟩ := groundX (R := R) B F N hA hf hke
  refine kla_callFunE hroom (N _ ho).1 rfl hco hgen rfl hcd ?_
  rw [hbind]
  refine wpAny_pure (wpAny_newFunctionEnv hcell hloc (fun h₁ hns hsb => ⟨((T.nolimit).keeps F.keep).fresh _ hsb, ?_⟩) hk)
  show codeAny _ _ (.expr body (envX qual scope s.heap.objs.size f (.ref c') cl)) _ _
  have hk₁ : ∀ b o, s.heap.get? b = some o → h₁.get? b = some o := fun b o e => hsb.extBut b o (Nat.ne_of_lt (Heap.lt_size e)) (Heap.get?_push_of_some _ e)
  exact kla_codeExpr (wpAny_mono (h _ s.heap.objs.size h₁ (fun b o e n => hideAll_get _ e n) FG ⟨hns, fun b o e => hk₁ b o (of_hideAll _ e), Nat.le_of_eq (hideAll_size _ _)⟩
    (fun p hp => ⟨hk₁ _ _ (N p hp).1, Nat.ne_of_lt (Heap.lt_size (N p hp).1), hideAll_none _ (List.mem_map_of_mem hp)⟩) BG (X₀.keeps st) (T.keeps st) (fun p hp => Heap.lt_size (N p hp).1)) (fun v s' hl => lv _ _ hl) fun _ _ y => y)

/-- the frame's fact at the end -/
theorem left_of {own own' : List (Addr × Obj)} {g h' : Heap} {L' : Addr} {m' : Str → Option Value} (hg : ∀ b o, s.heap.get? b = some o → b ∉ own.map (·.1) → g.get? b = some o)
    (F : Fr g L' h' m') (N : News g L' h' own') : Left s own own' h' := fun b o e n =>
  ⟨F.keep _ _ (hg b o e n), fun q => by
    obtain ⟨x, hx, rfl⟩ := List.mem_map.mp q
    have := (N x hx).2.2
    rw [hg _ o e n] at this
    cases this⟩
theorem callc_use {w : World} {need : Nat} {f : Value} {vs : List Value} {own : List (Addr × Obj)} {Post : Value → List (Addr × Obj) → Prop}
    {dp un : Nat} {gd : Option (List Code)} {cn : Str} {cs : Scope} {a : Addr} {ccd : Value} {cl : List (Str × Addr)} {outer : List Env} {Q E : Value → Shared → Prop}
    (C : CallC w need f vs own Post) (B : Below A₀ base outer h₀) (F : Fr h₀ L s.heap m) (X : (hd.heap_1 w.params).In h₀) (N : News h₀ L s.heap own) (T : Top p loose mean mg mb h₀) (hk : cs.kind = .function)
    (hdp : dp + need < recursionLimit) (hun : un + 8 * need < cLine)
    (ret : ∀ r own' h' tk', Fr h₀ L h' m → News h₀ L h' own' → Post r own' → Left s own own' h' → Q r { s with heap := h', toks := tk' }) :
    wpAny (model PySem.Challenge.rw_nt0625_01.row.prog w) (ktrTop dp un gd cn cs L a ccd cl outer) (call f vs) Q E s :=
  C _ _ _ _ _ _ _ _ _ _ _ _ _ _ _ _ _ _ _ _ _ _ B F X N T hk hdp hun ret
/-- the same with objects beside, which stay -/
theorem left_news {own own' rest : List (Addr × Obj)} {h' : Heap} (N : News h₀ L s.heap rest) (l : Left s own own' h') (d : ∀ p ∈ rest, p.1 ∉ own.map (·.1)) : News h₀ L h' rest := fun p hp =>
  ⟨(l p.1 p.2 (N p hp).1 (d p hp)).1, (N p hp).2⟩
end
end
section

theorem upd_mid {d : Addr} {o : Obj} : ∀ {pre post : List (Addr × Obj)}, (∀ p ∈ pre, p.1 ≠ d) → (∀ p ∈ post, p.1 ≠ d) → UpdF d o (pre ++ (d, o) :: post) (fun o' => pre ++ (d, o') :: post)
  | [], _, _, h => UpdF.head h
  | p :: pre, _, h1, h2 => UpdF.tail (h1 p (.head _)) (upd_mid (pre := pre) (fun q hq => h1 q (.tail _ hq)) h2)

theorem all_ne_of {tab : List (Addr × Obj)} {L d : Nat} (h : AllLt L tab) (hd : @LE.le Nat _ L d) : ∀ p ∈ tab, p.1 ≠ d := fun p hp => Nat.ne_of_lt (Nat.lt_of_lt_of_le (ktn_ltOf h p hp) hd)

theorem all_ne_of' {tab : List (Addr × Obj)} {L d : Nat} (h : ∀ p ∈ tab, p.1 < L) (hd : @LE.le Nat _ L d) : ∀ p ∈ tab, p.1 ≠ d := fun p hp => Nat.ne_of_lt (Nat.lt_of_lt_of_le (h p hp) hd)
/-- a table of one made def -/
def Tab1 (P : Addr) (line col : Nat) (qual : Str) (own : List (Addr × Obj)) : Prop :=
  own = [(P, tabObj #[])] ∨ ∃ c oc vs t, own = [(P, tabObj #[rawInt line, rawInt col, .ref c]), (c, oc)] ∧ oc.data = .fields vs ∧ vs[1]? = some (.str qual t)

/-- a table of two made defs: none or both -/
def Tab2 (P : Addr) (l1 c1 : Nat) (q1 : Str) (l2 c2 : Nat) (q2 : Str) (own : List (Addr × Obj)) : Prop :=
  own = [(P, tabObj #[])] ∨ ∃ c oc vs t d od ws u, own = [(P, tabObj #[rawInt l1, rawInt c1, .ref c, rawInt l2, rawInt c2, .ref d]), (c, oc), (d, od)] ∧ oc.data = .fields vs ∧ vs[1]? = some (.str q1 t) ∧ od.data = .fields ws ∧ ws[1]? = some (.str q2 u)
/-- one of two, or both -/
def TabH (P : Addr) (c : Addr) (l1 c1 l2 c2 : Nat) (q2 : Str) (own : List (Addr × Obj)) : Prop :=
  own = [(P, tabObj #[rawInt l1, rawInt c1, .ref c])] ∨ ∃ d od ws u, own = [(P, tabObj #[rawInt l1, rawInt c1, .ref c, rawInt l2, rawInt c2, .ref d]), (d, od)] ∧ od.data = .fields ws ∧ ws[1]? = some (.str q2 u)

section
variable {M : Model} {A : Around} {E : Value → Shared → Prop} {s : Shared} {h₀ : Heap} {L a c P : Addr} {m mg mb : Str → Option Value} {cn : Str} {cs : Scope} {ccd : Value} {cl : List (Str × Addr)} {pre tab : List (Addr × Obj)}
  {p : Program} {loose : List Str} {mean : ExcName → Option Value} {name qual q2 : Str} {params : Arguments} {body : List Stmt} {ebody : Expr} {scope : Scope} {pos : Pos} {firstLine l1 c1 l2 c2 : Nat} {clos : List (Str × Addr)} {Q : Value → Shared → Prop}

theorem Tab1.fields {P : Addr} {l c : Nat} {q : Str} {tab : List (Addr × Obj)} (h : Tab1 P l c q tab) : ∀ x ∈ tab, ∃ vs, x.2.data = .fields vs := by
  rcases h with rfl | ⟨_, _, _, _, rfl, hd0, _⟩ <;> intro x hx <;> simp only [List.mem_cons, List.not_mem_nil, or_false] at hx
  · subst hx; exact ⟨_, rfl⟩
  · rcases hx with rfl | rfl
    · exact ⟨_, rfl⟩
    · exact ⟨_, hd0⟩
theorem Tab2.fields {P : Addr} {l1 c1 l2 c2 : Nat} {q1 q2 : Str} {tab : List (Addr × Obj)} (h : Tab2 P l1 c1 q1 l2 c2 q2 tab) : ∀ x ∈ tab, ∃ vs, x.2.data = .fields vs := by
  rcases h with rfl | ⟨_, _, _, _, _, _, _, _, rfl, hd0, _, hd1, _⟩ <;> intro x hx <;> simp only [List.mem_cons, List.not_mem_nil, or_false] at hx
  · subst hx; exact ⟨_, rfl⟩
  · rcases hx with rfl | rfl | rfl
    · exact ⟨_, rfl⟩
    · exact ⟨_, hd0⟩
    · exact ⟨_, hd1⟩
theorem sep_tab {h : Heap} {pre tab : List (Addr × Obj)} (N : News h₀ L h (pre ++ tab)) (hT : ∀ x ∈ tab, ∃ vs, x.2.data = .fields vs) (hp : ∀ q ∈ pre, ∀ vs, q.2.data ≠ .fields vs) : ∀ q ∈ pre, ∀ x ∈ tab, x.1 ≠ q.1 := fun q hq x hx e => by
  obtain ⟨vs, hv⟩ := hT x hx
  have e1 := (N q (List.mem_append_left _ hq)).1
  have e2 := (N x (List.mem_append_right _ hx)).1
  rw [e, e1] at e2
  exact hp q hq vs (by rw [Option.some.inj e2]; exact hv)
theorem nest1 (F : Fr h₀ L s.heap m) (N : News h₀ L s.heap (pre ++ tab)) (T : Top p loose mean mg mb h₀) (C : CodeHd h₀ c P) (hcd : ccd = .ref c) (ht : Tab1 P pos.line pos.col qual tab) (hs : ∀ q ∈ pre, ∀ x ∈ tab, x.1 ≠ q.1)
    (hcl : closureFor scope (envX cn cs L a ccd cl) = pure clos)
    (h : ∀ f c' oc vs t ctv doc h' tk, Fr h₀ L h' m →
      News h₀ L h' ((f, fnMade name qual params body scope clos doc ((mg "__name__").getD .none) c' ctv) :: (c', oc) :: (pre ++ [(P, tabObj #[rawInt pos.line, rawInt pos.col, .ref c'])])) →
      oc.data = .fields vs → vs[1]? = some (.str qual t) → (∀ q ∈ pre, q.1 < f ∧ q.1 ≠ c') → P < f → c' < f → P ≠ c' → Q (.ref f) { s with heap := h', toks := tk }) :
    wpAny M A (makeFunction name qual params (.stmts body) scope (envX cn cs L a ccd cl) [] [] [] pos firstLine) Q E s := by
  rcases ht with rfl | ⟨c0, oc0, vs0, t0, rfl, hd0, hv0⟩
  · refine nest_K (ps := #[]) F N T C hcd (upd_mid (fun q hq => Ne.symm (hs q hq _ (.head _))) (fun _ hq => nomatch hq)) trivial (by rfl) hcl fun f c' oc vs t ctv doc h' tk F' N' d1 d2 x1 x2 => ?_
    refine h f c' oc vs t ctv doc h' tk F' N' d1 d2 (fun q hq => ?_) ?_ x2 ?_
    · have := x1 q (List.mem_append_left _ hq)
      exact ⟨Nat.lt_trans this x2, Nat.ne_of_lt this⟩
    · exact Nat.lt_trans (x1 (P, tabObj #[]) (List.mem_append_right _ (.head _))) x2
    · exact Nat.ne_of_lt (x1 (P, tabObj #[]) (List.mem_append_right _ (.head _)))
  · have hm0 : (P, tabObj #[rawInt pos.line, rawInt pos.col, .ref c0]) ∈ pre ++ [(P, tabObj #[rawInt pos.line, rawInt pos.col, .ref c0]), (c0, oc0)] := List.mem_append_right _ (.head _)
    have hm1 : (c0, oc0) ∈ pre ++ [(P, tabObj #[rawInt pos.line, rawInt pos.col, .ref c0]), (c0, oc0)] := List.mem_append_right _ (.tail _ (.head _))
    refine nestHit_K (c' := c0) F N T C hcd hm0 (by simp [TriplesOk, rawInt]) (by simp [codeAmong, rawInt]) hcl fun f ctv doc h' tk F' N' x1 => ?_
    refine h f c0 oc0 vs0 t0 ctv doc h' tk F' (fun q hq => N' q ?_) hd0 hv0 (fun q hq => ⟨x1 q (List.mem_append_left _ hq), Ne.symm (hs q hq _ (.tail _ (.head _)))⟩) (x1 _ hm0) (x1 _ hm1) ?_
    · rcases List.mem_cons.mp hq with rfl | hq
      · exact .head _
      · rcases List.mem_cons.mp hq with rfl | hq
        · exact .tail _ hm1
        · rcases List.mem_append.mp hq with hq | hq
          · exact .tail _ (List.mem_append_left _ hq)
          · rcases List.mem_cons.mp hq with rfl | hq
            · exact .tail _ hm0
            · cases hq
    · intro e
      have e1 := (N _ hm0).1
      have e2 := (N _ hm1).1
      dsimp only at e1 e2
      rw [e, e2] at e1
      cases e1
      cases hd0
      simp [rawInt] at hv0

theorem nest2a (F : Fr h₀ L s.heap m) (N : News h₀ L s.heap (pre ++ tab)) (T : Top p loose mean mg mb h₀) (C : CodeHd h₀ c P) (hcd : ccd = .ref c) (ht : Tab2 P pos.line pos.col qual l2 c2 q2 tab) (hs : ∀ q ∈ pre, ∀ x ∈ tab, x.1 ≠ q.1)
    (hcl : closureFor scope (envX cn cs L a ccd cl) = pure clos)
    (h : ∀ f c' oc vs t ctv doc tab' h' tk, Fr h₀ L h' m →
      News h₀ L h' ((f, fnMade name qual params body scope clos doc ((mg "__name__").getD .none) c' ctv) :: (c', oc) :: (pre ++ tab')) → TabH P c' pos.line pos.col l2 c2 q2 tab' →
      oc.data = .fields vs → vs[1]? = some (.str qual t) → (∀ q ∈ pre, q.1 < f ∧ q.1 ≠ c') → (∀ x ∈ tab', x.1 < f ∧ x.1 ≠ c') → (∀ q ∈ pre, ∀ x ∈ tab', x.1 ≠ q.1) → c' < f → Q (.ref f) { s with heap := h', toks := tk })
    (hq : qual ≠ q2) :
    wpAny M A (makeFunction name qual params (.stmts body) scope (envX cn cs L a ccd cl) [] [] [] pos firstLine) Q E s := by
  rcases ht with rfl | ⟨c0, oc0, vs0, t0, d0, od0, ws0, u0, rfl, hd0, hv0, hd1, hv1⟩
  · refine nest_K (ps := #[]) F N T C hcd (upd_mid (fun q hq => Ne.symm (hs q hq _ (.head _))) (fun _ hq => nomatch hq)) trivial (by rfl) hcl fun f c' oc vs t ctv doc h' tk F' N' d1 d2 x1 x2 => ?_
    have hP := x1 (P, tabObj #[]) (List.mem_append_right _ (.head _))
    refine h f c' oc vs t ctv doc [(P, tabObj #[rawInt pos.line, rawInt pos.col, .ref c'])] h' tk F' N' (.inl rfl) d1 d2 (fun q hq => ?_) (fun x hx => ?_) (fun q hq x hx => ?_) x2
    · have := x1 q (List.mem_append_left _ hq)
      exact ⟨Nat.lt_trans this x2, Nat.ne_of_lt this⟩
    · rw [List.mem_singleton.mp hx]
      exact ⟨Nat.lt_trans hP x2, Nat.ne_of_lt hP⟩
    · rw [List.mem_singleton.mp hx]
      exact hs q hq (P, tabObj #[]) (.head _)
  · have hm0 : (P, tabObj #[rawInt pos.line, rawInt pos.col, .ref c0, rawInt l2, rawInt c2, .ref d0]) ∈ pre ++ [(P, tabObj #[rawInt pos.line, rawInt pos.col, .ref c0, rawInt l2, rawInt c2, .ref d0]), (c0, oc0), (d0, od0)] := List.mem_append_right _ (.head _)
    have hm1 : (c0, oc0) ∈ pre ++ [(P, tabObj #[rawInt pos.line, rawInt pos.col, .ref c0, rawInt l2, rawInt c2, .ref d0]), (c0, oc0), (d0, od0)] := List.mem_append_right _ (.tail _ (.head _))
    have hm2 : (d0, od0) ∈ pre ++ [(P, tabObj #[rawInt pos.line, rawInt pos.col, .ref c0, rawInt l2, rawInt c2, .ref d0]), (c0, oc0), (d0, od0)] := List.mem_append_right _ (.tail _ (.tail _ (.head _)))
    have e0 := (N _ hm0).1
    have e1 := (N _ hm1).1
    have e2 := (N _ hm2).1
    dsimp only at e0 e1 e2
    have hPc : P ≠ c0 := fun e => by
      rw [e, e1] at e0; cases e0; cases hd0; simp [rawInt] at hv0
    refine nestHit_K (c' := c0) F N T C hcd hm0 (by simp [TriplesOk, rawInt]) (by simp [codeAmong, rawInt]) hcl fun f ctv doc h' tk F' N' x1 => ?_
    have hcd0 : d0 ≠ c0 := fun e => by
      rw [e, e1] at e2; cases e2
      rw [hd0] at hd1
      cases hd1
      rw [hv0] at hv1
      cases hv1
      exact hq rfl
    refine h f c0 oc0 vs0 t0 ctv doc [(P, tabObj #[rawInt pos.line, rawInt pos.col, .ref c0, rawInt l2, rawInt c2, .ref d0]), (d0, od0)] h' tk F' (fun q hq => N' q ?_) (.inr ⟨d0, od0, ws0, u0, rfl, hd1, hv1⟩) hd0 hv0
      (fun q hq => ⟨x1 q (List.mem_append_left _ hq), Ne.symm (hs q hq _ (.tail _ (.head _)))⟩) (fun x hx => ?_) (fun q hq x hx => ?_) (x1 _ hm1)
    · rcases List.mem_cons.mp hq with rfl | hq
      · exact .head _
      · rcases List.mem_cons.mp hq with rfl | hq
        · exact .tail _ hm1
        · rcases List.mem_append.mp hq with hq | hq
          · exact .tail _ (List.mem_append_left _ hq)
          · rcases List.mem_cons.mp hq with rfl | hq
            · exact .tail _ hm0
            · rcases List.mem_cons.mp hq with rfl | hq
              · exact .tail _ hm2
              · cases hq
    · rcases List.mem_cons.mp hx with rfl | hx
      · exact ⟨x1 _ hm0, hPc⟩
      · rw [List.mem_singleton.mp hx]
        exact ⟨x1 _ hm2, hcd0⟩
    · rcases List.mem_cons.mp hx with rfl | hx
      · exact hs q hq (P, tabObj #[rawInt pos.line, rawInt pos.col, .ref c0, rawInt l2, rawInt c2, .ref d0]) (.head _)
      · rw [List.mem_singleton.mp hx]
        exact hs q hq (d0, od0) (.tail _ (.tail _ (.head _)))

theorem nest2b {c0 : Addr} (F : Fr h₀ L s.heap m) (N : News h₀ L s.heap (pre ++ tab)) (T : Top p loose mean mg mb h₀) (C : CodeHd h₀ c P) (hcd : ccd = .ref c) (ht : TabH P c0 l1 c1 pos.line pos.col qual tab) (hs : ∀ q ∈ pre, ∀ x ∈ tab, x.1 ≠ q.1)
    (hcl : closureFor scope (envX cn cs L a ccd cl) = pure clos) (hl2 : ((l1 : Int) == pos.line && (c1 : Int) == pos.col) = false)
    (h : ∀ f c' oc vs t ctv h' tk, Fr h₀ L h' m →
      News h₀ L h' ((f, kla_obj name qual params ebody scope clos ((mg "__name__").getD .none) c' ctv) :: (c', oc) :: (pre ++ [(P, tabObj #[rawInt l1, rawInt c1, .ref c0, rawInt pos.line, rawInt pos.col, .ref c'])])) →
      oc.data = .fields vs → vs[1]? = some (.str qual t) → (∀ q ∈ pre, q.1 < f ∧ q.1 ≠ c') → P < f → c' < f → P ≠ c' → Q (.ref f) { s with heap := h', toks := tk }) :
    wpAny M A (makeFunction name qual params (.expr ebody) scope (envX cn cs L a ccd cl) [] [] [] pos firstLine) Q E s := by
  rcases ht with rfl | ⟨d0, od0, ws0, u0, rfl, hd0, hv0⟩
  · refine kla_nest (ps := #[rawInt l1, rawInt c1, .ref c0]) F N T C hcd (upd_mid (fun q hq => Ne.symm (hs q hq _ (.head _))) (fun _ hq => nomatch hq)) (by simp [TriplesOk, rawInt])
      (by simp only [codeAmong, rawInt, List.toList_toArray]; rw [if_neg (by rw [hl2]; exact Bool.false_ne_true)]) hcl fun f c' oc vs t ctv h' tk F' N' d1 d2 x1 x2 => ?_
    have hP := x1 (P, tabObj #[rawInt l1, rawInt c1, .ref c0]) (List.mem_append_right _ (.head _))
    exact h f c' oc vs t ctv h' tk F' N' d1 d2 (fun q hq => ⟨Nat.lt_trans (x1 q (List.mem_append_left _ hq)) x2, Nat.ne_of_lt (x1 q (List.mem_append_left _ hq))⟩) (Nat.lt_trans hP x2) x2 (Nat.ne_of_lt hP)
  · have hm0 : (P, tabObj #[rawInt l1, rawInt c1, .ref c0, rawInt pos.line, rawInt pos.col, .ref d0]) ∈ pre ++ [(P, tabObj #[rawInt l1, rawInt c1, .ref c0, rawInt pos.line, rawInt pos.col, .ref d0]), (d0, od0)] := List.mem_append_right _ (.head _)
    have hm1 : (d0, od0) ∈ pre ++ [(P, tabObj #[rawInt l1, rawInt c1, .ref c0, rawInt pos.line, rawInt pos.col, .ref d0]), (d0, od0)] := List.mem_append_right _ (.tail _ (.head _))
    refine kla_hit (c' := d0) F N T C hcd hm0 (by simp [TriplesOk, rawInt]) (by simp only [codeAmong, rawInt, List.toList_toArray]; rw [if_neg (by rw [hl2]; exact Bool.false_ne_true)]; simp) hcl fun f ctv h' tk F' N' x1 => ?_
    refine h f d0 od0 ws0 u0 ctv h' tk F' (fun q hq => N' q ?_) hd0 hv0 (fun q hq => ⟨x1 q (List.mem_append_left _ hq), Ne.symm (hs q hq _ (.tail _ (.head _)))⟩) (x1 _ hm0) (x1 _ hm1) ?_
    · rcases List.mem_cons.mp hq with rfl | hq
      · exact .head _
      · rcases List.mem_cons.mp hq with rfl | hq
        · exact .tail _ hm1
        · rcases List.mem_append.mp hq with hq | hq
          · exact .tail _ (List.mem_append_left _ hq)
          · rcases List.mem_cons.mp hq with rfl | hq
            · exact .tail _ hm0
            · cases hq
    · intro e
      have e1 := (N _ hm0).1
      have e2 := (N _ hm1).1
      dsimp only at e1 e2
      rw [e, e2] at e1
      cases e1
      cases hd0
      simp [rawInt] at hv0
end
section
variable {prog : Program} {w : World} {A : Around} {E : Value → Shared → Prop} {s : Shared} {h₀ : Heap} {L D : Addr} {m : Str → Option Value} {news news' : List (Addr × Obj)} {n : Nat}
theorem pop0 {u : Tok} {q : List Value} {y : Value} {Q : Value → Shared → Prop} (F : Fr h₀ L s.heap m) (N : News h₀ L s.heap news) (U : Upd D (listOf (List.toArray (y :: q)) n) (listOf q.toArray (n + 1)) news news')
    (hz : q.length ≤ 1000) (h : ∀ h', Fr h₀ L h' m → News h₀ L h' news' → Q y { s with heap := h' }) : wpAny (model prog w) A (call (.builtin "list.pop") [.ref D, .int 0 u]) Q E s := by
  refine kl_popAt (k := 0) (p := []) (q := q) (y := y) F N rfl ?_ ?_ U ?_ h
  · have h1 : ¬ ((0 : Int) < 0) := by omega
    have h2 : (0 ≤ (0 : Int) && (0 : Int) < ((List.toArray (y :: q)).size : Int)) = true := by
      rw [List.size_toArray, List.length_cons]
      simp
    unfold seqIndex?
    rw [if_neg h1]
    dsimp only
    rw [if_pos h2]
    rfl
  · rfl
  · rw [sizeLine_eq]
    simp
    omega
end
end
section

theorem slot_bytes_join : Slot "bytes" "join" "bytes.join" :=
  .of (owner := "bytes") (n := "join") (by rw [typeLookup_type, builtinLookup_eq_fast]; kernel_rfl) (by decide +kernel) (by decide +kernel) (by decide +kernel)
    (by first | exact .inl (by decide +kernel) | exact .inr (by decide +kernel)) (by rw [isSubtype_type]; kernel_rfl)
theorem type_bytes_join : typeOf (.builtin "bytes.join") = pure (.type "method_descriptor") := by show builtinType _ = _; rw [builtinType_eq_fast]; kernel_rfl
theorem entry_bytes_join : entryFor table "bytes.join" = some Builtin.«bytes.join» := entryFor_of_tree (by kernel_rfl)
theorem args_bytes_join (a b : Value) : argsOk "bytes.join" ⟨[a, b], []⟩ := by
  unfold argsOk; rw [signature?_of (id := "bytes.join") (n := ['n', 'i', 'o', 'j']) (o := ['s', 'e', 't', 'y', 'b']) (by kernel_rfl) FB.owner_bytes]; kernel_rfl
theorem method_join {M : Model} {A : Around} {E : Value → Shared → Prop} {s : Shared} {b : Array UInt8} {t : Tok} {pl : Sem Bool} {Q : Value × List Value → Shared → Prop} (h : Q (.builtin "bytes.join", [.bytes b t]) s) : wpAny M A (getMethod (.bytes b t) "join" pl) Q E s := by
  with_reducible exact KBd.method_of (.bytes b t) (typeIs_bytes _ _ _) slot_bytes_join type_bytes_join KBd.noRef h

section
variable {M : Model} {A : Around} {E : Value → Shared → Prop}
theorem range_inv {β : Type} {f : Nat → β → Sem (ForInStep β)} {Q : β → Shared → Prop} (n : Nat) (I : Nat → β → Shared → Prop)
    (turn : ∀ i b s, i < n → I i b s → wpAny M A (f i b) (fun r s' => ∃ b', r = .yield b' ∧ I (i + 1) b' s') E s)
    (fin : ∀ b s, I n b s → Q b s) {b : β} {s : Shared} (h : I 0 b s) : wpAny M A (forIn [0:n] b f) Q E s := by
  rw [Std.Legacy.Range.forIn_eq_forIn_range']
  have hsz : ([0:n] : Std.Legacy.Range).size = n := by simp [Std.Legacy.Range.size]
  show wpAny M A (forIn (List.range' 0 ([0:n] : Std.Legacy.Range).size 1) b f) Q E s
  rw [hsz]
  have go : ∀ (k j : Nat) (b : β) (s : Shared), j + k = n → I j b s → wpAny M A (forIn (List.range' j k) b f) Q E s := by
    intro k
    induction k with
    | zero =>
      intro j b s hj hI
      have e : j = n := by omega
      subst e
      exact wpAny_pure (fin b s hI)
    | succ k ih =>
      intro j b s hj hI
      rw [List.range'_succ, List.forIn_cons]
      refine wpAny_bind (wpAny_mono (turn j b s (by omega) hI) (fun r s' hr => ?_) fun _ _ x => x)
      obtain ⟨b', rfl, hI'⟩ := hr
      exact ih (j + 1) b' s' (by omega) hI'
  exact go n 0 b s (by omega) h
end

theorem joined_snoc (sep : Array UInt8) (bs : List (Array UInt8)) (b : Array UInt8) : Bytes.joined sep (bs ++ [b]) = (if bs.length > 0 then Bytes.joined sep bs ++ sep else Bytes.joined sep bs) ++ b := by
  unfold Bytes.joined
  rw [List.zipIdx_append, List.foldl_append]
  simp
theorem joined_one (sep b : Array UInt8) : Bytes.joined sep [b] = b := by simp [Bytes.joined]

theorem take_eq {id : String} {b : Array UInt8} {t : Tok} : Bytes.takeBufferQuiet? id (.bytes b t) 0 = pure (some (b, none)) := by
  have h : Bytes.takeBuffer? id (.bytes b t) 0 = pure (some (b, none)) := by
    unfold Bytes.takeBuffer?
    rw [KBy.special_eq KBy.look_buffer, KBy.own_buffer]
    have e : ((0 : Int) == Bytes.fullReadOnly) = false := by decide
    rw [e]
    have e2 : Bytes.buffer? id (.bytes b t) false = pure (some b) := KBy.buffer_eq
    show (Bytes.buffer? id (.bytes b t) false >>= fun x => pure (x.map (·, none))) = _
    rw [e2]
    rfl
  unfold Bytes.takeBufferQuiet?
  rw [h]
  rfl

def bytesV (ps : List (Array UInt8 × Tok)) : List Value := ps.map fun p => .bytes p.1 p.2

section
variable {prog : Program} {w : World} {A : Around} {E : Value → Shared → Prop} {s : Shared} {l : Addr} {sep : Array UInt8} {ts : Tok} {ps : List (Array UInt8 × Tok)} {Q : Value → Shared → Prop}
theorem ite_yes {M : Model} {α : Type} {c : Prop} [Decidable c] {a b : Sem α} {Q : α → Shared → Prop} (hc : c) (h : wpAny M A a Q E s) : wpAny M A (if c then a else b) Q E s := by rw [if_pos hc]; exact h
theorem ite_not {M : Model} {α : Type} {c : Prop} [Decidable c] {a b : Sem α} {Q : α → Shared → Prop} (hc : ¬ c) (h : wpAny M A b Q E s) : wpAny M A (if c then a else b) Q E s := by rw [if_neg hc]; exact h
theorem letGo_join {taken : List (Value × Option Value)} {keep : List Value} {M : Model} {Q : Unit → Shared → Prop} (ht : ∀ p ∈ taken, p.2 = none) (h : Q () s) : wpAny M A (Bytes.joinLetGo taken keep) Q E s := by
  induction taken with
  | nil => exact wpAny_pure h
  | cons p r ih =>
    obtain ⟨x, w⟩ := p
    have e : w = none := ht _ (.head _)
    subst e
    unfold Bytes.joinLetGo
    exact wpAny_bind (wpAny_letGo (ih fun q hq => ht q (.tail _ hq)))

theorem join_bytes (hl : s.heap.IsList l (bytesV ps).toArray) (hz : (Bytes.joined sep (ps.map (·.1))).size ≤ 100000) (hz2 : ((ps.map (·.1)).toArray.foldl (· + ·.size) (sep.size * ((ps.map (·.1)).toArray.size - 1))) ≤ 100000)
    (h : ∀ t' k, Q (.bytes (Bytes.joined sep (ps.map (·.1))) t') { s with toks := k }) :
    wpAny (model prog w) A (call (.builtin "bytes.join") [.bytes sep ts, .ref l]) Q E s := by
  refine wpAny_call_entry slot_bytes_join (typeIs_bytes s sep ts) entry_bytes_join ?_ (args_bytes_join _ _)
  show wpAny _ _ (Bytes.joinItems (.ref l) >>= fun seq => _) _ _ s
  obtain ⟨o, ho, hc, n, hdata⟩ := hl
  have htl : s.TypeIs (.ref l) "list" := ⟨o, ho, hc⟩
  have hseq : ∀ {A' : Around} {s' : Shared} {Q : Option (Array Value) → Shared → Prop}, s'.heap.get? l = some o → Q (some (bytesV ps).toArray) s' → wpAny (model prog w) A' (seqItems? (.ref l)) Q E s' := by
    intro A' s' Q ho' hq
    unfold seqItems?
    refine wpAny_bind (wpAny_load ho' ?_)
    rw [hdata]
    exact wpAny_pure hq
  refine wpAny_bind (wpAny_mono (Q := fun v s' => v = .ref l ∧ s = s') (E := E) ?_ ?_ fun _ _ x => x)
  · unfold Bytes.joinItems
    refine wpAny_bind (wpAny_typeOf htl ?_)
    exact wpAny_pure ⟨rfl, rfl⟩
  rintro _ _ ⟨rfl, rfl⟩
  refine wpAny_bind (hseq ho ?_)
  refine ite_yes (by rfl) ?_
  rcases ps with _ | ⟨p, _ | ⟨q, r⟩⟩
  rotate_left
  · refine wpAny_bind (wpAny_typeOf (typeIs_bytes _ p.1 p.2) ?_)
    refine ite_yes (by rfl) ?_
    refine wpAny_bind (wpAny_rule ?_)
    refine wpAny_pure ⟨_, rfl, ?_⟩
    have h' := h p.2 s.toks
    rw [show [p].map (·.1) = [p.1] from rfl, joined_one] at h'
    exact h'
  rotate_left
  · refine wpAny_bind (range_inv 0 (fun i b s' => b = (#[], []) ∧ s = s') (fun i b s' hi _ => absurd hi (Nat.not_lt_zero _)) ?_ ⟨rfl, rfl⟩)
    rintro _ _ ⟨rfl, rfl⟩
    refine wpAny_bind (m := Bytes.payload (.bytes sep ts)) (wpAny_pure ?_)
    refine ite_not (fun e => Bool.false_ne_true ((KBy.tooLong_not (Nat.le_trans hz2 (by decide))).symm.trans e)) ?_
    refine wpAny_bind (wpAny_mkBytes ?_ (by rw [sizeLine_eq]; exact Nat.le_trans hz (by decide)))
    refine wpAny_bind (wpAny_holding (wpAny_point ?_))
    refine wpAny_bind (letGo_join (fun p hp => nomatch hp) ?_)
    exact wpAny_pure ⟨_, rfl, h _ _⟩
  · refine wpAny_bind (range_inv (b := (#[], [])) (bytesV (p :: q :: r)).toArray.size (fun i b s' => b = (((p :: q :: r).take i).map (·.1) |>.toArray, ((p :: q :: r).take i).map fun x => (Value.bytes x.1 x.2, none)) ∧ s = s') ?_ ?_ ⟨rfl, rfl⟩)
    · rintro i _ _ hi ⟨rfl, rfl⟩
      have hi' : i < (p :: q :: r).length := by simpa [bytesV] using hi
      refine wpAny_bind (hseq ho ?_)
      have hx : (bytesV (p :: q :: r)).toArray.getD i Value.none = .bytes ((p :: q :: r)[i]'hi').1 ((p :: q :: r)[i]'hi').2 := by
        have e : (bytesV (p :: q :: r)).toArray.getD i Value.none = (bytesV (p :: q :: r)).getD i Value.none := by simp [Array.getD, List.getD_eq_getElem?_getD]; split <;> simp_all
        rw [e, List.getD_eq_getElem?_getD]
        unfold bytesV
        rw [List.getElem?_map, List.getElem?_eq_getElem hi']
        rfl
      have hany : (((p :: q :: r).take i).map fun x => (Value.bytes x.1 x.2, (none : Option Value))).any (fun x => x.1.onHeap) = false := by
        rw [List.any_map]
        exact List.any_eq_false.mpr fun _ _ => by simp [Value.onHeap]
      refine ite_not (by rw [hany]; simp) ?_
      refine wpAny_bind (wpAny_holding ?_)
      rw [hx, take_eq]
      refine wpAny_pure ?_
      refine wpAny_bind (hseq ho ?_)
      refine ite_not (by simp) ?_
      refine wpAny_pure ⟨_, rfl, ?_, rfl⟩
      rw [List.take_add_one, List.getElem?_eq_getElem hi', Option.toList_some, List.map_append, List.map_append]
      simp only [List.push_toArray, List.map_singleton]
    · rintro _ _ ⟨rfl, rfl⟩
      have hsz : (bytesV (p :: q :: r)).toArray.size = (p :: q :: r).length := by simp [bytesV]
      rw [hsz, List.take_length]
      refine wpAny_bind (m := Bytes.payload (.bytes sep ts)) (wpAny_pure ?_)
      refine ite_not (fun e => Bool.false_ne_true ((KBy.tooLong_not (Nat.le_trans hz2 (by decide))).symm.trans e)) ?_
      refine wpAny_bind (wpAny_mkBytes ?_ (by rw [sizeLine_eq]; exact Nat.le_trans hz (by decide)))
      refine wpAny_bind (wpAny_holding (wpAny_point ?_))
      refine wpAny_bind (letGo_join (fun p hp => ?_) ?_)
      · obtain ⟨x, _, rfl⟩ := List.mem_map.mp hp
        rfl
      · exact wpAny_pure ⟨_, rfl, h _ _⟩
end
end
section

def encB (x : Str) : Array UInt8 := x.cps.foldl (fun acc y => acc ++ (Str.utf8Of y).toArray) #[]

theorem encB_size {x : Str} (ha : ∀ c ∈ x.cps.toList, c < 128) : (encB x).size = x.length := by
  have go : ∀ (l : List Nat) (acc : Array UInt8), (∀ c ∈ l, c < 128) → (l.foldl (fun acc y => acc ++ (Str.utf8Of y).toArray) acc).size = acc.size + l.length := by
    intro l
    induction l with
    | nil => intro acc _; rfl
    | cons c r ih =>
      intro acc hc
      have h1 : Str.utf8Of c = [c.toUInt8] := by
        unfold Str.utf8Of
        rw [if_pos (hc c (.head _))]
      rw [List.foldl_cons, ih _ fun d hd => hc d (.tail _ hd), h1, List.length_cons]
      simp
      omega
  unfold encB
  rw [← Array.foldl_toList, go _ _ ha]
  simp [Str.length]

section
variable {M : Model} {A : Around} {E : Value → Shared → Prop}
theorem range_two {β : Type} {f : Nat → β → Sem (ForInStep β)} {Q : β → Shared → Prop} {n : Nat} {b : β} {s : Shared}
    (h0 : n = 0 → Q b s) (h1 : 0 < n → wpAny M A (f 0 b) (fun r s' => ∃ b', r = .yield b' ∧ (n = 1 → Q b' s') ∧ (1 < n → wpAny M A (f 1 b') (fun r s'' => ∃ b'', r = .done b'' ∧ Q b'' s'') E s')) E s) :
    wpAny M A (forIn [0:n] b f) Q E s := by
  rw [Std.Legacy.Range.forIn_eq_forIn_range']
  have hsz : ([0:n] : Std.Legacy.Range).size = n := by simp [Std.Legacy.Range.size]
  show wpAny M A (forIn (List.range' 0 ([0:n] : Std.Legacy.Range).size 1) b f) Q E s
  rw [hsz]
  match n, h0, h1 with
  | 0, h0, _ => exact wpAny_pure (h0 rfl)
  | 1, _, h1 =>
    rw [List.range'_succ, List.forIn_cons]
    refine wpAny_bind (wpAny_mono (h1 (by omega)) (fun r s' hr => ?_) fun _ _ x => x)
    obtain ⟨b', rfl, h2, _⟩ := hr
    exact wpAny_pure (h2 rfl)
  | k + 2, _, h1 =>
    rw [List.range'_succ, List.forIn_cons]
    refine wpAny_bind (wpAny_mono (h1 (by omega)) (fun r s' hr => ?_) fun _ _ x => x)
    obtain ⟨b', rfl, _, h2⟩ := hr
    show wpAny M A (forIn (List.range' (0 + 1) (k + 1)) b' f) Q E s'
    rw [List.range'_succ, List.forIn_cons]
    refine wpAny_bind (wpAny_mono (h2 (by omega)) (fun r s' hr => ?_) fun _ _ x => x)
    obtain ⟨b'', rfl, hq⟩ := hr
    exact wpAny_pure hq
theorem ite_yes' {s : Shared} {α : Type} {c : Prop} [Decidable c] {a b : Sem α} {Q : α → Shared → Prop} (hc : c) (h : wpAny M A a Q E s) : wpAny M A (if c then a else b) Q E s := by rw [if_pos hc]; exact h
theorem ite_not' {s : Shared} {α : Type} {c : Prop} [Decidable c] {a b : Sem α} {Q : α → Shared → Prop} (hc : ¬ c) (h : wpAny M A b Q E s) : wpAny M A (if c then a else b) Q E s := by rw [if_neg hc]; exact h

theorem narrow_ascii {s : Shared} {id : String} {self : Value} {x : Str} {Q : Array UInt8 → Shared → Prop} (ha : ∀ c ∈ x.cps.toList, c < 128) (hl : x.length ≤ 1000) (h : Q (encB x) s) :
    wpAny M A (_codecs.encodeNarrow id _codecs.utf8Codec none self x) Q E s := by
  unfold _codecs.encodeNarrow
  refine wpAny_bind (range_two (fun h0 => ?_) (fun h0 => ?_))
  · have e : encB x = #[] := by
      unfold encB
      have : x.cps = #[] := Array.eq_empty_of_size_eq_zero h0
      rw [this]
      rfl
    rw [e] at h
    exact wpAny_pure h
  · refine ite_not' (by simp) ?_
    have hz : 0 < x.cps.size := h0
    have e : x.cps[0]? = some (x.cps[0]'hz) := Array.getElem?_eq_getElem hz
    have hb : ∀ y ∈ x.cps.toList, _codecs.utf8Codec.bad y = false := fun y hy => by
      have := ha y hy
      show Str.isSurrogate y = false
      unfold Str.isSurrogate
      simp
      omega
    have hf : Array.findIdx? _codecs.utf8Codec.bad x.cps = none := by
      rw [Array.findIdx?_eq_none_iff]
      exact fun y hy => hb y (Array.mem_toList_iff.mpr hy)
    dsimp only
    rw [e]
    dsimp only
    refine ite_yes' (by rw [hb _ (Array.getElem_mem_toList hz)]; rfl) ?_
    refine wpAny_pure ⟨_, rfl, ?_, ?_⟩
    · intro _
      dsimp only
      refine wpAny_pure ?_
      rw [Array.extract_size, hf, Option.getD_none, Array.extract_size]
      exact h
    · intro h1
      refine ite_not' ?_ ?_
      · dsimp only
        rw [Array.extract_size, hf, Option.getD_none, Array.extract_size]
        show ¬ (encB x).size > sizeLine
        rw [encB_size ha, sizeLine_eq]
        omega
      dsimp only
      have e2 : x.cps[0 + ((Array.findIdx? _codecs.utf8Codec.bad (x.cps.extract 0)).getD (x.cps.extract 0).size)]? = none := by
        rw [Array.extract_size, hf, Option.getD_none]
        simp
      rw [e2]
      dsimp only
      refine wpAny_pure ⟨_, rfl, ?_⟩
      refine wpAny_pure ?_
      dsimp only
      rw [Array.extract_size, hf, Option.getD_none, Array.extract_size]
      exact h
end

section
variable {prog : Program} {w : World} {A : Around} {E : Value → Shared → Prop} {s : Shared} {x : Str} {t : Tok} {Q : Value → Shared → Prop}
theorem encode_ascii (ha : ∀ c ∈ x.cps.toList, c < 128) (hl : x.length ≤ 1000) (h : ∀ t' k, Q (.bytes (encB x) t') { s with toks := k }) :
    wpAny (model prog w) A (call (.builtin "str.encode") [.str x t]) Q E s := by
  refine wpAny_call_entry PySem.F.slot_str_encode (typeIs_str s x t) PySem.F.entry_str_encode ?_ (PySem.F.args_str_encode_1 _)
  rw [encode_tree, encodeRoad_utf8]
  refine wpAny_bind (wpAny_bind (narrow_ascii ha hl ?_))
  refine wpAny_mkBytes (wpAny_pure ⟨_, rfl, h _ _⟩) ?_
  rw [encB_size ha, sizeLine_eq]
  omega
theorem method_encode {M : Model} {pl : Sem Bool} {Q : Value × List Value → Shared → Prop} (h : Q (.builtin "str.encode", [.str x t]) s) : wpAny M A (getMethod (.str x t) "encode" pl) Q E s := by
  have hd : ∀ a, Value.str x t = .ref a → ∃ o, s.heap.get? a = some o ∧ o.dict = none := by intro _ e; cases e
  with_reducible refine getMethod_builtin (typeIs_str s x t) PySem.F.plainAttrs_str ?_ PySem.F.type_str_encode hd h
  exact PySem.F.slot_str_encode
end

/-- the text of None or an int -/
def txtOf : Option Int → Str
  | none => Str.ofString "None"
  | some i => Str.ofString (toString i)
theorem txt_ascii (v : Option Int) : ∀ c ∈ (txtOf v).cps.toList, c < 128 := by
  cases v with
  | none => decide
  | some i =>
    intro c hc
    have hc' : c ∈ (Str.ofString (toString i)).cps.toList := hc
    rw [Str.ofString_eq_toList] at hc'
    have hc2 : c ∈ (toString i).toList.map Char.toNat := hc'
    rw [List.mem_map] at hc2
    obtain ⟨ch, hch, rfl⟩ := hc2
    have dig : ∀ (n : Nat) (ch : Char), ch ∈ (Nat.toDigits 10 n) → ch.toNat < 128 := fun n ch h => by
      have := Nat.isDigit_of_mem_toDigits (by decide) (by decide) h
      simp only [Char.isDigit, Bool.and_eq_true, decide_eq_true_eq] at this
      have h2 := this.2
      have h3 : ch.val.toNat ≤ 57 := h2
      show ch.val.toNat < 128
      omega
    cases i with
    | ofNat n =>
      have e : (toString (Int.ofNat n)).toList = Nat.toDigits 10 n := by
        show (Nat.repr n).toList = _
        simp [Nat.repr]
      rw [e] at hch
      exact dig _ _ hch
    | negSucc n =>
      have e : (toString (Int.negSucc n)).toList = '-' :: Nat.toDigits 10 (n + 1) := by
        show ("-" ++ Nat.repr (n + 1)).toList = _
        simp [Nat.repr]
      rw [e] at hch
      rcases List.mem_cons.mp hch with rfl | hch
      · decide
      · exact dig _ _ hch
theorem txt_len {v : Option Int} (h : ∀ i, v = some i → i.natAbs < 10 ^ 10) : (txtOf v).length ≤ 11 := by
  cases v with
  | none => decide
  | some i =>
    show (Str.ofString (toString i)).length ≤ 11
    rw [PySem.ofString_length]
    exact int_text_length_le10 (by decide) (h i rfl)
end
section

/-- a place's value: None or an int -/
def valOf : Value → Option Int
  | .int i _ => some i
  | _ => none
def Vok (v : Value) : Prop := v = .none ∨ ∃ i t, v = .int i t ∧ i.natAbs < 10 ^ 10
/-- the places: every value is None or a small int, every number lies between -2 and 40 -/
def Good (kvs : List (Int × Value)) : Prop := ∀ p ∈ kvs, Vok p.2 ∧ -2 ≤ p.1 ∧ p.1 ≤ 40
def got (kvs : List (Int × Value)) (k : Int) : Value := (valueAt kvs k).getD .none
def look (kvs : List (Int × Value)) (k : Int) : Option Int := valOf (got kvs k)

theorem valueAt_mem {kvs : List (Int × Value)} {k : Int} {v : Value} (h : valueAt kvs k = some v) : (k, v) ∈ kvs := by
  unfold valueAt at h
  cases e : kvs.find? (fun kv => kv.1 = k) with
  | none => rw [e] at h; cases h
  | some p =>
    rw [e] at h
    have h1 := List.find?_some e
    have h2 := List.mem_of_find?_eq_some e
    cases h
    simp only [decide_eq_true_eq] at h1
    rw [← h1]
    exact h2
theorem got_ok {kvs : List (Int × Value)} (h : Good kvs) (k : Int) : Vok (got kvs k) := by
  unfold got
  cases e : valueAt kvs k with
  | none => exact .inl rfl
  | some v => exact (h _ (valueAt_mem e)).1

section
variable {prog : Program} {w : World} {A : Around} {E : Value → Shared → Prop} {s : Shared} {Q : Value → Shared → Prop}
theorem str_of_val {v : Value} (hv : Vok v) (h : ∀ t' k, Q (.str (txtOf (valOf v)) t') { s with toks := k }) : wpAny (model prog w) A (call (.type "str") [v]) Q E s := by
  rcases hv with rfl | ⟨i, t, rfl, hi⟩
  · exact P.str_of_none (h _ _)
  · refine P.str_of_int ?_ (h _ _)
    have h1 : i.natAbs < 2 ^ 40 := Nat.lt_of_lt_of_le hi (by decide)
    by_cases h0 : i.natAbs = 0
    · rw [h0]; decide
    · exact Nat.lt_of_lt_of_le ((Nat.log2_lt h0).mpr h1) (by decide)
theorem valOf_lt {v : Value} (hv : Vok v) : ∀ i, valOf v = some i → i.natAbs < 10 ^ 10 := by
  rcases hv with rfl | ⟨i, t, rfl, hi⟩
  · intro i h; cases h
  · intro j h
    cases h
    exact hi
end
end
section
theorem keys_nodup {prog : Program} {w : World} {od : Obj} {kvs : List (Int × Value)} (hod : od.IsDictOf (intKind prog w) kvs) : (kvs.map (·.1)).Nodup := let ⟨_, _, _, _, _, _, hn⟩ := hod; hn
theorem valueAt_stored (kvs : List (Int × Value)) (k : Int) (v : Value) (j : Int) : valueAt (stored kvs k v) j = if j = k then some v else valueAt kvs j := by
  unfold stored
  by_cases ha : kvs.any (fun kv => kv.1 = k) = true
  · rw [if_pos ha]
    unfold valueAt
    rw [List.find?_map]
    have e : ((fun kv : Int × Value => decide (kv.1 = j)) ∘ fun kv => if kv.1 = k then (kv.1, v) else kv) = fun kv => decide (kv.1 = j) := by
      funext kv
      show decide ((if kv.1 = k then (kv.1, v) else kv).1 = j) = _
      split <;> rfl
    rw [e]
    cases hf : kvs.find? (fun kv => decide (kv.1 = j)) with
    | none =>
      by_cases hj : j = k
      · subst hj
        obtain ⟨x, hx, hxe⟩ := List.any_eq_true.mp ha
        have := List.find?_eq_none.mp hf x hx
        exact absurd hxe this
      · rw [if_neg hj]; rfl
    | some kv =>
      have hk : kv.1 = j := of_decide_eq_true (List.find?_some (p := fun kv : Int × Value => decide (kv.1 = j)) hf)
      by_cases hj : j = k
      · rw [if_pos hj]
        show some (if kv.1 = k then (kv.1, v) else kv).2 = some v
        rw [if_pos (hk.trans hj)]
      · rw [if_neg hj]
        show some (if kv.1 = k then (kv.1, v) else kv).2 = some kv.2
        rw [if_neg (fun e => hj (hk.symm.trans e))]
  · rw [if_neg ha]
    unfold valueAt
    rw [List.find?_append]
    by_cases hj : j = k
    · subst hj
      rw [if_pos rfl]
      have hn : kvs.find? (fun kv => decide (kv.1 = j)) = none := List.find?_eq_none.mpr fun x hx hxe => ha (List.any_eq_true.mpr ⟨x, hx, hxe⟩)
      rw [hn]
      simp
    · rw [if_neg hj]
      cases hf : kvs.find? (fun kv => decide (kv.1 = j)) with
      | none =>
        have : ¬ (k = j) := fun e => hj e.symm
        simp [this]
      | some kv => rfl
theorem got_stored (kvs : List (Int × Value)) (k : Int) (v : Value) (j : Int) : got (stored kvs k v) j = if j = k then v else got kvs j := by
  unfold got
  rw [valueAt_stored]
  split <;> rfl
theorem valueAt_map (ns : List Int) (f : Int → Value) (j : Int) : valueAt (ns.map fun k => (k, f k)) j = if j ∈ ns then some (f j) else none := by
  unfold valueAt
  rw [List.find?_map]
  by_cases hj : j ∈ ns
  · rw [if_pos hj]
    cases hf : ns.find? ((fun kv : Int × Value => decide (kv.1 = j)) ∘ fun k => (k, f k)) with
    | none =>
      have := List.find?_eq_none.mp hf j hj
      simp at this
    | some k =>
      have hk : decide (k = j) = true := List.find?_some (p := (fun kv : Int × Value => decide (kv.1 = j)) ∘ fun k => (k, f k)) hf
      have hk := of_decide_eq_true hk
      subst hk
      rfl
  · rw [if_neg hj]
    have hn : ns.find? ((fun kv : Int × Value => decide (kv.1 = j)) ∘ fun k => (k, f k)) = none := List.find?_eq_none.mpr fun x hx hxe => hj (by
      have : x = j := of_decide_eq_true hxe
      rw [← this]; exact hx)
    rw [hn]
    rfl
theorem got_map (ns : List Int) (f : Int → Value) (j : Int) : got (ns.map fun k => (k, f k)) j = if j ∈ ns then f j else .none := by
  unfold got
  rw [valueAt_map]
  split <;> rfl
theorem got_none {kvs : List (Int × Value)} {j : Int} (h : j ∉ kvs.map (·.1)) : got kvs j = .none := by
  unfold got
  rw [valueAt_none_of_not_mem h]
  rfl
theorem mem_stored {kvs : List (Int × Value)} {k : Int} {v : Value} {p : Int × Value} (h : p ∈ stored kvs k v) : (p.1 = k ∧ p.2 = v) ∨ p ∈ kvs := by
  unfold stored at h
  split at h
  · obtain ⟨q, hq, rfl⟩ := List.mem_map.mp h
    split
    · rename_i e
      exact .inl ⟨e, rfl⟩
    · exact .inr hq
  · rcases List.mem_append.mp h with h | h
    · exact .inr h
    · rw [List.mem_singleton.mp h]
      exact .inl ⟨rfl, rfl⟩
theorem stored_keys {kvs : List (Int × Value)} {k : Int} {v : Value} {j : Int} : j ∈ (stored kvs k v).map (·.1) ↔ (j = k ∨ j ∈ kvs.map (·.1)) := by
  unfold stored
  split
  · rename_i ha
    have e : (kvs.map fun kv => if kv.1 = k then (kv.1, v) else kv).map (·.1) = kvs.map (·.1) := by
      rw [List.map_map]
      refine List.map_congr_left fun kv _ => ?_
      show (if kv.1 = k then (kv.1, v) else kv).1 = kv.1
      split <;> rfl
    rw [e]
    constructor
    · exact .inr
    · rintro (rfl | h)
      · obtain ⟨x, hx, hxe⟩ := List.any_eq_true.mp ha
        exact List.mem_map.mpr ⟨x, hx, of_decide_eq_true hxe⟩
      · exact h
  · rw [List.map_append, List.mem_append]
    constructor
    · rintro (h | h)
      · exact .inr h
      · exact .inl (by simpa using h)
    · rintro (h | h)
      · exact .inr (by simpa using h)
      · exact .inl h
theorem stored_length {kvs : List (Int × Value)} {k : Int} {v : Value} : (stored kvs k v).length ≤ kvs.length + 1 := by
  unfold stored
  split
  · rw [List.length_map]; omega
  · rw [List.length_append]; simp
end
section
local macro_rules | `(tactic| k_room) => `(tactic| ktr_room)
local macro_rules | `(tactic| k_units) => `(tactic| ktr_units)
local macro_rules | `(tactic| walk_at "my enter") => `(tactic| (
  refine' code_defF ?k1 ?k2 ?k3 ?k4 ?k5 ?kA ?kF ?kK ?k6 ?k7 ?k8 ?k9 ?kB ?_ ?c2 ?c3 ?c4 ?c5; (case kA => exact rfl); (case kF => exact rfl); (case kK => assumption); (case k1 => k_asm); (case k2 => k_asm); (case k3 => k_asm); (case k4 => k_asm); (case k5 => k_asm); (case k6 => k_is); (case k7 => k_is); (case k8 => k_room); (case k9 => exact BindsTo.of_eq rfl); (case c5 => decide); (case kB => exact locs rfl); (case c2 => exact rfl); (case c3 => exact rfl); (case c4 => exact rfl); k_whole))
local macro_rules | `(tactic| walk_at "callWith ref") => `(tactic| (k_dflt (first | (refine' callWith_F ?k1 ?_; (case k1 => exact FnAt.of (by assumption) (by assumption)); k_whole) | (refine' callWith_F0 ?k1 ?_; (case k1 => exact FnAt.of (by assumption) (by assumption)); k_whole; try dsimp only [List.nil_append, List.cons_append]))))
local macro_rules | `(tactic| walk_at "FnAt") => `(tactic| exact FnAt.of (by assumption) (by assumption))
section
local macro_rules | `(tactic| walk_at "my use") => `(tactic| ((case B => k_asm); (case F => k_asm); (case X => k_asm); (case N => k_asm); (case T => k_asm); (case k => exact rfl); (case d => ktr_room); (case u => ktr_units)))

def maxL (ns : List Int) (g : Int) : Int := ns.foldl (fun a n => if n > a then n else a) g

theorem greatest_c (w : World) (need : Nat) (f : Addr) (I : List Int → List (Addr × Obj) → Prop) (J : List (Addr × Obj) → Prop) (ns : List Int) (own : List (Addr × Obj)) (h0 : I ns own)
    (hfn : ∀ r own, I r own → ∃ oc od fd sl, (f, (⟨oc, od, .func fd, sl⟩ : Obj)) ∈ own)
    (hnext : ∀ r own, I r own → CallC w need (.ref f) [] own (fun v own' => match r with | [] => v = .none ∧ J own' | n :: r' => (∃ t, v = .int n t) ∧ I r' own')) :
    CallC w (need + 2) (.ref 42) [.ref f] own (fun v own' => (∃ t, v = .int (maxL ns 0) t) ∧ J own') := by
  unfold CallC
  k_fill
  intro p loose mean mg mb dp un gd cn cs a ccd cl outer A₀ base h₀ L m s Q E B F X N T hk hdp hun hret
  refine wpAny_call ?_
  walk_at "my enter"
  intro g' L' h1 hg FG1 F1 N1 B1 X1 T1 la
  (try dsimp only)
  (try k_fold)
  obtain ⟨oc, od, fd, sl, hm⟩ := hfn _ _ h0
  (repeat' ( (fail_if_success (with_reducible show InvEndN _ _ _ _ _ _ _)); (fail_if_success (with_reducible show KswEnd _ _ _ _ _ _ _ _ _ _ _ _)); (fail_if_success (with_reducible show wpAny _ _ (exec (Stmt.While _ _ _ _) _) _ _ _)); (fail_if_success (with_reducible show wpAny _ _ (exec (Stmt.FunctionDef _ _ _ _ _ _ _ _ _ _) _) _ _ _)); (fail_if_success (with_reducible show wpAny _ _ (call (Value.ref _) _) _ _ _)); first | (k_unfold; (try dsimp only)) | (k_end; wrow_close) | walk1 | (dsimp only; walk1) | (leave1; walk_say "STEP leave1"; try dsimp only) | fail "no step"))
  refine callc_use (hnext ns own h0) (by k_asm) (by k_asm) (by k_asm) (by k_asm) (by k_asm) rfl (by ktr_room) (by ktr_units) ?_
  intro r1 own1 h2 tk2 F2 N2 hp hl
  (try dsimp only)
  (repeat' ( (fail_if_success (with_reducible show InvEndN _ _ _ _ _ _ _)); (fail_if_success (with_reducible show KswEnd _ _ _ _ _ _ _ _ _ _ _ _)); (fail_if_success (with_reducible show wpAny _ _ (exec (Stmt.While _ _ _ _) _) _ _ _)); (fail_if_success (with_reducible show wpAny _ _ (exec (Stmt.FunctionDef _ _ _ _ _ _ _ _ _ _) _) _ _ _)); (fail_if_success (with_reducible show wpAny _ _ (call (Value.ref _) _) _ _ _)); first | (k_unfold; (try dsimp only)) | (k_end; wrow_close) | walk1 | (dsimp only; walk1) | (leave1; walk_say "STEP leave1"; try dsimp only) | fail "no step"))
  rename Fr _ _ _ _ => F3
  rename News _ _ _ _ => N3
  with_unfolding_all refine' ksw_while (σ := List Int × Int × Tok × Value × List (Addr × Obj)) (fun c => c.2.2.2.2) (fun c => [(Str.ofString "greatest", Value.int c.2.1 c.2.2.1), (Str.ofString "found", c.2.2.2.1)]) (fun _ => True) [] (fun c => maxL c.1 c.2.1 = maxL ns 0 ∧ match c.1 with | [] => c.2.2.2.1 = .none ∧ J c.2.2.2.2 | n :: r' => (∃ t, c.2.2.2.1 = .int n t) ∧ I r' c.2.2.2.2) (fun c => c.1.length) (ns, 0, _, r1, own1) F3 N3 trivial ?k1 ⟨rfl, hp⟩ ?_
  case k1 => kst_all
  rintro ⟨rs, g, tg, v, own9⟩ u9 h9 tq9 - ⟨hg9, hst⟩ F9 N9
  dsimp only at hg9 hst F9 N9
  clear F3 N3 hm
  cases rs with
  | nil =>
    obtain ⟨rfl, hJ⟩ := hst
    (repeat' ( (fail_if_success (with_reducible show InvEndN _ _ _ _ _ _ _)); (fail_if_success (with_reducible show KswEnd _ _ _ _ _ _ _ _ _ _ _ _)); (fail_if_success (with_reducible show wpAny _ _ (exec (Stmt.While _ _ _ _) _) _ _ _)); (fail_if_success (with_reducible show wpAny _ _ (exec (Stmt.FunctionDef _ _ _ _ _ _ _ _ _ _) _) _ _ _)); (fail_if_success (with_reducible show wpAny _ _ (call (Value.ref _) _) _ _ _)); first | (k_unfold; (try dsimp only)) | (k_end; wrow_close) | walk1 | (dsimp only; walk1) | (leave1; walk_say "STEP leave1"; try dsimp only) | fail "no step"))
    rename Fr h₀ _ _ _ => kF
    rename News h₀ _ _ _ => kN
    have e : g = maxL ns 0 := hg9
    exact hret _ own9 _ _ kF kN ⟨⟨tg, by rw [e]⟩, hJ⟩ (left_of hg F9 N9)
  | cons n r9 =>
    obtain ⟨⟨t9, rfl⟩, hI⟩ := hst
    obtain ⟨oc, od, fd, sl, hm⟩ := hfn _ _ hI
    (repeat' ( (fail_if_success (with_reducible show InvEndN _ _ _ _ _ _ _)); (fail_if_success (with_reducible show KswEnd _ _ _ _ _ _ _ _ _ _ _ _)); (fail_if_success (with_reducible show wpAny _ _ (exec (Stmt.While _ _ _ _) _) _ _ _)); (fail_if_success (with_reducible show wpAny _ _ (exec (Stmt.FunctionDef _ _ _ _ _ _ _ _ _ _) _) _ _ _)); (fail_if_success (with_reducible show wpAny _ _ (call (Value.ref _) _) _ _ _)); first | (k_unfold; (try dsimp only)) | (k_end; wrow_close) | walk1 | (dsimp only; walk1) | (leave1; walk_say "STEP leave1"; try dsimp only) | fail "no step"))
    all_goals (
      refine callc_use (hnext r9 own9 hI) (by k_asm) (by k_asm) (by k_asm) (by k_asm) (by k_asm) rfl (by ktr_room) (by ktr_units) ?_
      intro r2 own2 h3 tk3 F3 N3 hp hl
      (try dsimp only)
      clear hm
      (repeat' ( (fail_if_success (with_reducible show InvEndN _ _ _ _ _ _ _)); (fail_if_success (with_reducible show KswEnd _ _ _ _ _ _ _ _ _ _ _ _)); (fail_if_success (with_reducible show wpAny _ _ (exec (Stmt.While _ _ _ _) _) _ _ _)); (fail_if_success (with_reducible show wpAny _ _ (exec (Stmt.FunctionDef _ _ _ _ _ _ _ _ _ _) _) _ _ _)); (fail_if_success (with_reducible show wpAny _ _ (call (Value.ref _) _) _ _ _)); first | (k_unfold; (try dsimp only)) | (k_end; wrow_close) | walk1 | (dsimp only; walk1) | (leave1; walk_say "STEP leave1"; try dsimp only) | fail "no step"))
      rename Fr g' _ _ _ => F4
      rename News g' _ _ _ => N4)
    · refine ksw_end (r9, n, _, r2, own2) F4 N4 (fun p hp => hp) trivial (by kst_all) (fun z h2 h3 => ?_) ⟨?_, hp⟩ (by simp)
      · have e1 : z ≠ Str.ofString "greatest" := h2 _ (.head _)
        have e2 : z ≠ Str.ofString "found" := h2 _ (.tail _ (.head _))
        simp [kstB, e1, e2]
      · rw [← hg9]
        show maxL r9 n = maxL r9 (if n > g then n else g)
        rw [if_pos (by omega)]
    · refine ksw_end (r9, g, _, r2, own2) F4 N4 (fun p hp => hp) trivial (by kst_all) (fun z h2 h3 => ?_) ⟨?_, hp⟩ (by simp)
      · have e1 : z ≠ Str.ofString "greatest" := h2 _ (.head _)
        have e2 : z ≠ Str.ofString "found" := h2 _ (.tail _ (.head _))
        simp [kstB, e1, e2]
      · rw [← hg9]
        show maxL r9 g = maxL r9 (if n > g then n else g)
        rw [if_neg (by omega)]
end
section
local macro_rules | `(tactic| walk_at "my use") => `(tactic| ((case B => k_asm); (case F => k_asm); (case X => k_asm); (case N => k_asm); (case T => k_asm); (case k => exact rfl); (case d => ktr_room); (case u => ktr_units)))


theorem joined_size {sep : Array UInt8} (hs : sep.size ≤ 10) : ∀ (bs : List (Array UInt8)), (∀ b ∈ bs, b.size ≤ 100) → (Bytes.joined sep bs).size ≤ 110 * bs.length := by
  have go : ∀ (n : Nat) (bs : List (Array UInt8)), bs.length = n → (∀ b ∈ bs, b.size ≤ 100) → (Bytes.joined sep bs).size ≤ 110 * bs.length := by
    intro n
    induction n with
    | zero =>
      intro bs hn _
      have : bs = [] := List.eq_nil_of_length_eq_zero hn
      subst this
      simp [Bytes.joined]
    | succ n ih =>
      intro bs hn hb
      have hne : bs ≠ [] := by intro e; rw [e] at hn; cases hn
      obtain ⟨l, b, rfl⟩ : ∃ l b, bs = l ++ [b] := ⟨bs.dropLast, bs.getLast hne, (List.dropLast_concat_getLast hne).symm⟩
      rw [List.length_append, List.length_singleton] at hn
      have h1 := ih l (by omega) fun x hx => hb x (List.mem_append_left _ hx)
      have h2 := hb b (List.mem_append_right _ (.head _))
      rw [joined_snoc, Array.size_append, List.length_append, List.length_singleton]
      split
      · rw [Array.size_append]; omega
      · omega
  exact fun bs h => go _ bs rfl h
theorem fold_size (bs : List (Array UInt8)) (i : Nat) (h : ∀ b ∈ bs, b.size ≤ 100) : bs.toArray.foldl (· + ·.size) i ≤ i + 100 * bs.length := by
  rw [← Array.foldl_toList]
  induction bs generalizing i with
  | nil => simp
  | cons b r ih =>
    have h1 := ih (i + b.size) fun x hx => h x (.tail _ hx)
    have h2 := h b (.head _)
    simp only [List.foldl_cons, List.length_cons] at h1 ⊢
    omega
local macro_rules | `(tactic| walk_at "getMethod bytes") => `(tactic| (with_reducible refine method_join ?_))
theorem joined_c (w : World) (need : Nat) (f : Addr) (sep : Array UInt8) (ts t1 t2 : Tok) (first last : Int) (txt : Int → Array UInt8) (I : Int → List (Addr × Obj) → Prop) (own : List (Addr × Obj)) (h0 : I first own)
    (hr : last - first ≤ 20) (hsep : sep.size ≤ 10) (htxt : ∀ k, first ≤ k → k ≤ last → (txt k).size ≤ 100)
    (hfn : ∀ k own, I k own → ∃ oc od fd sl, (f, (⟨oc, od, .func fd, sl⟩ : Obj)) ∈ own)
    (hask : ∀ k t own, I k own → first ≤ k → k ≤ last → CallC w need (.ref f) [.int k t] own (fun r own' => I (k + 1) own' ∧ ∃ t', r = .bytes (txt k) t')) :
    CallC w (need + 2) (.ref 35) [.ref f, .bytes sep ts, .int first t1, .int last t2] own (fun r own' =>
      (∃ t, r = .bytes (Bytes.joined sep ((rangeInts first 1 (last + 1 - first).toNat).map txt)) t) ∧ I (max first (last + 1)) own') := by
  unfold CallC
  k_fill
  intro p loose mean mg mb dp un gd cn cs a ccd cl outer A₀ base h₀ L m s Q E B F X N T hk hdp hun hret
  refine wpAny_call ?_
  walk_at "my enter"
  intro g' L' h1 hg FG1 F1 N1 B1 X1 T1 la
  (try dsimp only)
  (try k_fold)
  (repeat' ( (fail_if_success (with_reducible show InvEndN _ _ _ _ _ _ _)); (fail_if_success (with_reducible show KswEnd _ _ _ _ _ _ _ _ _ _ _ _)); (fail_if_success (with_reducible show wpAny _ _ (exec (Stmt.While _ _ _ _) _) _ _ _)); (fail_if_success (with_reducible show wpAny _ _ (exec (Stmt.FunctionDef _ _ _ _ _ _ _ _ _ _) _) _ _ _)); (fail_if_success (with_reducible show wpAny _ _ (call (Value.ref _) _) _ _ _)); first | (k_unfold; (try dsimp only)) | (k_end; wrow_close) | walk1 | (dsimp only; walk1) | (leave1; walk_say "STEP leave1"; try dsimp only) | fail "no step"))
  rename Fr _ _ _ _ => F3
  rename News _ _ _ _ => N3
  rename_i pl hx0 l1 hx1 hx2
  with_unfolding_all refine' ksw_while (σ := Int × Tok × List (Array UInt8 × Tok) × Nat × List (Addr × Obj)) (fun c => (pl, W.listOf (List.toArray (bytesV c.2.2.1)) c.2.2.2.1) :: c.2.2.2.2) (fun c => [(Str.ofString "at", Value.int c.1 c.2.1)]) (fun _ => True) [] (fun c => I c.1 c.2.2.2.2 ∧ first ≤ c.1 ∧ c.1 ≤ max first (last + 1) ∧ c.2.2.1.map (·.1) = (rangeInts first 1 (c.1 - first).toNat).map txt ∧ ∀ p ∈ c.2.2.2.2, p.1 ≠ pl) (fun c => (last + 1 - c.1).toNat) (first, t1, [], 0, own) F3 N3 trivial ?k1 ⟨h0, by dsimp only; omega, by dsimp only; omega, by simp [rangeInts], fun p hp => Nat.ne_of_lt (l1 p hp)⟩ ?_
  case k1 => kst_all
  rintro ⟨k, tk, ps, n, own9⟩ u9 h9 tq9 - ⟨hI, hk1, hk2, hps, hne⟩ F9 N9
  dsimp only at hI hk1 hk2 hps hne F9 N9
  clear F3 N3
  obtain ⟨oc, od, fd, sl, hm0⟩ := hfn _ _ hI
  have hm : (f, (⟨oc, od, .func fd, sl⟩ : Obj)) ∈ (pl, W.listOf (List.toArray (bytesV ps)) n) :: own9 := .tail _ hm0
  (repeat' ( (fail_if_success (with_reducible show InvEndN _ _ _ _ _ _ _)); (fail_if_success (with_reducible show KswEnd _ _ _ _ _ _ _ _ _ _ _ _)); (fail_if_success (with_reducible show wpAny _ _ (exec (Stmt.While _ _ _ _) _) _ _ _)); (fail_if_success (with_reducible show wpAny _ _ (exec (Stmt.FunctionDef _ _ _ _ _ _ _ _ _ _) _) _ _ _)); (fail_if_success (with_reducible show wpAny _ _ (call (Value.ref _) _) _ _ _)); first | (k_unfold; (try dsimp only)) | (k_end; wrow_close) | walk1 | (dsimp only; walk1) | (leave1; walk_say "STEP leave1"; try dsimp only) | fail "no step"))
  · have hka : k ≤ last := by assumption
    refine callc_use (hask k tk own9 hI hk1 hka) (by k_asm) (by k_asm) (by k_asm) (fun p hp => N9 p (.tail _ hp)) (by k_asm) rfl (by ktr_room) (by ktr_units) ?_
    rintro r own2 h2 tk2 F2 N2 ⟨hI2, tr, rfl⟩ hl
    (try dsimp only)
    have hpl := hl pl _ (N9 (pl, W.listOf (List.toArray (bytesV ps)) n) (.head _)).1 (fun q => by
      obtain ⟨x, hx, e⟩ := List.mem_map.mp q
      exact hne x hx e)
    have hne2 : ∀ p ∈ own2, p.1 ≠ pl := fun p hp e => hpl.2 (List.mem_map.mpr ⟨p, hp, e⟩)
    have N3 : News g' L' h2 ((pl, W.listOf (List.toArray (bytesV ps)) n) :: own2) := fun p hp => by
      rcases List.mem_cons.mp hp with rfl | hp
      · exact ⟨hpl.1, (N9 _ (.head _)).2⟩
      · exact N2 p hp
    have hlen : ps.length ≤ 30 := by
      have := congrArg List.length hps
      rw [List.length_map, List.length_map, rangeInts_length] at this
      omega
    clear hm N2
    (repeat' ( (fail_if_success (with_reducible show InvEndN _ _ _ _ _ _ _)); (fail_if_success (with_reducible show KswEnd _ _ _ _ _ _ _ _ _ _ _ _)); (fail_if_success (with_reducible show wpAny _ _ (exec (Stmt.While _ _ _ _) _) _ _ _)); (fail_if_success (with_reducible show wpAny _ _ (exec (Stmt.FunctionDef _ _ _ _ _ _ _ _ _ _) _) _ _ _)); (fail_if_success (with_reducible show wpAny _ _ (call (Value.ref _) _) _ _ _)); first | (k_unfold; (try dsimp only)) | (k_end; wrow_close) | walk1 | (dsimp only; walk1) | (leave1; walk_say "STEP leave1"; try dsimp only) | fail "no step"))
    refine append_K (F := F2) (N := N3) (U := Upd.head hne2) (x := .bytes (txt k) tr) (hsz := by simp [bytesV, sizeLine_eq]; omega) ?_
    intro h4 F4 N4
    (repeat' ( (fail_if_success (with_reducible show InvEndN _ _ _ _ _ _ _)); (fail_if_success (with_reducible show KswEnd _ _ _ _ _ _ _ _ _ _ _ _)); (fail_if_success (with_reducible show wpAny _ _ (exec (Stmt.While _ _ _ _) _) _ _ _)); (fail_if_success (with_reducible show wpAny _ _ (exec (Stmt.FunctionDef _ _ _ _ _ _ _ _ _ _) _) _ _ _)); (fail_if_success (with_reducible show wpAny _ _ (call (Value.ref _) _) _ _ _)); first | (k_unfold; (try dsimp only)) | (k_end; wrow_close) | walk1 | (dsimp only; walk1) | (leave1; walk_say "STEP leave1"; try dsimp only) | fail "no step"))
    rename Fr g' _ _ _ => F5
    rename News g' _ _ _ => N5
    have eL : (List.toArray (bytesV ps)).push (.bytes (txt k) tr) = List.toArray (bytesV (ps ++ [(txt k, tr)])) := by simp [bytesV]
    rw [eL] at N5
    refine ksw_end (k + 1, _, ps ++ [(txt k, tr)], n + 1, own2) F5 N5 (fun p hp => hp) trivial (by kst_all) (fun z h2 h3 => ?_) ⟨hI2, by dsimp only; omega, by dsimp only; omega, ?_, hne2⟩ (by dsimp only; omega)
    · have e1 : z ≠ Str.ofString "at" := h2 _ (.head _)
      simp [kstB, e1]
    · dsimp only
      rw [List.map_append, hps, show (k + 1 - first).toNat = (k - first).toNat + 1 by omega, rangeInts_snoc, List.map_append]
      simp only [List.map_cons, List.map_nil]
      rw [show first + ((k - first).toNat : Int) * 1 = k by omega]
  · have hka : ¬ k ≤ last := by assumption
    have ek : k = max first (last + 1) := by omega
    have en : (k - first).toNat = (last + 1 - first).toNat := by omega
    have hlen : ps.length ≤ 30 := by
      have := congrArg List.length hps
      rw [List.length_map, List.length_map, rangeInts_length] at this
      omega
    have hsz : ∀ b ∈ ps.map (·.1), b.size ≤ 100 := by
      rw [hps]
      intro b hb
      obtain ⟨j, hj, rfl⟩ := List.mem_map.mp hb
      have := mem_rangeInts hj
      exact htxt j (by omega) (by omega)
    refine join_bytes ⟨_, (N9 (pl, W.listOf (List.toArray (bytesV ps)) n) (.head _)).1, rfl, _, rfl⟩ (Nat.le_trans (joined_size hsep _ hsz) (by rw [List.length_map]; omega)) (Nat.le_trans (fold_size _ _ hsz) (by rw [show (ps.map (·.1)).toArray.size = ps.length by simp, List.length_map]; have := Nat.mul_le_mul hsep (show ps.length - 1 ≤ 30 by omega); omega)) ?_
    intro t' k'
    (repeat' ( (fail_if_success (with_reducible show InvEndN _ _ _ _ _ _ _)); (fail_if_success (with_reducible show KswEnd _ _ _ _ _ _ _ _ _ _ _ _)); (fail_if_success (with_reducible show wpAny _ _ (exec (Stmt.While _ _ _ _) _) _ _ _)); (fail_if_success (with_reducible show wpAny _ _ (exec (Stmt.FunctionDef _ _ _ _ _ _ _ _ _ _) _) _ _ _)); (fail_if_success (with_reducible show wpAny _ _ (call (Value.ref _) _) _ _ _)); first | (k_unfold; (try dsimp only)) | (k_end; wrow_close) | walk1 | (dsimp only; walk1) | (leave1; walk_say "STEP leave1"; try dsimp only) | fail "no step"))
    rename Fr h₀ _ _ _ => kF
    rename News h₀ _ _ _ => kN
    refine hret _ own9 _ _ kF (fun p hp => kN p (.tail _ hp)) ⟨⟨t', ?_⟩, ek ▸ hI⟩ (left_of hg F9 (fun p hp => N9 p (.tail _ hp)))
    rw [hps, en]
end
section

def setF (g : Int → Value) (k : Int) (x : Value) : Int → Value := fun j => if j = k then x else g j
def insF (g : Int → Value) (border pos : Int) (x : Value) : Int → Value := fun k => if k = pos then x else if pos < k ∧ k ≤ border + 1 then g (k - 1) else g k
def insMid (g : Int → Value) (border c : Int) : Int → Value := fun k => if c < k ∧ k ≤ border + 1 then g (k - 1) else g k

theorem setF_insMid {g0 : Int → Value} {border c : Int} (hle : c ≤ border + 1) : setF (insMid g0 border c) c (insMid g0 border c (c - 1)) = insMid g0 border (c - 1) := by
  funext k
  unfold setF insMid
  by_cases hk : k = c
  · subst hk
    rw [if_pos rfl, if_neg (by omega), if_pos (by omega)]
  · rw [if_neg hk]
    by_cases hk2 : c < k ∧ k ≤ border + 1
    · rw [if_pos hk2, if_pos (by omega)]
    · rw [if_neg hk2, if_neg (by omega)]

/-- what put and get are asked -/
structure Store (w : World) (need : Nat) (fg fp : Addr) (I : (Int → Value) → List Int → List (Addr × Obj) → Prop) : Prop where
  fget : ∀ g sn own, I g sn own → ∃ oc od fd sl, (fg, (⟨oc, od, .func fd, sl⟩ : Obj)) ∈ own
  fput : ∀ g sn own, I g sn own → ∃ oc od fd sl, (fp, (⟨oc, od, .func fd, sl⟩ : Obj)) ∈ own
  vals : ∀ g sn own, I g sn own → ∀ k, Vok (g k)
  get : ∀ g sn own k t, I g sn own → CallC w need (.ref fg) [.int k t] own (fun r own' => r = g k ∧ I g sn own')
  put : ∀ g sn own k t x, I g sn own → Vok x → -2 ≤ k → k ≤ 40 → sn.length ≤ 60 → CallC w need (.ref fp) [.int k t, x] own (fun _ own' => I (setF g k x) (sn ++ [k]) own')

theorem insert_c (w : World) (need : Nat) (fg fp : Addr) (border pos : Int) (tb ta : Tok) (x : Value) (I : (Int → Value) → List Int → List (Addr × Obj) → Prop) (S : Store w need fg fp I) (g0 : Int → Value) (own : List (Addr × Obj)) (h0 : I g0 [] own)
    (hx : Vok x) (hb : 0 ≤ border) (hb2 : border ≤ 30) (hp : -2 ≤ pos) (hp2 : pos ≤ 35) :
    CallC w (need + 2) (.ref 21) [.ref fg, .ref fp, .int border tb, .int pos ta, x] own (fun _ own' =>
      I (insF g0 border pos x) (rangeInts (max (border + 1) pos) (-1) (max (border + 1) pos - pos).toNat ++ [pos]) own') := by
  unfold CallC
  k_fill
  intro p loose mean mg mb dp un gd cn cs a ccd cl outer A₀ base h₀ L m s Q E B F X N T hk hdp hun hret
  refine wpAny_call ?_
  walk_at "my enter"
  intro g' L' h1 hg FG1 F1 N1 B1 X1 T1 l1
  (try dsimp only)
  (try k_fold)
  (repeat' ( (fail_if_success (with_reducible show InvEndN _ _ _ _ _ _ _)); (fail_if_success (with_reducible show KswEnd _ _ _ _ _ _ _ _ _ _ _ _)); (fail_if_success (with_reducible show wpAny _ _ (exec (Stmt.While _ _ _ _) _) _ _ _)); (fail_if_success (with_reducible show wpAny _ _ (exec (Stmt.FunctionDef _ _ _ _ _ _ _ _ _ _) _) _ _ _)); (fail_if_success (with_reducible show wpAny _ _ (call (Value.ref _) _) _ _ _)); first | (k_unfold; (try dsimp only)) | (k_end; wrow_close) | walk1 | (dsimp only; walk1) | (leave1; walk_say "STEP leave1"; try dsimp only) | fail "no step"))
  rename Fr _ _ _ _ => F3
  rename News _ _ _ _ => N3
  with_unfolding_all refine' ksw_while (σ := Int × Tok × (Int → Value) × List Int × List (Addr × Obj)) (fun c => c.2.2.2.2) (fun c => [(Str.ofString "slot", Value.int c.1 c.2.1)]) (fun _ => True) [] (fun c => I c.2.2.1 c.2.2.2.1 c.2.2.2.2 ∧ c.2.2.1 = insMid g0 border c.1 ∧ pos ≤ c.1 ∧ c.1 ≤ max (border + 1) pos ∧ c.2.2.2.1 = rangeInts (max (border + 1) pos) (-1) (max (border + 1) pos - c.1).toNat) (fun c => (c.1 - pos).toNat) (_, _, g0, [], own) F3 N3 trivial ?k1 ?k2 ?_
  case k1 => kst_all
  case k2 =>
    dsimp only
    refine ⟨h0, ?_, ?_, ?_, ?_⟩
    · funext k
      unfold insMid
      rw [if_neg (by split <;> omega)]
    · split <;> omega
    · split <;> omega
    · rw [show (max (border + 1) pos - if pos > border + 1 then pos else border + 1).toNat = 0 by split <;> omega]
      rfl
  rintro ⟨c, tc, g, sn, own9⟩ u9 h9 tq9 - ⟨hI, hg9, hc1, hc2, hsn⟩ F9 N9
  dsimp only at hI hg9 hc1 hc2 hsn F9 N9
  clear F3 N3
  have hsl : sn.length ≤ 40 := by rw [hsn, rangeInts_length]; omega
  obtain ⟨oc, od, fd, sl, hm1⟩ := S.fget _ _ _ hI
  obtain ⟨oc2, od2, fd2, sl2, hm2⟩ := S.fput _ _ _ hI
  (repeat' ( (fail_if_success (with_reducible show InvEndN _ _ _ _ _ _ _)); (fail_if_success (with_reducible show KswEnd _ _ _ _ _ _ _ _ _ _ _ _)); (fail_if_success (with_reducible show wpAny _ _ (exec (Stmt.While _ _ _ _) _) _ _ _)); (fail_if_success (with_reducible show wpAny _ _ (exec (Stmt.FunctionDef _ _ _ _ _ _ _ _ _ _) _) _ _ _)); (fail_if_success (with_reducible show wpAny _ _ (call (Value.ref _) _) _ _ _)); first | (k_unfold; (try dsimp only)) | (k_end; wrow_close) | walk1 | (dsimp only; walk1) | (leave1; walk_say "STEP leave1"; try dsimp only) | fail "no step"))
  · refine callc_use (S.get _ _ _ (c - 1) _ hI) (by k_asm) (by k_asm) (by k_asm) (by k_asm) (by k_asm) rfl (by ktr_room) (by ktr_units) ?_
    rintro r own2 h2 tk2 F2 N2 ⟨rfl, hI2⟩ hl
    (try dsimp only)
    clear hm1 hm2
    obtain ⟨oc, od, fd, sl, hm1⟩ := S.fget _ _ _ hI2
    obtain ⟨oc2, od2, fd2, sl2, hm2⟩ := S.fput _ _ _ hI2
    (repeat' ( (fail_if_success (with_reducible show InvEndN _ _ _ _ _ _ _)); (fail_if_success (with_reducible show KswEnd _ _ _ _ _ _ _ _ _ _ _ _)); (fail_if_success (with_reducible show wpAny _ _ (exec (Stmt.While _ _ _ _) _) _ _ _)); (fail_if_success (with_reducible show wpAny _ _ (exec (Stmt.FunctionDef _ _ _ _ _ _ _ _ _ _) _) _ _ _)); (fail_if_success (with_reducible show wpAny _ _ (call (Value.ref _) _) _ _ _)); first | (k_unfold; (try dsimp only)) | (k_end; wrow_close) | walk1 | (dsimp only; walk1) | (leave1; walk_say "STEP leave1"; try dsimp only) | fail "no step"))
    refine callc_use (S.put _ _ _ c _ (g (c - 1)) hI2 (S.vals _ _ _ hI2 _) (by omega) (by omega) (by omega)) (by k_asm) (by k_asm) (by k_asm) (by k_asm) (by k_asm) rfl (by ktr_room) (by ktr_units) ?_
    rintro r own3 h3 tk3 F3 N3 hI3 hl3
    (try dsimp only)
    clear hm1 hm2
    (repeat' ( (fail_if_success (with_reducible show InvEndN _ _ _ _ _ _ _)); (fail_if_success (with_reducible show KswEnd _ _ _ _ _ _ _ _ _ _ _ _)); (fail_if_success (with_reducible show wpAny _ _ (exec (Stmt.While _ _ _ _) _) _ _ _)); (fail_if_success (with_reducible show wpAny _ _ (exec (Stmt.FunctionDef _ _ _ _ _ _ _ _ _ _) _) _ _ _)); (fail_if_success (with_reducible show wpAny _ _ (call (Value.ref _) _) _ _ _)); first | (k_unfold; (try dsimp only)) | (k_end; wrow_close) | walk1 | (dsimp only; walk1) | (leave1; walk_say "STEP leave1"; try dsimp only) | fail "no step"))
    rename Fr g' _ _ _ => F4
    rename News g' _ _ _ => N4
    refine ksw_end (c - 1, _, _, _, own3) F4 N4 (fun p hp => hp) trivial (by kst_all) (fun z h2 h3 => ?_) ⟨hI3, ?_, by dsimp only; omega, by dsimp only; omega, ?_⟩ (by dsimp only; omega)
    · have e1 : z ≠ Str.ofString "slot" := h2 _ (.head _)
      simp [kstB, e1]
    · subst hg9
      exact setF_insMid (by omega)
    · dsimp only
      rw [hsn, show (max (border + 1) pos - (c - 1)).toNat = (max (border + 1) pos - c).toNat + 1 by omega, rangeInts_snoc]
      congr 2
      omega
  · have ec : c = pos := by omega
    refine callc_use (S.put _ _ _ pos _ x hI hx (by omega) (by omega) (by omega)) (by k_asm) (by k_asm) (by k_asm) (by k_asm) (by k_asm) rfl (by ktr_room) (by ktr_units) ?_
    rintro r own3 h3 tk3 F3 N3 hI3 hl3
    (try dsimp only)
    clear hm1 hm2
    (repeat' ( (fail_if_success (with_reducible show InvEndN _ _ _ _ _ _ _)); (fail_if_success (with_reducible show KswEnd _ _ _ _ _ _ _ _ _ _ _ _)); (fail_if_success (with_reducible show wpAny _ _ (exec (Stmt.While _ _ _ _) _) _ _ _)); (fail_if_success (with_reducible show wpAny _ _ (exec (Stmt.FunctionDef _ _ _ _ _ _ _ _ _ _) _) _ _ _)); (fail_if_success (with_reducible show wpAny _ _ (call (Value.ref _) _) _ _ _)); first | (k_unfold; (try dsimp only)) | (k_end; wrow_close) | walk1 | (dsimp only; walk1) | (leave1; walk_say "STEP leave1"; try dsimp only) | fail "no step"))
    rename Fr h₀ _ _ _ => kF
    rename News h₀ _ _ _ => kN
    rename Fr g' _ _ _ => F4
    rename News g' _ _ _ => N4
    refine hret .none own3 _ _ kF kN ?_ (left_of hg F4 N4)
    subst hg9
    subst hsn
    subst ec
    exact hI3
end
section
local macro_rules | `(tactic| walk_at "my pad") => `(tactic| skip)

def remF (g : Int → Value) (border pos : Int) : Int → Value := fun k => if k = border then .none else if pos ≤ k ∧ k < border then g (k + 1) else g k
def remMid (g : Int → Value) (pos c : Int) : Int → Value := fun k => if pos ≤ k ∧ k < c then g (k + 1) else g k
theorem setF_remMid {g0 : Int → Value} {pos c : Int} (hle : pos ≤ c) : setF (remMid g0 pos c) c (remMid g0 pos c (c + 1)) = remMid g0 pos (c + 1) := by
  funext k
  unfold setF remMid
  by_cases hk : k = c
  · subst hk
    rw [if_pos rfl, if_neg (by omega), if_pos (by omega)]
  · rw [if_neg hk]
    by_cases hk2 : pos ≤ k ∧ k < c
    · rw [if_pos hk2, if_pos (by omega)]
    · rw [if_neg hk2, if_neg (by omega)]

theorem remove_c (w : World) (need : Nat) (fg fp : Addr) (border pos : Int) (tb ta : Tok) (I : (Int → Value) → List Int → List (Addr × Obj) → Prop) (S : Store w need fg fp I) (g0 : Int → Value) (own : List (Addr × Obj)) (h0 : I g0 [] own)
    (hb : 0 ≤ border) (hb2 : border ≤ 30) (hp : -2 ≤ pos) (hp2 : pos ≤ 35) :
    CallC w (need + 2) (.ref 28) [.ref fg, .ref fp, .int border tb, .int pos ta] own (fun r own' => ∃ ra b v own2, r = .ref ra ∧ own' = (ra, ({ cls := .type "tuple", data := .seq #[.bool b, v] } : Obj)) :: own2 ∧
      (∀ p ∈ own2, p.1 ≠ ra) ∧
      ((¬ (1 ≤ pos ∧ pos ≤ border) ∧ b = false ∧ v = .none ∧ I g0 [] own2) ∨ (1 ≤ pos ∧ pos ≤ border ∧ b = true ∧ v = g0 pos ∧ I (remF g0 border pos) (rangeInts pos 1 (border + 1 - pos).toNat) own2))) := by
  unfold CallC
  k_fill
  intro p loose mean mg mb dp un gd cn cs a ccd cl outer A₀ base h₀ L m s Q E B F X N T hk hdp hun hret
  refine wpAny_call ?_
  walk_at "my enter"
  intro g' L' h1 hg FG1 F1 N1 B1 X1 T1 l1
  (try dsimp only)
  (try k_fold)
  obtain ⟨oc, od, fd, sl, hm1⟩ := S.fget _ _ _ h0
  obtain ⟨oc2, od2, fd2, sl2, hm2⟩ := S.fput _ _ _ h0
  (repeat' ( (fail_if_success (with_reducible show InvEndN _ _ _ _ _ _ _)); (fail_if_success (with_reducible show KswEnd _ _ _ _ _ _ _ _ _ _ _ _)); (fail_if_success (with_reducible show wpAny _ _ (exec (Stmt.While _ _ _ _) _) _ _ _)); (fail_if_success (with_reducible show wpAny _ _ (exec (Stmt.FunctionDef _ _ _ _ _ _ _ _ _ _) _) _ _ _)); (fail_if_success (with_reducible show wpAny _ _ (call (Value.ref _) _) _ _ _)); first | (k_unfold; (try dsimp only)) | (k_end; wrow_close) | walk1 | (dsimp only; walk1) | (leave1; walk_say "STEP leave1"; try dsimp only) | fail "no step"))
  · rename Fr h₀ _ _ _ => kF
    rename News h₀ _ _ _ => kN
    rename Fr g' _ _ _ => F4
    rename News g' _ _ _ => N4
    rename (∀ (p : Addr × Obj), p ∈ own → p.1 < _) => l2
    exact hret _ _ _ _ kF kN ⟨_, _, _, _, rfl, rfl, fun p hp => Nat.ne_of_lt (l2 p hp), .inl ⟨by omega, rfl, rfl, h0⟩⟩ (left_of hg F4 N4)
  · rename Fr h₀ _ _ _ => kF
    rename News h₀ _ _ _ => kN
    rename Fr g' _ _ _ => F4
    rename News g' _ _ _ => N4
    rename (∀ (p : Addr × Obj), p ∈ own → p.1 < _) => l2
    exact hret _ _ _ _ kF kN ⟨_, _, _, _, rfl, rfl, fun p hp => Nat.ne_of_lt (l2 p hp), .inl ⟨by omega, rfl, rfl, h0⟩⟩ (left_of hg F4 N4)
  have hq1 : 1 ≤ pos := by omega
  have hq2 : pos ≤ border := by omega
  refine callc_use (S.get _ _ _ pos _ h0) (by k_asm) (by k_asm) (by k_asm) (by k_asm) (by k_asm) rfl (by ktr_room) (by ktr_units) ?_
  rintro r own2 h2 tk2 F2 N2 ⟨rfl, hI2⟩ hl
  (try dsimp only)
  clear hm1 hm2
  (repeat' ( (fail_if_success (with_reducible show InvEndN _ _ _ _ _ _ _)); (fail_if_success (with_reducible show KswEnd _ _ _ _ _ _ _ _ _ _ _ _)); (fail_if_success (with_reducible show wpAny _ _ (exec (Stmt.While _ _ _ _) _) _ _ _)); (fail_if_success (with_reducible show wpAny _ _ (exec (Stmt.FunctionDef _ _ _ _ _ _ _ _ _ _) _) _ _ _)); (fail_if_success (with_reducible show wpAny _ _ (call (Value.ref _) _) _ _ _)); first | (k_unfold; (try dsimp only)) | (k_end; wrow_close) | walk1 | (dsimp only; walk1) | (leave1; walk_say "STEP leave1"; try dsimp only) | fail "no step"))
  rename Fr g' _ _ _ => F3
  rename News g' _ _ _ => N3
  with_unfolding_all refine' ksw_while (σ := Int × Tok × (Int → Value) × List Int × List (Addr × Obj)) (fun c => c.2.2.2.2) (fun c => [(Str.ofString "at", Value.int c.1 c.2.1)]) (fun _ => True) [] (fun c => I c.2.2.1 c.2.2.2.1 c.2.2.2.2 ∧ c.2.2.1 = remMid g0 pos c.1 ∧ pos ≤ c.1 ∧ c.1 ≤ border ∧ c.2.2.2.1 = rangeInts pos 1 (c.1 - pos).toNat) (fun c => (border - c.1).toNat) (pos, _, g0, [], own2) F3 N3 trivial ?k1 ?k2 ?_
  case k1 => kst_all
  case k2 =>
    dsimp only
    refine ⟨hI2, ?_, Int.le_refl _, hq2, ?_⟩
    · funext k
      unfold remMid
      rw [if_neg (by omega)]
    · rw [show (pos - pos).toNat = 0 by omega]
      rfl
  rintro ⟨c, tc, g, sn, own9⟩ u9 h9 tq9 - ⟨hI, hg9, hc1, hc2, hsn⟩ F9 N9
  dsimp only at hI hg9 hc1 hc2 hsn F9 N9
  clear F3 N3
  have hsl : sn.length ≤ 40 := by rw [hsn, rangeInts_length]; omega
  obtain ⟨oc, od, fd, sl, hm1⟩ := S.fget _ _ _ hI
  obtain ⟨oc2, od2, fd2, sl2, hm2⟩ := S.fput _ _ _ hI
  (repeat' ( (fail_if_success (with_reducible show InvEndN _ _ _ _ _ _ _)); (fail_if_success (with_reducible show KswEnd _ _ _ _ _ _ _ _ _ _ _ _)); (fail_if_success (with_reducible show wpAny _ _ (exec (Stmt.While _ _ _ _) _) _ _ _)); (fail_if_success (with_reducible show wpAny _ _ (exec (Stmt.FunctionDef _ _ _ _ _ _ _ _ _ _) _) _ _ _)); (fail_if_success (with_reducible show wpAny _ _ (call (Value.ref _) _) _ _ _)); first | (k_unfold; (try dsimp only)) | (k_end; wrow_close) | walk1 | (dsimp only; walk1) | (leave1; walk_say "STEP leave1"; try dsimp only) | fail "no step"))
  · refine callc_use (S.get _ _ _ (c + 1) _ hI) (by k_asm) (by k_asm) (by k_asm) (by k_asm) (by k_asm) rfl (by ktr_room) (by ktr_units) ?_
    rintro r own2 h2 tk2 F2 N2 ⟨rfl, hI2⟩ hl
    (try dsimp only)
    clear hm1 hm2
    obtain ⟨oc, od, fd, sl, hm1⟩ := S.fget _ _ _ hI2
    obtain ⟨oc2, od2, fd2, sl2, hm2⟩ := S.fput _ _ _ hI2
    (repeat' ( (fail_if_success (with_reducible show InvEndN _ _ _ _ _ _ _)); (fail_if_success (with_reducible show KswEnd _ _ _ _ _ _ _ _ _ _ _ _)); (fail_if_success (with_reducible show wpAny _ _ (exec (Stmt.While _ _ _ _) _) _ _ _)); (fail_if_success (with_reducible show wpAny _ _ (exec (Stmt.FunctionDef _ _ _ _ _ _ _ _ _ _) _) _ _ _)); (fail_if_success (with_reducible show wpAny _ _ (call (Value.ref _) _) _ _ _)); first | (k_unfold; (try dsimp only)) | (k_end; wrow_close) | walk1 | (dsimp only; walk1) | (leave1; walk_say "STEP leave1"; try dsimp only) | fail "no step"))
    refine callc_use (S.put _ _ _ c _ (g (c + 1)) hI2 (S.vals _ _ _ hI2 _) (by omega) (by omega) (by omega)) (by k_asm) (by k_asm) (by k_asm) (by k_asm) (by k_asm) rfl (by ktr_room) (by ktr_units) ?_
    rintro r own3 h3 tk3 F3 N3 hI3 hl3
    (try dsimp only)
    clear hm1 hm2
    (repeat' ( (fail_if_success (with_reducible show InvEndN _ _ _ _ _ _ _)); (fail_if_success (with_reducible show KswEnd _ _ _ _ _ _ _ _ _ _ _ _)); (fail_if_success (with_reducible show wpAny _ _ (exec (Stmt.While _ _ _ _) _) _ _ _)); (fail_if_success (with_reducible show wpAny _ _ (exec (Stmt.FunctionDef _ _ _ _ _ _ _ _ _ _) _) _ _ _)); (fail_if_success (with_reducible show wpAny _ _ (call (Value.ref _) _) _ _ _)); first | (k_unfold; (try dsimp only)) | (k_end; wrow_close) | walk1 | (dsimp only; walk1) | (leave1; walk_say "STEP leave1"; try dsimp only) | fail "no step"))
    rename Fr g' _ _ _ => F4
    rename News g' _ _ _ => N4
    refine ksw_end (c + 1, _, _, _, own3) F4 N4 (fun p hp => hp) trivial (by kst_all) (fun z h2 h3 => ?_) ⟨hI3, ?_, by dsimp only; omega, by dsimp only; omega, ?_⟩ (by dsimp only; omega)
    · have e1 : z ≠ Str.ofString "at" := h2 _ (.head _)
      simp [kstB, e1]
    · subst hg9
      exact setF_remMid (by omega)
    · dsimp only
      rw [hsn, show (c + 1 - pos).toNat = (c - pos).toNat + 1 by omega, rangeInts_snoc]
      congr 2
      omega
  · have ec : c = border := by omega
    refine callc_use (S.put _ _ _ border _ .none hI (.inl rfl) (by omega) (by omega) (by omega)) (by k_asm) (by k_asm) (by k_asm) (by k_asm) (by k_asm) rfl (by ktr_room) (by ktr_units) ?_
    rintro r own3 h3 tk3 F3 N3 hI3 hl3
    (try dsimp only)
    clear hm1 hm2
    have hlt : ∀ p ∈ own3, p.1 ≠ L' → True := fun _ _ _ => trivial
    (repeat' ( (fail_if_success (with_reducible show InvEndN _ _ _ _ _ _ _)); (fail_if_success (with_reducible show KswEnd _ _ _ _ _ _ _ _ _ _ _ _)); (fail_if_success (with_reducible show wpAny _ _ (exec (Stmt.While _ _ _ _) _) _ _ _)); (fail_if_success (with_reducible show wpAny _ _ (exec (Stmt.FunctionDef _ _ _ _ _ _ _ _ _ _) _) _ _ _)); (fail_if_success (with_reducible show wpAny _ _ (call (Value.ref _) _) _ _ _)); first | (k_unfold; (try dsimp only)) | (k_end; wrow_close) | walk1 | (dsimp only; walk1) | (leave1; walk_say "STEP leave1"; try dsimp only) | fail "no step"))
    rename Fr h₀ _ _ _ => kF
    rename News h₀ _ _ _ => kN
    rename Fr g' _ _ _ => F4
    rename News g' _ _ _ => N4
    rename (∀ (p : Addr × Obj), p ∈ own3 → p.1 < _) => l2
    refine hret _ _ _ _ kF kN ⟨_, _, _, _, rfl, rfl, fun p hp => Nat.ne_of_lt (l2 p hp), .inr ⟨hq1, hq2, rfl, rfl, ?_⟩⟩ (left_of hg F4 N4)
    subst hg9
    subst hsn
    subst ec
    have e : rangeInts pos 1 (c + 1 - pos).toNat = rangeInts pos 1 (c - pos).toNat ++ [c] := by
      rw [show (c + 1 - pos).toNat = (c - pos).toNat + 1 by omega, rangeInts_snoc]
      congr 2
      omega
    rw [e]
    exact hI3
end
section
local macro_rules | `(tactic| walk_at "my enter") => `(tactic| (
  refine' code_defF ?k1 ?k2 ?k3 ?k4 ?k5 ?kA ?kF ?kK ?k6 ?k7 ?k8 ?k9 ?kB ?_ ?c2 ?c3 ?c4 ?c5; (case kA => exact rfl); (case kF => exact rfl); (case kK => assumption); (case k1 => k_asm); (case k2 => k_asm); (case k3 => k_asm); (case k4 => k_asm); (case k5 => k_asm); (case k6 => k_is); (case k7 => k_is); (case k8 => k_room); (case k9 => exact BindsTo.of_eq rfl); (case c5 => decide); (case kB => exact locs rfl); (case c2 => exact rfl); (case c3 => exact rfl); (case c4 => exact rfl); k_whole; intro g' L' h' hgs' FG' F' N' B' X' T' l1; (try k_lt l1); (try dsimp only); (try k_fold)))
local macro_rules | `(tactic| walk_at "my use") => `(tactic| (refine' callc_use ?C ?B ?F ?X ?N ?T ?k ?d ?u ?r; (case B => k_asm); (case F => k_asm); (case X => k_asm); (case N => k_asm); (case T => k_asm); (case k => exact rfl); (case d => ktr_room); (case u => ktr_units)))

local macro_rules | `(tactic| walk_at "callWith ref") => `(tactic| (k_dflt (refine' callWith_F ?k1 ?_; (case k1 => assumption); k_whole)))
local macro_rules | `(tactic| walk_at "callWith ref nil nil") => `(tactic| (k_dflt (refine' callWith_F0 ?k1 ?_; (case k1 => assumption); k_whole; try dsimp only [List.nil_append, List.cons_append])))
local macro_rules | `(tactic| walk_at "FnAt") => `(tactic| assumption)
theorem asked_c (w : World) (need : Nat) (f : Addr) (border : Int) (tb : Tok) (I : Int → List (Addr × Obj) → Prop) (yes : Int → Bool) (found : Array UInt8) (hfound : 0 < found.size) (hfound2 : found.size ≤ 1000) (own : List (Addr × Obj)) (h0 : I 1 own) (hb : 0 ≤ border) (hb2 : border < 2 ^ 60)
    (hfn : ∀ k own, I k own → ∃ oc od fd sl, (f, (⟨oc, od, .func fd, sl⟩ : Obj)) ∈ own)
    (hask : ∀ k t own, I k own → 1 ≤ k → k ≤ border → CallC w need (.ref f) [.int k t] own (fun r own' => I (k + 1) own' ∧ if yes k = true then ∃ t', r = .bytes found t' else r = .none)) :
    CallC w (need + 2) (.ref 49) [.ref f, .int border tb] own (fun r own' =>
      (∃ k t, r = .int k t ∧ 1 ≤ k ∧ k ≤ border ∧ yes k = true ∧ (∀ j, 1 ≤ j → j < k → yes j = false) ∧ I (k + 1) own') ∨
      (r = .none ∧ (∀ j, 1 ≤ j → j ≤ border → yes j = false) ∧ I (border + 1) own')) := by
  unfold CallC
  k_fill
  intro p loose mean mg mb dp un gd cn cs a ccd cl outer A₀ base h₀ L m s Q E B F X N T hk hdp hun hret
  refine wpAny_call ?_
  walk_at "my enter"
  rename (∀ (b : Addr) (o : Obj), _ → _ → _) => hg
  (repeat' ((fail_if_success (with_reducible show InvEndN _ _ _ _ _ _ _)); (fail_if_success (with_reducible show KswEnd _ _ _ _ _ _ _ _ _ _ _ _)); (fail_if_success (with_reducible show wpAny _ _ (exec (Stmt.While _ _ _ _) _) _ _ _)); first | (k_unfold; (try dsimp only)) | (k_end; wrow_close) | walk1 | (dsimp only; walk1) | (leave1; walk_say "STEP leave1"; try dsimp only) | fail "no step"))
  rename Fr _ _ _ _ => F1
  rename News _ _ _ _ => N1
  with_unfolding_all refine' ksw_while (σ := Int × Tok × List (Addr × Obj)) (fun c => c.2.2) (fun c => [(Str.ofString "at", Value.int c.1 c.2.1)]) (fun _ => True) [] (fun c => I c.1 c.2.2 ∧ 1 ≤ c.1 ∧ c.1 ≤ border + 1 ∧ ∀ j, 1 ≤ j → j < c.1 → yes j = false) (fun c => (border + 1 - c.1).toNat) (1, _, own) F1 N1 trivial ?k1 ?k2 ?_
  case k1 => kst_all
  case k2 => exact ⟨h0, by omega, by omega, fun j h1 h2 => by omega⟩
  rintro ⟨k, tk9, own9⟩ u9 h9 tq9 - ⟨hI, hk1, hk2, hno⟩ F9 N9
  dsimp only at hI hk1 hk2 hno F9 N9
  clear F1 N1
  (try k_fold)
  have hF9 : FnAt f h9 := by
    obtain ⟨oc, od, fd, sl, hm⟩ := hfn k own9 hI
    exact FnAt.of N9 hm
  (repeat' ((fail_if_success (with_reducible show InvEndN _ _ _ _ _ _ _)); (fail_if_success (with_reducible show KswEnd _ _ _ _ _ _ _ _ _ _ _ _)); (fail_if_success (with_reducible show wpAny _ _ (exec (Stmt.While _ _ _ _) _) _ _ _)); first | (k_unfold; (try dsimp only)) | (k_end; wrow_close) | walk1 | (dsimp only; walk1) | (leave1; walk_say "STEP leave1"; try dsimp only) | fail "no step"))
  · refine' callc_use (hask k tk9 own9 hI hk1 (by omega)) ?B ?F ?X ?N ?T ?k ?d ?u ?r
    case B => k_asm
    case F => k_asm
    case X => k_asm
    case N => k_asm
    case T => k_asm
    case k => exact rfl
    case d => ktr_room
    case u => ktr_units
    intro r own1 h1 tk1 F' N' hp hl
    obtain ⟨hI1, hr⟩ := hp
    (try dsimp only)
    cases hy : yes k with
    | true =>
      rw [hy] at hr
      obtain ⟨t', rfl⟩ := hr
      have hne : ((found.size : Int) != 0) = true := by rw [bne_iff_ne]; omega
      (repeat' ((fail_if_success (with_reducible show InvEndN _ _ _ _ _ _ _)); (fail_if_success (with_reducible show KswEnd _ _ _ _ _ _ _ _ _ _ _ _)); (fail_if_success (with_reducible show wpAny _ _ (exec (Stmt.While _ _ _ _) _) _ _ _)); first | (k_unfold; (try dsimp only)) | (k_end; wrow_close) | walk1 | (dsimp only; walk1) | (leave1; walk_say "STEP leave1"; try dsimp only) | fail "no step"))
      rename Fr h₀ _ _ _ => kF
      rename News h₀ _ _ _ => kN
      exact hret _ own1 _ _ kF kN (Or.inl ⟨k, tk9, rfl, hk1, by omega, hy, hno, hI1⟩) (left_of hg F' N')
    | false =>
      rw [hy] at hr
      have hr' : r = .none := hr
      subst hr'
      (repeat' ((fail_if_success (with_reducible show InvEndN _ _ _ _ _ _ _)); (fail_if_success (with_reducible show KswEnd _ _ _ _ _ _ _ _ _ _ _ _)); (fail_if_success (with_reducible show wpAny _ _ (exec (Stmt.While _ _ _ _) _) _ _ _)); first | (k_unfold; (try dsimp only)) | (k_end; wrow_close) | walk1 | (dsimp only; walk1) | (leave1; walk_say "STEP leave1"; try dsimp only) | fail "no step"))
      rename Fr _ _ _ _ => F2
      rename News _ _ _ _ => N2
      refine ksw_end (k + 1, _, own1) F2 N2 (fun p hp => hp) trivial (by kst_all) (fun z h2 h3 => by simp [kstB, show z ≠ Str.ofString "at" from h2 _ (.head _)]) ⟨hI1, by dsimp only; omega, by dsimp only; omega, fun j h1 h2 => ?_⟩ (by dsimp only; omega)
      dsimp only at h2
      rcases Int.lt_or_le j k with h3 | h3
      · exact hno j h1 h3
      · have : j = k := by omega
        rw [this]; exact hy
  · rename Fr h₀ _ _ _ => kF
    rename News h₀ _ _ _ => kN
    have ek : k = border + 1 := by omega
    exact hret .none own9 _ _ kF kN (Or.inr ⟨rfl, fun j h1 h2 => hno j h1 (by omega), ek ▸ hI⟩) (left_of hg F9 N9)
end
end
section
local macro_rules | `(tactic| k_room) => `(tactic| ktr_room)
local macro_rules | `(tactic| k_units) => `(tactic| ktr_units)
local macro_rules | `(tactic| k_all) => `(tactic| first | exact all_ne_of (by assumption) (by (try dsimp only); omega) | exact all_ne_of' (by assumption) (by (try dsimp only); omega))
local macro_rules | `(tactic| walk_at "callWith ref") => `(tactic| (k_here; k_dflt (refine' callWith_K ?k1 ?k2 ?_; (case k1 => k_asm); (case k2 => k_is); k_whole)))
local macro_rules | `(tactic| walk_at "eval Name") => `(tactic| (k_here; k_dflt (first
  | (refine' nameX_L ?F ?v ?_ ?a ?b; (case F => k_asm); (case a => rfl); (case b => rfl); (case v => rfl); k_whole)
  | (refine' nameX_K ?F ?X ?T ?e ?_ ?a ?b; (case F => k_asm); (case X => k_asm); (case T => k_asm); (case a => rfl); (case b => rfl); (case e => k_is); k_whole))))
local macro_rules | `(tactic| walk_at "my enter C") => `(tactic| (
  refine' code_defCF ?k1 ?k2 ?k3 ?k4 ?k5 ?kA ?kF ?kK ?k6 ?k7 ?k8 ?k9 ?kB ?kD ?_ ?c2 ?c3 ?c4; (case kA => exact rfl); (case kF => exact rfl); (case kK => assumption); (case k1 => k_asm); (case k2 => k_asm); (case k3 => k_asm); (case k4 => k_asm); (case k5 => k_asm); (case k6 => k_is); (case k7 => k_is); (case k8 => k_room); (case k9 => exact BindsTo.of_eq rfl); (case kB => exact rfl); (case kD => decide +kernel); (case c2 => exact rfl); (case c3 => exact rfl); (case c4 => exact rfl); k_whole; intro g' L' h' tk' cells' hgs' FG' F' N' Y' B' X' T' l1; (try k_lt l1); k_cells Y'; (try dsimp only [List.cons_append, List.nil_append] at N'); (try dsimp only); (try k_fold)))
section
def ups (k : Int) : List Int := rangeInts 1 1 (k - 1).toNat
theorem ups_succ {k : Int} (h : 1 ≤ k) : ups (k + 1) = ups k ++ [k] := by
  unfold ups
  obtain ⟨n, rfl⟩ : ∃ n : Nat, k = (n : Int) + 1 := ⟨(k - 1).toNat, by omega⟩
  have e1 : ((n : Int) + 1 + 1 - 1).toNat = n + 1 := by omega
  have e2 : ((n : Int) + 1 - 1).toNat = n := by omega
  rw [e1, e2, rangeInts_snoc]
  congr 2
  omega
theorem ups_ks (k : Int) : ups (k + 1) = rangeKs 1 (k + 1 - 1).toNat := by
  simp [ups, rangeInts, rangeKs]
theorem asked_right (w : World) (border stop : Int) (t u : Tok) (tab : List (Addr × Obj)) (hb : 0 ≤ border) (hb2 : border ≤ 40) (htab : Tab1 98 98 4 (Str.ofString "_law_asked_right.<locals>.ask") tab) :
    CallC w 9 (.ref 103) [.int border t, .int stop u] tab (fun r own' => r = .bool true ∧ Tab1 98 98 4 (Str.ofString "_law_asked_right.<locals>.ask") own') := by
  unfold CallC
  k_fill
  intro p loose mean mg mb dp un gd cn cs a ccd cl outer A₀ base h₀ L m s Q E B F X N T hk hdp hun hret
  refine wpAny_call ?_
  walk_at "my enter C"
  (try k_fold)
  rename Frag.In _ _ => X1
  have C1 := codeHd_of_K (c := 102) (P := 98) X1 (by kernel_rfl)
  rename (∀ (b : Addr) (o : Obj), _ → _ → _) => hg
  rename Top _ _ _ _ _ _ => T1
  (repeat' ( (fail_if_success (with_reducible show InvEndN _ _ _ _ _ _ _)); (fail_if_success (with_reducible show KswEnd _ _ _ _ _ _ _ _ _ _ _ _)); (fail_if_success (with_reducible show wpAny _ _ (exec (Stmt.While _ _ _ _) _) _ _ _)); (fail_if_success (with_reducible show wpAny _ _ (exec (Stmt.FunctionDef _ _ _ _ _ _ _ _ _ _) _) _ _ _)); (fail_if_success (with_reducible show wpAny _ _ (call (Value.ref _) _) _ _ _)); first | (k_unfold; (try dsimp only)) | (k_end; wrow_close) | walk1 | (dsimp only; walk1) | (leave1; walk_say "STEP leave1"; try dsimp only) | fail "no step"))
  rename Fr _ _ _ _ => F1
  rename News _ _ _ _ => N1
  refine' nestDef_K ?d0 ?k0 ?a0 ?_
  case d0 => exact rfl
  case k0 => exact rfl
  case a0 => exact rfl
  refine' nest1 (P := 98) (pre := [_, _, _]) (tab := tab) F1 N1 T1 C1 ?cd htab ?hs ?cl ?_
  case cd => exact rfl
  case cl => exact rfl
  case hs =>
    refine sep_tab N1 htab.fields ?_
    intro q hq vs e
    simp only [List.mem_cons, List.not_mem_nil, or_false] at hq
    rcases hq with rfl | rfl | rfl <;> simp_all
  intro f c' oc vs tt ctv doc h1 tk1 F2 N2 hdd hv hpre hPf hcf hPc
  dsimp only [List.cons_append, List.nil_append] at N2
  generalize hfo : fnMade _ _ _ _ _ _ _ _ _ _ = fo at N2
  (repeat' ( (fail_if_success (with_reducible show InvEndN _ _ _ _ _ _ _)); (fail_if_success (with_reducible show KswEnd _ _ _ _ _ _ _ _ _ _ _ _)); (fail_if_success (with_reducible show wpAny _ _ (exec (Stmt.While _ _ _ _) _) _ _ _)); (fail_if_success (with_reducible show wpAny _ _ (exec (Stmt.FunctionDef _ _ _ _ _ _ _ _ _ _) _) _ _ _)); (fail_if_success (with_reducible show wpAny _ _ (call (Value.ref _) _) _ _ _)); first | (k_unfold; (try dsimp only)) | (k_end; wrow_close) | walk1 | (dsimp only; walk1) | (leave1; walk_say "STEP leave1"; try dsimp only) | fail "no step"))
  rename_i g' L' hx0 tkx FG' B' la oA oB dA dB l' hx1 lb hx2 o1 d1 hx3 F3 N3
  replace dB : oB.data = .cell (some (.int stop u)) := dB
  have hcl : @Ne Nat c' l' ∧ @Ne Nat c' (L' + 1 + 1) ∧ @Ne Nat c' (L' + 1) := ⟨(hpre (l', W.listOf #[] 0) (by walk_at "mem")).2.symm, (hpre (L' + 1 + 1, o1) (by walk_at "mem")).2.symm, (hpre (L' + 1, oB) (by walk_at "mem")).2.symm⟩
  have hfl : @LT.lt Nat _ l' f := (hpre (l', W.listOf #[] 0) (by walk_at "mem")).1
  have hP : @LT.lt Nat _ 98 L' := by
    rcases htab with rfl | ⟨_, _, _, _, rfl, _⟩
    · exact la _ (.head _)
    · exact la _ (.head _)
  replace hcf := ltN hcf
  replace hPf := ltN hPf
  replace hPc := neN hPc
  refine' callc_use (asked_c w 4 f border t (fun k own => ∃ vs n, own = [(f, fo), (c', oc), (l', W.listOf (List.toArray vs) n), (L' + 1 + 1, o1), (L' + 1, oB), (98, tabObj #[rawInt 98, rawInt 4, .ref c'])] ∧ IntsAre vs (ups k)) (fun k => decide (k = stop)) #[102, 111, 117, 110, 100] (by decide) (by decide) _ ⟨[], 0, rfl, (by exact IntsAre.nil)⟩ hb (by omega) ?hfn ?hask) ?B ?F ?X ?N ?T ?k ?d ?u ?r
  case B => k_asm
  case F => exact F3
  case X => k_asm
  case N => exact N3
  case T => k_asm
  case k => exact rfl
  case d => ktr_room
  case u => ktr_units
  case hfn =>
    rintro k own ⟨vs, n, rfl, -⟩
    subst hfo
    exact ⟨_, _, _, _, .head _⟩
  case hask =>
    rintro k tk0 own ⟨vs, n, rfl, hI⟩ h1 h2
    clear FG' B' la hret hg F3 N3 B F X N T X1 C1 T1
    unfold CallC
    intro p loose mean mg mb dp un gd cn cs a ccd cl outer A₀ base h₀ L m s Q E B F X N T hk hdp hun hret
    refine wpAny_call ?_
    subst hfo
    refine' code_nestF B F X N T ?kA ?kF ?kK (.head _) (codeRec_news N (.tail _ (.head _)) hdd hv) ?k8 ?k9 ?kB ?_ ?c2 ?c3 ?c4 ?c5
    case kA => exact rfl
    case kF => exact rfl
    case kK => exact hk
    case k8 => ktr_room
    case k9 => exact BindsTo.of_eq rfl
    case kB => exact locs rfl
    case c2 => exact rfl
    case c3 => exact rfl
    case c4 => exact rfl
    case c5 => decide
    intro g1 L1 h1 hg1 FG1 F1 N1 B1 X1 T1 la
    dsimp only
    k_fold
    k_lt la
    have C1 := codeHd_of_K (c := 102) (P := 98) X1 (by kernel_rfl)
    obtain ⟨lb1, lb2, -⟩ := lb
    have hlen : vs.length ≤ 100 := by rw [hI.length, ups, rangeInts_length]; omega
    (repeat' ( (fail_if_success (with_reducible show InvEndN _ _ _ _ _ _ _)); (fail_if_success (with_reducible show KswEnd _ _ _ _ _ _ _ _ _ _ _ _)); (fail_if_success (with_reducible show wpAny _ _ (exec (Stmt.While _ _ _ _) _) _ _ _)); (fail_if_success (with_reducible show wpAny _ _ (exec (Stmt.FunctionDef _ _ _ _ _ _ _ _ _ _) _) _ _ _)); (fail_if_success (with_reducible show wpAny _ _ (call (Value.ref _) _) _ _ _)); first | (k_unfold; (try dsimp only)) | (k_end; wrow_close) | walk1 | (dsimp only; walk1) | (leave1; walk_say "STEP leave1"; try dsimp only) | fail "no step"))
    all_goals (
      rename Fr h₀ _ _ _ => kF
      rename News h₀ _ _ _ => kN
      rename Fr g1 _ _ _ => F2
      rename News g1 _ _ _ => N2
      refine hret _ _ _ _ kF kN ⟨⟨vs ++ [.int k tk0], n + 1, by simp, ?_⟩, ?_⟩ (left_of hg1 F2 N2)
      · rw [ups_succ (by assumption)]
        exact hI.append (.cons k _ .nil)
      · first
        | (rw [if_pos (by simpa using ‹k = stop›)]; exact ⟨_, rfl⟩)
        | (rw [if_neg (by simpa using ‹¬ k = stop›)]))
  case r =>
    intro r own1 h1 tk1 F4 N4 hp hl
    (try dsimp only)
    rcases hp with ⟨k, t9, rfl, hk1, hk2, hy, hno, vs9, n9, rfl, hI9⟩ | ⟨rfl, hno, vs9, n9, rfl, hI9⟩
    all_goals (repeat' ( (fail_if_success (with_reducible show InvEndN _ _ _ _ _ _ _)); (fail_if_success (with_reducible show KswEnd _ _ _ _ _ _ _ _ _ _ _ _)); (fail_if_success (with_reducible show wpAny _ _ (exec (Stmt.While _ _ _ _) _) _ _ _)); (fail_if_success (with_reducible show wpAny _ _ (exec (Stmt.FunctionDef _ _ _ _ _ _ _ _ _ _) _) _ _ _)); (fail_if_success (with_reducible show wpAny _ _ (call (Value.ref _) _) _ _ _)); first | (k_unfold; (try dsimp only)) | (k_end; wrow_close) | walk1 | (dsimp only; walk1) | (leave1; walk_say "STEP leave1"; try dsimp only) | fail "no step"))
    all_goals (
      rename Fr h₀ _ _ _ => kF
      rename News h₀ _ _ _ => kN
      rename Fr g' _ _ _ => F2
      rename News g' _ _ _ => N2
      refine hret _ [(98, tabObj #[rawInt 98, rawInt 4, .ref c']), (c', oc)] _ _ kF (less kN (by walk_at "sub")) ⟨?_, .inr ⟨c', oc, _, tt, rfl, hdd, hv⟩⟩ (left_of hg F2 (less N2 (by walk_at "sub"))))
    all_goals first
      | (have e := of_decide_eq_true hy; rw [e, ups_ks, decide_eq_true rfl])
      | (have e := of_decide_eq_true hy; rw [e, beq_self_eq_true])
      | (exfalso; have e := of_decide_eq_false (hno stop (by omega) (by omega)); exact e rfl)
      | (rw [ups_ks, decide_eq_true rfl])
end
section

theorem maxL_spec : ∀ (ns : List Int) (g : Int), maxL ns g ∈ g :: ns ∧ ∀ a ∈ g :: ns, a ≤ maxL ns g
  | [], g => ⟨.head _, fun a ha => by rw [List.mem_singleton.mp ha]; exact Int.le_refl _⟩
  | n :: r, g => by
    have ih := maxL_spec r (if n > g then n else g)
    have e : maxL (n :: r) g = maxL r (if n > g then n else g) := rfl
    rw [e]
    refine ⟨?_, fun a ha => ?_⟩
    · rcases List.mem_cons.mp ih.1 with h | h
      · rw [h]
        split
        · exact .tail _ (.head _)
        · exact .head _
      · exact .tail _ (.tail _ h)
    · have h0 := ih.2 _ (.head _)
      rcases List.mem_cons.mp ha with rfl | ha
      · split at h0 <;> split <;> omega
      · rcases List.mem_cons.mp ha with rfl | ha
        · split at h0 <;> split <;> omega
        · exact ih.2 a (.tail _ ha)
theorem maxL_eq {ns : List Int} {M : Int} (h1 : M ∈ [0] ++ ns) (h2 : ∀ a ∈ [0] ++ ns, a ≤ M) : maxL ns 0 = M := by
  have h := maxL_spec ns 0
  exact Int.le_antisymm (h2 _ h.1) (h.2 _ h1)
local macro_rules | `(tactic| walk_at "call builtin:list.pop") => `(tactic| (k_dflt (refine' pop0 ?F ?N ?U ?z ?_; (case F => k_asm); (case N => k_asm); (case U => k_upd); (case z => (simp only [List.length_append, List.length_cons, List.length_nil] at *; omega)); k_whole); intro h' F' N'))
theorem greatest_right (w : World) (q : Addr) (vs : List Value) (ns : List Int) (nn : Nat) (tab : List (Addr × Obj)) (hvs : IntsAre vs ns) (hlen : ns.length ≤ 40) (htab : Tab1 91 92 4 (Str.ofString "_law_greatest_right.<locals>.further") tab) :
    CallC w 9 (.ref 96) [.ref q] ((q, W.listOf vs.toArray nn) :: tab) (fun r own' => r = .bool true ∧ Tab1 91 92 4 (Str.ofString "_law_greatest_right.<locals>.further") own') := by
  unfold CallC
  k_fill
  intro p loose mean mg mb dp un gd cn cs a ccd cl outer A₀ base h₀ L m s Q E B F X N T hk hdp hun hret
  refine wpAny_call ?_
  walk_at "my enter C"
  (try k_fold)
  rename Frag.In _ _ => X1
  have C1 := codeHd_of_K (c := 95) (P := 91) X1 (by kernel_rfl)
  rename (∀ (b : Addr) (o : Obj), _ → _ → _) => hg
  rename Top _ _ _ _ _ _ => T1
  (repeat' ( (fail_if_success (with_reducible show InvEndN _ _ _ _ _ _ _)); (fail_if_success (with_reducible show KswEnd _ _ _ _ _ _ _ _ _ _ _ _)); (fail_if_success (with_reducible show wpAny _ _ (exec (Stmt.While _ _ _ _) _) _ _ _)); (fail_if_success (with_reducible show wpAny _ _ (exec (Stmt.FunctionDef _ _ _ _ _ _ _ _ _ _) _) _ _ _)); (fail_if_success (with_reducible show wpAny _ _ (call (Value.ref _) _) _ _ _)); first | (k_unfold; (try dsimp only)) | (k_end; wrow_close) | walk1 | (dsimp only; walk1) | (leave1; walk_say "STEP leave1"; try dsimp only) | fail "no step"))
  have hvl : vs.length ≤ 40 := by rw [hvs.length]; exact hlen
  refine' kmk_add_lit (zs := vs ++ [Value.none, .int _ _]) ?F ?N ?a ?b ?e ?_ ?z
  case F => k_asm
  case N => k_asm
  case a => kmk_list
  case b => kmk_list
  case e => (try simp only [List.toList_toArray]); rfl
  case z => rw [sizeLine_eq]; simp; omega
  intro l9 h9 F9 N9 lt9
  k_lt lt9
  (repeat' ( (fail_if_success (with_reducible show InvEndN _ _ _ _ _ _ _)); (fail_if_success (with_reducible show KswEnd _ _ _ _ _ _ _ _ _ _ _ _)); (fail_if_success (with_reducible show wpAny _ _ (exec (Stmt.While _ _ _ _) _) _ _ _)); (fail_if_success (with_reducible show wpAny _ _ (exec (Stmt.FunctionDef _ _ _ _ _ _ _ _ _ _) _) _ _ _)); (fail_if_success (with_reducible show wpAny _ _ (call (Value.ref _) _) _ _ _)); first | (k_unfold; (try dsimp only)) | (k_end; wrow_close) | walk1 | (dsimp only; walk1) | (leave1; walk_say "STEP leave1"; try dsimp only) | fail "no step"))
  rename_i g' L' hx0 tk0 FG' B' la oA dA D' cD hx1 lb l' hx2 lc hx3 o1 F3 N3 d1
  obtain ⟨X, hX⟩ : ∃ X, X = Value.int (10 ^ Int.toNat 9) (tk0 + 1 + 1) := ⟨_, rfl⟩
  rw [← hX] at N3
  have N4 : News g' L' hx3 ([(l9, W.listOf (vs ++ [Value.none, X]).toArray 0), (L' + 1, o1), (q, W.listOf vs.toArray nn)] ++ tab) := less N3 (by walk_at "sub")
  refine' nestDef_K ?d0 ?k0 ?a0 ?_
  case d0 => exact rfl
  case k0 => exact rfl
  case a0 => exact rfl
  refine' nest1 (P := 91) F3 N4 T1 C1 ?cd htab ?hs ?cl ?_
  case cd => exact rfl
  case cl => exact rfl
  case hs =>
    refine sep_tab N4 htab.fields ?_
    intro q hq vs e
    simp only [List.mem_cons, List.not_mem_nil, or_false] at hq
    rcases hq with rfl | rfl | rfl <;> simp_all
  intro f c' oc ws tt ctv doc h1 tk1 F2 N2 hdd hv hpre hPf hcf hPc
  dsimp only [List.cons_append, List.nil_append] at N2
  generalize hfo : fnMade _ _ _ _ _ _ _ _ _ _ = fo at N2
  (repeat' ( (fail_if_success (with_reducible show InvEndN _ _ _ _ _ _ _)); (fail_if_success (with_reducible show KswEnd _ _ _ _ _ _ _ _ _ _ _ _)); (fail_if_success (with_reducible show wpAny _ _ (exec (Stmt.While _ _ _ _) _) _ _ _)); (fail_if_success (with_reducible show wpAny _ _ (exec (Stmt.FunctionDef _ _ _ _ _ _ _ _ _ _) _) _ _ _)); (fail_if_success (with_reducible show wpAny _ _ (call (Value.ref _) _) _ _ _)); first | (k_unfold; (try dsimp only)) | (k_end; wrow_close) | walk1 | (dsimp only; walk1) | (leave1; walk_say "STEP leave1"; try dsimp only) | fail "no step"))
  rename_i hx4 F5 N5
  have hcl : @Ne Nat c' l9 ∧ @Ne Nat c' (L' + 1) ∧ @Ne Nat c' q := ⟨(hpre (l9, W.listOf (vs ++ [Value.none, X]).toArray 0) (by walk_at "mem")).2.symm, (hpre (L' + 1, o1) (by walk_at "mem")).2.symm, (hpre (q, W.listOf vs.toArray nn) (by walk_at "mem")).2.symm⟩
  have hfl : @LT.lt Nat _ l9 f := (hpre (l9, W.listOf (vs ++ [Value.none, X]).toArray 0) (by walk_at "mem")).1
  have hP : @LT.lt Nat _ 91 L' := by
    have l2 := ktn_ltOf la.2
    rcases htab with rfl | ⟨_, _, _, _, rfl, _⟩
    · exact l2 _ (.head _)
    · exact l2 _ (.head _)
  have hlq : @LT.lt Nat _ q L' := la.1
  have hl9 : @LT.lt Nat _ (L' + 1) l9 := lt9.2.2.1
  replace hcf := ltN hcf
  replace hPf := ltN hPf
  replace hPc := neN hPc
  refine callc_use (greatest_c w 4 f (fun r own => ∃ us n, own = [(f, fo), (c', oc), (l9, W.listOf (List.toArray (us ++ [Value.none, X])) n), (L' + 1, o1), (q, W.listOf vs.toArray nn), (91, tabObj #[rawInt 92, rawInt 4, .ref c'])] ∧ IntsAre us r ∧ us.length ≤ 40)
    (fun own => ∃ n, own = [(f, fo), (c', oc), (l9, W.listOf (List.toArray [X]) n), (L' + 1, o1), (q, W.listOf vs.toArray nn), (91, tabObj #[rawInt 92, rawInt 4, .ref c'])]) ns _ ⟨vs, 0, rfl, hvs, hvl⟩ ?_ ?_) (by k_asm) (by k_asm) (by k_asm) (by k_asm) (by k_asm) rfl (by ktr_room) (by ktr_units) ?_
  · rintro r own ⟨us, n, rfl, -⟩
    subst hfo
    exact ⟨_, _, _, _, .head _⟩
  · rintro r own ⟨us, n, rfl, hI, hul⟩
    clear FG' B' la hret hg F5 N5 B F X1 C1 T1 N T
    unfold CallC
    intro p loose mean mg mb dp un gd cn cs a ccd cl outer A₀ base h₀ L m s Q E B F X N T hk hdp hun hret
    refine wpAny_call ?_
    subst hfo
    refine' code_nestF B F X N T ?kA ?kF ?kK (.head _) (codeRec_news N (.tail _ (.head _)) hdd hv) ?k8 ?k9 ?kB ?_ ?c2 ?c3 ?c4 ?c5
    case kA => exact rfl
    case kF => exact rfl
    case kK => exact hk
    case k8 => ktr_room
    case k9 => exact BindsTo.of_eq rfl
    case kB => exact locs rfl
    case c2 => exact rfl
    case c3 => exact rfl
    case c4 => exact rfl
    case c5 => decide
    intro g1 L1 h1 hg1 FG1 F1 N1 B1 X1 T1 la
    dsimp only
    k_fold
    k_lt la
    have C1 := codeHd_of_K (c := 95) (P := 91) X1 (by kernel_rfl)
    cases hI with
    | nil =>
      (repeat' ( (fail_if_success (with_reducible show InvEndN _ _ _ _ _ _ _)); (fail_if_success (with_reducible show KswEnd _ _ _ _ _ _ _ _ _ _ _ _)); (fail_if_success (with_reducible show wpAny _ _ (exec (Stmt.While _ _ _ _) _) _ _ _)); (fail_if_success (with_reducible show wpAny _ _ (exec (Stmt.FunctionDef _ _ _ _ _ _ _ _ _ _) _) _ _ _)); (fail_if_success (with_reducible show wpAny _ _ (call (Value.ref _) _) _ _ _)); first | (k_unfold; (try dsimp only)) | (k_end; wrow_close) | walk1 | (dsimp only; walk1) | (leave1; walk_say "STEP leave1"; try dsimp only) | fail "no step"))
      rename Fr h₀ _ _ _ => kF
      rename News h₀ _ _ _ => kN
      rename Fr g1 _ _ _ => F2
      rename News g1 _ _ _ => N2
      exact hret _ _ _ _ kF kN ⟨rfl, ⟨n + 1, by simp⟩⟩ (left_of hg1 F2 N2)
    | cons i ti hI =>
      simp only [List.cons_append] at N1
      (repeat' ( (fail_if_success (with_reducible show InvEndN _ _ _ _ _ _ _)); (fail_if_success (with_reducible show KswEnd _ _ _ _ _ _ _ _ _ _ _ _)); (fail_if_success (with_reducible show wpAny _ _ (exec (Stmt.While _ _ _ _) _) _ _ _)); (fail_if_success (with_reducible show wpAny _ _ (exec (Stmt.FunctionDef _ _ _ _ _ _ _ _ _ _) _) _ _ _)); (fail_if_success (with_reducible show wpAny _ _ (call (Value.ref _) _) _ _ _)); first | (k_unfold; (try dsimp only)) | (k_end; wrow_close) | walk1 | (dsimp only; walk1) | (leave1; walk_say "STEP leave1"; try dsimp only) | fail "no step"))
      rename Fr h₀ _ _ _ => kF
      rename News h₀ _ _ _ => kN
      rename Fr g1 _ _ _ => F2
      rename News g1 _ _ _ => N2
      exact hret _ _ _ _ kF kN ⟨⟨ti, rfl⟩, ⟨_, n + 1, by simp, hI, by simp at hul; omega⟩⟩ (left_of hg1 F2 N2)
  rintro r own1 h1 tk1 F4 N4 ⟨⟨tr, rfl⟩, n9, rfl⟩ hl
  (try dsimp only)
  subst hX
  (repeat' ( (fail_if_success (with_reducible show InvEndN _ _ _ _ _ _ _)); (fail_if_success (with_reducible show KswEnd _ _ _ _ _ _ _ _ _ _ _ _)); (fail_if_success (with_reducible show wpAny _ _ (exec (Stmt.While _ _ _ _) _) _ _ _)); (fail_if_success (with_reducible show wpAny _ _ (exec (Stmt.FunctionDef _ _ _ _ _ _ _ _ _ _) _) _ _ _)); (fail_if_success (with_reducible show wpAny _ _ (call (Value.ref _) _) _ _ _)); first | (k_unfold; (try dsimp only)) | (k_end; wrow_close) | walk1 | (dsimp only; walk1) | (leave1; walk_say "STEP leave1"; try dsimp only) | fail "no step"))
  · rename Fr h₀ _ _ _ => kF
    rename News h₀ _ _ _ => kN
    rename Fr g' _ _ _ => F2
    rename News g' _ _ _ => N2
    exact hret _ [(91, tabObj #[rawInt 92, rawInt 4, .ref c']), (c', oc)] _ _ kF (less kN (by walk_at "sub")) ⟨rfl, .inr ⟨c', oc, _, tt, rfl, hdd, hv⟩⟩ (left_of hg F2 (less N2 (by walk_at "sub")))
  · exfalso
    exact ‹maxL ns 0 ≠ _› (maxL_eq ‹_› ‹_›)
end
end
section

def KeyAt (key : Nat → Int) (p : Array Nat) (i : Nat) : Int := key (p.getD i 0)
def SortedUpTo (key : Nat → Int) (p : Array Nat) (k : Nat) : Prop := ∀ i j, i < j → j < k → KeyAt key p i < KeyAt key p j
def FallsUpTo (key : Nat → Int) (p : Array Nat) (k : Nat) : Prop := ∀ i j, i < j → j < k → KeyAt key p j < KeyAt key p i
def IsPerm (n : Nat) (p : Array Nat) : Prop := p.Perm (List.toArray (List.range n))

section
variable {key : Nat → Int} {n : Nat} {p q : Array Nat}
theorem IsPerm.size (h : IsPerm n p) : p.size = n := by rw [Array.Perm.size_eq h]; simp
theorem IsPerm.lt (h : IsPerm n p) {i : Nat} (hi : i < n) : p.getD i 0 < n := by
  have hs := h.size
  have hi' : i < p.size := by omega
  have e : p.getD i 0 = p[i] := by simp [Array.getD, hi']
  rw [e]
  have hm : p[i] ∈ (List.range n).toArray := (Array.Perm.mem_iff h).mp (Array.getElem_mem hi')
  simpa using hm
theorem IsPerm.inj (h : IsPerm n p) {i j : Nat} (hi : i < n) (hj : j < n) (e : p.getD i 0 = p.getD j 0) : i = j := by
  have hs := h.size
  have hi' : i < p.size := by omega
  have hj' : j < p.size := by omega
  have e1 : p.getD i 0 = p[i] := by simp [Array.getD, hi']
  have e2 : p.getD j 0 = p[j] := by simp [Array.getD, hj']
  rw [e1, e2] at e
  have hp : p.toList.Perm (List.range n) := Array.perm_iff_toList_perm.mp h
  have hn : p.toList.Nodup := hp.nodup_iff.mpr List.nodup_range
  have e3 : p.toList[i]'(by simpa using hi') = p.toList[j]'(by simpa using hj') := by simpa using e
  have hpw := List.pairwise_iff_getElem.mp hn
  rcases Nat.lt_trichotomy i j with h1 | h1 | h1
  · exact absurd e3 (hpw i j _ _ h1)
  · exact h1
  · exact absurd e3.symm (hpw j i _ _ h1)
theorem getD_of {i j : Nat} (h : p[i]? = q[j]?) : p.getD i 0 = q.getD j 0 := by
  rw [Array.getD_eq_getD_getElem?, Array.getD_eq_getD_getElem?, h]
theorem keyAt_of {i j : Nat} (h : p[i]? = q[j]?) : KeyAt key p i = KeyAt key q j := by
  unfold KeyAt
  rw [getD_of h]
end

section
variable {key : Nat → Int} {n : Nat} {p q : Array Nat} {cmp : Nat → Nat → (Bool → Shared → Prop) → Shared → Prop} {s : Shared}
/-- the question is answered by the keys -/
def Asked (key : Nat → Int) (n : Nat) (cmp : Nat → Nat → (Bool → Shared → Prop) → Shared → Prop) (s : Shared) : Prop :=
  ∀ i j (C : Bool → Shared → Prop), i < n → j < n → C (decide (key i < key j)) s → cmp i j C s
def Inj (key : Nat → Int) (n : Nat) : Prop := ∀ i j, i < n → j < n → key i = key j → i = j
theorem keys_ne (hi : Inj key n) (hp : IsPerm n p) {i j : Nat} (h1 : i < n) (h2 : j < n) (hne : i ≠ j) : KeyAt key p i ≠ KeyAt key p j := fun e =>
  hne (hp.inj h1 h2 (hi _ _ (hp.lt h1) (hp.lt h2) e))
theorem ask_of (hc : Asked key n cmp s) (hp : IsPerm n p) {i j : Nat} (h1 : i < n) (h2 : j < n) {C : Bool → Shared → Prop} (h : C (decide (KeyAt key p i < KeyAt key p j)) s) : cmp (p.getD i 0) (p.getD j 0) C s :=
  hc _ _ _ (hp.lt h1) (hp.lt h2) h

theorem asc_run (hi : Inj key n) (hc : Asked key n cmp s) (hp : IsPerm n p) {Q : Nat → Shared → Prop} : ∀ (f a : Nat), 1 ≤ a → a + f ≤ n → SortedUpTo key p a →
    (∀ m, a ≤ m → m ≤ a + f → SortedUpTo key p m → (m = a + f ∨ (m < n ∧ KeyAt key p m < KeyAt key p (m - 1))) → Q m s) → (kas_asc p f a).kasWp cmp Q s
  | 0, a, _, _, hs, h => h a (Nat.le_refl _) (by omega) hs (.inl rfl)
  | f + 1, a, h1, hf, hs, h => by
    show cmp (p.getD a 0) (p.getD (a - 1) 0) _ s
    refine ask_of hc hp (by omega) (by omega) ?_
    by_cases hk : KeyAt key p a < KeyAt key p (a - 1)
    · rw [decide_eq_true hk]; dsimp only; rw [if_pos rfl]
      exact h a (Nat.le_refl _) (by omega) hs (.inr ⟨by omega, hk⟩)
    · rw [decide_eq_false hk]; dsimp only; rw [if_neg Bool.false_ne_true]
      have hne := keys_ne hi hp (show a < n by omega) (show a - 1 < n by omega) (by omega)
      refine asc_run hi hc hp f (a + 1) (by omega) (by omega) (fun i j hij hj => ?_) (fun m hm1 hm2 hsm hor => h m (by omega) (by omega) hsm ?_)
      · by_cases e : j = a
        · subst e
          by_cases e2 : i = j - 1
          · subst e2; omega
          · have := hs i (j - 1) (by omega) (by omega)
            omega
        · exact hs i j hij (by omega)
      · rcases hor with e | e
        · exact .inl (by omega)
        · exact .inr e
theorem desc_run (hi : Inj key n) (hc : Asked key n cmp s) (hp : IsPerm n p) {Q : Array Nat × Nat × Nat → Shared → Prop} : ∀ (f a : Nat), 1 ≤ a → a + f ≤ n → FallsUpTo key p a →
    (∀ m, a ≤ m → m ≤ a + f → FallsUpTo key p m → Q (p, m, 0) s) → (kas_desc f p a 0).kasWp cmp Q s
  | 0, a, _, _, hs, h => h a (Nat.le_refl _) (by omega) hs
  | f + 1, a, h1, hf, hs, h => by
    show cmp (p.getD a 0) (p.getD (a - 1) 0) _ s
    refine ask_of hc hp (by omega) (by omega) ?_
    have hne := keys_ne hi hp (show a < n by omega) (show a - 1 < n by omega) (by omega)
    by_cases hk : KeyAt key p a < KeyAt key p (a - 1)
    · rw [decide_eq_true hk]; dsimp only; rw [if_pos rfl, if_neg (by omega)]
      refine desc_run hi hc hp f (a + 1) (by omega) (by omega) (fun i j hij hj => ?_) (fun m hm1 hm2 hsm => h m (by omega) (by omega) hsm)
      by_cases e : j = a
      · subst e
        by_cases e2 : i = j - 1
        · subst e2; omega
        · have := hs i (j - 1) (by omega) (by omega)
          omega
      · exact hs i j hij (by omega)
    · rw [decide_eq_false hk]; dsimp only; rw [if_neg Bool.false_ne_true]
      show cmp (p.getD (a - 1) 0) (p.getD a 0) _ s
      refine ask_of hc hp (by omega) (by omega) ?_
      rw [decide_eq_true (by omega)]; dsimp only; rw [if_pos rfl]
      exact h a (Nat.le_refl _) (by omega) hs
theorem rev_perm {a : Nat} (hp : IsPerm n p) : IsPerm n (kas_rev p 0 a) := (mirror_perm _ _ _ _).trans hp
theorem rev_sorted {a : Nat} (hp : IsPerm n p) (ha : a ≤ n) (hs : FallsUpTo key p a) : SortedUpTo key (kas_rev p 0 a) a := by
  intro i j hij hj
  have hz := hp.size
  have g : ∀ k, k < a → KeyAt key (kas_rev p 0 a) k = KeyAt key p (a - 1 - k) := fun k hk => by
    refine keyAt_of ?_
    unfold kas_rev
    rw [getElem?_mirror_all (by omega), if_pos (by omega), Nat.zero_add]
  rw [g i (by omega), g j hj]
  exact hs _ _ (by omega) (by omega)
theorem tail3_run (hi : Inj key n) (hc : Asked key n cmp s) (hp : IsPerm n p) {Q : Nat × Array Nat → Shared → Prop} {a : Nat} (h1 : 1 ≤ a) (ha : a ≤ n) (hs : FallsUpTo key p a)
    (h : ∀ m p', IsPerm n p' → 1 ≤ m → m ≤ n → SortedUpTo key p' m → Q (m, p') s) : (kas_tail3 a n p).kasWp cmp Q s := by
  unfold kas_tail3
  rw [KasT.kasWp_bind]
  exact asc_run hi hc (rev_perm hp) _ a h1 (by omega) (rev_sorted hp ha hs) fun m hm1 hm2 hsm _ => h m _ (rev_perm hp) (by omega) (by omega) hsm
theorem count_run (hi : Inj key n) (hc : Asked key n cmp s) (hp : IsPerm n p) {Q : Nat × Array Nat → Shared → Prop} (h2 : 2 ≤ n)
    (h : ∀ m p', IsPerm n p' → 1 ≤ m → m ≤ n → SortedUpTo key p' m → Q (m, p') s) : (kas_count n p).kasWp cmp Q s := by
  unfold kas_count
  rw [KasT.kasWp_bind]
  refine asc_run hi hc hp _ 1 (Nat.le_refl _) (by omega) (fun i j hij hj => by omega) fun m hm1 hm2 hsm hor => ?_
  by_cases e : m = n
  · rw [if_pos (by simpa using e)]
    exact h m p hp hm1 (by omega) hsm
  · rw [if_neg (by simpa using e)]
    by_cases e1 : m > 1
    · rw [if_pos e1]
      show cmp (p.getD 0 0) (p.getD (m - 1) 0) _ s
      refine ask_of hc hp (by omega) (by omega) ?_
      rw [decide_eq_true (hsm 0 (m - 1) (by omega) (by omega))]; dsimp only; rw [if_pos rfl]
      exact h m p hp hm1 (by omega) hsm
    · rw [if_neg e1]
      have em : m = 1 := by omega
      subst em
      have hk : KeyAt key p 1 < KeyAt key p 0 := by
        rcases hor with x | x
        · omega
        · exact x.2
      unfold kas_descPart
      rw [KasT.kasWp_bind]
      refine desc_run hi hc hp _ 2 (by omega) (by omega) (fun i j hij hj => ?_) fun m hm1 hm2 hsm => ?_
      · have e1 : i = 0 := by omega
        have e2 : j = 1 := by omega
        subst e1; subst e2; exact hk
      · rw [if_neg (by simp)]
        show (kas_tail3 m n p).kasWp cmp Q s
        have hm3 : m ≤ n := by omega
        have hm4 : 1 ≤ m := by omega
        exact tail3_run hi hc hp hm4 hm3 hsm h
theorem place_run (hi : Inj key n) (hc : Asked key n cmp s) (hp : IsPerm n p) {Q : Nat → Shared → Prop} {k : Nat} (hk : k < n) (hs : SortedUpTo key p k) : ∀ (f l r : Nat), l ≤ r → r ≤ k → r - l ≤ f →
    (∀ i, i < l → KeyAt key p i < KeyAt key p k) → (∀ i, r ≤ i → i < k → KeyAt key p k < KeyAt key p i) →
    (∀ l, l ≤ k → (∀ i, i < l → KeyAt key p i < KeyAt key p k) → (∀ i, l ≤ i → i < k → KeyAt key p k < KeyAt key p i) → Q l s) → (kas_place p k f l r).kasWp cmp Q s
  | 0, l, r, h1, h2, h3, ha, hb, h => by
    have e : l = r := by omega
    subst e
    exact h l h2 ha hb
  | f + 1, l, r, h1, h2, h3, ha, hb, h => by
    unfold kas_place
    by_cases e : l ≥ r
    · rw [if_pos e]
      have e : l = r := by omega
      subst e
      exact h l h2 ha hb
    · rw [if_neg e]
      show cmp (p.getD k 0) (p.getD ((l + r) / 2) 0) _ s
      refine ask_of hc hp hk (by omega) ?_
      have hne := keys_ne hi hp hk (show (l + r) / 2 < n by omega) (by omega)
      by_cases hlt : KeyAt key p k < KeyAt key p ((l + r) / 2)
      · rw [decide_eq_true hlt]; dsimp only; rw [if_pos rfl]
        refine place_run hi hc hp hk hs f l ((l + r) / 2) (by omega) (by omega) (by omega) ha (fun i h4 h5 => ?_) h
        by_cases e2 : i = (l + r) / 2
        · rw [e2]; exact hlt
        · have := hs ((l + r) / 2) i (by omega) h5
          omega
      · rw [decide_eq_false hlt]; dsimp only; rw [if_neg Bool.false_ne_true]
        refine place_run hi hc hp hk hs f ((l + r) / 2 + 1) r (by omega) (by omega) (by omega) (fun i h4 => ?_) hb h
        by_cases e2 : i = (l + r) / 2
        · rw [e2]; omega
        · have := hs i ((l + r) / 2) (by omega) (by omega)
          omega
theorem bubble_sorted {k l : Nat} (hp : IsPerm n p) (hk : k < n) (hl : l ≤ k) (hs : SortedUpTo key p k) (ha : ∀ i, i < l → KeyAt key p i < KeyAt key p k) (hb : ∀ i, l ≤ i → i < k → KeyAt key p k < KeyAt key p i) : SortedUpTo key (bubble p k (k - l)) (k + 1) := by
  have hz := hp.size
  have g : ∀ i, KeyAt key (bubble p k (k - l)) i = if i = l then KeyAt key p k else if l < i ∧ i ≤ k then KeyAt key p (i - 1) else KeyAt key p i := fun i => by
    have e := getElem?_bubble (xs := p) (src := k) (by omega) (k - l) (by omega) i
    rw [show k - (k - l) = l by omega] at e
    by_cases h1 : i = l
    · rw [if_pos h1] at e ⊢
      exact keyAt_of e
    · rw [if_neg h1] at e ⊢
      by_cases h2 : l < i ∧ i ≤ k
      · rw [if_pos h2] at e ⊢
        exact keyAt_of e
      · rw [if_neg h2] at e ⊢
        exact keyAt_of e
  intro i j hij hj
  rw [g i, g j]
  by_cases h1 : i = l
  · rw [if_pos h1, if_neg (by omega), if_pos (by omega)]
    exact hb _ (by omega) (by omega)
  · rw [if_neg h1]
    by_cases h2 : j = l
    · rw [if_pos h2, if_neg (by omega)]
      exact ha i (by omega)
    · rw [if_neg h2]
      by_cases h3 : l < i ∧ i ≤ k
      · rw [if_pos h3, if_pos (by omega)]
        exact hs _ _ (by omega) (by omega)
      · rw [if_neg h3]
        by_cases h4 : l < j ∧ j ≤ k
        · rw [if_pos h4]
          by_cases h5 : j = l
          · omega
          · exact hs i (j - 1) (by omega) (by omega)
        · rw [if_neg h4]
          exact hs i j hij (by omega)
theorem bin_run (hi : Inj key n) (hc : Asked key n cmp s) {Q : Array Nat → Shared → Prop} (h : ∀ p', IsPerm n p' → SortedUpTo key p' n → Q p' s) : ∀ (f : Nat) (p : Array Nat) (k : Nat), IsPerm n p → k + f = n → SortedUpTo key p k → (kas_bin f p k).kasWp cmp Q s
  | 0, p, k, hp, hk, hs => by
    have e : k = n := by omega
    subst e
    exact h p hp hs
  | f + 1, p, k, hp, hk, hs => by
    unfold kas_bin
    rw [KasT.kasWp_bind]
    refine place_run hi hc hp (by omega) hs k 0 k (by omega) (by omega) (by omega) (fun i hi => by omega) (fun i h1 h2 => by omega) fun l hl ha hb => ?_
    exact bin_run hi hc h f _ (k + 1) ((bubble_perm _ _ _).trans hp) (by omega) (bubble_sorted hp (by omega) hl hs ha hb)
theorem sort_run (hi : Inj key n) (hc : Asked key n cmp s) {Q : Array Nat → Shared → Prop} (h2 : 2 ≤ n) (h : ∀ p', IsPerm n p' → SortedUpTo key p' n → Q p' s) : (kas_sort n).kasWp cmp Q s := by
  unfold kas_sort
  rw [KasT.kasWp_bind]
  refine count_run hi hc (Array.Perm.refl _) h2 fun m p' hp h1 hm hs => ?_
  by_cases e : m < n
  · rw [if_pos e]
    rw [show max m 1 = m by omega]
    exact bin_run hi hc h _ p' m hp (by omega) hs
  · rw [if_neg e]
    have e : m = n := by omega
    subst e
    exact h p' hp hs
end
end
section

theorem pairwise_small {α : Type} {R : α → α → Prop} : ∀ {l : List α}, l.length < 2 → l.Pairwise R
  | [], _ => .nil
  | [_], _ => List.pairwise_singleton _ _
  | _ :: _ :: _, h => absurd h (by simp)
/-- a made pair (int, value) -/
structure Row where
  a : Addr
  k : Int
  t : Tok
  v : Value
def Row.obj (r : Row) : Obj := { cls := .type "tuple", data := .seq #[.int r.k r.t, r.v] }
def rowsL (rs : List Row) : List (Addr × Obj) := rs.map fun r => (r.a, r.obj)
def rowsV (rs : List Row) : List Value := rs.map fun r => .ref r.a
theorem rowsV_length (rs : List Row) : (rowsV rs).length = rs.length := List.length_map _
theorem rowsV_getD {rs : List Row} {i : Nat} (h : i < rs.length) : (rowsV rs).getD i .none = .ref (rs[i]).a := by
  unfold rowsV
  rw [List.getD_eq_getElem?_getD, List.getElem?_map, List.getElem?_eq_getElem h]
  rfl

section
variable {prog : Program} {w : World} {A : Around} {E : Value → Shared → Prop} {s : Shared} {h₀ : Heap} {L : Addr} {m : Str → Option Value} {news : List (Addr × Obj)}
theorem list_sort_small {a : Addr} {vs : List Value} {n : Nat} {P : PySem.Fin → Shared → Prop} (ho : s.heap.get? a = some (seqObj "list" vs.toArray n)) (h2 : vs.length < 2)
    (h : P (.done (.ret .none)) { s with heap := sortedHeap s.heap a vs vs.toArray }) :
    wpAny (model prog w) A (Builtin.«list.sort» ⟨[.ref a], []⟩) P E s := by
  rw [list_sort_plain]
  have ha : a < s.heap.objs.size := Heap.lt_size ho
  refine wpAny_bind (listItems_at ho rfl ?_)
  refine wpAny_bind (listUpdate_at ho rfl ?_ (by rw [List.size_toArray, sizeLine_eq]; omega) (Nat.zero_le _))
  obtain ⟨e1, ho1⟩ : ∃ e1, (s.heap.update a (Obj.mapSeq fun _ => #[])).get? a = some (seqObj "list" #[] e1) := ⟨_, get?_update_seq ho (fun _ => #[])⟩
  refine wpAny_bind (seqEpoch_at ho1 rfl ?_)
  refine wpAny_bind (wpAny_newTuple ?_ (by show vs.length ≤ _; rw [sizeLine_eq]; omega))
  refine wpAny_bind (wpAny_newList ?_ (Nat.zero_le _))
  refine wpAny_holding ?_
  have ho6 : (((s.heap.update a (Obj.mapSeq fun _ => #[])).push (seqObj "tuple" vs.toArray 0)).push (seqObj "list" #[] 0)).get? a = some (seqObj "list" #[] e1) := by
    rw [Heap.get?_push_ne _ _ _ (by rw [size_push', Heap.size_update]; exact Nat.ne_of_lt (Nat.lt_succ_of_lt ha)), Heap.get?_push_ne _ _ _ (by rw [Heap.size_update]; exact Nat.ne_of_lt ha)]
    exact ho1
  show wpAny (model prog w) A _ P E { s with heap := ((s.heap.update a (Obj.mapSeq fun _ => #[])).push (seqObj "tuple" vs.toArray 0)).push (seqObj "list" #[] 0) }
  dsimp only
  have h2' : vs.toArray.size < 2 := by simpa using h2
  rw [if_pos h2', if_pos h2']
  refine wpAny_bind (wpAny_pure ?_)
  rw [StateT.run_pure]
  refine wpAny_bind (wpAny_pure ?_)
  dsimp only
  have em : (vs.toArray.zip vs.toArray).map (·.2) = vs.toArray := by
    apply Array.toList_inj.mp
    rw [Array.toList_map]
    simp
    rw [List.map_snd_zip (Nat.le_refl _)]
  refine wpAny_bind (seqEpoch_at ho6 rfl ?_)
  refine wpAny_bind (listUpdate_at ho6 rfl ?_ (Nat.zero_le _) (by
    show ((vs.toArray.zip vs.toArray).map (·.2)).size ≤ _
    rw [em, List.size_toArray, sizeLine_eq]; omega))
  simp only [bne_self_eq_false, Bool.false_eq_true, if_false]
  refine wpAny_pure ?_
  have h' : P (.done (.ret .none)) { s with heap := sortedHeap s.heap a vs ((vs.toArray.zip vs.toArray).map (·.2)) } := by rw [em]; exact h
  exact h'
theorem sorted_small {l : Addr} {vs : List Value} {Q : Value → Shared → Prop} (F : Fr h₀ L s.heap m) (N : News h₀ L s.heap news) (hl : s.heap.IsList l vs.toArray) (h2 : vs.length < 2)
    (h : ∀ D c h', Fr h₀ L h' m → News h₀ L h' ((D, W.listOf vs.toArray c) :: news) → (∀ q ∈ news, q.1 < D) → Q (.ref D) { s with heap := h' }) :
    wpAny (model prog w) A (call (.builtin "sorted") [.ref l]) Q E s := by
  refine Calls.call_function_entry kind_sorted plain_sorted entry_sorted (args_sorted1 _) ?_
  unfold Builtin.«sorted»
  refine wpAny_bind (m := checkCount "sorted" 1 1 _) (wpAny_pure ?_)
  refine wpAny_bind (collect_list hl ?_ (by rw [sizeLine_eq]; omega))
  refine wpAny_bind (wpAny_newList ?_ (by rw [sizeLine_eq]; omega))
  have hsz : ((s.heap.push (seqObj "list" #[] 0)).update s.heap.objs.size (Obj.mapSeq (· ++ vs.toArray))).objs.size = s.heap.objs.size + 1 := by
    rw [Heap.size_update, size_push']
  have hoL : (((s.heap.push (seqObj "list" #[] 0)).update s.heap.objs.size (Obj.mapSeq (· ++ vs.toArray))).push (seqObj "list" vs.toArray 0)).get? (s.heap.objs.size + 1) = some (seqObj "list" vs.toArray 0) := by
    rw [← hsz]; exact Heap.get?_push_size _ rfl
  show wpAny _ _ _ _ _ { s with heap := ((s.heap.push (seqObj "list" #[] 0)).update s.heap.objs.size (Obj.mapSeq (· ++ vs.toArray))).push (seqObj "list" vs.toArray 0) }
  rw [hsz]
  refine wpAny_bind (wpAny_holding (wpAny_call_entry slot_list_sort ⟨_, hoL, rfl⟩ entry_list_sort (list_sort_small hoL h2 ⟨_, rfl, ?_⟩) (args_list_sort _)))
  refine wpAny_pure ⟨_, rfl, ?_⟩
  obtain ⟨e, he⟩ := sortedAll_at s.heap vs vs.toArray
  exact h _ e _ (F.kept fun _ _ => sortedAll_old) (N.kept_cons F (fun _ _ => sortedAll_old) (Nat.le_succ _) he) fun q hq => Nat.lt_succ_of_lt (Heap.lt_size (N q hq).1)

theorem katTups_rows {h : Heap} : ∀ (rs : List Row), (∀ r ∈ rs, h.get? r.a = some r.obj) → KatTups h (rowsV rs) (rs.map fun r => .int r.k r.t)
  | [], _ => KatTups.nil
  | r :: rs, hh => KatTups.cons (hh r (.head _)) rfl rfl rfl (katTups_rows rs fun q hq => hh q (.tail _ hq))

theorem sorted_rows {l : Addr} {rs : List Row} {Q : Value → Shared → Prop} (F : Fr h₀ L s.heap m) (N : News h₀ L s.heap news) (hl : s.heap.IsList l (rowsV rs).toArray) (hr : ∀ r ∈ rs, (r.a, r.obj) ∈ news) (hv : ∀ r ∈ rs, ∃ i t, r.v = .int i t)
    (hn : (rs.map (·.k)).Nodup) (h64 : rs.length < 64)
    (h : ∀ D c h' (rs' : List Row), Fr h₀ L h' m → News h₀ L h' ((D, W.listOf (rowsV rs').toArray c) :: news) → (∀ q ∈ news, q.1 < D) → (∀ r, r ∈ rs' ↔ r ∈ rs) → rs'.length = rs.length → rs'.Pairwise (fun a b => a.k < b.k) → Q (.ref D) { s with heap := h' }) :
    wpAny (model prog w) A (call (.builtin "sorted") [.ref l]) Q E s := by
  by_cases h2 : rs.length < 2
  · refine sorted_small F N hl (by rw [rowsV_length]; exact h2) fun D c h' F' N' l1 => h D c h' rs F' N' l1 (fun _ => Iff.rfl) rfl (pairwise_small h2)
  · have hlen : (rowsV rs).length = rs.length := rowsV_length rs
    refine kat_sorted F N hl (by omega) (by omega) fun D e1 h' F' N' l1 => ?_
    have hget : ∀ r ∈ rs, h'.get? r.a = some r.obj := fun r hm => (N' _ (.tail _ (hr r hm))).1
    refine kat_kind (T := .type "int") (katTups_rows rs hget) (by rw [List.length_map]; omega) (fun v hm => ?_) rfl ?_
    · obtain ⟨r, _, rfl⟩ := List.mem_map.mp hm
      exact Looks.of_pure rfl
    · have hinj : Inj (fun i => (rs.getD i ⟨0, 0, 0, .none⟩).k) rs.length := fun i j hi hj e => by
        have e1 : rs.getD i ⟨0, 0, 0, .none⟩ = rs[i] := by rw [List.getD_eq_getElem?_getD, List.getElem?_eq_getElem hi]; rfl
        have e2 : rs.getD j ⟨0, 0, 0, .none⟩ = rs[j] := by rw [List.getD_eq_getElem?_getD, List.getElem?_eq_getElem hj]; rfl
        dsimp only at e
        rw [e1, e2] at e
        have hpw := List.pairwise_iff_getElem.mp hn
        have q := hpw i j (by simpa using hi) (by simpa using hj)
        have q' := hpw j i (by simpa using hj) (by simpa using hi)
        simp only [List.getElem_map] at q q'
        rcases Nat.lt_trichotomy i j with h1 | h1 | h1
        · exact absurd e (q h1)
        · exact h1
        · exact absurd e.symm (q' h1)
      have hask : Asked (fun i => (rs.getD i ⟨0, 0, 0, .none⟩).k) rs.length (kas_ask prog w A.in1.in1 (tuples' (Value.type "int" != Value.type "tuple")) (rowsV rs)) { s with heap := h' } := fun i j C hi hj hC => by
        have e1 : rs.getD i ⟨0, 0, 0, .none⟩ = rs[i] := by rw [List.getD_eq_getElem?_getD, List.getElem?_eq_getElem hi]; rfl
        have e2 : rs.getD j ⟨0, 0, 0, .none⟩ = rs[j] := by rw [List.getD_eq_getElem?_getD, List.getElem?_eq_getElem hj]; rfl
        simp only [e1, e2] at hC
        unfold kas_ask
        rw [rowsV_getD hi, rowsV_getD hj]
        refine kat_lt (hget _ (List.getElem_mem hi)) rfl (hget _ (List.getElem_mem hj)) rfl ?_
        show KatLex prog w A.in1.in1 _ _ C [(Value.int (rs[i]).k (rs[i]).t, Value.int (rs[j]).k (rs[j]).t), ((rs[i]).v, (rs[j]).v)] 0 _
        refine kat_cons (wpAny_eqBool_int ?_)
        refine kat_go (fun hk => ?_) (fun hk => ?_)
        · have ek : (rs[i]).k = (rs[j]).k := by simpa using hk
          have eij : i = j := hinj i j hi hj (by dsimp only; rw [e1, e2]; exact ek)
          subst eij
          refine kat_yes ?_
          obtain ⟨x, u, hx⟩ := hv _ (List.getElem_mem hi)
          rw [hx]
          refine kat_cons (wpAny_eqBool_int ?_)
          refine kat_go (fun _ => kat_yes (kat_nil ?_)) (fun hk => by simp at hk)
          have : decide (#[Value.int (rs[i]).k (rs[i]).t, (rs[i]).v].size < #[Value.int (rs[i]).k (rs[i]).t, (rs[i]).v].size) = decide ((rs[i]).k < (rs[i]).k) := by simp
          rw [← this] at hC
          exact hC
        · refine kat_no ?_
          have eb : ((Value.type "int" != Value.type "tuple") && (0 : Nat) == 0) = true := by decide
          rw [eb]
          exact oneLt_int hC
      rw [hlen]
      refine sort_run hinj hask (by omega) fun p hp hs => ?_
      refine KasFin.intro (g := fun o => (D, o) :: news) F' N' (UpdF.head fun q hq => Nat.ne_of_lt (l1 q hq)) fun h3 c F3 N3 => ?_
      have hps := hp.size
      have eV : (p.toList.map fun i => (rowsV rs).getD i Value.none) = rowsV (p.toList.map fun i => rs.getD i ⟨0, 0, 0, .none⟩) := by
        unfold rowsV
        rw [List.map_map]
        refine List.map_congr_left fun i hi => ?_
        obtain ⟨k, hk, rfl⟩ := List.mem_iff_getElem.mp hi
        have hk' : k < p.size := by simpa using hk
        have hlt := hp.lt (i := k) (by omega)
        have e : p.getD k 0 = p.toList[k] := by simp [Array.getD, hk']
        rw [e] at hlt
        have := rowsV_getD hlt
        unfold rowsV at this
        rw [this]
        show Value.ref _ = Value.ref (rs.getD p.toList[k] ⟨0, 0, 0, .none⟩).a
        rw [List.getD_eq_getElem?_getD, List.getElem?_eq_getElem hlt]
        rfl
      rw [eV] at N3
      have hpl : p.toList.Perm (List.range rs.length) := Array.perm_iff_toList_perm.mp hp
      refine h D c h3 _ F3 N3 l1 (fun r => ?_) (by rw [List.length_map]; simpa using hps) ?_
      · rw [List.mem_map]
        constructor
        · rintro ⟨i, hi, rfl⟩
          have hi' := List.mem_range.mp (hpl.mem_iff.mp hi)
          rw [List.getD_eq_getElem?_getD, List.getElem?_eq_getElem hi']
          exact List.getElem_mem hi'
        · intro hm
          obtain ⟨k, hk, rfl⟩ := List.mem_iff_getElem.mp hm
          refine ⟨k, hpl.mem_iff.mpr (List.mem_range.mpr hk), ?_⟩
          rw [List.getD_eq_getElem?_getD, List.getElem?_eq_getElem hk]
          rfl
      · rw [List.pairwise_map, List.pairwise_iff_getElem]
        intro i j hi hj hij
        have hj' : j < p.size := by simpa using hj
        have hi' : i < p.size := by simpa using hi
        have q := hs i j hij (by omega)
        unfold KeyAt at q
        have e1 : p.getD i 0 = p.toList[i] := by simp [Array.getD, hi']
        have e2 : p.getD j 0 = p.toList[j] := by simp [Array.getD, hj']
        rw [e1, e2] at q
        exact q
end
end
section
local macro_rules | `(tactic| wp_step) => `(tactic| first
  | with_reducible (first
      | refine wpAny_pure ?_ | refine wpAny_bind ?_ | refine wpAny_holding ?_ | refine wpAny_standAt ?_ | refine wpAny_point ?_ | refine wpAny_rule ?_
      | refine wpAny_letGo ?_ | refine wpAny_mkInt' ?_ | refine wpAny_fresh' ?_ | refine wpAny_alloc' ?_ | refine wpAny_attempt ?_ | refine wpAny_throw ?_
      | refine wpAny_of_eq (by assumption) ?_ | refine wpAny_typeOf (by assumption) ?_
      | refine wpAny_specialOf_val (by assumption) (by assumption) ?_ | refine wpAny_specialOf (by assumption) (by assumption) ?_
      | refine wpAny_isInstance_val (by assumption) (by assumption) ?_ | refine wpAny_isInstance (by assumption) (by assumption) ?_
      | refine wpAny_call ?_ | refine wpAny_runValue ?_ | refine wpAny_run ?_)
  | ((with_reducible apply wpAny_load'); focus (heap_get; done))
  | ((with_reducible apply wpAny_update'); focus (heap_get; done))
  | ((with_reducible apply wpAny_loadPart'); focus (heap_get; done))
  | ((with_reducible apply wpAny_updatePart'); focus (heap_get; done))
  | ((with_reducible apply wpAny_handled_none); focus (assumption; done))
  | ((with_reducible apply wpAny_ite_false); focus (rfl; done))
  | ((with_reducible apply wpAny_ite_true); focus (rfl; done))
  | ((with_reducible apply wpAny_ite_false); focus (simp [*]; done))
  | ((with_reducible apply wpAny_ite_true); focus (simp [*]; done))
  | ((fail_if_success (with_reducible show wpAny _ _ (mkStr _) _ _ _)); wp_delta)
  | with_reducible_and_instances refine wpAny_pure ?_
  | with_reducible_and_instances refine wpAny_bind ?_)
section
set_option maxHeartbeats 2000000
theorem lk_list_keys : typeLookup (.type "list") "keys" = pure none := by rw [typeLookup_type, builtinLookup_eq_fast]; kernel_rfl
theorem keys_none {prog : Program} {w : World} {A : Around} {E : Value → Shared → Prop} {s : Shared} {a : Addr} {xs : Array Value} {k : Nat} {Q : Option Value → Shared → Prop}
    (hx : s.heap.get? a = some { cls := .type "list", dict := none, data := .seq xs k, slots := #[] }) (hA : A.handled = none)
    (h : ∀ h' tk, (∀ b o, s.heap.get? b = some o → h'.get? b = some o) → Q none { s with heap := h', toks := tk }) :
    wpAny (model prog w) A (getAttr? (.ref a) "keys") Q E s := by
  obtain ⟨hp, g, d, tk, os⟩ := s
  have hT : ∀ tk', (⟨hp, g, d, tk', os⟩ : Shared).TypeIs (.ref a) "list" := fun _ => ⟨_, hx, rfl⟩
  have f1 := sub_AttributeError
  have f3 := F.slot_list_getattribute.lookup
  have f4 := F.slot_list_getattribute.bind (.ref a)
  have f5 := am_list_getattr_none
  unfold getAttr? getAttrBy? getAttrBy
  repeat (any_goals (first | ((with_reducible show wpAny _ _ (call (Value.builtin "list.__getattribute__") _ _) _ _ _); refine call_meets F.slot_list_getattribute (hT _) am_entry_list_getattribute (F.args_list_getattribute_2 _ _) (meets_getattribute_miss_list a xs k #[] (Str.ofString "keys") _ lk_list_keys (by decide +kernel) (by rw [sizeLine_eq]; decide)) ⟨hx, hA, fun h' tk' e hx' => ?_⟩) | wp_step | assumption | exact hT _))
  obtain ⟨t', u', he⟩ := hx'.there
  show wpAny _ _ (getattributeRaised _ _ _ _ _ _ _) _ _ _
  unfold getattributeRaised
  repeat (any_goals (first | wp_step | assumption))
  exact h _ _ hx'.keeps
end
section
set_option maxHeartbeats 2000000
theorem entry_update_loop : entryFor table "dict.update.loop" = some Builtin.«dict.update.loop» := entryFor_of_tree (by kernel_rfl)
theorem plain_update_loop : plainId "dict.update.loop" = true := by decide +kernel
def pairsR (rs : List Row) : List (Int × Value) := rs.map fun r => (r.k, r.v)
theorem pairsR_length (rs : List Row) : (pairsR rs).length = rs.length := List.length_map _
theorem stored_new {kvs : List (Int × Value)} {k : Int} {v : Value} (h : k ∉ kvs.map (·.1)) : stored kvs k v = kvs ++ [(k, v)] := by
  unfold stored
  rw [if_neg]
  rw [List.any_eq_true]
  rintro ⟨kv, hm, he⟩
  exact h (List.mem_map.mpr ⟨kv, hm, of_decide_eq_true he⟩)
section
variable {prog : Program} {w : World} {A : Around} {R : Result → Shared → Prop} {s : Shared}
theorem update_loop {D I l : Addr} {rs : List Row} (hh : A.handled = none) (hDI : D ≠ I) (hlI : l ≠ I) (hDl : D ≠ l) (hrI : ∀ r ∈ rs, r.a ≠ I ∧ r.a ≠ D) (hn : (rs.map (·.k)).Nodup) (hlen : rs.length ≤ 1000) {h₁ : Heap}
    (hR : ∀ h' tk, (∀ b o, b ≠ D → b ≠ I → h₁.get? b = some o → h'.get? b = some o) → h'.DictOf (intKind prog w) D (pairsR rs) → R (.ok (.ret .none)) { s with heap := h', toks := tk }) :
    ∀ (f i : Nat) (t : Tok) (h : Heap) (tk : Nat), i + f = rs.length → h.IsListIter I l i → h.IsList l (rowsV rs).toArray → (∀ r ∈ rs, h.get? r.a = some r.obj) → h.DictOf (intKind prog w) D (pairsR (rs.take i)) →
      (∀ b o, b ≠ D → b ≠ I → h₁.get? b = some o → h.get? b = some o) → codeAny (model prog w) A (.builtin "dict.update.loop" ⟨[.ref D, .ref I, .int i t, .none], []⟩) R { s with heap := h, toks := tk } := by
  intro f
  induction f with
  | zero =>
    intro i t h tk hf hit hl hr hD hk
    refine codeAny_builtin entry_update_loop ?_
    rw [Around.under_plainId plain_update_loop _]
    show wpAny _ A.in1 (pyNext (.ref I) >>= _) _ _ _
    refine wpAny_bind (wpAny_pyNext_list_end (A := A.in1) (s := { s with heap := h, toks := tk }) hh hit hl (by simp [rowsV]; omega) fun h' he => ?_)
    rw [List.take_of_length_le (by omega)] at hD
    exact wpAny_bind (wpAny_pure (wpAny_pure (hR h' tk (fun b o h1 h2 e => he b o h2 (hk b o h1 h2 e)) (hD.extBut he hDI))))
  | succ f ih =>
    intro i t h tk hf hit hl hr hD hk
    have hi : i < rs.length := by omega
    have hm : rs[i] ∈ rs := List.getElem_mem hi
    refine codeAny_builtin entry_update_loop ?_
    rw [Around.under_plainId plain_update_loop _]
    show wpAny _ A.in1 (pyNext (.ref I) >>= _) _ _ _
    refine wpAny_bind (wpAny_pyNext_list_item (A := A.in1) (s := { s with heap := h, toks := tk }) (x := .ref (rs[i]).a) hit hl (by simp [rowsV, hi]) fun h' hit' hs => ?_)
    have hr' : ∀ r ∈ rs, h'.get? r.a = some r.obj := fun r q => hs.extBut _ _ (hrI r q).1 (hr r q)
    have hD' : h'.DictOf (intKind prog w) D (pairsR (rs.take i)) := hD.extBut hs.extBut hDI
    have hl' : h'.IsList l (rowsV rs).toArray := hl.extBut hs.extBut hlI
    refine wpAny_bind (wpAny_holding ?_)
    refine wpAny_bind (wpAny_tryCatch ?_)
    unfold Builtin.Dict.pairItems
    refine wpAny_bind (wpAny_typeOf (T := "tuple") ⟨_, hr' _ hm, rfl⟩ ?_)
    rw [if_pos (by decide)]
    unfold seqItems?
    refine wpAny_bind (wpAny_bind (wpAny_load (hr' _ hm) ?_))
    show wpAny _ _ (pure _) _ _ _
    refine wpAny_pure (wpAny_pure ?_)
    show wpAny _ _ (holding _ (dictSet D (.int (rs[i]).k (rs[i]).t) (rs[i]).v)) _ _ _
    refine wpAny_holding ?_
    refine wpAny_dictSet_pairs (knd := intKind prog w) (k := (rs[i]).k) (intKind_is _ _ _ _) hD' (fun h2 hD2 hs2 => ?_) (by rw [pairsR_length, List.length_take, sizeLine_eq]; omega)
    have e1 : stored (pairsR (rs.take i)) (rs[i]).k (rs[i]).v = pairsR (rs.take (i + 1)) := by
      rw [stored_new, List.take_add_one, List.getElem?_eq_getElem hi]
      · unfold pairsR
        rw [List.map_append]
        rfl
      · intro hmem
        unfold pairsR at hmem
        rw [List.map_map] at hmem
        obtain ⟨r, hr1, hr2⟩ := List.mem_map.mp hmem
        obtain ⟨j, hj, rfl⟩ := List.mem_iff_getElem.mp hr1
        have hj1 : j < i := by rw [List.length_take] at hj; omega
        have hpw := List.pairwise_iff_getElem.mp hn j i (by simp; omega) (by simp; omega) hj1
        simp only [List.getElem_map] at hpw
        refine hpw ?_
        rw [← hr2]
        simp
    rw [e1] at hD2
    refine wpAny_pure ⟨plainId_quiet plain_update_loop _, ?_⟩
    have hx : ∀ b o, b ≠ D → h'.get? b = some o → h2.get? b = some o := fun b o hb e => hs2.extBut b o hb e
    refine ih (i + 1) 0 h2 _ (by omega) (hit'.extBut hs2.extBut (Ne.symm hDI)) (hl'.extBut hs2.extBut (Ne.symm hDl)) (fun r q => hx _ _ (hrI r q).2 (hr' r q)) hD2 fun b o h1 h3 e => hx b o h1 (hs.extBut b o h3 (hk b o h1 h3 e))
end
section
variable {prog : Program} {w : World} {A : Around} {E : Value → Shared → Prop} {s : Shared} {h₀ : Heap} {L : Addr} {m : Str → Option Value} {news : List (Addr × Obj)}
theorem dict_of_rows {l : Addr} {rs : List Row} {n : Nat} {Q : Value → Shared → Prop} (hh : A.handled = none) (F : Fr h₀ L s.heap m) (N : News h₀ L s.heap news) (hbig : sysModules < h₀.objs.size) (hl : (l, W.listOf (rowsV rs).toArray n) ∈ news) (hr : ∀ r ∈ rs, (r.a, r.obj) ∈ news)
    (hn : (rs.map (·.k)).Nodup) (hlen : rs.length ≤ 1000)
    (h : ∀ D o h' tk, Fr h₀ L h' m → News h₀ L h' ((D, o) :: news) → (∀ q ∈ news, q.1 < D) → (D == sysModules) = false → o.IsDictOf (intKind prog w) (pairsR rs) → Q (.ref D) { s with heap := h', toks := tk }) :
    wpAny (model prog w) A (call (.type "dict") [.ref l]) Q E s := by
  refine callType_codes (Q₁ := fun obj s₁ => obj = .ref s.heap.objs.size ∧ s₁ = { s with heap := s.heap.push { cls := .type "dict", data := .dict #[] } }) PySem.F.kt_called_dict (PySem.F.kt_typeCall_dict_1 _) PySem.F.entry_dict_init (kt_code_dict_new _ ⟨rfl, rfl⟩) ?_
  rintro obj s₁ ⟨rfl, rfl⟩
  have hnew : (s.heap.push { cls := .type "dict", data := .dict #[] }).DictOf (intKind prog w) s.heap.objs.size [] := Heap.DictOf.new s.heap
  have hlx : s.heap.get? l = some (W.listOf (rowsV rs).toArray n) := (N _ hl).1
  have hll : l < s.heap.objs.size := Heap.lt_size hlx
  have up : ∀ b o, s.heap.get? b = some o → (s.heap.push { cls := .type "dict", data := .dict #[] }).get? b = some o := fun b o e => Heap.get?_push_of_some _ e
  refine ⟨hnew.typeIs, PySem.F.args_dict_init_2 _ _, ?_⟩
  unfold Builtin.«dict.__init__»
  refine wpAny_bind ?_
  unfold Builtin.Dict.selfAndRest
  refine wpAny_bind (wpAny_notOrdered_dict hnew.typeIs ?_)
  show wpAny _ _ (pure (s.heap.objs.size, [Value.ref l])) _ _ _
  refine wpAny_pure ?_
  show wpAny _ _ (Builtin.Dict.updateFrom "dict.__init__" s.heap.objs.size (.ref l) [] .none) _ _ _
  unfold Builtin.Dict.updateFrom
  refine wpAny_bind (wpAny_typeOf (T := "list") ⟨_, up _ _ hlx, rfl⟩ ?_)
  rw [if_pos (by decide)]
  refine wpAny_bind (keys_none (up _ _ hlx) hh fun h₁ tk₁ hk₁ => ?_)
  rw [if_pos (show (none : Option Value).isNone = true from rfl)]
  refine wpAny_bind (wpAny_rule ?_)
  have hl₁ : h₁.IsList l (rowsV rs).toArray := ⟨_, hk₁ _ _ (up _ _ hlx), rfl, n, rfl⟩
  refine wpAny_bind (wpAny_pyIter_list hl₁ ?_)
  have hD₁ : (h₁.push { cls := .type "list_iterator", data := .fields #[.ref l, .int 0 0] }).DictOf (intKind prog w) s.heap.objs.size [] := by
    obtain ⟨o', es, ep, ho, r⟩ := hnew
    exact ⟨o', es, ep, Heap.get?_push_of_some _ (hk₁ _ _ ho), r⟩
  have hDz : s.heap.objs.size < h₁.objs.size := by
    obtain ⟨o', es, ep, ho, r⟩ := hnew
    exact Heap.lt_size (hk₁ _ _ ho)
  refine wpAny_pure ⟨plainId_quiet plain_update_loop _, ?_⟩
  refine update_loop (A := A.in1) (s := s) (h₁ := s.heap) (l := l) (rs := rs) hh (Nat.ne_of_lt hDz) (Nat.ne_of_lt (Nat.lt_trans hll hDz)) (Nat.ne_of_gt hll) (fun r hm => ?_) hn hlen (fun h' tk hk hD => ?_) rs.length 0 0 _ _ (Nat.zero_add _) ⟨_, Heap.get?_push_size _ rfl, rfl, rfl⟩ (hl₁.push _) (fun r hm => Heap.get?_push_of_some _ (hk₁ _ _ (up _ _ (N _ (hr r hm)).1))) hD₁ (fun b o _ _ e => Heap.get?_push_of_some _ (hk₁ _ _ (up _ _ e)))
  · have hlt : r.a < s.heap.objs.size := Heap.lt_size (N _ (hr r hm)).1
    exact ⟨Nat.ne_of_lt (Nat.lt_trans hlt hDz), Nat.ne_of_lt hlt⟩
  · have hkk : ∀ b o, s.heap.get? b = some o → h'.get? b = some o := fun b o e => hk b o (Nat.ne_of_lt (Heap.lt_size e)) (Nat.ne_of_lt (Nat.lt_trans (Heap.lt_size e) hDz)) e
    obtain ⟨o', ho', hd'⟩ := Heap.dictOf_iff.mp hD
    exact ⟨rfl, h _ o' h' tk (F.kept hkk) (N.kept_cons F hkk (Nat.le_refl _) ho') (fun q hq => Heap.lt_size (N q hq).1) (F.notModules hbig) hd'⟩
end
end
section
set_option maxHeartbeats 2000000
section
variable {prog : Program} {w : World}
theorem rows_of {h : Heap} : ∀ (kvs : List (Int × Value)) (as : List Addr), as.length = kvs.length →
    (∀ (j : Nat) (a : Addr), as[j]? = some a → ∃ key k x, kvs[j]? = some (k, x) ∧ (intKind prog w).is k key = true ∧ h.get? a = some ({ cls := .type "tuple", data := .seq #[key, x] } : Obj)) →
    ∃ rs : List Row, pairsR rs = kvs ∧ rs.map (·.a) = as ∧ ∀ r ∈ rs, h.get? r.a = some r.obj
  | [], [], _, _ => ⟨[], rfl, rfl, fun _ hr => nomatch hr⟩
  | [], _ :: _, hl, _ => by simp at hl
  | _ :: _, [], hl, _ => by simp at hl
  | p :: kvs, a :: as, hl, hp => by
    obtain ⟨rs, h1, h2, h3⟩ := rows_of kvs as (by simpa using hl) fun j b hj => by
      obtain ⟨key, k, x, e1, e2, e3⟩ := hp (j + 1) b (by simpa using hj)
      exact ⟨key, k, x, by simpa using e1, e2, e3⟩
    obtain ⟨key, k, x, e1, e2, e3⟩ := hp 0 a rfl
    obtain ⟨t, rfl⟩ := Value.isInt_shape e2
    have ep : p = (k, x) := by simpa using e1
    subst ep
    refine ⟨⟨a, k, t, x⟩ :: rs, ?_, ?_, fun r hr => ?_⟩
    · show (k, x) :: pairsR rs = _
      rw [h1]
    · show a :: rs.map (·.a) = _
      rw [h2]
    · rcases List.mem_cons.mp hr with rfl | hr
      · exact e3
      · exact h3 r hr
end
theorem rowsV_of {rs : List Row} {as : List Addr} (h : rs.map (·.a) = as) : as.map Value.ref = rowsV rs := by
  rw [← h, List.map_map]
  rfl
section
variable {prog : Program} {w : World} {A : Around} {E : Value → Shared → Prop} {s : Shared} {h₀ : Heap} {L v d : Addr} {m : Str → Option Value} {news : List (Addr × Obj)} {od : Obj} {kvs : List (Int × Value)} {Q : Value → Shared → Prop}
theorem items_rows (hh : A.handled = none) (F : Fr h₀ L s.heap m) (N : News h₀ L s.heap news) (hvw : (v, ({ cls := .type "dict_items", data := .fields #[.ref d] } : Obj)) ∈ news) (hmd : (d, od) ∈ news) (hod : od.IsDictOf (intKind prog w) kvs) (hn : kvs.length ≤ 1000)
    (h : ∀ (B : Addr) c h' tk rs, pairsR rs = kvs → (∀ q ∈ news, q.1 < B) → (∀ r ∈ rs, B < r.a) → Fr h₀ L h' m → News h₀ L h' ((B, W.listOf (rowsV rs).toArray c) :: (rowsL rs ++ news)) → Q (.ref B) { s with heap := h', toks := tk }) :
    wpAny (model prog w) A (call (.type "list") [.ref v]) Q E s := by
  obtain ⟨ep, hat⟩ := KdkAt.of hod
  refine kdx_call (knd := intKind prog w) (kvs := kvs) (ep := ep) hh ⟨_, (N _ hvw).1, rfl, rfl⟩ (hat.dictAt (N _ hmd).1) (by rw [sizeLine_eq]; omega) fun h' tk acc c as hk hS hl hG hacc => ?_
  obtain ⟨rs, h1, h2, h3⟩ := rows_of (prog := prog) (w := w) (h := h') kvs as hl hG.pairs
  have ea : acc = (rowsV rs).toArray := by
    apply Array.toList_inj.mp
    rw [hacc, rowsV_of h2]
  have hB : ∀ r ∈ rs, s.heap.objs.size < r.a := fun r hr => hG.above _ (by rw [← h2]; exact List.mem_map_of_mem hr)
  refine h _ c h' tk rs h1 (fun q hq => Heap.lt_size (N q hq).1) hB (F.keeps hk) fun q hq => ?_
  rcases List.mem_cons.mp hq with rfl | hq
  · exact ⟨by rw [← ea]; exact hS, kdx_fresh F (Nat.le_refl _)⟩
  · rcases List.mem_append.mp hq with hq | hq
    · obtain ⟨r, hr, rfl⟩ := List.mem_map.mp hq
      exact ⟨h3 r hr, kdx_fresh F (Nat.le_of_lt (hB r hr))⟩
    · exact ⟨hk _ _ (N q hq).1, (N q hq).2⟩
theorem intsAre_keys : ∀ {kvs : List (Int × Value)} {vs : List Value}, vs.length = kvs.length → (∀ (j : Nat) (v : Value), vs[j]? = some v → ∃ k x, kvs[j]? = some (k, x) ∧ (intKind prog w).is k v = true) → IntsAre vs (kvs.map (·.1))
  | [], [], _, _ => .nil
  | [], _ :: _, hl, _ => by simp at hl
  | _ :: _, [], hl, _ => by simp at hl
  | p :: kvs, v :: vs, hl, hv => by
    obtain ⟨k, x, e1, e2⟩ := hv 0 v rfl
    obtain ⟨t, rfl⟩ := Value.isInt_shape e2
    have ep : p = (k, x) := by simpa using e1
    subst ep
    exact .cons k t (intsAre_keys (by simpa using hl) fun j u hj => hv (j + 1) u (by simpa using hj))
theorem keys_list (hh : A.handled = none) (F : Fr h₀ L s.heap m) (N : News h₀ L s.heap news) (hmd : (d, od) ∈ news) (hod : od.IsDictOf (intKind prog w) kvs) (lo : (d == sysModules) = false) (hn : kvs.length ≤ 1000)
    (h : ∀ (B : Addr) c h' tk vs, IntsAre vs (kvs.map (·.1)) → (∀ q ∈ news, q.1 < B) → Fr h₀ L h' m → News h₀ L h' ((B, W.listOf vs.toArray c) :: news) → Q (.ref B) { s with heap := h', toks := tk }) :
    wpAny (model prog w) A (call (.type "list") [.ref d]) Q E s := by
  obtain ⟨ep, hat⟩ := (kda_dict N hmd hod).dictAt
  exact kdl_N (kdl_dict (knd := intKind prog w) (kvs := kvs) (ep := ep) lo) hh F N hat (by rw [sizeLine_eq]; omega) fun B c h' tk vs F' N' l1 hl hv => h B c h' tk vs (intsAre_keys hl hv) l1 F' N'
end
end
section
set_option maxHeartbeats 2000000
open PyProof.Rows.LCg PyProof.Rows.LCt
section
variable {prog : Program} {w : World} {A : Around} {E : Value → Shared → Prop} {s : Shared} {h₀ : Heap} {L : Addr} {m : Str → Option Value} {env : Env}
def SrcDT (prog : Program) (w : World) (A : Around) (h₀ : Heap) (L : Addr) (m : Str → Option Value) (env : Env) (ct elt : Expr) (x : Str) (scope : Scope) (cl : List (Str × Addr)) (Fin : Shared → List Value → List (Addr × Obj) → Prop) (xv : Value) (s₁ : Shared) : Prop :=
  ∃ d od kvs news, xv = .ref d ∧ A.handled = none ∧ Fr h₀ L s₁.heap m ∧ News h₀ L s₁.heap news ∧ (d, od) ∈ news ∧ od.IsDictOf (intKind prog w) kvs ∧ (d == sysModules) = false ∧ kvs.length ≤ sizeLine ∧
    ∀ s₂ : Shared, (∃ h, s₂ = { s₁ with heap := h }) → CompRestT prog w A h₀ L m env ct elt x scope cl s₂ (fun nw => (d, od) ∈ nw) (fun i v => ∃ k y, kvs[i]? = some (k, y) ∧ (intKind prog w).is k v = true) (Fin s₂) kvs.length 0 [] news
theorem dict_st {d I : Addr} {od : Obj} {kvs : List (Int × Value)} {ep : Nat} (ha : KdkAt (intKind prog w) od kvs ep) : ∀ i (h h' : Heap) (o : Obj) (nw : List (Addr × Obj)), (h.IsKeyIter I d i kvs.length ep ∧ h.DictAt (intKind prog w) d kvs ep) → h.get? I = some o → h'.get? I = some o → (∀ b o, h₀.get? b = some o → h'.get? b = some o) → News h₀ L h' nw → (d, od) ∈ nw → (h'.IsKeyIter I d i kvs.length ep ∧ h'.DictAt (intKind prog w) d kvs ep) :=
  fun i h h' o nw st e e' _ N S => ⟨by obtain ⟨o', q, r⟩ := st.1; rw [e] at q; cases q; exact ⟨o, e', r⟩, ha.dictAt (N _ S).1⟩
theorem ListComp_TD {ct elt iter : Expr} {x : Str} {px : Pos} {scope : Scope} {cl : List (Str × Addr)} {pos : Pos} {Q : Value → Shared → Prop} (F₀ : Fr h₀ L s.heap m)
    (hclos : closureFor scope env = pure cl) (hcell : ∀ y ∈ scope.names, y.2 ≠ .cell) (hkind : scope.kind = .function)
    (hnames : ∀ y ∈ scope.names, y.2 = .local → scope.names.lookup y.1 = some .local) (hx : scope.names.lookup x = some .local)
    (h : wpAny (model prog w) A (eval iter env) (SrcDT prog w A h₀ L m env ct elt x scope cl (fun s₂ => FinE h₀ L m s₂ Q)) E s)
    (hs : ∀ x, foldedSetIterable iter env x = pure x := by intro _; rfl) :
    wpAny (model prog w) A (eval (.ListComp elt [⟨.Name x px, iter, [ct], 0⟩] scope pos) env) Q E s := by
  rw [eval_ListComp]
  refine wpAny_comprehension_free (use := none) rfl hs hclos hkind hnames (wpAny_mono h (fun xv s₁ h₁ => ?_) fun _ _ e => e)
  obtain ⟨d, od, kvs, news, rfl, hh, F, N, hmd, hod, lo, hsz, R⟩ := h₁
  obtain ⟨ep, hat⟩ := KdkAt.of hod
  have hlt : d < s₁.heap.objs.size := Heap.lt_size (N _ hmd).1
  refine wpAny_pyIter_dict lo (hat.dictAt (N _ hmd).1) ?_
  have up : ∀ b o, s₁.heap.get? b = some o → (s₁.heap.push { cls := .type "dict_keyiterator", data := .fields #[.ref d, .int 0 0, .int kvs.length 0, .int ep 0] }).get? b = some o := fun b o e => Heap.get?_push_of_some _ e
  refine block_T (Walks.dictKeys (knd := intKind prog w) hh s₁.heap.objs.size d (Nat.ne_of_lt hlt) kvs ep) hsz (fun i h st => by obtain ⟨o, e, _⟩ := st.1; exact ⟨o, e⟩) (dict_st hat) hcell hkind hx ⟨⟨_, Heap.get?_push_size _ rfl, rfl, rfl⟩, (hat.dictAt (N _ hmd).1).push _⟩ (fun b hb => ?_)
    (F.keeps up) (N.grown up) (Nat.ne_of_lt F.ns.lt) (next_is_new F) (fun p hp => Nat.ne_of_lt (Heap.lt_size (N p hp).1)) hmd (R _ ⟨_, rfl⟩) ?_
  · show b < (s₁.heap.push _).objs.size
    rw [Heap.size_push]
    rcases List.mem_cons.mp hb with rfl | hb
    · exact Nat.lt_succ_self _
    · rw [List.mem_singleton.mp hb]; exact Nat.lt_succ_of_lt hlt
  · intro D C h tk m' ys news' F' N' o1 hn hC₀ hD₀ hCL hDL hCD offC fin
    refine ⟨m', hn, fun h'' hs'' => fin D h'' tk (F'.change hs'' hCL hC₀) (fun p hp => ?_) o1⟩
    refine ⟨hs''.extBut _ _ ?_ (N' p hp).1, (N' p hp).2⟩
    rcases List.mem_cons.mp hp with rfl | hp
    · exact Ne.symm hCD
    · exact offC p hp
theorem compEnd_mono {I C D : Addr} {oI oC oD : Obj} {S : List (Addr × Obj) → Prop} {r1 r2 : Value → List (Addr × Obj) → Prop} {s₁ s₂ : Shared} {y : Value} (h : CompEnd h₀ L m s₁ I oI C oC D oD S r1 y s₂) (hr : ∀ nw, r1 y nw → r2 y nw) : CompEnd h₀ L m s₁ I oI C oC D oD S r2 y s₂ := by
  obtain ⟨h', tk, nw, e, F, N, off, hS, r⟩ := h
  exact ⟨h', tk, nw, e, F, N, off, hS, hr _ r⟩
theorem restT_ind {ct elt : Expr} {x : Str} {scope : Scope} {cl : List (Str × Addr)} {S : List (Addr × Obj) → Prop} {P : Nat → Value → Prop} {Fin : List Value → List (Addr × Obj) → Prop} (J : Nat → List Value → List (Addr × Obj) → Prop) (total : Nat)
    (step : ∀ i ys news, i < total → J i ys news → ∀ v I oI C oC D m₂ h tk (E' : Value → Shared → Prop), P i v → NsObj oC m₂ → m₂ x = some v → Fr h₀ L h m → News h₀ L h ((I, oI) :: (C, oC) :: (D, lst ys) :: news) → Off3 I C D news → ((@Ne Nat I C) ∧ (@Ne Nat I D) ∧ (@Ne Nat C D)) →
      wpAny (model prog w) A (isTrue ct (compEnvC scope cl C env) (eval ct (compEnvC scope cl C env))) (fun ok s' => if ok = true then
        wpAny (model prog w) A (eval elt (compEnvC scope cl C env)) (CompEnd h₀ L m { s with heap := h, toks := tk } I oI C oC D (lst ys) S (fun y news' => J (i + 1) (ys ++ [y]) news')) E' s'
        else CompEnd h₀ L m { s with heap := h, toks := tk } I oI C oC D (lst ys) S (fun _ news' => J (i + 1) ys news') Value.none s') E' { s with heap := h, toks := tk })
    (fin : ∀ ys news, J total ys news → Fin ys news) : ∀ n i ys news, i + n = total → J i ys news → CompRestT prog w A h₀ L m env ct elt x scope cl s S P Fin n i ys news
  | 0, i, ys, news, e, hJ => CompRestT.zero (fin _ _ (by rw [← e]; exact hJ))
  | n + 1, i, ys, news, e, hJ => CompRestT.succ fun v I oI C oC D m₂ h tk E' hP hC hx F N off ne =>
    wpAny_mono (step i ys news (by omega) hJ v I oI C oC D m₂ h tk E' hP hC hx F N off ne) (fun ok s' hq => by
      cases ok with
      | true =>
        rw [if_pos rfl] at hq ⊢
        exact wpAny_mono hq (fun y s2 hE => compEnd_mono hE fun nw hj => restT_ind J total step fin n (i + 1) _ nw (by omega) hj) fun _ _ x => x
      | false =>
        rw [if_neg Bool.false_ne_true] at hq ⊢
        exact compEnd_mono hq fun nw hj => restT_ind J total step fin n (i + 1) _ nw (by omega) hj) fun _ _ x => x
theorem rest_ind {elt : Expr} {x : Str} {scope : Scope} {cl : List (Str × Addr)} {S : List (Addr × Obj) → Prop} {P : Nat → Value → Prop} {Fin : List Value → List (Addr × Obj) → Prop} (J : Nat → List Value → List (Addr × Obj) → Prop) (total : Nat)
    (step : ∀ i ys news, i < total → J i ys news → ∀ v I oI C oC D m₂ h tk (E' : Value → Shared → Prop), P i v → NsObj oC m₂ → m₂ x = some v → Fr h₀ L h m → News h₀ L h ((I, oI) :: (C, oC) :: (D, lst ys) :: news) → Off3 I C D news → ((@Ne Nat I C) ∧ (@Ne Nat I D) ∧ (@Ne Nat C D)) →
      wpAny (model prog w) A (eval elt (compEnvC scope cl C env)) (CompEnd h₀ L m { s with heap := h, toks := tk } I oI C oC D (lst ys) S (fun y news' => J (i + 1) (ys ++ [y]) news')) E' { s with heap := h, toks := tk })
    (fin : ∀ ys news, J total ys news → Fin ys news) : ∀ n i ys news, i + n = total → J i ys news → CompRest prog w A h₀ L m env elt x scope cl s S P Fin n i ys news
  | 0, i, ys, news, e, hJ => CompRest.zero (fin _ _ (by rw [← e]; exact hJ))
  | n + 1, i, ys, news, e, hJ => CompRest.succ fun v I oI C oC D m₂ h tk E' hP hC hx F N off ne =>
    wpAny_mono (step i ys news (by omega) hJ v I oI C oC D m₂ h tk E' hP hC hx F N off ne) (fun y s2 hE => compEnd_mono hE fun nw hj => rest_ind J total step fin n (i + 1) _ nw (by omega) hj) fun _ _ x => x
end
end
section
set_option maxHeartbeats 2000000
section
variable {prog : Program} {w : World} {A : Around} {E : Value → Shared → Prop} {s : Shared} {env : Env} {h₀ : Heap} {x : Str} {body : List Stmt} {Q : Flow → Shared → Prop}
/-- a loop over a dict's keys, the dict in the ledger and left alone -/
theorem iter_dict {d : Addr} {od : Obj} {kvs : List (Int × Value)} {m₀ : Str → Option Value} {news : List (Addr × Obj)} (J : Nat → (Str → Option Value) → List (Addr × Obj) → Prop)
    (hh : A.handled = none) (lo : (d == sysModules) = false) (hl : (d, od) ∈ news) (hod : od.IsDictOf (intKind prog w) kvs) (F : Fr h₀ env.locals s.heap m₀) (N : News h₀ env.locals s.heap news) (hj : J 0 m₀ news)
    (turn : ∀ i k t m₁ news₁ h tk own, (kvs.map (·.1))[i]? = some k → news₁.map (·.1) = news.map (·.1) → OwnOff own (news.map (·.1)) → (d, od) ∈ news₁ → J i m₁ news₁ → Fr h₀ env.locals h (fun y => if y = x then some (.int k t) else m₁ y) → News h₀ env.locals h (news₁ ++ own) →
      wpAny (model prog w) A (execs body env) (InvPostN h₀ env.locals (fun m' nx => (d, od) ∈ nx ∧ J (i + 1) m' nx) own (news.map (·.1)) { s with heap := h, toks := tk } Q) E { s with heap := h, toks := tk })
    (done : ∀ m₁ news₁ h tk, J kvs.length m₁ news₁ → Fr h₀ env.locals h m₁ → News h₀ env.locals h news₁ → Q .next { s with heap := h, toks := tk }) :
    wpAny (model prog w) A (pyIter (.ref d)) (fun it s₂ => LoopAtV prog w A h₀ env x body Q E it s₂) E s := by
  have hol : s.heap.get? d = some od := (N _ hl).1
  have hlt : d < s.heap.objs.size := Heap.lt_size hol
  obtain ⟨ep, hat⟩ := KdkAt.of hod
  refine wpAny_pyIter_dict lo (hat.dictAt hol) ?_
  refine ⟨_, _, _, kvs.length, _, _, m₀, news, (fun i m nx => nx.map (·.1) = news.map (·.1) ∧ (d, od) ∈ nx ∧ J i m nx), rfl, Walks.dictKeys (knd := intKind prog w) hh s.heap.objs.size d (Nat.ne_of_lt hlt) kvs ep, ?_, ?_, ?_,
    ⟨⟨_, Heap.get?_push_size _ rfl, rfl, rfl⟩, (hat.dictAt hol).push _⟩, F.push _, (fun p hp => ⟨Heap.get?_push_of_some _ (N p hp).1, (N p hp).2⟩), ⟨rfl, hl, hj⟩, ?_, ?_⟩
  · intro hm
    rcases List.mem_cons.mp hm with e | hm
    · exact absurd F.ns.lt (e ▸ Nat.lt_irrefl _)
    · exact (N _ hl).2.1 ((List.mem_singleton.mp hm).symm)
  · intro b hb
    rw [List.mem_singleton.mp hb]
    exact next_is_new F
  · intro p hp hI
    exact absurd (Heap.lt_size (N p hp).1) ((List.mem_singleton.mp hI) ▸ Nat.lt_irrefl _)
  · rintro i v m₁ news₁ s₁ own ⟨hh', tk', rfl⟩ hin ⟨k, y, hky, hv⟩ ⟨hadr, hl₁, hJ⟩ hoff hown hget hfp _ F₁ N₁
    obtain ⟨t, rfl⟩ := Value.isInt_shape hv
    have hkk : (kvs.map (·.1))[i]? = some k := by rw [List.getElem?_map, hky]; rfl
    have hsep : OwnOff (own.filter fun p => decide (p.1 = s.heap.objs.size)) (news.map (·.1)) := by
      intro p hp b hb e
      obtain ⟨q, hq, rfl⟩ := List.mem_map.mp hb
      have h1 : p.1 = s.heap.objs.size := by simpa using (List.mem_filter.mp hp).2
      exact absurd (Heap.lt_size (N q hq).1) (by rw [← e, h1]; exact Nat.lt_irrefl _)
    have N₂ : News h₀ env.locals hh' (news₁ ++ own.filter fun p => decide (p.1 = s.heap.objs.size)) := fun p hp => N₁ p ((List.mem_append.mp hp).elim (fun h => List.mem_append.mpr (.inr h)) fun h => List.mem_append.mpr (.inl ((List.mem_filter.mp h).1)))
    have hlo : hh'.get? d = some od := (N₁ _ (List.mem_append.mpr (.inr hl₁))).1
    refine wpAny_mono (turn i k t m₁ news₁ hh' tk' _ hkk hadr hsep hl₁ hJ F₁ N₂) (fun f s₂ p => ?_) fun _ _ e => e
    have fin : InvEndN h₀ env.locals (fun m' nx => (d, od) ∈ nx ∧ J (i + 1) m' nx) (own.filter fun p => decide (p.1 = s.heap.objs.size)) (news.map (·.1)) { s with heap := hh', toks := tk' } s₂ →
        LoopStepU h₀ env.locals [s.heap.objs.size] own (fun m nx => nx.map (·.1) = news.map (·.1) ∧ (d, od) ∈ nx ∧ J (i + 1) m nx) { s with heap := hh', toks := tk' } .next s₂ := by
      rintro ⟨h', tk, m', news', nx, e, F', N', hn, ho, ha, hm⟩
      refine ⟨rfl, h', tk, m', nx, e, F', fun p hp => ?_, fun p hp => ?_, ha, hm⟩
      · rcases List.mem_append.mp hp with h | h
        · by_cases hI : p.1 = s.heap.objs.size
          · exact N' p (ho p (List.mem_filter.mpr ⟨h, by simpa using hI⟩))
          · have h1 : p.1 = d := by
              rcases List.mem_cons.mp (hown p h) with h2 | h2
              · exact absurd h2 hI
              · exact List.mem_singleton.mp h2
            have h2 : hh'.get? p.1 = some p.2 := hget p h
            rw [h1, hlo] at h2
            have h3 : p = (d, od) := Prod.ext h1 (Option.some.inj h2).symm
            rw [h3]
            exact N' _ (hn _ hm.1)
        · exact N' p (hn p h)
      · have h1 : p.1 ∈ nx.map (·.1) := List.mem_map.mpr ⟨p, hp, rfl⟩
        rw [ha] at h1
        obtain ⟨q, hq, e⟩ := List.mem_map.mp h1
        intro hI
        exact absurd (Heap.lt_size (N q hq).1) (by rw [e, List.mem_singleton.mp hI]; exact Nat.lt_irrefl _)
    cases f with
    | ret v => exact .ret p
    | brk => exact .brk p
    | next => exact .next (fin p)
    | cont => exact .cont (fin p)
  · rintro h' tk m' news' F' N' _ ⟨_, hl', hJ⟩
    exact done m' news' h' tk hJ F' N'

theorem kst_dict {σ : Type} {d : Addr} {od : Obj} {kvs : List (Int × Value)} {m₀ : Str → Option Value} (Led : σ → List (Addr × Obj)) (ps : σ → List (Str × Value)) (Facts : σ → Prop) (stored : List Str) (P : List Int → σ → Prop) (c₀ : σ)
    (hh : A.handled = none) (lo : (d == sysModules) = false) (hl : ∀ c : σ, (d, od) ∈ Led c) (hod : od.IsDictOf (intKind prog w) kvs) (F : Fr h₀ env.locals s.heap m₀) (N : News h₀ env.locals s.heap (Led c₀)) (hf : Facts c₀) (hk : ∀ p ∈ ps c₀, m₀ p.1 = some p.2) (hp : P [] c₀)
    (turn : ∀ (c : σ) pre post n t (u : Str → Option Value) h tk own, kvs.map (·.1) = pre ++ n :: post → OwnOff own ((Led c₀).map (·.1)) → Facts c → P pre c →
      Fr h₀ env.locals h (fun y => if y = x then some (.int n t) else kstB (fun z => if stored.contains z then u z else m₀ z) (ps c) y) → News h₀ env.locals h (Led c ++ own) →
      wpAny (model prog w) A (execs body env) (InvPostN h₀ env.locals (KstS Led ps Facts x stored m₀ P (pre ++ [n])) own ((Led c₀).map (·.1)) { s with heap := h, toks := tk } Q) E { s with heap := h, toks := tk })
    (done : ∀ (c : σ) (u : Str → Option Value) h tk, Facts c → P (kvs.map (·.1)) c → Fr h₀ env.locals h (fun y => if y = x then u y else kstB (fun z => if stored.contains z then u z else m₀ z) (ps c) y) → News h₀ env.locals h (Led c) → Q .next { s with heap := h, toks := tk }) :
    wpAny (model prog w) A (pyIter (.ref d)) (fun it s₂ => LoopAtV prog w A h₀ env x body Q E it s₂) E s := by
  refine iter_dict (fun i m nx => KstS Led ps Facts x stored m₀ P ((kvs.map (·.1)).take i) m nx) hh lo (hl c₀) hod F N ⟨c₀, rfl, hf, hk, fun _ _ _ _ => rfl, by simpa using hp⟩ ?_ ?_
  · rintro i n t m₁ nx h tk own hn _ hoff _ ⟨c, rfl, hf', h1, h2, hp'⟩ F₁ N₁
    have hs : (kvs.map (·.1)).take (i + 1) = (kvs.map (·.1)).take i ++ [n] := by rw [List.take_add_one, hn]; rfl
    have e : kvs.map (·.1) = (kvs.map (·.1)).take i ++ n :: (kvs.map (·.1)).drop (i + 1) := by
      have ht := List.take_append_drop (i + 1) (kvs.map (·.1))
      rw [hs, List.append_assoc] at ht
      exact ht.symm
    rw [hs]
    refine wpAny_mono (turn c _ _ n t m₁ h tk own e hoff hf' hp' (kst_fr h1 h2 F₁) N₁) (fun f s₂ p => ?_) fun _ _ x => x
    have up : InvEndN h₀ env.locals (KstS Led ps Facts x stored m₀ P ((kvs.map (·.1)).take i ++ [n])) own ((Led c₀).map (·.1)) { s with heap := h, toks := tk } s₂ →
        InvEndN h₀ env.locals (fun m' nx => (d, od) ∈ nx ∧ KstS Led ps Facts x stored m₀ P ((kvs.map (·.1)).take i ++ [n]) m' nx) own ((Led c₀).map (·.1)) { s with heap := h, toks := tk } s₂ := by
      rintro ⟨h', tk', m', news', nx', e', F', N', hn', ho', ha, hS⟩
      refine ⟨h', tk', m', news', nx', e', F', N', hn', ho', ha, ?_, hS⟩
      obtain ⟨c', rfl, _⟩ := hS
      exact hl c'
    cases f with
    | ret v => exact p
    | brk => exact p
    | next => exact up p
    | cont => exact up p
  · rintro m₁ nx h tk ⟨c, rfl, hf', h1, h2, hp'⟩ F₁ N₁
    rw [List.take_of_length_le (Nat.le_of_eq (List.length_map _))] at hp'
    exact done c m₁ h tk hf' hp' (kst_frOut h1 h2 F₁) N₁
end
end
section
set_option maxHeartbeats 2000000
def Rises (l : List Nat) : Prop := l.Pairwise (· < ·)
theorem Rises.lt {xs : Array Nat} (h : Rises xs.toList) {i k d : Nat} (hik : i < k) (hk : k < xs.size) : xs.getD i d < xs.getD k d := by
  have hi : i < xs.size := by omega
  have e1 : xs.getD i d = xs.toList[i]'(by simpa using hi) := by simp [Array.getD, hi]
  have e2 : xs.getD k d = xs.toList[k]'(by simpa using hk) := by simp [Array.getD, hk]
  rw [e1, e2]
  exact List.pairwise_iff_getElem.mp h i k _ _ hik
theorem below_go {xs : Array Nat} {j : Nat} (hr : Rises xs.toList) : ∀ (f lo hi : Nat), hi - lo ≤ f → lo ≤ hi → hi ≤ xs.size → (∀ i, i < lo → xs.getD i j < j) → (∀ i, hi ≤ i → i < xs.size → j ≤ xs.getD i j) →
    (SetTable.below.go xs j f lo hi ≤ xs.size ∧ (∀ i, i < SetTable.below.go xs j f lo hi → xs.getD i j < j) ∧ (∀ i, SetTable.below.go xs j f lo hi ≤ i → i < xs.size → j ≤ xs.getD i j))
  | 0, lo, hi, h1, h2, h3, ha, hb => by
    have e : lo = hi := by omega
    subst e
    exact ⟨h3, ha, hb⟩
  | f + 1, lo, hi, h1, h2, h3, ha, hb => by
    unfold SetTable.below.go
    by_cases hlt : lo < hi
    · rw [if_pos hlt]
      dsimp only
      by_cases hm : xs.getD ((lo + hi) / 2) j < j
      · rw [if_pos hm]
        refine below_go hr f _ hi (by omega) (by omega) h3 (fun i hi' => ?_) hb
        rcases Nat.lt_or_ge i ((lo + hi) / 2) with h | h
        · have := hr.lt (d := j) h (show (lo + hi) / 2 < xs.size by omega)
          omega
        · have e : i = (lo + hi) / 2 := by omega
          rw [e]; exact hm
      · rw [if_neg hm]
        refine below_go hr f lo _ (by omega) (by omega) (by omega) ha (fun i h4 h5 => ?_)
        rcases Nat.lt_or_ge ((lo + hi) / 2) i with h | h
        · have := hr.lt (d := j) h h5
          omega
        · have e : i = (lo + hi) / 2 := by omega
          rw [e]; omega
    · rw [if_neg hlt]
      have e : lo = hi := by omega
      subst e
      exact ⟨h3, ha, hb⟩
theorem below_spec {xs : Array Nat} (hr : Rises xs.toList) (j : Nat) : SetTable.below xs j ≤ xs.size ∧ (∀ i, i < SetTable.below xs j → xs.getD i j < j) ∧ (∀ i, SetTable.below xs j ≤ i → i < xs.size → j ≤ xs.getD i j) :=
  below_go hr _ 0 _ (by omega) (Nat.zero_le _) (Nat.le_refl _) (fun i hi => absurd hi (Nat.not_lt_zero _)) (fun i h1 h2 => by omega)
/-- a place not there is put so that the places rise -/
theorem put_rises {xs : Array Nat} (hr : Rises xs.toList) {j : Nat} (hn : xs[SetTable.below xs j]? ≠ some j) : Rises (SetTable.insertAt xs (SetTable.below xs j) j).toList := by
  obtain ⟨h1, h2, h3⟩ := below_spec hr j
  rw [SetTable.toList_insertAt]
  refine List.pairwise_append.mpr ⟨hr.sublist (List.take_sublist _ _), List.pairwise_cons.mpr ⟨fun b hb => ?_, hr.sublist (List.drop_sublist _ _)⟩, fun a ha b hb => ?_⟩
  · obtain ⟨i, hi, rfl⟩ := List.mem_iff_getElem.mp hb
    rw [List.getElem_drop]
    have hlt : SetTable.below xs j + i < xs.size := by simp at hi; omega
    have h4 := h3 _ (Nat.le_add_right _ i) hlt
    have e : xs.getD (SetTable.below xs j + i) j = xs.toList[SetTable.below xs j + i]'(by simpa using hlt) := by simp [Array.getD, hlt]
    rw [e] at h4
    rcases Nat.lt_or_ge j (xs.toList[SetTable.below xs j + i]'(by simpa using hlt)) with h | h
    · exact h
    · exfalso
      rcases Nat.eq_zero_or_pos i with rfl | hpos
      · refine hn ?_
        have e2 : xs[SetTable.below xs j]? = some (xs.toList[SetTable.below xs j + 0]'(by simpa using hlt)) := by simp [show SetTable.below xs j < xs.size by omega]
        rw [e2]
        congr 1
        omega
      · have h5 := h3 (SetTable.below xs j) (Nat.le_refl _) (by omega)
        have h6 := hr.lt (d := j) (show SetTable.below xs j < SetTable.below xs j + i by omega) hlt
        rw [e] at h6
        omega
  · have ha' : a < j := by
      obtain ⟨i, hi, rfl⟩ := List.mem_iff_getElem.mp ha
      rw [List.getElem_take]
      have hlt : i < SetTable.below xs j := by simp at hi; omega
      have h4 := h2 i hlt
      have hs : i < xs.size := by omega
      have e : xs.getD i j = xs.toList[i]'(by simpa using hs) := by simp [Array.getD, hs]
      rw [e] at h4
      exact h4
    rcases List.mem_cons.mp hb with rfl | hb
    · exact ha'
    · obtain ⟨i, hi, rfl⟩ := List.mem_iff_getElem.mp hb
      rw [List.getElem_drop]
      have hlt : SetTable.below xs j + i < xs.size := by simp at hi; omega
      have h4 := h3 _ (Nat.le_add_right _ i) hlt
      have e : xs.getD (SetTable.below xs j + i) j = xs.toList[SetTable.below xs j + i]'(by simpa using hlt) := by simp [Array.getD, hlt]
      rw [e] at h4
      omega

/-- which places the search comes by, in so many leaps -/
noncomputable def acc (mask : Nat) : Nat → Nat → Nat → Nat
  | 0, _, _ => 0
  | m + 1, i, pt => ((2 ^ (SetTable.runEnd mask i + 1 - i) - 1) <<< i) ||| acc mask m ((i * 5 + 1 + pt / 32) % (mask + 1)) (pt / 32)
noncomputable def Seen (mask : Nat) : Nat → Nat → Nat → Nat → Prop
  | 0, _, _, _ => False
  | m + 1, i, pt, j => (i ≤ j ∧ j ≤ SetTable.runEnd mask i) ∨ Seen mask m ((i * 5 + 1 + pt / 32) % (mask + 1)) (pt / 32) j
theorem seen_of {mask j : Nat} : ∀ (m i pt : Nat), (acc mask m i pt).testBit j = true → Seen mask m i pt j
  | 0, i, pt, h => by simp [acc] at h
  | m + 1, i, pt, h => by
    unfold acc at h
    rw [Nat.testBit_or, Bool.or_eq_true] at h
    rcases h with h | h
    · left
      rw [Nat.testBit_shiftLeft, Bool.and_eq_true, Nat.testBit_two_pow_sub_one] at h
      have h1 := h.1
      have h2 := h.2
      simp only [ge_iff_le, decide_eq_true_eq] at h1 h2
      omega
    · exact .inr (seen_of m _ _ h)
def hs : List Int := [-2, 0, 1, 2, 3, 4, 5, 6, 7, 8, 9, 10, 11, 12, 13, 14, 15, 16, 17]
noncomputable def covered (mask : Nat) : Bool := hs.all fun h => acc mask (SetTable.turns mask) (SetTable.bits h % (mask + 1)) (SetTable.bits h) == 2 ^ (mask + 1) - 1
theorem covered7 : covered 7 = true := by decide +kernel
theorem covered31 : covered 31 = true := by decide +kernel
theorem covered127 : covered 127 = true := by decide +kernel
theorem seen_all {mask : Nat} (hc : covered mask = true) {h : Int} (hh : h ∈ hs) {j : Nat} (hj : j ≤ mask) : Seen mask (SetTable.turns mask) (SetTable.bits h % (mask + 1)) (SetTable.bits h) j := by
  have := List.all_eq_true.mp hc h hh
  refine seen_of _ _ _ ?_
  rw [beq_iff_eq.mp this, Nat.testBit_two_pow_sub_one]
  exact decide_eq_true (by omega)
theorem hash_in {k : Int} (h1 : -2 ≤ k) (h2 : k ≤ 17) : hashInt k ∈ hs := by
  obtain ⟨n, rfl⟩ : ∃ n : Nat, k = (n : Int) - 2 := ⟨(k + 2).toNat, by omega⟩
  have all : ∀ n : Nat, n < 20 → hashInt ((n : Int) - 2) ∈ hs := by decide +kernel
  exact all n (by omega)
end
section
set_option maxHeartbeats 2000000
theorem length_le_of_sub {α : Type} [DecidableEq α] : ∀ (l1 l2 : List α), l1.Nodup → (∀ a ∈ l1, a ∈ l2) → l1.length ≤ l2.length
  | [], l2, _, _ => Nat.zero_le _
  | a :: l1, l2, hn, hs => by
    have hn' := List.nodup_cons.mp hn
    have hm : a ∈ l2 := hs a (.head _)
    have ih := length_le_of_sub l1 (l2.erase a) hn'.2 fun b hb => (List.mem_erase_of_ne (fun e : b = a => hn'.1 (by rw [← e]; exact hb))).mpr (hs b (.tail _ hb))
    rw [List.length_erase_of_mem hm] at ih
    have : 0 < l2.length := List.length_pos_of_mem hm
    rw [List.length_cons]
    omega
def Live (t : SetTable) (j : Nat) : Prop := t.place[SetTable.below t.place j]? = some j
theorem slot_live {t : SetTable} (hd : t.dummies = #[]) {j : Nat} (h : Live t j) : t.slot j = .live (SetTable.below t.place j) := by
  unfold SetTable.slot
  dsimp only
  rw [if_pos (by rw [h]; simp)]
theorem slot_empty {t : SetTable} (hd : t.dummies = #[]) {j : Nat} (h : ¬ Live t j) : t.slot j = .empty := by
  unfold SetTable.slot
  dsimp only
  rw [if_neg (by unfold Live at h; simpa using h), if_neg]
  rw [hd]
  unfold SetTable.has
  simp
section
variable {t : SetTable} {h : Int}
theorem go_step (hd : t.dummies = #[]) {f : Nat} {p : SetTable.Probe} (hl : Live t p.j) : SetTable.probe.go t (fun _ => h + 1) h (f + 1) p = SetTable.probe.go t (fun _ => h + 1) h f (t.advance p) := by
  rw [SetTable.probe.go, slot_live hd hl]
  dsimp only
  rw [if_neg (by simp; omega)]
theorem go_stop (hd : t.dummies = #[]) {f : Nat} {p : SetTable.Probe} (hl : ¬ Live t p.j) : SetTable.probe.go t (fun _ => h + 1) h (f + 1) p = some (.empty p.j p.dummy) := by
  rw [SetTable.probe.go, slot_empty hd hl]
theorem go_run (hd : t.dummies = #[]) : ∀ (k f : Nat) (p : SetTable.Probe), p.more = k → SetTable.probe.go t (fun _ => h + 1) h (f + (k + 1)) p = none →
    (∀ j, p.j ≤ j → j ≤ p.j + k → Live t j) ∧ SetTable.probe.go t (fun _ => h + 1) h f { p with j := (p.i * 5 + 1 + p.perturb / 32) % (t.mask + 1), more := SetTable.runEnd t.mask ((p.i * 5 + 1 + p.perturb / 32) % (t.mask + 1)) - (p.i * 5 + 1 + p.perturb / 32) % (t.mask + 1), i := (p.i * 5 + 1 + p.perturb / 32) % (t.mask + 1), perturb := p.perturb / 32 } = none
  | 0, f, p, hm, hg => by
    by_cases hl : Live t p.j
    · rw [show f + (0 + 1) = f + 1 from rfl, go_step hd hl] at hg
      refine ⟨fun j h1 h2 => ?_, ?_⟩
      · have e : j = p.j := by omega
        rw [e]; exact hl
      · unfold SetTable.advance at hg
        rw [if_neg (by omega)] at hg
        exact hg
    · rw [show f + (0 + 1) = f + 1 from rfl, go_stop hd hl] at hg
      cases hg
  | k + 1, f, p, hm, hg => by
    by_cases hl : Live t p.j
    · rw [show f + (k + 1 + 1) = f + (k + 1) + 1 from rfl, go_step hd hl] at hg
      unfold SetTable.advance at hg
      rw [if_pos (by omega)] at hg
      obtain ⟨h1, h2⟩ := go_run hd k f _ (by dsimp only; omega) hg
      refine ⟨fun j h3 h4 => ?_, h2⟩
      by_cases e : j = p.j
      · rw [e]; exact hl
      · exact h1 j (by dsimp only; omega) (by dsimp only; omega)
    · rw [show f + (k + 1 + 1) = f + (k + 1) + 1 from rfl, go_stop hd hl] at hg
      cases hg
theorem runEnd_le (mask i : Nat) : i ≤ SetTable.runEnd mask i ∧ SetTable.runEnd mask i ≤ i + 9 := by
  unfold SetTable.runEnd
  split <;> omega
theorem go_none (hd : t.dummies = #[]) : ∀ (m f i pt : Nat), 10 * m ≤ f → SetTable.probe.go t (fun _ => h + 1) h f ⟨i, SetTable.runEnd t.mask i - i, i, pt, none⟩ = none → ∀ j, Seen t.mask m i pt j → Live t j
  | 0, f, i, pt, _, _, j, hs => hs.elim
  | m + 1, f, i, pt, hf, hg, j, hs => by
    have hr := runEnd_le t.mask i
    obtain ⟨f', rfl⟩ : ∃ f', f = f' + (SetTable.runEnd t.mask i - i + 1) := ⟨f - (SetTable.runEnd t.mask i - i + 1), by omega⟩
    obtain ⟨h1, h2⟩ := go_run hd _ f' _ rfl hg
    rcases hs with ⟨h3, h4⟩ | hs
    · exact h1 j h3 (by dsimp only; omega)
    · exact go_none hd m f' _ _ (by omega) h2 j hs
theorem go_some (hd : t.dummies = #[]) : ∀ (f : Nat) (p : SetTable.Probe), p.dummy = none → ∀ met, SetTable.probe.go t (fun _ => h + 1) h f p = some met → ∃ j, met = .empty j none ∧ ¬ Live t j
  | 0, p, _, met, hg => by cases hg
  | f + 1, p, hp, met, hg => by
    by_cases hl : Live t p.j
    · rw [go_step hd hl] at hg
      refine go_some hd f _ ?_ met hg
      unfold SetTable.advance
      split
      · exact hp
      · exact hp
    · rw [go_stop hd hl, hp] at hg
      exact ⟨p.j, (Option.some.inj hg).symm, hl⟩
theorem live_mem {j : Nat} (h : Live t j) : j ∈ t.place.toList := by
  have := Array.mem_of_getElem? h
  exact Array.mem_toList_iff.mpr this
theorem freeSlot_ok (hd : t.dummies = #[]) (hc : covered t.mask = true) (hh : h ∈ hs) (hz : t.place.size ≤ t.mask) : ∃ j, t.freeSlot h = some (j, false) ∧ ¬ Live t j := by
  unfold SetTable.freeSlot
  cases hq : t.probe (fun _ => h + 1) h (t.probeStart h) with
  | none =>
    exfalso
    unfold SetTable.probe at hq
    have all : ∀ j, j ≤ t.mask → j ∈ t.place.toList := fun j hj => live_mem (go_none hd (SetTable.turns t.mask) _ _ _ (Nat.le_refl _) hq j (seen_all hc hh hj))
    have := length_le_of_sub (List.range (t.mask + 1)) t.place.toList List.nodup_range fun a ha => all a (by have := List.mem_range.mp ha; omega)
    rw [List.length_range, Array.length_toList] at this
    omega
  | some met =>
    obtain ⟨j, rfl, hl⟩ := go_some hd _ _ rfl met hq
    exact ⟨j, rfl, hl⟩
end
/-- a table of n places that never gave way -/
structure TabP (t : SetTable) (n : Nat) : Prop where
  rises : Rises t.place.toList
  dum : t.dummies = #[]
  size : t.place.size = n
  mask : t.mask = 7 ∨ t.mask = 31 ∨ t.mask = 127
  plain : t.plain = true
theorem TabP.covered {t : SetTable} {n : Nat} (h : TabP t n) : covered t.mask = true := by
  rcases h.mask with e | e | e <;> rw [e]
  · exact covered7
  · exact covered31
  · exact covered127
theorem TabP.fill {t : SetTable} {n : Nat} (h : TabP t n) : t.fill = n := by
  unfold SetTable.fill
  rw [h.size, h.dum]
  rfl
theorem TabP.fits {t : SetTable} {n : Nat} (h : TabP t n) (hz : n ≤ t.mask) : t.fits n = true := by
  unfold SetTable.fits
  rw [h.fill, h.size]
  simp [hz]
theorem layNew_ok {t : SetTable} {es : Array (Int × Value)} {h : Int} {x : Value} (ht : TabP t es.size) (hh : h ∈ hs) (hroom : es.size * 5 < t.mask * 3) :
    TabP (layNew t es h x).2.1 (es.size + 1) ∧ (layNew t es h x).2.1.led = t.led ∧ (layNew t es h x).2.1.mask = t.mask ∧ (layNew t es h x).2.2.1 = false ∧ (layNew t es h x).1.size = es.size + 1 := by
  obtain ⟨j, hj, hl⟩ := freeSlot_ok ht.dum ht.covered hh (by rw [ht.size]; have := ht.mask; omega)
  have hsz : ∀ p, (SetTable.insertAt es p (h, x)).size = es.size + 1 := fun p => by
    rw [← Array.length_toList, (SetTable.insertAt_perm es p (h, x)).length_eq]
    simp
  have hp : TabP (t.put j).1 (es.size + 1) := by
    refine ⟨put_rises ht.rises hl, ?_, ?_, ht.mask, ht.plain⟩
    · show (if SetTable.has t.dummies j then _ else t.dummies) = #[]
      rw [ht.dum]
      rw [if_neg]
      unfold SetTable.has
      simp
    · show (SetTable.insertAt t.place _ j).size = _
      rw [← Array.length_toList, (SetTable.insertAt_perm _ _ _).length_eq, ← ht.size]
      simp
  have hm : (t.put j).1.mask = t.mask := rfl
  have hf : (t.put j).1.fits (es.size + 1) = true := hp.fits (by rw [hm]; have := ht.mask; omega)
  unfold layNew
  rw [hj]
  dsimp only
  rw [hsz]
  unfold SetTable.orStandIn
  rw [if_pos hf]
  exact ⟨hp, rfl, rfl, rfl, rfl⟩
section
variable {mask : Nat}
theorem free_some {owner : Array (Option Nat)} : ∀ (m i pt : Nat) (j : Nat), SetTable.layClean.free mask owner m i pt = some j → (owner.getD j (some 0)).isNone = true
  | 0, i, pt, j, h => by cases h
  | m + 1, i, pt, j, h => by
    unfold SetTable.layClean.free at h
    split at h
    · rename_i k hk
      cases h
      exact List.find?_some (p := fun k => (owner.getD (i + k) (some 0)).isNone) hk
    · exact free_some m _ _ j h
theorem free_none {owner : Array (Option Nat)} : ∀ (m i pt : Nat), SetTable.layClean.free mask owner m i pt = none → ∀ j, Seen mask m i pt j → (owner.getD j (some 0)).isNone = false
  | 0, i, pt, _, j, hs => hs.elim
  | m + 1, i, pt, h, j, hs => by
    unfold SetTable.layClean.free at h
    split at h
    · cases h
    · rename_i hk
      rcases hs with ⟨h3, h4⟩ | hs
      · have := List.find?_eq_none.mp hk (j - i) (List.mem_range.mpr (by omega))
        rw [show i + (j - i) = j by omega] at this
        exact Bool.eq_false_iff.mpr this
      · exact free_none m _ _ h j hs
theorem free_ok (hc : covered mask = true) {h : Int} (hh : h ∈ hs) {owner : Array (Option Nat)} (hz : owner.size = mask + 1) {k : Nat} (hk : k ≤ mask) (hp : (owner.toList.filterMap id).length = k) :
    ∃ j, SetTable.layClean.free mask owner (SetTable.turns mask) (SetTable.bits h % (mask + 1)) (SetTable.bits h) = some j ∧ j < owner.size ∧ owner[j]? = some none := by
  cases hq : SetTable.layClean.free mask owner (SetTable.turns mask) (SetTable.bits h % (mask + 1)) (SetTable.bits h) with
  | none =>
    exfalso
    have all : ∀ o ∈ owner.toList, (id o).isSome = true := fun o ho => by
      obtain ⟨j, hj, rfl⟩ := List.mem_iff_getElem.mp ho
      have hj' : j < owner.size := by simpa using hj
      have q := free_none _ _ _ hq j (seen_all hc hh (by omega))
      have e : owner.getD j (some 0) = owner.toList[j] := by simp [Array.getD, hj']
      rw [e] at q
      cases hx : owner.toList[j] with
      | none => rw [hx] at q; cases q
      | some _ => rfl
    have : (owner.toList.filterMap id).length = owner.toList.length := List.filterMap_length_eq_length.mpr all
    rw [hp, Array.length_toList, hz] at this
    omega
  | some j =>
    have q := free_some _ _ _ j hq
    have hj : j < owner.size := by
      rcases Nat.lt_or_ge j owner.size with h | h
      · exact h
      · have e : owner.getD j (some 0) = some 0 := by simp [Array.getD, Nat.not_lt.mpr h]
        rw [e] at q; cases q
    refine ⟨j, rfl, hj, ?_⟩
    have e : owner.getD j (some 0) = owner[j] := by simp [Array.getD, hj]
    rw [e] at q
    rw [Array.getElem?_eq_getElem hj]
    cases hx : owner[j] with
    | none => rfl
    | some _ => rw [hx] at q; cases q
theorem set_perm {owner : Array (Option Nat)} {j k : Nat} (hj : j < owner.size) (hn : owner[j]? = some none) : ((owner.setIfInBounds j (some k)).toList.filterMap id).Perm (owner.toList.filterMap id ++ [k]) := by
  have hj' : j < owner.toList.length := by simpa using hj
  have hx : owner.toList[j] = none := by
    rw [Array.getElem?_eq_getElem hj] at hn
    simpa using hn
  have e1 : owner.toList = owner.toList.take j ++ none :: owner.toList.drop (j + 1) := by
    conv => lhs; rw [← List.take_append_drop j owner.toList]
    congr 1
    rw [List.drop_eq_getElem_cons hj', hx]
  have e2 : (owner.setIfInBounds j (some k)).toList = owner.toList.take j ++ some k :: owner.toList.drop (j + 1) := by
    rw [Array.toList_setIfInBounds, List.set_eq_take_append_cons_drop, if_pos hj']
  rw [e2]
  conv => rhs; rw [e1]
  rw [List.filterMap_append, List.filterMap_append, List.filterMap_cons_some (by rfl), List.filterMap_cons_none (by rfl)]
  exact (List.perm_middle.trans (List.perm_append_singleton _ _).symm)
end
end
section
set_option maxHeartbeats 2000000
def layF (mask : Nat) (acc : Option (Array (Option Nat) × Nat)) (h : Int) : Option (Array (Option Nat) × Nat) := do
  let (owner, k) ← acc
  let j ← SetTable.layClean.free mask owner (SetTable.turns mask) (SetTable.bits h % (mask + 1)) (SetTable.bits h)
  pure (owner.setIfInBounds j (some k), k + 1)
theorem layClean_eq (mask : Nat) (hashes : Array Int) : SetTable.layClean mask hashes = (hashes.toList.foldl (layF mask) (some (Array.replicate (mask + 1) none, 0))).map (·.1) := by
  unfold SetTable.layClean
  rw [← Array.foldl_toList]
  rfl
theorem lay_fold {mask : Nat} (hc : covered mask = true) : ∀ (l : List Int) (owner : Array (Option Nat)) (k : Nat), (∀ h ∈ l, h ∈ hs) → owner.size = mask + 1 → (owner.toList.filterMap id).Perm (List.range k) → k + l.length ≤ mask →
    ∃ owner', l.foldl (layF mask) (some (owner, k)) = some (owner', k + l.length) ∧ owner'.size = mask + 1 ∧ (owner'.toList.filterMap id).Perm (List.range (k + l.length))
  | [], owner, k, _, hz, hp, _ => ⟨owner, rfl, hz, hp⟩
  | h :: l, owner, k, hh, hz, hp, hk => by
    rw [List.length_cons] at hk
    obtain ⟨j, hj, hjz, hjn⟩ := free_ok hc (hh h (.head _)) hz (k := k) (by omega) (by rw [hp.length_eq, List.length_range])
    have e : layF mask (some (owner, k)) h = some (owner.setIfInBounds j (some k), k + 1) := by
      show (SetTable.layClean.free mask owner (SetTable.turns mask) (SetTable.bits h % (mask + 1)) (SetTable.bits h) >>= fun j => pure (owner.setIfInBounds j (some k), k + 1)) = _
      rw [hj]
      rfl
    rw [List.foldl_cons, e, List.length_cons, show k + (l.length + 1) = k + 1 + l.length by omega]
    refine lay_fold hc l _ (k + 1) (fun x hx => hh x (.tail _ hx)) (by simpa using hz) ?_ (by omega)
    refine (set_perm hjz hjn).trans ?_
    rw [List.range_succ]
    exact hp.append_right [k]
theorem layClean_ok {mask : Nat} (hc : covered mask = true) {hashes : Array Int} (hh : ∀ h ∈ hashes.toList, h ∈ hs) (hz : hashes.size ≤ mask) :
    ∃ owner, SetTable.layClean mask hashes = some owner ∧ owner.size = mask + 1 ∧ (owner.toList.filterMap id).Perm (List.range hashes.size) := by
  obtain ⟨owner, e, h1, h2⟩ := lay_fold hc hashes.toList (Array.replicate (mask + 1) none) 0 hh (by simp) (by simp) (by simpa using hz)
  refine ⟨owner, ?_, h1, by simpa using h2⟩
  rw [layClean_eq, e]
  rfl
theorem pairs_rise (f : Nat → Option Nat) : ∀ (l : List Nat), l.Pairwise (· < ·) → ((l.filterMap fun j => (f j).map (j, ·)).map (·.1)).Pairwise (· < ·) := by
  intro l hl
  rw [List.map_filterMap]
  refine List.Pairwise.filterMap (R := (· < ·)) _ (fun a a' hlt b hb b' hb' => ?_) hl
  cases ha : f a with
  | none => rw [ha] at hb; cases hb
  | some x =>
    cases ha' : f a' with
    | none => rw [ha'] at hb'; cases hb'
    | some y =>
      rw [ha] at hb
      rw [ha'] at hb'
      cases hb
      cases hb'
      exact hlt
theorem getD_filterMap (owner : Array (Option Nat)) (n : Nat) (hn : owner.size = n) : ((List.range n).filterMap fun j => owner.getD j none) = owner.toList.filterMap id := by
  have e : owner.toList = (List.range n).map fun j => owner.getD j none := by
    refine List.ext_getElem (by simp [hn]) fun i h1 h2 => ?_
    have : i < owner.size := by simpa using h1
    simp [Array.getD, this]
  conv => rhs; rw [e, List.filterMap_map]
  rfl
theorem order_eq (f : Nat → Option Nat) (l : List Nat) : (l.filterMap fun j => (f j).map (j, ·)).map (·.2) = l.filterMap f := by
  rw [List.map_filterMap]
  congr 1
  funext j
  cases f j <;> rfl
theorem relayAll_ok {t : SetTable} {es : Array (Int × Value)} {wanted mask : Nat} (ht : t.plain = true) (hm : SetTable.sizeAbove wanted - 1 = mask) (hmm : mask = 31 ∨ mask = 127) (hh : ∀ e ∈ es.toList, e.1 ∈ hs) (hz : es.size ≤ mask) :
    TabP (relayAll t es wanted).2.1 es.size ∧ (relayAll t es wanted).2.1.led = t.led ∧ (relayAll t es wanted).2.1.mask = mask ∧ (relayAll t es wanted).1.size = es.size := by
  have hc : covered mask = true := by
    rcases hmm with rfl | rfl
    · exact covered31
    · exact covered127
  obtain ⟨owner, ho, hos, hop⟩ := layClean_ok hc (hashes := es.map (·.1)) (fun h hm => by
    rw [Array.toList_map] at hm
    obtain ⟨e, he, rfl⟩ := List.mem_map.mp hm
    exact hh e he) (by simpa using hz)
  rw [Array.size_map] at hop
  have hlive : (((List.range (mask + 1)).filterMap fun j => (owner.getD j none).map (j, ·)).map (·.2)) = owner.toList.filterMap id := by
    rw [order_eq, getD_filterMap owner _ hos]
  have hlen : ((List.range (mask + 1)).filterMap fun j => (owner.getD j none).map (j, ·)).length = es.size := by
    have := congrArg List.length hlive
    rw [List.length_map, hop.length_eq, List.length_range] at this
    exact this
  have hr : t.relaid (es.map (·.1)) wanted = some ({ mask, place := ((((List.range (mask + 1)).filterMap fun j => (owner.getD j none).map (j, ·)).map (·.1))).toArray, dummies := #[], finger := t.finger, led := t.led, moves := t.movedTo mask, plain := t.plain }, (((List.range (mask + 1)).filterMap fun j => (owner.getD j none).map (j, ·)).map (·.2)).toArray) := by
    unfold SetTable.relaid SetTable.laid
    rw [hm, ho]
    rfl
  have hT : TabP ({ mask, place := ((((List.range (mask + 1)).filterMap fun j => (owner.getD j none).map (j, ·)).map (·.1))).toArray, dummies := #[], finger := t.finger, led := t.led, moves := t.movedTo mask, plain := t.plain } : SetTable) es.size := by
    refine ⟨?_, rfl, ?_, .inr hmm, ht⟩
    · show Rises (List.map _ _)
      exact pairs_rise _ _ List.pairwise_lt_range
    · show (List.toArray _).size = _
      rw [List.size_toArray, List.length_map, hlen]
  have hcov : coversAll (((List.range (mask + 1)).filterMap fun j => (owner.getD j none).map (j, ·)).map (·.2)).toArray es.size = true := by
    unfold coversAll
    rw [hlive]
    exact List.isPerm_iff.mpr hop
  have hsz : ((((List.range (mask + 1)).filterMap fun j => (owner.getD j none).map (j, ·)).map (·.2)).toArray.filterMap (es[·]?)).size = es.size := by
    rw [← Array.length_toList, Array.toList_filterMap, hlive]
    rw [(hop.filterMap _).length_eq, filterMap_getElem?_range, Array.length_toList]
  unfold relayAll
  rw [hr]
  dsimp only
  rw [if_pos]
  · exact ⟨hT, rfl, rfl, hsz⟩
  · rw [hcov, Bool.true_and, hsz]
    exact hT.fits hz
end
section
set_option maxHeartbeats 2000000
def byText (w : World) : Bool := w.params.followText "set-order"
def numsOf (es : Array (Int × Value)) : List Int := es.toList.map fun e => numOf e.2
/-- a set of small ints -/
def IntSetAt (prog : Program) (w : World) (h : Heap) (a : Addr) (ks : List Int) : Prop :=
  ∃ o es ep t, h.get? a = some o ∧ o.ExactSet ∧ o.data = .set es ep t ∧ ElemsOf (intKind prog w) es.toList ∧ TabP t es.size ∧ es.size * 5 < t.mask * 3 ∧ t.led = !byText w ∧ (numsOf es).Perm ks ∧ (∀ k ∈ ks, -2 ≤ k ∧ k ≤ 17) ∧ ks.Nodup
theorem IntSetAt.at {prog : Program} {w : World} {h h' : Heap} {a : Addr} {ks : List Int} (x : IntSetAt prog w h a ks) (e : ∀ o, h.get? a = some o → h'.get? a = some o) : IntSetAt prog w h' a ks :=
  let ⟨o, es, ep, t, ho, r⟩ := x; ⟨o, es, ep, t, e o ho, r⟩
theorem small_length {ks : List Int} (h : ∀ k ∈ ks, -2 ≤ k ∧ k ≤ 17) (hn : ks.Nodup) : ks.length ≤ 20 := by
  have := length_le_of_sub ks ((List.range 20).map fun i : Nat => (i : Int) - 2) hn fun k hk => by
    obtain ⟨h1, h2⟩ := h k hk
    exact List.mem_map.mpr ⟨(k + 2).toNat, List.mem_range.mpr (by omega), by omega⟩
  simpa using this
theorem step_mem {ks : List Int} {k : Int} : step_dedup ks k = if k ∈ ks then ks else ks ++ [k] := by
  unfold step_dedup
  by_cases h : k ∈ ks
  · rw [if_pos h, if_pos]
    exact List.any_eq_true.mpr ⟨k, h, by simp⟩
  · rw [if_neg h, if_neg]
    rw [List.any_eq_true]
    rintro ⟨x, hx, e⟩
    exact h ((beq_iff_eq.mp e) ▸ hx)
section
variable {prog : Program} {w : World} {A : Around} {E : Value → Shared → Prop} {s : Shared}
theorem is_num {k : Int} {v : Value} (h : (intKind prog w).is k v = true) : numOf v = k := by
  obtain ⟨t, rfl⟩ := Value.isInt_shape h
  rfl
theorem elems_hash {es : Array (Int × Value)} {ks : List Int} (hel : ElemsOf (intKind prog w) es.toList) (hp : (numsOf es).Perm ks) (hb : ∀ k ∈ ks, -2 ≤ k ∧ k ≤ 17) : ∀ e ∈ es.toList, e.1 ∈ hs := fun e he => by
  obtain ⟨⟨k, hk, e1⟩, _⟩ := hel e he
  have hm : k ∈ ks := hp.mem_iff.mp (List.mem_map.mpr ⟨e, he, is_num hk⟩)
  rw [e1]
  exact hash_in (hb k hm).1 (hb k hm).2
theorem set_stored {h : Heap} {a : Addr} {o : Obj} {es : Array (Int × Value)} {ep : Nat} {t : SetTable} (ho : h.get? a = some o) (hd : o.data = .set es ep t) (es' : Array (Int × Value)) (t' : SetTable) :
    (h.update a (Obj.putSet es' t')).get? a = some { o with data := .set es' (ep + 1) t' } := by
  have := Heap.get?_update_self (Obj.putSet es' t') ho (by rw [putSet_of es' t' hd]; rfl)
  rw [putSet_of es' t' hd] at this
  exact this
theorem set_add {a : Addr} {ks : List Int} {k : Int} {u : Tok} {Q : Bool → Shared → Prop} (hS : IntSetAt prog w s.heap a ks) (hk1 : -2 ≤ k) (hk2 : k ≤ 17)
    (h : ∀ b h', Heap.SameBut a s.heap h' → IntSetAt prog w h' a (step_dedup ks k) → Q b { s with heap := h' }) :
    wpAny (model prog w) A (setAddHashed a (.int k u) (hashInt k)) Q E s := by
  obtain ⟨o, es, ep, t, ho, hex, hd, hel, hT, hroom, hled, hp, hb, hn⟩ := hS
  have hsz : es.size = ks.length := by have := hp.length_eq; unfold numsOf at this; rw [List.length_map, Array.length_toList] at this; exact this
  have hl20 := small_length hb hn
  have hmk := hT.mask
  have hf : t.fits es.size = true := hT.fits (by omega)
  have hsb : es.size < scanBound := by unfold scanBound; omega
  have hkey : (intKind prog w).is k (.int k u) = true := intKind_is _ _ _ _
  unfold setAddHashed setAddHashedIn
  refine wpAny_holding (wpAny_bind (wpAny_setState_of ho hd hf ?_))
  dsimp only
  rw [byScan_of (knd := intKind prog w) rfl hsb hel]
  simp only [↓reduceIte]
  unfold setAddByScan
  refine wpAny_bind ?_
  refine wpAny_bind (wpAny_rule ?_)
  refine wpAny_bind (wpAny_setScan_of (knd := intKind prog w) hkey ho hd hf hel ?_)
  rw [step_mem] at h
  cases hr : List.findIdx? (fun e => (intKind prog w).is k e.2) es.toList with
  | some j =>
    dsimp only
    obtain ⟨hj, hpj, _⟩ := List.findIdx?_eq_some_iff_getElem.mp hr
    have hm : k ∈ ks := hp.mem_iff.mp (List.mem_map.mpr ⟨es.toList[j], List.getElem_mem hj, is_num hpj⟩)
    rw [if_pos hm] at h
    refine wpAny_pure (wpAny_pure ?_)
    exact h false s.heap (Heap.SameBut.refl a s.heap) ⟨o, es, ep, t, ho, hex, hd, hel, hT, hroom, hled, hp, hb, hn⟩
  | none =>
    dsimp only
    have hnm : k ∉ ks := fun hm => by
      obtain ⟨e, he, e2⟩ := List.mem_map.mp (hp.mem_iff.mpr hm)
      obtain ⟨⟨k', hk', _⟩, _⟩ := hel e he
      have := List.findIdx?_eq_none_iff.mp hr e he
      have ek : k' = k := by rw [← is_num hk']; exact e2
      rw [ek] at hk'
      rw [hk'] at this
      cases this
    rw [if_neg hnm] at h
    have hperm := layNew_perm t es (hashInt k) (.int k u)
    obtain ⟨l1, l2, l3, l4, l5⟩ := layNew_ok (x := .int k u) hT (hash_in hk1 hk2) hroom
    generalize hL : layNew t es (hashInt k) (.int k u) = L at hperm l1 l2 l3 l4 l5 ⊢
    obtain ⟨es1, t1, wasDummy, gave⟩ := L
    dsimp only at hperm l1 l2 l3 l4 l5 ⊢
    subst l4
    have hgw : ∀ (b : Bool) {s₁ : Shared} {Q' : Unit → Shared → Prop}, Q' () s₁ → wpAny (model prog w) A (match b with | true => rule "set.scan.the-table-gave-way" | false => pure ()) Q' E s₁ :=
      fun b s₁ Q' hq => by cases b <;> first | exact wpAny_pure hq | exact wpAny_rule hq
    refine wpAny_bind (hgw _ ?_)
    rw [if_pos l1.plain]
    refine wpAny_bind ?_
    rw [hashByValue_scannable 8 rfl]
    refine wpAny_pure ?_
    simp only [plainKind, if_true]
    have hel1 : ElemsOf (intKind prog w) es1.toList := (hel.push (knd := intKind prog w) hkey rfl).perm (by rw [Array.toList_push] at hperm; exact hperm)
    have hp1 : (numsOf es1).Perm (ks ++ [k]) := by
      unfold numsOf at hp ⊢
      refine (hperm.map _).trans ?_
      rw [Array.toList_push, List.map_append]
      exact hp.append_right [k]
    have hb1 : ∀ x ∈ ks ++ [k], -2 ≤ x ∧ x ≤ 17 := fun x hx => by
      rcases List.mem_append.mp hx with hx | hx
      · exact hb x hx
      · rw [List.mem_singleton.mp hx]; exact ⟨hk1, hk2⟩
    have hn1 : (ks ++ [k]).Nodup := List.nodup_append.mpr ⟨hn, by simp, fun a ha b hb' => by rw [List.mem_singleton.mp hb']; exact fun e => hnm (e ▸ ha)⟩
    have hl21 := small_length hb1 hn1
    rw [List.length_append, List.length_singleton] at hl21
    have hz1 : es1.size ≤ sizeLine := by rw [sizeLine_eq]; omega
    refine wpAny_bind (wpAny_storeSet_of ho hd ?_ hz1)
    have hg1 := set_stored ho hd es1 t1
    have hsb1 := Heap.SameBut.update s.heap a (Obj.putSet es1 t1)
    rw [← l5] at l1
    have hfill := l1.fill
    simp only [Bool.not_false, Bool.true_and]
    by_cases hfull : t1.tooFull = true
    · rw [if_pos hfull]
      unfold SetTable.tooFull at hfull
      have hfull := of_decide_eq_true hfull
      rw [hfill, l3] at hfull
      obtain ⟨mask, hmk2, hmm, hroom2⟩ : ∃ mask, SetTable.sizeAbove (SetTable.grown es1.size) - 1 = mask ∧ (mask = 31 ∨ mask = 127) ∧ es1.size * 5 < mask * 3 := by
        rcases hmk with e | e | e
        · have e5 : es1.size = 5 := by omega
          exact ⟨31, by rw [e5]; decide +kernel, .inl rfl, by omega⟩
        · have e5 : es1.size = 19 := by omega
          exact ⟨127, by rw [e5]; decide +kernel, .inr rfl, by omega⟩
        · omega
      obtain ⟨r1, r2, r3, r4⟩ := relayAll_ok (es := es1) l1.plain hmk2 hmm (elems_hash hel1 hp1 hb1) (by omega)
      have hperm2 := relayAll_perm t1 es1 (SetTable.grown es1.size)
      generalize hRl : relayAll t1 es1 (SetTable.grown es1.size) = Rl at r1 r2 r3 r4 hperm2 ⊢
      obtain ⟨es2, t2, gave2⟩ := Rl
      dsimp only at r1 r2 r3 r4 hperm2 ⊢
      refine wpAny_bind (hgw _ ?_)
      refine wpAny_bind (wpAny_storeSet_of hg1 rfl ?_ (by rw [r4]; exact hz1))
      have hg2 := set_stored hg1 rfl es2 t2
      refine wpAny_pure (wpAny_pure (h true _ (hsb1.trans (Heap.SameBut.update _ a _)) ⟨_, es2, _, t2, hg2, hex, rfl, hel1.perm hperm2, by rw [r4]; exact r1, by rw [r4, r3]; exact hroom2, by rw [r2, l2]; exact hled, ?_, hb1, hn1⟩))
      unfold numsOf at hp1 ⊢
      exact (hperm2.map _).trans hp1
    · rw [if_neg hfull]
      have hfull2 : ¬ (t1.fill * 5 ≥ t1.mask * 3) := fun q => hfull (decide_eq_true q)
      rw [hfill] at hfull2
      exact wpAny_pure (wpAny_pure (h true _ hsb1 ⟨_, es1, _, t1, hg1, hex, rfl, hel1, l1, by omega, by rw [l2]; exact hled, hp1, hb1, hn1⟩))
end
end
section
set_option maxHeartbeats 3200000
theorem fold_take {ns : List Int} {i : Nat} {k : Int} (h : ns[i]? = some k) : (ns.take (i + 1)).foldl step_dedup [] = step_dedup ((ns.take i).foldl step_dedup []) k := by
  rw [List.take_add_one, h, Option.toList_some, List.foldl_append]
  rfl
section
variable {prog : Program} {w : World} {A : Around} {R : Result → Shared → Prop} {s : Shared}
theorem set_loop {S I l : Addr} {vs : List Value} {ns : List Int} (hh : A.handled = none) (hSI : S ≠ I) (hlI : l ≠ I) (hSl : S ≠ l) (hi : IntsAre vs ns) (hb : ∀ k ∈ ns, -2 ≤ k ∧ k ≤ 17) {h₁ : Heap}
    (hR : ∀ h' tk, (∀ b o, b ≠ S → b ≠ I → h₁.get? b = some o → h'.get? b = some o) → IntSetAt prog w h' S (ns.foldl step_dedup []) → R (.ok (.ret .none)) { s with heap := h', toks := tk }) :
    ∀ (f i : Nat) (h : Heap) (tk : Nat), i + f = ns.length → h.IsListIter I l i → h.IsList l vs.toArray → IntSetAt prog w h S ((ns.take i).foldl step_dedup []) →
      (∀ b o, b ≠ S → b ≠ I → h₁.get? b = some o → h.get? b = some o) → codeAny (model prog w) A (.builtin "set.update.loop" ⟨[.ref S, .ref I], []⟩) R { s with heap := h, toks := tk } := by
  have hvn : vs.length = ns.length := hi.length
  intro f
  induction f with
  | zero =>
    intro i h tk hf hit hl hS hk
    refine codeAny_builtin PyProof.Rows.F.entry_set_update_loop ?_
    rw [Around.under_plainId PyProof.Rows.F.plain_set_update_loop _]
    show wpAny _ A.in1 (pyNext (.ref I) >>= _) _ _ _
    refine wpAny_bind (wpAny_pyNext_list_end (A := A.in1) (s := { s with heap := h, toks := tk }) hh hit hl (by simp; omega) fun h' he => ?_)
    rw [List.take_of_length_le (by omega)] at hS
    exact wpAny_pure (hR h' tk (fun b o h1 h2 e => he b o h2 (hk b o h1 h2 e)) (hS.at fun o e => he S o hSI e))
  | succ f ih =>
    intro i h tk hf hit hl hS hk
    have hi' : i < ns.length := by omega
    obtain ⟨t, hx⟩ := hi.get i ns[i] (by simp [hi'])
    refine codeAny_builtin PyProof.Rows.F.entry_set_update_loop ?_
    rw [Around.under_plainId PyProof.Rows.F.plain_set_update_loop _]
    show wpAny _ A.in1 (pyNext (.ref I) >>= _) _ _ _
    refine wpAny_bind (wpAny_pyNext_list_item (A := A.in1) (s := { s with heap := h, toks := tk }) (x := .int ns[i] t) hit hl (by simpa using hx) fun h' hit' hs => ?_)
    have hS' : IntSetAt prog w h' S ((ns.take i).foldl step_dedup []) := hS.at fun o e => hs.extBut S o hSI e
    have hl' : h'.IsList l vs.toArray := hl.extBut hs.extBut hlI
    show wpAny _ A.in1 (holding [Value.int ns[i] t] (setAdd S (.int ns[i] t)) >>= _) _ _ _
    refine wpAny_bind (wpAny_holding ?_)
    unfold setAdd
    refine wpAny_holding ?_
    refine wpAny_bind ((intKind prog w).pyHash (k := ns[i]) (intKind_is _ _ _ _) ?_)
    have hbk := hb ns[i] (List.getElem_mem hi')
    refine set_add (s := { s with heap := h', toks := tk + 1 }) hS' hbk.1 hbk.2 fun b h2 hs2 hS2 => ?_
    rw [← fold_take (show ns[i]? = some ns[i] by simp [hi'])] at hS2
    refine wpAny_pure ⟨plainId_quiet PyProof.Rows.F.plain_set_update_loop _, ?_⟩
    exact ih (i + 1) h2 _ (by omega) (hit'.extBut hs2.extBut (Ne.symm hSI)) (hl'.extBut hs2.extBut (Ne.symm hSl)) hS2 fun b o h1 h3 e => hs2.extBut b o h1 (hs.extBut b o h3 (hk b o h1 h3 e))
end
section
variable {prog : Program} {w : World} {A : Around} {E : Value → Shared → Prop} {s : Shared}
abbrev emptySet (w : World) : Obj := { cls := .type "set", dict := none, data := .set #[] 0 (.fresh 0 0 (!byText w)) }
theorem code_set_led (a : Value) {Q₁ : Value → Shared → Prop} (h : Q₁ (.ref s.heap.objs.size) { s with heap := s.heap.push (emptySet w) }) :
    codeAny (model prog w) A (.call (.builtin "set.__new__") ⟨[.type "set", a], []⟩) (wants Q₁ E) s := by
  refine codeAny_of_tree ?_
  show wpAny _ A.in1 (do checkBuiltinCall "set.__new__" ⟨[.type "set", a], []⟩; again (.builtin "set.__new__" ⟨[.type "set", a], []⟩)) _ _ s
  refine wpAny_bind (wpAny_of_eq (PySem.F.newCall_set_1 a) (wpAny_pure ⟨plainId_quiet PySem.F.plain_set_new _, codeAny_builtin PySem.F.entry_set_new ?_⟩))
  rw [Around.under_plainId PySem.F.plain_set_new _]
  unfold Builtin.«set.__new__» Builtin.Frozenset.newClass
  have hsub := sub_set_self
  obtain ⟨hp, g, d, tk, os⟩ := s
  dsimp only
  wp_walk
  refine wpAny_askSetting (wpAny_pure ?_)
  dsimp only
  simp only [newObj]
  refine wpAny_bind (wpAny_alloc (wpAny_pure ?_))
  exact wpAny_pure h
theorem empty_at (h : Heap) (a : Addr) (e : h.get? a = some (emptySet w)) : IntSetAt prog w h a [] :=
  ⟨_, #[], 0, _, e, ⟨rfl, rfl, rfl⟩, rfl, (fun x hx => by simp at hx), ⟨List.Pairwise.nil, rfl, rfl, .inl rfl, rfl⟩, (by show 0 * 5 < 7 * 3; omega), rfl, .refl _, (fun k hk => by simp at hk), List.nodup_nil⟩
theorem call_set {l : Addr} {vs : List Value} {n : Nat} {ns : List Int} {Q : Value → Shared → Prop} (hh : A.handled = none) (hl : s.heap.get? l = some (W.listOf vs.toArray n)) (hi : IntsAre vs ns) (hb : ∀ k ∈ ns, -2 ≤ k ∧ k ≤ 17)
    (h : ∀ (h' : Heap) (tk : Nat), IntSetAt prog w h' s.heap.objs.size (ns.foldl step_dedup []) → (∀ b o, s.heap.get? b = some o → h'.get? b = some o) → Q (.ref s.heap.objs.size) { s with heap := h', toks := tk }) :
    wpAny (model prog w) A (call (.type "set") [.ref l]) Q E s := by
  obtain ⟨c, tl, hmro⟩ := PySem.F.called_set.mro
  have hmade := PySem.F.called_set.made
  have hsub := PySem.F.called_set.sub
  refine wpAny_call (codeAny_of_tree ?_)
  show wpAny _ _ (callAny (.type "set") _) _ _ _
  refine wpAny_pure ⟨Code.quiet_builtin _ (by decide +kernel), codeAny_builtin PySem.F.entry_type_call ?_⟩
  rw [Around.under_plain (weight_type_call_type "set" [.ref l] []) rfl]
  have h1 := PySem.F.called_set.notType
  have h2 := PySem.F.called_set.canCreate
  have hct := PySem.F.typeCall_set_1 (.ref l)
  repeat (any_goals (first | wp_step | assumption))
  refine codeAny_mono (code_set_led (.ref l) (E := E) (Q₁ := fun obj s₁ => obj = .ref s.heap.objs.size ∧ s₁ = { s with heap := s.heap.push (emptySet w) }) ⟨rfl, rfl⟩) fun r s₁ hr => ?_
  cases r with
  | error e => exact hr
  | ok fl =>
    cases fl with
    | ret obj =>
      obtain ⟨rfl, rfl⟩ := hr
      have hS : (s.heap.push (emptySet w)).get? s.heap.objs.size = some (emptySet w) := Heap.get?_push_size _ rfl
      have hT : Shared.TypeIs { s with heap := s.heap.push (emptySet w) } (.ref s.heap.objs.size) "set" := ⟨_, hS, rfl⟩
      have hli := PySem.F.called_set.init.lookup
      have hbi := PySem.F.called_set.init.bind (.ref s.heap.objs.size)
      repeat (any_goals (first | wp_step | assumption))
      refine codeAny_mono (codeAny_call_builtin (R := wants (fun r s₂ => r = .none ∧ ∃ h' tk, s₂ = { s with heap := h', toks := tk } ∧ IntSetAt prog w h' s.heap.objs.size (ns.foldl step_dedup []) ∧ (∀ b o, s.heap.get? b = some o → h'.get? b = some o)) E) PySem.F.called_set.init.plain PySem.F.entry_set_init (check_set_init_1 hT ?_)) fun r₂ s₂ hr₂ => ?_
      · have hol' : (s.heap.push (emptySet w)).get? l = some (W.listOf vs.toArray n) := Heap.get?_push_of_some _ hl
        have hsls := PySem.F.sub_list_set
        have hslf := PySem.F.sub_list_frozenset
        have hne : (Value.type "list" == Value.type "dict") = false := by decide
        have hl1 : (s.heap.push (emptySet w)).IsList l vs.toArray := ⟨_, hol', rfl, n, rfl⟩
        have hTl : Shared.TypeIs { s with heap := s.heap.push (emptySet w) } (.ref l) "list" := ⟨_, hol', rfl⟩
        unfold Builtin.«set.__init__» noKeywords Builtin.Frozenset.updateFrom
        generalize hPI : pyIter = PI
        wp_walk
        subst hPI
        refine wpAny_pyIter_list hl1 ?_
        refine wpAny_bind (wpAny_runValue ?_)
        have hlS : l < s.heap.objs.size := Heap.lt_size hl
        have hz : (s.heap.push (emptySet w)).objs.size = s.heap.objs.size + 1 := Heap.size_push ..
        refine set_loop (A := A.in1.in1) (s := s) (h₁ := s.heap) (l := l) (vs := vs) (ns := ns) hh (by rw [hz]; exact Nat.ne_of_lt (Nat.lt_succ_self _)) (by rw [hz]; exact Nat.ne_of_lt (Nat.lt_succ_of_lt hlS)) (Nat.ne_of_gt hlS) hi hb (fun h' tk hk hI => ?_)
          ns.length 0 _ _ (Nat.zero_add _) ⟨_, Heap.get?_push_size _ rfl, rfl, rfl⟩ (hl1.push _) (empty_at _ _ (Heap.get?_push_of_some _ hS)) (fun b o _ _ e => Heap.get?_push_of_some _ (Heap.get?_push_of_some _ e))
        refine wpAny_pure ?_
        show wpAny _ _ (ret Value.none) _ _ _
        exact wpAny_pure ⟨rfl, h', tk, rfl, hI, fun b o e => hk b o (Nat.ne_of_lt (Heap.lt_size e)) (by rw [hz]; exact Nat.ne_of_lt (Nat.lt_succ_of_lt (Heap.lt_size e))) e⟩
      · cases r₂ with
        | error e => exact hr₂
        | ok fl₂ =>
          cases fl₂ with
          | ret r =>
            obtain ⟨rfl, h', tk, rfl, hS', hk'⟩ := hr₂
            repeat (any_goals (first | wp_step | assumption))
            exact h _ _ hS' hk'
          | _ => exact hr₂.elim
    | _ => exact hr.elim
end
end
end
section
set_option maxHeartbeats 3200000
theorem slot_setiter_next : Slot "set_iterator" "__next__" "set_iterator.__next__" :=
  .of (owner := "set_iterator") (n := "__next__") (by rw [typeLookup_type, builtinLookup_eq_fast]; kernel_rfl) (by decide +kernel) (by decide +kernel) (by decide +kernel)
    (by first | exact .inl (by decide +kernel) | exact .inr (by decide +kernel)) (by rw [isSubtype_type]; kernel_rfl)
theorem slot_setiter_iter : Slot "set_iterator" "__iter__" "set_iterator.__iter__" :=
  .of (owner := "set_iterator") (n := "__iter__") (by rw [typeLookup_type, builtinLookup_eq_fast]; kernel_rfl) (by decide +kernel) (by decide +kernel) (by decide +kernel)
    (by first | exact .inl (by decide +kernel) | exact .inr (by decide +kernel)) (by rw [isSubtype_type]; kernel_rfl)
theorem entry_setiter_next : entryFor table "set_iterator.__next__" = some Builtin.«set_iterator.__next__» := entryFor_of_tree (by kernel_rfl)
theorem entry_setiter_iter : entryFor table "set_iterator.__iter__" = some Builtin.«dict_keyiterator.__iter__» :=
  entryFor_alias (id' := "dict_keyiterator.__iter__") (by rw [fastTable_eq_tree]; kernel_rfl) rfl (by decide +kernel) (by rw [fastTable_eq_tree]; kernel_rfl)
theorem entry_set_iter : entryFor table "set.__iter__" = some Builtin.«frozenset.__iter__» :=
  entryFor_alias (id' := "frozenset.__iter__") (by rw [fastTable_eq_tree]; kernel_rfl) rfl (by decide +kernel) (by rw [fastTable_eq_tree]; kernel_rfl)
theorem owner_setiter : Manifest.owners.lookup (String.ofList ['r', 'o', 't', 'a', 'r', 'e', 't', 'i', '_', 't', 'e', 's'].reverse) = some Manifest.sig_set_iterator := by kernel_rfl
theorem args_setiter_next (a : Value) : argsOk "set_iterator.__next__" ⟨[a], []⟩ := by
  unfold argsOk; rw [signature?_of (id := "set_iterator.__next__") (n := ['_', '_', 't', 'x', 'e', 'n', '_', '_']) (o := ['r', 'o', 't', 'a', 'r', 'e', 't', 'i', '_', 't', 'e', 's']) (by kernel_rfl) owner_setiter]; kernel_rfl
theorem args_setiter_iter (a : Value) : argsOk "set_iterator.__iter__" ⟨[a], []⟩ := by
  unfold argsOk; rw [signature?_of (id := "set_iterator.__iter__") (n := ['_', '_', 'r', 'e', 't', 'i', '_', '_']) (o := ['r', 'o', 't', 'a', 'r', 'e', 't', 'i', '_', 't', 'e', 's']) (by kernel_rfl) owner_setiter]; kernel_rfl

def orderOf (w : World) (a : Addr) (es : Array (Int × Value)) (ep : Nat) : Array (Int × Value) := if byText w = true then pickOrder (w.params.setOrder a ep) es else es
def slotAt (w : World) (t : SetTable) : Nat → Nat
  | 0 => 0
  | i + 1 => if byText w = true then 0 else t.place.getD i 0 + 1
def IsSetIter (h : Heap) (I a : Addr) (i n ep sl : Nat) : Prop := ∃ o, h.get? I = some o ∧ o.cls = .type "set_iterator" ∧ o.data = .fields #[.int sl 0, .int i 0, .ref a, .int n 0, .int ep 0]
theorem IsSetIter.typeIs {s : Shared} {I a : Addr} {i n ep sl : Nat} (x : IsSetIter s.heap I a i n ep sl) : s.TypeIs (.ref I) "set_iterator" := let ⟨o, ho, hc, _⟩ := x; ⟨o, ho, hc⟩
section
variable {prog : Program} {w : World} {A : Around} {E : Value → Shared → Prop} {s : Shared} {a I : Addr} {o : Obj} {es : Array (Int × Value)} {ep : Nat} {t : SetTable}
theorem ite_no {M : Model} {α : Type} {c : Prop} [Decidable c] {a b : Sem α} {Q : α → Shared → Prop} (hc : ¬ c) (h : wpAny M A b Q E s) : wpAny M A (if c then a else b) Q E s := by rw [if_neg hc]; exact h
theorem ite_ya {M : Model} {α : Type} {c : Prop} [Decidable c] {a b : Sem α} {Q : α → Shared → Prop} (hc : c) (h : wpAny M A a Q E s) : wpAny M A (if c then a else b) Q E s := by rw [if_pos hc]; exact h
theorem pyIter_set {Q : Value → Shared → Prop} (ho : s.heap.get? a = some o) (hex : o.ExactSet) (hd : o.data = .set es ep t) (hf : t.fits es.size = true) (hpl : t.plain = true)
    (hQ : Q (.ref s.heap.objs.size) { s with heap := s.heap.push { cls := .type "set_iterator", data := .fields #[.int 0 0, .int 0 0, .ref a, .int es.size 0, .int ep 0] } }) :
    wpAny (model prog w) A (pyIter (.ref a)) Q E s := by
  have hT : s.TypeIs (.ref a) "set" := ⟨o, ho, hex.1⟩
  refine wpAny_pyIter_slot hT PySem.F.slot_set_iter (wpAny_call_entry PySem.F.slot_set_iter hT entry_set_iter ?_ (PySem.F.args_set_iter_1 _))
  unfold Builtin.«frozenset.__iter__» Builtin.Frozenset.slot0
  refine wpAny_bind (wpAny_bind (wpAny_pure ?_))
  refine wpAny_pure ?_
  refine wpAny_bind ?_
  unfold Builtin.Frozenset.sizeOf
  refine wpAny_bind (wpAny_setEntries_of ho hd hf (wpAny_pure ?_))
  refine wpAny_bind ?_
  refine wpAny_bind (wpAny_setState_of ho hd hf ?_)
  dsimp only
  unfold setsByText
  refine wpAny_bind (wpAny_bind (wpAny_askSetting (wpAny_pure ?_)))
  refine wpAny_pure ?_
  dsimp only
  refine ite_no (show ¬ ((!w.params.followText "set-order" && (!t.plain && decide (es.size > 1))) = true) from by rw [hpl]; simp) ?_
  refine wpAny_bind (wpAny_pure ?_)
  refine wpAny_bind (wpAny_setEpoch_of ho hd hf ?_)
  exact wpAny_bind (wpAny_newObj_type (wpAny_pure ⟨_, rfl, "set_iterator", _, ⟨_, Heap.get?_push_size _ rfl, rfl⟩, slot_setiter_next.lookup, hQ⟩))
theorem below_slot (hr : Rises t.place.toList) (hb : ¬ byText w = true) {i : Nat} (hi : i ≤ t.place.size) : SetTable.below t.place (slotAt w t i) = i := by
  obtain ⟨h1, h2, h3⟩ := below_spec hr (slotAt w t i)
  cases i with
  | zero =>
    rcases Nat.eq_zero_or_pos (SetTable.below t.place (slotAt w t 0)) with h | h
    · exact h
    · exact absurd (h2 0 h) (Nat.not_lt_zero _)
  | succ i =>
    have es : slotAt w t (i + 1) = t.place.getD i 0 + 1 := by
      show (if byText w = true then 0 else t.place.getD i 0 + 1) = _
      rw [if_neg hb]
    have ed : ∀ k d d', k < t.place.size → t.place.getD k d = t.place.getD k d' := fun k d d' hk => by simp [Array.getD, hk]
    have h4 : i < SetTable.below t.place (slotAt w t (i + 1)) := by
      rcases Nat.lt_or_ge i (SetTable.below t.place (slotAt w t (i + 1))) with h | h
      · exact h
      · have := h3 i h (by omega)
        rw [ed i _ 0 (by omega), es] at this
        omega
    rcases Nat.lt_or_ge (i + 1) (SetTable.below t.place (slotAt w t (i + 1))) with h | h
    · have h5 := h2 (i + 1) h
      rw [ed (i + 1) _ 0 (by omega), es] at h5
      have h6 := hr.lt (d := 0) (show i < i + 1 by omega) (show i + 1 < t.place.size by omega)
      omega
    · omega
theorem setNext_at {Q : Option (Value × Nat) → Shared → Prop} {i : Nat} (ho : s.heap.get? a = some o) (hd : o.data = .set es ep t) (hT : TabP t es.size) (hz : es.size ≤ t.mask) (hled : t.led = !byText w) (hi : i ≤ es.size)
    (hQ : Q ((orderOf w a es ep)[i]?.map fun e => (e.2, slotAt w t (i + 1))) s) : wpAny (model prog w) A (setNext a (slotAt w t i) i ep) Q E s := by
  have hf := hT.fits hz
  unfold setNext
  refine wpAny_bind (wpAny_setState_of ho hd hf ?_)
  dsimp only
  unfold setsByText
  refine wpAny_bind (wpAny_bind (wpAny_askSetting (wpAny_pure ?_)))
  unfold orderOf at hQ
  by_cases hb : byText w = true
  · rw [if_pos hb] at hQ
    have e0 : ∀ i, slotAt w t i = 0 := fun i => by
      cases i with
      | zero => rfl
      | succ i =>
        show (if byText w = true then 0 else t.place.getD i 0 + 1) = _
        rw [if_pos hb]
    rw [e0] at hQ ⊢
    refine ite_ya hb ?_
    refine ite_no (by simp) ?_
    unfold setWalk
    refine wpAny_bind (wpAny_bind (wpAny_setState_of ho hd hf ?_))
    dsimp only
    unfold setsByText
    refine wpAny_bind (wpAny_bind (wpAny_askSetting (wpAny_pure ?_)))
    refine ite_ya hb ?_
    refine wpAny_bind (wpAny_askSetting (wpAny_pure ?_))
    exact wpAny_pure hQ
  · rw [if_neg hb] at hQ
    refine ite_no hb ?_
    refine ite_no (show ¬ ((!t.plain && decide (es.size > 1)) = true) from by rw [hT.plain]; simp) ?_
    refine wpAny_bind (ite_no (show ¬ ((!t.led && !es.isEmpty) = true) from by rw [hled]; simp [hb]) (wpAny_pure ?_))
    rw [below_slot hT.rises hb (by rw [hT.size]; exact hi)]
    refine wpAny_pure ?_
    rcases Nat.lt_or_ge i es.size with h | h
    · have hp : i < t.place.size := by rw [hT.size]; exact h
      rw [Array.getElem?_eq_getElem h, Array.getElem?_eq_getElem hp]
      rw [Array.getElem?_eq_getElem h] at hQ
      have e1 : slotAt w t (i + 1) = t.place[i] + 1 := by
        show (if byText w = true then 0 else t.place.getD i 0 + 1) = _
        rw [if_neg hb]
        simp [Array.getD, hp]
      rw [e1] at hQ
      exact hQ
    · rw [Array.getElem?_eq_none h]
      rw [Array.getElem?_eq_none h] at hQ
      exact hQ
theorem next_set {Q : Option Value → Shared → Prop} {i : Nat} {e : Int × Value} (hit : IsSetIter s.heap I a i es.size ep (slotAt w t i)) (ho : s.heap.get? a = some o) (hd : o.data = .set es ep t) (hT : TabP t es.size) (hz : es.size ≤ t.mask) (hled : t.led = !byText w) (hi : i ≤ es.size)
    (hx : (orderOf w a es ep)[i]? = some e)
    (hQ : ∀ h', IsSetIter h' I a (i + 1) es.size ep (slotAt w t (i + 1)) → Heap.SameBut I s.heap h' → Q (some e.2) { s with heap := h' }) :
    wpAny (model prog w) A (pyNext (.ref I)) Q E s := by
  obtain ⟨oi, hoi, hci, hdi⟩ := id hit
  unfold pyNext
  refine wpAny_bind (wpAny_attempt (wpAny_callSpecial?_slot (name := Str.ofString "__next__") hit.typeIs slot_setiter_next
    (wpAny_call_entry slot_setiter_next hit.typeIs entry_setiter_next ?_ (args_setiter_next _))))
  unfold Builtin.«set_iterator.__next__»
  refine wpAny_bind (wpAny_pure ?_)
  refine wpAny_bind (wpAny_fieldsOf hoi hdi ?_)
  dsimp only
  refine wpAny_bind (wpAny_setEntries_of ho hd (hT.fits hz) ?_)
  refine ite_no (by simp) ?_
  rw [Int.toNat_natCast, Int.toNat_natCast, Int.toNat_natCast]
  refine wpAny_bind (setNext_at ho hd hT hz hled hi ?_)
  rw [hx]
  dsimp only [Option.map]
  refine wpAny_bind (wpAny_setField hoi hdi (by simp) ?_)
  have hoi2 := Heap.get?_update_self (Obj.mapFields (·.setIfInBounds 0 (rawInt (slotAt w t (i + 1))))) hoi (Obj.isFreed_of_fields (Obj.data_mapFields hdi _))
  have hdi2 := Obj.data_mapFields hdi (·.setIfInBounds 0 (rawInt (slotAt w t (i + 1))))
  refine wpAny_bind (wpAny_setField hoi2 hdi2 (by simp) (wpAny_pure ⟨_, rfl, wpAny_pure (hQ _ ?_ ((Heap.SameBut.update ..).trans (Heap.SameBut.update ..)))⟩))
  exact ⟨_, Heap.get?_update_self _ hoi2 (Obj.isFreed_of_fields (Obj.data_mapFields hdi2 _)), (Obj.cls_mapFields ..).trans ((Obj.cls_mapFields ..).trans hci), by
    rw [Obj.data_mapFields hdi2]; simp [rawInt]⟩
theorem end_set {Q : Option Value → Shared → Prop} {i : Nat} (hh : A.handled = none) (hit : IsSetIter s.heap I a i es.size ep (slotAt w t i)) (ho : s.heap.get? a = some o) (hd : o.data = .set es ep t) (hT : TabP t es.size) (hz : es.size ≤ t.mask) (hled : t.led = !byText w) (hi : i ≤ es.size)
    (hx : (orderOf w a es ep)[i]? = none)
    (hQ : ∀ h', Heap.ExtBut I s.heap h' → Q none { s with heap := h' }) :
    wpAny (model prog w) A (pyNext (.ref I)) Q E s := by
  obtain ⟨oi, hoi, hci, hdi⟩ := id hit
  unfold pyNext
  refine wpAny_bind (wpAny_attempt (wpAny_callSpecial?_slot (name := Str.ofString "__next__") hit.typeIs slot_setiter_next
    (wpAny_call_entry slot_setiter_next hit.typeIs entry_setiter_next ?_ (args_setiter_next _))))
  unfold Builtin.«set_iterator.__next__»
  refine wpAny_bind (wpAny_pure ?_)
  refine wpAny_bind (wpAny_fieldsOf hoi hdi ?_)
  dsimp only
  refine wpAny_bind (wpAny_setEntries_of ho hd (hT.fits hz) ?_)
  refine ite_no (by simp) ?_
  rw [Int.toNat_natCast, Int.toNat_natCast, Int.toNat_natCast]
  refine wpAny_bind (setNext_at ho hd hT hz hled hi ?_)
  rw [hx]
  dsimp only [Option.map]
  refine wpAny_bind (wpAny_setField hoi hdi (by simp) ?_)
  show wpAny _ _ (newExc (.type "StopIteration") [] >>= _) _ _ _
  refine wpAny_bind ?_
  simp only [newExc, newTuple]
  refine wpAny_bind (wpAny_newObj_type ?_ (by size_fits))
  refine wpAny_bind (m := firstArgMember _ _) (wpAny_of_eq (a := Value.none) (by first | rfl | (simp only [firstArgMember]; rfl)) ?_)
  refine wpAny_newObj_type ?_ (by size_fits)
  simp only [raiseNew]
  refine wpAny_bind (wpAny_handled ?_)
  rw [show A.in1.handled = none from hh]
  refine wpAny_bind (wpAny_pure (wpAny_throw ?_))
  refine wpAny_bind (wpAny_isInstance (T := "StopIteration") (b := true) ⟨_, Heap.get?_push_size _ rfl, rfl⟩ isSubtype_stop ?_)
  exact wpAny_pure (hQ _ (((Heap.SameBut.update ..).extBut.push _).push _))
theorem self_set {Q : Value → Shared → Prop} {i n sl : Nat} (hit : IsSetIter s.heap I a i n ep sl) (h : Q (.ref I) s) : wpAny (model prog w) A (pyIter (.ref I)) Q E s := by
  refine wpAny_pyIter_slot hit.typeIs slot_setiter_iter (wpAny_call_entry slot_setiter_iter hit.typeIs entry_setiter_iter ?_ (args_setiter_iter _))
  show wpAny _ _ (ret (.ref I)) _ _ s
  exact wpAny_pure ⟨_, rfl, "set_iterator", _, hit.typeIs, slot_setiter_next.lookup, h⟩
end
theorem pickGo_perm {α : Type} (next : Nat → Nat) : ∀ (f k : Nat) (left : List α) (out : Array α), left.length = f → (pickOrder.go next f k left out).toList.Perm (out.toList ++ left)
  | 0, k, left, out, h => by
    have e : left = [] := List.eq_nil_of_length_eq_zero h
    subst e
    simp [pickOrder.go]
  | f + 1, k, left, out, h => by
    unfold pickOrder.go
    have hlt : next k % left.length < left.length := Nat.mod_lt _ (by omega)
    rw [List.getElem?_eq_getElem hlt]
    dsimp only
    refine (pickGo_perm next f (k + 1) _ _ (by rw [List.length_eraseIdx_of_lt hlt]; omega)).trans ?_
    rw [Array.toList_push, List.append_assoc]
    refine List.Perm.append_left _ ?_
    have e : left = left.take (next k % left.length) ++ left[next k % left.length] :: left.drop (next k % left.length + 1) := by
      conv => lhs; rw [← List.take_append_drop (next k % left.length) left]
      rw [List.drop_eq_getElem_cons hlt]
    conv => rhs; rw [e]
    rw [List.eraseIdx_eq_take_drop_succ]
    rw [List.singleton_append]
    exact List.perm_middle.symm
theorem order_perm (w : World) (a : Addr) (es : Array (Int × Value)) (ep : Nat) : (orderOf w a es ep).toList.Perm es.toList := by
  unfold orderOf
  split
  · unfold pickOrder
    simpa using pickGo_perm (w.params.setOrder a ep) es.size 0 es.toList #[] (by simp)
  · exact .refl _
end
section
set_option maxHeartbeats 3200000
open PyProof.Rows.LCg
section
variable {prog : Program} {w : World} {A : Around} {E : Value → Shared → Prop} {s : Shared} {a : Addr} {o : Obj} {es : Array (Int × Value)} {ep : Nat} {t : SetTable}
theorem hint_set (hT : s.TypeIs (.ref a) "set") {Q : Bool → Shared → Prop} (h : Q false s) : wpAny (model prog w) A (Builtin.List.listLengthHint (.ref a)) Q E s := by
  unfold Builtin.List.listLengthHint
  refine wpAny_bind (wpAny_specialOf hT PySem.F.slot_set_len.lookup ?_)
  generalize hid : ("set.__len__" : String) = id0
  wp_delta
  rw [show splitId id0 = some ("set", "__len__") from by subst hid; decide +kernel]
  subst hid
  refine wpAny_bind (wpAny_isInstance (T := "set") (b := true) hT (by rw [isSubtype_type]; kernel_rfl) ?_)
  refine wpAny_ite_split (fun hab => absurd hab (by decide)) (fun _ => ?_)
  refine wpAny_ite_split (fun _ => ?_) (fun hab => absurd (by decide +kernel) hab)
  refine wpAny_bind (wpAny_typeOf hT ?_)
  exact wpAny_pure h
theorem set_walks (hh : A.handled = none) {I : Addr} (hne : a ≠ I) (hd : o.data = .set es ep t) (hT : TabP t es.size) (hz : es.size ≤ t.mask) (hled : t.led = !byText w) :
    Walks prog w A I [I, a] [I] es.size (fun i v => ((orderOf w a es ep)[i]?).map (·.2) = some v) (fun i h => IsSetIter h I a i es.size ep (slotAt w t i) ∧ h.get? a = some o ∧ i ≤ es.size) where
  sub := fun b hb => by simp at hb; simp [hb]
  frame := fun i h h' st hk => ⟨let ⟨oi, h1, r⟩ := st.1; ⟨oi, hk I (by simp) oi h1, r⟩, hk a (by simp) o st.2.1, st.2.2⟩
  item := fun i s Q E hi st hQ => by
    have hsz : (orderOf w a es ep).size = es.size := by rw [← Array.length_toList, (order_perm w a es ep).length_eq, Array.length_toList]
    have hlt : i < (orderOf w a es ep).size := by omega
    refine next_set st.1 st.2.1 hd hT hz hled st.2.2 (Array.getElem?_eq_getElem hlt) fun h' hit' hs' => ?_
    exact hQ _ h' s.toks (by rw [Array.getElem?_eq_getElem hlt]; rfl) ⟨hit', hs'.extBut a o hne st.2.1, hi⟩ fun b o hb e => hs'.extBut b o (fun h => hb (by simp [h])) e
  done := fun s Q E st hQ => by
    have hsz : (orderOf w a es ep).size = es.size := by rw [← Array.length_toList, (order_perm w a es ep).length_eq, Array.length_toList]
    exact end_set hh st.1 st.2.1 hd hT hz hled st.2.2 (Array.getElem?_eq_none (by omega)) fun h' he' => hQ h' s.toks fun b o hb e => he' b o (fun h => hb (by simp [h])) e
  self := fun _ _ _ _ st hQ => self_set st.1 hQ
theorem set_src (hex : o.ExactSet) (hd : o.data = .set es ep t) (hT : TabP t es.size) (hz : es.size ≤ t.mask) (hled : t.led = !byText w) :
    KdlSrc prog w "set" a a es.size (fun i v => ((orderOf w a es ep)[i]?).map (·.2) = some v) (fun h => h.get? a = some o) where
  type := fun _ ho => ⟨o, ho, hex.1⟩
  there := fun _ ho => ⟨Heap.lt_size ho, Heap.lt_size ho⟩
  keep := fun _ _ ho hk => hk a (.inl rfl) o ho
  notList := by decide
  notTuple := by decide
  hint := fun _ _ _ _ ho hq => hint_set ⟨o, ho, hex.1⟩ hq
  iter := fun A s hh ho => ⟨_, _, (fun _ _ hq => pyIter_set ho hex hd (hT.fits hz) hT.plain hq), set_walks hh (Nat.ne_of_lt (Heap.lt_size ho)) hd hT hz hled,
    ⟨⟨_, Heap.get?_push_size _ rfl, rfl, rfl⟩, Heap.get?_push_of_some _ ho, Nat.zero_le _⟩⟩
theorem sorted_set {h₀ : Heap} {L : Addr} {m : Str → Option Value} {news : List (Addr × Obj)} {ks : List Int} {Q : Value → Shared → Prop} (hh : A.handled = none) (F : Fr h₀ L s.heap m) (N : News h₀ L s.heap news) (hS : IntSetAt prog w s.heap a ks)
    (h : ∀ D c h' tk vs ns, Fr h₀ L h' m → News h₀ L h' ((D, W.listOf vs.toArray c) :: news) → (∀ q ∈ news, q.1 < D) → IntsAre vs ns → ns.Perm ks → ns.Pairwise (· ≤ ·) → Q (.ref D) { s with heap := h', toks := tk }) :
    wpAny (model prog w) A (call (.builtin "sorted") [.ref a]) Q E s := by
  obtain ⟨o, es, ep, t, ho, hex, hd, hel, hT, hroom, hled, hp, hb, hn⟩ := hS
  have hsz : es.size = ks.length := by have := hp.length_eq; unfold numsOf at this; rw [List.length_map, Array.length_toList] at this; exact this
  have hl20 := small_length hb hn
  have hmk := hT.mask
  refine kdu_sorted (set_src hex hd hT (by omega) hled) hh F N ho (by rw [sizeLine_eq]; omega) fun D h' tk vs F' N' l1 hl hv => ?_
  have hvs : vs = (orderOf w a es ep).toList.map (·.2) := by
    refine List.ext_getElem? fun j => ?_
    rcases Nat.lt_or_ge j vs.length with hj | hj
    · have := hv j vs[j] (List.getElem?_eq_getElem hj)
      rw [List.getElem?_eq_getElem hj, ← this, List.getElem?_map, Array.getElem?_toList]
    · rw [List.getElem?_eq_none hj, List.getElem?_eq_none]
      rw [List.length_map, (order_perm w a es ep).length_eq, Array.length_toList]
      omega
  have hall : ∀ v ∈ vs, ∃ n t, v = .int n t := fun v hm => by
    rw [hvs] at hm
    obtain ⟨e, he, rfl⟩ := List.mem_map.mp hm
    obtain ⟨⟨k, hk, _⟩, _⟩ := hel e ((order_perm w a es ep).mem_iff.mp he)
    exact ⟨k, Value.isInt_shape hk⟩
  have hI := intsAre_map vs hall
  have hpn : (vs.map numOf).Perm ks := by
    rw [hvs, List.map_map]
    exact ((order_perm w a es ep).map _).trans hp
  have hoD : h'.get? D = some (seqObj "list" vs.toArray 0) := (N' _ (.head _)).1
  have hDL := (N' _ (.head _)).2
  refine wpAny_call_entry slot_list_sort ⟨_, hoD, rfl⟩ entry_list_sort (list_sort_tree (s := { s with heap := h', toks := tk }) hoD hI (by omega) fun out ns' a1 a2 a3 => ⟨_, rfl, ?_⟩) (args_list_sort _)
  obtain ⟨e, he⟩ := sortedHeap_at (out := out) hoD
  have old : ∀ b o, b ∉ [D] → h'.get? b = some o → (sortedHeap h' D vs out).get? b = some o := fun b o hb eb => by
    rw [sortedHeap_old (fun x => hb (by simp [x])) (Heap.lt_size eb)]
    exact eb
  refine h D e _ tk out.toList ns' (fr_but F' old hDL.1.symm hDL.2) (fun q hq => ?_) l1 a1 (a2.trans hpn) a3
  rcases List.mem_cons.mp hq with rfl | hq
  · exact ⟨by simpa [W.listOf] using he, hDL⟩
  · exact news_but (fun q hq => N' q (.tail _ hq)) old (fun q hq => Nat.ne_of_lt (l1 q hq)) q hq
end
end
section
theorem pairs_eq : ∀ {l1 l2 : List (Int × Value)}, l1.Pairwise (fun a b => a.1 < b.1) → l2.Pairwise (fun a b => a.1 < b.1) → (∀ p, p ∈ l1 ↔ p ∈ l2) → l1 = l2
  | [], [], _, _, _ => rfl
  | [], b :: l2, _, _, h => absurd ((h b).mpr (.head _)) (by simp)
  | a :: l1, [], _, _, h => absurd ((h a).mp (.head _)) (by simp)
  | a :: l1, b :: l2, h1, h2, h => by
    obtain ⟨p1, q1⟩ := List.pairwise_cons.mp h1
    obtain ⟨p2, q2⟩ := List.pairwise_cons.mp h2
    have e : a = b := by
      rcases List.mem_cons.mp ((h a).mp (.head _)) with e | e
      · exact e
      · rcases List.mem_cons.mp ((h b).mpr (.head _)) with f | f
        · exact f.symm
        · have := p1 _ f; have := p2 _ e; omega
    subst e
    rw [pairs_eq q1 q2 fun p => ⟨fun hp => ?_, fun hp => ?_⟩]
    · rcases List.mem_cons.mp ((h p).mp (.tail _ hp)) with e | e
      · subst e; have := p1 _ hp; omega
      · exact e
    · rcases List.mem_cons.mp ((h p).mpr (.tail _ hp)) with e | e
      · subst e; have := p2 _ hp; omega
      · exact e
theorem rows_pairs {rs rs2 : List Row} (h1 : rs.Pairwise (fun a b => a.k < b.k)) (h2 : rs2.Pairwise (fun a b => a.k < b.k)) (h : ∀ k v, (∃ r ∈ rs, r.k = k ∧ r.v = v) ↔ (∃ r ∈ rs2, r.k = k ∧ r.v = v)) : pairsR rs = pairsR rs2 := by
  refine pairs_eq (List.pairwise_map.mpr h1) (List.pairwise_map.mpr h2) fun p => ?_
  obtain ⟨k, v⟩ := p
  unfold pairsR
  rw [List.mem_map, List.mem_map]
  have := h k v
  constructor
  · rintro ⟨r, hr, e⟩
    obtain ⟨r2, hr2, e1, e2⟩ := this.mp ⟨r, hr, congrArg (·.1) e, congrArg (·.2) e⟩
    exact ⟨r2, hr2, by rw [e1, e2]⟩
  · rintro ⟨r, hr, e⟩
    obtain ⟨r2, hr2, e1, e2⟩ := this.mpr ⟨r, hr, congrArg (·.1) e, congrArg (·.2) e⟩
    exact ⟨r2, hr2, by rw [e1, e2]⟩
def valDat : Value → Dat
  | .int i _ => .int i
  | _ => .none
def datR (ps : List (Int × Value)) : List Dat := ps.map fun p => .tuple [.int p.1, valDat p.2]
theorem datIn_val {news : List (Addr × Obj)} {v : Value} (h : Vok v) : DatIn news v (valDat v) := by
  rcases h with rfl | ⟨i, t, rfl, -⟩
  · exact .none
  · exact .int _ _
theorem datAll_rows : ∀ {rs : List Row}, (∀ r ∈ rs, Vok r.v) → DatAll (rowsL rs) (rowsV rs) (datR (pairsR rs))
  | [], _ => .nil
  | r :: rs, h => .cons (.tuple (vs := [.int r.k r.t, r.v]) (n := 0) (.head _) (.cons (.int _ _) (.cons (datIn_val (h r (.head _))) .nil))) (DatAll.mono (fun p hp => .tail _ hp) (datAll_rows fun q hq => h q (.tail _ hq)))
theorem datAll_ints : ∀ {vs : List Value} {ns : List Int}, IntsAre vs ns → DatAll [] vs (ns.map Dat.int)
  | _, _, .nil => .nil
  | _, _, .cons k t r => .cons (.int _ _) (datAll_ints r)
theorem ok_rows {ps : List (Int × Value)} : ∀ d ∈ datR ps, kqdOk 8 d = true := by
  intro d hd
  obtain ⟨p, -, rfl⟩ := List.mem_map.mp hd
  obtain ⟨k, v⟩ := p
  cases v <;> simp [kqdOk, valDat]
theorem ok_ints {ns : List Int} : ∀ d ∈ ns.map Dat.int, kqdOk 8 d = true := by
  intro d hd
  obtain ⟨p, -, rfl⟩ := List.mem_map.mp hd
  simp [kqdOk]
section
variable {prog : Program} {w : World} {A : Around} {E : Value → Shared → Prop} {s : Shared} {h₀ : Heap} {L : Addr} {m : Str → Option Value} {news : List (Addr × Obj)} {Q : Value → Shared → Prop} {a b : Addr} {ka kb : Nat} {rs rs2 : List Row} {vs us : List Value} {ns : List Int}
theorem rows_ne (N : News h₀ L s.heap news) (ma : (a, W.listOf (rowsV rs).toArray ka) ∈ news) (mb : (b, W.listOf (rowsV rs2).toArray kb) ∈ news) (sa : ∀ p ∈ rowsL rs, p ∈ news) (sb : ∀ p ∈ rowsL rs2, p ∈ news)
    (va : ∀ r ∈ rs, Vok r.v) (vb : ∀ r ∈ rs2, Vok r.v) (e : pairsR rs = pairsR rs2) (hu : A.units + 64 < cLine) (h : Q (.bool false) s) : wpAny (model prog w) A (compareOp .NotEq (.ref a) (.ref b)) Q E s :=
  kqd_ne N ma rfl rfl (datAll_rows va) sa mb rfl rfl (datAll_rows vb) sb ok_rows ok_rows hu (by rw [e]; simpa using h)
theorem rows_eq (N : News h₀ L s.heap news) (ma : (a, W.listOf (rowsV rs).toArray ka) ∈ news) (mb : (b, W.listOf (rowsV rs2).toArray kb) ∈ news) (sa : ∀ p ∈ rowsL rs, p ∈ news) (sb : ∀ p ∈ rowsL rs2, p ∈ news)
    (va : ∀ r ∈ rs, Vok r.v) (vb : ∀ r ∈ rs2, Vok r.v) (e : pairsR rs = pairsR rs2) (hu : A.units + 64 < cLine) (h : Q (.bool true) s) : wpAny (model prog w) A (compareOp .Eq (.ref a) (.ref b)) Q E s :=
  kqd_eq N ma rfl rfl (datAll_rows va) sa mb rfl rfl (datAll_rows vb) sb ok_rows ok_rows hu (by rw [e]; simpa using h)
theorem ints_ne {oa ob : Obj} (N : News h₀ L s.heap news) (ma : (a, oa) ∈ news) (ca : oa.cls = .type "list") (da : oa.data = .seq vs.toArray ka) (mb : (b, ob) ∈ news) (cb : ob.cls = .type "list") (db : ob.data = .seq us.toArray kb) (ia : IntsAre vs ns) (ib : IntsAre us ns)
    (hu : A.units + 64 < cLine) (h : Q (.bool false) s) : wpAny (model prog w) A (compareOp .NotEq (.ref a) (.ref b)) Q E s :=
  kqd_ne N ma ca da (datAll_ints ia) (by simp) mb cb db (datAll_ints ib) (by simp) ok_ints ok_ints hu (by simpa using h)
theorem ints_eq {oa ob : Obj} (N : News h₀ L s.heap news) (ma : (a, oa) ∈ news) (ca : oa.cls = .type "list") (da : oa.data = .seq vs.toArray ka) (mb : (b, ob) ∈ news) (cb : ob.cls = .type "list") (db : ob.data = .seq us.toArray kb) (ia : IntsAre vs ns) (ib : IntsAre us ns)
    (hu : A.units + 64 < cLine) (h : Q (.bool true) s) : wpAny (model prog w) A (compareOp .Eq (.ref a) (.ref b)) Q E s :=
  kqd_eq N ma ca da (datAll_ints ia) (by simp) mb cb db (datAll_ints ib) (by simp) ok_ints ok_ints hu (by simpa using h)
end
section
variable {h₀ h' : Heap} {L : Addr} {s : Shared} {own own' rest : List (Addr × Obj)}
theorem call_news (N : News h₀ L s.heap rest) (l : Left s own own' h') (N' : News h₀ L h' own') (d : ∀ p ∈ rest, p.1 ∉ own.map (·.1)) : News h₀ L h' (own' ++ rest) ∧ ∀ p ∈ rest, p.1 ∉ own'.map (·.1) :=
  ⟨fun p hp => (List.mem_append.mp hp).elim (fun q => N' p q) (fun q => left_news N l d p q), fun p hp => (l p.1 p.2 (N p hp).1 (d p hp)).2⟩
end
theorem dict_sep {h₀ h : Heap} {L a : Addr} {o : Obj} {news : List (Addr × Obj)} (N : News h₀ L h news) (ha : (a, o) ∈ news) (hd : ∃ es ep, o.data = .dict es ep) {p : Addr × Obj} (hp : p ∈ news) (np : ¬ ∃ es ep, p.2.data = .dict es ep) : p.1 ≠ a := by
  rintro rfl
  have e := (N _ ha).1.symm.trans (N _ hp).1
  exact np (by rw [← Option.some.inj e]; exact hd)
theorem dict_data {prog : Program} {w : World} {od : Obj} {kvs : List (Int × Value)} (hod : od.IsDictOf (intKind prog w) kvs) : ∃ es ep, od.data = .dict es ep := by
  obtain ⟨es, ep, _, h1, _⟩ := id hod
  exact ⟨es, ep, h1⟩
theorem some_same {kv kv2 : List (Int × Value)} {rs rs2 : List Row} (h1 : rs.Pairwise (fun a b => a.k < b.k)) (h2 : rs2.Pairwise (fun a b => a.k < b.k)) (e1 : ∀ k v, (∃ r ∈ rs, r.k = k ∧ r.v = v) ↔ (valueAt kv k = some v ∧ v ≠ .none))
    (e2 : ∀ k v, (∃ r ∈ rs2, r.k = k ∧ r.v = v) ↔ (valueAt kv2 k = some v ∧ v ≠ .none)) (e : ∀ k, got kv k = got kv2 k) : pairsR rs = pairsR rs2 := by
  have g : ∀ (kv : List (Int × Value)) k v, (valueAt kv k = some v ∧ v ≠ .none) ↔ (got kv k = v ∧ v ≠ .none) := by
    intro kv k v
    unfold got
    constructor
    · rintro ⟨a, b⟩; rw [a]; exact ⟨rfl, b⟩
    · rintro ⟨a, b⟩
      refine ⟨?_, b⟩
      cases h : valueAt kv k with
      | none => rw [h] at a; exact absurd a.symm b
      | some u => rw [h] at a; exact congrArg some a
  refine rows_pairs h1 h2 fun k v => ?_
  rw [e1, e2, g, g, e]
theorem some_vok {kv : List (Int × Value)} {rs : List Row} (e1 : ∀ k v, (∃ r ∈ rs, r.k = k ∧ r.v = v) ↔ (valueAt kv k = some v ∧ v ≠ .none)) (hg : ∀ p ∈ kv, Vok p.2) : ∀ r ∈ rs, Vok r.v := fun r hr =>
  hg _ (valueAt_mem ((e1 r.k r.v).mp ⟨r, hr, rfl, rfl⟩).1)
theorem down_up : ∀ (n : Nat) (M : Int), (rangeInts M (-1) n ++ [M - n]).Perm (rangeInts (M - n) 1 (n + 1)) := by
  intro n M
  have e : (rangeInts M (-1) n ++ [M - n]).reverse = rangeInts (M - n) 1 (n + 1) := by
    refine List.ext_getElem (by simp [rangeInts_length]) fun i h1 h2 => ?_
    have h1' : i < n + 1 := by simpa [rangeInts_length] using h1
    rw [List.getElem_reverse, List.getElem_append]
    simp only [rangeInts, List.length_append, List.length_map, List.length_range, List.length_cons, List.length_nil, List.getElem_map, List.getElem_range]
    split
    · rename_i h3
      simp [rangeInts_length] at h3
      omega
    · rename_i h3
      simp [rangeInts_length] at h3
      have : i = 0 := by omega
      subst this
      simp
  rw [← e]
  exact (List.reverse_perm _).symm
theorem up_sorted (a : Int) (n : Nat) : (rangeInts a 1 n).Pairwise (· ≤ ·) := by
  unfold rangeInts
  refine List.pairwise_map.mpr ((List.pairwise_lt_range (n := n)).imp fun h => ?_)
  omega
theorem sorted_eq : ∀ {l1 l2 : List Int}, l1.Pairwise (· ≤ ·) → l2.Pairwise (· ≤ ·) → l1.Perm l2 → l1 = l2
  | [], l2, _, _, h => (List.nil_perm.mp h).symm
  | a :: l1, [], _, _, h => absurd h.length_eq (by simp)
  | a :: l1, b :: l2, h1, h2, h => by
    obtain ⟨p1, q1⟩ := List.pairwise_cons.mp h1
    obtain ⟨p2, q2⟩ := List.pairwise_cons.mp h2
    have e : a = b := by
      rcases List.mem_cons.mp (h.mem_iff.mp (List.mem_cons_self (a := a) (l := l1))) with e | e
      · exact e
      · rcases List.mem_cons.mp (h.mem_iff.mpr (List.mem_cons_self (a := b) (l := l2))) with f | f
        · exact f.symm
        · have := p1 _ f; have := p2 _ e; omega
    subst e
    rw [sorted_eq q1 q2 (List.Perm.cons_inv h)]
end
section
open PyProof.Rows.LCg PyProof.Rows.LCp
section
variable {prog : Program} {w : World} {A : Around} {E : Value → Shared → Prop} {s : Shared} {h₀ : Heap} {L : Addr} {m : Str → Option Value} {env : Env}
theorem fr_but2 {h₀ h h' : Heap} {L a b : Addr} {m : Str → Option Value} (F : Fr h₀ L h m) (hk : ∀ c o, c ∉ [a, b] → h.get? c = some o → h'.get? c = some o) (hL : L ≠ a ∧ L ≠ b) (hI : h₀.get? a = none) (hI2 : h₀.get? b = none) : Fr h₀ L h' m :=
  ⟨F.ns.at' fun o e => hk L o (by simp [hL.1, hL.2]) e, fun c o e => hk c o (fun hm => by
    rcases List.mem_cons.mp hm with rfl | hm
    · rw [hI] at e; cases e
    · rw [List.mem_singleton.mp hm, hI2] at e; cases e) (F.keep c o e), F.above⟩
theorem news_but2 {h₀ h h' : Heap} {L a b : Addr} {news : List (Addr × Obj)} (N : News h₀ L h news) (hk : ∀ c o, c ∉ [a, b] → h.get? c = some o → h'.get? c = some o) (off : ∀ p ∈ news, p.1 ≠ a ∧ p.1 ≠ b) : News h₀ L h' news :=
  fun p hp => ⟨hk _ _ (by simp [(off p hp).1, (off p hp).2]) (N p hp).1, (N p hp).2⟩
def EOff (e it C D : Addr) (nw : List (Addr × Obj)) : Prop := ∀ p ∈ nw, (@Ne Nat p.1 e) ∧ (@Ne Nat p.1 it) ∧ (@Ne Nat p.1 C) ∧ (@Ne Nat p.1 D)
def EEnd (h₀ : Heap) (L : Addr) (m : Str → Option Value) (e it C D l : Addr) (oe oi oC lo : Obj) (ys : List Value) (s₂ : Shared) (J : Value → List (Addr × Obj) → Prop) (y : Value) (s' : Shared) : Prop :=
  ∃ h' tk' nw, s' = { s₂ with heap := h', toks := tk' } ∧ Fr h₀ L h' m ∧ News h₀ L h' ((e, oe) :: (it, oi) :: (C, oC) :: (D, lst ys) :: nw) ∧ EOff e it C D nw ∧ (l, lo) ∈ nw ∧ J y nw
def EStep (prog : Program) (w : World) (A : Around) (h₀ : Heap) (L : Addr) (m : Str → Option Value) (env : Env) (elt : Expr) (x x₂ : Str) (scope : Scope) (cl : List (Str × Addr)) (l : Addr) (lo : Obj) (vs : List Value) (s₂ : Shared) (J : Nat → List Value → List (Addr × Obj) → Prop) : Prop :=
  ∀ i ys news, i < vs.length → J i ys news → (l, lo) ∈ news → ∀ e it C D oe oi oC m₂ t v h tk (E' : Value → Shared → Prop), vs[i]? = some v → NsObj oC m₂ → m₂ x = some (.int (i : Int) t) → m₂ x₂ = some v → Fr h₀ L h m →
    News h₀ L h ((e, oe) :: (it, oi) :: (C, oC) :: (D, lst ys) :: news) → EOff e it C D news → ((@Ne Nat e C) ∧ (@Ne Nat it C) ∧ (@Ne Nat e D) ∧ (@Ne Nat it D) ∧ (@Ne Nat C D)) →
    wpAny (model prog w) A (eval elt (compEnvC scope cl C env)) (EEnd h₀ L m e it C D l oe oi oC lo ys s₂ fun y nw => J (i + 1) (ys ++ [y]) nw) E' { s₂ with heap := h, toks := tk }
theorem block_E {elt iter : Expr} {x x₂ : Str} {px px₂ tp : Pos} {tk} {scope : Scope} {cl : List (Str × Addr)} {pos : Pos} {s₂ : Shared} {e it l : Addr} {lo : Obj} {nl : Nat} {vs : List Value} {news : List (Addr × Obj)} {RR : Value → Addr → Result → Shared → Prop}
    (J : Nat → List Value → List (Addr × Obj) → Prop) (hh : A.handled = none) (hei : e ≠ it) (hle : l ≠ e) (hli : l ≠ it) (hsz : vs.length ≤ sizeLine)
    (hcell : ∀ y ∈ scope.names, y.2 ≠ .cell) (hkind : scope.kind = .function) (hx : scope.names.lookup x = some .local) (hx₂ : scope.names.lookup x₂ = some .local) (hxx : x ≠ x₂)
    (hst : (∃ old, IsEnum s₂.heap e it 0 old) ∧ s₂.heap.IsListIter it l 0 ∧ s₂.heap.IsList l vs.toArray) (hfp : ∀ b ∈ [e, it, l], b < s₂.heap.objs.size)
    (F : Fr h₀ L s₂.heap m) (N : News h₀ L s₂.heap news) (hLe : L ≠ e ∧ L ≠ it) (he₀ : h₀.get? e = none) (hi₀ : h₀.get? it = none) (off : ∀ p ∈ news, p.1 ≠ e ∧ p.1 ≠ it) (hml : (l, lo) ∈ news) (hlc : lo.cls = .type "list") (hld : lo.data = .seq vs.toArray nl)
    (hJ : J 0 [] news) (step : EStep prog w A h₀ L m env elt x x₂ scope cl l lo vs s₂ J)
    (hRR : ∀ D C h tk m' ys news', Fr h₀ L h m → News h₀ L h ((D, lst ys) :: news') → (∀ p ∈ news', (@Ne Nat p.1 D)) → h.Ns C m' → h₀.get? C = none → h₀.get? D = none → C ≠ L → D ≠ L → C ≠ D → (∀ p ∈ news', p.1 ≠ C) → J vs.length ys news' → RR (.ref D) C (.ok .next) { s₂ with heap := h, toks := tk }) :
    wpAny (model prog w) A (newList []) (fun acc s₃ => wpAny (model prog w) A (newFunctionEnv scope env.globals cl [] env.qual none .none (some env)) (fun cenv s₄ =>
      codeAny (model prog w) A (.compStart (.ListComp elt [⟨.Tuple [.Name x px, .Name x₂ px₂] tk tp, iter, [], 0⟩] scope pos) 0 (.ref e) acc { cenv with scope := relabel scope env }) (RR acc cenv.locals) s₄) E s₃) E s₂ := by
  have W := WalksT.enumerate (prog := prog) (w := w) hh e it l hei hle hli vs.toArray
  refine wpAny_newObj_type (wpAny_newFunctionEnv hcell (by intro y hy; simp at hy) (fun h₁ hns₁ hsb₁ => ?_) hkind)
  dsimp only at hns₁ hsb₁ ⊢
  generalize hH2 : s₂.heap.push { cls := .type "list", dict := none, data := .seq ([] : List Value).toArray } = H2 at hns₁ hsb₁ ⊢
  have hC : H2.objs.size = s₂.heap.objs.size + 1 := by rw [← hH2, Heap.size_push]
  have hDC : s₂.heap.objs.size ≠ H2.objs.size := by rw [hC]; exact Nat.ne_of_lt (Nat.lt_succ_self _)
  have below : ∀ b, b < s₂.heap.objs.size → b ≠ H2.objs.size ∧ b ≠ s₂.heap.objs.size := fun b hb => ⟨by rw [hC]; exact Nat.ne_of_lt (Nat.lt_succ_of_lt hb), Nat.ne_of_lt hb⟩
  have hDf : s₂.heap.objs.size ∉ [e, it, l] := fun hm => Nat.lt_irrefl _ (hfp _ hm)
  have hCf : H2.objs.size ∉ [e, it, l] := fun hm => by have := hfp _ hm; rw [hC] at this; exact Nat.lt_irrefl _ (Nat.lt_of_succ_lt this)
  have helt : e < s₂.heap.objs.size := hfp e (by simp)
  have hilt : it < s₂.heap.objs.size := hfp it (by simp)
  have old : ∀ b o, s₂.heap.get? b = some o → h₁.get? b = some o := fun b o e => hsb₁.extBut b o (below b (Heap.lt_size e)).1 (Heap.get?_push_of_some _ (hH2 ▸ Heap.get?_push_of_some _ e))
  have hacc : h₁.get? s₂.heap.objs.size = some (lst []) := hsb₁.extBut _ _ hDC (Heap.get?_push_of_some _ (hH2 ▸ Heap.get?_push_size _ rfl))
  have hst₁ := W.frame 0 _ h₁ hst fun b _ o e => old b o e
  have fresh : ∀ a, s₂.heap.objs.size ≤ a → s₂.heap.get? a = none := fun a ha => by
    cases e : s₂.heap.get? a with
    | none => rfl
    | some o' => exact absurd (Heap.lt_size e) (Nat.not_lt.mpr ha)
  have fresh₀ : ∀ a, s₂.heap.objs.size ≤ a → h₀.get? a = none := fun a ha => by
    cases e : h₀.get? a with
    | none => rfl
    | some o' => have := F.keep a o' e; rw [fresh a ha] at this; cases this
  have hD₀ : h₀.get? s₂.heap.objs.size = none := fresh₀ _ (Nat.le_refl _)
  have hC₀ : h₀.get? H2.objs.size = none := fresh₀ _ (by rw [hC]; exact Nat.le_succ _)
  have hLlt : L < s₂.heap.objs.size := F.ns.lt
  have hDL : s₂.heap.objs.size ≠ L := Ne.symm (below L hLlt).2
  have hCL : H2.objs.size ≠ L := Ne.symm (below L hLlt).1
  have hCe := below e helt
  have hCi := below it hilt
  have off₀ : EOff e it H2.objs.size s₂.heap.objs.size news := fun p hp => ⟨(off p hp).1, (off p hp).2, (below _ (Heap.lt_size (N p hp).1)).1, (below _ (Heap.lt_size (N p hp).1)).2⟩
  have loop : ∀ s₃ : Shared, s₃ = { s₂ with heap := h₁, toks := s₂.toks + ([] : List (Str × Value)).length } →
      codeAny (model prog w) A (.compLoop (.ListComp elt [⟨.Tuple [.Name x px, .Name x₂ px₂] tk tp, iter, [], 0⟩] scope pos) 0 (.ref e) (.ref s₂.heap.objs.size) (compEnvC scope cl H2.objs.size env))
        (RR (.ref s₂.heap.objs.size) H2.objs.size) s₃ := by
    rintro s₃ rfl
    refine codeAny_compLoop_pair
      (fun k s' => ∃ h' tk i ys m' news', s' = { s₂ with heap := h', toks := tk } ∧ i ≤ vs.length ∧ k = vs.length + 1 - i ∧ ys.length = i ∧ ((∃ old, IsEnum h' e it i old) ∧ h'.IsListIter it l i ∧ h'.IsList l vs.toArray) ∧ Fr h₀ L h' m ∧ h'.Ns H2.objs.size m' ∧ News h₀ L h' ((s₂.heap.objs.size, lst ys) :: news') ∧
        EOff e it H2.objs.size s₂.heap.objs.size news' ∧ (l, lo) ∈ news' ∧ J i ys news') ?_ (vs.length + 1)
      ⟨h₁, _, 0, [], _, news, rfl, Nat.zero_le _, rfl, rfl, hst₁, F.keeps old, hns₁, fun p hp => ?_, off₀, hml, hJ⟩
    · rintro k s' ⟨h', tk, i, ys, m', news', rfl, hi, rfl, hyl, hst', F', hn', N', off', hml', hJ'⟩
      by_cases hlt : i < vs.length
      · refine W.item i _ _ _ (by simpa using hlt) hst' fun T vals hA tkA hPv _ hT hm hkA => ?_
        obtain ⟨t, v, hxi, rfl⟩ := hPv
        refine W.go _ _ _ i T _ _ _ hm fun h₂ hst₂ hkB => ?_
        have hk₂ : ∀ b o, b ∉ [e, it] → h'.get? b = some o → h₂.get? b = some o := fun b o hb x => hkB b o hb (hkA b o hb x)
        have ht : IsTup h₂ T #[.int i t, v] := by
          obtain ⟨ot, e1, e2⟩ := hT
          exact ⟨ot, hkB _ _ (fun hb => W.apart i T hA hm hb) e1, e2⟩
        refine assign_Tuple_tuple hh ht rfl rfl fun h₅ he => ?_
        have he' : ∀ b o, h₂.get? b = some o → h₅.get? b = some o := fun b o e => he b o (Nat.ne_of_lt (Heap.lt_size e)) e
        have hnC : ∀ o, h'.get? H2.objs.size = some o → h₂.get? H2.objs.size = some o := fun o e => hk₂ _ o (by simp [Ne.symm hCe.1, Ne.symm hCi.1]) e
        refine assignInOrder_cons (wpAny_assign_Name (wpAny_storeName_local (lookup_relabel_local hx) ((hn'.at' hnC).at' fun o e => he' _ o e) (fun h₆ hn₆ hs₆ => ?_) (by simp [compEnvC, relabel, hkind])))
        refine assignInOrder_cons (wpAny_assign_Name (wpAny_storeName_local (lookup_relabel_local hx₂) hn₆ (fun h₃ hn₃ hs₃ => ?_) (by simp [compEnvC, relabel, hkind])))
        refine assignInOrder_nil ?_
        have old3 : ∀ b o, b ≠ H2.objs.size → h₂.get? b = some o → h₃.get? b = some o := fun b o hb e => hs₃.extBut b o hb (hs₆.extBut b o hb (he' b o e))
        have hst₃ := W.frame (i + 1) _ h₃ hst₂ fun b hb o e => old3 b o (fun q => hCf (by rw [← q]; exact hb)) e
        obtain ⟨oe, hee⟩ : ∃ oe, h₃.get? e = some oe := by obtain ⟨⟨_, x⟩, _, _⟩ := hst₃; exact ⟨_, x⟩
        obtain ⟨oi, hei'⟩ : ∃ oi, h₃.get? it = some oi := by obtain ⟨_, ⟨_, x, _⟩, _⟩ := hst₃; exact ⟨_, x⟩
        obtain ⟨oC, heC, hoC⟩ := ns_obj hn₃
        have F₃ : Fr h₀ L h₃ m := (((fr_but2 F' hk₂ hLe he₀ hi₀).keeps he').change hs₆ hCL hC₀).change hs₃ hCL hC₀
        have N₂ : News h₀ L h₂ ((s₂.heap.objs.size, lst ys) :: news') := news_but2 N' hk₂ fun p hp => by
          rcases List.mem_cons.mp hp with rfl | hp
          · exact ⟨Ne.symm hCe.2, Ne.symm hCi.2⟩
          · exact ⟨(off' p hp).1, (off' p hp).2.1⟩
        have N₃ : News h₀ L h₃ ((e, oe) :: (it, oi) :: (H2.objs.size, oC) :: (s₂.heap.objs.size, lst ys) :: news') := fun p hp => by
          rcases List.mem_cons.mp hp with rfl | hp
          · exact ⟨hee, Ne.symm hLe.1, he₀⟩
          rcases List.mem_cons.mp hp with rfl | hp
          · exact ⟨hei', Ne.symm hLe.2, hi₀⟩
          rcases List.mem_cons.mp hp with rfl | hp
          · exact ⟨heC, hCL, hC₀⟩
          have z := N₂ p hp
          refine ⟨old3 _ _ ?_ z.1, z.2⟩
          rcases List.mem_cons.mp hp with rfl | hp
          · exact hDC
          · exact (off' p hp).2.2.1
        refine wpAny_mono (step i ys news' hlt hJ' hml' e it H2.objs.size s₂.heap.objs.size oe oi oC _ t v h₃ _ _ (by simpa using hxi) hoC (by simp [hxx]) (by simp) F₃ N₃ off' ⟨hCe.1, hCi.1, hCe.2, hCi.2, Ne.symm hDC⟩) (fun y s₄ h₄ => ?_) fun _ _ e => e
        obtain ⟨h₄, tk₄, nw, rfl, F₄, N₄, off₄, hml₄, hJ₄⟩ := h₄
        have N₄' : News h₀ L h₄ nw := fun p hp => N₄ p (.tail _ (.tail _ (.tail _ (.tail _ hp))))
        have zC := (N₄ (H2.objs.size, oC) (.tail _ (.tail _ (.head _)))).1
        have zD := (N₄ (s₂.heap.objs.size, lst ys) (.tail _ (.tail _ (.tail _ (.head _))))).1
        have hl₃ : h₃.get? l = some lo := (N₃ _ (.tail _ (.tail _ (.tail _ (.tail _ hml'))))).1
        have hst₄ := W.frame (i + 1) _ h₄ hst₃ fun b hb o eb => by
          simp only [List.mem_cons, List.not_mem_nil, or_false] at hb
          rcases hb with rfl | rfl | rfl
          · rw [hee] at eb; cases eb; exact (N₄ _ (.head _)).1
          · rw [hei'] at eb; cases eb; exact (N₄ _ (.tail _ (.head _))).1
          · rw [hl₃] at eb; cases eb; exact (N₄' _ hml₄).1
        refine append_at (hsz := by show ys.toArray.size ≤ sizeLine; rw [List.size_toArray, hyl]; exact Nat.le_trans hi hsz) zD fun h₅ hs₅ hD₅ => ?_
        refine ⟨vs.length + 1 - (i + 1), by omega, h₅, tk₄, i + 1, ys ++ [y], _, nw, rfl, hlt, rfl, by rw [List.length_append, List.length_singleton, hyl], W.frame _ _ _ hst₄ fun b hb o e => hs₅.extBut b o (fun q => hDf (q ▸ hb)) e, F₄.change hs₅ hDL hD₀,
          (hoC.ns zC).sameBut hs₅ (Ne.symm hDC), fun p hp => ?_, off₄, hml₄, hJ₄⟩
        rcases List.mem_cons.mp hp with rfl | hp
        · exact ⟨hD₅.trans (congrArg some (lst_snoc ys y)), hDL, hD₀⟩
        · exact ⟨hs₅.extBut _ _ (off₄ p hp).2.2.2 (N₄' p hp).1, (N₄' p hp).2⟩
      · obtain rfl : i = vs.length := Nat.le_antisymm hi (Nat.not_lt.mp hlt)
        have hst'' := hst'
        refine W.done _ _ _ (by simpa using hst') fun h₂ tk₂ hk₂ => ?_
        exact hRR _ _ h₂ tk₂ _ ys news' (fr_but2 F' hk₂ hLe he₀ hi₀) (news_but2 N' hk₂ fun p hp => by
          rcases List.mem_cons.mp hp with rfl | hp
          · exact ⟨Ne.symm hCe.2, Ne.symm hCi.2⟩
          · exact ⟨(off' p hp).1, (off' p hp).2.1⟩) (fun p hp => (off' p hp).2.2.2) (hn'.at' fun o e => hk₂ _ o (by simp [Ne.symm hCe.1, Ne.symm hCi.1]) e) hC₀ hD₀ hCL hDL (Ne.symm hDC) (fun p hp => (off' p hp).2.2.1) hJ'
    · rcases List.mem_cons.mp hp with rfl | hp
      · exact ⟨hacc, hDL, hD₀⟩
      · exact ⟨old _ _ (N p hp).1, (N p hp).2⟩
  exact codeAny_compStart_list (loop _ rfl) (W.self 0 _ _ _ hst₁ (loop _ rfl))
def SrcE (prog : Program) (w : World) (A : Around) (h₀ : Heap) (L : Addr) (m : Str → Option Value) (env : Env) (elt : Expr) (x x₂ : Str) (scope : Scope) (cl : List (Str × Addr)) (Q : Value → Shared → Prop) (xv : Value) (s₁ : Shared) : Prop :=
  ∃ e it l lo nl vs news J, xv = .ref e ∧ A.handled = none ∧ e ≠ it ∧ l ≠ e ∧ l ≠ it ∧ vs.length ≤ sizeLine ∧ ((∃ old, IsEnum s₁.heap e it 0 old) ∧ s₁.heap.IsListIter it l 0 ∧ s₁.heap.IsList l vs.toArray) ∧ (∀ b ∈ [e, it, l], b < s₁.heap.objs.size) ∧
    Fr h₀ L s₁.heap m ∧ News h₀ L s₁.heap news ∧ (L ≠ e ∧ L ≠ it) ∧ h₀.get? e = none ∧ h₀.get? it = none ∧ (∀ p ∈ news, p.1 ≠ e ∧ p.1 ≠ it) ∧ (l, lo) ∈ news ∧ lo.cls = .type "list" ∧ lo.data = .seq vs.toArray nl ∧ J 0 [] news ∧ EStep prog w A h₀ L m env elt x x₂ scope cl l lo vs s₁ J ∧
    ∀ ys nw, J vs.length ys nw → ∀ D h tk, Fr h₀ L h m → News h₀ L h ((D, lst ys) :: nw) → (∀ p ∈ nw, (@Ne Nat p.1 D)) → Q (.ref D) { s₁ with heap := h, toks := tk }
theorem ListComp_E {elt iter : Expr} {x x₂ : Str} {px px₂ tp : Pos} {tk} {scope : Scope} {cl : List (Str × Addr)} {pos : Pos} {Q : Value → Shared → Prop} (F₀ : Fr h₀ L s.heap m)
    (hclos : closureFor scope env = pure cl) (hcell : ∀ y ∈ scope.names, y.2 ≠ .cell) (hkind : scope.kind = .function)
    (hnames : ∀ y ∈ scope.names, y.2 = .local → scope.names.lookup y.1 = some .local) (hx : scope.names.lookup x = some .local) (hx₂ : scope.names.lookup x₂ = some .local) (hxx : x ≠ x₂)
    (h : wpAny (model prog w) A (eval iter env) (SrcE prog w A h₀ L m env elt x x₂ scope cl Q) E s)
    (hs : ∀ x, foldedSetIterable iter env x = pure x := by intro _; rfl) :
    wpAny (model prog w) A (eval (.ListComp elt [⟨.Tuple [.Name x px, .Name x₂ px₂] tk tp, iter, [], 0⟩] scope pos) env) Q E s := by
  rw [eval_ListComp]
  refine wpAny_comprehension_free (use := none) rfl hs hclos hkind hnames (wpAny_mono h (fun xv s₁ h₁ => ?_) fun _ _ e => e)
  obtain ⟨e, it, l, lo, nl, vs, news, J, rfl, hh, hei, hle, hli, hsz, hst, hfp, F, N, hLe, he₀, hi₀, off, hml, hlc, hld, hJ, step, fin⟩ := h₁
  obtain ⟨old, he⟩ := hst.1
  refine wpAny_pyIter_enum he ?_
  refine block_E J hh hei hle hli hsz hcell hkind hx hx₂ hxx hst hfp F N hLe he₀ hi₀ off hml hlc hld hJ step ?_
  intro D C h tk m' ys news' F' N' o1 hn hC₀ hD₀ hCL hDL hCD offC hJ'
  refine ⟨m', hn, fun h'' hs'' => fin ys news' hJ' D h'' tk (F'.change hs'' hCL hC₀) (fun p hp => ?_) o1⟩
  refine ⟨hs''.extBut _ _ ?_ (N' p hp).1, (N' p hp).2⟩
  rcases List.mem_cons.mp hp with rfl | hp
  · exact Ne.symm hCD
  · exact offC p hp
theorem src_enum {elt : Expr} {x x₂ : Str} {scope : Scope} {cl : List (Str × Addr)} {Q : Value → Shared → Prop} {l : Addr} {lo : Obj} {nl : Nat} {vs : List Value} {news : List (Addr × Obj)} (J : Nat → List Value → List (Addr × Obj) → Prop)
    (hh : A.handled = none) (F : Fr h₀ L s.heap m) (N : News h₀ L s.heap news) (hml : (l, lo) ∈ news) (hlc : lo.cls = .type "list") (hld : lo.data = .seq vs.toArray nl) (hsz : vs.length ≤ sizeLine) (hJ : J 0 [] news)
    (step : ∀ g, EStep prog w A h₀ L m env elt x x₂ scope cl l lo vs { s with heap := g } J)
    (fin : ∀ g ys nw, J vs.length ys nw → ∀ D h tk, Fr h₀ L h m → News h₀ L h ((D, lst ys) :: nw) → (∀ p ∈ nw, (@Ne Nat p.1 D)) → Q (.ref D) { { s with heap := g } with heap := h, toks := tk }) :
    wpAny (model prog w) A (call (.type "enumerate") [.ref l]) (SrcE prog w A h₀ L m env elt x x₂ scope cl Q) E s := by
  have hax := N _ hml
  have hl : s.heap.IsList l vs.toArray := ⟨lo, hax.1, hlc, nl, hld⟩
  have hlt : l < s.heap.objs.size := Heap.lt_size hax.1
  have hLs : L < s.heap.objs.size := F.ns.lt
  refine call_enumerate_list hl fun h' hE hI hsz' hk => ?_
  refine ⟨s.heap.objs.size + 1, s.heap.objs.size, l, lo, nl, vs, news, J, rfl, hh, Nat.succ_ne_self _, ktu_ne 1 hlt, Nat.ne_of_lt hlt, hsz, ⟨⟨_, hE⟩, hI, hl.at fun o e => hk l o e⟩, ?_, F.keeps hk, N.grown hk, ⟨ktu_ne 1 hLs, Nat.ne_of_lt hLs⟩, ktu_new F (Nat.le_add_right _ _), ktu_new F (Nat.le_refl _), fun p hp => ⟨ktu_ne 1 (Heap.lt_size (N p hp).1), Nat.ne_of_lt (Heap.lt_size (N p hp).1)⟩, hml, hlc, hld, hJ, step h', fin h'⟩
  intro b hb
  show b < h'.objs.size
  rw [hsz']
  simp only [List.mem_cons, List.not_mem_nil, or_false] at hb
  have hlt2 : @LT.lt Nat _ l s.heap.objs.size := hlt
  rcases hb with rfl | rfl | rfl
  · exact Nat.lt_succ_self _
  · exact Nat.lt_succ_of_lt (Nat.lt_succ_self _)
  · exact Nat.lt_succ_of_lt (Nat.lt_succ_of_lt hlt2)
end
end
section
section
variable {prog : Program} {w : World} {A : Around} {E : Value → Shared → Prop} {s : Shared} {env : Env} {h₀ : Heap} {body : List Stmt} {Q : Flow → Shared → Prop}
def TurnEnd (h₀ : Heap) (L : Addr) (own : List (Addr × Obj)) (fp : List Addr) (J : (Str → Option Value) → List (Addr × Obj) → Prop) (s₁ : Shared) (Q : Flow → Shared → Prop) (f : Flow) (s' : Shared) : Prop :=
  match f with
  | .ret v => Q (.ret v) s'
  | .brk => Q .next s'
  | _ => ∃ h' tk m' news', s' = { s₁ with heap := h', toks := tk } ∧ Fr h₀ L h' m' ∧ News h₀ L h' (news' ++ own) ∧ (∀ p ∈ news', p.1 ∉ fp) ∧ J m' news'
theorem enum_turns {L : Addr} {elts : List Expr} {k : Nat} {pos : Pos} {l : Addr} {lo : Obj} {vs : List Value} {n : Nat} {m₀ : Str → Option Value} {news0 : List (Addr × Obj)} (J : (Str → Option Value) → Nat → (Str → Option Value) → List (Addr × Obj) → Prop)
    (hLe : env.locals = L) (hh : A.handled = none) (F : Fr h₀ L s.heap m₀) (N : News h₀ L s.heap news0) (hm : (l, lo) ∈ news0) (hc : lo.cls = .type "list") (hd : lo.data = .seq vs.toArray n)
    (news : List (Addr × Obj)) (hsub : ∀ p ∈ news, p ∈ news0) (hnl : ∀ p ∈ news, p.1 ≠ l) (hJ0 : J m₀ 0 m₀ news)
    (step : ∀ (fp : List Addr) i x t T m₁ news₁ h₁ tk₁ own g, i < vs.length → vs[i]? = some x → J m₀ i m₁ news₁ → (∀ p ∈ news₁, p.1 ∉ fp) → (∀ p ∈ own, p.1 ∈ fp) → (∀ b ∈ fp, b ∈ own.map (·.1)) → IsTup h₁ T #[.int (i : Int) t, x] → Fr h₀ L h₁ m₁ → News h₀ L h₁ (news₁ ++ own) →
      wpAny (model prog w) A (assign (.Tuple elts k pos) env (.ref T)) (fun _ s₃ => wpAny (model prog w) A (execs body env) (TurnEnd h₀ L own fp (J m₀ (i + 1)) { s with heap := g } Q) E s₃) E { s with heap := h₁, toks := tk₁ })
    (fin : ∀ g h' tk m' news', Fr h₀ L h' m' → News h₀ L h' news' → J m₀ vs.length m' news' → Q .next { { s with heap := g } with heap := h', toks := tk }) :
    wpAny (model prog w) A (call (.type "enumerate") [.ref l]) (fun xv s₁ => wpAny (model prog w) A (pyIter xv) (fun it s₂ => TurnsAt prog w A h₀ env (.Tuple elts k pos) body Q E it s₂) E s₁) E s := by
  subst hLe
  have hax := N _ hm
  have hl : s.heap.IsList l vs.toArray := ⟨lo, hax.1, hc, n, hd⟩
  have hlt : l < s.heap.objs.size := Heap.lt_size hax.1
  have hLs : env.locals < s.heap.objs.size := F.ns.lt
  have hl₀ : h₀.get? l = none := hax.2.2
  refine call_enumerate_list hl fun h' hE hI hsz hk => ?_
  refine wpAny_pyIter_enum hE ?_
  refine ⟨s.heap.objs.size + 1, [s.heap.objs.size + 1, s.heap.objs.size, l], [s.heap.objs.size + 1, s.heap.objs.size], vs.length, _, _, _, m₀, news, fun i m' nw => J m₀ i m' nw ∧ ∀ p ∈ nw, p.1 ∉ [s.heap.objs.size + 1, s.heap.objs.size, l], rfl,
    KTurns.ofWalksU (WalksT.enumerate hh (s.heap.objs.size + 1) s.heap.objs.size l (Nat.succ_ne_self _) (ktu_ne 1 hlt) (Nat.ne_of_lt hlt) vs.toArray).toU, ?_, ?_, ?_, ⟨⟨.none, hE⟩, hI, hl.at fun o e => hk l o e⟩, F.keeps hk, fun p hp => N.grown hk p (hsub p hp), ⟨hJ0, ?_⟩, ?_, ?_⟩
  · intro hI'
    have hb' : env.locals = s.heap.objs.size + 1 ∨ env.locals = s.heap.objs.size ∨ env.locals = l := by simpa using hI'
    rcases hb' with e | e | e
    · exact ktu_ne 1 hLs e
    · exact Nat.ne_of_lt hLs e
    · exact hax.2.1 e.symm
  · intro b hb
    have hb' : b = s.heap.objs.size + 1 ∨ b = s.heap.objs.size := by simpa using hb
    rcases hb' with rfl | rfl
    · exact ktu_new F (Nat.le_add_right _ _)
    · exact ktu_new F (Nat.le_refl _)
  · intro p hp hI'
    have hb' : p.1 = s.heap.objs.size + 1 ∨ p.1 = s.heap.objs.size := by simpa using hI'
    have hlp := Heap.lt_size (N p (hsub p hp)).1
    rcases hb' with e | e
    · exact ktu_ne 1 hlp e
    · exact Nat.ne_of_lt hlp e
  · intro p hp hI'
    have hb' : p.1 = s.heap.objs.size + 1 ∨ p.1 = s.heap.objs.size ∨ p.1 = l := by simpa using hI'
    have hlp := Heap.lt_size (N p (hsub p hp)).1
    rcases hb' with e | e | e
    · exact ktu_ne 1 hlp e
    · exact Nat.ne_of_lt hlp e
    · exact hnl p hp e
  · rintro i v m₁ news₁ h₁ tk₁ own hi ⟨T, vals, rfl, ⟨t, x, hx, rfl⟩, hT⟩ ⟨hJ, hoff⟩ hw hof hog hon hst F₁ N₁
    refine wpAny_mono (step [s.heap.objs.size + 1, s.heap.objs.size, l] i x t T m₁ news₁ h₁ tk₁ own h' hi (by simpa using hx) hJ hoff hof ?_ hT F₁ (fun p hp => N₁ p (by rcases List.mem_append.mp hp with h | h; exact List.mem_append_right _ h; exact List.mem_append_left _ h))) (fun _ s₃ h₃ => wpAny_mono h₃ (fun f s₄ h₄ => ?_) fun _ _ e => e) fun _ _ e => e
    · intro b hb
      obtain ⟨⟨_, he⟩, ⟨oi, hoi, _⟩, ⟨ol, hol, _⟩⟩ := hst
      have hb' : b = s.heap.objs.size + 1 ∨ b = s.heap.objs.size ∨ b = l := by simpa using hb
      rcases hb' with rfl | rfl | rfl
      · exact List.mem_map_of_mem (f := (·.1)) (hon _ hb (ktu_new F (Nat.le_add_right _ _)) _ he)
      · exact List.mem_map_of_mem (f := (·.1)) (hon _ hb (ktu_new F (Nat.le_refl _)) _ hoi)
      · exact List.mem_map_of_mem (f := (·.1)) (hon _ hb hl₀ _ hol)
    · have fin1 : (∃ h'' tk m' news', s₄ = { s with heap := h'', toks := tk } ∧ Fr h₀ env.locals h'' m' ∧ News h₀ env.locals h'' (news' ++ own) ∧ (∀ p ∈ news', p.1 ∉ [s.heap.objs.size + 1, s.heap.objs.size, l]) ∧ J m₀ (i + 1) m' news') →
          LoopStepU h₀ env.locals [s.heap.objs.size + 1, s.heap.objs.size] own (fun m' nw => J m₀ (i + 1) m' nw ∧ ∀ p ∈ nw, p.1 ∉ [s.heap.objs.size + 1, s.heap.objs.size, l]) { { s with heap := h' } with heap := h₁, toks := tk₁ } .next s₄ := by
        rintro ⟨h'', tk, m', news', rfl, F2, N2, off2, hJ2⟩
        exact ⟨rfl, h'', tk, m', news', rfl, F2, fun p hp => N2 p (by rcases List.mem_append.mp hp with h | h; exact List.mem_append_right _ h; exact List.mem_append_left _ h), fun p hp hb => off2 p hp (by
          have hb' : p.1 = s.heap.objs.size + 1 ∨ p.1 = s.heap.objs.size := by simpa using hb
          rcases hb' with e | e <;> simp [e]), hJ2, off2⟩
      cases f with
      | ret v => exact h₄
      | brk => exact h₄
      | cont => exact fin1 h₄
      | next => exact fin1 h₄
  · rintro h'' tk m' news' F' N' - ⟨hJ, -⟩
    exact fin h' h'' tk m' news' F' N' hJ
end
end
section
def LawM (m₀ : Str → Option Value) (pa : Addr) (border : Int) (tb : Tok) (o1 o2 o3 o4 : Option Value) : Str → Option Value := fun y =>
  if y = Str.ofString "places" then some (.ref pa) else if y = Str.ofString "border" then some (.int border tb) else if y = Str.ofString "at" then o1 else if y = Str.ofString "number" then o2 else if y = Str.ofString "spot" then o3 else if y = Str.ofString "form" then o4 else m₀ y
theorem LawM.ext {m₀ m : Str → Option Value} {pa : Addr} {border : Int} {tb : Tok} {o1 o2 o3 o4 : Option Value} (h1 : m (Str.ofString "places") = some (.ref pa)) (h2 : m (Str.ofString "border") = some (.int border tb)) (h3 : m (Str.ofString "at") = o1) (h4 : m (Str.ofString "number") = o2)
    (h5 : m (Str.ofString "spot") = o3) (h6 : m (Str.ofString "form") = o4) (h : ∀ y, y ≠ Str.ofString "places" → y ≠ Str.ofString "border" → y ≠ Str.ofString "at" → y ≠ Str.ofString "number" → y ≠ Str.ofString "spot" → y ≠ Str.ofString "form" → m y = m₀ y) : m = LawM m₀ pa border tb o1 o2 o3 o4 := by
  funext y
  unfold LawM
  by_cases e1 : y = Str.ofString "places"
  · rw [if_pos e1, e1, h1]
  rw [if_neg e1]
  by_cases e2 : y = Str.ofString "border"
  · rw [if_pos e2, e2, h2]
  rw [if_neg e2]
  by_cases e3 : y = Str.ofString "at"
  · rw [if_pos e3, e3, h3]
  rw [if_neg e3]
  by_cases e4 : y = Str.ofString "number"
  · rw [if_pos e4, e4, h4]
  rw [if_neg e4]
  by_cases e5 : y = Str.ofString "spot"
  · rw [if_pos e5, e5, h5]
  rw [if_neg e5]
  by_cases e6 : y = Str.ofString "form"
  · rw [if_pos e6, e6, h6]
  rw [if_neg e6]
  exact h y e1 e2 e3 e4 e5 e6
def Sp (a b : List (Addr × Obj)) : Prop := ∀ p ∈ a, ∀ q ∈ b, p.1 ≠ q.1
theorem Sp.symm {a b : List (Addr × Obj)} (h : Sp a b) : Sp b a := fun p hp q hq e => h q hq p hp e.symm
theorem Sp.app {a b c : List (Addr × Obj)} (h : Sp a c) (h' : Sp b c) : Sp (a ++ b) c := fun p hp q hq => (List.mem_append.mp hp).elim (fun x => h p x q hq) (fun x => h' p x q hq)
theorem Sp.appR {a b c : List (Addr × Obj)} (h : Sp a b) (h' : Sp a c) : Sp a (b ++ c) := (h.symm.app h'.symm).symm
theorem Sp.sub {a b c : List (Addr × Obj)} (h : Sp a c) (hs : ∀ p ∈ b, p ∈ a) : Sp b c := fun p hp => h p (hs p hp)
theorem Sp.subR {a b c : List (Addr × Obj)} (h : Sp a c) (hs : ∀ p ∈ b, p ∈ c) : Sp a b := fun p hp q hq => h p hp q (hs q hq)
/-- a dict is no table and no list -/
theorem Sp.kind {h₀ h : Heap} {L : Addr} {news a b : List (Addr × Obj)} (N : News h₀ L h news) (ha : ∀ p ∈ a, p ∈ news) (hb : ∀ p ∈ b, p ∈ news) (h : ∀ p ∈ a, ∀ q ∈ b, p.2.data ≠ q.2.data) : Sp a b := fun p hp q hq e => by
  have e1 := (N p (ha p hp)).1
  have e2 := (N q (hb q hq)).1
  rw [e] at e1
  rw [e1] at e2
  exact h p hp q hq (by rw [Option.some.inj e2])
def Flds (t : List (Addr × Obj)) : Prop := ∀ p ∈ t, ∃ vs, p.2.data = .fields vs
structure LawI (w : World) (D2 : Addr) (no : Obj) (i : Nat) (pa : Addr) (od : Obj) (kvs : List (Int × Value)) (border : Int) (t98 t91 t84 t77 t70 : List (Addr × Obj)) : Prop where
  hod : od.IsDictOf (intKind PySem.Challenge.rw_nt0625_01.row.prog w) kvs
  good : Good kvs
  lo : (pa == sysModules) = false
  kb : ∀ p ∈ kvs, p.1 ≤ 17
  bk : ∀ k : Int, 1 ≤ k → k ≤ border → k ∈ kvs.map (·.1)
  b0 : 0 ≤ border
  b1 : border ≤ 12 + (((i + 4) / 5 : Nat) : Int)
  h98 : Tab1 98 98 4 (Str.ofString "_law_asked_right.<locals>.ask") t98
  h91 : Tab1 91 92 4 (Str.ofString "_law_greatest_right.<locals>.further") t91
  h84 : Tab1 84 81 4 (Str.ofString "_law_join_right.<locals>.text_at") t84
  h77 : Tab2 77 69 4 (Str.ofString "_law_remove_right.<locals>.write") 72 31 (Str.ofString "_law_remove_right.<locals>.<lambda>") t77
  h70 : Tab2 70 57 4 (Str.ofString "_law_insert_right.<locals>.write") 60 14 (Str.ofString "_law_insert_right.<locals>.<lambda>") t70
  s1 : Sp t98 t91
  s2 : Sp t98 t84
  s3 : Sp t98 t77
  s4 : Sp t98 t70
  s5 : Sp t91 t84
  s6 : Sp t91 t77
  s7 : Sp t91 t70
  s8 : Sp t84 t77
  s9 : Sp t84 t70
  s10 : Sp t77 t70
theorem next_b {i : Nat} {b : Int} (h : b ≤ 12 + (((i + 4) / 5 : Nat) : Int)) : b ≤ 12 + (((i + 1 + 4) / 5 : Nat) : Int) := by omega
def LawJ (w : World) (D2 : Addr) (no : Obj) (m₀ : Str → Option Value) (i : Nat) (m : Str → Option Value) (news : List (Addr × Obj)) : Prop :=
  ∃ pa od kvs border tb o1 o2 o3 o4 t98 t91 t84 t77 t70, m = LawM m₀ pa border tb o1 o2 o3 o4 ∧ news = (pa, od) :: (D2, no) :: (t98 ++ (t91 ++ (t84 ++ (t77 ++ t70)))) ∧ LawI w D2 no i pa od kvs border t98 t91 t84 t77 t70
theorem law_call {p : Program} {loose : List Str} {mean : ExcName → Option Value} {mg mb : Str → Option Value} {A₀ : Around} {base h₀ : Heap} {L : Addr} {m : Str → Option Value} {s : Shared} {w : World} {need : Nat} {f : Value} {vs : List Value} {own N0 : List (Addr × Obj)} {Post : Value → List (Addr × Obj) → Prop}
    {dp un : Nat} {gd : Option (List Code)} {cn : Str} {cs : Scope} {a : Addr} {ccd : Value} {cl : List (Str × Addr)} {outer : List Env} {Q E : Value → Shared → Prop} (R : List (Addr × Obj))
    (C : CallC w need f vs own Post) (B : Below A₀ base outer h₀) (F : Fr h₀ L s.heap m) (X : (hd.heap_1 w.params).In h₀) (N : News h₀ L s.heap N0) (T : Top p loose mean mg mb h₀) (hk : cs.kind = .function)
    (hdp : dp + need < recursionLimit) (hun : un + 8 * need < cLine) (hX : ∀ q ∈ own, q ∈ N0) (hR : ∀ q ∈ R, q ∈ N0) (sp : Sp R own)
    (ret : ∀ r own' h' tk', Fr h₀ L h' m → News h₀ L h' (own' ++ R) → Post r own' → Sp R own' → Q r { s with heap := h', toks := tk' }) :
    wpAny (model PySem.Challenge.rw_nt0625_01.row.prog w) (ktrTop dp un gd cn cs L a ccd cl outer) (call f vs) Q E s := by
  have d : ∀ q ∈ R, q.1 ∉ own.map (·.1) := fun q hq hm => by
    obtain ⟨x, hx, e⟩ := List.mem_map.mp hm
    exact sp q hq x hx e.symm
  refine callc_use C B F X (fun q hq => N q (hX q hq)) T hk hdp hun fun r own' h' tk' F' N' hp hl => ?_
  obtain ⟨N2, d2⟩ := call_news (fun q hq => N q (hR q hq)) hl N' d
  exact ret r own' h' tk' F' N2 hp fun q hq x hx e => d2 q hq (e ▸ List.mem_map_of_mem (f := (·.1)) hx)
theorem tab1_flds {P : Addr} {l c : Nat} {q : Str} {t : List (Addr × Obj)} (h : Tab1 P l c q t) : Flds t := by
  intro p hp
  rcases h with rfl | ⟨c, oc, vs, t, rfl, h, -⟩
  · rw [List.mem_singleton.mp hp]; exact ⟨_, rfl⟩
  · simp only [List.mem_cons, List.not_mem_nil, or_false] at hp
    rcases hp with rfl | rfl
    · exact ⟨_, rfl⟩
    · exact ⟨_, h⟩
theorem tab2_flds {P : Addr} {l c l2 c2 : Nat} {q q2 : Str} {t : List (Addr × Obj)} (h : Tab2 P l c q l2 c2 q2 t) : Flds t := by
  intro p hp
  rcases h with rfl | ⟨c, oc, vs, t, d, od, ws, u, rfl, h, -, h2, -⟩
  · rw [List.mem_singleton.mp hp]; exact ⟨_, rfl⟩
  · simp only [List.mem_cons, List.not_mem_nil, or_false] at hp
    rcases hp with rfl | rfl | rfl
    · exact ⟨_, rfl⟩
    · exact ⟨_, h⟩
    · exact ⟨_, h2⟩
theorem law_end {h₀ h' : Heap} {L D2 pa : Addr} {no od : Obj} {own all : List (Addr × Obj)} {fp : List Addr} {w : World} {m₀ m' : Str → Option Value} {i : Nat} {kvs : List (Int × Value)} {border : Int} {tb : Tok} {o1 o2 o3 o4 : Option Value} {t98 t91 t84 t77 t70 : List (Addr × Obj)} {s : Shared} {tk : Nat} {Q : Flow → Shared → Prop}
    (hfo : ∀ b ∈ fp, b ∈ own.map (·.1)) (F : Fr h₀ L h' m') (N : News h₀ L h' all) (hall : ∀ p ∈ ((pa, od) :: (D2, no) :: (t98 ++ (t91 ++ (t84 ++ (t77 ++ t70))))) ++ own, p ∈ all) (hm : m' = LawM m₀ pa border tb o1 o2 o3 o4)
    (I : LawI w D2 no i pa od kvs border t98 t91 t84 t77 t70) (so : Sp own ((pa, od) :: (D2, no) :: (t98 ++ (t91 ++ (t84 ++ (t77 ++ t70)))))) : TurnEnd h₀ L own fp (LawJ w D2 no m₀ i) s Q .next { s with heap := h', toks := tk } := by
  refine ⟨h', tk, m', _, rfl, F, fun p hp => N p (hall p hp), fun p hp hb => ?_, pa, od, kvs, border, tb, o1, o2, o3, o4, t98, t91, t84, t77, t70, hm, rfl, I⟩
  obtain ⟨q, hq, e⟩ := List.mem_map.mp (hfo _ hb)
  exact so q hq p hp e
theorem sp_dict_list {h₀ h : Heap} {L a b : Addr} {news : List (Addr × Obj)} {od : Obj} {us : Array Value} {n : Nat} (N : News h₀ L h news) (ha : (a, od) ∈ news) (hb : (b, W.listOf us n) ∈ news) (hd : ∃ es ep, od.data = .dict es ep) : Sp [(a, od)] [(b, W.listOf us n)] := by
  refine Sp.kind N (fun p hp => by rw [List.mem_singleton.mp hp]; exact ha) (fun p hp => by rw [List.mem_singleton.mp hp]; exact hb) fun p hp q hq e => ?_
  rw [List.mem_singleton.mp hp, List.mem_singleton.mp hq] at e
  obtain ⟨es, ep, hd⟩ := hd
  rw [show (a, od).2.data = _ from hd] at e
  cases e
theorem sp_dict_flds {h₀ h : Heap} {L a : Addr} {news t : List (Addr × Obj)} {od : Obj} (N : News h₀ L h news) (ha : (a, od) ∈ news) (hb : ∀ p ∈ t, p ∈ news) (hd : ∃ es ep, od.data = .dict es ep) (hf : Flds t) : Sp [(a, od)] t := by
  refine Sp.kind N (fun p hp => by rw [List.mem_singleton.mp hp]; exact ha) hb fun p hp q hq e => ?_
  rw [List.mem_singleton.mp hp] at e
  obtain ⟨es, ep, hd⟩ := hd
  obtain ⟨vs, hv⟩ := hf q hq
  rw [show (a, od).2.data = _ from hd, hv] at e
  cases e
theorem sp_list_flds {h₀ h : Heap} {L b : Addr} {news t : List (Addr × Obj)} {us : Array Value} {n : Nat} (N : News h₀ L h news) (ha : (b, W.listOf us n) ∈ news) (hb : ∀ p ∈ t, p ∈ news) (hf : Flds t) : Sp [(b, W.listOf us n)] t := by
  refine Sp.kind N (fun p hp => by rw [List.mem_singleton.mp hp]; exact ha) hb fun p hp q hq e => ?_
  rw [List.mem_singleton.mp hp] at e
  obtain ⟨vs, hv⟩ := hf q hq
  rw [hv] at e
  cases e
theorem Sp.cons {p : Addr × Obj} {a c : List (Addr × Obj)} (h : Sp [p] c) (h' : Sp a c) : Sp (p :: a) c := Sp.app h h'
theorem Sp.consR {p : Addr × Obj} {a c : List (Addr × Obj)} (h : Sp c [p]) (h' : Sp c a) : Sp c (p :: a) := Sp.appR h h'
theorem sp_own {own news : List (Addr × Obj)} {fp : List Addr} (hoff : ∀ p ∈ news, p.1 ∉ fp) (hof : ∀ p ∈ own, p.1 ∈ fp) : Sp own news := fun p hp q hq e => hoff q hq (e ▸ hof p hp)
end
section
local macro_rules | `(tactic| k_room) => `(tactic| ktr_room)
local macro_rules | `(tactic| k_units) => `(tactic| ktr_units)
local macro_rules | `(tactic| k_all) => `(tactic| first | exact all_ne_of (by assumption) (by (try dsimp only); omega) | exact all_ne_of' (by assumption) (by (try dsimp only); omega))
local macro_rules | `(tactic| walk_at "my enter") => `(tactic| (
  refine' code_defF ?k1 ?k2 ?k3 ?k4 ?k5 ?kA ?kF ?kK ?k6 ?k7 ?k8 ?k9 ?kB ?_ ?c2 ?c3 ?c4 ?c5; (case kA => exact rfl); (case kF => exact rfl); (case kK => assumption); (case k1 => k_asm); (case k2 => k_asm); (case k3 => k_asm); (case k4 => k_asm); (case k5 => k_asm); (case k6 => k_is); (case k7 => k_is); (case k8 => k_room); (case k9 => exact BindsTo.of_eq rfl); (case c5 => decide); (case kB => exact locs rfl); (case c2 => exact rfl); (case c3 => exact rfl); (case c4 => exact rfl); k_whole))
local macro_rules | `(tactic| walk_at "callWith ref") => `(tactic| (k_here; k_dflt (refine' callWith_K ?k1 ?k2 ?_; (case k1 => k_asm); (case k2 => k_is); k_whole)))
local macro_rules | `(tactic| walk_at "eval Name") => `(tactic| (k_here; k_dflt (first
  | (refine' nameX_L ?F ?v ?_ ?a ?b; (case F => k_asm); (case a => rfl); (case b => rfl); (case v => rfl); k_whole)
  | (refine' nameX_K ?F ?X ?T ?e ?_ ?a ?b; (case F => k_asm); (case X => k_asm); (case T => k_asm); (case a => rfl); (case b => rfl); (case e => k_is); k_whole))))
local macro_rules | `(tactic| walk_at "my enter C") => `(tactic| (
  refine' code_defCF ?k1 ?k2 ?k3 ?k4 ?k5 ?kA ?kF ?kK ?k6 ?k7 ?k8 ?k9 ?kB ?kD ?_ ?c2 ?c3 ?c4; (case kA => exact rfl); (case kF => exact rfl); (case kK => assumption); (case k1 => k_asm); (case k2 => k_asm); (case k3 => k_asm); (case k4 => k_asm); (case k5 => k_asm); (case k6 => k_is); (case k7 => k_is); (case k8 => k_room); (case k9 => exact BindsTo.of_eq rfl); (case kB => exact rfl); (case kD => decide +kernel); (case c2 => exact rfl); (case c3 => exact rfl); (case c4 => exact rfl); k_whole; intro g' L' h' tk' cells' hgs' FG' F' N' Y' B' X' T' l1; (try k_lt l1); k_cells Y'; (try dsimp only [List.cons_append, List.nil_append] at N'); (try dsimp only); (try k_fold)))
section

local macro_rules | `(tactic| walk_at "getMethod str") => `(tactic| (with_reducible refine method_encode ?_))
local macro_rules | `(tactic| walk_at "call builtin:str.encode") => `(tactic| (k_dflt (refine encode_ascii (txt_ascii _) (Nat.le_trans (txt_len (valOf_lt (got_ok (by assumption) _))) (by decide)) ?_); intro t' k'))
local macro_rules | `(tactic| walk_at "call type:str") => `(tactic| (k_dflt (refine str_of_val (got_ok (by assumption) _) ?_); intro t' k'))
local macro_rules | `(tactic| walk_at "getMethod ref") => `(tactic| ((with_reducible show wpAny _ _ (getMethod (Value.ref _) (Str.ofString "get") _) _ _ _); k_dflt (refine kdg_method (knd := PySem.intKind _ _) (by k_asm) (by k_mem) (by assumption) ?_)))
local macro_rules | `(tactic| walk_at "call builtin:dict.get") => `(tactic| (k_dflt (refine kdg_get1 (knd := PySem.intKind _ _) (by k_asm) (by k_mem) (by assumption) (by assumption) (intKind_is _ _ _ _) _ rfl ?_)))
local macro_rules | `(tactic| walk_at "binaryOp Add bytes bytes") => `(tactic| (k_dflt (refine KBy.add_bytes (by (try simp only [List.size_toArray, List.length_nil, List.length_cons, Array.size_append]); omega) ?_); intro t' k'))

theorem join_right (w : World) (pa : Addr) (od : Obj) (kvs : List (Int × Value)) (first last : Int) (t1 t2 ts : Tok) (sep : Array UInt8) (tab : List (Addr × Obj))
    (hod : od.IsDictOf (intKind PySem.Challenge.rw_nt0625_01.row.prog w) kvs) (hgood : Good kvs) (hlo : (pa == sysModules) = false) (hr : last - first ≤ 20) (hr2 : first - last ≤ 5) (hf : -10 ≤ first) (hf2 : first ≤ 60) (hsep : sep.size ≤ 10)
    (htab : Tab1 84 81 4 (Str.ofString "_law_join_right.<locals>.text_at") tab) :
    CallC w 9 (.ref 89) [.ref pa, .int first t1, .int last t2, .bytes sep ts] ((pa, od) :: tab) (fun r own' => r = .bool true ∧ ∃ tab', own' = (pa, od) :: tab' ∧ Tab1 84 81 4 (Str.ofString "_law_join_right.<locals>.text_at") tab') := by
  unfold CallC
  k_fill
  intro p loose mean mg mb dp un gd cn cs a ccd cl outer A₀ base h₀ L m s Q E B F X N T hk hdp hun hret
  refine wpAny_call ?_
  walk_at "my enter C"
  (try k_fold)
  rename Frag.In _ _ => X1
  have C1 := codeHd_of_K (c := 88) (P := 84) X1 (by kernel_rfl)
  rename (∀ (b : Addr) (o : Obj), _ → _ → _) => hg
  rename Top _ _ _ _ _ _ => T1
  (repeat' ( (fail_if_success (with_reducible show InvEndN _ _ _ _ _ _ _)); (fail_if_success (with_reducible show KswEnd _ _ _ _ _ _ _ _ _ _ _ _)); (fail_if_success (with_reducible show wpAny _ _ (exec (Stmt.While _ _ _ _) _) _ _ _)); (fail_if_success (with_reducible show wpAny _ _ (exec (Stmt.FunctionDef _ _ _ _ _ _ _ _ _ _) _) _ _ _)); (fail_if_success (with_reducible show wpAny _ _ (exec (Stmt.For _ _ _ _ _) _) _ _ _)); (fail_if_success (with_reducible show wpAny _ _ (call (Value.ref _) _) _ _ _)); (fail_if_success (with_reducible show wpAny _ _ (pyIter (Value.ref _)) _ _ _)); first | (k_unfold; (try dsimp only)) | (k_end; wrow_close) | walk1 | (dsimp only; walk1) | (leave1; walk_say "STEP leave1"; try dsimp only) | fail "no step"))
  rename_i g' L' hx0 tkx FG' B' la oA oB dA dB l' hx1 lb hx2 o1 F3 N3 d1
  replace dB : oB.data = .cell (some (.ref pa)) := dB
  have hodd : ∃ es ep, od.data = .dict es ep := by
    obtain ⟨es, ep, _, h1, _⟩ := id hod
    exact ⟨es, ep, h1⟩
  refine nestDef_K (by exact rfl) (by exact rfl) (by exact rfl) ?_
  refine nest1 (P := 84) (pre := [(l', W.listOf #[] 0), (L' + 1 + 1, o1), (L' + 1, oB), (pa, od)]) (tab := tab) F3 N3 T1 C1 (by exact rfl) htab ?_ (by exact rfl) ?_
  · refine sep_tab N3 htab.fields ?_
    intro q hq vs e
    obtain ⟨es, ep, hodd⟩ := hodd
    simp only [List.mem_cons, List.not_mem_nil, or_false] at hq
    rcases hq with rfl | rfl | rfl | rfl
    · cases e
    · rw [show o1.data = _ from d1] at e; cases e
    · rw [show oB.data = _ from dB] at e; cases e
    · rw [show od.data = _ from hodd] at e; cases e
  intro f c' oc ws tt ctv doc h1 tk1 F2 N2 hdd hv hpre hPf hcf hPc
  dsimp only [List.cons_append, List.nil_append] at N2
  generalize hfo : fnMade _ _ _ _ _ _ _ _ _ _ = fo at N2
  (repeat' ( (fail_if_success (with_reducible show InvEndN _ _ _ _ _ _ _)); (fail_if_success (with_reducible show KswEnd _ _ _ _ _ _ _ _ _ _ _ _)); (fail_if_success (with_reducible show wpAny _ _ (exec (Stmt.While _ _ _ _) _) _ _ _)); (fail_if_success (with_reducible show wpAny _ _ (exec (Stmt.FunctionDef _ _ _ _ _ _ _ _ _ _) _) _ _ _)); (fail_if_success (with_reducible show wpAny _ _ (exec (Stmt.For _ _ _ _ _) _) _ _ _)); (fail_if_success (with_reducible show wpAny _ _ (call (Value.ref _) _) _ _ _)); (fail_if_success (with_reducible show wpAny _ _ (pyIter (Value.ref _)) _ _ _)); first | (k_unfold; (try dsimp only)) | (k_end; wrow_close) | walk1 | (dsimp only; walk1) | (leave1; walk_say "STEP leave1"; try dsimp only) | fail "no step"))
  rename Fr _ _ _ _ => F4
  rename News _ _ _ _ => N4
  refine For_invV g' (by exact rfl) (by exact rfl) ?_
  (repeat' ( (fail_if_success (with_reducible show InvEndN _ _ _ _ _ _ _)); (fail_if_success (with_reducible show KswEnd _ _ _ _ _ _ _ _ _ _ _ _)); (fail_if_success (with_reducible show wpAny _ _ (exec (Stmt.While _ _ _ _) _) _ _ _)); (fail_if_success (with_reducible show wpAny _ _ (exec (Stmt.FunctionDef _ _ _ _ _ _ _ _ _ _) _) _ _ _)); (fail_if_success (with_reducible show wpAny _ _ (exec (Stmt.For _ _ _ _ _) _) _ _ _)); (fail_if_success (with_reducible show wpAny _ _ (call (Value.ref _) _) _ _ _)); (fail_if_success (with_reducible show wpAny _ _ (pyIter (Value.ref _)) _ _ _)); first | (k_unfold; (try dsimp only)) | (k_end; wrow_close) | walk1 | (dsimp only; walk1) | (leave1; walk_say "STEP leave1"; try dsimp only) | fail "no step"))
  rename IsRange _ _ _ _ _ _ _ _ => R5
  rename Fr g' _ _ _ => F5
  rename News g' _ _ _ => N5
  with_unfolding_all refine kst_range (σ := Array UInt8 × Tok × Bool) (fun _ => [(f, fo), (c', oc), (l', W.listOf #[] 0), (L' + 1 + 1, o1), (L' + 1, oB), (pa, od), (84, tabObj #[rawInt 81, rawInt 4, .ref c'])]) (fun c => [(Str.ofString "due", Value.bytes c.1 c.2.1), (Str.ofString "is_first", Value.bool c.2.2)]) (fun _ => True) [] (fun pre c => c.1 = Bytes.joined sep (pre.map fun k => encB (txtOf (look kvs k))) ∧ c.2.2 = pre.isEmpty ∧ pre.length ≤ 30) (#[], _, true) (by rfl) R5 (small_one (a := first) (b := last + 1) (by omega) (by omega) (by omega) (by omega)) (rangeSize_nat _ _) F5 (fun p hp => N5 p (.tail _ hp)) trivial (by kst_all) ⟨by rfl, by rfl, by simp⟩ ?_ ?_
  · rintro ⟨due, td, fst⟩ pre k tk0 u9 h9 tq9 own9 hk hpre9 hoff - ⟨hdue, hfst, hplen⟩ F9 N9
    dsimp only at hdue hfst F9 N9
    (try k_fold)
    have henc : ∀ k, (encB (txtOf (look kvs k))).size ≤ 11 := fun k => by
      rw [encB_size (txt_ascii _)]
      exact txt_len (valOf_lt (got_ok hgood k))
    have hds : due.size ≤ 3300 := by
      rw [hdue]
      refine Nat.le_trans (joined_size hsep _ fun b hb => ?_) (by rw [List.length_map]; omega)
      obtain ⟨x, _, rfl⟩ := List.mem_map.mp hb
      exact Nat.le_trans (henc x) (by decide)
    have hek : (encB (txtOf (valOf ((valueAt kvs k).getD .none)))).size ≤ 11 := henc k
    cases fst with
    | true =>
      have hp0 : pre = [] := List.isEmpty_iff.mp hfst.symm
      subst hp0
      have hd0 : due = #[] := hdue
      subst hd0
      (repeat' ( (fail_if_success (with_reducible show InvEndN _ _ _ _ _ _ _)); (fail_if_success (with_reducible show KswEnd _ _ _ _ _ _ _ _ _ _ _ _)); (fail_if_success (with_reducible show wpAny _ _ (exec (Stmt.While _ _ _ _) _) _ _ _)); (fail_if_success (with_reducible show wpAny _ _ (exec (Stmt.FunctionDef _ _ _ _ _ _ _ _ _ _) _) _ _ _)); (fail_if_success (with_reducible show wpAny _ _ (exec (Stmt.For _ _ _ _ _) _) _ _ _)); (fail_if_success (with_reducible show wpAny _ _ (call (Value.ref _) _) _ _ _)); (fail_if_success (with_reducible show wpAny _ _ (pyIter (Value.ref _)) _ _ _)); first | (k_unfold; (try dsimp only)) | (k_end; wrow_close) | walk1 | (dsimp only; walk1) | (leave1; walk_say "STEP leave1"; try dsimp only) | fail "no step"))
      rename Fr g' _ _ _ => F10
      rename News g' _ _ _ => N10
      refine InvEndN.intro F10 N10 ⟨(_, _, false), rfl, trivial, by kst_all, fun z e1 e2 e3 => ?_, ?_, rfl, by simp⟩ (by rfl) (fun p hp => List.mem_append_left _ hp) (fun p hp => List.mem_append_right _ hp)
      · have e4 : z ≠ Str.ofString "due" := e2 _ (.head _)
        have e5 : z ≠ Str.ofString "is_first" := e2 _ (.tail _ (.head _))
        simp [kstB, e1, e4, e5]
      · dsimp only
        rw [List.nil_append, List.map_singleton, joined_one]
        simp
        rfl
    | false =>
      have hp0 : 0 < pre.length := by
        cases pre with
        | nil => cases hfst
        | cons _ _ => simp
      (repeat' ( (fail_if_success (with_reducible show InvEndN _ _ _ _ _ _ _)); (fail_if_success (with_reducible show KswEnd _ _ _ _ _ _ _ _ _ _ _ _)); (fail_if_success (with_reducible show wpAny _ _ (exec (Stmt.While _ _ _ _) _) _ _ _)); (fail_if_success (with_reducible show wpAny _ _ (exec (Stmt.FunctionDef _ _ _ _ _ _ _ _ _ _) _) _ _ _)); (fail_if_success (with_reducible show wpAny _ _ (exec (Stmt.For _ _ _ _ _) _) _ _ _)); (fail_if_success (with_reducible show wpAny _ _ (call (Value.ref _) _) _ _ _)); (fail_if_success (with_reducible show wpAny _ _ (pyIter (Value.ref _)) _ _ _)); first | (k_unfold; (try dsimp only)) | (k_end; wrow_close) | walk1 | (dsimp only; walk1) | (leave1; walk_say "STEP leave1"; try dsimp only) | fail "no step"))
      rename Fr g' _ _ _ => F10
      rename News g' _ _ _ => N10
      refine InvEndN.intro F10 N10 ⟨(_, _, false), rfl, trivial, by kst_all, fun z e1 e2 e3 => ?_, ?_, ?_, by simp; omega⟩ (by rfl) (fun p hp => List.mem_append_left _ hp) (fun p hp => List.mem_append_right _ hp)
      · have e4 : z ≠ Str.ofString "due" := e2 _ (.head _)
        have e5 : z ≠ Str.ofString "is_first" := e2 _ (.tail _ (.head _))
        simp [kstB, e1, e4, e5]
      · dsimp only
        rw [List.map_append, List.map_singleton, joined_snoc, List.length_map, if_pos hp0, ← hdue]
        rfl
      · cases pre <;> rfl
  · rintro ⟨due, td, fst⟩ u9 h9 tq9 - ⟨hdue, -, -⟩ F9 N9
    dsimp only at hdue F9 N9
    (try k_fold)
    (repeat' ( (fail_if_success (with_reducible show InvEndN _ _ _ _ _ _ _)); (fail_if_success (with_reducible show KswEnd _ _ _ _ _ _ _ _ _ _ _ _)); (fail_if_success (with_reducible show wpAny _ _ (exec (Stmt.While _ _ _ _) _) _ _ _)); (fail_if_success (with_reducible show wpAny _ _ (exec (Stmt.FunctionDef _ _ _ _ _ _ _ _ _ _) _) _ _ _)); (fail_if_success (with_reducible show wpAny _ _ (exec (Stmt.For _ _ _ _ _) _) _ _ _)); (fail_if_success (with_reducible show wpAny _ _ (call (Value.ref _) _) _ _ _)); (fail_if_success (with_reducible show wpAny _ _ (pyIter (Value.ref _)) _ _ _)); first | (k_unfold; (try dsimp only)) | (k_end; wrow_close) | walk1 | (dsimp only; walk1) | (leave1; walk_say "STEP leave1"; try dsimp only) | fail "no step"))
    have hcl : @Ne Nat c' l' := (hpre (l', W.listOf #[] 0) (by walk_at "mem")).2.symm
    have hfl : @LT.lt Nat _ l' f := (hpre (l', W.listOf #[] 0) (by walk_at "mem")).1
    have hP : @LT.lt Nat _ 84 L' := by
      have l2 := ktn_ltOf la.2
      rcases htab with rfl | ⟨_, _, _, _, rfl, _⟩
      · exact l2 _ (.head _)
      · exact l2 _ (.head _)
    have hpl : @LT.lt Nat _ pa L' := la.1
    have hl1 : @LT.lt Nat _ (L' + 1 + 1) l' := lb.1
    refine callc_use (joined_c w 4 f sep ts t1 t2 first last (fun k => encB (txtOf (look kvs k))) (fun k own => ∃ us n, own = [(f, fo), (c', oc), (l', W.listOf (List.toArray us) n), (L' + 1 + 1, o1), (L' + 1, oB), (pa, od), (84, tabObj #[rawInt 81, rawInt 4, .ref c'])] ∧ IntsAre us (rangeInts first 1 (k - first).toNat)) _ ⟨[], 0, rfl, by simpa [rangeInts] using IntsAre.nil⟩ hr hsep ?_ ?_ ?_) (by k_asm) (by k_asm) (by k_asm) (by k_asm) (by k_asm) rfl (by ktr_room) (by ktr_units) ?_
    · intro k _ _
      rw [encB_size (txt_ascii _)]
      exact Nat.le_trans (txt_len (valOf_lt (got_ok hgood k))) (by decide)
    · rintro k own ⟨us, n, rfl, -⟩
      subst hfo
      exact ⟨_, _, _, _, .head _⟩
    · rintro k tk0 own ⟨us, n, rfl, hI⟩ hk1 hk2
      clear FG' B' la hret hg F9 N9 B F X1 C1 T1 N T lb hpre R5
      unfold CallC
      intro p loose mean mg mb dp un gd cn cs a ccd cl outer A₀ base h₀ L m s Q E B F X N T hk hdp hun hret
      refine wpAny_call ?_
      subst hfo
      refine' code_nestF B F X N T ?kA ?kF ?kK (.head _) (codeRec_news N (.tail _ (.head _)) hdd hv) ?k8 ?k9 ?kB ?_ ?c2 ?c3 ?c4 ?c5
      case kA => exact rfl
      case kF => exact rfl
      case kK => exact hk
      case k8 => ktr_room
      case k9 => exact BindsTo.of_eq rfl
      case kB => exact locs rfl
      case c2 => exact rfl
      case c3 => exact rfl
      case c4 => exact rfl
      case c5 => decide
      intro g1 L1 h1 hg1 FG1 F1 N1 B1 X1 T1 la
      dsimp only
      k_fold
      k_lt la
      have C1 := codeHd_of_K (c := 88) (P := 84) X1 (by kernel_rfl)
      have hlen : us.length ≤ 100 := by rw [hI.length, rangeInts_length]; omega
      (repeat' ( (fail_if_success (with_reducible show InvEndN _ _ _ _ _ _ _)); (fail_if_success (with_reducible show KswEnd _ _ _ _ _ _ _ _ _ _ _ _)); (fail_if_success (with_reducible show wpAny _ _ (exec (Stmt.While _ _ _ _) _) _ _ _)); (fail_if_success (with_reducible show wpAny _ _ (exec (Stmt.FunctionDef _ _ _ _ _ _ _ _ _ _) _) _ _ _)); (fail_if_success (with_reducible show wpAny _ _ (exec (Stmt.For _ _ _ _ _) _) _ _ _)); (fail_if_success (with_reducible show wpAny _ _ (call (Value.ref _) _) _ _ _)); (fail_if_success (with_reducible show wpAny _ _ (pyIter (Value.ref _)) _ _ _)); first | (k_unfold; (try dsimp only)) | (k_end; wrow_close) | walk1 | (dsimp only; walk1) | (leave1; walk_say "STEP leave1"; try dsimp only) | fail "no step"))
      rename Fr h₀ _ _ _ => kF
      rename News h₀ _ _ _ => kN
      rename Fr g1 _ _ _ => F2
      rename News g1 _ _ _ => N2
      refine hret _ _ _ _ kF kN ⟨⟨us ++ [.int k tk0], n + 1, by simp, ?_⟩, _, rfl⟩ (left_of hg1 F2 N2)
      rw [show (k + 1 - first).toNat = (k - first).toNat + 1 by omega, rangeInts_snoc, show first + ((k - first).toNat : Int) * 1 = k by omega]
      exact hI.append (.cons k _ .nil)
    rintro r own1 h1 tk1 F4 N4 ⟨⟨tr, rfl⟩, us, n, rfl, hI⟩ hl
    (try dsimp only)
    have hks : ∀ n, rangeInts first 1 n = rangeKs first n := fun n => by simp [rangeInts, rangeKs]
    have heq : Bytes.joined sep ((rangeInts first 1 (last + 1 - first).toNat).map fun k => encB (txtOf (look kvs k))) = due := by
      rw [hks, hdue]
    have hn1 : (max first (last + 1) - first).toNat = (last + 1 - first).toNat := by omega
    rw [hn1] at hI
    (repeat' ( (fail_if_success (with_reducible show InvEndN _ _ _ _ _ _ _)); (fail_if_success (with_reducible show KswEnd _ _ _ _ _ _ _ _ _ _ _ _)); (fail_if_success (with_reducible show wpAny _ _ (exec (Stmt.While _ _ _ _) _) _ _ _)); (fail_if_success (with_reducible show wpAny _ _ (exec (Stmt.FunctionDef _ _ _ _ _ _ _ _ _ _) _) _ _ _)); (fail_if_success (with_reducible show wpAny _ _ (exec (Stmt.For _ _ _ _ _) _) _ _ _)); (fail_if_success (with_reducible show wpAny _ _ (call (Value.ref _) _) _ _ _)); (fail_if_success (with_reducible show wpAny _ _ (pyIter (Value.ref _)) _ _ _)); first | (k_unfold; (try dsimp only)) | (k_end; wrow_close) | walk1 | (dsimp only; walk1) | (leave1; walk_say "STEP leave1"; try dsimp only) | fail "no step"))
    all_goals (
      rename Fr h₀ _ _ _ => kF
      rename News h₀ _ _ _ => kN
      rename Fr g' _ _ _ => F2
      rename News g' _ _ _ => N2
      refine hret _ [(pa, od), (84, tabObj #[rawInt 81, rawInt 4, .ref c']), (c', oc)] _ _ kF (less kN (by walk_at "sub")) ⟨?_, _, rfl, .inr ⟨c', oc, _, tt, rfl, hdd, hv⟩⟩ (left_of hg F2 (less N2 (by walk_at "sub"))))
    · rw [hks, decide_eq_true rfl]
    · rw [heq]
      simp
end
section
open PyProof.Rows.LCg PyProof.Rows.LCt
/-- the rows that a dict's own pairs that are not None make -/
def someKvs (kvs : List (Int × Value)) : List (Int × Value) := kvs.filter fun p => !(p.2 == Value.none)
local macro_rules | `(tactic| walk_at "subscriptTail") => `(tactic| (k_dflt (refine kda_item (knd := PySem.intKind _ _) (by k_asm) (by k_mem) (by assumption) (intKind_is _ _ _ _) (by assumption) ?_)))
theorem someKvs_take {kvs : List (Int × Value)} {i : Nat} {k : Int} {y : Value} (h : kvs[i]? = some (k, y)) : someKvs (kvs.take (i + 1)) = someKvs (kvs.take i) ++ if y == Value.none then [] else [(k, y)] := by
  unfold someKvs
  rw [List.take_add_one, h, Option.toList_some, List.filter_append]
  congr 1
  cases hb : (y == Value.none) <;> simp [hb]
theorem some_iff {kvs : List (Int × Value)} (hn : (kvs.map (·.1)).Nodup) (hg : Good kvs) {k : Int} {v : Value} : (k, v) ∈ someKvs kvs ↔ (valueAt kvs k = some v ∧ v ≠ .none) := by
  unfold someKvs
  rw [List.mem_filter]
  constructor
  · rintro ⟨h1, h2⟩
    obtain ⟨i, hi⟩ := List.mem_iff_getElem?.mp h1
    refine ⟨valueAt_of_get hn hi, ?_⟩
    rintro rfl
    simp at h2
  · rintro ⟨h1, h2⟩
    have hm := valueAt_mem h1
    refine ⟨hm, ?_⟩
    rcases (hg _ hm).1 with e | ⟨i, t, e, _⟩
    · exact absurd e h2
    · dsimp only at e
      subst e
      simp
theorem mem_rowsL {rs : List Row} {r : Row} (h : r ∈ rs) : (r.a, r.obj) ∈ rowsL rs := List.mem_map_of_mem (f := fun r : Row => (r.a, r.obj)) h
theorem some_c (w : World) (pa : Addr) (od : Obj) (kvs : List (Int × Value)) (hod : od.IsDictOf (intKind PySem.Challenge.rw_nt0625_01.row.prog w) kvs) (hgood : Good kvs) (hlo : (pa == sysModules) = false) (hlen : kvs.length ≤ 50) :
    CallC w 2 (.ref 68) [.ref pa] [(pa, od)] (fun r own' => ∃ ra c rs, r = .ref ra ∧ own' = (ra, W.listOf (rowsV rs).toArray c) :: (rowsL rs ++ [(pa, od)]) ∧ rs.Pairwise (fun a b => a.k < b.k) ∧ (∀ r ∈ rs, r.a ≠ ra) ∧
      ∀ k v, (∃ r ∈ rs, r.k = k ∧ r.v = v) ↔ (valueAt kvs k = some v ∧ v ≠ .none)) := by
  unfold CallC
  k_fill
  intro p loose mean mg mb dp un gd cn cs a ccd cl outer A₀ base h₀ L m s Q E B F X N T hk hdp hun hret
  refine wpAny_call ?_
  walk_at "my enter C"
  (try k_fold)
  (repeat' ( (fail_if_success (with_reducible show InvEndN _ _ _ _ _ _ _)); (fail_if_success (with_reducible show KswEnd _ _ _ _ _ _ _ _ _ _ _ _)); (fail_if_success (with_reducible show wpAny _ _ (exec (Stmt.While _ _ _ _) _) _ _ _)); (fail_if_success (with_reducible show wpAny _ _ (exec (Stmt.FunctionDef _ _ _ _ _ _ _ _ _ _) _) _ _ _)); (fail_if_success (with_reducible show wpAny _ _ (exec (Stmt.For _ _ _ _ _) _) _ _ _)); (fail_if_success (with_reducible show wpAny _ _ (call (Value.ref _) _) _ _ _)); (fail_if_success (with_reducible show wpAny _ _ (pyIter (Value.ref _)) _ _ _)); (fail_if_success (with_reducible show wpAny _ _ (eval (Expr.ListComp _ _ _ _) _) _ _ _)); (fail_if_success (with_reducible show wpAny _ _ (call (Value.type "list") _) _ _ _)); (fail_if_success (with_reducible show wpAny _ _ (call (Value.type "dict") _) _ _ _)); (fail_if_success (with_reducible show wpAny _ _ (call (Value.type "set") _) _ _ _)); (fail_if_success (with_reducible show wpAny _ _ (call (Value.builtin "sorted") _) _ _ _)); first | (k_unfold; (try dsimp only)) | (k_end; wrow_close) | walk1 | (dsimp only; walk1) | (leave1; walk_say "STEP leave1"; try dsimp only) | fail "no step"))
  refine ListComp_TD (F₀ := by k_asm) (by with_unfolding_all rfl) (by decide) (by rfl) (by decide) (by rfl) ?_
  (repeat' ( (fail_if_success (with_reducible show InvEndN _ _ _ _ _ _ _)); (fail_if_success (with_reducible show KswEnd _ _ _ _ _ _ _ _ _ _ _ _)); (fail_if_success (with_reducible show wpAny _ _ (exec (Stmt.While _ _ _ _) _) _ _ _)); (fail_if_success (with_reducible show wpAny _ _ (exec (Stmt.FunctionDef _ _ _ _ _ _ _ _ _ _) _) _ _ _)); (fail_if_success (with_reducible show wpAny _ _ (exec (Stmt.For _ _ _ _ _) _) _ _ _)); (fail_if_success (with_reducible show wpAny _ _ (call (Value.ref _) _) _ _ _)); (fail_if_success (with_reducible show wpAny _ _ (pyIter (Value.ref _)) _ _ _)); (fail_if_success (with_reducible show wpAny _ _ (eval (Expr.ListComp _ _ _ _) _) _ _ _)); (fail_if_success (with_reducible show wpAny _ _ (call (Value.type "list") _) _ _ _)); (fail_if_success (with_reducible show wpAny _ _ (call (Value.type "dict") _) _ _ _)); (fail_if_success (with_reducible show wpAny _ _ (call (Value.type "set") _) _ _ _)); (fail_if_success (with_reducible show wpAny _ _ (call (Value.builtin "sorted") _) _ _ _)); first | (k_unfold; (try dsimp only)) | (k_end; wrow_close) | walk1 | (dsimp only; walk1) | (leave1; walk_say "STEP leave1"; try dsimp only) | fail "no step"))
  rename Fr _ _ _ _ => F3
  rename News _ _ _ _ => N3
  rename_i g' L' h3 tk3 hg FG' B' X1 T1 la o' d1
  replace d1 : o'.data = .cell (some (.ref pa)) := d1
  refine ⟨pa, od, kvs, _, rfl, rfl, F3, N3, .tail _ (.head _), hod, hlo, by rw [sizeLine_eq]; omega, ?_⟩
  rintro _ ⟨g9, rfl⟩
  refine restT_ind (fun i ys nw => ∃ rs, ys = rowsV rs ∧ nw = (L' + 1, o') :: (pa, od) :: rowsL rs ∧ pairsR rs = someKvs (kvs.take i)) kvs.length ?_ ?_ kvs.length 0 [] _ (Nat.zero_add _) ⟨[], rfl, rfl, rfl⟩
  · rintro i _ _ hi ⟨rs, rfl, rfl, hrs⟩ v I' oI' C' oC' D' m' h' tk' E' ⟨k, y, hky, hv⟩ hC' hx' F' N' off' ne'
    obtain ⟨t, rfl⟩ := Value.isInt_shape hv
    have hys : (valueAt kvs k) = some y := valueAt_of_get (keys_nodup hod) hky
    have hvy := (hgood _ (List.mem_of_getElem? hky)).1
    have hoff := off'.2.2
    simp only [LCg.Off3, and_true] at off'
    generalize hrl : rowsL rs = rl at N' off' hoff
    rcases hvy with rfl | ⟨yi, yt, rfl, hyi⟩
    · (repeat' ( (fail_if_success (with_reducible show InvEndN _ _ _ _ _ _ _)); (fail_if_success (with_reducible show KswEnd _ _ _ _ _ _ _ _ _ _ _ _)); (fail_if_success (with_reducible show wpAny _ _ (exec (Stmt.While _ _ _ _) _) _ _ _)); (fail_if_success (with_reducible show wpAny _ _ (exec (Stmt.FunctionDef _ _ _ _ _ _ _ _ _ _) _) _ _ _)); (fail_if_success (with_reducible show wpAny _ _ (exec (Stmt.For _ _ _ _ _) _) _ _ _)); (fail_if_success (with_reducible show wpAny _ _ (call (Value.ref _) _) _ _ _)); (fail_if_success (with_reducible show wpAny _ _ (pyIter (Value.ref _)) _ _ _)); (fail_if_success (with_reducible show wpAny _ _ (eval (Expr.ListComp _ _ _ _) _) _ _ _)); (fail_if_success (with_reducible show wpAny _ _ (call (Value.type "list") _) _ _ _)); (fail_if_success (with_reducible show wpAny _ _ (call (Value.type "dict") _) _ _ _)); (fail_if_success (with_reducible show wpAny _ _ (call (Value.type "set") _) _ _ _)); (fail_if_success (with_reducible show wpAny _ _ (call (Value.builtin "sorted") _) _ _ _)); first | (k_unfold; (try dsimp only)) | (k_end; wrow_close) | walk1 | (dsimp only; walk1) | (leave1; walk_say "STEP leave1"; try dsimp only) | fail "no step"))
      rename Fr g' _ _ _ => F10
      rename News g' _ _ _ => N10
      subst hrl
      refine CompEnd.intro F10 N10 ((L' + 1, o') :: (pa, od) :: rowsL rs) (fun p hp => hp) off' (.tail _ (.head _)) ⟨rs, rfl, rfl, ?_⟩
      rw [hrs, someKvs_take hky]
      simp
    · (repeat' ( (fail_if_success (with_reducible show InvEndN _ _ _ _ _ _ _)); (fail_if_success (with_reducible show KswEnd _ _ _ _ _ _ _ _ _ _ _ _)); (fail_if_success (with_reducible show wpAny _ _ (exec (Stmt.While _ _ _ _) _) _ _ _)); (fail_if_success (with_reducible show wpAny _ _ (exec (Stmt.FunctionDef _ _ _ _ _ _ _ _ _ _) _) _ _ _)); (fail_if_success (with_reducible show wpAny _ _ (exec (Stmt.For _ _ _ _ _) _) _ _ _)); (fail_if_success (with_reducible show wpAny _ _ (call (Value.ref _) _) _ _ _)); (fail_if_success (with_reducible show wpAny _ _ (pyIter (Value.ref _)) _ _ _)); (fail_if_success (with_reducible show wpAny _ _ (eval (Expr.ListComp _ _ _ _) _) _ _ _)); (fail_if_success (with_reducible show wpAny _ _ (call (Value.type "list") _) _ _ _)); (fail_if_success (with_reducible show wpAny _ _ (call (Value.type "dict") _) _ _ _)); (fail_if_success (with_reducible show wpAny _ _ (call (Value.type "set") _) _ _ _)); (fail_if_success (with_reducible show wpAny _ _ (call (Value.builtin "sorted") _) _ _ _)); first | (k_unfold; (try dsimp only)) | (k_end; wrow_close) | walk1 | (dsimp only; walk1) | (leave1; walk_say "STEP leave1"; try dsimp only) | fail "no step"))
      rename Fr g' _ _ _ => F10
      rename News g' _ _ _ => N10
      rename_i T9 _ l9
      subst hrl
      refine CompEnd.intro F10 N10 ((L' + 1, o') :: (pa, od) :: rowsL (rs ++ [⟨T9, k, t, .int yi yt⟩])) (fun p hp => ?_) ?_ (.tail _ (.head _)) ⟨rs ++ [⟨T9, k, t, .int yi yt⟩], ?_, rfl, ?_⟩
      · unfold rowsL at hp ⊢
        simp only [List.map_append, List.map_singleton, List.mem_cons, List.mem_append, List.not_mem_nil, or_false] at hp ⊢
        rcases hp with hp | hp | hp | hp | hp | hp | hp
        all_goals first | (subst hp; simp; done) | (simp [hp]; done) | (subst hp; simp [Row.obj]; done)
      · refine Off3.of fun p hp => ?_
        have o3 := Off3.mem (show Off3 I' C' D' ((L' + 1, o') :: (pa, od) :: rowsL rs) from off')
        rcases List.mem_cons.mp hp with rfl | hp
        · exact o3 _ (.head _)
        · rcases List.mem_cons.mp hp with rfl | hp
          · exact o3 _ (.tail _ (.head _))
          · unfold rowsL at hp
            rw [List.map_append] at hp
            rcases List.mem_append.mp hp with hp | hp
            · exact o3 _ (.tail _ (.tail _ hp))
            · rw [List.mem_singleton.mp hp]
              exact ⟨Nat.ne_of_gt l9.1, Nat.ne_of_gt l9.2.1, Nat.ne_of_gt l9.2.2.1⟩
      · unfold rowsV
        rw [List.map_append]
        rfl
      · unfold pairsR at hrs ⊢
        rw [List.map_append, hrs, someKvs_take hky]
        simp
  · rintro _ _ ⟨rs, rfl, rfl, hrs⟩
    intro D9 h9 tk9 F9 N9 off9
    rw [List.take_length] at hrs
    (repeat' ( (fail_if_success (with_reducible show InvEndN _ _ _ _ _ _ _)); (fail_if_success (with_reducible show KswEnd _ _ _ _ _ _ _ _ _ _ _ _)); (fail_if_success (with_reducible show wpAny _ _ (exec (Stmt.While _ _ _ _) _) _ _ _)); (fail_if_success (with_reducible show wpAny _ _ (exec (Stmt.FunctionDef _ _ _ _ _ _ _ _ _ _) _) _ _ _)); (fail_if_success (with_reducible show wpAny _ _ (exec (Stmt.For _ _ _ _ _) _) _ _ _)); (fail_if_success (with_reducible show wpAny _ _ (call (Value.ref _) _) _ _ _)); (fail_if_success (with_reducible show wpAny _ _ (pyIter (Value.ref _)) _ _ _)); (fail_if_success (with_reducible show wpAny _ _ (eval (Expr.ListComp _ _ _ _) _) _ _ _)); (fail_if_success (with_reducible show wpAny _ _ (call (Value.type "list") _) _ _ _)); (fail_if_success (with_reducible show wpAny _ _ (call (Value.type "dict") _) _ _ _)); (fail_if_success (with_reducible show wpAny _ _ (call (Value.type "set") _) _ _ _)); (fail_if_success (with_reducible show wpAny _ _ (call (Value.builtin "sorted") _) _ _ _)); first | (k_unfold; (try dsimp only)) | (k_end; wrow_close) | walk1 | (dsimp only; walk1) | (leave1; walk_say "STEP leave1"; try dsimp only) | fail "no step"))
    have hrk : rs.map (·.k) = (someKvs kvs).map (·.1) := by
      rw [← hrs]
      unfold pairsR
      rw [List.map_map]
      rfl
    have hrl : rs.length ≤ 50 := by
      have e1 : rs.length = (someKvs kvs).length := by rw [← hrs, pairsR_length]
      have e2 : (someKvs kvs).length ≤ kvs.length := List.length_filter_le _ _
      omega
    refine sorted_rows (rs := rs) F9 N9 ⟨_, (N9 (D9, lst (rowsV rs)) (.head _)).1, rfl, _, rfl⟩ (fun r hr => .tail _ (.tail _ (.tail _ (mem_rowsL hr)))) (fun r hr => ?_) ?_ (by omega) ?_
    · have hm : (r.k, r.v) ∈ someKvs kvs := by rw [← hrs]; exact List.mem_map_of_mem (f := fun r : Row => (r.k, r.v)) hr
      have hm2 := List.mem_filter.mp hm
      rcases (hgood _ hm2.1).1 with e | ⟨yi, yt, e, _⟩
      · have := hm2.2
        dsimp only at e this
        rw [e] at this
        simp at this
      · exact ⟨yi, yt, e⟩
    · rw [hrk]
      exact (List.filter_sublist.map _).nodup (keys_nodup hod)
    intro R9 c9 h10 rs' F10 N10 l10 hmem hlen' hpw
    (repeat' ( (fail_if_success (with_reducible show InvEndN _ _ _ _ _ _ _)); (fail_if_success (with_reducible show KswEnd _ _ _ _ _ _ _ _ _ _ _ _)); (fail_if_success (with_reducible show wpAny _ _ (exec (Stmt.While _ _ _ _) _) _ _ _)); (fail_if_success (with_reducible show wpAny _ _ (exec (Stmt.FunctionDef _ _ _ _ _ _ _ _ _ _) _) _ _ _)); (fail_if_success (with_reducible show wpAny _ _ (exec (Stmt.For _ _ _ _ _) _) _ _ _)); (fail_if_success (with_reducible show wpAny _ _ (call (Value.ref _) _) _ _ _)); (fail_if_success (with_reducible show wpAny _ _ (pyIter (Value.ref _)) _ _ _)); (fail_if_success (with_reducible show wpAny _ _ (eval (Expr.ListComp _ _ _ _) _) _ _ _)); (fail_if_success (with_reducible show wpAny _ _ (call (Value.type "list") _) _ _ _)); (fail_if_success (with_reducible show wpAny _ _ (call (Value.type "dict") _) _ _ _)); (fail_if_success (with_reducible show wpAny _ _ (call (Value.type "set") _) _ _ _)); (fail_if_success (with_reducible show wpAny _ _ (call (Value.builtin "sorted") _) _ _ _)); first | (k_unfold; (try dsimp only)) | (k_end; wrow_close) | walk1 | (dsimp only; walk1) | (leave1; walk_say "STEP leave1"; try dsimp only) | fail "no step"))
    rename Fr h₀ _ _ _ => kF
    rename News h₀ _ _ _ => kN
    have sub : ∀ p ∈ (R9, W.listOf (rowsV rs').toArray c9) :: (rowsL rs' ++ [(pa, od)]), p ∈ (R9, W.listOf (rowsV rs').toArray c9) :: (D9, lst (rowsV rs)) :: (L' + 1, o') :: (pa, od) :: rowsL rs := fun p hp => by
      rcases List.mem_cons.mp hp with rfl | hp
      · exact .head _
      · rcases List.mem_append.mp hp with hp | hp
        · obtain ⟨r, hr, rfl⟩ := List.mem_map.mp hp
          exact .tail _ (.tail _ (.tail _ (.tail _ (mem_rowsL ((hmem r).mp hr)))))
        · rw [List.mem_singleton.mp hp]
          exact .tail _ (.tail _ (.tail _ (.head _)))
    refine hret _ _ _ _ kF (fun p hp => kN p (sub p hp)) ⟨_, _, rs', rfl, rfl, hpw, fun r hr => ?_, fun k v => ?_⟩ (left_of hg F10 fun p hp => N10 p (sub p hp))
    · exact Nat.ne_of_lt (l10 _ (.tail _ (.tail _ (.tail _ (mem_rowsL ((hmem r).mp hr))))))
    · rw [← some_iff (keys_nodup hod) hgood, ← hrs]
      constructor
      · rintro ⟨r, hr, rfl, rfl⟩
        exact List.mem_map_of_mem (f := fun r : Row => (r.k, r.v)) ((hmem r).mp hr)
      · intro hm
        obtain ⟨r, hr, e⟩ := List.mem_map.mp hm
        cases e
        exact ⟨r, (hmem r).mpr hr, rfl, rfl⟩
end
section
local macro_rules | `(tactic| walk_at "getMethod ref") => `(tactic| ((with_reducible show wpAny _ _ (getMethod (Value.ref _) (Str.ofString "get") _) _ _ _); k_dflt (refine kdg_method (knd := PySem.intKind _ _) (by k_asm) (by k_mem) (by assumption) ?_)))
local macro_rules | `(tactic| walk_at "call builtin:dict.get") => `(tactic| (k_dflt (refine kdg_get1 (knd := PySem.intKind _ _) (by k_asm) (by k_mem) (by assumption) (by assumption) (intKind_is _ _ _ _) _ rfl ?_)))
local macro_rules | `(tactic| walk_at "setItem ref int") => `(tactic| (k_dflt (refine' kda_set (knd := PySem.intKind _ _) ?F ?N ?U ?d (intKind_is _ _ _ _) ?z ?_; (case F => k_asm); (case N => k_asm); (case U => k_updF); (case d => assumption); (case z => rw [sizeLine_eq]; omega)); intro h' o' F' N' hd'; (try dsimp only at N')))
section
local macro_rules | `(tactic| walk_at "subscriptTail") => `(tactic| (k_dflt (refine kda_item (knd := PySem.intKind _ _) (by k_asm) (by k_mem) (by assumption) (intKind_is _ _ _ _) (by assumption) ?_)))
def lessV (kvs : List (Int × Value)) (border pos : Int) (k : Int) : Value := if pos ≤ k ∧ k < border then got kvs (k + 1) else got kvs k
theorem less_c (w : World) (pa : Addr) (od : Obj) (kvs : List (Int × Value)) (border pos : Int) (tb ta : Tok) (hod : od.IsDictOf (intKind PySem.Challenge.rw_nt0625_01.row.prog w) kvs) (hgood : Good kvs) (hlo : (pa == sysModules) = false) (hlen : kvs.length ≤ 50)
    (hb : 0 ≤ border) (hb2 : border ≤ 30) :
    CallC w 2 (.ref 63) [.ref pa, .int border tb, .int pos ta] [(pa, od)] (fun r own' => ∃ da dd, r = .ref da ∧ own' = [(da, dd), (pa, od)] ∧ (da == sysModules) = false ∧ da ≠ pa ∧
      dd.IsDictOf (intKind PySem.Challenge.rw_nt0625_01.row.prog w) (stored ((kvs.map (·.1)).map fun k => (k, lessV kvs border pos k)) border .none)) := by
  unfold CallC
  k_fill
  intro p loose mean mg mb dp un gd cn cs a ccd cl outer A₀ base h₀ L m s Q E B F X N T hk hdp hun hret
  refine wpAny_call ?_
  walk_at "my enter"
  intro g' L' h1 hg FG1 F1 N1 B1 X1 T1 la
  (try dsimp only)
  (try k_fold)
  (repeat' ( (fail_if_success (with_reducible show InvEndN _ _ _ _ _ _ _)); (fail_if_success (with_reducible show KswEnd _ _ _ _ _ _ _ _ _ _ _ _)); (fail_if_success (with_reducible show wpAny _ _ (exec (Stmt.While _ _ _ _) _) _ _ _)); (fail_if_success (with_reducible show wpAny _ _ (exec (Stmt.FunctionDef _ _ _ _ _ _ _ _ _ _) _) _ _ _)); (fail_if_success (with_reducible show wpAny _ _ (exec (Stmt.For _ _ _ _ _) _) _ _ _)); (fail_if_success (with_reducible show wpAny _ _ (call (Value.ref _) _) _ _ _)); (fail_if_success (with_reducible show wpAny _ _ (pyIter (Value.ref _)) _ _ _)); (fail_if_success (with_reducible show wpAny _ _ (eval (Expr.ListComp _ _ _ _) _) _ _ _)); (fail_if_success (with_reducible show wpAny _ _ (call (Value.type "list") _) _ _ _)); (fail_if_success (with_reducible show wpAny _ _ (call (Value.type "dict") _) _ _ _)); (fail_if_success (with_reducible show wpAny _ _ (call (Value.type "set") _) _ _ _)); (fail_if_success (with_reducible show wpAny _ _ (call (Value.builtin "sorted") _) _ _ _)); first | (k_unfold; (try dsimp only)) | (k_end; wrow_close) | walk1 | (dsimp only; walk1) | (leave1; walk_say "STEP leave1"; try dsimp only) | fail "no step"))
  rename Fr _ _ _ _ => F4
  rename News _ _ _ _ => N4
  rename_i da hx0 o' lo' hs' fs' hi' fi' l9 hx1
  refine For_invV g' (by exact rfl) (by exact rfl) ?_
  (repeat' ( (fail_if_success (with_reducible show InvEndN _ _ _ _ _ _ _)); (fail_if_success (with_reducible show KswEnd _ _ _ _ _ _ _ _ _ _ _ _)); (fail_if_success (with_reducible show wpAny _ _ (exec (Stmt.While _ _ _ _) _) _ _ _)); (fail_if_success (with_reducible show wpAny _ _ (exec (Stmt.FunctionDef _ _ _ _ _ _ _ _ _ _) _) _ _ _)); (fail_if_success (with_reducible show wpAny _ _ (exec (Stmt.For _ _ _ _ _) _) _ _ _)); (fail_if_success (with_reducible show wpAny _ _ (call (Value.ref _) _) _ _ _)); (fail_if_success (with_reducible show wpAny _ _ (pyIter (Value.ref _)) _ _ _)); (fail_if_success (with_reducible show wpAny _ _ (eval (Expr.ListComp _ _ _ _) _) _ _ _)); (fail_if_success (with_reducible show wpAny _ _ (call (Value.type "list") _) _ _ _)); (fail_if_success (with_reducible show wpAny _ _ (call (Value.type "dict") _) _ _ _)); (fail_if_success (with_reducible show wpAny _ _ (call (Value.type "set") _) _ _ _)); (fail_if_success (with_reducible show wpAny _ _ (call (Value.builtin "sorted") _) _ _ _)); first | (k_unfold; (try dsimp only)) | (k_end; wrow_close) | walk1 | (dsimp only; walk1) | (leave1; walk_say "STEP leave1"; try dsimp only) | fail "no step"))
  rename Fr g' _ _ _ => F5
  rename News g' _ _ _ => N5
  with_unfolding_all refine kst_dict (σ := Obj × List (Int × Value)) (fun c => [(da, c.1), (pa, od)]) (fun _ => []) (fun c => c.1.IsDictOf (intKind PySem.Challenge.rw_nt0625_01.row.prog w) c.2) [] (fun pre c => c.2 = pre.map fun k => (k, lessV kvs border pos k)) (o', []) (by rfl) hlo (fun c => .tail _ (.head _)) hod F5 N5 hi' (fun p hp => nomatch hp) rfl ?_ ?_
  · rintro ⟨o9, kv9⟩ pre post k t9 u9 h9 tq9 own9 hk9 hoff hd9 hkv F9 N9
    dsimp only at hd9 hkv F9 N9
    (try k_fold)
    dsimp only [List.cons_append, List.nil_append] at N9
    have hkm : k ∈ kvs.map (·.1) := by rw [hk9]; simp
    obtain ⟨⟨k1, y⟩, hm, hke⟩ := List.mem_map.mp hkm
    have hke : k1 = k := hke
    subst hke
    obtain ⟨j, hj⟩ := List.mem_iff_getElem?.mp hm
    have hys : valueAt kvs k1 = some y := valueAt_of_get (keys_nodup hod) hj
    have hz9 : kv9.length ≤ 50 := by
      have e1 := congrArg List.length hk9
      rw [hkv, List.length_map]
      simp at e1
      omega
    have hoff1 : ∀ q ∈ own9, q.1 ≠ da := hoff.ne (.head _)
    have hknew : k1 ∉ kv9.map (·.1) := by
      have hn := keys_nodup hod
      rw [hk9] at hn
      rw [hkv, List.map_map]
      intro hm'
      have hm2 : k1 ∈ pre := by simpa using hm'
      exact (List.nodup_append.mp hn).2.2 _ hm2 _ (.head _) rfl
    have hst : stored kv9 k1 (lessV kvs border pos k1) = (pre ++ [k1]).map fun k => (k, lessV kvs border pos k) := by
      rw [stored_new hknew, hkv, List.map_append]
      rfl
    (repeat' ( (fail_if_success (with_reducible show InvEndN _ _ _ _ _ _ _)); (fail_if_success (with_reducible show KswEnd _ _ _ _ _ _ _ _ _ _ _ _)); (fail_if_success (with_reducible show wpAny _ _ (exec (Stmt.While _ _ _ _) _) _ _ _)); (fail_if_success (with_reducible show wpAny _ _ (exec (Stmt.FunctionDef _ _ _ _ _ _ _ _ _ _) _) _ _ _)); (fail_if_success (with_reducible show wpAny _ _ (exec (Stmt.For _ _ _ _ _) _) _ _ _)); (fail_if_success (with_reducible show wpAny _ _ (call (Value.ref _) _) _ _ _)); (fail_if_success (with_reducible show wpAny _ _ (pyIter (Value.ref _)) _ _ _)); (fail_if_success (with_reducible show wpAny _ _ (eval (Expr.ListComp _ _ _ _) _) _ _ _)); (fail_if_success (with_reducible show wpAny _ _ (call (Value.type "list") _) _ _ _)); (fail_if_success (with_reducible show wpAny _ _ (call (Value.type "dict") _) _ _ _)); (fail_if_success (with_reducible show wpAny _ _ (call (Value.type "set") _) _ _ _)); (fail_if_success (with_reducible show wpAny _ _ (call (Value.builtin "sorted") _) _ _ _)); first | (k_unfold; (try dsimp only)) | (k_end; wrow_close) | walk1 | (dsimp only; walk1) | (leave1; walk_say "STEP leave1"; try dsimp only) | fail "no step"))
    all_goals (
      rename Fr g' _ _ _ => F10
      rename News g' _ _ _ => N10
      rename Obj.IsDictOf _ _ (stored kv9 _ _) => hd10
      refine kst_end (_, _) F10 N10 (fun p hp => List.mem_append_left own9 (show p ∈ [(da, _), (pa, od)] from hp)) (fun p hp => .tail _ (.tail _ hp)) rfl hd10 (fun p hp => nomatch hp) (fun z e1 e2 e3 => by simp [kstB, e1]) ?_
      rw [← hst]
      dsimp only
      refine congrArg (stored kv9 k1) ?_
      unfold lessV
      first
        | (rw [if_pos (by omega)]; rfl)
        | (rw [if_neg (by omega)]; unfold got; rw [hys]; rfl))
  · rintro ⟨o9, kv9⟩ u9 h9 tq9 hd9 hkv F9 N9
    dsimp only at hd9 hkv F9 N9
    (try k_fold)
    have hz9 : kv9.length ≤ 50 := by rw [hkv, List.length_map, List.length_map]; exact hlen
    (repeat' ( (fail_if_success (with_reducible show InvEndN _ _ _ _ _ _ _)); (fail_if_success (with_reducible show KswEnd _ _ _ _ _ _ _ _ _ _ _ _)); (fail_if_success (with_reducible show wpAny _ _ (exec (Stmt.While _ _ _ _) _) _ _ _)); (fail_if_success (with_reducible show wpAny _ _ (exec (Stmt.FunctionDef _ _ _ _ _ _ _ _ _ _) _) _ _ _)); (fail_if_success (with_reducible show wpAny _ _ (exec (Stmt.For _ _ _ _ _) _) _ _ _)); (fail_if_success (with_reducible show wpAny _ _ (call (Value.ref _) _) _ _ _)); (fail_if_success (with_reducible show wpAny _ _ (pyIter (Value.ref _)) _ _ _)); (fail_if_success (with_reducible show wpAny _ _ (eval (Expr.ListComp _ _ _ _) _) _ _ _)); (fail_if_success (with_reducible show wpAny _ _ (call (Value.type "list") _) _ _ _)); (fail_if_success (with_reducible show wpAny _ _ (call (Value.type "dict") _) _ _ _)); (fail_if_success (with_reducible show wpAny _ _ (call (Value.type "set") _) _ _ _)); (fail_if_success (with_reducible show wpAny _ _ (call (Value.builtin "sorted") _) _ _ _)); first | (k_unfold; (try dsimp only)) | (k_end; wrow_close) | walk1 | (dsimp only; walk1) | (leave1; walk_say "STEP leave1"; try dsimp only) | fail "no step"))
    rename Fr h₀ _ _ _ => kF
    rename News h₀ _ _ _ => kN
    rename Fr g' _ _ _ => F10
    rename News g' _ _ _ => N10
    rename Obj.IsDictOf _ _ (stored kv9 _ _) => hd10
    refine hret _ _ _ _ kF kN ⟨_, _, rfl, rfl, lo', Nat.ne_of_gt l9, ?_⟩ (left_of hg F10 N10)
    rw [← hkv]
    exact hd10
end
section
def movedV (kvs : List (Int × Value)) (border pos : Int) (k : Int) : Value := if pos < k ∧ k ≤ border + 1 then got kvs (k - 1) else got kvs k
theorem intsAre_at : ∀ {vs : List Value} {ns : List Int}, vs.length = ns.length → (∀ (j : Nat) (v : Value), vs[j]? = some v → ∃ k t, ns[j]? = some k ∧ v = .int k t) → IntsAre vs ns
  | [], [], _, _ => .nil
  | [], _ :: _, hl, _ => by simp at hl
  | _ :: _, [], hl, _ => by simp at hl
  | v :: vs, n :: ns, hl, hv => by
    obtain ⟨k, t, e1, rfl⟩ := hv 0 v rfl
    have ek : n = k := by simpa using e1
    subst ek
    exact .cons n t (intsAre_at (by simpa using hl) fun j u hj => hv (j + 1) u (by simpa using hj))
section
variable {prog : Program} {w : World} {A : Around} {E : Value → Shared → Prop} {s : Shared} {h₀ : Heap} {L : Addr} {m : Str → Option Value} {news : List (Addr × Obj)} {Q : Value → Shared → Prop}
theorem list_of_range {r : Addr} {a b : Int} {t u v : Tok} {n : Nat} (hh : A.handled = none) (F : Fr h₀ L s.heap m) (N : News h₀ L s.heap news)
    (hr : IsRange s.heap r a b 1 t u v) (hsmall : Builtin.Range.small a b 1 = true) (hn : Builtin.Range.rangeSize a b 1 = (n : Int)) (hlen : n ≤ 2 ^ 24)
    (h : ∀ D c h' tk vs, Fr h₀ L h' m → News h₀ L h' ((D, W.listOf (List.toArray vs) c) :: news) → (∀ q ∈ news, q.1 < D) → IntsAre vs (rangeInts a 1 n) → Q (.ref D) { s with heap := h', toks := tk }) :
    wpAny (model prog w) A (call (.type "list") [.ref r]) Q E s := by
  refine call_list_range hh hr hsmall hn hlen fun h' tk acc' c' hk hS' hacc => ?_
  refine h _ c' h' tk acc'.toList (F.keeps hk) (news_pushed F N hk (by first | (rw [Array.toArray_toList]; exact hS') | simpa using hS') rfl) (fun q hq => Heap.lt_size (N q hq).1) ?_
  refine intsAre_at (by rw [Array.length_toList, rangeInts_length]; exact hacc.1) fun j v hj => ?_
  obtain ⟨t, rfl⟩ := hacc.2 j v (by rw [← Array.getElem?_toList]; exact hj)
  have hlt : j < n := by
    have := (List.getElem?_eq_some_iff.mp hj).1
    rw [Array.length_toList, hacc.1] at this
    exact this
  exact ⟨_, t, by simp [rangeInts, hlt], rfl⟩
end
theorem dedup_mem {l : List Int} {k : Int} : k ∈ l.foldl step_dedup [] ↔ k ∈ l := by
  have go : ∀ (l : List Int) (σ : List Int), k ∈ l.foldl step_dedup σ ↔ (k ∈ σ ∨ k ∈ l) := by
    intro l
    induction l with
    | nil => intro σ; simp
    | cons x r ih =>
      intro σ
      rw [List.foldl_cons, ih, step_mem]
      by_cases h : x ∈ σ
      · rw [if_pos h, List.mem_cons]
        constructor
        · rintro (h1 | h1)
          · exact .inl h1
          · exact .inr (.inr h1)
        · rintro (h1 | rfl | h1)
          · exact .inl h1
          · exact .inl h
          · exact .inr h1
      · rw [if_neg h, List.mem_append, List.mem_singleton, List.mem_cons]
        constructor
        · rintro ((h1 | h1) | h1)
          · exact .inl h1
          · exact .inr (.inl h1)
          · exact .inr (.inr h1)
        · rintro (h1 | h1 | h1)
          · exact .inl (.inl h1)
          · exact .inl (.inr h1)
          · exact .inr h1
  rw [go]
  simp
theorem moved_c (w : World) (pa : Addr) (od : Obj) (kvs : List (Int × Value)) (border pos : Int) (tb ta : Tok) (x : Value) (hod : od.IsDictOf (intKind PySem.Challenge.rw_nt0625_01.row.prog w) kvs) (hgood : Good kvs) (hlo : (pa == sysModules) = false) (hlen : kvs.length ≤ 20)
    (hkb : ∀ p ∈ kvs, p.1 ≤ 17) (hb : 0 ≤ border) (hb2 : border ≤ 15) (hp1 : -2 ≤ pos) (hp2 : pos ≤ 17) :
    CallC w 2 (.ref 56) [.ref pa, .int border tb, .int pos ta, x] [(pa, od)] (fun r own' => ∃ da dd kv, r = .ref da ∧ own' = [(da, dd), (pa, od)] ∧ (da == sysModules) = false ∧ da ≠ pa ∧
      dd.IsDictOf (intKind PySem.Challenge.rw_nt0625_01.row.prog w) kv ∧ kv.length ≤ 50 ∧ (∀ p ∈ kv, (p.2 = x ∨ Vok p.2) ∧ -2 ≤ p.1 ∧ p.1 ≤ 17) ∧ ∀ k, got kv k = if k = pos then x else movedV kvs border pos k) := by
  unfold CallC
  k_fill
  intro p loose mean mg mb dp un gd cn cs a ccd cl outer A₀ base h₀ L m s Q E B F X N T hk hdp hun hret
  refine wpAny_call ?_
  walk_at "my enter"
  intro g' L' h1 hg FG1 F1 N1 B1 X1 T1 la
  (try dsimp only)
  (try k_fold)
  (repeat' ( (fail_if_success (with_reducible show InvEndN _ _ _ _ _ _ _)); (fail_if_success (with_reducible show KswEnd _ _ _ _ _ _ _ _ _ _ _ _)); (fail_if_success (with_reducible show wpAny _ _ (exec (Stmt.While _ _ _ _) _) _ _ _)); (fail_if_success (with_reducible show wpAny _ _ (exec (Stmt.FunctionDef _ _ _ _ _ _ _ _ _ _) _) _ _ _)); (fail_if_success (with_reducible show wpAny _ _ (exec (Stmt.For _ _ _ _ _) _) _ _ _)); (fail_if_success (with_reducible show wpAny _ _ (call (Value.ref _) _) _ _ _)); (fail_if_success (with_reducible show wpAny _ _ (pyIter (Value.ref _)) _ _ _)); (fail_if_success (with_reducible show wpAny _ _ (eval (Expr.ListComp _ _ _ _) _) _ _ _)); (fail_if_success (with_reducible show wpAny _ _ (call (Value.type "list") _) _ _ _)); (fail_if_success (with_reducible show wpAny _ _ (call (Value.type "dict") _) _ _ _)); (fail_if_success (with_reducible show wpAny _ _ (call (Value.type "set") _) _ _ _)); (fail_if_success (with_reducible show wpAny _ _ (call (Value.builtin "sorted") _) _ _ _)); first | (k_unfold; (try dsimp only)) | (k_end; wrow_close) | walk1 | (dsimp only; walk1) | (leave1; walk_say "STEP leave1"; try dsimp only) | fail "no step"))
  rename_i da hx0 o' lo' hs' fs' hi' fi' l9 hx1 F4 N4
  refine For_invV g' (by exact rfl) (by exact rfl) ?_
  (repeat' ( (fail_if_success (with_reducible show InvEndN _ _ _ _ _ _ _)); (fail_if_success (with_reducible show KswEnd _ _ _ _ _ _ _ _ _ _ _ _)); (fail_if_success (with_reducible show wpAny _ _ (exec (Stmt.While _ _ _ _) _) _ _ _)); (fail_if_success (with_reducible show wpAny _ _ (exec (Stmt.FunctionDef _ _ _ _ _ _ _ _ _ _) _) _ _ _)); (fail_if_success (with_reducible show wpAny _ _ (exec (Stmt.For _ _ _ _ _) _) _ _ _)); (fail_if_success (with_reducible show wpAny _ _ (call (Value.ref _) _) _ _ _)); (fail_if_success (with_reducible show wpAny _ _ (pyIter (Value.ref _)) _ _ _)); (fail_if_success (with_reducible show wpAny _ _ (eval (Expr.ListComp _ _ _ _) _) _ _ _)); (fail_if_success (with_reducible show wpAny _ _ (call (Value.type "list") _) _ _ _)); (fail_if_success (with_reducible show wpAny _ _ (call (Value.type "dict") _) _ _ _)); (fail_if_success (with_reducible show wpAny _ _ (call (Value.type "set") _) _ _ _)); (fail_if_success (with_reducible show wpAny _ _ (call (Value.builtin "sorted") _) _ _ _)); first | (k_unfold; (try dsimp only)) | (k_end; wrow_close) | walk1 | (dsimp only; walk1) | (leave1; walk_say "STEP leave1"; try dsimp only) | fail "no step"))
  refine keys_list (by rfl) F4 N4 (by k_mem) hod hlo (by omega) ?_
  intro ka ca h5 tk5 kvsV hIk lk F5 N5
  k_lt lk
  (repeat' ( (fail_if_success (with_reducible show InvEndN _ _ _ _ _ _ _)); (fail_if_success (with_reducible show KswEnd _ _ _ _ _ _ _ _ _ _ _ _)); (fail_if_success (with_reducible show wpAny _ _ (exec (Stmt.While _ _ _ _) _) _ _ _)); (fail_if_success (with_reducible show wpAny _ _ (exec (Stmt.FunctionDef _ _ _ _ _ _ _ _ _ _) _) _ _ _)); (fail_if_success (with_reducible show wpAny _ _ (exec (Stmt.For _ _ _ _ _) _) _ _ _)); (fail_if_success (with_reducible show wpAny _ _ (call (Value.ref _) _) _ _ _)); (fail_if_success (with_reducible show wpAny _ _ (pyIter (Value.ref _)) _ _ _)); (fail_if_success (with_reducible show wpAny _ _ (eval (Expr.ListComp _ _ _ _) _) _ _ _)); (fail_if_success (with_reducible show wpAny _ _ (call (Value.type "list") _) _ _ _)); (fail_if_success (with_reducible show wpAny _ _ (call (Value.type "dict") _) _ _ _)); (fail_if_success (with_reducible show wpAny _ _ (call (Value.type "set") _) _ _ _)); (fail_if_success (with_reducible show wpAny _ _ (call (Value.builtin "sorted") _) _ _ _)); first | (k_unfold; (try dsimp only)) | (k_end; wrow_close) | walk1 | (dsimp only; walk1) | (leave1; walk_say "STEP leave1"; try dsimp only) | fail "no step"))
  rename IsRange _ _ _ _ _ _ _ _ => R5
  rename Fr g' _ _ _ => F6
  rename News g' _ _ _ => N6
  generalize hlw : (if 1 < pos then (1 : Int) else pos) = lw at R5
  have hlw1 : lw = min pos 1 := by rw [← hlw]; split <;> omega
  refine list_of_range (by rfl) F6 N6 R5 (small_one (by omega) (by omega) (by omega) (by omega)) (rangeSize_nat _ _) (by omega) ?_
  intro ra rc h7 tk7 rv F7 N7 lr hIr
  k_lt lr
  rename IntsAre _ (_ ++ [pos, border + 1]) => hIw
  refine kmk_add_ints F7 N7 ?qa ?qb hIw hIr ?_ ?qz
  case qa => kmk_list
  case qb => kmk_list
  case qz => rw [sizeLine_eq, rangeInts_length]; simp only [List.length_append, List.length_map, List.length_cons, List.length_nil]; omega
  intro sa us h8 F8 N8 ls hIs
  k_lt ls
  (repeat' ( (fail_if_success (with_reducible show InvEndN _ _ _ _ _ _ _)); (fail_if_success (with_reducible show KswEnd _ _ _ _ _ _ _ _ _ _ _ _)); (fail_if_success (with_reducible show wpAny _ _ (exec (Stmt.While _ _ _ _) _) _ _ _)); (fail_if_success (with_reducible show wpAny _ _ (exec (Stmt.FunctionDef _ _ _ _ _ _ _ _ _ _) _) _ _ _)); (fail_if_success (with_reducible show wpAny _ _ (exec (Stmt.For _ _ _ _ _) _) _ _ _)); (fail_if_success (with_reducible show wpAny _ _ (call (Value.ref _) _) _ _ _)); (fail_if_success (with_reducible show wpAny _ _ (pyIter (Value.ref _)) _ _ _)); (fail_if_success (with_reducible show wpAny _ _ (eval (Expr.ListComp _ _ _ _) _) _ _ _)); (fail_if_success (with_reducible show wpAny _ _ (call (Value.type "list") _) _ _ _)); (fail_if_success (with_reducible show wpAny _ _ (call (Value.type "dict") _) _ _ _)); (fail_if_success (with_reducible show wpAny _ _ (call (Value.type "set") _) _ _ _)); (fail_if_success (with_reducible show wpAny _ _ (call (Value.builtin "sorted") _) _ _ _)); first | (k_unfold; (try dsimp only)) | (k_end; wrow_close) | walk1 | (dsimp only; walk1) | (leave1; walk_say "STEP leave1"; try dsimp only) | fail "no step"))
  have hAll : ∀ k ∈ kvs.map (·.1) ++ [pos, border + 1] ++ rangeInts lw 1 (border + 2 - lw).toNat, -2 ≤ k ∧ k ≤ 17 := fun k hk => by
    rcases List.mem_append.mp hk with hk | hk
    · rcases List.mem_append.mp hk with hk | hk
      · obtain ⟨q, hq, rfl⟩ := List.mem_map.mp hk
        exact ⟨(hgood q hq).2.1, hkb q hq⟩
      · simp only [List.mem_cons, List.not_mem_nil, or_false] at hk
        omega
    · have := mem_rangeInts hk
      omega
  refine call_set (by rfl) (N8 (sa, W.listOf us.toArray 0) (.head _)).1 hIs hAll ?_
  intro h9 tk9 hS hk9
  have F9 := F8.kept hk9
  have N8' : News g' L' _ [(da, o'), (pa, od)] := cb_drop N8 (fun p hp => .tail _ (.tail _ (.tail _ (.tail _ (.tail _ hp)))))
  have N9 : News g' L' h9 [(da, o'), (pa, od)] := fun p hp => ⟨hk9 _ _ (N8' p hp).1, (N8' p hp).2⟩
  clear N8'
  clear F8 N8 F7 N7
  generalize hSa : Array.size _ = S at hS
  (repeat' ( (fail_if_success (with_reducible show InvEndN _ _ _ _ _ _ _)); (fail_if_success (with_reducible show KswEnd _ _ _ _ _ _ _ _ _ _ _ _)); (fail_if_success (with_reducible show wpAny _ _ (exec (Stmt.While _ _ _ _) _) _ _ _)); (fail_if_success (with_reducible show wpAny _ _ (exec (Stmt.FunctionDef _ _ _ _ _ _ _ _ _ _) _) _ _ _)); (fail_if_success (with_reducible show wpAny _ _ (exec (Stmt.For _ _ _ _ _) _) _ _ _)); (fail_if_success (with_reducible show wpAny _ _ (call (Value.ref _) _) _ _ _)); (fail_if_success (with_reducible show wpAny _ _ (pyIter (Value.ref _)) _ _ _)); (fail_if_success (with_reducible show wpAny _ _ (eval (Expr.ListComp _ _ _ _) _) _ _ _)); (fail_if_success (with_reducible show wpAny _ _ (call (Value.type "list") _) _ _ _)); (fail_if_success (with_reducible show wpAny _ _ (call (Value.type "dict") _) _ _ _)); (fail_if_success (with_reducible show wpAny _ _ (call (Value.type "set") _) _ _ _)); (fail_if_success (with_reducible show wpAny _ _ (call (Value.builtin "sorted") _) _ _ _)); first | (k_unfold; (try dsimp only)) | (k_end; wrow_close) | walk1 | (dsimp only; walk1) | (leave1; walk_say "STEP leave1"; try dsimp only) | fail "no step"))
  obtain ⟨ks, hks⟩ : ∃ ks, ks = (kvs.map (·.1) ++ [pos, border + 1] ++ rangeInts lw 1 (border + 2 - lw).toNat).foldl step_dedup [] := ⟨_, rfl⟩
  rw [← hks] at hS
  have hksn : ks.Nodup := let ⟨_, _, _, _, _, _, _, _, _, _, _, _, _, hn⟩ := hS; hn
  have hksb : ∀ k ∈ ks, -2 ≤ k ∧ k ≤ 17 := let ⟨_, _, _, _, _, _, _, _, _, _, _, _, hb, _⟩ := hS; hb
  refine sorted_set (by rfl) F9 N9 hS ?_
  intro D c10 h10 tk10 vs ns F10 N10 l10 hIn hperm hpw
  k_lt l10
  have hnn : ns.Nodup := hperm.nodup_iff.mpr hksn
  have hnm : ∀ k, k ∈ ns ↔ k ∈ kvs.map (·.1) ++ [pos, border + 1] ++ rangeInts lw 1 (border + 2 - lw).toNat := fun k => by
    rw [hperm.mem_iff, hks, dedup_mem]
  have hnb : ∀ k ∈ ns, -2 ≤ k ∧ k ≤ 17 := fun k hk => hAll k ((hnm k).mp hk)
  have hnl : ns.length ≤ 20 := small_length hnb hnn
  clear hIs hS hIr hIw R5
  (repeat' ( (fail_if_success (with_reducible show InvEndN _ _ _ _ _ _ _)); (fail_if_success (with_reducible show KswEnd _ _ _ _ _ _ _ _ _ _ _ _)); (fail_if_success (with_reducible show wpAny _ _ (exec (Stmt.While _ _ _ _) _) _ _ _)); (fail_if_success (with_reducible show wpAny _ _ (exec (Stmt.FunctionDef _ _ _ _ _ _ _ _ _ _) _) _ _ _)); (fail_if_success (with_reducible show wpAny _ _ (exec (Stmt.For _ _ _ _ _) _) _ _ _)); (fail_if_success (with_reducible show wpAny _ _ (call (Value.ref _) _) _ _ _)); (fail_if_success (with_reducible show wpAny _ _ (pyIter (Value.ref _)) _ _ _)); (fail_if_success (with_reducible show wpAny _ _ (eval (Expr.ListComp _ _ _ _) _) _ _ _)); (fail_if_success (with_reducible show wpAny _ _ (call (Value.type "list") _) _ _ _)); (fail_if_success (with_reducible show wpAny _ _ (call (Value.type "dict") _) _ _ _)); (fail_if_success (with_reducible show wpAny _ _ (call (Value.type "set") _) _ _ _)); (fail_if_success (with_reducible show wpAny _ _ (call (Value.builtin "sorted") _) _ _ _)); first | (k_unfold; (try dsimp only)) | (k_end; wrow_close) | walk1 | (dsimp only; walk1) | (leave1; walk_say "STEP leave1"; try dsimp only) | fail "no step"))
  with_unfolding_all refine kst_listL (σ := Obj × List (Int × Value)) (fun c => [(D, W.listOf vs.toArray c10), (da, c.1), (pa, od)]) (fun _ => []) (fun c => c.1.IsDictOf (intKind PySem.Challenge.rw_nt0625_01.row.prog w) c.2) [] (fun pre c => c.2 = pre.map fun k => (k, movedV kvs border pos k)) (o', []) (by rfl) (fun c => .head _) hIn F10 N10 hi' (fun p hp => nomatch hp) rfl ?_ ?_
  · rintro ⟨o9, kv9⟩ pre post k t9 u9 h11 tq11 own9 hk9' hkm hoff hd9 hkv F11 N11
    dsimp only at hd9 hkv F11 N11
    (try k_fold)
    dsimp only [List.cons_append, List.nil_append] at N11
    have hz9 : kv9.length ≤ 50 := by
      have e1 := congrArg List.length hk9'
      rw [hkv, List.length_map]
      simp at e1
      omega
    have hoff1 : ∀ q ∈ own9, q.1 ≠ da := hoff.ne (.tail _ (.head _))
    have hoff2 : ∀ q ∈ own9, q.1 ≠ D := hoff.ne (.head _)
    have hknew : k ∉ kv9.map (·.1) := by
      have hn := hnn
      rw [hk9'] at hn
      rw [hkv, List.map_map]
      intro hm'
      have hm2 : k ∈ pre := by simpa using hm'
      exact (List.nodup_append.mp hn).2.2 _ hm2 _ (.head _) rfl
    have hst : stored kv9 k (movedV kvs border pos k) = (pre ++ [k]).map fun k => (k, movedV kvs border pos k) := by
      rw [stored_new hknew, hkv, List.map_append]
      rfl
    (repeat' ( (fail_if_success (with_reducible show InvEndN _ _ _ _ _ _ _)); (fail_if_success (with_reducible show KswEnd _ _ _ _ _ _ _ _ _ _ _ _)); (fail_if_success (with_reducible show wpAny _ _ (exec (Stmt.While _ _ _ _) _) _ _ _)); (fail_if_success (with_reducible show wpAny _ _ (exec (Stmt.FunctionDef _ _ _ _ _ _ _ _ _ _) _) _ _ _)); (fail_if_success (with_reducible show wpAny _ _ (exec (Stmt.For _ _ _ _ _) _) _ _ _)); (fail_if_success (with_reducible show wpAny _ _ (call (Value.ref _) _) _ _ _)); (fail_if_success (with_reducible show wpAny _ _ (pyIter (Value.ref _)) _ _ _)); (fail_if_success (with_reducible show wpAny _ _ (eval (Expr.ListComp _ _ _ _) _) _ _ _)); (fail_if_success (with_reducible show wpAny _ _ (call (Value.type "list") _) _ _ _)); (fail_if_success (with_reducible show wpAny _ _ (call (Value.type "dict") _) _ _ _)); (fail_if_success (with_reducible show wpAny _ _ (call (Value.type "set") _) _ _ _)); (fail_if_success (with_reducible show wpAny _ _ (call (Value.builtin "sorted") _) _ _ _)); first | (k_unfold; (try dsimp only)) | (k_end; wrow_close) | walk1 | (dsimp only; walk1) | (leave1; walk_say "STEP leave1"; try dsimp only) | fail "no step"))
    all_goals (
      rename Fr g' _ _ _ => F12
      rename News g' _ _ _ => N12
      rename Obj.IsDictOf _ _ (stored kv9 _ _) => hd10
      refine kst_end (_, _) F12 N12 (fun p hp => List.mem_append_left own9 (show p ∈ [(D, W.listOf vs.toArray c10), (da, _), (pa, od)] from hp)) (fun p hp => .tail _ (.tail _ (.tail _ hp))) rfl hd10 (fun p hp => nomatch hp) (fun z e1 e2 e3 => by simp [kstB, e1]) ?_
      rw [← hst]
      dsimp only
      refine congrArg (stored kv9 k) ?_
      unfold movedV
      first
        | (rw [if_pos (by omega)]; rfl)
        | (rw [if_neg (by omega)]; rfl))
  · rintro ⟨o9, kv9⟩ u9 h11 tq11 hd9 hkv F11 N11
    dsimp only at hd9 hkv F11 N11
    (try k_fold)
    have hz9 : kv9.length ≤ 50 := by rw [hkv, List.length_map]; omega
    (repeat' ( (fail_if_success (with_reducible show InvEndN _ _ _ _ _ _ _)); (fail_if_success (with_reducible show KswEnd _ _ _ _ _ _ _ _ _ _ _ _)); (fail_if_success (with_reducible show wpAny _ _ (exec (Stmt.While _ _ _ _) _) _ _ _)); (fail_if_success (with_reducible show wpAny _ _ (exec (Stmt.FunctionDef _ _ _ _ _ _ _ _ _ _) _) _ _ _)); (fail_if_success (with_reducible show wpAny _ _ (exec (Stmt.For _ _ _ _ _) _) _ _ _)); (fail_if_success (with_reducible show wpAny _ _ (call (Value.ref _) _) _ _ _)); (fail_if_success (with_reducible show wpAny _ _ (pyIter (Value.ref _)) _ _ _)); (fail_if_success (with_reducible show wpAny _ _ (eval (Expr.ListComp _ _ _ _) _) _ _ _)); (fail_if_success (with_reducible show wpAny _ _ (call (Value.type "list") _) _ _ _)); (fail_if_success (with_reducible show wpAny _ _ (call (Value.type "dict") _) _ _ _)); (fail_if_success (with_reducible show wpAny _ _ (call (Value.type "set") _) _ _ _)); (fail_if_success (with_reducible show wpAny _ _ (call (Value.builtin "sorted") _) _ _ _)); first | (k_unfold; (try dsimp only)) | (k_end; wrow_close) | walk1 | (dsimp only; walk1) | (leave1; walk_say "STEP leave1"; try dsimp only) | fail "no step"))
    rename Fr h₀ _ _ _ => kF
    rename News h₀ _ _ _ => kN
    rename Fr g' _ _ _ => F12
    rename News g' _ _ _ => N12
    rename Obj.IsDictOf _ _ (stored kv9 _ _) => hd10
    refine hret _ _ _ _ kF (fun p hp => kN p (.tail _ hp)) ⟨_, _, _, rfl, rfl, lo', Nat.ne_of_gt l9, hd10, Nat.le_trans stored_length (by rw [hkv, List.length_map]; omega), fun q hq => ?_, fun k => ?_⟩ (left_of hg F12 (fun p hp => N12 p (.tail _ hp)))
    · rcases mem_stored hq with ⟨e1, e2⟩ | hq
      · exact ⟨.inl e2, by rw [e1]; exact ⟨hp1, hp2⟩⟩
      · rw [hkv] at hq
        obtain ⟨k, hk, rfl⟩ := List.mem_map.mp hq
        refine ⟨.inr ?_, hnb k hk⟩
        show Vok (movedV kvs border pos k)
        unfold movedV
        split
        · exact got_ok hgood _
        · exact got_ok hgood _
    · rw [got_stored, hkv, got_map]
      by_cases hkp : k = pos
      · rw [if_pos hkp, if_pos hkp]
      · rw [if_neg hkp, if_neg hkp]
        by_cases hkm : k ∈ ns
        · rw [if_pos hkm]
        · rw [if_neg hkm]
          have hkk : k ∉ kvs.map (·.1) := fun hm => hkm ((hnm k).mpr (List.mem_append_left _ (List.mem_append_left _ hm)))
          unfold movedV
          rw [if_neg, got_none hkk]
          rintro ⟨h1, h2⟩
          refine hkm ((hnm k).mpr (List.mem_append_right _ ?_))
          unfold rangeInts
          refine List.mem_map.mpr ⟨(k - lw).toNat, List.mem_range.mpr (by omega), ?_⟩
          omega
end
section
section
local macro_rules | `(tactic| walk_at "my pad") => `(tactic| skip)
open PyProof.Rows.LCg
def InsI (prog : Program) (w : World) (kvs : List (Int × Value)) (sl ka : Addr) (A1 A2 : List (Addr × Obj)) (g : Int → Value) (sn : List Int) (own : List (Addr × Obj)) : Prop :=
  ∃ kv us n kd', own = A1 ++ (sl, W.listOf (List.toArray us) n) :: (ka, kd') :: A2 ∧
    kd'.IsDictOf (intKind prog w) kv ∧ Good kv ∧ (∀ k, got kv k = g k) ∧ IntsAre us sn ∧ (∀ k, k ∈ kv.map (·.1) ↔ (k ∈ kvs.map (·.1) ∨ k ∈ sn)) ∧ kv.length ≤ kvs.length + sn.length
theorem allA {P : Addr × Obj → Prop} {t u : List (Addr × Obj)} (h : ∀ p ∈ t, P p) (h' : ∀ p ∈ u, P p) : ∀ p ∈ t ++ u, P p := fun p hp => (List.mem_append.mp hp).elim (h p) (h' p)
theorem dict_apart {h₀ h : Heap} {L a : Addr} {o : Obj} {news l : List (Addr × Obj)} (N : News h₀ L h news) (ha : (a, o) ∈ news) (hd : ∃ es ep, o.data = .dict es ep) (hs : ∀ p ∈ l, p ∈ news) (nd : ∀ p ∈ l, ¬ ∃ es ep, p.2.data = .dict es ep) : ∀ p ∈ l, p.1 ≠ a :=
  fun p hp => dict_sep N ha hd (hs p hp) (nd p hp)
def JV (s : Shared) (h₀ : Heap) (L : Addr) (m : Str → Option Value) (Φ : Value → Heap → Prop) (v : Value) (s' : Shared) : Prop := ∃ hh tk, s' = { s with heap := hh, toks := tk } ∧ Fr h₀ L hh m ∧ Φ v hh
theorem join_val {M : Model} {A : Around} {e : PySem.Expr} {env : Env} {Q : Value → Shared → Prop} {E : Value → Shared → Prop} {s : Shared} {h₀ : Heap} {L : Addr} {m : Str → Option Value} (_F : Fr h₀ L s.heap m) (Φ : Value → Heap → Prop)
    (h1 : wpAny M A (eval e env) (JV s h₀ L m Φ) E s)
    (h2 : ∀ v hh tk, Fr h₀ L hh m → Φ v hh → Q v { s with heap := hh, toks := tk }) : wpAny M A (eval e env) Q E s :=
  wpAny_mono h1 (fun v s' ⟨hh, tk, es, F, x⟩ => es ▸ h2 v hh tk F x) fun _ _ x => x
theorem insert_right (w : World) (pa : Addr) (od : Obj) (kvs : List (Int × Value)) (border pos xi : Int) (tb ta tx : Tok) (tab : List (Addr × Obj)) (hod : od.IsDictOf (intKind PySem.Challenge.rw_nt0625_01.row.prog w) kvs) (hgood : Good kvs) (hlo : (pa == sysModules) = false)
    (hkb : ∀ p ∈ kvs, p.1 ≤ 17) (hb : 0 ≤ border) (hb2 : border ≤ 14) (hp1 : -2 ≤ pos) (hp2 : pos ≤ 17) (hx : xi.natAbs < 10 ^ 10)
    (htab : Tab2 70 57 4 (Str.ofString "_law_insert_right.<locals>.write") 60 14 (Str.ofString "_law_insert_right.<locals>.<lambda>") tab) :
    CallC w 9 (.ref 75) [.ref pa, .int border tb, .int pos ta, .int xi tx] ((pa, od) :: tab) (fun r own' => ∃ ka kd kv tab', r = .ref ka ∧ own' = (ka, kd) :: tab' ∧
      Tab2 70 57 4 (Str.ofString "_law_insert_right.<locals>.write") 60 14 (Str.ofString "_law_insert_right.<locals>.<lambda>") tab' ∧ (ka == sysModules) = false ∧ kd.IsDictOf (intKind PySem.Challenge.rw_nt0625_01.row.prog w) kv ∧ Good kv ∧ (∀ p ∈ kv, p.1 ≤ 17) ∧
      (∀ k, k ∈ kv.map (·.1) ↔ (k ∈ kvs.map (·.1) ∨ k = pos ∨ (pos ≤ k ∧ k ≤ border + 1)))) := by
  unfold CallC
  k_fill
  intro p loose mean mg mb dp un gd cn cs a ccd cl outer A₀ base h₀ L m s Q E B F X N T hk hdp hun hret
  refine wpAny_call ?_
  walk_at "my enter C"
  (try k_fold)
  rename Frag.In _ _ => X1
  have C1 := codeHd_of_K (c := 74) (P := 70) X1 (by kernel_rfl)
  rename (∀ (b : Addr) (o : Obj), _ → _ → _) => hg
  rename Top _ _ _ _ _ _ => T1
  (repeat' ( (fail_if_success (with_reducible show wpAny _ _ (exec (Stmt.FunctionDef _ _ _ _ _ _ _ _ _ _) _) _ _ _)); (fail_if_success (with_reducible show wpAny _ _ (call (Value.ref _) _) _ _ _)); (fail_if_success (with_reducible show wpAny _ _ (eval (Expr.Lambda _ _ _ _) _) _ _ _)); (fail_if_success (with_reducible show wpAny _ _ (makeFunction _ _ _ _ _ _ _ _ _ _ _) _ _ _)); (fail_if_success (with_reducible show wpAny _ _ (call (Value.type "list") _) _ _ _)); (fail_if_success (with_reducible show wpAny _ _ (call (Value.type "dict") _) _ _ _)); (fail_if_success (with_reducible show wpAny _ _ (call (Value.builtin "sorted") _) _ _ _)); (fail_if_success (with_reducible show wpAny _ _ (compareOp _ (Value.ref _) (Value.ref _)) _ _ _)); first | (k_unfold; (try dsimp only)) | (k_end; wrow_close) | walk1 | (dsimp only; walk1) | (leave1; walk_say "STEP leave1"; try dsimp only) | fail "no step"))
  rename Fr _ _ _ _ => F3
  rename News _ _ _ _ => N3
  have hlen : kvs.length ≤ 20 := by
    have := small_length (ks := kvs.map (·.1)) (fun k hk => by obtain ⟨q, hq, rfl⟩ := List.mem_map.mp hk; exact ⟨(hgood q hq).2.1, hkb q hq⟩) (keys_nodup hod)
    simpa using this
  refine items_rows (by rfl) F3 N3 (.head _) (by k_mem) hod (by omega) ?_
  intro ba bc h4 tk4 rs hrs lb lr F4 N4
  (repeat' ( (fail_if_success (with_reducible show wpAny _ _ (exec (Stmt.FunctionDef _ _ _ _ _ _ _ _ _ _) _) _ _ _)); (fail_if_success (with_reducible show wpAny _ _ (call (Value.ref _) _) _ _ _)); (fail_if_success (with_reducible show wpAny _ _ (eval (Expr.Lambda _ _ _ _) _) _ _ _)); (fail_if_success (with_reducible show wpAny _ _ (makeFunction _ _ _ _ _ _ _ _ _ _ _) _ _ _)); (fail_if_success (with_reducible show wpAny _ _ (call (Value.type "list") _) _ _ _)); (fail_if_success (with_reducible show wpAny _ _ (call (Value.type "dict") _) _ _ _)); (fail_if_success (with_reducible show wpAny _ _ (call (Value.builtin "sorted") _) _ _ _)); (fail_if_success (with_reducible show wpAny _ _ (compareOp _ (Value.ref _) (Value.ref _)) _ _ _)); first | (k_unfold; (try dsimp only)) | (k_end; wrow_close) | walk1 | (dsimp only; walk1) | (leave1; walk_say "STEP leave1"; try dsimp only) | fail "no step"))
  refine dict_of_rows (rs := rs) (by rfl) F4 N4 (modules_low (Top.nolimit T1)) (.head _) (fun r hr => .tail _ (List.mem_append_left _ (mem_rowsL hr))) ?_ ?_ ?_
  · have e : rs.map (·.k) = kvs.map (·.1) := by rw [← hrs]; unfold pairsR; rw [List.map_map]; rfl
    rw [e]
    exact keys_nodup hod
  · have e : rs.length = kvs.length := by rw [← hrs, pairsR_length]
    omega
  intro ka kd h5 tk5 F5 N5 lk hkm hkd
  rw [hrs] at hkd
  rename_i g' L' hx0 tk0 FG' Fo B' la oA oB dA dB No D9 hx1 l9
  clear Fo No
  have N6 : News g' L' h5 ((ka, kd) :: (L' + 1 + 1, oA) :: (L' + 1, oB) :: (pa, od) :: tab) := less N5 (by walk_at "sub")
  have lk2 : ∀ p ∈ (L' + 1 + 1, oA) :: (L' + 1, oB) :: (pa, od) :: tab, p.1 < ka := fun p hp => lk p (.tail _ (List.mem_append_right _ (.tail _ hp)))
  k_lt lk2
  clear N4 N5 F3 F4 lb lr lk N3
  (repeat' ( (fail_if_success (with_reducible show wpAny _ _ (exec (Stmt.FunctionDef _ _ _ _ _ _ _ _ _ _) _) _ _ _)); (fail_if_success (with_reducible show wpAny _ _ (call (Value.ref _) _) _ _ _)); (fail_if_success (with_reducible show wpAny _ _ (eval (Expr.Lambda _ _ _ _) _) _ _ _)); (fail_if_success (with_reducible show wpAny _ _ (makeFunction _ _ _ _ _ _ _ _ _ _ _) _ _ _)); (fail_if_success (with_reducible show wpAny _ _ (call (Value.type "list") _) _ _ _)); (fail_if_success (with_reducible show wpAny _ _ (call (Value.type "dict") _) _ _ _)); (fail_if_success (with_reducible show wpAny _ _ (call (Value.builtin "sorted") _) _ _ _)); (fail_if_success (with_reducible show wpAny _ _ (compareOp _ (Value.ref _) (Value.ref _)) _ _ _)); first | (k_unfold; (try dsimp only)) | (k_end; wrow_close) | walk1 | (dsimp only; walk1) | (leave1; walk_say "STEP leave1"; try dsimp only) | fail "no step"))
  rename Fr g' _ _ _ => F7
  rename News g' _ _ _ => N7
  rename_i sl hx2 lsl td hx3 ltd hx4 hx5 oK dK hx6 oS dS
  have N8 : News g' L' hx6 ([(sl, W.listOf #[] 0), (ka, kd), (L' + 1 + 1, oS), (L' + 1, oK), (pa, od)] ++ tab) := cb_drop N7 (fun p hp => .tail _ hp)
  have hkdd : ∃ es ep, kd.data = .dict es ep := by
    obtain ⟨es, ep, _, h1, _⟩ := id hkd
    exact ⟨es, ep, h1⟩
  have hodd : ∃ es ep, od.data = .dict es ep := by
    obtain ⟨es, ep, _, h1, _⟩ := id hod
    exact ⟨es, ep, h1⟩
  refine nestDef_K (by exact rfl) (by exact rfl) (by exact rfl) ?_
  refine nest2a (P := 70) (pre := [(sl, W.listOf #[] 0), (ka, kd), (L' + 1 + 1, oS), (L' + 1, oK), (pa, od)]) (tab := tab) F7 N8 T1 C1 (by exact rfl) htab ?_ (by exact rfl) ?_ (show Str.ofString "_law_insert_right.<locals>.write" ≠ Str.ofString "_law_insert_right.<locals>.<lambda>" from by decide)
  · refine sep_tab N8 htab.fields ?_
    obtain ⟨es, ep, hodd⟩ := hodd
    obtain ⟨es2, ep2, hkdd⟩ := hkdd
    intro q hq vs
    revert q
    refine allC (fun e => ?_) (allC (fun e => ?_) (allC (fun e => ?_) (allC (fun e => ?_) (allC (fun e => ?_) allN))))
    · cases e
    · rw [show kd.data = _ from hkdd] at e; cases e
    · rw [show oS.data = _ from dS] at e; cases e
    · rw [show oK.data = _ from dK] at e; cases e
    · rw [show od.data = _ from hodd] at e; cases e
  intro wf wc woc wvs wt wctv wdoc tab1 h11 tk11 F9 N9 htab1 hwd hwv hpre1 htab1a hsep1 hwcf
  dsimp only [List.cons_append, List.nil_append] at N9
  generalize hwo : fnMade _ _ _ _ _ _ _ _ _ _ = wo at N9
  clear F7 N7 N8
  (repeat' ( (fail_if_success (with_reducible show wpAny _ _ (exec (Stmt.FunctionDef _ _ _ _ _ _ _ _ _ _) _) _ _ _)); (fail_if_success (with_reducible show wpAny _ _ (call (Value.ref _) _) _ _ _)); (fail_if_success (with_reducible show wpAny _ _ (eval (Expr.Lambda _ _ _ _) _) _ _ _)); (fail_if_success (with_reducible show wpAny _ _ (makeFunction _ _ _ _ _ _ _ _ _ _ _) _ _ _)); (fail_if_success (with_reducible show wpAny _ _ (call (Value.type "list") _) _ _ _)); (fail_if_success (with_reducible show wpAny _ _ (call (Value.type "dict") _) _ _ _)); (fail_if_success (with_reducible show wpAny _ _ (call (Value.builtin "sorted") _) _ _ _)); (fail_if_success (with_reducible show wpAny _ _ (compareOp _ (Value.ref _) (Value.ref _)) _ _ _)); first | (k_unfold; (try dsimp only)) | (k_end; wrow_close) | walk1 | (dsimp only; walk1) | (leave1; walk_say "STEP leave1"; try dsimp only) | fail "no step"))
  rename Fr g' _ _ _ => F10
  rename News g' _ _ _ => N10
  refine kla_eval (by exact rfl) ?_
  refine nest2b (P := 70) (c0 := wc) (l1 := 57) (c1 := 4) (pre := [(wf, wo), (wc, woc), (sl, W.listOf #[] 0), (ka, kd), (L' + 1 + 1, oS), (L' + 1, oK), (pa, od)]) (tab := tab1) F10 N10 T1 C1 (by exact rfl) htab1 ?_ (by exact rfl) (by rfl) ?_
  · intro q hq y hy
    rcases List.mem_cons.mp hq with rfl | hq
    · exact Nat.ne_of_lt (htab1a y hy).1
    · rcases List.mem_cons.mp hq with rfl | hq
      · exact (htab1a y hy).2
      · exact hsep1 q hq y hy
  intro lf lc loc lvs lt lctv h12 tk12 F11 N11 hld hlv hpre2 hPlf hlclf hPlc
  dsimp only [List.cons_append, List.nil_append] at N11
  generalize hlo2 : kla_obj _ _ _ _ _ _ _ _ _ = lo at N11
  clear F10 N10
  (repeat' ( (fail_if_success (with_reducible show wpAny _ _ (exec (Stmt.FunctionDef _ _ _ _ _ _ _ _ _ _) _) _ _ _)); (fail_if_success (with_reducible show wpAny _ _ (call (Value.ref _) _) _ _ _)); (fail_if_success (with_reducible show wpAny _ _ (eval (Expr.Lambda _ _ _ _) _) _ _ _)); (fail_if_success (with_reducible show wpAny _ _ (makeFunction _ _ _ _ _ _ _ _ _ _ _) _ _ _)); (fail_if_success (with_reducible show wpAny _ _ (call (Value.type "list") _) _ _ _)); (fail_if_success (with_reducible show wpAny _ _ (call (Value.type "dict") _) _ _ _)); (fail_if_success (with_reducible show wpAny _ _ (call (Value.builtin "sorted") _) _ _ _)); (fail_if_success (with_reducible show wpAny _ _ (compareOp _ (Value.ref _) (Value.ref _)) _ _ _)); first | (k_unfold; (try dsimp only)) | (k_end; wrow_close) | walk1 | (dsimp only; walk1) | (leave1; walk_say "STEP leave1"; try dsimp only) | fail "no step"))
  have hP : @LT.lt Nat _ 70 L' := by
    have l2 := ktn_ltOf la.2
    rcases htab with rfl | ⟨_, _, _, _, _, _, _, _, rfl, _⟩
    · exact l2 _ (.head _)
    · exact l2 _ (.head _)
  have f1 : @LT.lt Nat _ sl wf ∧ @Ne Nat sl wc := hpre1 (sl, W.listOf #[] 0) (by walk_at "mem")
  have f2 : @LT.lt Nat _ ka wf ∧ @Ne Nat ka wc := hpre1 (ka, kd) (by walk_at "mem")
  have f3 : @LT.lt Nat _ wf lf ∧ @Ne Nat wf lc := hpre2 (wf, wo) (by walk_at "mem")
  have f4 : @LT.lt Nat _ sl lf ∧ @Ne Nat sl lc := hpre2 (sl, W.listOf #[] 0) (by walk_at "mem")
  have f5 : @LT.lt Nat _ ka lf ∧ @Ne Nat ka lc := hpre2 (ka, kd) (by walk_at "mem")
  have f6 : @LT.lt Nat _ ka sl ∧ @LT.lt Nat _ (L' + 1 + 1) sl := ⟨lsl.1, lsl.2.1⟩
  have f7 : @LT.lt Nat _ (L' + 1 + 1) ka := lk2.1
  have f8 : @LT.lt Nat _ pa L' := la.1
  rename Fr g' _ _ _ => F12
  rename News g' _ _ _ => N12
  have S : Store w 4 lf wf (InsI PySem.Challenge.rw_nt0625_01.row.prog w kvs sl ka [(lf, lo), (lc, loc), (wf, wo), (wc, woc)] [(L' + 1 + 1, oS), (L' + 1, oK), (pa, od), (70, tabObj #[rawInt 57, rawInt 4, .ref wc, rawInt 60, rawInt 14, .ref lc])]) := by
    refine ⟨?_, ?_, ?_, ?_, ?_⟩
    · rintro g sn own ⟨kv, us, n, kd', rfl, -⟩
      subst hlo2
      exact ⟨_, _, _, _, .head _⟩
    · rintro g sn own ⟨kv, us, n, kd', rfl, -⟩
      subst hwo
      exact ⟨_, _, _, _, .tail _ (.tail _ (.head _))⟩
    · rintro g sn own ⟨kv, us, n, kd', rfl, h1, h2, h3, -⟩ k
      rw [← h3 k]
      exact got_ok h2 k
    · rintro g sn own k t ⟨kv, us, n, kd', rfl, h1, h2, h3, h4, h5, h6⟩
      clear FG' B' hret hg F12 N12 B F X N T X1 C1 T1
      dsimp only [List.cons_append, List.nil_append]
      unfold CallC
      intro p loose mean mg mb dp un gd cn cs a ccd cl outer A₀ base h₀ L m s Q E B F X N T hk hdp hun hret
      refine wpAny_call ?_
      subst hlo2
      refine' kla_codeF B F X N T ?kA ?kF ?kK (.head _) (codeRec_news N (.tail _ (.head _)) hld hlv) ?k8 ?k9 ?kB ?_ ?c2 ?c3 ?c4 ?c5
      case kA => exact rfl
      case kF => exact rfl
      case kK => exact hk
      case k8 => ktr_room
      case k9 => exact rfl
      case kB => exact locs rfl
      case c2 => exact rfl
      case c3 => exact rfl
      case c4 => exact rfl
      case c5 => decide
      intro g1 L1 h1' hg1 FG1 F1 N1 B1 X1 T1 la1
      dsimp only
      k_fold
      k_lt la1
      have C1 := codeHd_of_K (c := 74) (P := 70) X1 (by kernel_rfl)
      (repeat' ( (fail_if_success (with_reducible show wpAny _ _ (exec (Stmt.FunctionDef _ _ _ _ _ _ _ _ _ _) _) _ _ _)); (fail_if_success (with_reducible show wpAny _ _ (call (Value.ref _) _) _ _ _)); (fail_if_success (with_reducible show wpAny _ _ (eval (Expr.Lambda _ _ _ _) _) _ _ _)); (fail_if_success (with_reducible show wpAny _ _ (makeFunction _ _ _ _ _ _ _ _ _ _ _) _ _ _)); (fail_if_success (with_reducible show wpAny _ _ (call (Value.type "list") _) _ _ _)); (fail_if_success (with_reducible show wpAny _ _ (call (Value.type "dict") _) _ _ _)); (fail_if_success (with_reducible show wpAny _ _ (call (Value.builtin "sorted") _) _ _ _)); (fail_if_success (with_reducible show wpAny _ _ (compareOp _ (Value.ref _) (Value.ref _)) _ _ _)); first | (k_unfold; (try dsimp only)) | (k_end; wrow_close) | walk1 | (dsimp only; walk1) | (leave1; walk_say "STEP leave1"; try dsimp only) | fail "no step"))
      rename Fr h₀ _ _ _ => kF
      rename News h₀ _ _ _ => kN
      rename Fr g1 _ _ _ => F2
      rename News g1 _ _ _ => N2
      exact hret _ _ _ _ kF kN ⟨h3 k, kv, us, n, kd', rfl, h1, h2, h3, h4, h5, h6⟩ (left_of hg1 F2 N2)
    · rintro g sn own k t x ⟨kv, us, n, kd', rfl, h1, h2, h3, h4, h5, h6⟩ hx hk1 hk2 hsn
      clear FG' B' hret hg F12 N12 B F X N T X1 C1 T1
      dsimp only [List.cons_append, List.nil_append]
      unfold CallC
      intro p loose mean mg mb dp un gd cn cs a ccd cl outer A₀ base h₀ L m s Q E B F X N T hk hdp hun hret
      refine wpAny_call ?_
      subst hwo
      refine' code_nestF B F X N T ?kA ?kF ?kK (.tail _ (.tail _ (.head _))) (codeRec_news N (.tail _ (.tail _ (.tail _ (.head _)))) hwd hwv) ?k8 ?k9 ?kB ?_ ?c2 ?c3 ?c4 ?c5
      case kA => exact rfl
      case kF => exact rfl
      case kK => exact hk
      case k8 => ktr_room
      case k9 => exact BindsTo.of_eq rfl
      case kB => exact locs rfl
      case c2 => exact rfl
      case c3 => exact rfl
      case c4 => exact rfl
      case c5 => decide
      intro g1 L1 h1' hg1 FG1 F1 N1 B1 X1 T1 la1
      dsimp only
      k_fold
      k_lt la1
      have C1 := codeHd_of_K (c := 74) (P := 70) X1 (by kernel_rfl)
      have hlen2 : us.length ≤ 100 := by rw [h4.length]; omega
      have hlen3 : kv.length ≤ 100 := by omega
      (repeat' ( (fail_if_success (with_reducible show wpAny _ _ (exec (Stmt.FunctionDef _ _ _ _ _ _ _ _ _ _) _) _ _ _)); (fail_if_success (with_reducible show wpAny _ _ (call (Value.ref _) _) _ _ _)); (fail_if_success (with_reducible show wpAny _ _ (eval (Expr.Lambda _ _ _ _) _) _ _ _)); (fail_if_success (with_reducible show wpAny _ _ (makeFunction _ _ _ _ _ _ _ _ _ _ _) _ _ _)); (fail_if_success (with_reducible show wpAny _ _ (call (Value.type "list") _) _ _ _)); (fail_if_success (with_reducible show wpAny _ _ (call (Value.type "dict") _) _ _ _)); (fail_if_success (with_reducible show wpAny _ _ (call (Value.builtin "sorted") _) _ _ _)); (fail_if_success (with_reducible show wpAny _ _ (compareOp _ (Value.ref _) (Value.ref _)) _ _ _)); first | (k_unfold; (try dsimp only)) | (k_end; wrow_close) | walk1 | (dsimp only; walk1) | (leave1; walk_say "STEP leave1"; try dsimp only) | fail "no step"))
      rename Fr h₀ _ _ _ => kF
      rename News h₀ _ _ _ => kN
      rename Fr g1 _ _ _ => F2
      rename News g1 _ _ _ => N2
      refine hret _ _ _ _ kF kN ⟨stored kv k x, us ++ [.int k t], n + 1, _, by simp; exact rfl, by assumption, ?_, ?_, h4.append (.cons k _ .nil), ?_, ?_⟩ (left_of hg1 F2 N2)
      · intro p hp
        rcases mem_stored hp with ⟨e1, e2⟩ | hp
        · rw [e1, e2]; exact ⟨hx, hk1, hk2⟩
        · exact h2 p hp
      · intro j
        rw [got_stored, h3]
        rfl
      · intro j
        rw [stored_keys, h5, List.mem_append, List.mem_singleton]
        constructor
        · rintro (h | h | h)
          · exact .inr (.inr h)
          · exact .inl h
          · exact .inr (.inl h)
        · rintro (h | h | h)
          · exact .inr (.inl h)
          · exact .inr (.inr h)
          · exact .inl h
      · have := @stored_length kv k x
        simp
        omega
  refine' callc_use (insert_c w 4 lf wf border pos tb ta (.int xi tx) (InsI PySem.Challenge.rw_nt0625_01.row.prog w kvs sl ka [(lf, lo), (lc, loc), (wf, wo), (wc, woc)] [(L' + 1 + 1, oS), (L' + 1, oK), (pa, od), (70, tabObj #[rawInt 57, rawInt 4, .ref wc, rawInt 60, rawInt 14, .ref lc])]) S (got kvs) _ ⟨kvs, [], 0, kd, rfl, hkd, hgood, fun k => rfl, .nil, by simp, by simp⟩ (.inr ⟨xi, tx, rfl, hx⟩) hb (by omega) hp1 (by omega)) ?B ?F ?X ?N ?T ?k ?d ?u ?_
  case B => k_asm
  case F => exact F12
  case X => k_asm
  case N => exact N12
  case T => k_asm
  case k => exact rfl
  case d => ktr_room
  case u => ktr_units
  intro r0 own1 h13 tk13 F13 N13 hp13 hl13
  clear S hl13 N12 F12
  obtain ⟨kv, us, un', kd', rfl, hkv, hgv, hgot, hsn, hkeys, hlen2⟩ := hp13
  obtain ⟨sn, hsnd⟩ : ∃ sn, sn = rangeInts (max (border + 1) pos) (-1) (max (border + 1) pos - pos).toNat ++ [pos] := ⟨_, rfl⟩
  rw [← hsnd] at hsn hkeys hlen2
  have hsnm : ∀ k, k ∈ sn ↔ (k = pos ∨ (pos ≤ k ∧ k ≤ border + 1)) := by
    intro k
    rw [hsnd, List.mem_append, List.mem_singleton]
    unfold rangeInts
    rw [List.mem_map]
    constructor
    · rintro (⟨i, hi, rfl⟩ | h)
      · rw [List.mem_range] at hi
        omega
      · exact .inl h
    · intro h
      by_cases e : k = pos
      · exact .inr e
      · refine .inl ⟨(max (border + 1) pos - k).toNat, List.mem_range.mpr (by omega), by omega⟩
  replace N13 : News g' L' h13 ([(lc, loc), (wc, woc), (sl, W.listOf (List.toArray us) un'), (ka, kd'), (L' + 1 + 1, oS), (L' + 1, oK), (pa, od), (70, tabObj #[rawInt 57, rawInt 4, .ref wc, rawInt 60, rawInt 14, .ref lc])]) := less N13 (by walk_at "sub")
  (repeat' ( (fail_if_success (with_reducible show wpAny _ _ (exec (Stmt.FunctionDef _ _ _ _ _ _ _ _ _ _) _) _ _ _)); (fail_if_success (with_reducible show wpAny _ _ (call (Value.ref _) _) _ _ _)); (fail_if_success (with_reducible show wpAny _ _ (eval (Expr.Lambda _ _ _ _) _) _ _ _)); (fail_if_success (with_reducible show wpAny _ _ (makeFunction _ _ _ _ _ _ _ _ _ _ _) _ _ _)); (fail_if_success (with_reducible show wpAny _ _ (call (Value.type "list") _) _ _ _)); (fail_if_success (with_reducible show wpAny _ _ (call (Value.type "dict") _) _ _ _)); (fail_if_success (with_reducible show wpAny _ _ (call (Value.builtin "sorted") _) _ _ _)); (fail_if_success (with_reducible show wpAny _ _ (compareOp _ (Value.ref _) (Value.ref _)) _ _ _)); first | (k_unfold; (try dsimp only)) | (k_end; wrow_close) | walk1 | (dsimp only; walk1) | (leave1; walk_say "STEP leave1"; try dsimp only) | fail "no step"))
  rename Fr g' _ _ _ => F14
  rename News g' _ _ _ => N14
  have f9 : @LT.lt Nat _ pa lf ∧ @Ne Nat pa lc := hpre2 (pa, od) (by walk_at "mem")
  have f10 : @LT.lt Nat _ pa wf ∧ @Ne Nat pa wc := hpre1 (pa, od) (by walk_at "mem")
  have f11 : @Ne Nat 70 pa := by
    rcases htab1 with ⟨rfl, _⟩ | ⟨_, _, _, _, rfl, _⟩
    · exact hsep1 (pa, od) (by walk_at "mem") _ (.head _)
    · exact hsep1 (pa, od) (by walk_at "mem") _ (.head _)
  have dis : ∀ p ∈ [(lc, loc), (wc, woc), (sl, W.listOf (List.toArray us) un'), (ka, kd'), (L' + 1 + 1, oS), (L' + 1, oK), (70, tabObj #[rawInt 57, rawInt 4, .ref wc, rawInt 60, rawInt 14, .ref lc])], p.1 ∉ [(pa, od)].map (·.1) := by
    refine disOne ?_
    have hk : @Ne Nat ka pa ∧ @Ne Nat sl pa ∧ @Ne Nat (L' + 1 + 1) pa ∧ @Ne Nat (L' + 1) pa := ⟨by omega, by omega, by omega, by omega⟩
    exact allC f9.2.symm (allC f10.2.symm (allC hk.2.1 (allC hk.1 (allC hk.2.2.1 (allC hk.2.2.2 (allC f11 allN))))))
  have N14a : News g' L' h13 [(lc, loc), (wc, woc), (sl, W.listOf (List.toArray us) un'), (ka, kd'), (L' + 1 + 1, oS), (L' + 1, oK), (70, tabObj #[rawInt 57, rawInt 4, .ref wc, rawInt 60, rawInt 14, .ref lc])] := less N14 (by walk_at "sub")
  refine' callc_use (moved_c w pa od kvs border pos tb ta (.int xi tx) hod hgood hlo hlen hkb hb (by omega) hp1 hp2) ?B ?F ?X ?N ?T ?k ?d ?u ?_
  case B => k_asm
  case F => exact F14
  case X => k_asm
  case N => exact less N14 (by walk_at "sub")
  case T => k_asm
  case k => exact rfl
  case d => ktr_room
  case u => ktr_units
  rintro r1 own2 h15 tk15 F15 N15 ⟨da, dd, kv2, rfl, rfl, hdm, hdp, hdd, hdl, hdb, hdg⟩ hl15
  obtain ⟨N15', dis2⟩ := call_news N14a hl15 N15 dis
  clear hl15 N15 N14 N14a F14
  dsimp only [List.cons_append, List.nil_append] at N15'
  have hpb : sn.length ≤ 20 := by
    rw [hsnd, List.length_append, rangeInts_length, List.length_singleton]
    omega
  (repeat' ( (fail_if_success (with_reducible show wpAny _ _ (eval (Expr.IfExp _ _ _ _) _) _ _ _)); (fail_if_success (with_reducible show wpAny _ _ (exec (Stmt.FunctionDef _ _ _ _ _ _ _ _ _ _) _) _ _ _)); (fail_if_success (with_reducible show wpAny _ _ (call (Value.ref _) _) _ _ _)); (fail_if_success (with_reducible show wpAny _ _ (eval (Expr.Lambda _ _ _ _) _) _ _ _)); (fail_if_success (with_reducible show wpAny _ _ (makeFunction _ _ _ _ _ _ _ _ _ _ _) _ _ _)); (fail_if_success (with_reducible show wpAny _ _ (call (Value.type "list") _) _ _ _)); (fail_if_success (with_reducible show wpAny _ _ (call (Value.type "dict") _) _ _ _)); (fail_if_success (with_reducible show wpAny _ _ (call (Value.builtin "sorted") _) _ _ _)); (fail_if_success (with_reducible show wpAny _ _ (compareOp _ (Value.ref _) (Value.ref _)) _ _ _)); first | (k_unfold; (try dsimp only)) | (k_end; wrow_close) | walk1 | (dsimp only; walk1) | (leave1; walk_say "STEP leave1"; try dsimp only) | fail "no step"))
  rename Fr g' _ _ _ => F16
  rename News g' _ _ _ => N16
  refine join_val F16 (fun v hh => ∃ D sv cD ns, v = .ref D ∧ News g' L' hh [(D, W.listOf (List.toArray sv) cD), (da, dd), (pa, od), (lc, loc), (wc, woc), (sl, W.listOf (List.toArray us) un'), (ka, kd'), (L' + 1 + 1, oS), (L' + 1, oK), (70, tabObj #[rawInt 57, rawInt 4, .ref wc, rawInt 60, rawInt 14, .ref lc])] ∧ IntsAre sv ns ∧ sn.Perm ns ∧ ns.Pairwise (· ≤ ·)) ?_ ?_
  · clear hret
    (repeat' ( (fail_if_success (with_reducible show wpAny _ _ (exec (Stmt.FunctionDef _ _ _ _ _ _ _ _ _ _) _) _ _ _)); (fail_if_success (with_reducible show wpAny _ _ (call (Value.ref _) _) _ _ _)); (fail_if_success (with_reducible show wpAny _ _ (eval (Expr.Lambda _ _ _ _) _) _ _ _)); (fail_if_success (with_reducible show wpAny _ _ (makeFunction _ _ _ _ _ _ _ _ _ _ _) _ _ _)); (fail_if_success (with_reducible show wpAny _ _ (call (Value.type "list") _) _ _ _)); (fail_if_success (with_reducible show wpAny _ _ (call (Value.type "dict") _) _ _ _)); (fail_if_success (with_reducible show wpAny _ _ (call (Value.builtin "sorted") _) _ _ _)); (fail_if_success (with_reducible show wpAny _ _ (compareOp _ (Value.ref _) (Value.ref _)) _ _ _)); first | (k_unfold; (try dsimp only)) | (k_end; wrow_close) | walk1 | (dsimp only; walk1) | (leave1; walk_say "STEP leave1"; try dsimp only) | fail "no step"))
    · rename Fr g' _ _ _ => F18
      rename News g' _ _ _ => N18
      refine ⟨_, _, rfl, F18, _, _, _, [pos], rfl, N18, .cons _ _ .nil, ?_, List.pairwise_singleton _ _⟩
      rw [hsnd]
      have hM : (max (border + 1) pos - pos).toNat = 0 := by omega
      rw [hM]
      exact .refl _
    rename IsRange _ _ _ _ _ _ _ _ => R5
    rename Fr g' _ _ _ => F18
    rename News g' _ _ _ => N18
    refine list_of_range (by rfl) F18 N18 R5 (small_one (by omega) (by omega) (by omega) (by omega)) (rangeSize_nat _ _) (by omega) ?_
    intro D cD h17 tk17 sv F17 N17 lD hsv
    clear F18 N18
    (repeat' ( (fail_if_success (with_reducible show wpAny _ _ (exec (Stmt.FunctionDef _ _ _ _ _ _ _ _ _ _) _) _ _ _)); (fail_if_success (with_reducible show wpAny _ _ (call (Value.ref _) _) _ _ _)); (fail_if_success (with_reducible show wpAny _ _ (eval (Expr.Lambda _ _ _ _) _) _ _ _)); (fail_if_success (with_reducible show wpAny _ _ (makeFunction _ _ _ _ _ _ _ _ _ _ _) _ _ _)); (fail_if_success (with_reducible show wpAny _ _ (call (Value.type "list") _) _ _ _)); (fail_if_success (with_reducible show wpAny _ _ (call (Value.type "dict") _) _ _ _)); (fail_if_success (with_reducible show wpAny _ _ (call (Value.builtin "sorted") _) _ _ _)); (fail_if_success (with_reducible show wpAny _ _ (compareOp _ (Value.ref _) (Value.ref _)) _ _ _)); first | (k_unfold; (try dsimp only)) | (k_end; wrow_close) | walk1 | (dsimp only; walk1) | (leave1; walk_say "STEP leave1"; try dsimp only) | fail "no step"))
    refine ⟨_, _, rfl, F17, _, _, _, rangeInts pos 1 (border + 2 - pos).toNat, rfl, less N17 (by walk_at "sub"), hsv, ?_, up_sorted _ _⟩
    rw [hsnd]
    have hM : max (border + 1) pos = border + 1 := by omega
    have := down_up (border + 1 - pos).toNat (border + 1)
    rw [hM]
    have e : border + 1 - ((border + 1 - pos).toNat : Int) = pos := by omega
    have e2 : (border + 1 - pos).toNat + 1 = (border + 2 - pos).toNat := by omega
    rw [e, e2] at this
    exact this
  clear F16 N16
  rintro v h17 tk17 F16 ⟨D, sv, cD, ns, rfl, N16, hsv, hpm, hps⟩
  dsimp only
  (repeat' ( (fail_if_success (with_reducible show wpAny _ _ (exec (Stmt.FunctionDef _ _ _ _ _ _ _ _ _ _) _) _ _ _)); (fail_if_success (with_reducible show wpAny _ _ (call (Value.ref _) _) _ _ _)); (fail_if_success (with_reducible show wpAny _ _ (eval (Expr.Lambda _ _ _ _) _) _ _ _)); (fail_if_success (with_reducible show wpAny _ _ (makeFunction _ _ _ _ _ _ _ _ _ _ _) _ _ _)); (fail_if_success (with_reducible show wpAny _ _ (call (Value.type "list") _) _ _ _)); (fail_if_success (with_reducible show wpAny _ _ (call (Value.type "dict") _) _ _ _)); (fail_if_success (with_reducible show wpAny _ _ (call (Value.builtin "sorted") _) _ _ _)); (fail_if_success (with_reducible show wpAny _ _ (compareOp _ (Value.ref _) (Value.ref _)) _ _ _)); first | (k_unfold; (try dsimp only)) | (k_end; wrow_close) | walk1 | (dsimp only; walk1) | (leave1; walk_say "STEP leave1"; try dsimp only) | fail "no step"))
  rename Fr g' _ _ _ => F18
  rename News g' _ _ _ => N17
  have nd : ∀ p ∈ [(D, W.listOf (List.toArray sv) cD), (lc, loc), (wc, woc), (sl, W.listOf (List.toArray us) un'), (L' + 1 + 1, oS), (L' + 1, oK), (70, tabObj #[rawInt 57, rawInt 4, .ref wc, rawInt 60, rawInt 14, .ref lc])], ¬ ∃ es ep, p.2.data = .dict es ep :=
    allC (noDict rfl (by intro _ _ e; cases e)) (allC (noDict hld (by intro _ _ e; cases e)) (allC (noDict hwd (by intro _ _ e; cases e)) (allC (noDict rfl (by intro _ _ e; cases e)) (allC (noDict dS (by intro _ _ e; cases e)) (allC (noDict dK (by intro _ _ e; cases e)) (allC (noDict rfl (by intro _ _ e; cases e)) allN))))))
  have dka : da ≠ ka := fun e => dis2 (ka, kd') (by walk_at "mem") (show ka ∈ [da, pa] from List.mem_cons.mpr (.inl e.symm))
  have dkp : pa ≠ ka := fun e => (show @Ne Nat ka pa by omega) e.symm
  have nka := dict_apart (l := [(D, W.listOf (List.toArray sv) cD), (lc, loc), (wc, woc), (sl, W.listOf (List.toArray us) un'), (L' + 1 + 1, oS), (L' + 1, oK), (70, tabObj #[rawInt 57, rawInt 4, .ref wc, rawInt 60, rawInt 14, .ref lc])]) N17 (a := ka) (o := kd') (by walk_at "mem") (dict_data hkv) (by walk_at "sub") nd
  have dis3 : ∀ p ∈ [(D, W.listOf (List.toArray sv) cD), (da, dd), (pa, od), (lc, loc), (wc, woc), (sl, W.listOf (List.toArray us) un'), (L' + 1 + 1, oS), (L' + 1, oK), (70, tabObj #[rawInt 57, rawInt 4, .ref wc, rawInt 60, rawInt 14, .ref lc])], p.1 ∉ [(ka, kd')].map (·.1) := disOne (allC (nka _ mem0) (allC dka (allC dkp (fun p hp => nka p (memT hp)))))
  have N18 : News g' L' _ [(D, W.listOf (List.toArray sv) cD), (da, dd), (pa, od), (lc, loc), (wc, woc), (sl, W.listOf (List.toArray us) un'), (L' + 1 + 1, oS), (L' + 1, oK), (70, tabObj #[rawInt 57, rawInt 4, .ref wc, rawInt 60, rawInt 14, .ref lc])] := less N17 (by walk_at "sub")
  have hkl : kv.length ≤ 50 := by omega
  refine' callc_use (some_c w ka kd' kv hkv hgv hkm hkl) ?B ?F ?X ?N ?T ?k ?d ?u ?_
  case B => k_asm
  case F => exact F18
  case X => k_asm
  case N => exact less N17 (by walk_at "sub")
  case T => k_asm
  case k => exact rfl
  case d => ktr_room
  case u => ktr_units
  rintro r2 own3 h19 tk19 F19 N19 ⟨ra, rc, rs, rfl, rfl, hpw1, hne1, hiff1⟩ hl19
  obtain ⟨N19', dis4⟩ := call_news N18 hl19 N19 dis3
  clear hl19 N19 N18 N17 F18 dis3
  (repeat' ( (fail_if_success (with_reducible show wpAny _ _ (exec (Stmt.FunctionDef _ _ _ _ _ _ _ _ _ _) _) _ _ _)); (fail_if_success (with_reducible show wpAny _ _ (call (Value.ref _) _) _ _ _)); (fail_if_success (with_reducible show wpAny _ _ (eval (Expr.Lambda _ _ _ _) _) _ _ _)); (fail_if_success (with_reducible show wpAny _ _ (makeFunction _ _ _ _ _ _ _ _ _ _ _) _ _ _)); (fail_if_success (with_reducible show wpAny _ _ (call (Value.type "list") _) _ _ _)); (fail_if_success (with_reducible show wpAny _ _ (call (Value.type "dict") _) _ _ _)); (fail_if_success (with_reducible show wpAny _ _ (call (Value.builtin "sorted") _) _ _ _)); (fail_if_success (with_reducible show wpAny _ _ (compareOp _ (Value.ref _) (Value.ref _)) _ _ _)); first | (k_unfold; (try dsimp only)) | (k_end; wrow_close) | walk1 | (dsimp only; walk1) | (leave1; walk_say "STEP leave1"; try dsimp only) | fail "no step"))
  rename Fr g' _ _ _ => F20
  rename News g' _ _ _ => N20
  have hvk : Vok (Value.int xi tx) := .inr ⟨xi, tx, rfl, hx⟩
  have hgd : Good kv2 := fun p hp => ⟨(hdb p hp).1.elim (fun e => e ▸ hvk) id, (hdb p hp).2.1, by have := (hdb p hp).2.2; omega⟩
  have N21 : News g' L' _ ((ra, W.listOf (rowsV rs).toArray rc) :: (rowsL rs ++ [(ka, kd')]) ++ [(D, W.listOf (List.toArray sv) cD), (pa, od), (lc, loc), (wc, woc), (sl, W.listOf (List.toArray us) un'), (L' + 1 + 1, oS), (L' + 1, oK), (70, tabObj #[rawInt 57, rawInt 4, .ref wc, rawInt 60, rawInt 14, .ref lc])]) := less N20 (by walk_at "sub")
  have hdamem : (da, dd) ∈ (ra, W.listOf (rowsV rs).toArray rc) :: (rowsL rs ++ [(ka, kd')]) ++ [(D, W.listOf (List.toArray sv) cD), (da, dd), (pa, od), (lc, loc), (wc, woc), (sl, W.listOf (List.toArray us) un'), (L' + 1 + 1, oS), (L' + 1, oK), (70, tabObj #[rawInt 57, rawInt 4, .ref wc, rawInt 60, rawInt 14, .ref lc])] := memR mem1
  have nda := dict_apart (l := [(D, W.listOf (List.toArray sv) cD), (lc, loc), (wc, woc), (sl, W.listOf (List.toArray us) un'), (L' + 1 + 1, oS), (L' + 1, oK), (70, tabObj #[rawInt 57, rawInt 4, .ref wc, rawInt 60, rawInt 14, .ref lc])]) N20 hdamem (dict_data hdd) (by walk_at "sub") nd
  have dis5 : ∀ p ∈ ((ra, W.listOf (rowsV rs).toArray rc) :: (rowsL rs ++ [(ka, kd')]) ++ [(D, W.listOf (List.toArray sv) cD), (pa, od), (lc, loc), (wc, woc), (sl, W.listOf (List.toArray us) un'), (L' + 1 + 1, oS), (L' + 1, oK), (70, tabObj #[rawInt 57, rawInt 4, .ref wc, rawInt 60, rawInt 14, .ref lc])]), p.1 ∉ [(da, dd)].map (·.1) :=
    disOne (allA (fun p hp e => dis4 (da, dd) (by walk_at "mem") (by rw [← e]; exact List.mem_map_of_mem (f := (·.1)) hp)) (allC (nda _ mem0) (allC (fun e => hdp e.symm) (fun p hp => nda p (memT hp)))))
  refine' callc_use (some_c w da dd kv2 hdd hgd hdm hdl) ?B ?F ?X ?N ?T ?k ?d ?u ?_
  case B => k_asm
  case F => exact F20
  case X => k_asm
  case N => exact less N20 (subC hdamem subN)
  case T => k_asm
  case k => exact rfl
  case d => ktr_room
  case u => ktr_units
  rintro r3 own4 h21 tk21 F21 N21a ⟨rb, rd, rs2, rfl, rfl, hpw2, hne2, hiff2⟩ hl21
  obtain ⟨N22, -⟩ := call_news N21 hl21 N21a dis5
  clear hl21 N21 N21a N20 F20 dis5 hdamem
  (repeat' ( (fail_if_success (with_reducible show wpAny _ _ (exec (Stmt.FunctionDef _ _ _ _ _ _ _ _ _ _) _) _ _ _)); (fail_if_success (with_reducible show wpAny _ _ (call (Value.ref _) _) _ _ _)); (fail_if_success (with_reducible show wpAny _ _ (eval (Expr.Lambda _ _ _ _) _) _ _ _)); (fail_if_success (with_reducible show wpAny _ _ (makeFunction _ _ _ _ _ _ _ _ _ _ _) _ _ _)); (fail_if_success (with_reducible show wpAny _ _ (call (Value.type "list") _) _ _ _)); (fail_if_success (with_reducible show wpAny _ _ (call (Value.type "dict") _) _ _ _)); (fail_if_success (with_reducible show wpAny _ _ (call (Value.builtin "sorted") _) _ _ _)); (fail_if_success (with_reducible show wpAny _ _ (compareOp _ (Value.ref _) (Value.ref _)) _ _ _)); first | (k_unfold; (try dsimp only)) | (k_end; wrow_close) | walk1 | (dsimp only; walk1) | (leave1; walk_say "STEP leave1"; try dsimp only) | fail "no step"))
  have hsame : ∀ k, got kv k = got kv2 k := by
    intro k
    rw [hgot, hdg]
    rfl
  refine rows_ne N22 (List.mem_append_right _ (List.mem_append_left _ (.head _))) (List.mem_append_left _ (.head _)) (fun p hp => List.mem_append_right _ (List.mem_append_left _ (.tail _ (List.mem_append_left _ hp)))) (fun p hp => List.mem_append_left _ (.tail _ (List.mem_append_left _ hp))) (some_vok hiff1 fun p hp => (hgv p hp).1) (some_vok hiff2 fun p hp => (hgd p hp).1) (some_same hpw1 hpw2 hiff1 hiff2 hsame) (by ktr_units) ?_
  replace N22 : News g' L' _ [(ka, kd'), (D, W.listOf (List.toArray sv) cD), (lc, loc), (wc, woc), (sl, W.listOf (List.toArray us) un'), (L' + 1 + 1, oS), (L' + 1, oK), (70, tabObj #[rawInt 57, rawInt 4, .ref wc, rawInt 60, rawInt 14, .ref lc])] := less N22 (by walk_at "sub")
  (repeat' ( (fail_if_success (with_reducible show wpAny _ _ (exec (Stmt.FunctionDef _ _ _ _ _ _ _ _ _ _) _) _ _ _)); (fail_if_success (with_reducible show wpAny _ _ (call (Value.ref _) _) _ _ _)); (fail_if_success (with_reducible show wpAny _ _ (eval (Expr.Lambda _ _ _ _) _) _ _ _)); (fail_if_success (with_reducible show wpAny _ _ (makeFunction _ _ _ _ _ _ _ _ _ _ _) _ _ _)); (fail_if_success (with_reducible show wpAny _ _ (call (Value.type "list") _) _ _ _)); (fail_if_success (with_reducible show wpAny _ _ (call (Value.type "dict") _) _ _ _)); (fail_if_success (with_reducible show wpAny _ _ (call (Value.builtin "sorted") _) _ _ _)); (fail_if_success (with_reducible show wpAny _ _ (compareOp _ (Value.ref _) (Value.ref _)) _ _ _)); first | (k_unfold; (try dsimp only)) | (k_end; wrow_close) | walk1 | (dsimp only; walk1) | (leave1; walk_say "STEP leave1"; try dsimp only) | fail "no step"))
  refine sorted_N F21 N22 ⟨_, (N22 (sl, W.listOf (List.toArray us) un') (by walk_at "mem")).1, rfl, _, rfl⟩ hsn (by rw [hsn.length]; omega) ?_
  intro h23 vs3 ns3 e3 F23 N23 hI3 hpm3 hps3
  have ens : ns3 = ns := sorted_eq hps3 hps (hpm3.trans hpm)
  subst ens
  clear F21 N22
  (repeat' ( (fail_if_success (with_reducible show wpAny _ _ (exec (Stmt.FunctionDef _ _ _ _ _ _ _ _ _ _) _) _ _ _)); (fail_if_success (with_reducible show wpAny _ _ (call (Value.ref _) _) _ _ _)); (fail_if_success (with_reducible show wpAny _ _ (eval (Expr.Lambda _ _ _ _) _) _ _ _)); (fail_if_success (with_reducible show wpAny _ _ (makeFunction _ _ _ _ _ _ _ _ _ _ _) _ _ _)); (fail_if_success (with_reducible show wpAny _ _ (call (Value.type "list") _) _ _ _)); (fail_if_success (with_reducible show wpAny _ _ (call (Value.type "dict") _) _ _ _)); (fail_if_success (with_reducible show wpAny _ _ (call (Value.builtin "sorted") _) _ _ _)); (fail_if_success (with_reducible show wpAny _ _ (compareOp _ (Value.ref _) (Value.ref _)) _ _ _)); first | (k_unfold; (try dsimp only)) | (k_end; wrow_close) | walk1 | (dsimp only; walk1) | (leave1; walk_say "STEP leave1"; try dsimp only) | fail "no step"))
  refine ints_ne N23 (.head _) rfl rfl (.tail _ (.tail _ (.head _))) rfl rfl hI3 hsv (by ktr_units) ?_
  (repeat' ( (fail_if_success (with_reducible show wpAny _ _ (exec (Stmt.FunctionDef _ _ _ _ _ _ _ _ _ _) _) _ _ _)); (fail_if_success (with_reducible show wpAny _ _ (call (Value.ref _) _) _ _ _)); (fail_if_success (with_reducible show wpAny _ _ (eval (Expr.Lambda _ _ _ _) _) _ _ _)); (fail_if_success (with_reducible show wpAny _ _ (makeFunction _ _ _ _ _ _ _ _ _ _ _) _ _ _)); (fail_if_success (with_reducible show wpAny _ _ (call (Value.type "list") _) _ _ _)); (fail_if_success (with_reducible show wpAny _ _ (call (Value.type "dict") _) _ _ _)); (fail_if_success (with_reducible show wpAny _ _ (call (Value.builtin "sorted") _) _ _ _)); (fail_if_success (with_reducible show wpAny _ _ (compareOp _ (Value.ref _) (Value.ref _)) _ _ _)); first | (k_unfold; (try dsimp only)) | (k_end; wrow_close) | walk1 | (dsimp only; walk1) | (leave1; walk_say "STEP leave1"; try dsimp only) | fail "no step"))
  rename Fr h₀ _ _ _ => kF
  rename News h₀ _ _ _ => kN
  rename Fr g' _ _ _ => F24
  rename News g' _ _ _ => N24
  refine hret _ ((ka, kd') :: [(70, tabObj #[rawInt 57, rawInt 4, .ref wc, rawInt 60, rawInt 14, .ref lc]), (wc, woc), (lc, loc)]) _ _ kF (less kN (by walk_at "sub")) ⟨ka, kd', kv, _, rfl, rfl, .inr ⟨wc, woc, wvs, wt, lc, loc, lvs, lt, rfl, hwd, hwv, hld, hlv⟩, hkm, hkv, hgv, ?_, ?_⟩ (left_of hg F24 (less N24 (by walk_at "sub")))
  · intro q hq
    rcases (hkeys q.1).mp (List.mem_map_of_mem (f := (·.1)) hq) with h | h
    · obtain ⟨q2, hq2, e⟩ := List.mem_map.mp h
      have := hkb q2 hq2
      omega
    · have := (hsnm _).mp h
      omega
  · intro k
    rw [hkeys, hsnm]
end
section
open PyProof.Rows.LCg
theorem ne_same {prog : Program} {w : World} {A : Around} {E : Value → Shared → Prop} {s : Shared} {Q : Value → Shared → Prop} {v : Value} (hv : Vok v) (h : Q (.bool false) s) : wpAny (model prog w) A (compareOp .NotEq v v) Q E s := by
  rcases hv with rfl | ⟨i, t, rfl, -⟩
  · walk1
    exact h
  · walk1
    simpa using h
theorem remove_right (w : World) (pa : Addr) (od : Obj) (kvs : List (Int × Value)) (border pos : Int) (tb ta : Tok) (tab : List (Addr × Obj)) (hod : od.IsDictOf (intKind PySem.Challenge.rw_nt0625_01.row.prog w) kvs) (hgood : Good kvs) (hlo : (pa == sysModules) = false)
    (hkb : ∀ p ∈ kvs, p.1 ≤ 17) (hbk : ∀ k : Int, 1 ≤ k → k ≤ border → k ∈ kvs.map (·.1)) (hb : 0 ≤ border) (hb2 : border ≤ 15) (hp1 : -2 ≤ pos) (hp2 : pos ≤ 17)
    (htab : Tab2 77 69 4 (Str.ofString "_law_remove_right.<locals>.write") 72 31 (Str.ofString "_law_remove_right.<locals>.<lambda>") tab) :
    CallC w 9 (.ref 82) [.ref pa, .int border tb, .int pos ta] ((pa, od) :: tab) (fun r own' => ∃ ka kd kv tab', r = .ref ka ∧ own' = (ka, kd) :: tab' ∧
      Tab2 77 69 4 (Str.ofString "_law_remove_right.<locals>.write") 72 31 (Str.ofString "_law_remove_right.<locals>.<lambda>") tab' ∧ (ka == sysModules) = false ∧ kd.IsDictOf (intKind PySem.Challenge.rw_nt0625_01.row.prog w) kv ∧ Good kv ∧ (∀ p ∈ kv, p.1 ≤ 17) ∧
      (∀ k, k ∈ kv.map (·.1) ↔ k ∈ kvs.map (·.1))) := by
  unfold CallC
  k_fill
  intro p loose mean mg mb dp un gd cn cs a ccd cl outer A₀ base h₀ L m s Q E B F X N T hk hdp hun hret
  refine wpAny_call ?_
  walk_at "my enter C"
  (try k_fold)
  rename Frag.In _ _ => X1
  have C1 := codeHd_of_K (c := 81) (P := 77) X1 (by kernel_rfl)
  rename (∀ (b : Addr) (o : Obj), _ → _ → _) => hg
  rename Top _ _ _ _ _ _ => T1
  (repeat' ( (fail_if_success (with_reducible show wpAny _ _ (exec (Stmt.FunctionDef _ _ _ _ _ _ _ _ _ _) _) _ _ _)); (fail_if_success (with_reducible show wpAny _ _ (call (Value.ref _) _) _ _ _)); (fail_if_success (with_reducible show wpAny _ _ (eval (Expr.Lambda _ _ _ _) _) _ _ _)); (fail_if_success (with_reducible show wpAny _ _ (makeFunction _ _ _ _ _ _ _ _ _ _ _) _ _ _)); (fail_if_success (with_reducible show wpAny _ _ (call (Value.type "list") _) _ _ _)); (fail_if_success (with_reducible show wpAny _ _ (call (Value.type "dict") _) _ _ _)); (fail_if_success (with_reducible show wpAny _ _ (call (Value.builtin "sorted") _) _ _ _)); (fail_if_success (with_reducible show wpAny _ _ (compareOp _ (Value.ref _) (Value.ref _)) _ _ _)); first | (k_unfold; (try dsimp only)) | (k_end; wrow_close) | walk1 | (dsimp only; walk1) | (leave1; walk_say "STEP leave1"; try dsimp only) | fail "no step"))
  rename Fr _ _ _ _ => F3
  rename News _ _ _ _ => N3
  have hlen : kvs.length ≤ 20 := by
    have := small_length (ks := kvs.map (·.1)) (fun k hk => by obtain ⟨q, hq, rfl⟩ := List.mem_map.mp hk; exact ⟨(hgood q hq).2.1, hkb q hq⟩) (keys_nodup hod)
    simpa using this
  refine items_rows (by rfl) F3 N3 (.head _) (by k_mem) hod (by omega) ?_
  intro ba bc h4 tk4 rs hrs lb lr F4 N4
  (repeat' ( (fail_if_success (with_reducible show wpAny _ _ (exec (Stmt.FunctionDef _ _ _ _ _ _ _ _ _ _) _) _ _ _)); (fail_if_success (with_reducible show wpAny _ _ (call (Value.ref _) _) _ _ _)); (fail_if_success (with_reducible show wpAny _ _ (eval (Expr.Lambda _ _ _ _) _) _ _ _)); (fail_if_success (with_reducible show wpAny _ _ (makeFunction _ _ _ _ _ _ _ _ _ _ _) _ _ _)); (fail_if_success (with_reducible show wpAny _ _ (call (Value.type "list") _) _ _ _)); (fail_if_success (with_reducible show wpAny _ _ (call (Value.type "dict") _) _ _ _)); (fail_if_success (with_reducible show wpAny _ _ (call (Value.builtin "sorted") _) _ _ _)); (fail_if_success (with_reducible show wpAny _ _ (compareOp _ (Value.ref _) (Value.ref _)) _ _ _)); first | (k_unfold; (try dsimp only)) | (k_end; wrow_close) | walk1 | (dsimp only; walk1) | (leave1; walk_say "STEP leave1"; try dsimp only) | fail "no step"))
  refine dict_of_rows (rs := rs) (by rfl) F4 N4 (modules_low (Top.nolimit T1)) (.head _) (fun r hr => .tail _ (List.mem_append_left _ (mem_rowsL hr))) ?_ ?_ ?_
  · have e : rs.map (·.k) = kvs.map (·.1) := by rw [← hrs]; unfold pairsR; rw [List.map_map]; rfl
    rw [e]
    exact keys_nodup hod
  · have e : rs.length = kvs.length := by rw [← hrs, pairsR_length]
    omega
  intro ka kd h5 tk5 F5 N5 lk hkm hkd
  rw [hrs] at hkd
  rename_i g' L' hx0 tk0 FG' Fo B' la oA oB dA dB No D9 hx1 l9
  clear Fo No
  have N6 : News g' L' h5 ((ka, kd) :: (L' + 1 + 1, oA) :: (L' + 1, oB) :: (pa, od) :: tab) := less N5 (by walk_at "sub")
  have lk2 : ∀ p ∈ (L' + 1 + 1, oA) :: (L' + 1, oB) :: (pa, od) :: tab, p.1 < ka := fun p hp => lk p (.tail _ (List.mem_append_right _ (.tail _ hp)))
  k_lt lk2
  clear N4 N5 F3 F4 lb lr lk N3
  (repeat' ( (fail_if_success (with_reducible show wpAny _ _ (exec (Stmt.FunctionDef _ _ _ _ _ _ _ _ _ _) _) _ _ _)); (fail_if_success (with_reducible show wpAny _ _ (call (Value.ref _) _) _ _ _)); (fail_if_success (with_reducible show wpAny _ _ (eval (Expr.Lambda _ _ _ _) _) _ _ _)); (fail_if_success (with_reducible show wpAny _ _ (makeFunction _ _ _ _ _ _ _ _ _ _ _) _ _ _)); (fail_if_success (with_reducible show wpAny _ _ (call (Value.type "list") _) _ _ _)); (fail_if_success (with_reducible show wpAny _ _ (call (Value.type "dict") _) _ _ _)); (fail_if_success (with_reducible show wpAny _ _ (call (Value.builtin "sorted") _) _ _ _)); (fail_if_success (with_reducible show wpAny _ _ (compareOp _ (Value.ref _) (Value.ref _)) _ _ _)); first | (k_unfold; (try dsimp only)) | (k_end; wrow_close) | walk1 | (dsimp only; walk1) | (leave1; walk_say "STEP leave1"; try dsimp only) | fail "no step"))
  rename Fr g' _ _ _ => F7
  rename News g' _ _ _ => N7
  rename_i sl hx2 lsl td hx3 ltd hx4 hx5 oK dK hx6 oS dS
  have N8 : News g' L' hx6 ([(sl, W.listOf #[] 0), (ka, kd), (L' + 1 + 1, oS), (L' + 1, oK), (pa, od)] ++ tab) := cb_drop N7 (fun p hp => .tail _ hp)
  have hkdd : ∃ es ep, kd.data = .dict es ep := by
    obtain ⟨es, ep, _, h1, _⟩ := id hkd
    exact ⟨es, ep, h1⟩
  have hodd : ∃ es ep, od.data = .dict es ep := by
    obtain ⟨es, ep, _, h1, _⟩ := id hod
    exact ⟨es, ep, h1⟩
  refine nestDef_K (by exact rfl) (by exact rfl) (by exact rfl) ?_
  refine nest2a (P := 77) (pre := [(sl, W.listOf #[] 0), (ka, kd), (L' + 1 + 1, oS), (L' + 1, oK), (pa, od)]) (tab := tab) F7 N8 T1 C1 (by exact rfl) htab ?_ (by exact rfl) ?_ (show Str.ofString "_law_remove_right.<locals>.write" ≠ Str.ofString "_law_remove_right.<locals>.<lambda>" from by decide)
  · refine sep_tab N8 htab.fields ?_
    obtain ⟨es, ep, hodd⟩ := hodd
    obtain ⟨es2, ep2, hkdd⟩ := hkdd
    intro q hq vs
    revert q
    refine allC (fun e => ?_) (allC (fun e => ?_) (allC (fun e => ?_) (allC (fun e => ?_) (allC (fun e => ?_) allN))))
    · cases e
    · rw [show kd.data = _ from hkdd] at e; cases e
    · rw [show oS.data = _ from dS] at e; cases e
    · rw [show oK.data = _ from dK] at e; cases e
    · rw [show od.data = _ from hodd] at e; cases e
  intro wf wc woc wvs wt wctv wdoc tab1 h11 tk11 F9 N9 htab1 hwd hwv hpre1 htab1a hsep1 hwcf
  dsimp only [List.cons_append, List.nil_append] at N9
  generalize hwo : fnMade _ _ _ _ _ _ _ _ _ _ = wo at N9
  clear F7 N7 N8
  (repeat' ( (fail_if_success (with_reducible show wpAny _ _ (exec (Stmt.FunctionDef _ _ _ _ _ _ _ _ _ _) _) _ _ _)); (fail_if_success (with_reducible show wpAny _ _ (call (Value.ref _) _) _ _ _)); (fail_if_success (with_reducible show wpAny _ _ (eval (Expr.Lambda _ _ _ _) _) _ _ _)); (fail_if_success (with_reducible show wpAny _ _ (makeFunction _ _ _ _ _ _ _ _ _ _ _) _ _ _)); (fail_if_success (with_reducible show wpAny _ _ (call (Value.type "list") _) _ _ _)); (fail_if_success (with_reducible show wpAny _ _ (call (Value.type "dict") _) _ _ _)); (fail_if_success (with_reducible show wpAny _ _ (call (Value.builtin "sorted") _) _ _ _)); (fail_if_success (with_reducible show wpAny _ _ (compareOp _ (Value.ref _) (Value.ref _)) _ _ _)); first | (k_unfold; (try dsimp only)) | (k_end; wrow_close) | walk1 | (dsimp only; walk1) | (leave1; walk_say "STEP leave1"; try dsimp only) | fail "no step"))
  rename Fr g' _ _ _ => F10
  rename News g' _ _ _ => N10
  refine kla_eval (by exact rfl) ?_
  refine nest2b (P := 77) (c0 := wc) (l1 := 69) (c1 := 4) (pre := [(wf, wo), (wc, woc), (sl, W.listOf #[] 0), (ka, kd), (L' + 1 + 1, oS), (L' + 1, oK), (pa, od)]) (tab := tab1) F10 N10 T1 C1 (by exact rfl) htab1 ?_ (by exact rfl) (by rfl) ?_
  · intro q hq y hy
    rcases List.mem_cons.mp hq with rfl | hq
    · exact Nat.ne_of_lt (htab1a y hy).1
    · rcases List.mem_cons.mp hq with rfl | hq
      · exact (htab1a y hy).2
      · exact hsep1 q hq y hy
  intro lf lc loc lvs lt lctv h12 tk12 F11 N11 hld hlv hpre2 hPlf hlclf hPlc
  dsimp only [List.cons_append, List.nil_append] at N11
  generalize hlo2 : kla_obj _ _ _ _ _ _ _ _ _ = lo at N11
  clear F10 N10
  (repeat' ( (fail_if_success (with_reducible show wpAny _ _ (exec (Stmt.FunctionDef _ _ _ _ _ _ _ _ _ _) _) _ _ _)); (fail_if_success (with_reducible show wpAny _ _ (call (Value.ref _) _) _ _ _)); (fail_if_success (with_reducible show wpAny _ _ (eval (Expr.Lambda _ _ _ _) _) _ _ _)); (fail_if_success (with_reducible show wpAny _ _ (makeFunction _ _ _ _ _ _ _ _ _ _ _) _ _ _)); (fail_if_success (with_reducible show wpAny _ _ (call (Value.type "list") _) _ _ _)); (fail_if_success (with_reducible show wpAny _ _ (call (Value.type "dict") _) _ _ _)); (fail_if_success (with_reducible show wpAny _ _ (call (Value.builtin "sorted") _) _ _ _)); (fail_if_success (with_reducible show wpAny _ _ (compareOp _ (Value.ref _) (Value.ref _)) _ _ _)); first | (k_unfold; (try dsimp only)) | (k_end; wrow_close) | walk1 | (dsimp only; walk1) | (leave1; walk_say "STEP leave1"; try dsimp only) | fail "no step"))
  have hP : @LT.lt Nat _ 77 L' := by
    have l2 := ktn_ltOf la.2
    rcases htab with rfl | ⟨_, _, _, _, _, _, _, _, rfl, _⟩
    · exact l2 _ (.head _)
    · exact l2 _ (.head _)
  have f1 : @LT.lt Nat _ sl wf ∧ @Ne Nat sl wc := hpre1 (sl, W.listOf #[] 0) (by walk_at "mem")
  have f2 : @LT.lt Nat _ ka wf ∧ @Ne Nat ka wc := hpre1 (ka, kd) (by walk_at "mem")
  have f3 : @LT.lt Nat _ wf lf ∧ @Ne Nat wf lc := hpre2 (wf, wo) (by walk_at "mem")
  have f4 : @LT.lt Nat _ sl lf ∧ @Ne Nat sl lc := hpre2 (sl, W.listOf #[] 0) (by walk_at "mem")
  have f5 : @LT.lt Nat _ ka lf ∧ @Ne Nat ka lc := hpre2 (ka, kd) (by walk_at "mem")
  have f6 : @LT.lt Nat _ ka sl ∧ @LT.lt Nat _ (L' + 1 + 1) sl := ⟨lsl.1, lsl.2.1⟩
  have f7 : @LT.lt Nat _ (L' + 1 + 1) ka := lk2.1
  have f8 : @LT.lt Nat _ pa L' := la.1
  rename Fr g' _ _ _ => F12
  rename News g' _ _ _ => N12
  have S : Store w 4 lf wf (InsI PySem.Challenge.rw_nt0625_01.row.prog w kvs sl ka [(lf, lo), (lc, loc), (wf, wo), (wc, woc)] [(L' + 1 + 1, oS), (L' + 1, oK), (pa, od), (77, tabObj #[rawInt 69, rawInt 4, .ref wc, rawInt 72, rawInt 31, .ref lc])]) := by
    refine ⟨?_, ?_, ?_, ?_, ?_⟩
    · rintro g sn own ⟨kv, us, n, kd', rfl, -⟩
      subst hlo2
      exact ⟨_, _, _, _, .head _⟩
    · rintro g sn own ⟨kv, us, n, kd', rfl, -⟩
      subst hwo
      exact ⟨_, _, _, _, .tail _ (.tail _ (.head _))⟩
    · rintro g sn own ⟨kv, us, n, kd', rfl, h1, h2, h3, -⟩ k
      rw [← h3 k]
      exact got_ok h2 k
    · rintro g sn own k t ⟨kv, us, n, kd', rfl, h1, h2, h3, h4, h5, h6⟩
      clear FG' B' hret hg F12 N12 B F X N T X1 C1 T1
      dsimp only [List.cons_append, List.nil_append]
      unfold CallC
      intro p loose mean mg mb dp un gd cn cs a ccd cl outer A₀ base h₀ L m s Q E B F X N T hk hdp hun hret
      refine wpAny_call ?_
      subst hlo2
      refine' kla_codeF B F X N T ?kA ?kF ?kK (.head _) (codeRec_news N (.tail _ (.head _)) hld hlv) ?k8 ?k9 ?kB ?_ ?c2 ?c3 ?c4 ?c5
      case kA => exact rfl
      case kF => exact rfl
      case kK => exact hk
      case k8 => ktr_room
      case k9 => exact rfl
      case kB => exact locs rfl
      case c2 => exact rfl
      case c3 => exact rfl
      case c4 => exact rfl
      case c5 => decide
      intro g1 L1 h1' hg1 FG1 F1 N1 B1 X1 T1 la1
      dsimp only
      k_fold
      k_lt la1
      have C1 := codeHd_of_K (c := 81) (P := 77) X1 (by kernel_rfl)
      (repeat' ( (fail_if_success (with_reducible show wpAny _ _ (exec (Stmt.FunctionDef _ _ _ _ _ _ _ _ _ _) _) _ _ _)); (fail_if_success (with_reducible show wpAny _ _ (call (Value.ref _) _) _ _ _)); (fail_if_success (with_reducible show wpAny _ _ (eval (Expr.Lambda _ _ _ _) _) _ _ _)); (fail_if_success (with_reducible show wpAny _ _ (makeFunction _ _ _ _ _ _ _ _ _ _ _) _ _ _)); (fail_if_success (with_reducible show wpAny _ _ (call (Value.type "list") _) _ _ _)); (fail_if_success (with_reducible show wpAny _ _ (call (Value.type "dict") _) _ _ _)); (fail_if_success (with_reducible show wpAny _ _ (call (Value.builtin "sorted") _) _ _ _)); (fail_if_success (with_reducible show wpAny _ _ (compareOp _ (Value.ref _) (Value.ref _)) _ _ _)); first | (k_unfold; (try dsimp only)) | (k_end; wrow_close) | walk1 | (dsimp only; walk1) | (leave1; walk_say "STEP leave1"; try dsimp only) | fail "no step"))
      rename Fr h₀ _ _ _ => kF
      rename News h₀ _ _ _ => kN
      rename Fr g1 _ _ _ => F2
      rename News g1 _ _ _ => N2
      exact hret _ _ _ _ kF kN ⟨h3 k, kv, us, n, kd', rfl, h1, h2, h3, h4, h5, h6⟩ (left_of hg1 F2 N2)
    · rintro g sn own k t x ⟨kv, us, n, kd', rfl, h1, h2, h3, h4, h5, h6⟩ hx hk1 hk2 hsn
      clear FG' B' hret hg F12 N12 B F X N T X1 C1 T1
      dsimp only [List.cons_append, List.nil_append]
      unfold CallC
      intro p loose mean mg mb dp un gd cn cs a ccd cl outer A₀ base h₀ L m s Q E B F X N T hk hdp hun hret
      refine wpAny_call ?_
      subst hwo
      refine' code_nestF B F X N T ?kA ?kF ?kK (.tail _ (.tail _ (.head _))) (codeRec_news N (.tail _ (.tail _ (.tail _ (.head _)))) hwd hwv) ?k8 ?k9 ?kB ?_ ?c2 ?c3 ?c4 ?c5
      case kA => exact rfl
      case kF => exact rfl
      case kK => exact hk
      case k8 => ktr_room
      case k9 => exact BindsTo.of_eq rfl
      case kB => exact locs rfl
      case c2 => exact rfl
      case c3 => exact rfl
      case c4 => exact rfl
      case c5 => decide
      intro g1 L1 h1' hg1 FG1 F1 N1 B1 X1 T1 la1
      dsimp only
      k_fold
      k_lt la1
      have C1 := codeHd_of_K (c := 81) (P := 77) X1 (by kernel_rfl)
      have hlen2 : us.length ≤ 100 := by rw [h4.length]; omega
      have hlen3 : kv.length ≤ 100 := by omega
      (repeat' ( (fail_if_success (with_reducible show wpAny _ _ (exec (Stmt.FunctionDef _ _ _ _ _ _ _ _ _ _) _) _ _ _)); (fail_if_success (with_reducible show wpAny _ _ (call (Value.ref _) _) _ _ _)); (fail_if_success (with_reducible show wpAny _ _ (eval (Expr.Lambda _ _ _ _) _) _ _ _)); (fail_if_success (with_reducible show wpAny _ _ (makeFunction _ _ _ _ _ _ _ _ _ _ _) _ _ _)); (fail_if_success (with_reducible show wpAny _ _ (call (Value.type "list") _) _ _ _)); (fail_if_success (with_reducible show wpAny _ _ (call (Value.type "dict") _) _ _ _)); (fail_if_success (with_reducible show wpAny _ _ (call (Value.builtin "sorted") _) _ _ _)); (fail_if_success (with_reducible show wpAny _ _ (compareOp _ (Value.ref _) (Value.ref _)) _ _ _)); first | (k_unfold; (try dsimp only)) | (k_end; wrow_close) | walk1 | (dsimp only; walk1) | (leave1; walk_say "STEP leave1"; try dsimp only) | fail "no step"))
      rename Fr h₀ _ _ _ => kF
      rename News h₀ _ _ _ => kN
      rename Fr g1 _ _ _ => F2
      rename News g1 _ _ _ => N2
      refine hret _ _ _ _ kF kN ⟨stored kv k x, us ++ [.int k t], n + 1, _, by simp; exact rfl, by assumption, ?_, ?_, h4.append (.cons k _ .nil), ?_, ?_⟩ (left_of hg1 F2 N2)
      · intro p hp
        rcases mem_stored hp with ⟨e1, e2⟩ | hp
        · rw [e1, e2]; exact ⟨hx, hk1, hk2⟩
        · exact h2 p hp
      · intro j
        rw [got_stored, h3]
        rfl
      · intro j
        rw [stored_keys, h5, List.mem_append, List.mem_singleton]
        constructor
        · rintro (h | h | h)
          · exact .inr (.inr h)
          · exact .inl h
          · exact .inr (.inl h)
        · rintro (h | h | h)
          · exact .inr (.inl h)
          · exact .inr (.inr h)
          · exact .inl h
      · have := @stored_length kv k x
        simp
        omega
  refine' callc_use (remove_c w 4 lf wf border pos tb ta (InsI PySem.Challenge.rw_nt0625_01.row.prog w kvs sl ka [(lf, lo), (lc, loc), (wf, wo), (wc, woc)] [(L' + 1 + 1, oS), (L' + 1, oK), (pa, od), (77, tabObj #[rawInt 69, rawInt 4, .ref wc, rawInt 72, rawInt 31, .ref lc])]) S (got kvs) _ ⟨kvs, [], 0, kd, rfl, hkd, hgood, fun k => rfl, .nil, by simp, by simp⟩ hb (by omega) hp1 (by omega)) ?B ?F ?X ?N ?T ?k ?d ?u ?_
  case B => k_asm
  case F => exact F12
  case X => k_asm
  case N => exact N12
  case T => k_asm
  case k => exact rfl
  case d => ktr_room
  case u => ktr_units
  intro r0 own1 h13 tk13 F13 N13 hp13 hl13
  clear S hl13 N12 F12
  obtain ⟨ra, b, v, own2, rfl, rfl, hra, hcase⟩ := hp13
  rcases hcase with ⟨hout, rfl, rfl, hI⟩ | ⟨hin1, hin2, rfl, rfl, hI⟩
  · obtain ⟨kv, us, un', kd', rfl, hkv, hgv, hgot, hsn, hkeys, hlen2⟩ := hI
    cases hsn
    replace N13 : News g' L' h13 ([(ra, ({ cls := .type "tuple", data := .seq #[.bool false, .none] } : Obj)), (lc, loc), (wc, woc), (sl, W.listOf #[] un'), (ka, kd'), (L' + 1 + 1, oS), (L' + 1, oK), (77, tabObj #[rawInt 69, rawInt 4, .ref wc, rawInt 72, rawInt 31, .ref lc])]) := less N13 (by walk_at "sub")
    (repeat' ( (fail_if_success (with_reducible show wpAny _ _ (exec (Stmt.FunctionDef _ _ _ _ _ _ _ _ _ _) _) _ _ _)); (fail_if_success (with_reducible show wpAny _ _ (call (Value.ref _) _) _ _ _)); (fail_if_success (with_reducible show wpAny _ _ (eval (Expr.Lambda _ _ _ _) _) _ _ _)); (fail_if_success (with_reducible show wpAny _ _ (makeFunction _ _ _ _ _ _ _ _ _ _ _) _ _ _)); (fail_if_success (with_reducible show wpAny _ _ (call (Value.type "list") _) _ _ _)); (fail_if_success (with_reducible show wpAny _ _ (call (Value.type "dict") _) _ _ _)); (fail_if_success (with_reducible show wpAny _ _ (call (Value.builtin "sorted") _) _ _ _)); (fail_if_success (with_reducible show wpAny _ _ (compareOp _ (Value.ref _) (Value.ref _)) _ _ _)); first | (k_unfold; (try dsimp only)) | (k_end; wrow_close) | walk1 | (dsimp only; walk1) | (leave1; walk_say "STEP leave1"; try dsimp only) | fail "no step"))
    all_goals (
      rename Fr g' _ _ _ => F14
      rename News g' _ _ _ => N14
      refine ints_eq (vs := []) (us := []) N14 (.tail _ (.tail _ (.tail _ (.tail _ (.head _))))) rfl rfl (.head _) rfl rfl .nil .nil (by ktr_units) ?_
      (repeat' ( (fail_if_success (with_reducible show wpAny _ _ (exec (Stmt.FunctionDef _ _ _ _ _ _ _ _ _ _) _) _ _ _)); (fail_if_success (with_reducible show wpAny _ _ (call (Value.ref _) _) _ _ _)); (fail_if_success (with_reducible show wpAny _ _ (eval (Expr.Lambda _ _ _ _) _) _ _ _)); (fail_if_success (with_reducible show wpAny _ _ (makeFunction _ _ _ _ _ _ _ _ _ _ _) _ _ _)); (fail_if_success (with_reducible show wpAny _ _ (call (Value.type "list") _) _ _ _)); (fail_if_success (with_reducible show wpAny _ _ (call (Value.type "dict") _) _ _ _)); (fail_if_success (with_reducible show wpAny _ _ (call (Value.builtin "sorted") _) _ _ _)); (fail_if_success (with_reducible show wpAny _ _ (compareOp _ (Value.ref _) (Value.ref _)) _ _ _)); first | (k_unfold; (try dsimp only)) | (k_end; wrow_close) | walk1 | (dsimp only; walk1) | (leave1; walk_say "STEP leave1"; try dsimp only) | fail "no step"))
      rename Fr h₀ _ _ _ => kF
      rename News h₀ _ _ _ => kN
      rename Fr g' _ _ _ => F24
      rename News g' _ _ _ => N24
      have hkeys2 : ∀ k, k ∈ kv.map (·.1) ↔ k ∈ kvs.map (·.1) := fun k => by rw [hkeys]; simp
      refine hret _ ((ka, kd') :: [(77, tabObj #[rawInt 69, rawInt 4, .ref wc, rawInt 72, rawInt 31, .ref lc]), (wc, woc), (lc, loc)]) _ _ kF (less kN (by walk_at "sub")) ⟨ka, kd', kv, _, rfl, rfl, .inr ⟨wc, woc, wvs, wt, lc, loc, lvs, lt, rfl, hwd, hwv, hld, hlv⟩, hkm, hkv, hgv, ?_, hkeys2⟩ (left_of hg F24 (less N24 (by walk_at "sub")))
      intro q hq
      obtain ⟨q2, hq2, e⟩ := List.mem_map.mp ((hkeys2 q.1).mp (List.mem_map_of_mem (f := (·.1)) hq))
      have := hkb q2 hq2
      omega)
  · obtain ⟨kv, us, un', kd', rfl, hkv, hgv, hgot, hsn, hkeys, hlen2⟩ := hI
    obtain ⟨sn, hsnd⟩ : ∃ sn, sn = rangeInts pos 1 (border + 1 - pos).toNat := ⟨_, rfl⟩
    rw [← hsnd] at hsn hkeys hlen2
    replace N13 : News g' L' h13 ([(ra, ({ cls := .type "tuple", data := .seq #[.bool true, got kvs pos] } : Obj)), (lc, loc), (wc, woc), (sl, W.listOf (List.toArray us) un'), (ka, kd'), (L' + 1 + 1, oS), (L' + 1, oK), (pa, od), (77, tabObj #[rawInt 69, rawInt 4, .ref wc, rawInt 72, rawInt 31, .ref lc])]) := less N13 (by walk_at "sub")
    (repeat' ( (fail_if_success (with_reducible show wpAny _ _ (exec (Stmt.FunctionDef _ _ _ _ _ _ _ _ _ _) _) _ _ _)); (fail_if_success (with_reducible show wpAny _ _ (call (Value.ref _) _) _ _ _)); (fail_if_success (with_reducible show wpAny _ _ (eval (Expr.Lambda _ _ _ _) _) _ _ _)); (fail_if_success (with_reducible show wpAny _ _ (makeFunction _ _ _ _ _ _ _ _ _ _ _) _ _ _)); (fail_if_success (with_reducible show wpAny _ _ (call (Value.type "list") _) _ _ _)); (fail_if_success (with_reducible show wpAny _ _ (call (Value.type "dict") _) _ _ _)); (fail_if_success (with_reducible show wpAny _ _ (call (Value.builtin "sorted") _) _ _ _)); (fail_if_success (with_reducible show wpAny _ _ (compareOp _ (Value.ref _) (Value.ref _)) _ _ _)); first | (k_unfold; (try dsimp only)) | (k_end; wrow_close) | walk1 | (dsimp only; walk1) | (leave1; walk_say "STEP leave1"; try dsimp only) | fail "no step"))
    refine ne_same (got_ok hgood pos) ?_
    (repeat' ( (fail_if_success (with_reducible show wpAny _ _ (exec (Stmt.FunctionDef _ _ _ _ _ _ _ _ _ _) _) _ _ _)); (fail_if_success (with_reducible show wpAny _ _ (call (Value.ref _) _) _ _ _)); (fail_if_success (with_reducible show wpAny _ _ (eval (Expr.Lambda _ _ _ _) _) _ _ _)); (fail_if_success (with_reducible show wpAny _ _ (makeFunction _ _ _ _ _ _ _ _ _ _ _) _ _ _)); (fail_if_success (with_reducible show wpAny _ _ (call (Value.type "list") _) _ _ _)); (fail_if_success (with_reducible show wpAny _ _ (call (Value.type "dict") _) _ _ _)); (fail_if_success (with_reducible show wpAny _ _ (call (Value.builtin "sorted") _) _ _ _)); (fail_if_success (with_reducible show wpAny _ _ (compareOp _ (Value.ref _) (Value.ref _)) _ _ _)); first | (k_unfold; (try dsimp only)) | (k_end; wrow_close) | walk1 | (dsimp only; walk1) | (leave1; walk_say "STEP leave1"; try dsimp only) | fail "no step"))
    rename Fr g' _ _ _ => F14
    rename News g' _ _ _ => N14
    have hrl : sn.length ≤ 20 := by
      rw [hsnd]
      rw [rangeInts_length]
      omega
    refine sorted_N F14 N14 ⟨_, (N14 (sl, W.listOf (List.toArray us) un') (by walk_at "mem")).1, rfl, _, rfl⟩ hsn (by rw [hsn.length]; omega) ?_
    intro h15 vs3 ns3 e3 F15 N15 hI3 hpm3 hps3
    have ens : ns3 = sn := sorted_eq hps3 (hsnd ▸ up_sorted _ _) hpm3
    subst ens
    clear F14 N14
    (repeat' ( (fail_if_success (with_reducible show wpAny _ _ (exec (Stmt.FunctionDef _ _ _ _ _ _ _ _ _ _) _) _ _ _)); (fail_if_success (with_reducible show wpAny _ _ (call (Value.ref _) _) _ _ _)); (fail_if_success (with_reducible show wpAny _ _ (eval (Expr.Lambda _ _ _ _) _) _ _ _)); (fail_if_success (with_reducible show wpAny _ _ (makeFunction _ _ _ _ _ _ _ _ _ _ _) _ _ _)); (fail_if_success (with_reducible show wpAny _ _ (call (Value.type "list") _) _ _ _)); (fail_if_success (with_reducible show wpAny _ _ (call (Value.type "dict") _) _ _ _)); (fail_if_success (with_reducible show wpAny _ _ (call (Value.builtin "sorted") _) _ _ _)); (fail_if_success (with_reducible show wpAny _ _ (compareOp _ (Value.ref _) (Value.ref _)) _ _ _)); first | (k_unfold; (try dsimp only)) | (k_end; wrow_close) | walk1 | (dsimp only; walk1) | (leave1; walk_say "STEP leave1"; try dsimp only) | fail "no step"))
    rename IsRange _ _ _ _ _ _ _ _ => R5
    rename Fr g' _ _ _ => F16
    rename News g' _ _ _ => N16
    refine list_of_range (by rfl) F16 N16 R5 (small_one (by omega) (by omega) (by omega) (by omega)) (rangeSize_nat _ _) (by omega) ?_
    intro D cD h17 tk17 sv F17 N17 lD hsv
    clear F16 N16
    (repeat' ( (fail_if_success (with_reducible show wpAny _ _ (exec (Stmt.FunctionDef _ _ _ _ _ _ _ _ _ _) _) _ _ _)); (fail_if_success (with_reducible show wpAny _ _ (call (Value.ref _) _) _ _ _)); (fail_if_success (with_reducible show wpAny _ _ (eval (Expr.Lambda _ _ _ _) _) _ _ _)); (fail_if_success (with_reducible show wpAny _ _ (makeFunction _ _ _ _ _ _ _ _ _ _ _) _ _ _)); (fail_if_success (with_reducible show wpAny _ _ (call (Value.type "list") _) _ _ _)); (fail_if_success (with_reducible show wpAny _ _ (call (Value.type "dict") _) _ _ _)); (fail_if_success (with_reducible show wpAny _ _ (call (Value.builtin "sorted") _) _ _ _)); (fail_if_success (with_reducible show wpAny _ _ (compareOp _ (Value.ref _) (Value.ref _)) _ _ _)); first | (k_unfold; (try dsimp only)) | (k_end; wrow_close) | walk1 | (dsimp only; walk1) | (leave1; walk_say "STEP leave1"; try dsimp only) | fail "no step"))
    rw [← hsnd] at hsv
    refine ints_ne N17 (.tail _ (.head _)) rfl rfl (.head _) rfl rfl hI3 hsv (by ktr_units) ?_
    replace N17 : News g' L' _ ((ka, kd') :: [(pa, od), (lc, loc), (wc, woc), (L' + 1 + 1, oS), (L' + 1, oK), (77, tabObj #[rawInt 69, rawInt 4, .ref wc, rawInt 72, rawInt 31, .ref lc])]) := less N17 (by walk_at "sub")
    (repeat' ( (fail_if_success (with_reducible show wpAny _ _ (exec (Stmt.FunctionDef _ _ _ _ _ _ _ _ _ _) _) _ _ _)); (fail_if_success (with_reducible show wpAny _ _ (call (Value.ref _) _) _ _ _)); (fail_if_success (with_reducible show wpAny _ _ (eval (Expr.Lambda _ _ _ _) _) _ _ _)); (fail_if_success (with_reducible show wpAny _ _ (makeFunction _ _ _ _ _ _ _ _ _ _ _) _ _ _)); (fail_if_success (with_reducible show wpAny _ _ (call (Value.type "list") _) _ _ _)); (fail_if_success (with_reducible show wpAny _ _ (call (Value.type "dict") _) _ _ _)); (fail_if_success (with_reducible show wpAny _ _ (call (Value.builtin "sorted") _) _ _ _)); (fail_if_success (with_reducible show wpAny _ _ (compareOp _ (Value.ref _) (Value.ref _)) _ _ _)); first | (k_unfold; (try dsimp only)) | (k_end; wrow_close) | walk1 | (dsimp only; walk1) | (leave1; walk_say "STEP leave1"; try dsimp only) | fail "no step"))
    rename Fr g' _ _ _ => F18
    rename News g' _ _ _ => N18
    have nd : ∀ p ∈ [(lc, loc), (wc, woc), (L' + 1 + 1, oS), (L' + 1, oK), (77, tabObj #[rawInt 69, rawInt 4, .ref wc, rawInt 72, rawInt 31, .ref lc])], ¬ ∃ es ep, p.2.data = .dict es ep := 
      allC (noDict hld (by intro _ _ e; cases e)) (allC (noDict hwd (by intro _ _ e; cases e)) (allC (noDict dS (by intro _ _ e; cases e)) (allC (noDict dK (by intro _ _ e; cases e)) (allC (noDict rfl (by intro _ _ e; cases e)) allN))))
    have dkp : pa ≠ ka := by
      intro e
      have e9 : @Eq Nat _ _ := e
      omega
    have hkl : kv.length ≤ 50 := by omega
    have dis3 : ∀ p ∈ [(pa, od), (lc, loc), (wc, woc), (L' + 1 + 1, oS), (L' + 1, oK), (77, tabObj #[rawInt 69, rawInt 4, .ref wc, rawInt 72, rawInt 31, .ref lc])], p.1 ∉ [(ka, kd')].map (·.1) := by
      intro p hp hq
      have hq' : p.1 = ka := by simpa using hq
      rcases List.mem_cons.mp hp with h | h
      · rw [h] at hq'; exact dkp hq'
      · exact dict_sep N18 (a := ka) (o := kd') (.head _) (dict_data hkv) (p := p) (.tail _ hp) (nd p h) hq'
    refine' callc_use (some_c w ka kd' kv hkv hgv hkm hkl) ?B ?F ?X ?N ?T ?k ?d ?u ?_
    case B => k_asm
    case F => exact F18
    case X => k_asm
    case N => exact less N18 (subC mem0 subN)
    case T => k_asm
    case k => exact rfl
    case d => ktr_room
    case u => ktr_units
    rintro r2 own3 h19 tk19 F19 N19 ⟨ra1, rc, rs, rfl, rfl, hpw1, hne1, hiff1⟩ hl19
    obtain ⟨N19', dis4⟩ := call_news (fun p hp => N18 p (.tail _ hp)) hl19 N19 dis3
    (try clear hl19)
    (try clear N19)
    (try clear N18)
    (try clear N17)
    (try clear F18)
    (try clear F17)
    (try clear dis3)
    (repeat' ( (fail_if_success (with_reducible show wpAny _ _ (exec (Stmt.FunctionDef _ _ _ _ _ _ _ _ _ _) _) _ _ _)); (fail_if_success (with_reducible show wpAny _ _ (call (Value.ref _) _) _ _ _)); (fail_if_success (with_reducible show wpAny _ _ (eval (Expr.Lambda _ _ _ _) _) _ _ _)); (fail_if_success (with_reducible show wpAny _ _ (makeFunction _ _ _ _ _ _ _ _ _ _ _) _ _ _)); (fail_if_success (with_reducible show wpAny _ _ (call (Value.type "list") _) _ _ _)); (fail_if_success (with_reducible show wpAny _ _ (call (Value.type "dict") _) _ _ _)); (fail_if_success (with_reducible show wpAny _ _ (call (Value.builtin "sorted") _) _ _ _)); (fail_if_success (with_reducible show wpAny _ _ (compareOp _ (Value.ref _) (Value.ref _)) _ _ _)); first | (k_unfold; (try dsimp only)) | (k_end; wrow_close) | walk1 | (dsimp only; walk1) | (leave1; walk_say "STEP leave1"; try dsimp only) | fail "no step"))
    rename Fr g' _ _ _ => F20
    rename News g' _ _ _ => N20
    have N21 : News g' L' _ ((ra1, W.listOf (rowsV rs).toArray rc) :: (rowsL rs ++ [(ka, kd')]) ++ [(lc, loc), (wc, woc), (L' + 1 + 1, oS), (L' + 1, oK), (77, tabObj #[rawInt 69, rawInt 4, .ref wc, rawInt 72, rawInt 31, .ref lc])]) := fun p hp => N20 p (by
      rcases List.mem_append.mp hp with hp | hp
      · exact List.mem_append_left _ hp
      · exact List.mem_append_right _ (.tail _ hp))
    have hpm : (pa, od) ∈ (ra1, W.listOf (rowsV rs).toArray rc) :: (rowsL rs ++ [(ka, kd')]) ++ [(pa, od), (lc, loc), (wc, woc), (L' + 1 + 1, oS), (L' + 1, oK), (77, tabObj #[rawInt 69, rawInt 4, .ref wc, rawInt 72, rawInt 31, .ref lc])] := List.mem_append_right _ (.head _)
    have dis5 : ∀ p ∈ ((ra1, W.listOf (rowsV rs).toArray rc) :: (rowsL rs ++ [(ka, kd')]) ++ [(lc, loc), (wc, woc), (L' + 1 + 1, oS), (L' + 1, oK), (77, tabObj #[rawInt 69, rawInt 4, .ref wc, rawInt 72, rawInt 31, .ref lc])]), p.1 ∉ [(pa, od)].map (·.1) := by
      intro p hp hq
      have hq' : p.1 = pa := by simpa using hq
      rcases List.mem_append.mp hp with hp | hp
      · exact dis4 (pa, od) (.head _) (by rw [← hq']; exact List.mem_map_of_mem (f := (·.1)) hp)
      · exact dict_sep N20 (a := pa) (o := od) hpm (dict_data hod) (p := p) (List.mem_append_right _ (.tail _ hp)) (nd p hp) hq'
    refine' callc_use (less_c w pa od kvs border pos tb ta hod hgood hlo (by omega) hb (by omega)) ?B ?F ?X ?N ?T ?k ?d ?u ?_
    case B => k_asm
    case F => exact F20
    case X => k_asm
    case N => exact less N20 (subC hpm subN)
    case T => k_asm
    case k => exact rfl
    case d => ktr_room
    case u => ktr_units
    rintro r3 own4 h21 tk21 F21 N21a ⟨da, dd, rfl, rfl, hdm, hdp2, hdd⟩ hl21
    obtain ⟨N22, dis6⟩ := call_news N21 hl21 N21a dis5
    (try clear hl21)
    (try clear N21)
    (try clear N21a)
    (try clear N20)
    (try clear F20)
    (try clear F19)
    (try clear dis5)
    (try clear hpm)
    (repeat' ( (fail_if_success (with_reducible show wpAny _ _ (exec (Stmt.FunctionDef _ _ _ _ _ _ _ _ _ _) _) _ _ _)); (fail_if_success (with_reducible show wpAny _ _ (call (Value.ref _) _) _ _ _)); (fail_if_success (with_reducible show wpAny _ _ (eval (Expr.Lambda _ _ _ _) _) _ _ _)); (fail_if_success (with_reducible show wpAny _ _ (makeFunction _ _ _ _ _ _ _ _ _ _ _) _ _ _)); (fail_if_success (with_reducible show wpAny _ _ (call (Value.type "list") _) _ _ _)); (fail_if_success (with_reducible show wpAny _ _ (call (Value.type "dict") _) _ _ _)); (fail_if_success (with_reducible show wpAny _ _ (call (Value.builtin "sorted") _) _ _ _)); (fail_if_success (with_reducible show wpAny _ _ (compareOp _ (Value.ref _) (Value.ref _)) _ _ _)); first | (k_unfold; (try dsimp only)) | (k_end; wrow_close) | walk1 | (dsimp only; walk1) | (leave1; walk_say "STEP leave1"; try dsimp only) | fail "no step"))
    rename Fr g' _ _ _ => F23
    rename News g' _ _ _ => N23
    obtain ⟨kv2, hkv2⟩ : ∃ kv2, kv2 = stored ((kvs.map (·.1)).map fun k => (k, lessV kvs border pos k)) border .none := ⟨_, rfl⟩
    rw [← hkv2] at hdd
    have hgd : Good kv2 := by
      intro p hp
      rw [hkv2] at hp
      rcases mem_stored hp with ⟨e1, e2⟩ | hp
      · rw [e1, e2]; exact ⟨.inl rfl, by omega, by omega⟩
      · obtain ⟨k, hk, rfl⟩ := List.mem_map.mp hp
        obtain ⟨q, hq, rfl⟩ := List.mem_map.mp hk
        refine ⟨?_, (hgood q hq).2⟩
        unfold lessV
        split <;> exact got_ok hgood _
    have hdl : kv2.length ≤ 50 := by
      have := @stored_length ((kvs.map (·.1)).map fun k => (k, lessV kvs border pos k)) border .none
      rw [← hkv2] at this
      simp at this
      omega
    refine' callc_use (some_c w da dd kv2 hdd hgd hdm hdl) ?B ?F ?X ?N ?T ?k ?d ?u ?_
    case B => k_asm
    case F => exact F23
    case X => k_asm
    case N => exact less N23 (subC mem0 subN)
    case T => k_asm
    case k => exact rfl
    case d => ktr_room
    case u => ktr_units
    rintro r4 own5 h24 tk24 F24 N24a ⟨rb, rd, rs2, rfl, rfl, hpw2, hne2, hiff2⟩ hl24
    obtain ⟨N25, -⟩ := call_news (rest := ((ra1, W.listOf (rowsV rs).toArray rc) :: (rowsL rs ++ [(ka, kd')]) ++ [(lc, loc), (wc, woc), (L' + 1 + 1, oS), (L' + 1, oK), (77, tabObj #[rawInt 69, rawInt 4, .ref wc, rawInt 72, rawInt 31, .ref lc])])) (fun p hp => N23 p (.tail _ (.tail _ hp))) hl24 N24a (fun p hp hq => dis6 p hp (by
      have hq' : p.1 = da := by simpa using hq
      simp [hq']))
    (try clear hl24)
    (try clear N24a)
    (try clear N23)
    (try clear F23)
    (try clear dis6)
    (repeat' ( (fail_if_success (with_reducible show wpAny _ _ (exec (Stmt.FunctionDef _ _ _ _ _ _ _ _ _ _) _) _ _ _)); (fail_if_success (with_reducible show wpAny _ _ (call (Value.ref _) _) _ _ _)); (fail_if_success (with_reducible show wpAny _ _ (eval (Expr.Lambda _ _ _ _) _) _ _ _)); (fail_if_success (with_reducible show wpAny _ _ (makeFunction _ _ _ _ _ _ _ _ _ _ _) _ _ _)); (fail_if_success (with_reducible show wpAny _ _ (call (Value.type "list") _) _ _ _)); (fail_if_success (with_reducible show wpAny _ _ (call (Value.type "dict") _) _ _ _)); (fail_if_success (with_reducible show wpAny _ _ (call (Value.builtin "sorted") _) _ _ _)); (fail_if_success (with_reducible show wpAny _ _ (compareOp _ (Value.ref _) (Value.ref _)) _ _ _)); first | (k_unfold; (try dsimp only)) | (k_end; wrow_close) | walk1 | (dsimp only; walk1) | (leave1; walk_say "STEP leave1"; try dsimp only) | fail "no step"))
    have hsame : ∀ k, got kv k = got kv2 k := by
      intro k
      rw [hgot, hkv2, got_stored, got_map]
      unfold remF lessV
      by_cases e1 : k = border
      · rw [if_pos e1, if_pos e1]
      · rw [if_neg e1, if_neg e1]
        by_cases e2 : k ∈ kvs.map (·.1)
        · rw [if_pos e2]
        · rw [if_neg e2]
          have : ¬ (pos ≤ k ∧ k < border) := fun h => e2 (hbk k (by omega) (by omega))
          rw [if_neg this, got_none e2]
    refine rows_eq N25 (List.mem_append_right _ (List.mem_append_left _ (.head _))) (List.mem_append_left _ (.head _)) (fun p hp => List.mem_append_right _ (List.mem_append_left _ (.tail _ (List.mem_append_left _ hp)))) (fun p hp => List.mem_append_left _ (.tail _ (List.mem_append_left _ hp))) (some_vok hiff1 fun p hp => (hgv p hp).1) (some_vok hiff2 fun p hp => (hgd p hp).1) (some_same hpw1 hpw2 hiff1 hiff2 hsame) (by ktr_units) ?_
    replace N25 : News g' L' _ ((ka, kd') :: [(lc, loc), (wc, woc), (L' + 1 + 1, oS), (L' + 1, oK), (77, tabObj #[rawInt 69, rawInt 4, .ref wc, rawInt 72, rawInt 31, .ref lc])]) := fun p hp => N25 p (by
      rcases List.mem_cons.mp hp with rfl | hp
      · exact List.mem_append_right _ (List.mem_append_left _ (.tail _ (List.mem_append_right _ (.head _))))
      · exact List.mem_append_right _ (List.mem_append_right _ hp))
    (repeat' ( (fail_if_success (with_reducible show wpAny _ _ (exec (Stmt.FunctionDef _ _ _ _ _ _ _ _ _ _) _) _ _ _)); (fail_if_success (with_reducible show wpAny _ _ (call (Value.ref _) _) _ _ _)); (fail_if_success (with_reducible show wpAny _ _ (eval (Expr.Lambda _ _ _ _) _) _ _ _)); (fail_if_success (with_reducible show wpAny _ _ (makeFunction _ _ _ _ _ _ _ _ _ _ _) _ _ _)); (fail_if_success (with_reducible show wpAny _ _ (call (Value.type "list") _) _ _ _)); (fail_if_success (with_reducible show wpAny _ _ (call (Value.type "dict") _) _ _ _)); (fail_if_success (with_reducible show wpAny _ _ (call (Value.builtin "sorted") _) _ _ _)); (fail_if_success (with_reducible show wpAny _ _ (compareOp _ (Value.ref _) (Value.ref _)) _ _ _)); first | (k_unfold; (try dsimp only)) | (k_end; wrow_close) | walk1 | (dsimp only; walk1) | (leave1; walk_say "STEP leave1"; try dsimp only) | fail "no step"))
    rename Fr h₀ _ _ _ => kF
    rename News h₀ _ _ _ => kN
    have hkeys2 : ∀ k, k ∈ kv.map (·.1) ↔ k ∈ kvs.map (·.1) := fun k => by
      rw [hkeys, hsnd]
      constructor
      · rintro (h | h)
        · exact h
        · unfold rangeInts at h
          obtain ⟨i, hi, rfl⟩ := List.mem_map.mp h
          rw [List.mem_range] at hi
          exact hbk _ (by omega) (by omega)
      · exact .inl
    refine hret _ ((ka, kd') :: [(77, tabObj #[rawInt 69, rawInt 4, .ref wc, rawInt 72, rawInt 31, .ref lc]), (wc, woc), (lc, loc)]) _ _ kF (less kN (by walk_at "sub")) ⟨ka, kd', kv, _, rfl, rfl, .inr ⟨wc, woc, wvs, wt, lc, loc, lvs, lt, rfl, hwd, hwv, hld, hlv⟩, hkm, hkv, hgv, ?_, hkeys2⟩ (left_of hg F24 (less N25 (by walk_at "sub")))
    intro q hq
    obtain ⟨q2, hq2, e⟩ := List.mem_map.mp ((hkeys2 q.1).mp (List.mem_map_of_mem (f := (·.1)) hq))
    have := hkb q2 hq2
    omega
end
end
end
section
open PyProof.Rows.LCg
local macro_rules | `(tactic| walk_at "execs cons") => `(tactic| ((with_reducible show wpAny _ _ (execs (Stmt.For _ _ _ _ _ :: _) _) _ _ _); (with_reducible refine wpAny_execs_cons ?_); try dsimp only))
local macro_rules | `(tactic| walk_at "subscriptTail") => `(tactic| (k_here; (with_reducible show wpAny _ _ (subscriptTail (PySem.Expr.BinOp _ _ _ _) _ _ _) _ _ _); k_dflt (refine kba_turn (value' := PySem.Expr.Name (PySem.Str.ofString "_") ⟨0, 0, 0, 0⟩) (fun _ => rfl) ?_)))
local macro_rules | `(tactic| walk_at "eval Name") => `(tactic| ((with_reducible show wpAny _ _ (eval (Expr.Name _ _) (compEnvC _ _ _ _)) _ _ _); (refine' LCgL.ld_own ?N ?m ?C ?x ?_; (case C => assumption); (case x => assumption); (case N => assumption); (case m => first | exact .tail _ (.head _) | exact .tail _ (.tail _ (.head _)) | exact .tail _ (.tail _ (.tail _ (.head _))) | exact .tail _ (.tail _ (.tail _ (.tail _ (.head _)))))) ))
local macro_rules | `(tactic| walk_at "setItem ref int") => `(tactic| (k_dflt (refine' kda_set (knd := PySem.intKind _ _) ?F ?N ?U ?d (intKind_is _ _ _ _) ?z ?_; (case F => k_asm); (case N => k_asm); (case U => k_updF); (case d => assumption); (case z => rw [sizeLine_eq]; first | omega | exact Nat.le_trans stored_length (by omega))); intro h' o' F' N' hd'; (try dsimp only at N')))
local macro_rules | `(tactic| walk_at "setItem ref int") => `(tactic| (k_dflt (refine' kda_set (knd := PySem.intKind _ _) ?F ?N ?U ?d (intKind_is _ _ _ _) ?z ?_; (case F => k_asm); (case N => k_asm); (case U => k_updF); (case d => assumption); (case z => rw [sizeLine_eq]; first | omega | exact Nat.le_trans stored_length (by omega))); intro h' o' F' N' hd'; (try dsimp only at N')))
local macro_rules | `(tactic| walk_at "exec If") => `(tactic| (with_reducible refine wpAny_If ?_))
theorem list_at {prog : Program} {w : World} {A : Around} {E : Value → Shared → Prop} {s : Shared} {h₀ : Heap} {L : Addr} {news : List (Addr × Obj)} {value slice : PySem.Expr} {l : Addr} {items : Array Value} {n : Nat} {k : Int} {u : Tok} {x : Value} {Q : Value → Shared → Prop} (N : News h₀ L s.heap news) (hm : (l, W.listOf items n) ∈ news)
    (h0 : 0 ≤ k) (hfit : k < 2 ^ 63) (hx : items[k.toNat]? = some x) (h : Q x s)
    (hs : subscripted slice false (.ref l) (.int k u) = operate [.ref l, .int k u] (getItem (.ref l) (.int k u)) := by with_unfolding_all rfl) :
    wpAny (model prog w) A (subscriptTail value slice (.ref l) (.int k u)) Q E s := by
  have hl : s.heap.IsList l items := ⟨_, (N _ hm).1, rfl, n, rfl⟩
  exact tail_any hl.typeIs slot_list_getitem.lookup (wpAny_getItem_list hl h0 hfit hx h) hs
set_option maxHeartbeats 40000000 in
theorem walked : PySem.Challenge.rw_nt0625_01.Holds := hd (by
  k_go0
  all_goals (try k_fold)
  (repeat' ( (fail_if_success (with_reducible show wpAny _ _ (exec (Stmt.Assign _ (Expr.ListComp _ _ _ _) _) _) _ _ _)); (fail_if_success (with_reducible show wpAny _ _ (eval (Expr.ListComp _ _ _ _) _) _ _ _)); (fail_if_success (with_reducible show wpAny _ _ (exec (Stmt.For _ _ _ _ _) _) _ _ _)); (fail_if_success (with_reducible show wpAny _ _ (call (Value.ref _) _) _ _ _)); (fail_if_success (with_reducible show wpAny _ _ (call (Value.type "dict") _) _ _ _)); (fail_if_success (with_reducible show wpAny _ _ (call (Value.builtin "len") _) _ _ _)); (fail_if_success (with_reducible show wpAny _ _ (call (Value.type "enumerate") _) _ _ _)); (fail_if_success (with_reducible show LCg.CompSrc _ _ _ _ _ _ _ _ _ _ _ _ _ _)); (fail_if_success (with_reducible show EEnd _ _ _ _ _ _ _ _ _ _ _ _ _ _ _ _ _)); (fail_if_success (with_reducible show LCg.CompEnd _ _ _ _ _ _ _ _ _ _ _ _ _ _)); first | (k_unfold; (try dsimp only)) | (k_end; wrow_close) | walk1 | (dsimp only; walk1) | (leave1; walk_say "STEP leave1"; try dsimp only) | fail "no step"))
  refine LCg.Assign_ListComp_U (F₀ := by k_asm) (by rfl) (by with_unfolding_all rfl) (by rfl) (by decide) (by rfl) (by decide) (by rfl) (by rfl) (by rfl) ?_
  (repeat' ( (fail_if_success (with_reducible show wpAny _ _ (exec (Stmt.Assign _ (Expr.ListComp _ _ _ _) _) _) _ _ _)); (fail_if_success (with_reducible show wpAny _ _ (eval (Expr.ListComp _ _ _ _) _) _ _ _)); (fail_if_success (with_reducible show wpAny _ _ (exec (Stmt.For _ _ _ _ _) _) _ _ _)); (fail_if_success (with_reducible show wpAny _ _ (call (Value.ref _) _) _ _ _)); (fail_if_success (with_reducible show wpAny _ _ (call (Value.type "dict") _) _ _ _)); (fail_if_success (with_reducible show wpAny _ _ (call (Value.builtin "len") _) _ _ _)); (fail_if_success (with_reducible show wpAny _ _ (call (Value.type "enumerate") _) _ _ _)); (fail_if_success (with_reducible show LCg.CompSrc _ _ _ _ _ _ _ _ _ _ _ _ _ _)); (fail_if_success (with_reducible show EEnd _ _ _ _ _ _ _ _ _ _ _ _ _ _ _ _ _)); (fail_if_success (with_reducible show LCg.CompEnd _ _ _ _ _ _ _ _ _ _ _ _ _ _)); first | (k_unfold; (try dsimp only)) | (k_end; wrow_close) | walk1 | (dsimp only; walk1) | (leave1; walk_say "STEP leave1"; try dsimp only) | fail "no step"))
  rename Fr _ _ _ _ => F1
  rename News _ _ _ _ => N1
  rename IntsAre _ (List.take 24 _) => hI1
  rename List Int => script
  rename Top _ _ _ _ _ _ => T1
  rename Below _ _ _ _ => B1
  rename Frag.In _ _ => X1
  rename_i D1 ws1 h1 hC1 hL1 l1
  have hw1 : ws1.length = (script.take 24).length := hI1.length
  have hw24 : ws1.length ≤ 24 := by rw [hw1, hC1]; exact Nat.min_le_left _ _
  refine CompSrc.ledger (by rfl) F1 N1 (.head _) (by rw [sizeLine_eq, List.size_toArray]; omega) ?_
  intro g
  refine rest_ind (fun i ys nw => nw = [(D1, W.listOf ws1.toArray 0), (98, tabObj #[]), (91, tabObj #[]), (84, tabObj #[]), (77, tabObj #[]), (70, tabObj #[])] ∧ IntsAre ys (((script.take 24).take i).map fun k => Int.fmod k 1009 - 300)) ws1.length ?_ ?_ _ 0 [] _ (Nat.zero_add _) ⟨rfl, .nil⟩
  · rintro i ys _ hi ⟨rfl, hys⟩ v I' oI' C' oC' D' m' h' tk' E' hv hC' hx' F' N' off' ne'
    obtain ⟨k, t, rfl, hk⟩ := hI1.at i v (by simpa using hv)
    simp only [LCg.Off3, and_true] at off'
    (repeat' ( (fail_if_success (with_reducible show wpAny _ _ (exec (Stmt.Assign _ (Expr.ListComp _ _ _ _) _) _) _ _ _)); (fail_if_success (with_reducible show wpAny _ _ (eval (Expr.ListComp _ _ _ _) _) _ _ _)); (fail_if_success (with_reducible show wpAny _ _ (exec (Stmt.For _ _ _ _ _) _) _ _ _)); (fail_if_success (with_reducible show wpAny _ _ (call (Value.ref _) _) _ _ _)); (fail_if_success (with_reducible show wpAny _ _ (call (Value.type "dict") _) _ _ _)); (fail_if_success (with_reducible show wpAny _ _ (call (Value.builtin "len") _) _ _ _)); (fail_if_success (with_reducible show wpAny _ _ (call (Value.type "enumerate") _) _ _ _)); (fail_if_success (with_reducible show LCg.CompSrc _ _ _ _ _ _ _ _ _ _ _ _ _ _)); (fail_if_success (with_reducible show EEnd _ _ _ _ _ _ _ _ _ _ _ _ _ _ _ _ _)); (fail_if_success (with_reducible show LCg.CompEnd _ _ _ _ _ _ _ _ _ _ _ _ _ _)); first | (k_unfold; (try dsimp only)) | (k_end; wrow_close) | walk1 | (dsimp only; walk1) | (leave1; walk_say "STEP leave1"; try dsimp only) | fail "no step"))
    rename Fr _ _ _ _ => F10
    rename News _ _ _ _ => N10
    refine CompEnd.intro F10 N10 [(D1, W.listOf ws1.toArray 0), (98, tabObj #[]), (91, tabObj #[]), (84, tabObj #[]), (77, tabObj #[]), (70, tabObj #[])] (fun p hp => hp) (by simpa only [LCg.Off3, and_true] using off') (.inr ⟨_, .head _, rfl, _, rfl⟩) ⟨rfl, ?_⟩
    rw [List.take_add_one, hk, List.map_append]
    exact hys.append (.cons _ _ .nil)
  rintro ys0 _ ⟨rfl, hys⟩
  intro D2 h2 tk2 F2 N2 o2
  rw [hw1, List.take_length] at hys
  simp only [LCg.Off1, and_true] at o2
  replace N2 : News _ _ h2 [(D2, W.listOf (List.toArray ys0) ys0.length), (98, tabObj #[]), (91, tabObj #[]), (84, tabObj #[]), (77, tabObj #[]), (70, tabObj #[])] := less N2 (by walk_at "sub")
  obtain ⟨nums, hnums⟩ : ∃ nums, nums = (script.take 24).map fun k => Int.fmod k 1009 - 300 := ⟨_, rfl⟩
  rw [← hnums] at hys
  have hnl : nums.length ≤ 24 := by rw [hnums, List.length_map, hC1]; exact Nat.min_le_left _ _
  have hnb : ∀ k ∈ nums, -300 ≤ k ∧ k ≤ 708 := by
    intro k hk
    rw [hnums] at hk
    obtain ⟨j, -, rfl⟩ := List.mem_map.mp hk
    have a := Int.fmod_nonneg_of_pos j (show (0 : Int) < 1009 by decide)
    have b := Int.fmod_lt_of_pos j (show (0 : Int) < 1009 by decide)
    omega
  clear hw1 hw24 hI1 hC1 hL1 F1 N1 hnums
  have hyl : ys0.length = nums.length := hys.length
  (repeat' ( (fail_if_success (with_reducible show wpAny _ _ (exec (Stmt.Assign _ (Expr.ListComp _ _ _ _) _) _) _ _ _)); (fail_if_success (with_reducible show wpAny _ _ (eval (Expr.ListComp _ _ _ _) _) _ _ _)); (fail_if_success (with_reducible show wpAny _ _ (exec (Stmt.For _ _ _ _ _) _) _ _ _)); (fail_if_success (with_reducible show wpAny _ _ (call (Value.ref _) _) _ _ _)); (fail_if_success (with_reducible show wpAny _ _ (call (Value.type "dict") _) _ _ _)); (fail_if_success (with_reducible show wpAny _ _ (call (Value.builtin "len") _) _ _ _)); (fail_if_success (with_reducible show wpAny _ _ (call (Value.type "enumerate") _) _ _ _)); (fail_if_success (with_reducible show LCg.CompSrc _ _ _ _ _ _ _ _ _ _ _ _ _ _)); (fail_if_success (with_reducible show EEnd _ _ _ _ _ _ _ _ _ _ _ _ _ _ _ _ _)); (fail_if_success (with_reducible show LCg.CompEnd _ _ _ _ _ _ _ _ _ _ _ _ _ _)); first | (k_unfold; (try dsimp only)) | (k_end; wrow_close) | walk1 | (dsimp only; walk1) | (leave1; walk_say "STEP leave1"; try dsimp only) | fail "no step"))
  refine kst_len (l := D2) (us := ys0) (k := nums.length) N2 (.head _) hyl (by omega) ?_
  (repeat' ( (fail_if_success (with_reducible show wpAny _ _ (exec (Stmt.Assign _ (Expr.ListComp _ _ _ _) _) _) _ _ _)); (fail_if_success (with_reducible show wpAny _ _ (eval (Expr.ListComp _ _ _ _) _) _ _ _)); (fail_if_success (with_reducible show wpAny _ _ (exec (Stmt.For _ _ _ _ _) _) _ _ _)); (fail_if_success (with_reducible show wpAny _ _ (call (Value.ref _) _) _ _ _)); (fail_if_success (with_reducible show wpAny _ _ (call (Value.type "dict") _) _ _ _)); (fail_if_success (with_reducible show wpAny _ _ (call (Value.builtin "len") _) _ _ _)); (fail_if_success (with_reducible show wpAny _ _ (call (Value.type "enumerate") _) _ _ _)); (fail_if_success (with_reducible show LCg.CompSrc _ _ _ _ _ _ _ _ _ _ _ _ _ _)); (fail_if_success (with_reducible show EEnd _ _ _ _ _ _ _ _ _ _ _ _ _ _ _ _ _)); (fail_if_success (with_reducible show LCg.CompEnd _ _ _ _ _ _ _ _ _ _ _ _ _ _)); first | (k_unfold; (try dsimp only)) | (k_end; wrow_close) | walk1 | (dsimp only; walk1) | (leave1; walk_say "STEP leave1"; try dsimp only) | fail "no step"))
  rename Fr _ _ _ _ => F3
  rename News _ _ _ _ => N3
  obtain ⟨mv, hmv⟩ : ∃ mv, mv = (nums.length : Int).fmod 13 := ⟨_, rfl⟩
  rw [← hmv] at F3
  have hmv1 : 0 ≤ mv := by rw [hmv]; exact Int.fmod_nonneg_of_pos _ (by decide)
  have hmv2 : mv < 13 := by rw [hmv]; exact Int.fmod_lt_of_pos _ (by decide)
  have hmv3 : mv ≤ nums.length := by rw [hmv, Int.fmod_eq_emod_of_nonneg _ (by decide)]; omega
  clear hmv
  refine ListComp_E (F₀ := F3) (by rfl) (by decide) (by rfl) (by decide) (by rfl) (by rfl) (by decide) ?_
  (repeat' ( (fail_if_success (with_reducible show wpAny _ _ (exec (Stmt.Assign _ (Expr.ListComp _ _ _ _) _) _) _ _ _)); (fail_if_success (with_reducible show wpAny _ _ (eval (Expr.ListComp _ _ _ _) _) _ _ _)); (fail_if_success (with_reducible show wpAny _ _ (exec (Stmt.For _ _ _ _ _) _) _ _ _)); (fail_if_success (with_reducible show wpAny _ _ (call (Value.ref _) _) _ _ _)); (fail_if_success (with_reducible show wpAny _ _ (call (Value.type "dict") _) _ _ _)); (fail_if_success (with_reducible show wpAny _ _ (call (Value.builtin "len") _) _ _ _)); (fail_if_success (with_reducible show wpAny _ _ (call (Value.type "enumerate") _) _ _ _)); (fail_if_success (with_reducible show LCg.CompSrc _ _ _ _ _ _ _ _ _ _ _ _ _ _)); (fail_if_success (with_reducible show EEnd _ _ _ _ _ _ _ _ _ _ _ _ _ _ _ _ _)); (fail_if_success (with_reducible show LCg.CompEnd _ _ _ _ _ _ _ _ _ _ _ _ _ _)); first | (k_unfold; (try dsimp only)) | (k_end; wrow_close) | walk1 | (dsimp only; walk1) | (leave1; walk_say "STEP leave1"; try dsimp only) | fail "no step"))
  rename Fr _ _ _ _ => F4
  rename News _ _ _ _ => N4
  rename IntsAre _ (List.take mv.toNat nums) => hI4
  rename_i D4 ws4 h4 hC4 hL4 l4
  have hws4 : ws4.length = mv.toNat := by rw [hI4.length, hC4]; omega
  refine src_enum (l := D4) (lo := W.listOf ws4.toArray 0) (nl := 0) (vs := ws4) (fun i ys nw => ∃ rs, ys = rowsV rs ∧ nw = [(D4, W.listOf ws4.toArray 0), (D2, W.listOf ys0.toArray ys0.length), (98, tabObj #[]), (91, tabObj #[]), (84, tabObj #[]), (77, tabObj #[]), (70, tabObj #[])] ++ rowsL rs ∧ pairsR rs = (List.range i).map fun (j : Nat) => (((j : Int) + 1, ws4.getD j .none) : Int × Value)) (by rfl) F4 N4 (.head _) rfl rfl (by rw [sizeLine_eq, hws4]; omega) ⟨[], rfl, rfl, rfl⟩ ?_ ?_
  · rintro g i _ _ hi ⟨rs, rfl, rfl, hrs⟩ - e9 i9 C9 D9 oe oi oC m9 t9 v9 h9 tk9 E9 hv9 hoC hx1 hx2 F9 N9 off9 ne9
    obtain ⟨k, t, rfl, hk⟩ := hI4.at i v9 hv9
    generalize hrl : rowsL rs = rl at N9 off9
    dsimp only [List.cons_append, List.nil_append] at N9
    (repeat' ( (fail_if_success (with_reducible show wpAny _ _ (exec (Stmt.Assign _ (Expr.ListComp _ _ _ _) _) _) _ _ _)); (fail_if_success (with_reducible show wpAny _ _ (eval (Expr.ListComp _ _ _ _) _) _ _ _)); (fail_if_success (with_reducible show wpAny _ _ (exec (Stmt.For _ _ _ _ _) _) _ _ _)); (fail_if_success (with_reducible show wpAny _ _ (call (Value.ref _) _) _ _ _)); (fail_if_success (with_reducible show wpAny _ _ (call (Value.type "dict") _) _ _ _)); (fail_if_success (with_reducible show wpAny _ _ (call (Value.builtin "len") _) _ _ _)); (fail_if_success (with_reducible show wpAny _ _ (call (Value.type "enumerate") _) _ _ _)); (fail_if_success (with_reducible show LCg.CompSrc _ _ _ _ _ _ _ _ _ _ _ _ _ _)); (fail_if_success (with_reducible show EEnd _ _ _ _ _ _ _ _ _ _ _ _ _ _ _ _ _)); (fail_if_success (with_reducible show LCg.CompEnd _ _ _ _ _ _ _ _ _ _ _ _ _ _)); first | (k_unfold; (try dsimp only)) | (k_end; wrow_close) | walk1 | (dsimp only; walk1) | (leave1; walk_say "STEP leave1"; try dsimp only) | fail "no step"))
    rename Fr _ _ _ _ => F10
    rename News _ _ _ _ => N10
    rename_i T9 _ l10
    refine ⟨_, _, [(D4, W.listOf ws4.toArray 0), (D2, W.listOf ys0.toArray ys0.length), (98, tabObj #[]), (91, tabObj #[]), (84, tabObj #[]), (77, tabObj #[]), (70, tabObj #[])] ++ rowsL (rs ++ [⟨T9, (i : Int) + 1, tk9 + 1, .int k t⟩]), rfl, F10, fun p hp => N10 p ?_, ?_, List.mem_append_left _ (.head _), rs ++ [⟨T9, (i : Int) + 1, tk9 + 1, .int k t⟩], ?_, rfl, ?_⟩
    · rcases List.mem_cons.mp hp with rfl | hp
      · exact .tail _ (.head _)
      rcases List.mem_cons.mp hp with rfl | hp
      · exact .tail _ (.tail _ (.head _))
      rcases List.mem_cons.mp hp with rfl | hp
      · exact .tail _ (.tail _ (.tail _ (.head _)))
      rcases List.mem_cons.mp hp with rfl | hp
      · exact .tail _ (.tail _ (.tail _ (.tail _ (.head _))))
      rcases List.mem_append.mp hp with hp | hp
      · exact .tail _ (.tail _ (.tail _ (.tail _ (.tail _ (List.mem_append_left (as := [(D4, W.listOf ws4.toArray 0), (D2, W.listOf ys0.toArray ys0.length), (98, tabObj #[]), (91, tabObj #[]), (84, tabObj #[]), (77, tabObj #[]), (70, tabObj #[])]) rl hp)))))
      · unfold rowsL at hp hrl
        rw [List.map_append] at hp
        rcases List.mem_append.mp hp with hp | hp
        · rw [hrl] at hp
          exact .tail _ (.tail _ (.tail _ (.tail _ (.tail _ (List.mem_append_right [(D4, W.listOf ws4.toArray 0), (D2, W.listOf ys0.toArray ys0.length), (98, tabObj #[]), (91, tabObj #[]), (84, tabObj #[]), (77, tabObj #[]), (70, tabObj #[])] hp)))))
        · rw [List.mem_singleton.mp hp]
          exact .head _
    · intro p hp
      rcases List.mem_append.mp hp with hp | hp
      · exact off9 p (List.mem_append_left _ hp)
      · unfold rowsL at hp hrl
        rw [List.map_append] at hp
        rcases List.mem_append.mp hp with hp | hp
        · rw [hrl] at hp
          exact off9 p (List.mem_append_right _ hp)
        · rw [List.mem_singleton.mp hp]
          exact ⟨Nat.ne_of_gt l10.1, Nat.ne_of_gt l10.2.1, Nat.ne_of_gt l10.2.2.1, Nat.ne_of_gt l10.2.2.2.1⟩
    · unfold rowsV
      rw [List.map_append]
      rfl
    · unfold pairsR at hrs ⊢
      rw [List.map_append, hrs, List.range_succ, List.map_append]
      simp [hv9]
  rintro g _ _ ⟨rs, rfl, rfl, hrs⟩ D9 h9 tk9 F9 N9 off9
  dsimp only [List.cons_append, List.nil_append] at N9
  (repeat' ( (fail_if_success (with_reducible show wpAny _ _ (exec (Stmt.Assign _ (Expr.ListComp _ _ _ _) _) _) _ _ _)); (fail_if_success (with_reducible show wpAny _ _ (eval (Expr.ListComp _ _ _ _) _) _ _ _)); (fail_if_success (with_reducible show wpAny _ _ (exec (Stmt.For _ _ _ _ _) _) _ _ _)); (fail_if_success (with_reducible show wpAny _ _ (call (Value.ref _) _) _ _ _)); (fail_if_success (with_reducible show wpAny _ _ (call (Value.type "dict") _) _ _ _)); (fail_if_success (with_reducible show wpAny _ _ (call (Value.builtin "len") _) _ _ _)); (fail_if_success (with_reducible show wpAny _ _ (call (Value.type "enumerate") _) _ _ _)); (fail_if_success (with_reducible show LCg.CompSrc _ _ _ _ _ _ _ _ _ _ _ _ _ _)); (fail_if_success (with_reducible show EEnd _ _ _ _ _ _ _ _ _ _ _ _ _ _ _ _ _)); (fail_if_success (with_reducible show LCg.CompEnd _ _ _ _ _ _ _ _ _ _ _ _ _ _)); first | (k_unfold; (try dsimp only)) | (k_end; wrow_close) | walk1 | (dsimp only; walk1) | (leave1; walk_say "STEP leave1"; try dsimp only) | fail "no step"))
  have hrk : rs.map (·.k) = (pairsR rs).map (·.1) := by
    unfold pairsR
    rw [List.map_map]
    rfl
  refine dict_of_rows (rs := rs) (by rfl) F9 N9 (modules_low (Top.nolimit T1)) (.head _) (fun r hr => List.mem_append_right (_ :: [(D4, W.listOf ws4.toArray 0), (D2, W.listOf ys0.toArray ys0.length), (98, tabObj #[]), (91, tabObj #[]), (84, tabObj #[]), (77, tabObj #[]), (70, tabObj #[])]) (mem_rowsL hr)) ?_ ?_ ?_
  · rw [hrk, hrs, List.map_map]
    refine List.pairwise_map.mpr ((List.nodup_range (n := ws4.length)).imp fun hne e => hne ?_)
    have e2 : ((_ : Nat) : Int) + 1 = ((_ : Nat) : Int) + 1 := e
    omega
  · rw [← pairsR_length, hrs, List.length_map, List.length_range]
    omega
  intro pa od h12 tk12 F12 N12 lk hpm hod
  obtain ⟨kvs0, hkvs0⟩ : ∃ kvs0, kvs0 = pairsR rs := ⟨_, rfl⟩
  rw [← hkvs0] at hod
  have hlen0 : kvs0.length ≤ 12 := by
    rw [hkvs0, hrs, List.length_map, List.length_range]
    omega
  replace N12 : News _ _ h12 [(pa, od), (D2, W.listOf ys0.toArray ys0.length), (98, tabObj #[]), (91, tabObj #[]), (84, tabObj #[]), (77, tabObj #[]), (70, tabObj #[])] := less N12 (by walk_at "sub")
  have lk2 : ∀ p ∈ [(D2, W.listOf (List.toArray ys0) ys0.length), (98, tabObj #[]), (91, tabObj #[]), (84, tabObj #[]), (77, tabObj #[]), (70, tabObj #[])], p.1 < pa := fun p hp => lk p (subMem hp (by walk_at "sub"))
  k_lt lk2
  (repeat' ( (fail_if_success (with_reducible show wpAny _ _ (exec (Stmt.Assign _ (Expr.ListComp _ _ _ _) _) _) _ _ _)); (fail_if_success (with_reducible show wpAny _ _ (eval (Expr.ListComp _ _ _ _) _) _ _ _)); (fail_if_success (with_reducible show wpAny _ _ (exec (Stmt.For _ _ _ _ _) _) _ _ _)); (fail_if_success (with_reducible show wpAny _ _ (call (Value.ref _) _) _ _ _)); (fail_if_success (with_reducible show wpAny _ _ (call (Value.type "dict") _) _ _ _)); (fail_if_success (with_reducible show wpAny _ _ (call (Value.builtin "len") _) _ _ _)); (fail_if_success (with_reducible show wpAny _ _ (call (Value.type "enumerate") _) _ _ _)); (fail_if_success (with_reducible show LCg.CompSrc _ _ _ _ _ _ _ _ _ _ _ _ _ _)); (fail_if_success (with_reducible show EEnd _ _ _ _ _ _ _ _ _ _ _ _ _ _ _ _ _)); (fail_if_success (with_reducible show LCg.CompEnd _ _ _ _ _ _ _ _ _ _ _ _ _ _)); first | (k_unfold; (try dsimp only)) | (k_end; wrow_close) | walk1 | (dsimp only; walk1) | (leave1; walk_say "STEP leave1"; try dsimp only) | fail "no step"))
  rename Fr _ _ _ _ => F13
  rename News _ _ _ _ => N13
  rename Obj.IsDictOf _ _ (stored (stored _ _ _) _ _) => hod13
  rename_i h13 od13
  replace N13 : News _ _ h13 [(pa, od13), (D2, W.listOf (List.toArray ys0) ys0.length), (98, tabObj #[]), (91, tabObj #[]), (84, tabObj #[]), (77, tabObj #[]), (70, tabObj #[])] := less N13 (by walk_at "sub")
  refine For_turns F13 ?_
  (repeat' ( (fail_if_success (with_reducible show wpAny _ _ (exec (Stmt.Assign _ (Expr.ListComp _ _ _ _) _) _) _ _ _)); (fail_if_success (with_reducible show wpAny _ _ (eval (Expr.ListComp _ _ _ _) _) _ _ _)); (fail_if_success (with_reducible show wpAny _ _ (exec (Stmt.For _ _ _ _ _) _) _ _ _)); (fail_if_success (with_reducible show wpAny _ _ (call (Value.ref _) _) _ _ _)); (fail_if_success (with_reducible show wpAny _ _ (call (Value.type "dict") _) _ _ _)); (fail_if_success (with_reducible show wpAny _ _ (call (Value.builtin "len") _) _ _ _)); (fail_if_success (with_reducible show wpAny _ _ (call (Value.type "enumerate") _) _ _ _)); (fail_if_success (with_reducible show LCg.CompSrc _ _ _ _ _ _ _ _ _ _ _ _ _ _)); (fail_if_success (with_reducible show EEnd _ _ _ _ _ _ _ _ _ _ _ _ _ _ _ _ _)); (fail_if_success (with_reducible show LCg.CompEnd _ _ _ _ _ _ _ _ _ _ _ _ _ _)); first | (k_unfold; (try dsimp only)) | (k_end; wrow_close) | walk1 | (dsimp only; walk1) | (leave1; walk_say "STEP leave1"; try dsimp only) | fail "no step"))
  rename World => W0
  rename Fr _ _ _ _ => F14
  rename News _ _ _ _ => N14
  rename IntsAre _ (List.take 12 _) => hI14
  rename Top _ _ _ _ _ _ => T1
  rename Below _ _ _ _ => B1
  rename Frag.In _ _ => X1
  rename_i D14 ws14 h14 hC14 hL14 l14
  have hws14 : ws14.length ≤ 12 := by rw [hI14.length, hC14]; exact Nat.min_le_left _ _
  have hk0 : ∀ p ∈ kvs0, Vok p.2 ∧ 1 ≤ p.1 ∧ p.1 ≤ 12 := by
    intro p hp
    rw [hkvs0, hrs] at hp
    obtain ⟨j, hj, rfl⟩ := List.mem_map.mp hp
    rw [List.mem_range] at hj
    refine ⟨?_, by dsimp only; omega, by dsimp only; omega⟩
    obtain ⟨n, t, e, hn⟩ := hI4.at j ws4[j] (List.getElem?_eq_getElem hj)
    refine .inr ⟨n, t, ?_, ?_⟩
    · dsimp only
      rw [List.getD_eq_getElem?_getD, List.getElem?_eq_getElem hj, e]
      rfl
    · have := hnb n (List.mem_of_mem_take (List.mem_of_getElem? hn))
      omega
  have J0good : ∀ ta tb : Tok, Good (stored (stored kvs0 0 (Value.int 5000 ta)) (0 - 2) (Value.int 6000 tb)) := by
    intro ta tb p hp
    rcases mem_stored hp with ⟨e1, e2⟩ | hp
    · rw [e1, e2]; exact ⟨.inr ⟨_, _, rfl, by decide⟩, by decide, by decide⟩
    rcases mem_stored hp with ⟨e1, e2⟩ | hp
    · rw [e1, e2]; exact ⟨.inr ⟨_, _, rfl, by decide⟩, by decide, by decide⟩
    have := hk0 p hp
    exact ⟨this.1, by omega, by omega⟩
  have J0kb : ∀ ta tb : Tok, ∀ p ∈ stored (stored kvs0 0 (Value.int 5000 ta)) (0 - 2) (Value.int 6000 tb), p.1 ≤ 17 := by
    intro ta tb p hp
    rcases mem_stored hp with ⟨e1, e2⟩ | hp
    · rw [e1]; decide
    rcases mem_stored hp with ⟨e1, e2⟩ | hp
    · rw [e1]; decide
    have := hk0 p hp
    omega
  have J0bk : ∀ ta tb : Tok, ∀ k : Int, 1 ≤ k → k ≤ mv → k ∈ (stored (stored kvs0 0 (Value.int 5000 ta)) (0 - 2) (Value.int 6000 tb)).map (·.1) := by
    intro ta tb k h1 h2
    rw [stored_keys, stored_keys]
    refine .inr (.inr ?_)
    rw [hkvs0, hrs, List.map_map]
    refine List.mem_map.mpr ⟨k.toNat - 1, List.mem_range.mpr (by omega), ?_⟩
    show ((k.toNat - 1 : Nat) : Int) + 1 = k
    omega
  clear hk0
  refine enum_turns (lo := W.listOf ws14.toArray 0) (n := 0) (vs := ws14) (LawJ W0 D2 (W.listOf (List.toArray ys0) ys0.length)) (by rfl) (by rfl) F14 N14 (.head _) rfl rfl [(pa, od13), (D2, W.listOf (List.toArray ys0) ys0.length), (98, tabObj #[]), (91, tabObj #[]), (84, tabObj #[]), (77, tabObj #[]), (70, tabObj #[])] ?_ ?_ ?_ ?_ ?_
  · walk_at "sub"
  · obtain ⟨-, -, f1, f2, f3, f4, f5, f6, f7⟩ := l14
    exact allC (Nat.ne_of_lt f1) (allC (Nat.ne_of_lt f2) (allC (Nat.ne_of_lt f3) (allC (Nat.ne_of_lt f4) (allC (Nat.ne_of_lt f5) (allC (Nat.ne_of_lt f6) (allC (Nat.ne_of_lt f7) allN))))))
  · refine ⟨pa, od13, _, mv, _, none, none, none, none, [(98, tabObj #[])], [(91, tabObj #[])], [(84, tabObj #[])], [(77, tabObj #[])], [(70, tabObj #[])], LawM.ext rfl rfl rfl rfl rfl rfl fun y _ _ _ _ _ _ => rfl, rfl, ⟨hod13, ?_, hpm, ?_, ?_, hmv1, ?_, .inl rfl, .inl rfl, .inl rfl, .inl rfl, .inl rfl, ?_, ?_, ?_, ?_, ?_, ?_, ?_, ?_, ?_, ?_⟩⟩
    · exact J0good _ _
    · exact J0kb _ _
    · exact J0bk _ _
    · omega
    all_goals (
      intro p hp q hq
      rw [List.mem_singleton.mp hp, List.mem_singleton.mp hq]
      decide)
  · rintro fp i x t T m₁ _ h₁ tk₁ own g hi hx ⟨pa, od, kvs, border, tb, o1, o2, o3, o4, t98, t91, t84, t77, t70, rfl, rfl, I⟩ hoff hof hfo hT F1 N1
    obtain ⟨k, tk', rfl, hk⟩ := hI14.at i x hx
    refine assign_Tuple_tuple (by rfl) hT rfl rfl fun h₅ he => ?_
    have he' : ∀ b o, h₁.get? b = some o → h₅.get? b = some o := fun b o e => he b o (Nat.ne_of_lt (Heap.lt_size e)) e
    have F2 := F1.keeps he'
    have N2 := N1.grown he'
    clear F1 N1 hT he he'
    unfold LawM at F2
    dsimp only [List.cons_append] at N2
    have sO : Sp own _ := sp_own hoff hof
    have m98 : ∀ p ∈ t98, p ∈ (pa, od) :: (D2, W.listOf (List.toArray ys0) ys0.length) :: (t98 ++ (t91 ++ (t84 ++ (t77 ++ t70))) ++ own) := by walk_at "sub"
    have m91 : ∀ p ∈ t91, p ∈ (pa, od) :: (D2, W.listOf (List.toArray ys0) ys0.length) :: (t98 ++ (t91 ++ (t84 ++ (t77 ++ t70))) ++ own) := by walk_at "sub"
    have m84 : ∀ p ∈ t84, p ∈ (pa, od) :: (D2, W.listOf (List.toArray ys0) ys0.length) :: (t98 ++ (t91 ++ (t84 ++ (t77 ++ t70))) ++ own) := by walk_at "sub"
    have m77 : ∀ p ∈ t77, p ∈ (pa, od) :: (D2, W.listOf (List.toArray ys0) ys0.length) :: (t98 ++ (t91 ++ (t84 ++ (t77 ++ t70))) ++ own) := by walk_at "sub"
    have m70 : ∀ p ∈ t70, p ∈ (pa, od) :: (D2, W.listOf (List.toArray ys0) ys0.length) :: (t98 ++ (t91 ++ (t84 ++ (t77 ++ t70))) ++ own) := by walk_at "sub"
    have d0 : Sp [(pa, od)] [(D2, W.listOf (List.toArray ys0) ys0.length)] := sp_dict_list N2 (.head _) (.tail _ (.head _)) (dict_data I.hod)
    have d1 : Sp [(pa, od)] t98 := sp_dict_flds N2 (.head _) m98 (dict_data I.hod) (tab1_flds I.h98)
    have d2 : Sp [(pa, od)] t91 := sp_dict_flds N2 (.head _) m91 (dict_data I.hod) (tab1_flds I.h91)
    have d3 : Sp [(pa, od)] t84 := sp_dict_flds N2 (.head _) m84 (dict_data I.hod) (tab1_flds I.h84)
    have d4 : Sp [(pa, od)] t77 := sp_dict_flds N2 (.head _) m77 (dict_data I.hod) (tab2_flds I.h77)
    have d5 : Sp [(pa, od)] t70 := sp_dict_flds N2 (.head _) m70 (dict_data I.hod) (tab2_flds I.h70)
    have e1 : Sp [(D2, W.listOf (List.toArray ys0) ys0.length)] t98 := sp_list_flds N2 (.tail _ (.head _)) m98 (tab1_flds I.h98)
    have e2 : Sp [(D2, W.listOf (List.toArray ys0) ys0.length)] t91 := sp_list_flds N2 (.tail _ (.head _)) m91 (tab1_flds I.h91)
    have e3 : Sp [(D2, W.listOf (List.toArray ys0) ys0.length)] t84 := sp_list_flds N2 (.tail _ (.head _)) m84 (tab1_flds I.h84)
    have e4 : Sp [(D2, W.listOf (List.toArray ys0) ys0.length)] t77 := sp_list_flds N2 (.tail _ (.head _)) m77 (tab2_flds I.h77)
    have e5 : Sp [(D2, W.listOf (List.toArray ys0) ys0.length)] t70 := sp_list_flds N2 (.tail _ (.head _)) m70 (tab2_flds I.h70)
    have w1 : Sp own [(pa, od)] := sO.subR (by walk_at "sub")
    have w2 : Sp own [(D2, W.listOf (List.toArray ys0) ys0.length)] := sO.subR (by walk_at "sub")
    have w3 : Sp own t98 := sO.subR (by walk_at "sub")
    have w4 : Sp own t91 := sO.subR (by walk_at "sub")
    have w5 : Sp own t84 := sO.subR (by walk_at "sub")
    have w6 : Sp own t77 := sO.subR (by walk_at "sub")
    have w7 : Sp own t70 := sO.subR (by walk_at "sub")
    clear m98 m91 m84 m77 m70 sO
    have s1 := I.s1
    have s2 := I.s2
    have s3 := I.s3
    have s4 := I.s4
    have s5 := I.s5
    have s6 := I.s6
    have s7 := I.s7
    have s8 := I.s8
    have s9 := I.s9
    have s10 := I.s10
    generalize hrest : t98 ++ (t91 ++ (t84 ++ (t77 ++ t70))) ++ own = rest at N2
    have b0 := I.b0
    have b1 := I.b1
    have hi12 : i < 12 := by omega
    clear F14 N14 l14 J0good J0kb J0bk
    rename TopE _ _ _ _ => q1
    rename TopW _ _ _ => q2
    rename LooseAre _ _ _ => q3
    rename Flt.MathXP _ _ _ => q4
    rename Tables _ _ _ _ => q5
    rename Ground _ _ _ _ _ _ _ _ _ => q6
    clear q1 q2 q3 q4 q5 q6
    iterate 38 (first | walk1 | (dsimp only; walk1))
    rename Fr _ _ _ _ => F3
    rename News _ _ _ _ => N3
    obtain ⟨spot, hspot⟩ : ∃ spot, spot = k.fmod (border + 5) - 2 := ⟨_, rfl⟩
    have hs1 : -2 ≤ spot := by
      have := Int.fmod_nonneg_of_pos k (show 0 < border + 5 by omega)
      omega
    have hs2 : spot ≤ border + 2 := by
      have := Int.fmod_lt_of_pos k (show 0 < border + 5 by omega)
      omega
    rw [← hspot] at F3
    clear hspot
    iterate 8 (first | walk1 | (dsimp only; walk1))
    rotate_left
    · iterate 9 (first | walk1 | (dsimp only; walk1))
      rotate_left
      · iterate 10 (first | walk1 | (dsimp only; walk1))
        rotate_left
        · iterate 1 (first | walk1 | (dsimp only; walk1))
          iterate 10 (first | walk1 | (dsimp only; walk1))
          rotate_left
          · iterate 1 (first | walk1 | (dsimp only; walk1))
            iterate 10 (first | walk1 | (dsimp only; walk1))
            rotate_left
            · (repeat' ( (fail_if_success (with_reducible show wpAny _ _ (call (Value.ref _) _) _ _ _)); (fail_if_success (with_reducible show TurnEnd _ _ _ _ _ _ _ _ _)); first | (k_unfold; (try dsimp only)) | (k_end; wrow_close) | walk1 | (dsimp only; walk1) | (leave1; walk_say "STEP leave1"; try dsimp only) | fail "no step"))
              rename Fr _ _ _ _ => F6
              rename News _ _ _ _ => N6
              subst hrest
              refine law_end (pa := pa) (od := od) (kvs := kvs) (t98 := t98) (t91 := t91) (t84 := t84) (t77 := t77) (t70 := t70) hfo F6 N6 ?_ (LawM.ext rfl rfl rfl rfl rfl rfl ?_) ⟨I.hod, I.good, I.lo, I.kb, I.bk, I.b0, next_b I.b1, I.h98, I.h91, I.h84, I.h77, I.h70, s1, s2, s3, s4, s5, s6, s7, s8, s9, s10⟩ (by (repeat' (first | assumption | (apply Sp.symm; assumption) | refine Sp.app ?_ ?_ | refine Sp.appR ?_ ?_ | ((fail_if_success (with_reducible show Sp [_] _)); refine Sp.cons ?_ ?_) | ((fail_if_success (with_reducible show Sp _ [_])); refine Sp.consR ?_ ?_))))
              · walk_at "sub"
              · intro y a b c d e f
                repeat' (first | rfl | refine (if_neg (by assumption)).trans ?_)
            (repeat' ( (fail_if_success (with_reducible show wpAny _ _ (call (Value.ref _) _) _ _ _)); (fail_if_success (with_reducible show TurnEnd _ _ _ _ _ _ _ _ _)); first | (k_unfold; (try dsimp only)) | (k_end; wrow_close) | walk1 | (dsimp only; walk1) | (leave1; walk_say "STEP leave1"; try dsimp only) | fail "no step"))
            rename Fr _ _ _ _ => F4
            rename News _ _ _ _ => N4
            refine law_call ((pa, od) :: (D2, W.listOf (List.toArray ys0) ys0.length) :: (t91 ++ (t84 ++ (t77 ++ (t70 ++ own))))) (asked_right W0 border spot _ _ t98 b0 (by omega) I.h98) B1 F4 X1 N4 T1 (by rfl) (by decide) (by decide) ?_ ?_ ?_ ?_
            · subst hrest
              walk_at "sub"
            · subst hrest
              walk_at "sub"
            · (repeat' (first | assumption | (apply Sp.symm; assumption) | refine Sp.app ?_ ?_ | refine Sp.appR ?_ ?_ | ((fail_if_success (with_reducible show Sp [_] _)); refine Sp.cons ?_ ?_) | ((fail_if_success (with_reducible show Sp _ [_])); refine Sp.consR ?_ ?_)))
            rintro r1 tab' h5' tk5 F5 N5 ⟨rfl, htab'⟩ spR
            clear F4 N4
            have u0 : Sp [(pa, od)] tab' := spR.sub (b := [(pa, od)]) (by walk_at "sub")
            have u1 : Sp [(D2, W.listOf (List.toArray ys0) ys0.length)] tab' := spR.sub (b := [(D2, W.listOf (List.toArray ys0) ys0.length)]) (by walk_at "sub")
            have u2 : Sp tab' t91 := (spR.sub (b := t91) (by walk_at "sub")).symm
            have u3 : Sp tab' t84 := (spR.sub (b := t84) (by walk_at "sub")).symm
            have u4 : Sp tab' t77 := (spR.sub (b := t77) (by walk_at "sub")).symm
            have u5 : Sp tab' t70 := (spR.sub (b := t70) (by walk_at "sub")).symm
            have u6 : Sp own tab' := spR.sub (b := own) (by walk_at "sub")
            (repeat' ( (fail_if_success (with_reducible show wpAny _ _ (call (Value.ref _) _) _ _ _)); (fail_if_success (with_reducible show TurnEnd _ _ _ _ _ _ _ _ _)); first | (k_unfold; (try dsimp only)) | (k_end; wrow_close) | walk1 | (dsimp only; walk1) | (leave1; walk_say "STEP leave1"; try dsimp only) | fail "no step"))
            rename Fr _ _ _ _ => F6
            rename News _ _ _ _ => N6
            refine law_end (pa := pa) (od := od) (kvs := kvs) (t98 := tab') (t91 := t91) (t84 := t84) (t77 := t77) (t70 := t70) hfo F6 N6 ?_ (LawM.ext rfl rfl rfl rfl rfl rfl ?_) ⟨I.hod, I.good, I.lo, I.kb, I.bk, I.b0, next_b I.b1, htab', I.h91, I.h84, I.h77, I.h70, u2, u3, u4, u5, s5, s6, s7, s8, s9, s10⟩ (by (repeat' (first | assumption | (apply Sp.symm; assumption) | refine Sp.app ?_ ?_ | refine Sp.appR ?_ ?_ | ((fail_if_success (with_reducible show Sp [_] _)); refine Sp.cons ?_ ?_) | ((fail_if_success (with_reducible show Sp _ [_])); refine Sp.consR ?_ ?_))))
            · walk_at "sub"
            · intro y a b c d e f
              repeat' (first | rfl | refine (if_neg (by assumption)).trans ?_)
          have hi0 : (0 : Int) ≤ (i : Int) := Int.natCast_nonneg i
          (repeat' ( (fail_if_success (with_reducible show wpAny _ _ (call (Value.ref _) _) _ _ _)); (fail_if_success (with_reducible show TurnEnd _ _ _ _ _ _ _ _ _)); first | (k_unfold; (try dsimp only)) | (k_end; wrow_close) | walk1 | (dsimp only; walk1) | (leave1; walk_say "STEP leave1"; try dsimp only) | fail "no step"))
          rename Fr _ _ _ _ => F4
          rename News _ _ _ _ => N4
          rename IntsAre _ (List.drop _ nums ++ _) => hI4q
          rename_i D4q ws4q h4q l4q
          have lr := ktn_ltOf l4q.2.2.2.2.2
          have v0 : Sp [(pa, od)] [(D4q, W.listOf ws4q.toArray 0)] := fun p hp q hq => by rw [List.mem_singleton.mp hp, List.mem_singleton.mp hq]; exact Nat.ne_of_lt l4q.2.2.2.1
          have v1 : Sp [(D2, W.listOf (List.toArray ys0) ys0.length)] [(D4q, W.listOf ws4q.toArray 0)] := fun p hp q hq => by rw [List.mem_singleton.mp hp, List.mem_singleton.mp hq]; exact Nat.ne_of_lt l4q.2.2.2.2.1
          have v2 : Sp rest [(D4q, W.listOf ws4q.toArray 0)] := fun p hp q hq => by rw [List.mem_singleton.mp hq]; exact Nat.ne_of_lt (lr p hp)
          subst hrest
          have v3 : Sp t98 [(D4q, W.listOf ws4q.toArray 0)] := v2.sub (by walk_at "sub")
          have v4 : Sp t84 [(D4q, W.listOf ws4q.toArray 0)] := v2.sub (by walk_at "sub")
          have v5 : Sp t77 [(D4q, W.listOf ws4q.toArray 0)] := v2.sub (by walk_at "sub")
          have v6 : Sp t70 [(D4q, W.listOf ws4q.toArray 0)] := v2.sub (by walk_at "sub")
          have v7 : Sp own [(D4q, W.listOf ws4q.toArray 0)] := v2.sub (by walk_at "sub")
          refine law_call ((pa, od) :: (D2, W.listOf (List.toArray ys0) ys0.length) :: (t98 ++ (t84 ++ (t77 ++ (t70 ++ own))))) (greatest_right W0 D4q ws4q _ 0 t91 hI4q (by rw [List.length_append, List.length_drop]; simp; omega) I.h91) B1 F4 X1 N4 T1 (by rfl) (by decide) (by decide) ?_ ?_ ?_ ?_
          · walk_at "sub"
          · walk_at "sub"
          · (repeat' (first | assumption | (apply Sp.symm; assumption) | refine Sp.app ?_ ?_ | refine Sp.appR ?_ ?_ | ((fail_if_success (with_reducible show Sp [_] _)); refine Sp.cons ?_ ?_) | ((fail_if_success (with_reducible show Sp _ [_])); refine Sp.consR ?_ ?_)))
          rintro r1 tab' h5' tk5 F5 N5 ⟨rfl, htab'⟩ spR
          clear F4 N4
          have u0 : Sp [(pa, od)] tab' := spR.sub (b := [(pa, od)]) (by walk_at "sub")
          have u1 : Sp [(D2, W.listOf (List.toArray ys0) ys0.length)] tab' := spR.sub (b := [(D2, W.listOf (List.toArray ys0) ys0.length)]) (by walk_at "sub")
          have u2 : Sp t98 tab' := spR.sub (b := t98) (by walk_at "sub")
          have u3 : Sp tab' t84 := (spR.sub (b := t84) (by walk_at "sub")).symm
          have u4 : Sp tab' t77 := (spR.sub (b := t77) (by walk_at "sub")).symm
          have u5 : Sp tab' t70 := (spR.sub (b := t70) (by walk_at "sub")).symm
          have u6 : Sp own tab' := spR.sub (b := own) (by walk_at "sub")
          iterate 3 (first | walk1 | (dsimp only; walk1))
          iterate 10 (first | walk1 | (dsimp only; walk1))
          · exfalso
            omega
          (repeat' ( (fail_if_success (with_reducible show wpAny _ _ (call (Value.ref _) _) _ _ _)); (fail_if_success (with_reducible show TurnEnd _ _ _ _ _ _ _ _ _)); first | (k_unfold; (try dsimp only)) | (k_end; wrow_close) | walk1 | (dsimp only; walk1) | (leave1; walk_say "STEP leave1"; try dsimp only) | fail "no step"))
          rename Fr _ _ _ _ => F6
          rename News _ _ _ _ => N6
          refine law_end (pa := pa) (od := od) (kvs := kvs) (t98 := t98) (t91 := tab') (t84 := t84) (t77 := t77) (t70 := t70) hfo F6 N6 ?_ (LawM.ext rfl rfl rfl rfl rfl rfl ?_) ⟨I.hod, I.good, I.lo, I.kb, I.bk, I.b0, next_b I.b1, I.h98, htab', I.h84, I.h77, I.h70, u2, s2, s3, s4, u3, u4, u5, s8, s9, s10⟩ (by (repeat' (first | assumption | (apply Sp.symm; assumption) | refine Sp.app ?_ ?_ | refine Sp.appR ?_ ?_ | ((fail_if_success (with_reducible show Sp [_] _)); refine Sp.cons ?_ ?_) | ((fail_if_success (with_reducible show Sp _ [_])); refine Sp.consR ?_ ?_))))
          · walk_at "sub"
          · intro y a b c d e f
            repeat' (first | rfl | refine (if_neg (by assumption)).trans ?_)
        iterate 34 (first | walk1 | (dsimp only; walk1))
        have hk7 : 0 ≤ k.fmod 7 ∧ k.fmod 7 < 7 := ⟨Int.fmod_nonneg_of_pos k (by decide), Int.fmod_lt_of_pos k (by decide)⟩
        have hj : (i : Int).fmod 2 = 0 ∨ (i : Int).fmod 2 = 1 := by
          have x1 := Int.fmod_nonneg_of_pos (i : Int) (show (0 : Int) < 2 by decide)
          have x2 := Int.fmod_lt_of_pos (i : Int) (show (0 : Int) < 2 by decide)
          omega
        rcases hj with hj | hj <;> simp only [hj]
        all_goals (
          rename News _ _ _ _ => N3b
          refine list_at N3b (.head _) (by decide) (by decide) rfl ?_
          (repeat' ( (fail_if_success (with_reducible show wpAny _ _ (call (Value.ref _) _) _ _ _)); (fail_if_success (with_reducible show TurnEnd _ _ _ _ _ _ _ _ _)); first | (k_unfold; (try dsimp only)) | (k_end; wrow_close) | walk1 | (dsimp only; walk1) | (leave1; walk_say "STEP leave1"; try dsimp only) | fail "no step")))
        all_goals (
          rename Fr _ _ _ _ => F4
          rename News _ _ _ _ => N4
          refine law_call ((D2, W.listOf (List.toArray ys0) ys0.length) :: (t98 ++ (t91 ++ (t77 ++ (t70 ++ own))))) (join_right W0 pa od kvs spot _ _ _ _ _ t84 I.hod I.good I.lo (by omega) (by omega) (by omega) (by omega) (by decide) I.h84) B1 F4 X1 N4 T1 (by rfl) (by decide) (by decide) ?_ ?_ ?_ ?_
          · subst hrest
            walk_at "sub"
          · subst hrest
            walk_at "sub"
          · (repeat' (first | assumption | (apply Sp.symm; assumption) | refine Sp.app ?_ ?_ | refine Sp.appR ?_ ?_ | ((fail_if_success (with_reducible show Sp [_] _)); refine Sp.cons ?_ ?_) | ((fail_if_success (with_reducible show Sp _ [_])); refine Sp.consR ?_ ?_)))
          rintro r1 own1 h5' tk5 F5 N5 ⟨rfl, tab', rfl, htab'⟩ spR
          clear F4 N4
          dsimp only [List.cons_append] at N5
          have u0 : Sp [(D2, W.listOf (List.toArray ys0) ys0.length)] tab' := (spR.sub (b := [(D2, W.listOf (List.toArray ys0) ys0.length)]) (by walk_at "sub")).subR (fun p hp => .tail _ hp)
          have u1 : Sp t98 tab' := (spR.sub (b := t98) (by walk_at "sub")).subR (fun p hp => .tail _ hp)
          have u2 : Sp t91 tab' := (spR.sub (b := t91) (by walk_at "sub")).subR (fun p hp => .tail _ hp)
          have u3 : Sp tab' t77 := ((spR.sub (b := t77) (by walk_at "sub")).subR (fun p hp => .tail _ hp)).symm
          have u4 : Sp tab' t70 := ((spR.sub (b := t70) (by walk_at "sub")).subR (fun p hp => .tail _ hp)).symm
          have u5 : Sp own tab' := (spR.sub (b := own) (by walk_at "sub")).subR (fun p hp => .tail _ hp)
          iterate 3 (first | walk1 | (dsimp only; walk1))
          iterate 10 (first | walk1 | (dsimp only; walk1))
          · exfalso
            omega
          iterate 1 (first | walk1 | (dsimp only; walk1))
          iterate 10 (first | walk1 | (dsimp only; walk1))
          · exfalso
            omega
          (repeat' ( (fail_if_success (with_reducible show wpAny _ _ (call (Value.ref _) _) _ _ _)); (fail_if_success (with_reducible show TurnEnd _ _ _ _ _ _ _ _ _)); first | (k_unfold; (try dsimp only)) | (k_end; wrow_close) | walk1 | (dsimp only; walk1) | (leave1; walk_say "STEP leave1"; try dsimp only) | fail "no step")))
        all_goals (
          rename Fr _ _ _ _ => F6
          rename News _ _ _ _ => N6
          refine law_end (pa := pa) (od := od) (kvs := kvs) (t98 := t98) (t91 := t91) (t84 := tab') (t77 := t77) (t70 := t70) hfo F6 N6 ?_ (LawM.ext rfl rfl rfl rfl rfl rfl ?_) ⟨I.hod, I.good, I.lo, I.kb, I.bk, I.b0, next_b I.b1, I.h98, I.h91, htab', I.h77, I.h70, s1, u1, s3, s4, u2, s6, s7, u3, u4, s10⟩ (by (repeat' (first | assumption | (apply Sp.symm; assumption) | refine Sp.app ?_ ?_ | refine Sp.appR ?_ ?_ | ((fail_if_success (with_reducible show Sp [_] _)); refine Sp.cons ?_ ?_) | ((fail_if_success (with_reducible show Sp _ [_])); refine Sp.consR ?_ ?_)))))
        all_goals first
          | (intro y a b c d e f
             repeat' (first | rfl | refine (if_neg (by assumption)).trans ?_)
             done)
          | walk_at "sub"
      (repeat' ( (fail_if_success (with_reducible show wpAny _ _ (call (Value.ref _) _) _ _ _)); (fail_if_success (with_reducible show TurnEnd _ _ _ _ _ _ _ _ _)); first | (k_unfold; (try dsimp only)) | (k_end; wrow_close) | walk1 | (dsimp only; walk1) | (leave1; walk_say "STEP leave1"; try dsimp only) | fail "no step"))
      rename Fr _ _ _ _ => F4
      rename News _ _ _ _ => N4
      refine law_call ((D2, W.listOf (List.toArray ys0) ys0.length) :: (t98 ++ (t91 ++ (t84 ++ (t70 ++ own))))) (remove_right W0 pa od kvs border spot _ _ t77 I.hod I.good I.lo I.kb I.bk b0 (by omega) hs1 (by omega) I.h77) B1 F4 X1 N4 T1 (by rfl) (by decide) (by decide) ?_ ?_ ?_ ?_
      · subst hrest
        walk_at "sub"
      · subst hrest
        walk_at "sub"
      · (repeat' (first | assumption | (apply Sp.symm; assumption) | refine Sp.app ?_ ?_ | refine Sp.appR ?_ ?_ | ((fail_if_success (with_reducible show Sp [_] _)); refine Sp.cons ?_ ?_) | ((fail_if_success (with_reducible show Sp _ [_])); refine Sp.consR ?_ ?_)))
      rintro r1 own1 h5' tk5 F5 N5 ⟨ka, kd, kv, tab', rfl, rfl, htab', hkm, hkd, hkg, hkb, hkk⟩ spR
      clear F4 N4
      dsimp only [List.cons_append] at N5
      have u0 : Sp [(D2, W.listOf (List.toArray ys0) ys0.length)] tab' := (spR.sub (b := [(D2, W.listOf (List.toArray ys0) ys0.length)]) (by walk_at "sub")).subR (fun p hp => .tail _ hp)
      have u1 : Sp t98 tab' := (spR.sub (b := t98) (by walk_at "sub")).subR (fun p hp => .tail _ hp)
      have u2 : Sp t91 tab' := (spR.sub (b := t91) (by walk_at "sub")).subR (fun p hp => .tail _ hp)
      have u3 : Sp t84 tab' := (spR.sub (b := t84) (by walk_at "sub")).subR (fun p hp => .tail _ hp)
      have u4 : Sp tab' t70 := ((spR.sub (b := t70) (by walk_at "sub")).subR (fun p hp => .tail _ hp)).symm
      have u5 : Sp own tab' := (spR.sub (b := own) (by walk_at "sub")).subR (fun p hp => .tail _ hp)
      have u6 : Sp own [(ka, kd)] := (spR.sub (b := own) (by walk_at "sub")).subR (by walk_at "sub")
      (repeat' ( (fail_if_success (with_reducible show wpAny _ _ (call (Value.ref _) _) _ _ _)); (fail_if_success (with_reducible show TurnEnd _ _ _ _ _ _ _ _ _)); first | (k_unfold; (try dsimp only)) | (k_end; wrow_close) | walk1 | (dsimp only; walk1) | (leave1; walk_say "STEP leave1"; try dsimp only) | fail "no step"))
      all_goals (
        rename Fr _ _ _ _ => F6
        rename News _ _ _ _ => N6
        refine law_end (pa := ka) (od := kd) (kvs := kv) (t98 := t98) (t91 := t91) (t84 := t84) (t77 := tab') (t70 := t70) hfo F6 N6 ?_ (LawM.ext rfl rfl rfl rfl rfl rfl ?_) ⟨hkd, hkg, hkm, hkb, ?_, by omega, by omega, I.h98, I.h91, I.h84, htab', I.h70, s1, s2, u1, s4, s5, u2, s7, u3, s9, u4⟩ (by (repeat' (first | assumption | (apply Sp.symm; assumption) | refine Sp.app ?_ ?_ | refine Sp.appR ?_ ?_ | ((fail_if_success (with_reducible show Sp [_] _)); refine Sp.cons ?_ ?_) | ((fail_if_success (with_reducible show Sp _ [_])); refine Sp.consR ?_ ?_)))))
      all_goals first
        | (intro y a b c d e f
           repeat' (first | rfl | refine (if_neg (by assumption)).trans ?_)
           done)
        | walk_at "sub"
        | (intro k h1 h2
           rw [hkk]
           exact I.bk k h1 (by omega))
    (repeat' ( (fail_if_success (with_reducible show wpAny _ _ (call (Value.ref _) _) _ _ _)); (fail_if_success (with_reducible show TurnEnd _ _ _ _ _ _ _ _ _)); first | (k_unfold; (try dsimp only)) | (k_end; wrow_close) | walk1 | (dsimp only; walk1) | (leave1; walk_say "STEP leave1"; try dsimp only) | fail "no step"))
    rename Fr _ _ _ _ => F4
    rename News _ _ _ _ => N4
    rename ((i : Int).fmod 5 = 0) => ha
    have h5 : i % 5 = 0 := by rw [Int.fmod_eq_emod_of_nonneg _ (by decide)] at ha; omega
    refine law_call ((D2, W.listOf (List.toArray ys0) ys0.length) :: (t98 ++ (t91 ++ (t84 ++ (t77 ++ own))))) (insert_right W0 pa od kvs border spot _ _ _ _ t70 I.hod I.good I.lo I.kb b0 (by omega) hs1 (by omega) (by omega) I.h70) B1 F4 X1 N4 T1 (by rfl) (by decide) (by decide) ?_ ?_ ?_ ?_
    · subst hrest
      walk_at "sub"
    · subst hrest
      walk_at "sub"
    · (repeat' (first | assumption | (apply Sp.symm; assumption) | refine Sp.app ?_ ?_ | refine Sp.appR ?_ ?_ | ((fail_if_success (with_reducible show Sp [_] _)); refine Sp.cons ?_ ?_) | ((fail_if_success (with_reducible show Sp _ [_])); refine Sp.consR ?_ ?_)))
    rintro r1 own1 h5' tk5 F5 N5 ⟨ka, kd, kv, tab', rfl, rfl, htab', hkm, hkd, hkg, hkb, hkk⟩ spR
    clear F4 N4
    dsimp only [List.cons_append] at N5
    have u0 : Sp [(D2, W.listOf (List.toArray ys0) ys0.length)] tab' := (spR.sub (b := [(D2, W.listOf (List.toArray ys0) ys0.length)]) (by walk_at "sub")).subR (fun p hp => .tail _ hp)
    have u1 : Sp t98 tab' := (spR.sub (b := t98) (by walk_at "sub")).subR (fun p hp => .tail _ hp)
    have u2 : Sp t91 tab' := (spR.sub (b := t91) (by walk_at "sub")).subR (fun p hp => .tail _ hp)
    have u3 : Sp t84 tab' := (spR.sub (b := t84) (by walk_at "sub")).subR (fun p hp => .tail _ hp)
    have u4 : Sp t77 tab' := (spR.sub (b := t77) (by walk_at "sub")).subR (fun p hp => .tail _ hp)
    have u5 : Sp own tab' := (spR.sub (b := own) (by walk_at "sub")).subR (fun p hp => .tail _ hp)
    have u6 : Sp own [(ka, kd)] := (spR.sub (b := own) (by walk_at "sub")).subR (by walk_at "sub")
    (repeat' ( (fail_if_success (with_reducible show wpAny _ _ (call (Value.ref _) _) _ _ _)); (fail_if_success (with_reducible show TurnEnd _ _ _ _ _ _ _ _ _)); first | (k_unfold; (try dsimp only)) | (k_end; wrow_close) | walk1 | (dsimp only; walk1) | (leave1; walk_say "STEP leave1"; try dsimp only) | fail "no step"))
    all_goals (
      rename Fr _ _ _ _ => F6
      rename News _ _ _ _ => N6
      refine law_end (pa := ka) (od := kd) (kvs := kv) (t98 := t98) (t91 := t91) (t84 := t84) (t77 := t77) (t70 := tab') hfo F6 N6 ?_ (LawM.ext rfl rfl rfl rfl rfl rfl ?_) ⟨hkd, hkg, hkm, hkb, ?_, by omega, by omega, I.h98, I.h91, I.h84, I.h77, htab', s1, s2, s3, u1, s5, s6, u2, s8, u3, u4⟩ (by (repeat' (first | assumption | (apply Sp.symm; assumption) | refine Sp.app ?_ ?_ | refine Sp.appR ?_ ?_ | ((fail_if_success (with_reducible show Sp [_] _)); refine Sp.cons ?_ ?_) | ((fail_if_success (with_reducible show Sp _ [_])); refine Sp.consR ?_ ?_)))))
    all_goals first
      | (intro y a b c d e f
         repeat' (first | rfl | refine (if_neg (by assumption)).trans ?_)
         done)
      | walk_at "sub"
      | (intro k h1 h2
         rw [hkk]
         by_cases hk : k ≤ border
         · exact .inl (I.bk k h1 hk)
         · exact .inr (.inr ⟨by omega, by omega⟩))
  · rintro g h9 tk9 m9 nw9 F9 N9 ⟨pa9, od9, kvs9, b9, tb9, o1, o2, o3, o4, t98, t91, t84, t77, t70, rfl, rfl, I⟩
    unfold LawM at F9
    iterate 3 (first | walk1 | (dsimp only; walk1))
    refine ⟨?_, ?_⟩
    · clear I N9 hod13 hkvs0 hlen0 hrs hrk hod lk lk2 hI4 hC4 hL4 l4 hI14 hC14 hL14 l14 hws14 J0good J0kb J0bk N14 F14 hws4 hpm off9 hmv1 hmv2 hmv3
      w_end
      (show GoodW _ _ _ _ _ (.ok (.ret (.bool _))) _)
      refine goodW_bool (by assumption) (by assumption) (raisesW_false ?_) ?_
      · wrow_none_raised
      · first | rfl | decide | kernel_rfl
    · have g1 : ∀ {P : Addr} {l c : Nat} {q : Str} {t : List (Addr × Obj)}, Tab1 P l c q t → (∀ p ∈ t, p ∈ (pa9, od9) :: (D2, W.listOf (List.toArray ys0) ys0.length) :: (t98 ++ (t91 ++ (t84 ++ (t77 ++ t70))))) → GrownAt P h9 := by
        intro P l c q t ht hm
        rcases ht with rfl | ⟨_, _, _, _, rfl, _⟩
        · exact GrownAt.of N9 (hm _ (.head _))
        · exact GrownAt.of N9 (hm _ (.head _))
      have g2 : ∀ {P : Addr} {l c l2 c2 : Nat} {q q2 : Str} {t : List (Addr × Obj)}, Tab2 P l c q l2 c2 q2 t → (∀ p ∈ t, p ∈ (pa9, od9) :: (D2, W.listOf (List.toArray ys0) ys0.length) :: (t98 ++ (t91 ++ (t84 ++ (t77 ++ t70))))) → GrownAt P h9 := by
        intro P l c l2 c2 q q2 t ht hm
        rcases ht with rfl | ⟨_, _, _, _, _, _, _, _, rfl, _⟩
        · exact GrownAt.of N9 (hm _ (.head _))
        · exact GrownAt.of N9 (hm _ (.head _))
      exact ⟨g1 I.h98 (by walk_at "sub"), g1 I.h91 (by walk_at "sub"), g1 I.h84 (by walk_at "sub"), g2 I.h77 (by walk_at "sub"), g2 I.h70 (by walk_at "sub"), trivial⟩)
end
end
end Mine
theorem PySem.Challenge.cw_nt0625_01_holds : PySem.Challenge.rw_nt0625_01.Holds :=
  Mine.walked
