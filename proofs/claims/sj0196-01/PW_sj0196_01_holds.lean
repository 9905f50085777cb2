import PyProof.Rows.All
import Wide.All
import OpenK.AllK
import Wide.FinOn
import Lean
import PySem.Challenge.RW_sj0196_01
open PySem PySem.W PyProof.Rows
set_option Elab.async false
set_option linter.all false
set_option compiler.extract_closed false
namespace Mine
section headrun
variable {tb : String → Option Builtin} {p : Program} {w : World} {n₀ : Nat} {ann : Option Value}
/-- the run of a top over a tree of objects, in one go -/
noncomputable def topRunT (tb : String → Option Builtin) (p : Program) (w : World) (n₀ : Nat) (ann : Option Value) : Nat → SharedT → Thread → Option SharedT
  | 0, _, _ => none
  | n + 1, s, t => match through t with
    | true => some s
    | false => match stepOk n₀ ann t with
      | false => none
      | true => match stepT (denote tb) p w s t with
        | some (s', t') => topRunT tb p w n₀ ann n s' t'
        | none => none
theorem topRunT_of : ∀ {n : Nat} {s s' : SharedT} {t : Thread}, topRunT tb p w n₀ ann n s t = some s' → topRun tb p w n₀ ann n s.abs t = some s'.abs
  | 0, _, _, _, h => by cases h
  | n + 1, s, s', t, h => by
    unfold topRunT at h
    unfold topRun
    cases ht : through t with
    | true => rw [ht] at h; cases h; rfl
    | false =>
      rw [ht] at h
      dsimp only at h ⊢
      cases hs : stepOk n₀ ann t with
      | false => rw [hs] at h; cases h
      | true =>
        rw [hs] at h
        dsimp only at h ⊢
        cases he : stepT (denote tb) p w s t with
        | none => rw [he] at h; cases h
        | some r =>
          obtain ⟨s2, t2⟩ := r
          rw [he] at h
          rw [stepT_spec he]
          exact topRunT_of h
noncomputable def insAll : BT → Nat → List Obj → BT
  | t, _, [] => t
  | t, n, o :: l => insAll (t.ins n o) (n + 1) l
noncomputable def bootT (P : Params) : BT := insAll .nil 0 (boot_heap P).objs.toList
noncomputable def startT (w : World) (os : OsState) : SharedT := ⟨bootT w.params, (boot_heap w.params).objs.size, (boot_heap w.params).life, Array.mk [], boot_drawn, boot_toks, os⟩
theorem startT_abs (w : World) (os : OsState) : (startT w os).abs = ⟨boot_heap w.params, Array.mk [], boot_drawn, boot_toks, os⟩ := by kernel_rfl
noncomputable def runAll (p : Program) (w : World) (N : Nat) (os : OsState) : Option SharedT := topRunT treeTable p w (boot_heap w.params).objs.size ((boot_heap w.params).nsMap mainGlobals "__annotations__") N (startT w os) (topStub p)
theorem boot_ns (w : World) : ((boot_heap w.params).isNs mainGlobals && (Array.mk [] : Array GenState).size == 0) = true := by kernel_rfl
theorem left_once {q : Program} {loose : List Str} {Xt : Shared → Bool} {α : Type} {Yf : Shared → α} {Ya : World → α} {N : Nat} {g0 : Bool} (e : opening p = plainProg p.main.scope.names) (hN : Nat.ble 600 N = true) (f : ∀ s, fenceModules? p s = some s)
    (l1 : ∀ (w : World) (os : OsState), (runAll p w N os).map (fun s => staticsOk (importedModules p.main.body) (boot_heap w.params) s.abs.heap && namesBound p s.abs.heap && gensDone s.abs && laidKept (boot_heap w.params) s.abs.heap) = some true)
    (l2 : ∀ (w : World) (os : OsState), (runAll p w N os).map (fun s => openSeen q loose (importedModules p.main.body) Xt g0 s.abs) = some (openGood q loose))
    (l3 : ∀ (w : World) (os : OsState), (runAll p w N os).map (fun s => Yf s.abs) = some (Ya w)) : LeftO p q loose Xt Yf Ya N g0 := fun w => by
  obtain ⟨⟨h, gs, d, k, os⟩, ef, e'⟩ := Option.map_eq_some_iff.mp (boot_open e hN f w)
  obtain ⟨rfl, rfl, rfl, rfl⟩ : h = boot_heap w.params ∧ gs = Array.mk [] ∧ d = boot_drawn ∧ k = boot_toks := by simpa using e'
  obtain ⟨s1, r1, z1⟩ := Option.map_eq_some_iff.mp (l1 w os)
  obtain ⟨s2, r2, z2⟩ := Option.map_eq_some_iff.mp (l2 w os)
  obtain ⟨s3, r3, z3⟩ := Option.map_eq_some_iff.mp (l3 w os)
  rw [r1] at r2 r3
  cases r2
  cases r3
  have r := topRunT_of r1
  rw [startT_abs] at r
  have t : topFrom treeTable p w N ⟨boot_heap w.params, Array.mk [], boot_drawn, boot_toks, os⟩ = some s1.abs := by
    unfold topFrom
    dsimp only
    rw [boot_ns, r]
    show (match staticsOk (importedModules p.main.body) (boot_heap w.params) s1.abs.heap && namesBound p s1.abs.heap && gensDone s1.abs && laidKept (boot_heap w.params) s1.abs.heap with | true => _ | false => _) = _
    rw [z1]
  unfold openEnds
  rw [ef]
  show (topFrom treeTable p w N _).map _ = _
  rw [t]
  exact congrArg some (Prod.ext z2 z3)
theorem map3 {α β γ δ : Type} {r : Option α} {a : α → β} {b : α → γ} {c : α → δ} {A : β} {B : γ} {C : δ} (h : r.map (fun s => (a s, b s, c s)) = some (A, B, C)) : r.map a = some A ∧ r.map b = some B ∧ r.map c = some C := by
  cases r with
  | none => cases h
  | some s =>
    have h' := Option.some.inj h
    exact ⟨congrArg some (Prod.mk.inj h').1, congrArg some (Prod.mk.inj (Prod.mk.inj h').2).1, congrArg some (Prod.mk.inj (Prod.mk.inj h').2).2⟩
end headrun
section stage
local macro_rules | `(tactic| first | refine $t:term | fail $_s:str) => `(tactic| (refine $t:term; all_goals exact (by assumption : ∀ P : Prop, P) _))
set_option maxRecDepth 100000 in
set_option maxHeartbeats 8000000 in
/-- a theorem of no weight (its premise is false): it makes the two constants that the head speaks of -/
theorem stage (h : ∀ P : Prop, P) : PySem.Challenge.rw_sj0196_01.Holds := by
  w_on
  refine holds_law (h _) (fun _ => ?_)
  k_head
end stage
section left
set_option maxRecDepth 100000
set_option maxHeartbeats 0
noncomputable abbrev prog0 : Program := PySem.Challenge.rw_sj0196_01.row.prog
noncomputable abbrev loose0 : List Str := [Str.ofString "SnobolError", Str.ofString "plain_count"]
noncomputable def obsAs : List Addr := [2,3,15,18,23,24,25,27,28,30,31,32,33,34,35,45,46,47,48,49,59,61,62,64,65,66,67,68,69,70,80,82,83,85,86,87,88,89,90,91,101,103,104,106,107,108,109,110,111,112,115,117,118,120,121,122,124,125,127,128,129,131,132,134,135,136,138,139,141,142,143,145,146,148,149,150,152,153,155,156,157,159,160,162,163,164,165,166,167,169,170,172,173,174,176,177,179,180,181,183,184,186,187,188,190,191,193,194,195,197,198,200,201,202,204,205,207,208,209,211,212,214,215,216,218,219,221,222,223,225,226,228,229,230,232,233,235,236,237,239,240,242,243,244,246,247,249,250,251,253,254,256,257,258,260,261,263,264,265,267,268,270,271,272,274,275,277,278,279,281,282,284,285,286,288,289,291,292,293,295,296,298,299,300,302,303,305,306,307,309,310,312,313,314,316,317,319,320,321,323,324,326,327,328,330,331,333,334,335,337,338,340,341,342,344,345,347,348,349,351,352,354,355,356,358,359,361,362,363,365,366,368,369,377,379,380,382,383,384,386,387,389,390,391,393,394,396,397,398,400,401,403,404,405,406,407,408,409,412,414,415,417,418,419,422,423,424,426,427,429,430,431,434,435]
theorem obsAs_eq (P : Params) : obsAs = (stage.heap_1 P).map (·.1) := by kernel_rfl
theorem left123 (w : World) (os : OsState) : (runAll prog0 w 5780 os).map (fun s => (staticsOk (importedModules prog0.main.body) (boot_heap w.params) s.abs.heap && namesBound prog0 s.abs.heap && gensDone s.abs && laidKept (boot_heap w.params) s.abs.heap,
    openSeen stage.view_1 loose0 (importedModules prog0.main.body) (fun s => xlAt stage.view_1 [] s && recOk (RowW.records PySem.Challenge.rw_sj0196_01.row.toRowW) s) true s.abs, obsAs.map s.abs.heap.get?)) =
    some (true, openGood stage.view_1 loose0, (stage.heap_1 w.params).map fun p => some p.2) := by kernel_rfl
theorem left0 : LeftO prog0 stage.view_1 loose0 (fun s => xlAt stage.view_1 [] s && recOk (RowW.records PySem.Challenge.rw_sj0196_01.row.toRowW) s) (Hook.obs (kHook stage.heap_1 obsAs obsAs_eq)) (Hook.val (kHook stage.heap_1 obsAs obsAs_eq)) 5780 := left_once (by kernel_rfl) (by kernel_rfl) (fun s => by kernel_rfl) (fun w os => (map3 (left123 w os)).1) (fun w os => (map3 (left123 w os)).2.1) (fun w os => (map3 (left123 w os)).2.2)
end left
section top
set_option maxRecDepth 100000 in
set_option maxHeartbeats 0 in
theorem said0 : OpenLaw.wellSaid PySem.Challenge.rw_sj0196_01 = true := by kernel_rfl
local macro_rules | `(tactic| o_law) => `(tactic| refine holds_law said0 (fun said => ?_))
local macro_rules | `(tactic| k_head) => `(tactic| o_head (kHook stage.heap_1 obsAs obsAs_eq))
local macro_rules | `(tactic| first | refine $t:term | fail $_s:str) => `(tactic| (refine $t:term; focus exact left0))
set_option maxRecDepth 100000 in
set_option maxHeartbeats 8000000 in
open_top hd for PySem.Challenge.rw_sj0196_01
end top
end Mine
open PySem.Spec PySem.Calls
namespace Mine
section
noncomputable abbrev tupObj (vs : List Value) : Obj := { cls := .type "tuple", data := .seq vs.toArray 0 }
noncomputable abbrev hostD (h1 h2 h3 h4 h5 h6 : Int) (t1 t2 t2' t3 t4 t4' t5 t5' t6 : Tok) (xv xr xl : Addr) (lim k : Int) : Obj :=
  dictOf [⟨h1, .str (Str.ofString "values") t1, .ref xv⟩, ⟨h2, .str (Str.ofString "limit") t2, .int lim t2'⟩, ⟨h3, .str (Str.ofString "refused") t3, .ref xr⟩,
    ⟨h4, .str (Str.ofString "width") t4, .int 64 t4'⟩, ⟨h5, .str (Str.ofString "steps") t5, .int k t5'⟩, ⟨h6, .str (Str.ofString "log") t6, .ref xl⟩] 6
noncomputable abbrev refD (h1 h2 h3 : Int) (t1 t2 t3 t1' t3' : Tok) (key : Str) : Obj :=
  dictOf [⟨h1, .str (Str.ofString "kind") t1, .str (Str.ofString "var") t1'⟩, ⟨h2, .str (Str.ofString "owner") t2, .none⟩, ⟨h3, .str (Str.ofString "key") t3, .str key t3'⟩] 3
/-- what the tuples' part of the ledger holds: tuples, and a fixed set of other objects that nothing changes -/
noncomputable def OkT (stat : List (Addr × Obj)) (p : Addr × Obj) : Prop := p.2.cls = .type "tuple" ∨ p ∈ stat
noncomputable def Tups (l : List (Addr × Obj)) : Prop := ∀ p ∈ l, p.2.cls = .type "tuple"
theorem Tups.nil : Tups [] := fun _ h => nomatch h
theorem Tups.cons {p : Addr × Obj} {l : List (Addr × Obj)} (h : p.2.cls = .type "tuple") (hl : Tups l) : Tups (p :: l) := List.forall_mem_cons.mpr ⟨h, hl⟩
theorem sepT {h₀ h : Heap} {L x : Addr} {o : Obj} {n : String} {news tups stat : List (Addr × Obj)} (N : News h₀ L h news) (hx : (x, o) ∈ news) (ho : o.cls = .type n) (hn : n ≠ "tuple") (hsub : ∀ p ∈ tups, p ∈ news)
    (hok : ∀ p ∈ tups, OkT stat p) (hs : ∀ p ∈ stat, p.1 ≠ x) : ∀ p ∈ tups, p.1 ≠ x := by
  intro p hp e
  rcases hok p hp with h1 | h1
  · have g1 := (N p (hsub p hp)).1
    have g2 := (N _ hx).1
    rw [e, g2] at g1
    have e2 := Option.some.inj g1
    rw [← e2] at h1
    rw [ho] at h1
    exact hn (Value.type.inj h1)
  · exact hs p h1 e
theorem re4 {α : Type} {tl tups : List α} {a b c d : α} : ∀ p ∈ a :: b :: c :: d :: (tl ++ tups), p ∈ tl ++ (a :: b :: c :: d :: tups) := by
  intro p hp
  simp only [List.mem_cons, List.mem_append] at hp ⊢
  rcases hp with h | h | h | h | h | h <;> simp [h]
theorem news4 {h₀ h : Heap} {L : Addr} {a b c d : Addr × Obj} (tl junk : List (Addr × Obj)) {tups l : List (Addr × Obj)} (N : News h₀ L h l) (e : l = tl ++ junk ++ (a :: b :: c :: d :: tups)) :
    News h₀ L h (a :: b :: c :: d :: (tl ++ (junk ++ tups))) := kst_newsOf N (by subst e; rw [← List.append_assoc]; exact re4)
noncomputable abbrev patD (h : Int) (t : Tok) (nd : Addr) : Obj := dictOf [⟨h, .str (Str.ofString "node") t, .ref nd⟩] 1
section rules
variable {prog : Program} {w : World} {A A₀ : Around} {E : Value → Shared → Prop} {s : Shared} {K : Frag} {h₀ base : Heap} {L : Addr} {m mg mb : Str → Option Value} {news : List (Addr × Obj)} {p : Program} {loose : List Str} {mean : ExcName → Option Value}
theorem code_o {env : Env} {outer : List Env} {R : Result → Shared → Prop} {name qual : Str} {params : Arguments} {body : List Stmt} {scope : Scope} {dV kV doc pm cdv ct oc : Value} {an od : Option Addr} {osl : Array (Option Value)} {f : Addr} {args : Args} {binds : List (Str × Value)}
    (hA : A.frames = some (env :: outer)) (hf : env.frame = some L) (hke : env.scope.kind = .function) (B : Below A₀ base outer h₀) (F : Fr h₀ L s.heap m) (X₀ : K.In h₀) (N : News h₀ L s.heap news) (T : Top p loose mean mg mb h₀)
    (ho : K.lookup f = some ⟨oc, od, .func (fnOf name qual params body scope dV kV doc pm an cdv ct), osl⟩) (hcd : codeIn K cdv qual = true) (hroom : A.depth < recursionLimit)
    (hbind : bindArgs (fnOf name qual params body scope dV kV doc pm an cdv ct) args = pure binds) (hcell : ∀ x ∈ scope.names, x.2 ≠ .cell)
    (hloc : (binds.all fun x => decide (scope.names.lookup x.1 = some .local)) = true) (hco : scope.isCoroutine = false) (hgen : scope.isGenerator = false) (hk : scope.kind = .function)
    (h : ∀ g L' h₁, Fr h₀ L g m → Fr g L' h₁ (fun y => binds.reverse.lookup y) → News g L' h₁ news → Below A base (env :: outer) g → K.In g → Top p loose mean mg mb g →
      wpAny (model prog w) (A.deeper (envOf qual scope L' f cdv)) (execs body (envOf qual scope L' f cdv))
        (fun fl s' => LeaveK h₀ L m g R (match fl with | .ret v => v | _ => .none) s')
        (fun e s' => wpAny (model prog w) (A.deeper (envOf qual scope L' f cdv)) (leaving (envOf qual scope L' f cdv) e) (fun _ s'' => R (.error e) s'') (fun e' s'' => R (.error e') s'') s')
        { s with heap := h₁, toks := s.toks + binds.length }) : codeAny (model prog w) A (.call (.ref f) args) R s :=
  code_def B F X₀ N T hA hf hke ho hcd hroom (.of_eq hbind) (locs hloc) h hco hgen hk hcell
theorem in_topT {t : Addr} {items : Array Value} {n : Nat} {dd : Option Addr} {sl : Array (Option Value)} {ys : List Str} {x : Str} {u : Tok} {Q : Value → Shared → Prop} (b : Bool) (F : Fr h₀ L s.heap m) (X₀ : K.In h₀) (ho : K.lookup t = some { cls := .type "tuple", dict := dd, data := .seq items n, slots := sl })
    (hi : StrsAre items.toList ys) (hb : ys.any (· == x) = b) (h : Q (.bool b) s) : wpAny (model prog w) A (compareOp .In (.str x u) (.ref t)) Q E s := in_tuple_strs (kun_topT F X₀ ho) hi (hb ▸ h)
theorem notin_topT {t : Addr} {items : Array Value} {n : Nat} {dd : Option Addr} {sl : Array (Option Value)} {ys : List Str} {x : Str} {u : Tok} {Q : Value → Shared → Prop} (b : Bool) (F : Fr h₀ L s.heap m) (X₀ : K.In h₀) (ho : K.lookup t = some { cls := .type "tuple", dict := dd, data := .seq items n, slots := sl })
    (hi : StrsAre items.toList ys) (hb : (!(ys.any (· == x))) = b) (h : Q (.bool b) s) : wpAny (model prog w) A (compareOp .NotIn (.str x u) (.ref t)) Q E s := notin_tuple_strs (kun_topT F X₀ ho) hi (hb ▸ h)
theorem in_empty {l : Addr} {n : Nat} {k : Str} {t : Tok} {Q : Value → Shared → Prop} (N : News h₀ L s.heap news) (hm : (l, listOf #[] n) ∈ news)
    (h : Q (.bool false) s) : wpAny (model prog w) A (compareOp .In (.str k t) (.ref l)) Q E s :=
  in_list_strs (vs := []) (ys := []) (News.isList N hm) .nil h
theorem get_s {d : Addr} {o : Obj} {kvs : List (Str × Value)} {k : Str} {t : Tok} {dflt : Value} {Q : Value → Shared → Prop} (N : News h₀ L s.heap news) (hp : (d, o) ∈ news) (hd : o.IsDictOf (PySem.strKind prog w) kvs) (lo : (d == sysModules) = false) (x : Value)
    (hl : valueAt kvs k = some x) (h : Q x { s with toks := s.toks + 1 }) : wpAny (model prog w) A (call (.builtin "dict.get") [.ref d, .str k t, dflt]) Q E s := kdg_get2 (knd := PySem.strKind _ _) N hp hd lo (strKind_is _ _ _ _) (some x) hl h
theorem set_s {d : Addr} {o : Obj} {g : Obj → List (Addr × Obj)} {kvs : List (Str × Value)} {k : Str} {t : Tok} {v : Value} {Q : Unit → Shared → Prop} (F : Fr h₀ L s.heap m) (N : News h₀ L s.heap news) (U : UpdF d o news g) (hd : o.IsDictOf (PySem.strKind prog w) kvs) (hsz : kvs.length ≤ 300000)
    (h : ∀ h' o', Fr h₀ L h' m → News h₀ L h' (g o') → o'.IsDictOf (PySem.strKind prog w) (stored kvs k v) → Q () { s with heap := h', toks := s.toks + 1 }) : wpAny (model prog w) A (setItem (.ref d) (.str k t) v) Q E s :=
  kda_set (knd := PySem.strKind _ _) F N U hd (strKind_is _ _ _ _) (by rw [sizeLine_eq]; omega) h
theorem of_cons {α : Type} {a b : α} {l : List α} (h : a ∈ b :: l) : a ∈ b :: l := h
end rules
noncomputable def Hold (P : Prop) : Prop := P
theorem Hold.out {P : Prop} (h : Hold P) : P := h
theorem allLt_mem {d : Addr} {l : List (Addr × Obj)} (h : AllLt d l) : ∀ p ∈ l, @LT.lt Nat _ p.1 d := by
  induction l with
  | nil => intro p hp; cases hp
  | cons a l ih =>
    obtain ⟨h1, h2⟩ := h
    intro p hp
    rcases List.mem_cons.mp hp with e | hp
    · rw [e]; exact h1
    · exact ih h2 p hp
theorem fr0 {a : Addr} {l : List (Addr × Obj)} (h : AllLt a l) : ∀ q ∈ l, q.1 ≠ a := fun q hq => Nat.ne_of_lt (allLt_mem h q hq)
theorem rng {a b : Int} (n : Nat) (ha : 0 ≤ a) (hb : b = a + n) (hc : b ≤ 1000000) : Builtin.Range.small a b 1 = true ∧ Builtin.Range.rangeSize a b 1 = n := by
  subst hb
  have h1 : a ≤ a + n := Int.le_add_of_nonneg_right (Int.natCast_nonneg n)
  refine ⟨small_one (Int.le_trans (by decide) ha) (Int.lt_of_le_of_lt (Int.le_trans h1 hc) (by decide)) (Int.le_trans (by decide) (Int.le_trans ha h1)) (Int.lt_of_le_of_lt hc (by decide)), ?_⟩
  rw [rangeSize_nat, Int.add_comm, Int.add_sub_cancel]
  rfl
theorem rng_be {b e : Nat} (hb : b ≤ 10) (he : e ≤ 10) : Builtin.Range.small ((b : Int) + 1) ((e : Int) + 1) 1 = true ∧ Builtin.Range.rangeSize ((b : Int) + 1) ((e : Int) + 1) 1 = ((e - b : Nat) : Int) :=
  ⟨small_one (by omega) (by omega) (by omega) (by omega), by rw [rangeSize_nat, Int.add_sub_add_right, Int.toNat_sub]⟩
theorem zadd (i : Nat) : (0 : Int) + (i : Int) = (i : Int) := Int.zero_add _
section holds
variable {prog : Program} {w : World} {A : Around} {Q : Value → Shared → Prop} {E : Value → Shared → Prop} {s : Shared}
theorem hold_call {n : Nat} {args : List Value} (ns : List Nat) (_ : ns.contains n = true) (h : Hold (wpAny (model prog w) A (call (.ref n) args) Q E s)) : wpAny (model prog w) A (call (.ref n) args) Q E s := h
theorem hold_iter {x : Addr} {p : Program} {v : World} {B : Around} {h₀ : Heap} {env : Env} {y : Str} {body : List Stmt} {R : Flow → Shared → Prop} {F : Value → Shared → Prop} (h : Hold (wpAny (model prog w) A (pyIter (.ref x)) (fun it s₂ => LoopAtV p v B h₀ env y body R F it s₂) E s)) :
    wpAny (model prog w) A (pyIter (.ref x)) (fun it s₂ => LoopAtV p v B h₀ env y body R F it s₂) E s := h
end holds

local macro_rules | `(tactic| walk_at "spliced") => `(tactic| ((with_reducible refine spliced_none ?_); simp only [List.cons_append, List.nil_append]))
local macro_rules | `(tactic| k_all) => `(tactic| assumption)
local macro_rules | `(tactic| k_mem) => `(tactic| ((fail_if_success (with_reducible refine of_cons ?_)); assumption))
local macro_rules | `(tactic| walk_at "memx") => `(tactic| first | exact List.Mem.head _ | (refine List.Mem.tail _ ?_; walk_at "memx"))
local macro_rules | `(tactic| k_room) => `(tactic| ((simp only [depth_under_make, depth_under_kw, depth_in1, depth_deeper, ktrTop]); omega))
local macro_rules | `(tactic| ktr_units) => `(tactic| ((simp only [units_in1, units_deeper, Around.mark_units, ktrTop]); omega))
local macro_rules | `(tactic| walk_at "okT") => `(tactic| first | exact Tups.nil | (refine Tups.cons rfl ?_; walk_at "okT"))
local macro_rules | `(tactic| walk_at "code") => `(tactic| (refine code_o (by exact rfl) (by exact rfl) (by first | assumption | exact rfl) (by k_asm) (by k_asm) (by k_asm) (by k_asm) (by k_asm) (by k_is) (by k_is) (by k_room) (by exact rfl) (by decide) (by exact rfl) (by exact rfl) (by exact rfl) (by exact rfl) ?_; k_whole; intros; (try dsimp only); (try k_fold)))
local macro_rules | `(tactic| walk_at "enter") => `(tactic| (k_here; refine wpAny_call ?_; k_dflt walk_at "code"))
local macro_rules | `(tactic| walk_at "call ref") => `(tactic| walk_at "enter")
local macro_rules | `(tactic| walk_at "call ref") => `(tactic| (k_here; k_dflt (refine call_cls (by k_asm) (by k_asm) (by k_asm) (by k_is) (by k_is) (by k_is) ?_; k_whole; intro x' d' h' F' N' l1 l2; (try k_lt l1); (try k_lt2 l2); (try k_sweep); walk_at "code")))
local macro_rules | `(tactic| walk_at "compareOp NotIn str ref") => `(tactic| (k_here; k_dflt (first
  | refine notin_topT true (by k_asm) (by k_asm) (by k_is) (by kde_strs) (by decide) ?_
  | refine notin_topT false (by k_asm) (by k_asm) (by k_is) (by kde_strs) (by decide) ?_)))
local macro_rules | `(tactic| walk_at "compareOp In str ref") => `(tactic| (k_here; k_dflt (first
  | refine in_empty (by k_asm) (by k_mem) ?_
  | refine in_topT true (by k_asm) (by k_asm) (by k_is) (by kde_strs) (by decide) ?_
  | refine in_topT false (by k_asm) (by k_asm) (by k_is) (by kde_strs) (by decide) ?_)))
local macro_rules | `(tactic| walk_at "call builtin:dict.get") => `(tactic| (k_here; k_dflt (refine get_s (by k_asm) (by k_mem) (by k_asm) (by k_asm) _ (by assumption) ?_)))
local macro_rules | `(tactic| walk_at "setItem ref str") => `(tactic| (k_here; k_dflt (refine set_s (by k_asm) (by k_asm) (by k_updF) (by k_asm) (by omega) ?_); intro h' o' F' N' hd'; (try dsimp only at N')))
local macro_rules | `(tactic| walk_at "fr") => `(tactic| first | assumption | (apply And.right; walk_at "fr"))
local macro_rules | `(tactic| walk_at "fresh") => `(tactic| (refine fr0 ?_; walk_at "fr"))
local macro_rules | `(tactic| walk_at "stop") => `(tactic| refine Hold.out ?_)
local macro_rules | `(tactic| walk_at "iter") => `(tactic| with_reducible refine hold_iter ?_)

section adv
variable {w : World} {mean : ExcName → Option Value} {mg mb : Str → Option Value} {dp un : Nat} {gd : Option (List Code)} {cn : Str} {cs : Scope} {L a : Addr} {ccd : Value} {cl : List (Str × Addr)} {outer : List Env} {A₀ : Around} {base h₀ : Heap} {m : Str → Option Value} {s : Shared} {Q E : Value → Shared → Prop}
  {xh xd xv xl xp xr c nd : Addr} {h1 h2 h3 h4 h5 h6 : Int} {t1 t2 t2' t3 t4 t4' t5 t5' t6 : Tok} {od : Obj} {kvs : List (Str × Value)} {log items : List Value} {nl np : Nat} {lim k at_ : Int} {tups stat : List (Addr × Obj)} {tk ta ts : Tok} {named rest : Value} {subj : Str}
variable (B : Below A₀ base outer h₀) (F : Fr h₀ L s.heap m) (X : (stage.heap_1 w.params).In h₀)
  (N : News h₀ L s.heap ((xd, hostD h1 h2 h3 h4 h5 h6 t1 t2 t2' t3 t4 t4' t5 t5' t6 xv xr xl lim k) :: (xv, od) :: (xl, listOf log.toArray nl) :: (xp, listOf items.toArray np) :: tups))
  (T : Top hd.view_1 (looseW hd.view_1 [Str.ofString "SnobolError", Str.ofString "plain_count"]) mean mg mb h₀)
  (hk : cs.kind = .function) (hr : dp + 50 < recursionLimit) (hu : un + 200 < cLine)
  (hok : ∀ p ∈ tups, OkT stat p) (hs1 : ∀ p ∈ stat, p.1 ≠ xd) (hs2 : ∀ p ∈ stat, p.1 ≠ xv) (hs3 : ∀ p ∈ stat, p.1 ≠ xl) (hs4 : ∀ p ∈ stat, p.1 ≠ xp)
  (n12 : @Ne Nat xd xv) (n13 : @Ne Nat xd xl) (n14 : @Ne Nat xd xp) (n23 : @Ne Nat xv xl) (n24 : @Ne Nat xv xp) (n34 : @Ne Nat xl xp)
  (hod : od.IsDictOf (PySem.strKind PySem.Challenge.rw_sj0196_01.row.prog w) kvs) (lov : (xv == sysModules) = false) (hkv : kvs.length ≤ 200000) (hll : log.length ≤ 100000) (hpl : items.length ≤ 100000)
  (mh : (xh, instObj 407 xd) ∈ tups) (mr : (xr, listOf #[] 0) ∈ tups) (hc : (c, tupObj [.ref nd, rest]) ∈ tups)
  (hsl : subj.length ≤ 100) (hat : 0 ≤ at_) (hat2 : at_ ≤ subj.length)
include B F X N T hk hr hu hok hs1 hs2 hs3 hs4 n12 n13 n14 n23 n24 n34 hod lov hkv hll hpl mh mr hc hsl hat hat2

set_option maxRecDepth 100000 in
set_option maxHeartbeats 8000000 in
theorem adv1_cat {v1 v2 : Value} (hnd : (nd, tupObj [.str (Str.ofString "cat") tk, v1, v2]) ∈ tups)
  (ret1 : ∀ x y z junk h' tk', Fr h₀ L h' m → News h₀ L h' ((xd, hostD h1 h2 h3 h4 h5 h6 t1 t2 t2' t3 t4 t4' t5 t5' t6 xv xr xl lim k) :: (xv, od) :: (xl, listOf log.toArray nl) :: (xp, listOf items.toArray np) :: ([(x, tupObj [.ref y, .int at_ ta, named]), (y, tupObj [v1, .ref z]), (z, tupObj [v2, rest])] ++ (junk ++ tups))) → Tups junk → Q (.ref x) { s with heap := h', toks := tk' }) :
  wpAny (model PySem.Challenge.rw_sj0196_01.row.prog w) (ktrTop dp un gd cn cs L a ccd cl outer) (call (.ref 341) [.ref c, .int at_ ta, named, .str subj ts, .ref xp, .ref xh]) Q E s := by
  revert X; k_fill; intro X
  have s1 := sepT N (.head _) rfl (by decide) (fun p hp => .tail _ (.tail _ (.tail _ (.tail _ hp)))) hok hs1
  have s2 := sepT N (.tail _ (.head _)) (by obtain ⟨es, ep, ⟨hcls, -⟩, -⟩ := hod; exact hcls) (by decide) (fun p hp => .tail _ (.tail _ (.tail _ (.tail _ hp)))) hok hs2
  have s3 := sepT N (.tail _ (.tail _ (.head _))) rfl (by decide) (fun p hp => .tail _ (.tail _ (.tail _ (.tail _ hp)))) hok hs3
  have s4 := sepT N (.tail _ (.tail _ (.tail _ (.head _)))) rfl (by decide) (fun p hp => .tail _ (.tail _ (.tail _ (.tail _ hp)))) hok hs4
  k_steps
  · rename Fr h₀ L _ _ => F9
    rename News h₀ L _ _ => N9
    exact ret1 _ _ _ [_] _ _ F9 (news4 [_, _, _] [_] N9 rfl) (by walk_at "okT")

set_option maxRecDepth 100000 in
set_option maxHeartbeats 8000000 in
theorem adv1_now {v1 v2 : Value} (hnd : (nd, tupObj [.str (Str.ofString "now") tk, v1, v2]) ∈ tups)
  (ret1 : ∀ x y z u t junk h' tk', Fr h₀ L h' m → News h₀ L h' ((xd, hostD h1 h2 h3 h4 h5 h6 t1 t2 t2' t3 t4 t4' t5 t5' t6 xv xr xl lim k) :: (xv, od) :: (xl, listOf log.toArray nl) :: (xp, listOf items.toArray np) :: ([(x, tupObj [.ref y, .int at_ ta, named]), (y, tupObj [v1, .ref z]), (z, tupObj [.ref u, rest]), (u, tupObj [.str (Str.ofString "end now") t, v2, .int at_ ta])] ++ (junk ++ tups))) → Tups junk → Q (.ref x) { s with heap := h', toks := tk' }) :
  wpAny (model PySem.Challenge.rw_sj0196_01.row.prog w) (ktrTop dp un gd cn cs L a ccd cl outer) (call (.ref 341) [.ref c, .int at_ ta, named, .str subj ts, .ref xp, .ref xh]) Q E s := by
  revert X; k_fill; intro X
  have s1 := sepT N (.head _) rfl (by decide) (fun p hp => .tail _ (.tail _ (.tail _ (.tail _ hp)))) hok hs1
  have s2 := sepT N (.tail _ (.head _)) (by obtain ⟨es, ep, ⟨hcls, -⟩, -⟩ := hod; exact hcls) (by decide) (fun p hp => .tail _ (.tail _ (.tail _ (.tail _ hp)))) hok hs2
  have s3 := sepT N (.tail _ (.tail _ (.head _))) rfl (by decide) (fun p hp => .tail _ (.tail _ (.tail _ (.tail _ hp)))) hok hs3
  have s4 := sepT N (.tail _ (.tail _ (.tail _ (.head _)))) rfl (by decide) (fun p hp => .tail _ (.tail _ (.tail _ (.tail _ hp)))) hok hs4
  k_steps
  · rename Fr h₀ L _ _ => F9
    rename News h₀ L _ _ => N9
    exact ret1 _ _ _ _ _ [_] _ _ F9 (news4 [_, _, _, _] [_] N9 rfl) (by walk_at "okT")

set_option maxRecDepth 100000 in
set_option maxHeartbeats 8000000 in
theorem adv1_enow {rr rd : Addr} {b : Int} {tb : Tok} {g1 g2 g3 : Int} {u1 u2 u3 u1' u3' : Tok} {key : Str} (hnd : (nd, tupObj [.str (Str.ofString "end now") tk, .ref rr, .int b tb]) ∈ tups) (m1 : (rr, instObj 110 rd) ∈ tups) (m2 : (rd, refD g1 g2 g3 u1 u2 u3 u1' u3' key) ∈ tups) (hb : 0 ≤ b) (hb2 : b ≤ at_)
  (ret1 : ∀ x y t od' junk h' tk', Fr h₀ L h' m → News h₀ L h' ((xd, hostD h1 h2 h3 h4 h5 h6 t1 t2 t2' t3 t4 t4' t5 t5' t6 xv xr xl lim k) :: (xv, od') :: (xl, listOf (log.toArray.push (.ref y)) (nl + 1)) :: (xp, listOf items.toArray np) :: ([(x, tupObj [rest, .int at_ ta, named]), (y, tupObj [.str key u3', .str (Txt.slice subj (some b) (some at_)) t])] ++ (junk ++ tups))) → Tups junk → od'.IsDictOf (PySem.strKind PySem.Challenge.rw_sj0196_01.row.prog w) (stored kvs key (.str (Txt.slice subj (some b) (some at_)) t)) → Q (.ref x) { s with heap := h', toks := tk' }) :
  wpAny (model PySem.Challenge.rw_sj0196_01.row.prog w) (ktrTop dp un gd cn cs L a ccd cl outer) (call (.ref 341) [.ref c, .int at_ ta, named, .str subj ts, .ref xp, .ref xh]) Q E s := by
  revert X; k_fill; intro X
  have s1 := sepT N (.head _) rfl (by decide) (fun p hp => .tail _ (.tail _ (.tail _ (.tail _ hp)))) hok hs1
  have s2 := sepT N (.tail _ (.head _)) (by obtain ⟨es, ep, ⟨hcls, -⟩, -⟩ := hod; exact hcls) (by decide) (fun p hp => .tail _ (.tail _ (.tail _ (.tail _ hp)))) hok hs2
  have s3 := sepT N (.tail _ (.tail _ (.head _))) rfl (by decide) (fun p hp => .tail _ (.tail _ (.tail _ (.tail _ hp)))) hok hs3
  have s4 := sepT N (.tail _ (.tail _ (.tail _ (.head _)))) rfl (by decide) (fun p hp => .tail _ (.tail _ (.tail _ (.tail _ hp)))) hok hs4
  k_steps
  · rename Fr h₀ L _ _ => F9
    rename News h₀ L _ _ => N9
    exact ret1 _ _ _ _ [_] _ _ F9 (news4 [_, _] [_] N9 rfl) (by walk_at "okT") (by assumption)

set_option maxRecDepth 100000 in
set_option maxHeartbeats 8000000 in
theorem adv1_cursor {rr rd : Addr} {g1 g2 g3 : Int} {u1 u2 u3 u1' u3' : Tok} {key : Str} (hnd : (nd, tupObj [.str (Str.ofString "cursor") tk, .ref rr]) ∈ tups) (m1 : (rr, instObj 110 rd) ∈ tups) (m2 : (rd, refD g1 g2 g3 u1 u2 u3 u1' u3' key) ∈ tups)
  (ret1 : ∀ x y od' junk h' tk', Fr h₀ L h' m → News h₀ L h' ((xd, hostD h1 h2 h3 h4 h5 h6 t1 t2 t2' t3 t4 t4' t5 t5' t6 xv xr xl lim k) :: (xv, od') :: (xl, listOf (log.toArray.push (.ref y)) (nl + 1)) :: (xp, listOf items.toArray np) :: ([(x, tupObj [rest, .int at_ ta, named]), (y, tupObj [.str key u3', .int at_ ta])] ++ (junk ++ tups))) → Tups junk → od'.IsDictOf (PySem.strKind PySem.Challenge.rw_sj0196_01.row.prog w) (stored kvs key (.int at_ ta)) → Q (.ref x) { s with heap := h', toks := tk' }) :
  wpAny (model PySem.Challenge.rw_sj0196_01.row.prog w) (ktrTop dp un gd cn cs L a ccd cl outer) (call (.ref 341) [.ref c, .int at_ ta, named, .str subj ts, .ref xp, .ref xh]) Q E s := by
  revert X; k_fill; intro X
  have s1 := sepT N (.head _) rfl (by decide) (fun p hp => .tail _ (.tail _ (.tail _ (.tail _ hp)))) hok hs1
  have s2 := sepT N (.tail _ (.head _)) (by obtain ⟨es, ep, ⟨hcls, -⟩, -⟩ := hod; exact hcls) (by decide) (fun p hp => .tail _ (.tail _ (.tail _ (.tail _ hp)))) hok hs2
  have s3 := sepT N (.tail _ (.tail _ (.head _))) rfl (by decide) (fun p hp => .tail _ (.tail _ (.tail _ (.tail _ hp)))) hok hs3
  have s4 := sepT N (.tail _ (.tail _ (.tail _ (.head _)))) rfl (by decide) (fun p hp => .tail _ (.tail _ (.tail _ (.tail _ hp)))) hok hs4
  k_steps
  · rename Fr h₀ L _ _ => F9
    rename News h₀ L _ _ => N9
    exact ret1 _ _ _ [_] _ _ F9 (news4 [_, _] [_] N9 rfl) (by walk_at "okT") (by assumption)

set_option maxRecDepth 100000 in
set_option maxHeartbeats 8000000 in
theorem adv1_fail (hnd : (nd, tupObj [.str (Str.ofString "fail") tk]) ∈ tups)
  (ret1 : ∀ junk h' tk', Fr h₀ L h' m → News h₀ L h' ((xd, hostD h1 h2 h3 h4 h5 h6 t1 t2 t2' t3 t4 t4' t5 t5' t6 xv xr xl lim k) :: (xv, od) :: (xl, listOf log.toArray nl) :: (xp, listOf items.toArray np) :: (junk ++ tups)) → Tups junk → Q .none { s with heap := h', toks := tk' }) :
  wpAny (model PySem.Challenge.rw_sj0196_01.row.prog w) (ktrTop dp un gd cn cs L a ccd cl outer) (call (.ref 341) [.ref c, .int at_ ta, named, .str subj ts, .ref xp, .ref xh]) Q E s := by
  revert X; k_fill; intro X
  have s1 := sepT N (.head _) rfl (by decide) (fun p hp => .tail _ (.tail _ (.tail _ (.tail _ hp)))) hok hs1
  have s2 := sepT N (.tail _ (.head _)) (by obtain ⟨es, ep, ⟨hcls, -⟩, -⟩ := hod; exact hcls) (by decide) (fun p hp => .tail _ (.tail _ (.tail _ (.tail _ hp)))) hok hs2
  have s3 := sepT N (.tail _ (.tail _ (.head _))) rfl (by decide) (fun p hp => .tail _ (.tail _ (.tail _ (.tail _ hp)))) hok hs3
  have s4 := sepT N (.tail _ (.tail _ (.tail _ (.head _)))) rfl (by decide) (fun p hp => .tail _ (.tail _ (.tail _ (.tail _ hp)))) hok hs4
  k_steps
  · rename Fr h₀ L _ _ => F9
    rename News h₀ L _ _ => N9
    exact ret1 [_, _, _] _ _ F9 (news4 [] [_, _, _] N9 rfl) (by walk_at "okT")

set_option maxRecDepth 100000 in
set_option maxHeartbeats 8000000 in
theorem adv1_chars {u1 : Tok} {txt : Str} (hnd : (nd, tupObj [.str (Str.ofString "chars") tk, .str txt u1]) ∈ tups) (htl : txt.length ≤ 100)
  (ret1 : ∀ x t junk h' tk', Fr h₀ L h' m → News h₀ L h' ((xd, hostD h1 h2 h3 h4 h5 h6 t1 t2 t2' t3 t4 t4' t5 t5' t6 xv xr xl lim k) :: (xv, od) :: (xl, listOf log.toArray nl) :: (xp, listOf items.toArray np) :: ([(x, tupObj [rest, .int (at_ + txt.length) t, named])] ++ (junk ++ tups))) → Tups junk → (Txt.slice subj (some at_) (some (at_ + txt.length)) == txt) = true → Q (.ref x) { s with heap := h', toks := tk' })
  (ret2 : ∀ junk h' tk', Fr h₀ L h' m → News h₀ L h' ((xd, hostD h1 h2 h3 h4 h5 h6 t1 t2 t2' t3 t4 t4' t5 t5' t6 xv xr xl lim k) :: (xv, od) :: (xl, listOf log.toArray nl) :: (xp, listOf items.toArray np) :: (junk ++ tups)) → Tups junk → (Txt.slice subj (some at_) (some (at_ + txt.length)) == txt) = false → Q .none { s with heap := h', toks := tk' }) :
  wpAny (model PySem.Challenge.rw_sj0196_01.row.prog w) (ktrTop dp un gd cn cs L a ccd cl outer) (call (.ref 341) [.ref c, .int at_ ta, named, .str subj ts, .ref xp, .ref xh]) Q E s := by
  revert X; k_fill; intro X
  have s1 := sepT N (.head _) rfl (by decide) (fun p hp => .tail _ (.tail _ (.tail _ (.tail _ hp)))) hok hs1
  have s2 := sepT N (.tail _ (.head _)) (by obtain ⟨es, ep, ⟨hcls, -⟩, -⟩ := hod; exact hcls) (by decide) (fun p hp => .tail _ (.tail _ (.tail _ (.tail _ hp)))) hok hs2
  have s3 := sepT N (.tail _ (.tail _ (.head _))) rfl (by decide) (fun p hp => .tail _ (.tail _ (.tail _ (.tail _ hp)))) hok hs3
  have s4 := sepT N (.tail _ (.tail _ (.tail _ (.head _)))) rfl (by decide) (fun p hp => .tail _ (.tail _ (.tail _ (.tail _ hp)))) hok hs4
  k_steps
  · rename Fr h₀ L _ _ => F9
    rename News h₀ L _ _ => N9
    exact ret1 _ _ [_, _] _ _ F9 (news4 [_] [_, _] N9 rfl) (by walk_at "okT") (by assumption)
  · rename Fr h₀ L _ _ => F9
    rename News h₀ L _ _ => N9
    exact ret2 [_, _] _ _ F9 (news4 [] [_, _] N9 rfl) (by walk_at "okT") (by assumption)

set_option maxRecDepth 100000 in
set_option maxHeartbeats 8000000 in
theorem adv1_alt {v1 v2 : Value} (hnd : (nd, tupObj [.str (Str.ofString "alt") tk, v1, v2]) ∈ tups)
  (ret1 : ∀ x y z u junk h' tk', Fr h₀ L h' m → News h₀ L h' ((xd, hostD h1 h2 h3 h4 h5 h6 t1 t2 t2' t3 t4 t4' t5 t5' t6 xv xr xl lim k) :: (xv, od) :: (xl, listOf log.toArray nl) :: (xp, listOf (items ++ [Value.ref z]).toArray (np + 1)) :: ([(x, tupObj [.ref y, .int at_ ta, named]), (y, tupObj [v1, rest]), (z, tupObj [.ref u, .int at_ ta, named]), (u, tupObj [v2, rest])] ++ (junk ++ tups))) → Tups junk → Q (.ref x) { s with heap := h', toks := tk' }) :
  wpAny (model PySem.Challenge.rw_sj0196_01.row.prog w) (ktrTop dp un gd cn cs L a ccd cl outer) (call (.ref 341) [.ref c, .int at_ ta, named, .str subj ts, .ref xp, .ref xh]) Q E s := by
  revert X; k_fill; intro X
  have s1 := sepT N (.head _) rfl (by decide) (fun p hp => .tail _ (.tail _ (.tail _ (.tail _ hp)))) hok hs1
  have s2 := sepT N (.tail _ (.head _)) (by obtain ⟨es, ep, ⟨hcls, -⟩, -⟩ := hod; exact hcls) (by decide) (fun p hp => .tail _ (.tail _ (.tail _ (.tail _ hp)))) hok hs2
  have s3 := sepT N (.tail _ (.tail _ (.head _))) rfl (by decide) (fun p hp => .tail _ (.tail _ (.tail _ (.tail _ hp)))) hok hs3
  have s4 := sepT N (.tail _ (.tail _ (.tail _ (.head _)))) rfl (by decide) (fun p hp => .tail _ (.tail _ (.tail _ (.tail _ hp)))) hok hs4
  k_steps
  · rename Fr h₀ L _ _ => F9
    rename News h₀ L _ _ => N9
    exact ret1 _ _ _ _ [_] _ _ F9 (news4 [_, _, _, _] [_] N9 rfl) (by walk_at "okT")

set_option maxRecDepth 100000 in
set_option maxHeartbeats 8000000 in
theorem adv1_delay {d pv pd nd2 : Addr} {hp : Int} {u1 u2 tp : Tok} {nm : Str} (hnd : (nd, tupObj [.str (Str.ofString "delay") tk, .ref d]) ∈ tups) (m1 : (d, tupObj [.str (Str.ofString "name") u1, .str nm u2]) ∈ tups) (hv : valueAt kvs nm = some (.ref pv)) (m2 : (pv, instObj 68 pd) ∈ tups) (m3 : (pd, patD hp tp nd2) ∈ tups)
  (ret1 : ∀ x y junk h' tk', Fr h₀ L h' m → News h₀ L h' ((xd, hostD h1 h2 h3 h4 h5 h6 t1 t2 t2' t3 t4 t4' t5 t5' t6 xv xr xl lim k) :: (xv, od) :: (xl, listOf log.toArray nl) :: (xp, listOf items.toArray np) :: ([(x, tupObj [.ref y, .int at_ ta, named]), (y, tupObj [.ref nd2, rest])] ++ (junk ++ tups))) → Tups junk → Q (.ref x) { s with heap := h', toks := tk' }) :
  wpAny (model PySem.Challenge.rw_sj0196_01.row.prog w) (ktrTop dp un gd cn cs L a ccd cl outer) (call (.ref 341) [.ref c, .int at_ ta, named, .str subj ts, .ref xp, .ref xh]) Q E s := by
  revert X; k_fill; intro X
  have s1 := sepT N (.head _) rfl (by decide) (fun p hp => .tail _ (.tail _ (.tail _ (.tail _ hp)))) hok hs1
  have s2 := sepT N (.tail _ (.head _)) (by obtain ⟨es, ep, ⟨hcls, -⟩, -⟩ := hod; exact hcls) (by decide) (fun p hp => .tail _ (.tail _ (.tail _ (.tail _ hp)))) hok hs2
  have s3 := sepT N (.tail _ (.tail _ (.head _))) rfl (by decide) (fun p hp => .tail _ (.tail _ (.tail _ (.tail _ hp)))) hok hs3
  have s4 := sepT N (.tail _ (.tail _ (.tail _ (.head _)))) rfl (by decide) (fun p hp => .tail _ (.tail _ (.tail _ (.tail _ hp)))) hok hs4
  k_steps
  · rename Fr h₀ L _ _ => F9
    rename News h₀ L _ _ => N9
    exact ret1 _ _ [_] _ _ F9 (news4 [_, _] [_] N9 rfl) (by walk_at "okT")
end adv
section
/-! the matcher as plain Lean (law 1): nodes, one step; the named patterns are a function that nothing changes -/
inductive Pat where
  | cat (a b : Pat) | alt (a b : Pat) | now (a : Pat) (key : Str) | enow (key : Str) (b : Int) | cursor (key : Str) | delay (nm : Str)
  | fail | chars (t : Str)
inductive Val where
  | str (s : Str) | int (i : Int)
noncomputable abbrev Way := List Pat × Int
structure St where
  log : List (Str × Val)
  pile : List Way
noncomputable def St.note (st : St) (k : Str) (v : Val) : St := { st with log := st.log ++ [(k, v)] }
noncomputable def St.push (st : St) (w : Way) : St := { st with pile := st.pile ++ [w] }
/-- one call of «advanced»: none where this model has nothing to say -/
noncomputable def adv (G : Str → Option Pat) (subj : Str) (p : Pat) (rest : List Pat) (at_ : Int) (st : St) : Option (Option Way × St) :=
  if 0 ≤ at_ ∧ at_ ≤ subj.length then
    match p with
    | .cat a b => some (some (a :: b :: rest, at_), st)
    | .alt a b => some (some (a :: rest, at_), st.push (b :: rest, at_))
    | .now a k => some (some (a :: .enow k at_ :: rest, at_), st)
    | .enow k b => if 0 ≤ b ∧ b ≤ at_ ∧ (G k).isNone = true then some (some (rest, at_), st.note k (.str (Txt.slice subj (some b) (some at_)))) else none
    | .cursor k => if (G k).isNone = true then some (some (rest, at_), st.note k (.int at_)) else none
    | .delay nm => match G nm with
      | some p => some (some (p :: rest, at_), st)
      | none => none
    | .fail => some (none, st)
    | .chars t => if t.length ≤ 100 then (if (Txt.slice subj (some at_) (some (at_ + t.length)) == t) = true then some (some (rest, at_ + t.length), st) else some (none, st)) else none
  else none
theorem adv_grow {G : Str → Option Pat} {subj : Str} {p : Pat} {rest : List Pat} {i : Int} {st st' : St} {r : Option Way} (h : adv G subj p rest i st = some (r, st')) : st'.log.length ≤ st.log.length + 1 ∧ st'.pile.length ≤ st.pile.length + 1 := by
  unfold adv at h
  split at h
  next =>
    cases p with
    | cat | now | fail => cases h; exact ⟨Nat.le_succ _, Nat.le_succ _⟩
    | alt => cases h; exact ⟨Nat.le_succ _, by simp [St.push]⟩
    | enow =>
      dsimp only at h
      split at h
      next => cases h; exact ⟨by simp [St.note], Nat.le_succ _⟩
      next => cases h
    | cursor =>
      dsimp only at h
      split at h
      next => cases h; exact ⟨by simp [St.note], Nat.le_succ _⟩
      next => cases h
    | delay =>
      dsimp only at h
      split at h
      next => cases h; exact ⟨Nat.le_succ _, Nat.le_succ _⟩
      next => cases h
    | chars =>
      dsimp only at h
      split at h
      next =>
        split at h
        next => cases h; exact ⟨Nat.le_succ _, Nat.le_succ _⟩
        next => cases h; exact ⟨Nat.le_succ _, Nat.le_succ _⟩
      next => cases h
  next => cases h
/-- the loops of «tried»: none where the way is out of fuel, out of this model, past the limit, or a match is found -/
noncomputable def run (G : Str → Option Pat) (subj : Str) (lim : Int) : Nat → Option Way → St → Int → Option (St × Int)
  | 0, _, _, _ => none
  | f + 1, none, st, k => match st.pile.getLast? with
    | none => some (st, k)
    | some w => run G subj lim f (some w) { st with pile := st.pile.dropLast } k
  | _ + 1, some ([], _), _, _ => none
  | f + 1, some (p :: rest, at_), st, k => if k + 1 ≤ lim then
      match adv G subj p rest at_ st with
      | some (r, st') => run G subj lim f r st' (k + 1)
      | none => none
    else none

/-! what bears them in the ledger -/
noncomputable def VRel : Value → Val → Prop
  | .str s _, .str s' => s = s'
  | .int i _, .int i' => i = i'
  | _, _ => False
noncomputable def RefIn (T : List (Addr × Obj)) (r : Addr) (key : Str) : Prop :=
  ∃ rd g1 g2 g3 u1 u2 u3 u1' u3', (r, instObj 110 rd) ∈ T ∧ (rd, refD g1 g2 g3 u1 u2 u3 u1' u3' key) ∈ T
inductive PatIn (T : List (Addr × Obj)) : Addr → Pat → Prop where
  | cat {a v1 v2 : Addr} {t : Tok} {p q : Pat} : (a, tupObj [.str (Str.ofString "cat") t, .ref v1, .ref v2]) ∈ T → PatIn T v1 p → PatIn T v2 q → PatIn T a (.cat p q)
  | now {a v r : Addr} {t : Tok} {p : Pat} {key : Str} : (a, tupObj [.str (Str.ofString "now") t, .ref v, .ref r]) ∈ T → PatIn T v p → RefIn T r key → PatIn T a (.now p key)
  | enow {a r : Addr} {t tb : Tok} {key : Str} {b : Int} : (a, tupObj [.str (Str.ofString "end now") t, .ref r, .int b tb]) ∈ T → RefIn T r key → PatIn T a (.enow key b)
  | cursor {a r : Addr} {t : Tok} {key : Str} : (a, tupObj [.str (Str.ofString "cursor") t, .ref r]) ∈ T → RefIn T r key → PatIn T a (.cursor key)
  | alt {a v1 v2 : Addr} {t : Tok} {p q : Pat} : (a, tupObj [.str (Str.ofString "alt") t, .ref v1, .ref v2]) ∈ T → PatIn T v1 p → PatIn T v2 q → PatIn T a (.alt p q)
  | delay {a d : Addr} {t u1 u2 : Tok} {nm : Str} : (a, tupObj [.str (Str.ofString "delay") t, .ref d]) ∈ T → (d, tupObj [.str (Str.ofString "name") u1, .str nm u2]) ∈ T → PatIn T a (.delay nm)
  | fail {a : Addr} {t : Tok} : (a, tupObj [.str (Str.ofString "fail") t]) ∈ T → PatIn T a .fail
  | chars {a : Addr} {t u : Tok} {txt : Str} : (a, tupObj [.str (Str.ofString "chars") t, .str txt u]) ∈ T → PatIn T a (.chars txt)
inductive ChainIn (T : List (Addr × Obj)) : Value → List Pat → Prop where
  | nil : ChainIn T .none []
  | cons {c nd : Addr} {rest : Value} {p : Pat} {ps : List Pat} : (c, tupObj [.ref nd, rest]) ∈ T → PatIn T nd p → ChainIn T rest ps → ChainIn T (.ref c) (p :: ps)
noncomputable def WayIn (T : List (Addr × Obj)) (named : Value) (v : Value) (w : Way) : Prop := ∃ x cv t, v = .ref x ∧ (x, tupObj [cv, .int w.2 t, named]) ∈ T ∧ ChainIn T cv w.1
noncomputable def LogIn (T : List (Addr × Obj)) (v : Value) (e : Str × Val) : Prop := ∃ a t v', v = .ref a ∧ (a, tupObj [.str e.1 t, v']) ∈ T ∧ VRel v' e.2
inductive All2 {α β : Type} (R : α → β → Prop) : List α → List β → Prop where
  | nil : All2 R [] []
  | cons {a : α} {b : β} {l : List α} {l' : List β} : R a b → All2 R l l' → All2 R (a :: l) (b :: l')
section mono
variable {T T' : List (Addr × Obj)} (hs : ∀ p ∈ T, p ∈ T')
include hs
theorem RefIn.mono {r key} (h : RefIn T r key) : RefIn T' r key := by
  obtain ⟨rd, g1, g2, g3, u1, u2, u3, u1', u3', a, b⟩ := h
  exact ⟨rd, g1, g2, g3, u1, u2, u3, u1', u3', hs _ a, hs _ b⟩
theorem PatIn.mono {a p} (h : PatIn T a p) : PatIn T' a p := by
  induction h with
  | cat m _ _ i j => exact .cat (hs _ m) i j
  | now m _ r i => exact .now (hs _ m) i (r.mono hs)
  | enow m r => exact .enow (hs _ m) (r.mono hs)
  | cursor m r => exact .cursor (hs _ m) (r.mono hs)
  | alt m _ _ i j => exact .alt (hs _ m) i j
  | delay m n => exact .delay (hs _ m) (hs _ n)
  | fail m => exact .fail (hs _ m)
  | chars m => exact .chars (hs _ m)
theorem ChainIn.mono {v ps} (h : ChainIn T v ps) : ChainIn T' v ps := by
  induction h with
  | nil => exact .nil
  | cons m p _ i => exact .cons (hs _ m) (p.mono hs) i
theorem WayIn.mono {nm v w} (h : WayIn T nm v w) : WayIn T' nm v w := by
  obtain ⟨x, cv, t, e, m, c⟩ := h
  exact ⟨x, cv, t, e, hs _ m, c.mono hs⟩
theorem LogIn.mono {v e} (h : LogIn T v e) : LogIn T' v e := by
  obtain ⟨x, t, v', e, m, c⟩ := h
  exact ⟨x, t, v', e, hs _ m, c⟩
end mono
theorem all2_mono {α β : Type} {R S : α → β → Prop} (h : ∀ a b, R a b → S a b) {l : List α} {l' : List β} (x : All2 R l l') : All2 S l l' := by
  induction x with
  | nil => exact .nil
  | cons a _ i => exact .cons (h _ _ a) i
theorem all2_snoc {α β : Type} {R : α → β → Prop} {l : List α} {l' : List β} (x : All2 R l l') {a : α} {b : β} (h : R a b) : All2 R (l ++ [a]) (l' ++ [b]) := by
  induction x with
  | nil => exact .cons h .nil
  | cons a _ i => exact .cons a i
theorem all2_length {α β : Type} {R : α → β → Prop} {l : List α} {l' : List β} (x : All2 R l l') : l.length = l'.length := by
  induction x with
  | nil => rfl
  | cons _ _ i => simp [i]
/-- the named patterns as the ledger bears them -/
noncomputable def GIn (T : List (Addr × Obj)) (kvs : List (Str × Value)) (G : Str → Option Pat) : Prop :=
  ∀ nm p, G nm = some p → ∃ pv pd h t nd, valueAt kvs nm = some (.ref pv) ∧ (pv, instObj 68 pd) ∈ T ∧ (pd, patD h t nd) ∈ T ∧ PatIn T nd p
theorem GIn.mono {T T' : List (Addr × Obj)} {kvs : List (Str × Value)} {G : Str → Option Pat} (hs : ∀ p ∈ T, p ∈ T') (g : GIn T kvs G) : GIn T' kvs G := by
  intro nm p h
  obtain ⟨pv, pd, h, t, nd, a, b, c, d⟩ := g nm p h
  exact ⟨pv, pd, h, t, nd, a, hs _ b, hs _ c, d.mono hs⟩
theorem valueAt_stored {kvs : List (Str × Value)} {k nm : Str} {v : Value} (h : nm ≠ k) : valueAt (stored kvs k v) nm = valueAt kvs nm := by
  unfold valueAt stored
  split
  · rw [List.find?_map]
    have e : (List.find? ((fun kv : Str × Value => decide (kv.1 = nm)) ∘ fun kv => if kv.1 = k then (kv.1, v) else kv) kvs) = List.find? (fun kv => decide (kv.1 = nm)) kvs := by
      congr 1
      funext kv
      dsimp only [Function.comp]
      split <;> rfl
    rw [e]
    cases hf : List.find? (fun kv => decide (kv.1 = nm)) kvs with
    | none => rfl
    | some kv =>
      have := List.find?_some hf
      have e2 : kv.1 = nm := by simpa using this
      simp only [Option.map_some]
      rw [if_neg (by rw [e2]; exact h)]
  · rw [List.find?_append]
    cases hf : List.find? (fun kv : Str × Value => decide (kv.1 = nm)) kvs with
    | none => simp [Ne.symm h]
    | some kv => simp
theorem stored_length {kvs : List (Str × Value)} {k : Str} {v : Value} : (stored kvs k v).length ≤ kvs.length + 1 := by
  unfold stored
  split <;> simp
theorem GIn.stored {T : List (Addr × Obj)} {kvs : List (Str × Value)} {G : Str → Option Pat} {k : Str} {v : Value} (g : GIn T kvs G) (hk : (G k).isNone = true) : GIn T (stored kvs k v) G := by
  intro nm p h
  obtain ⟨pv, pd, h', t, nd, a, b, c, d⟩ := g nm p h
  refine ⟨pv, pd, h', t, nd, ?_, b, c, d⟩
  rw [valueAt_stored]
  · exact a
  · intro e
    rw [e] at h
    rw [h] at hk
    cases hk
theorem VRel.str_inv {v : Value} {t : Str} (h : VRel v (.str t)) : ∃ u, v = .str t u := by
  cases v <;> first | (cases h; done) | (exact ⟨_, by rw [show _ = t from h]⟩)
theorem VRel.int_inv {v : Value} {i : Int} (h : VRel v (.int i)) : ∃ u, v = .int i u := by
  cases v <;> first | (cases h; done) | (exact ⟨_, by rw [show _ = i from h]⟩)
noncomputable def StrIs (v : Value) (u : Str) : Prop := ∃ t, v = .str u t
end
section
/-! loops and comprehensions by a word that holds between the turns -/
section inv
open LCg
variable {prog : Program} {w : World} {A : Around} {E : Value → Shared → Prop} {s : Shared} {h₀ : Heap} {L : Addr} {m : Str → Option Value} {env : Env}
theorem RangeRest.inv {x : Str} {body : List Stmt} {Q : Flow → Shared → Prop} {I : Addr} {a : Int} {n : Nat} {m₀ : Str → Option Value} {news : List (Addr × Obj)} (J : Nat → (Str → Option Value) → List (Addr × Obj) → Prop)
    (turn : ∀ i m nw t h tk, i < n → J i m nw → Fr h₀ env.locals h (fun y => if y = x then some (.int (a + (i : Int)) t) else m y) → News h₀ env.locals h ((I, itR (a + ((i + 1 : Nat) : Int)) ((n : Int) - ((i + 1 : Nat) : Int))) :: nw) →
      wpAny (model prog w) A (execs body env) (UnrPost h₀ env.locals { s with heap := h, toks := tk } I (itR (a + ((i + 1 : Nat) : Int)) ((n : Int) - ((i + 1 : Nat) : Int))) (J (i + 1)) Q) E { s with heap := h, toks := tk })
    (fin : ∀ m nw h tk, J n m nw → Fr h₀ env.locals h m → News h₀ env.locals h nw → Q .next { s with heap := h, toks := tk }) (start : J 0 m₀ news) : RangeRest prog w A E h₀ env x body Q s I a n n 0 m₀ news := by
  have key : ∀ k i m nw, i + k = n → J i m nw → RangeRest prog w A E h₀ env x body Q s I a n k i m nw := by
    intro k
    induction k with
    | zero =>
      intro i m nw e j h tk F N
      exact fin m nw h tk (by rw [← e]; exact j) F N
    | succ k ih =>
      intro i m nw e j t h tk F N
      refine wpAny_mono (turn i m nw t h tk (by omega) j F N) (fun f s' z => ?_) fun _ _ z => z
      have up : UnrEnd h₀ env.locals { s with heap := h, toks := tk } I (itR (a + ((i + 1 : Nat) : Int)) ((n : Int) - ((i + 1 : Nat) : Int))) (J (i + 1)) s' → UnrEnd h₀ env.locals { s with heap := h, toks := tk } I (itR (a + ((i + 1 : Nat) : Int)) ((n : Int) - ((i + 1 : Nat) : Int))) (RangeRest prog w A E h₀ env x body Q s I a n k (i + 1)) s' := by
        rintro ⟨h', tk', m', nw', a1, a2, a3, a4, a5⟩
        exact ⟨h', tk', m', nw', a1, a2, a3, a4, ih (i + 1) m' nw' (by omega) a5⟩
      cases f with
      | ret v => exact z
      | brk => exact z
      | next => exact up z
      | cont => exact up z
  exact key n 0 m₀ news (Nat.zero_add n) start
theorem RangeRest.invM {x : Str} {body : List Stmt} {Q : Flow → Shared → Prop} {I : Addr} {a : Int} {n : Nat} {m₀ : Str → Option Value} {news : List (Addr × Obj)} (J : (Str → Option Value) → Nat → (Str → Option Value) → List (Addr × Obj) → Prop)
    (turn : ∀ i m nw t h tk, i < n → J m₀ i m nw → Fr h₀ env.locals h (fun y => if y = x then some (.int (a + (i : Int)) t) else m y) → News h₀ env.locals h ((I, itR (a + ((i + 1 : Nat) : Int)) ((n : Int) - ((i + 1 : Nat) : Int))) :: nw) →
      wpAny (model prog w) A (execs body env) (UnrPost h₀ env.locals { s with heap := h, toks := tk } I (itR (a + ((i + 1 : Nat) : Int)) ((n : Int) - ((i + 1 : Nat) : Int))) (J m₀ (i + 1)) Q) E { s with heap := h, toks := tk })
    (fin : ∀ m nw h tk, J m₀ n m nw → Fr h₀ env.locals h m → News h₀ env.locals h nw → Q .next { s with heap := h, toks := tk }) (start : J m₀ 0 m₀ news) : RangeRest prog w A E h₀ env x body Q s I a n n 0 m₀ news := RangeRest.inv (J m₀) turn fin start
end inv
section cinv
open LCg
variable {prog : Program} {w : World} {A : Around} {s : Shared} {h₀ : Heap} {L : Addr} {m : Str → Option Value} {env : Env}
theorem CompRest.inv {elt : PySem.Expr} {x : Str} {scope : Scope} {cl : List (Str × Addr)} {S : List (Addr × Obj) → Prop} {P : Nat → Value → Prop} {Fin : List Value → List (Addr × Obj) → Prop} {n : Nat} {news : List (Addr × Obj)} (J : Nat → List Value → List (Addr × Obj) → Prop)
    (turn : ∀ i v ys nw I oI C oC D m₂ h tk (E' : Value → Shared → Prop), i < n → J i ys nw → P i v → NsObj oC m₂ → m₂ x = some v → Fr h₀ L h m → News h₀ L h ((I, oI) :: (C, oC) :: (D, lst ys) :: nw) → (∀ p ∈ nw, p.1 ≠ I ∧ p.1 ≠ C ∧ p.1 ≠ D) → ((@Ne Nat I C) ∧ (@Ne Nat I D) ∧ (@Ne Nat C D)) →
      wpAny (model prog w) A (eval elt (compEnvC scope cl C env)) (CompEnd h₀ L m { s with heap := h, toks := tk } I oI C oC D (lst ys) S (fun y news' => J (i + 1) (ys ++ [y]) news')) E' { s with heap := h, toks := tk })
    (fin : ∀ ys nw, J n ys nw → Fin ys nw) (start : J 0 [] news) : CompRest prog w A h₀ L m env elt x scope cl s S P Fin n 0 [] news := by
  have key : ∀ k i ys nw, i + k = n → J i ys nw → CompRest prog w A h₀ L m env elt x scope cl s S P Fin k i ys nw := by
    intro k
    induction k with
    | zero =>
      intro i ys nw e j
      exact fin ys nw (by rw [← e]; exact j)
    | succ k ih =>
      intro i ys nw e j
      intro v I oI C oC D m₂ h tk E' hv hC hx F N off ne
      refine wpAny_mono (turn i v ys nw I oI C oC D m₂ h tk E' (by omega) j hv hC hx F N off.mem ne) (fun q s' z => ?_) fun _ _ z => z
      obtain ⟨h', tk', nw', a1, a2, a3, a4, a5, a6⟩ := z
      exact ⟨h', tk', nw', a1, a2, a3, a4, a5, ih (i + 1) _ nw' (by omega) a6⟩
  exact key n 0 [] news (Nat.zero_add n) start
theorem CompRestT.inv {ct elt : PySem.Expr} {x : Str} {scope : Scope} {cl : List (Str × Addr)} {S : List (Addr × Obj) → Prop} {P : Nat → Value → Prop} {Fin : List Value → List (Addr × Obj) → Prop} {n : Nat} {news : List (Addr × Obj)} (J : Nat → List Value → List (Addr × Obj) → Prop)
    (turn : ∀ i v ys nw I oI C oC D m₂ h tk (E' : Value → Shared → Prop), i < n → J i ys nw → P i v → NsObj oC m₂ → m₂ x = some v → Fr h₀ L h m → News h₀ L h ((I, oI) :: (C, oC) :: (D, lst ys) :: nw) → (∀ p ∈ nw, p.1 ≠ I ∧ p.1 ≠ C ∧ p.1 ≠ D) → ((@Ne Nat I C) ∧ (@Ne Nat I D) ∧ (@Ne Nat C D)) →
      wpAny (model prog w) A (isTrue ct (compEnvC scope cl C env) (eval ct (compEnvC scope cl C env))) (fun ok s' => if ok = true then
        wpAny (model prog w) A (eval elt (compEnvC scope cl C env)) (CompEnd h₀ L m { s with heap := h, toks := tk } I oI C oC D (lst ys) S (fun y news' => J (i + 1) (ys ++ [y]) news')) E' s'
        else CompEnd h₀ L m { s with heap := h, toks := tk } I oI C oC D (lst ys) S (fun _ news' => J (i + 1) ys news') Value.none s') E' { s with heap := h, toks := tk })
    (fin : ∀ ys nw, J n ys nw → Fin ys nw) (start : J 0 [] news) : LCt.CompRestT prog w A h₀ L m env ct elt x scope cl s S P Fin n 0 [] news := by
  have key : ∀ k i ys nw, i + k = n → J i ys nw → LCt.CompRestT prog w A h₀ L m env ct elt x scope cl s S P Fin k i ys nw := by
    intro k
    induction k with
    | zero =>
      intro i ys nw e j
      exact fin ys nw (by rw [← e]; exact j)
    | succ k ih =>
      intro i ys nw e j
      intro v I oI C oC D m₂ h tk E' hv hC hx F N off ne
      have up : ∀ {y' s''} {J' J'' : Value → List (Addr × Obj) → Prop}, (∀ n, J' y' n → J'' y' n) → CompEnd h₀ L m { s with heap := h, toks := tk } I oI C oC D (lst ys) S J' y' s'' → CompEnd h₀ L m { s with heap := h, toks := tk } I oI C oC D (lst ys) S J'' y' s'' := by
        rintro y' s'' J' J'' hj ⟨h', tk, nw', a, b, c, d, f, g⟩
        exact ⟨h', tk, nw', a, b, c, d, f, hj _ g⟩
      refine wpAny_mono (turn i v ys nw I oI C oC D m₂ h tk E' (by omega) j hv hC hx F N off.mem ne) (fun ok s' z => ?_) fun _ _ z => z
      cases ok with
      | true =>
        simp only [if_true] at z ⊢
        exact wpAny_mono z (fun q s₄ z4 => up (fun n jn => ih (i + 1) _ n (by omega) jn) z4) fun _ _ z => z
      | false =>
        simp only [Bool.false_eq_true, if_false] at z ⊢
        exact up (fun n jn => ih (i + 1) _ n (by omega) jn) z
  exact key n 0 [] news (Nat.zero_add n) start
theorem ItemsRest.inv {E : Value → Shared → Prop} {target : PySem.Expr} {body : List Stmt} {Q : Flow → Shared → Prop} {I : Addr} {c : String} {keep : List (Addr × Obj)} {vs : List Value} {m₀ : Str → Option Value} {news : List (Addr × Obj)} (J : List Value → (Str → Option Value) → List (Addr × Obj) → Prop)
    (turn : ∀ pre v post m nw o h tk, vs = pre ++ v :: post → J pre m nw → o.cls = .type c → Fr h₀ env.locals h m → News h₀ env.locals h ((I, o) :: nw) →
      wpAny (model prog w) A (assign target env v) (fun _ s₂ => wpAny (model prog w) A (execs body env) (UnrPostW h₀ env.locals { s with heap := h, toks := tk } [(I, o)] (fun m' n' => SubL keep n' ∧ J (pre ++ [v]) m' n') Q) E s₂) E { s with heap := h, toks := tk })
    (fin : ∀ m nw h tk, J vs m nw → Fr h₀ env.locals h m → News h₀ env.locals h nw → Q .next { s with heap := h, toks := tk }) (start : J [] m₀ news) :
    ItemsRest prog w A E h₀ env target body Q s [(I, c)] keep (vs.map .val) m₀ news := by
  have key : ∀ post pre m nw, vs = pre ++ post → J pre m nw → ItemsRest prog w A E h₀ env target body Q s [(I, c)] keep (post.map .val) m nw := by
    intro post
    induction post with
    | nil =>
      intro pre m nw e j h tk F N
      rw [List.append_nil] at e
      subst e
      exact fin m nw h tk j F N
    | cons v post ih =>
      intro pre m nw e j
      have e2 : vs = (pre ++ [v]) ++ post := by rw [e]; simp
      refine ItemsRest.val fun h tk F => AllObj.cons fun o ho => AllObj.nil fun N => ?_
      refine wpAny_mono (turn pre v post m nw o h tk e j ho F N) (fun _ s₂ z => wpAny_mono z (fun f s' z => ?_) fun _ _ z => z) fun _ _ z => z
      have up : UnrEndW h₀ env.locals { s with heap := h, toks := tk } [(I, o)] (fun m' n' => SubL keep n' ∧ J (pre ++ [v]) m' n') s' → UnrEndW h₀ env.locals { s with heap := h, toks := tk } [(I, o)] (fun m' n' => SubL keep n' ∧ ItemsRest prog w A E h₀ env target body Q s [(I, c)] keep (post.map .val) m' n') s' := by
        rintro ⟨h', tk, m', nw', a1, a2, a3, a4, a5, a6⟩
        exact ⟨h', tk, m', nw', a1, a2, a3, a4, a5, ih (pre ++ [v]) m' nw' e2 a6⟩
      cases f with
      | ret v => exact z
      | brk => exact z
      | next => exact up z
      | cont => exact up z
  exact key vs [] m₀ news rfl start
theorem ItemsRest.invM {E : Value → Shared → Prop} {target : PySem.Expr} {body : List Stmt} {Q : Flow → Shared → Prop} {I : Addr} {c : String} {keep : List (Addr × Obj)} {vs : List Value} {m₀ : Str → Option Value} {news : List (Addr × Obj)} (J : (Str → Option Value) → List (Addr × Obj) → List Value → (Str → Option Value) → List (Addr × Obj) → Prop)
    (turn : ∀ pre v post m nw o h tk, vs = pre ++ v :: post → J m₀ news pre m nw → o.cls = .type c → Fr h₀ env.locals h m → News h₀ env.locals h ((I, o) :: nw) →
      wpAny (model prog w) A (assign target env v) (fun _ s₂ => wpAny (model prog w) A (execs body env) (UnrPostW h₀ env.locals { s with heap := h, toks := tk } [(I, o)] (fun m' n' => SubL keep n' ∧ J m₀ news (pre ++ [v]) m' n') Q) E s₂) E { s with heap := h, toks := tk })
    (fin : ∀ m nw h tk, J m₀ news vs m nw → Fr h₀ env.locals h m → News h₀ env.locals h nw → Q .next { s with heap := h, toks := tk }) (start : J m₀ news [] m₀ news) :
    ItemsRest prog w A E h₀ env target body Q s [(I, c)] keep (vs.map .val) m₀ news := ItemsRest.inv (J m₀ news) turn fin start
theorem UnrEndW.one {I : Addr} {o : Obj} {rest : (Str → Option Value) → List (Addr × Obj) → Prop} {s₁ : Shared} {h' : Heap} {tk : Nat} {m' : Str → Option Value} {all : List (Addr × Obj)} (F : Fr h₀ L h' m') (N : News h₀ L h' all) (news' : List (Addr × Obj))
    (hs : ∀ p ∈ (I, o) :: news', p ∈ all) (off : ∀ p ∈ news', p.1 ≠ I) (r : rest m' news') : UnrEndW h₀ L s₁ [(I, o)] rest { s₁ with heap := h', toks := tk } :=
  ⟨h', tk, m', news', rfl, F, kst_newsOf N hs, fun p hp q hq => by rw [List.mem_singleton.mp hq]; exact off p hp, r⟩
end cinv
end
section
noncomputable def ResIn (T : List (Addr × Obj)) (named : Value) (r : Value) : Option Way → Prop
  | none => r = .none
  | some w => WayIn T named r w
theorem push_arr {l : List Value} {v : Value} : l.toArray.push v = (l ++ [v]).toArray := by simp

section adv
variable {w : World} {mean : ExcName → Option Value} {mg mb : Str → Option Value} {dp un : Nat} {gd : Option (List Code)} {cn : Str} {cs : Scope} {L a : Addr} {ccd : Value} {cl : List (Str × Addr)} {outer : List Env} {A₀ : Around} {base h₀ : Heap} {m : Str → Option Value} {s : Shared} {Q E : Value → Shared → Prop}
  {xh xd xv xl xp xr c nd : Addr} {h1 h2 h3 h4 h5 h6 : Int} {t1 t2 t2' t3 t4 t4' t5 t5' t6 : Tok} {od : Obj} {kvs : List (Str × Value)} {log items : List Value} {nl np : Nat} {lim k at_ : Int} {tups stat : List (Addr × Obj)} {tk ta ts : Tok} {named rest : Value} {subj : Str}
variable (B : Below A₀ base outer h₀) (F : Fr h₀ L s.heap m) (X : (stage.heap_1 w.params).In h₀)
  (N : News h₀ L s.heap ((xd, hostD h1 h2 h3 h4 h5 h6 t1 t2 t2' t3 t4 t4' t5 t5' t6 xv xr xl lim k) :: (xv, od) :: (xl, listOf log.toArray nl) :: (xp, listOf items.toArray np) :: tups))
  (T : Top hd.view_1 (looseW hd.view_1 [Str.ofString "SnobolError", Str.ofString "plain_count"]) mean mg mb h₀)
  (hk : cs.kind = .function) (hr : dp + 50 < recursionLimit) (hu : un + 200 < cLine)
  (hok : ∀ p ∈ tups, OkT stat p) (hs1 : ∀ p ∈ stat, p.1 ≠ xd) (hs2 : ∀ p ∈ stat, p.1 ≠ xv) (hs3 : ∀ p ∈ stat, p.1 ≠ xl) (hs4 : ∀ p ∈ stat, p.1 ≠ xp)
  (n12 : @Ne Nat xd xv) (n13 : @Ne Nat xd xl) (n14 : @Ne Nat xd xp) (n23 : @Ne Nat xv xl) (n24 : @Ne Nat xv xp) (n34 : @Ne Nat xl xp)
  (hod : od.IsDictOf (PySem.strKind PySem.Challenge.rw_sj0196_01.row.prog w) kvs) (lov : (xv == sysModules) = false) (hkv : kvs.length ≤ 200000) (hll : log.length ≤ 100000) (hpl : items.length ≤ 100000)
  (mh : (xh, instObj 407 xd) ∈ tups) (mr : (xr, listOf #[] 0) ∈ tups) (hc : (c, tupObj [.ref nd, rest]) ∈ tups)
  (hsl : subj.length ≤ 100) (hat : 0 ≤ at_) (hat2 : at_ ≤ subj.length)
include B F X N T hk hr hu hok hs1 hs2 hs3 hs4 n12 n13 n14 n23 n24 n34 hod lov hkv hll hpl mh mr hc hsl hat hat2
set_option maxHeartbeats 2000000 in
theorem adv_sim {p : Pat} {ps : List Pat} {st st' : St} {res : Option Way} {G : Str → Option Pat} {T0 : List (Addr × Obj)} (hp : PatIn tups nd p) (hps : ChainIn tups rest ps) (hT0 : ∀ p ∈ T0, p ∈ tups) (hG : GIn T0 kvs G) (hlog : All2 (LogIn tups) log st.log) (hpile : All2 (WayIn tups named) items st.pile)
  (hadv : adv G subj p ps at_ st = some (res, st'))
  (ret : ∀ r od' kvs' log' nl' items' np' tl h' tk', Fr h₀ L h' m →
    News h₀ L h' ((xd, hostD h1 h2 h3 h4 h5 h6 t1 t2 t2' t3 t4 t4' t5 t5' t6 xv xr xl lim k) :: (xv, od') :: (xl, listOf (List.toArray log') nl') :: (xp, listOf (List.toArray items') np') :: (tl ++ tups)) → Tups tl →
    od'.IsDictOf (PySem.strKind PySem.Challenge.rw_sj0196_01.row.prog w) kvs' → kvs'.length ≤ kvs.length + 1 → GIn T0 kvs' G → All2 (LogIn (tl ++ tups)) log' st'.log → All2 (WayIn (tl ++ tups) named) items' st'.pile → ResIn (tl ++ tups) named r res → Q r { s with heap := h', toks := tk' }) :
  wpAny (model PySem.Challenge.rw_sj0196_01.row.prog w) (ktrTop dp un gd cn cs L a ccd cl outer) (call (.ref 341) [.ref c, .int at_ ta, named, .str subj ts, .ref xp, .ref xh]) Q E s := by
  have sub : ∀ tl : List (Addr × Obj), ∀ p ∈ tups, p ∈ tl ++ tups := fun tl p h => List.mem_append_right _ h
  have keep : ∀ tl : List (Addr × Obj), All2 (LogIn (tl ++ tups)) log st.log ∧ All2 (WayIn (tl ++ tups) named) items st.pile := fun tl => ⟨all2_mono (fun _ _ h => h.mono (sub tl)) hlog, all2_mono (fun _ _ h => h.mono (sub tl)) hpile⟩
  have chk : ∀ tl : List (Addr × Obj), ChainIn (tl ++ tups) rest ps := fun tl => hps.mono (sub tl)
  have junkT : ∀ {l junk : List (Addr × Obj)}, Tups l → Tups junk → Tups (l ++ junk) := fun a b p hp => (List.mem_append.mp hp).elim (a p) (b p)
  unfold adv at hadv
  split at hadv
  next hc0 =>
    cases hp with
    | @cat _ v1 v2 t p q hm hp1 hp2 =>
      cases hadv
      refine adv1_cat B F X N T hk hr hu hok hs1 hs2 hs3 hs4 n12 n13 n14 n23 n24 n34 hod lov hkv hll hpl mh mr hc hsl hat hat2 hm (fun x y z junk h' tk' F' N' hj => ?_)
      refine ret _ _ kvs log _ items _ ([(x, tupObj [.ref y, .int at_ ta, named]), (y, tupObj [.ref v1, .ref z]), (z, tupObj [.ref v2, rest])] ++ junk) _ _ F' N' (junkT (by walk_at "okT") hj) hod (Nat.le_succ _) hG (keep _).1 (keep _).2 ?_
      exact ⟨x, _, _, rfl, .head _, .cons (.tail _ (.head _)) (hp1.mono (sub _)) (.cons (.tail _ (.tail _ (.head _))) (hp2.mono (sub _)) (chk _))⟩
    | @alt _ v1 v2 t p q hm hp1 hp2 =>
      cases hadv
      refine adv1_alt B F X N T hk hr hu hok hs1 hs2 hs3 hs4 n12 n13 n14 n23 n24 n34 hod lov hkv hll hpl mh mr hc hsl hat hat2 hm (fun x y z u junk h' tk' F' N' hj => ?_)
      refine ret _ _ kvs log _ _ _ ([(x, tupObj [.ref y, .int at_ ta, named]), (y, tupObj [.ref v1, rest]), (z, tupObj [.ref u, .int at_ ta, named]), (u, tupObj [.ref v2, rest])] ++ junk) _ _ F' N' (junkT (by walk_at "okT") hj) hod (Nat.le_succ _) hG (keep _).1
        (all2_snoc (keep _).2 ⟨z, _, _, rfl, .tail _ (.tail _ (.head _)), .cons (.tail _ (.tail _ (.tail _ (.head _)))) (hp2.mono (sub _)) (chk _)⟩) ?_
      exact ⟨x, _, _, rfl, .head _, .cons (.tail _ (.head _)) (hp1.mono (sub _)) (chk _)⟩
    | @now _ v r t p key hm hp1 hr1 =>
      cases hadv
      refine adv1_now B F X N T hk hr hu hok hs1 hs2 hs3 hs4 n12 n13 n14 n23 n24 n34 hod lov hkv hll hpl mh mr hc hsl hat hat2 hm (fun x y z u t junk h' tk' F' N' hj => ?_)
      refine ret _ _ kvs log _ items _ ([(x, tupObj [.ref y, .int at_ ta, named]), (y, tupObj [.ref v, .ref z]), (z, tupObj [.ref u, rest]), (u, tupObj [.str (Str.ofString "end now") t, .ref r, .int at_ ta])] ++ junk) _ _ F' N' (junkT (by walk_at "okT") hj) hod (Nat.le_succ _) hG (keep _).1 (keep _).2 ?_
      exact ⟨x, _, _, rfl, .head _, .cons (.tail _ (.head _)) (hp1.mono (sub _)) (.cons (.tail _ (.tail _ (.head _))) (.enow (.tail _ (.tail _ (.tail _ (.head _)))) (hr1.mono (sub _))) (chk _))⟩
    | @enow _ r t tb key b hm hr1 =>
      dsimp only at hadv
      split at hadv
      next hb =>
        cases hadv
        obtain ⟨rd, g1, g2, g3, u1, u2, u3, u1', u3', m1, m2⟩ := hr1
        refine adv1_enow B F X N T hk hr hu hok hs1 hs2 hs3 hs4 n12 n13 n14 n23 n24 n34 hod lov hkv hll hpl mh mr hc hsl hat hat2 hm m1 m2 hb.1 hb.2.1 (fun x y t od' junk h' tk' F' N' hj hd' => ?_)
        rw [push_arr] at N'
        refine ret _ _ _ _ _ items _ ([(x, tupObj [rest, .int at_ ta, named]), (y, tupObj [.str key u3', .str (Txt.slice subj (some b) (some at_)) t])] ++ junk) _ _ F' N' (junkT (by walk_at "okT") hj) hd' stored_length (hG.stored hb.2.2) (all2_snoc (keep _).1 ⟨y, _, _, rfl, .tail _ (.head _), rfl⟩) (keep _).2 ?_
        exact ⟨x, _, _, rfl, .head _, chk _⟩
      next => cases hadv
    | @cursor _ r t key hm hr1 =>
      dsimp only at hadv
      split at hadv
      next hb =>
        cases hadv
        obtain ⟨rd, g1, g2, g3, u1, u2, u3, u1', u3', m1, m2⟩ := hr1
        refine adv1_cursor B F X N T hk hr hu hok hs1 hs2 hs3 hs4 n12 n13 n14 n23 n24 n34 hod lov hkv hll hpl mh mr hc hsl hat hat2 hm m1 m2 (fun x y od' junk h' tk' F' N' hj hd' => ?_)
        rw [push_arr] at N'
        refine ret _ _ _ _ _ items _ ([(x, tupObj [rest, .int at_ ta, named]), (y, tupObj [.str key u3', .int at_ ta])] ++ junk) _ _ F' N' (junkT (by walk_at "okT") hj) hd' stored_length (hG.stored hb) (all2_snoc (keep _).1 ⟨y, _, _, rfl, .tail _ (.head _), rfl⟩) (keep _).2 ?_
        exact ⟨x, _, _, rfl, .head _, chk _⟩
      next => cases hadv
    | @delay _ d t u1 u2 nm hm hn =>
      dsimp only at hadv
      split at hadv
      next p hv =>
        cases hadv
        obtain ⟨pv, pd, h', tp, nd2, hv1, m2, m3, hp2⟩ := (hG.mono hT0) nm p hv
        refine adv1_delay B F X N T hk hr hu hok hs1 hs2 hs3 hs4 n12 n13 n14 n23 n24 n34 hod lov hkv hll hpl mh mr hc hsl hat hat2 hm hn hv1 m2 m3 (fun x y junk h' tk' F' N' hj => ?_)
        refine ret _ _ kvs log _ items _ ([(x, tupObj [.ref y, .int at_ ta, named]), (y, tupObj [.ref nd2, rest])] ++ junk) _ _ F' N' (junkT (by walk_at "okT") hj) hod (Nat.le_succ _) hG (keep _).1 (keep _).2 ?_
        exact ⟨x, _, _, rfl, .head _, .cons (.tail _ (.head _)) (hp2.mono (sub _)) (chk _)⟩
      next => cases hadv
    | @fail _ t hm =>
      cases hadv
      refine adv1_fail B F X N T hk hr hu hok hs1 hs2 hs3 hs4 n12 n13 n14 n23 n24 n34 hod lov hkv hll hpl mh mr hc hsl hat hat2 hm (fun junk h' tk' F' N' hj => ?_)
      exact ret _ _ kvs log _ items _ junk _ _ F' N' hj hod (Nat.le_succ _) hG (keep _).1 (keep _).2 rfl
    | @chars _ t u txt hm =>
      dsimp only at hadv
      split at hadv
      next htl =>
        refine adv1_chars B F X N T hk hr hu hok hs1 hs2 hs3 hs4 n12 n13 n14 n23 n24 n34 hod lov hkv hll hpl mh mr hc hsl hat hat2 hm htl (fun x t junk h' tk' F' N' hj hlt => ?_) (fun junk h' tk' F' N' hj hlt => ?_)
        · rw [if_pos hlt] at hadv
          cases hadv
          refine ret _ _ kvs log _ items _ ([(x, tupObj [rest, .int (at_ + txt.length) t, named])] ++ junk) _ _ F' N' (junkT (by walk_at "okT") hj) hod (Nat.le_succ _) hG (keep _).1 (keep _).2 ?_
          exact ⟨x, _, _, rfl, .head _, chk _⟩
        · rw [if_neg (by rw [hlt]; exact Bool.false_ne_true)] at hadv
          cases hadv
          exact ret _ _ kvs log _ items _ junk _ _ F' N' hj hod (Nat.le_succ _) hG (keep _).1 (keep _).2 rfl
      next => cases hadv
  next => cases hadv
end adv
end
section
section cuts
variable {prog : Program} {w : World} {A : Around} {E : Value → Shared → Prop} {s : Shared} {env : Env} {Q : Flow → Shared → Prop}
theorem seq_cut {st : Stmt} {rest : List Stmt} (h : ∀ Z : Flow → Shared → Prop, (∀ s', wpAny (model prog w) A (execs rest env) Q E s' → Z .next s') → (∀ f s', f ≠ .next → Q f s' → Z f s') → wpAny (model prog w) A (exec st env) Z E s) : wpAny (model prog w) A (execs (st :: rest) env) Q E s :=
  wpAny_execs_cons (h _ (fun _ x => x) (fun f _ hf x => by cases f <;> first | exact x | exact absurd rfl hf))
theorem test_cut {t : Sem Bool} {body : Shared → Prop} {done : Shared → Prop} (h : ∀ Z : Bool → Shared → Prop, (∀ s', body s' → Z true s') → (∀ s', done s' → Z false s') → wpAny (model prog w) A t Z E s) :
    wpAny (model prog w) A t (fun b s₂ => if b = true then body s₂ else done s₂) E s :=
  h _ (fun _ x => by rw [if_pos rfl]; exact x) (fun _ x => by rw [if_neg Bool.false_ne_true]; exact x)
end cuts
structure Cf where
  f : Nat
  st : St
  k : Int
  tk5 : Tok
  od : Obj
  kvs : List (Str × Value)
  log : List Value
  nl : Nat
  items : List Value
  np : Nat
  tups : List (Addr × Obj)
structure CfOk (w : World) (stat T0 : List (Addr × Obj)) (xh xd xr : Addr) (named : Value) (G : Str → Option Pat) (T0g : List (Addr × Obj)) (c : Cf) : Prop where
  sub : ∃ tl, Tups tl ∧ c.tups = tl ++ T0
  ok : ∀ p ∈ c.tups, OkT stat p
  od : c.od.IsDictOf (PySem.strKind PySem.Challenge.rw_sj0196_01.row.prog w) c.kvs
  k0 : 0 ≤ c.k
  kl : (c.kvs.length : Int) ≤ c.k + 10
  ll : (c.log.length : Int) ≤ c.k
  pl : (c.items.length : Int) ≤ c.k + 1
  gin : GIn T0g c.kvs G
  log : All2 (LogIn c.tups) c.log c.st.log
  pile : All2 (WayIn c.tups named) c.items c.st.pile
  mh : (xh, instObj 407 xd) ∈ c.tups
  mr : (xr, listOf #[] 0) ∈ c.tups
theorem CfOk.grow {T0 T tl : List (Addr × Obj)} (h : ∃ tl, Tups tl ∧ T = tl ++ T0) (ht : Tups tl) : ∃ tl', Tups tl' ∧ tl ++ T = tl' ++ T0 := by
  obtain ⟨l, hl, rfl⟩ := h
  exact ⟨tl ++ l, fun p hp => (List.mem_append.mp hp).elim (ht p) (hl p), (List.append_assoc _ _ _).symm⟩
theorem all2_last {α β : Type} {R : α → β → Prop} {l : List α} {l' : List β} (x : All2 R l l') {b : β} (h : l'.getLast? = some b) : ∃ i a, l = i ++ [a] ∧ R a b ∧ All2 R i l'.dropLast := by
  induction x with
  | nil => cases h
  | @cons a b' l l' hab hl ih =>
    cases hl with
    | nil => cases h; exact ⟨[], a, rfl, hab, .nil⟩
    | @cons a2 b2 l2 l2' h2 hl2 =>
      rw [List.getLast?_cons_cons] at h
      obtain ⟨i, a', e, hr, hi⟩ := ih h
      exact ⟨a :: i, a', by rw [e]; rfl, hr, by rw [List.dropLast_cons_cons]; exact .cons hab hi⟩
theorem all2_none {α β : Type} {R : α → β → Prop} {l : List α} {l' : List β} (x : All2 R l l') (h : l'.getLast? = none) : l = [] ∧ l' = [] := by
  cases x with
  | nil => exact ⟨rfl, rfl⟩
  | cons _ _ => simp at h
theorem len_snoc {α : Type} {l : List α} {v : α} : (l ++ [v]).length = l.length + 1 := by simp
theorem kl_last_snoc {l : List Value} {v : Value} : kl_last ((l ++ [v]).toArray.toList) = some (l, v) := by
  rw [List.toList_toArray]
  cases h : kl_last (l ++ [v]) with
  | none => have := kl_last_none h; simp at this
  | some z =>
    obtain ⟨p, y⟩ := z
    have := kl_last_spec h
    have e := List.append_inj' this rfl
    rw [e.1, (List.cons.inj e.2).1]
section lenpop
variable {prog : Program} {w : World} {A : Around} {E : Value → Shared → Prop} {s : Shared} {h₀ : Heap} {L : Addr} {m : Str → Option Value} {news news' : List (Addr × Obj)}
theorem len_ledger {l : Addr} {items : List Value} {n k : Nat} {Q : Value → Shared → Prop} (N : News h₀ L s.heap news) (hm : (l, listOf items.toArray n) ∈ news) (hk : items.length = k) (hz : k ≤ 1000000)
    (h : Q (.int (k : Nat) (s.toks + 1)) { s with toks := s.toks + 1 + 1 }) : wpAny (model prog w) A (call (.builtin "len") [.ref l]) Q E s := by
  subst hk
  exact PyProof.Rows.len_list (News.isList N hm) (by simp; omega) (by simpa using h)
theorem pop_ledger {D : Addr} {l : List Value} {v : Value} {n : Nat} {Q : Value → Shared → Prop} (F : Fr h₀ L s.heap m) (N : News h₀ L s.heap news) (U : Upd D (listOf (l ++ [v]).toArray n) (listOf l.toArray (n + 1)) news news') (hz : l.length ≤ 1000000)
    (h : ∀ h', Fr h₀ L h' m → News h₀ L h' news' → Q v { s with heap := h' }) : wpAny (model prog w) A (call (.builtin "list.pop") [.ref D]) Q E s :=
  kl_pop F N kl_last_snoc U (by rw [sizeLine_eq]; simp; omega) h
theorem at_call {Q : Value → Shared → Prop} {l : Addr} (f : String) (h : wpAny (model prog w) A (call (.builtin f) [.ref l]) Q E s) : wpAny (model prog w) A (call (.builtin f) [.ref l]) Q E s := h
theorem eq_tup_str {x : Addr} {vs : List Value} {b : Str} {u : Tok} {Q : Value → Shared → Prop} (hu : A.units < cLine) (N : News h₀ L s.heap news) (hm : (x, tupObj vs) ∈ news) (h : Q (.bool false) s) :
    wpAny (model prog w) A (compareOp .Eq (.ref x) (.str b u)) Q E s := cmp_ofEq (SeqAt.RcAt.tuple_str b u ⟨_, N.get hm, rfl, _, rfl⟩ hu prog w E Q h)
end lenpop
local macro_rules | `(tactic| walk_at "compareOp Eq ref str") => `(tactic| (k_here; k_dflt (refine eq_tup_str (by ktr_units) (by k_asm) (by k_mem) ?_; k_whole)))
local macro_rules | `(tactic| walk_at "call builtin:len") => `(tactic| (k_here; (with_reducible refine at_call "len" ?_); k_dflt (refine len_ledger (by k_asm) (by k_mem) (by first | exact len_snoc | exact rfl) (by omega) ?_; k_whole)))
local macro_rules | `(tactic| walk_at "call builtin:list.pop") => `(tactic| (k_here; (with_reducible refine at_call "list.pop" ?_); k_dflt (refine pop_ledger (by k_asm) (by k_asm) (by k_upd) (by omega) ?_; k_whole); intro h' F' N'; (try k_sweep)))
theorem not_contains {l : List Str} {z : Str} (h : l.contains z = false) : ∀ y ∈ l, z ≠ y := by
  intro y hy e
  subst e
  rw [List.contains_iff_mem.mpr hy] at h
  cases h
theorem drop4 {α : Type} {a b c d : α} {t : List α} : ∀ p ∈ a :: b :: c :: t, p ∈ a :: b :: c :: d :: t := by
  intro p hp
  simp only [List.mem_cons] at hp ⊢
  rcases hp with h | h | h | h <;> simp [h]
theorem adv_bounds {G : Str → Option Pat} {subj : Str} {p : Pat} {rest : List Pat} {i : Int} {st : St} {r : Option Way × St} (h : adv G subj p rest i st = some r) : 0 ≤ i ∧ i ≤ subj.length := by
  unfold adv at h
  split at h
  next hc => exact hc
  next => cases h
theorem run_inv {G : Str → Option Pat} {subj : Str} {lim : Int} {f : Nat} {ps : List Pat} {i : Int} {st : St} {k : Int} {r : St × Int} (h : run G subj lim f (some (ps, i)) st k = some r) :
    ∃ f' p rest res st', f = f' + 1 ∧ ps = p :: rest ∧ k + 1 ≤ lim ∧ adv G subj p rest i st = some (res, st') ∧ run G subj lim f' res st' (k + 1) = some r := by
  cases f with
  | zero => cases h
  | succ f =>
    cases ps with
    | nil => cases h
    | cons p rest =>
      rw [run] at h
      split at h
      next hk =>
        split at h
        next res st' ha => exact ⟨f, p, rest, res, st', rfl, rfl, hk, ha, h⟩
        next => cases h
      next => cases h
section tried
variable {w : World} {mean : ExcName → Option Value} {mg mb : Str → Option Value} {dp un : Nat} {gd : Option (List Code)} {cn : Str} {cs : Scope} {L a : Addr} {ccd : Value} {cl : List (Str × Addr)} {outer : List Env} {A₀ : Around} {base h₀ : Heap} {m : Str → Option Value} {s : Shared} {Q E : Value → Shared → Prop}
  {xh xd xv xl xr nd : Addr} {h1 h2 h3 h4 h5 h6 : Int} {t1 t2 t2' t3 t4 t4' t5 t5' t6 : Tok} {od : Obj} {kvs : List (Str × Value)} {log : List Value} {nl : Nat} {lim k begin : Int} {tupsZ stat : List (Addr × Obj)} {tb ts : Tok} {subj : Str}
local macro_rules | `(tactic| walk_at "exec While Compare cons nil") => `(tactic| walk_at "stop")
local macro_rules | `(tactic| walk_at "call ref") => `(tactic| with_reducible first | refine hold_call [341] (by decide) ?_ | fail)
set_option maxRecDepth 100000 in
set_option maxHeartbeats 8000000 in
theorem tried_c (B : Below A₀ base outer h₀) (F : Fr h₀ L s.heap m) (X : (stage.heap_1 w.params).In h₀)
  (N : News h₀ L s.heap ((xd, hostD h1 h2 h3 h4 h5 h6 t1 t2 t2' t3 t4 t4' t5 t5' t6 xv xr xl lim k) :: (xv, od) :: (xl, listOf log.toArray nl) :: tupsZ))
  (T : Top hd.view_1 (looseW hd.view_1 [Str.ofString "SnobolError", Str.ofString "plain_count"]) mean mg mb h₀)
  (hk : cs.kind = .function) (hr : dp + 60 < recursionLimit) (hu : un + 250 < cLine)
  (hok : ∀ p ∈ tupsZ, OkT stat p) (hs1 : ∀ p ∈ stat, p.1 ≠ xd) (hs2 : ∀ p ∈ stat, p.1 ≠ xv) (hs3 : ∀ p ∈ stat, p.1 ≠ xl) (hst : stat ⊆ tupsZ)
  (n12 : @Ne Nat xd xv) (n13 : @Ne Nat xd xl) (n23 : @Ne Nat xv xl)
  (hod : od.IsDictOf (PySem.strKind PySem.Challenge.rw_sj0196_01.row.prog w) kvs) (lov : (xv == sysModules) = false)
  (mh : (xh, instObj 407 xd) ∈ tupsZ) (mr : (xr, listOf #[] 0) ∈ tupsZ) (hsl : subj.length ≤ 100)
  {p : Pat} {st st' : St} {k' : Int} {f : Nat} {G : Str → Option Pat} (hl9 : lim ≤ 99999) (hk0 : 0 ≤ k) (hkl : (kvs.length : Int) ≤ k + 10) (hll0 : (log.length : Int) ≤ k) (hp : PatIn tupsZ nd p) {T0g : List (Addr × Obj)} (hT0 : ∀ p ∈ T0g, p ∈ tupsZ) (hG : GIn T0g kvs G) (hlog : All2 (LogIn tupsZ) log st.log) (hpile : st.pile = [])
  (hrun : run G subj lim f none { st with pile := [([p], begin)] } k = some (st', k'))
  (hret : ∀ h' tk' tk5 od' kvs' log' nl' tl, Fr h₀ L h' m → News h₀ L h' ((xd, hostD h1 h2 h3 h4 h5 h6 t1 t2 t2' t3 t4 t4' t5 tk5 t6 xv xr xl lim k') :: (xv, od') :: (xl, listOf (List.toArray log') nl') :: (tl ++ tupsZ)) →
    Tups tl → od'.IsDictOf (PySem.strKind PySem.Challenge.rw_sj0196_01.row.prog w) kvs' → 0 ≤ k' → (kvs'.length : Int) ≤ k' + 10 → (log'.length : Int) ≤ k' → GIn T0g kvs' G → All2 (LogIn (tl ++ tupsZ)) log' st'.log → Q .none { s with heap := h', toks := tk' }) :
  wpAny (model PySem.Challenge.rw_sj0196_01.row.prog w) (ktrTop dp un gd cn cs L a ccd cl outer) (call (.ref 334) [.ref nd, .str subj ts, .int begin tb, .ref xh]) Q E s := by
  revert X; k_fill; intro X
  have s1 := sepT N (.head _) rfl (by decide) (fun p hp => .tail _ (.tail _ (.tail _ hp))) hok hs1
  have s2 := sepT N (.tail _ (.head _)) (by obtain ⟨es, ep, ⟨hcls, -⟩, -⟩ := hod; exact hcls) (by decide) (fun p hp => .tail _ (.tail _ (.tail _ hp))) hok hs2
  have s3 := sepT N (.tail _ (.tail _ (.head _))) rfl (by decide) (fun p hp => .tail _ (.tail _ (.tail _ hp))) hok hs3
  walk_at "call ref"
  k_steps
  unfold Hold
  rename Fr _ _ _ _ => F1
  rename News _ _ _ _ => N1
  rename_i g1 L1 hx FG1 B1 X1 T1 tkx D2 hy la D1 hz lb D0 hw lc xp hv ld hu'
  clear lc hx hy hz hw hv
  refine wpAny_mono (ksw_while (σ := Cf) (fun c => (xd, hostD h1 h2 h3 h4 h5 h6 t1 t2 t2' t3 t4 t4' t5 c.tk5 t6 xv xr xl lim c.k) :: (xv, c.od) :: (xl, listOf c.log.toArray c.nl) :: (xp, listOf c.items.toArray c.np) :: c.tups) (fun _ => [])
    (fun c => CfOk w stat tupsZ xh xd xr (.ref D1) G T0g c ∧ run G subj lim c.f none c.st c.k = some (st', k')) [Str.ofString "way", Str.ofString "chain", Str.ofString "at", Str.ofString "named"] (fun _ => True) (fun c => c.f)
    ⟨f, { st with pile := [([p], begin)] }, k, t5', od, kvs, log, nl, [.ref D0], 0, (D0, tupObj [.ref D2, .int begin tb, .ref D1]) :: (D1, tupObj []) :: (D2, tupObj [.ref nd, .none]) :: tupsZ⟩ F1 ?_ ⟨⟨⟨[_, _, _], by walk_at "okT", rfl⟩, ?_, hod, hk0, hkl, hll0, (by show ((1 : Nat) : Int) ≤ k + 1; omega), hG, ?_, ?_, ?_, ?_⟩, hrun⟩ (List.forall_mem_nil _) trivial ?_) (fun _ _ x => x) (fun _ _ x => x)
  · refine kst_newsOf N1 fun p hp => ?_
    simp only [List.mem_cons] at hp ⊢
    rcases hp with h | h | h | h | h | h | h | h <;> simp [h]
  · exact List.forall_mem_cons.mpr ⟨.inl rfl, List.forall_mem_cons.mpr ⟨.inl rfl, List.forall_mem_cons.mpr ⟨.inl rfl, hok⟩⟩⟩
  · exact all2_mono (fun _ _ h => h.mono fun p hp => .tail _ (.tail _ (.tail _ hp))) hlog
  · exact .cons ⟨D0, _, _, rfl, .head _, .cons (.tail _ (.tail _ (.head _))) (hp.mono fun p hp => .tail _ (.tail _ (.tail _ hp))) .nil⟩ .nil
  · exact .tail _ (.tail _ (.tail _ mh))
  · exact .tail _ (.tail _ (.tail _ mr))
  have hs4 : ∀ p ∈ stat, p.1 ≠ xp := fun p hp => Nat.ne_of_lt (allLt_mem ld.2.2.2.2.2.2 p (hst hp))
  have n14 : @Ne Nat xd xp := Nat.ne_of_lt ld.2.2.2.1
  have n24 : @Ne Nat xv xp := Nat.ne_of_lt ld.2.2.2.2.1
  have n34 : @Ne Nat xl xp := Nat.ne_of_lt ld.2.2.2.2.2.1
  clear N1 F1 N hrun hpile hlog hG hk0 hkl hll0 hp hod hok mh mr
  rintro ⟨f, st, k, tk5, od, kvs, log, nl, items, np, tups⟩ u h tk2 ⟨hc, hrun⟩ - F1 N1
  dsimp only at F1 N1 hc hrun
  generalize hZ : KswPost _ _ _ _ _ _ _ _ _ _ _ _ = Z
  cases f with
  | zero => cases hrun
  | succ f =>
  rw [run] at hrun
  cases hl : st.pile.getLast? with
  | none =>
    rw [hl] at hrun
    obtain ⟨rfl, hpn⟩ := all2_none hc.pile hl
    k_fold
    k_steps
    cases hrun
    rename Fr h₀ L _ _ => F2
    rename News h₀ L _ _ => N2
    obtain ⟨tl, htl, rfl⟩ := hc.sub
    exact hret _ _ _ _ _ _ _ tl F2 (kst_newsOf N2 drop4) htl hc.od hc.k0 hc.kl hc.ll hc.gin hc.log
  | some wp =>
    rw [hl] at hrun
    obtain ⟨its, a, rfl, ha, hits⟩ := all2_last hc.pile hl
    obtain ⟨x, cv, tx, rfl, hx, hch⟩ := ha
    dsimp only at hx hch hrun
    have hok := hc.ok
    have s1 := sepT N1 (.head _) rfl (by decide) (fun p hp => .tail _ (.tail _ (.tail _ (.tail _ hp)))) hok hs1
    have s2 := sepT N1 (.tail _ (.head _)) (by obtain ⟨es, ep, ⟨hcls, -⟩, -⟩ := hc.od; exact hcls) (by decide) (fun p hp => .tail _ (.tail _ (.tail _ (.tail _ hp)))) hok hs2
    have s3 := sepT N1 (.tail _ (.tail _ (.head _))) rfl (by decide) (fun p hp => .tail _ (.tail _ (.tail _ (.tail _ hp)))) hok hs3
    have s4 := sepT N1 (.tail _ (.tail _ (.tail _ (.head _)))) rfl (by decide) (fun p hp => .tail _ (.tail _ (.tail _ (.tail _ hp)))) hok hs4
    obtain ⟨f', p0, rest0, res0, st0, e1, e2, e3, e4, e5⟩ := run_inv hrun
    have hpl : ((its ++ [Value.ref x]).length : Int) ≤ k + 1 := hc.pl
    rw [List.length_append, List.length_singleton] at hpl
    have hll : its.length ≤ 100000 := by omega
    clear e1 e2 e3 e4 e5 f' rest0 res0 st0 p0
    k_unmd
    k_fold
    k_steps
    · unfold Hold
      rename Fr g1 L1 _ _ => F2
      rename News g1 L1 _ _ => N2
      refine ksw_while (σ := Cf × Value × Value × Int × Tok) (fun c => (xd, hostD h1 h2 h3 h4 h5 h6 t1 t2 t2' t3 t4 t4' t5 c.1.tk5 t6 xv xr xl lim c.1.k) :: (xv, c.1.od) :: (xl, listOf c.1.log.toArray c.1.nl) :: (xp, listOf c.1.items.toArray c.1.np) :: c.1.tups)
        (fun c => [(Str.ofString "named", .ref D1), (Str.ofString "at", .int c.2.2.2.1 c.2.2.2.2), (Str.ofString "chain", c.2.2.1), (Str.ofString "way", c.2.1)])
        (fun c => CfOk w stat tupsZ xh xd xr (.ref D1) G T0g c.1 ∧ c.1.f ≤ f ∧ ∃ pl, ChainIn c.1.tups c.2.2.1 pl ∧ run G subj lim c.1.f (some (pl, c.2.2.2.1)) c.1.st c.1.k = some (st', k')) [] (fun _ => True) (fun c => c.1.f)
        (⟨f, { st with pile := st.pile.dropLast }, k, tk5, od, kvs, log, nl, its, np + 1, tups⟩, .ref x, cv, wp.2, tx) F2 N2 ⟨⟨hc.sub, hok, hc.od, hc.k0, hc.kl, hc.ll, (by show (its.length : Int) ≤ k + 1; omega), hc.gin, hc.log, hits, hc.mh, hc.mr⟩, Nat.le_refl _, wp.1, hch, hrun⟩
        (List.forall_mem_cons.mpr ⟨rfl, List.forall_mem_cons.mpr ⟨rfl, List.forall_mem_cons.mpr ⟨rfl, List.forall_mem_cons.mpr ⟨rfl, List.forall_mem_nil _⟩⟩⟩⟩) trivial ?_
      clear F2 N2 s1 s2 s3 s4 hpl hll hits hx hch hrun hok hc
      rintro ⟨⟨fi, st, k, tk5, od, kvs, log, nl, items, np, tups⟩, wv, chv, at_, ta⟩ u2 h2_ tk3 ⟨hc, hfi, pl, hch, hrun⟩ - F2 N2
      dsimp only at F2 N2 hc hrun hch hfi
      obtain ⟨f', p, rest, res, st1, rfl, rfl, hlim, hadv, hrun1⟩ := run_inv hrun
      have hb := adv_bounds hadv
      have hgr := adv_grow hadv
      have hbk1 : (kvs.length : Int) ≤ k + 10 := hc.kl
      have hbk2 : (log.length : Int) ≤ k := hc.ll
      have hbk3 : (items.length : Int) ≤ k + 1 := hc.pl
      have hbk4 : 0 ≤ k := hc.k0
      cases hch with
      | @cons c nd restv _ _ hmc hpp hpr =>
      have hok := hc.ok
      have s1 := sepT N2 (.head _) rfl (by decide) (fun p hp => .tail _ (.tail _ (.tail _ (.tail _ hp)))) hok hs1
      have s2 := sepT N2 (.tail _ (.head _)) (by obtain ⟨es, ep, ⟨hcls, -⟩, -⟩ := hc.od; exact hcls) (by decide) (fun p hp => .tail _ (.tail _ (.tail _ (.tail _ hp)))) hok hs2
      have s3 := sepT N2 (.tail _ (.tail _ (.head _))) rfl (by decide) (fun p hp => .tail _ (.tail _ (.tail _ (.tail _ hp)))) hok hs3
      have s4 := sepT N2 (.tail _ (.tail _ (.tail _ (.head _)))) rfl (by decide) (fun p hp => .tail _ (.tail _ (.tail _ (.tail _ hp)))) hok hs4
      have mh := hc.mh
      have mr := hc.mr
      generalize hY : KswPost _ _ _ _ _ _ _ _ _ _ _ _ = Y
      k_unmd
      k_fold
      k_steps
      unfold Hold
      rename Fr g1 L1 _ _ => F3
      rename News g1 L1 _ _ => N3
      k_dflt (refine adv_sim (kvs := kvs) B1 F3 X1 N3 T1 rfl (by k_room) (by ktr_units) hok hs1 hs2 hs3 hs4 n12 n13 n14 n23 n24 n34 hc.od lov (by omega) (by omega) (by omega) mh mr hmc hsl hb.1 hb.2 hpp hpr (fun p hp => by obtain ⟨tl, -, e⟩ := hc.sub; rw [show tups = tl ++ tupsZ from e]; exact List.mem_append_right _ (hT0 p hp)) hc.gin hc.log hc.pile hadv ?_)
      clear F3 N3 F2 N2
      intro r od' kvs' log' nl' items' np' tl h' tk' F4 N4 htl hod' hkl' hG' hlog' hpile' hres
      have c1 := all2_length hlog'
      have c2 : log.length = st.log.length := all2_length hc.log
      have c3 := all2_length hpile'
      have c4 : items.length = st.pile.length := all2_length hc.pile
      have d1 : (kvs'.length : Int) ≤ k + 1 + 10 := by omega
      have d2 : (log'.length : Int) ≤ k + 1 := by omega
      have d3 : (items'.length : Int) ≤ k + 1 + 1 := by omega
      have d4 : 0 ≤ k + 1 := by omega
      clear c1 c2 c3 c4 hgr hbk1 hbk2 hbk3 hbk4 hkl'
      have sub : ∀ p ∈ tups, p ∈ tl ++ tups := fun p hp => List.mem_append_right _ hp
      have hok' : ∀ p ∈ tl ++ tups, OkT stat p := fun p hp => (List.mem_append.mp hp).elim (fun h => .inl (htl p h)) (hok p)
      cases res with
      | none =>
        cases hres
        k_unmd
        k_fold
        k_steps
        dsimp only
        rw [← hY]
        unfold KswPost
        dsimp only
        k_unmd
        (try k_fold)
        k_steps
        rename Fr g1 L1 _ _ => F5
        rename News g1 L1 _ _ => N5
        rw [← hZ]
        refine ksw_end (⟨f', st1, k + 1, _, od', kvs', log', nl', items', np', tl ++ tups⟩ : Cf) F5 N5 (fun _ hp => hp) ⟨⟨CfOk.grow hc.sub htl, hok', hod', d4, d1, d2, d3, hG', hlog', hpile', sub _ mh, sub _ mr⟩, hrun1⟩ (List.forall_mem_nil _) ?_ trivial ?_
        · intro z _ hz2
          have a1 : z ≠ Str.ofString "named" := not_contains hz2 _ (.tail _ (.tail _ (.tail _ (.head _))))
          have a2 : z ≠ Str.ofString "at" := not_contains hz2 _ (.tail _ (.tail _ (.head _)))
          have a3 : z ≠ Str.ofString "chain" := not_contains hz2 _ (.tail _ (.head _))
          have a4 : z ≠ Str.ofString "way" := not_contains hz2 _ (.head _)
          have a5 : ([] : List Str).contains z = false := rfl
          simp only [if_neg a1, if_neg a2, if_neg a3, if_neg a4, kstB, hz2, a5, Bool.false_eq_true, if_false]
        · show f' < f + 1
          omega
      | some w2 =>
        obtain ⟨x2, cv2, tx2, rfl, hx2, hch2⟩ := hres
        have hx2' := hx2
        k_unmd
        k_fold
        k_steps
        rename Fr g1 L1 _ _ => F5
        rename News g1 L1 _ _ => N5
        rw [← hY]
        refine ksw_end ((⟨f', st1, k + 1, _, od', kvs', log', nl', items', np', tl ++ tups⟩, .ref x2, cv2, w2.2, tx2) : Cf × Value × Value × Int × Tok) F5 N5 (fun _ hp => hp) ⟨⟨CfOk.grow hc.sub htl, hok', hod', d4, d1, d2, d3, hG', hlog', hpile', sub _ mh, sub _ mr⟩, by show f' ≤ f; omega, w2.1, hch2, hrun1⟩
          (List.forall_mem_cons.mpr ⟨rfl, List.forall_mem_cons.mpr ⟨rfl, List.forall_mem_cons.mpr ⟨rfl, List.forall_mem_cons.mpr ⟨rfl, List.forall_mem_nil _⟩⟩⟩⟩) ?_ trivial ?_
        · intro z hz1 hz2
          have a1 : z ≠ Str.ofString "named" := hz1 (Str.ofString "named", _) (.head _)
          have a2 : z ≠ Str.ofString "at" := hz1 (Str.ofString "at", _) (.tail _ (.head _))
          have a3 : z ≠ Str.ofString "chain" := hz1 (Str.ofString "chain", _) (.tail _ (.tail _ (.head _)))
          have a4 : z ≠ Str.ofString "way" := hz1 (Str.ofString "way", _) (.tail _ (.tail _ (.tail _ (.head _))))
          simp only [if_neg a1, if_neg a2, if_neg a3, if_neg a4, kstB, hz2, Bool.false_eq_true, if_false]
        · show f' < f' + 1
          omega
end tried
end
section
theorem rot3 {α : Type} {i a b c : α} {t : List α} : ∀ p ∈ a :: b :: c :: i :: t, p ∈ i :: a :: b :: c :: t := by
  intro p hp
  simp only [List.mem_cons] at hp ⊢
  rcases hp with h | h | h | h | h <;> simp [h]
theorem rot3b {α : Type} {i a b c : α} {tl t : List α} : ∀ p ∈ i :: a :: b :: c :: (tl ++ t), p ∈ a :: b :: c :: (tl ++ (i :: t)) := by
  intro p hp
  simp only [List.mem_cons, List.mem_append] at hp ⊢
  rcases hp with h | h | h | h | h | h <;> simp [h]
theorem LogIn.drop {tl T : List (Addr × Obj)} {it : Addr} {io : Obj} {v : Value} {e : Str × Val} (hio : io.cls ≠ .type "tuple") (h : LogIn (tl ++ (it, io) :: T) v e) : LogIn (tl ++ T) v e := by
  obtain ⟨a, t, v', hv, hm, hr⟩ := h
  refine ⟨a, t, v', hv, ?_, hr⟩
  simp only [List.mem_append, List.mem_cons] at hm ⊢
  rcases hm with h | h | h
  · exact .inl h
  · have := congrArg (fun p => p.2.cls) h
    exact absurd this.symm hio
  · exact .inr h
noncomputable def MIs (S : List Str) (m₀ m : Str → Option Value) : Prop := ∃ u : Str → Option Value, m = fun z => if S.contains z = true then u z else m₀ z
theorem MIs.refl {S : List Str} {m₀ : Str → Option Value} : MIs S m₀ m₀ := ⟨m₀, funext fun z => by split <;> rfl⟩
theorem jm_of {S : List Str} {m₀ m : Str → Option Value} (h : ∀ z, S.contains z = false → m z = m₀ z) : ∃ u : Str → Option Value, m = fun z => if S.contains z = true then u z else m₀ z := ⟨m, funext fun z => by
  cases hz : S.contains z with
  | true => simp
  | false => simpa using h z hz⟩
section matchp
variable {w : World} {mean : ExcName → Option Value} {mg mb : Str → Option Value} {dp un : Nat} {gd : Option (List Code)} {cn : Str} {cs : Scope} {L a : Addr} {ccd : Value} {cl : List (Str × Addr)} {outer : List Env} {A₀ : Around} {base h₀ : Heap} {m : Str → Option Value} {s : Shared} {Q E : Value → Shared → Prop}
  {xh xd xv xl xr nd : Addr} {h1 h2 h3 h4 h5 h6 : Int} {t1 t2 t2' t3 t4 t4' t5 t5' t6 : Tok} {od : Obj} {kvs : List (Str × Value)} {log : List Value} {nl : Nat} {lim k : Int} {tups stat : List (Addr × Obj)} {tb ts : Tok} {subj : Str}
local macro_rules | `(tactic| walk_at "call ref") => `(tactic| with_reducible first | refine hold_call [334] (by decide) ?_ | fail)
local macro_rules | `(tactic| walk_at "pyIter ref") => `(tactic| walk_at "iter")
set_option maxRecDepth 100000 in
set_option maxHeartbeats 8000000 in
theorem tried_i {it : Addr} {io : Obj} {begin : Int} {tb : Tok} (B : Below A₀ base outer h₀) (F : Fr h₀ L s.heap m) (X : (stage.heap_1 w.params).In h₀)
  (N : News h₀ L s.heap ((it, io) :: (xd, hostD h1 h2 h3 h4 h5 h6 t1 t2 t2' t3 t4 t4' t5 t5' t6 xv xr xl lim k) :: (xv, od) :: (xl, listOf log.toArray nl) :: tups))
  (T : Top hd.view_1 (looseW hd.view_1 [Str.ofString "SnobolError", Str.ofString "plain_count"]) mean mg mb h₀)
  (hk : cs.kind = .function) (hr : dp + 60 < recursionLimit) (hu : un + 250 < cLine)
  (hio : io.cls ≠ .type "tuple") (o1 : @Ne Nat it xd) (o2 : @Ne Nat it xv) (o3 : @Ne Nat it xl) (hok : ∀ p ∈ tups, OkT stat p) (hs1 : ∀ p ∈ stat, p.1 ≠ xd) (hs2 : ∀ p ∈ stat, p.1 ≠ xv) (hs3 : ∀ p ∈ stat, p.1 ≠ xl) (hst : stat ⊆ tups)
  (n12 : @Ne Nat xd xv) (n13 : @Ne Nat xd xl) (n23 : @Ne Nat xv xl)
  (hod : od.IsDictOf (PySem.strKind PySem.Challenge.rw_sj0196_01.row.prog w) kvs) (lov : (xv == sysModules) = false)
  (mh : (xh, instObj 407 xd) ∈ tups) (mr : (xr, listOf #[] 0) ∈ tups) (hsl : subj.length ≤ 100)
  {p : Pat} {st st' : St} {k' : Int} {f : Nat} {G : Str → Option Pat} {T0g : List (Addr × Obj)} (hl9 : lim ≤ 99999) (hk0 : 0 ≤ k) (hkl : (kvs.length : Int) ≤ k + 10) (hll0 : (log.length : Int) ≤ k) (hp : PatIn tups nd p) (hT0 : ∀ p ∈ T0g, p ∈ tups) (hG : GIn T0g kvs G) (hlog : All2 (LogIn tups) log st.log)
  (hrun : run G subj lim f none { st with pile := [([p], begin)] } k = some (st', k'))
  (hret : ∀ h' tk' tk5 od' kvs' log' nl' tl, Fr h₀ L h' m → News h₀ L h' ((it, io) :: (xd, hostD h1 h2 h3 h4 h5 h6 t1 t2 t2' t3 t4 t4' t5 tk5 t6 xv xr xl lim k') :: (xv, od') :: (xl, listOf (List.toArray log') nl') :: (tl ++ tups)) →
    Tups tl → od'.IsDictOf (PySem.strKind PySem.Challenge.rw_sj0196_01.row.prog w) kvs' → 0 ≤ k' → (kvs'.length : Int) ≤ k' + 10 → (log'.length : Int) ≤ k' → GIn T0g kvs' G → All2 (LogIn (tl ++ tups)) log' st'.log → Q .none { s with heap := h', toks := tk' }) :
  wpAny (model PySem.Challenge.rw_sj0196_01.row.prog w) (ktrTop dp un gd cn cs L a ccd cl outer) (call (.ref 334) [.ref nd, .str subj ts, .int begin tb, .ref xh]) Q E s := by
  refine tried_c (stat := (it, io) :: stat) B F X (kst_newsOf N rot3) T hk hr hu ?_ ?_ ?_ ?_ ?_ n12 n13 n23 hod lov (.tail _ mh) (.tail _ mr) hsl (st := { st with pile := [] }) hl9 hk0 hkl hll0 (hp.mono fun _ h => .tail _ h) (fun p hp => .tail _ (hT0 p hp)) hG (all2_mono (fun _ _ h => h.mono fun _ h => .tail _ h) hlog) rfl hrun ?_
  · exact List.forall_mem_cons.mpr ⟨.inr (.head _), fun p hp => (hok p hp).elim .inl fun h => .inr (.tail _ h)⟩
  · exact List.forall_mem_cons.mpr ⟨o1, hs1⟩
  · exact List.forall_mem_cons.mpr ⟨o2, hs2⟩
  · exact List.forall_mem_cons.mpr ⟨o3, hs3⟩
  · intro p hp
    rcases List.mem_cons.mp hp with e | h
    · rw [e]; exact .head _
    · exact .tail _ (hst h)
  intro h' tk' tk5 od' kvs' log' nl' tl F4 N4 htl hod' hk0' hkl' hll' hG' hlog'
  refine hret h' tk' tk5 od' kvs' log' nl' tl F4 (kst_newsOf N4 rot3b) htl hod' hk0' hkl' hll' hG' ?_
  exact all2_mono (fun _ _ h => h.drop hio) hlog'
set_option maxRecDepth 100000 in
set_option maxHeartbeats 8000000 in
theorem match_c (B : Below A₀ base outer h₀) (F : Fr h₀ L s.heap m) (X : (stage.heap_1 w.params).In h₀)
  (N : News h₀ L s.heap ((xd, hostD h1 h2 h3 h4 h5 h6 t1 t2 t2' t3 t4 t4' t5 t5' t6 xv xr xl lim k) :: (xv, od) :: (xl, listOf log.toArray nl) :: tups))
  (T : Top hd.view_1 (looseW hd.view_1 [Str.ofString "SnobolError", Str.ofString "plain_count"]) mean mg mb h₀)
  (hk : cs.kind = .function) (hr : dp + 70 < recursionLimit) (hu : un + 270 < cLine)
  (hok : ∀ p ∈ tups, OkT stat p) (hs1 : ∀ p ∈ stat, p.1 ≠ xd) (hs2 : ∀ p ∈ stat, p.1 ≠ xv) (hs3 : ∀ p ∈ stat, p.1 ≠ xl) (hst : stat ⊆ tups)
  (n12 : @Ne Nat xd xv) (n13 : @Ne Nat xd xl) (n23 : @Ne Nat xv xl)
  (hod : od.IsDictOf (PySem.strKind PySem.Challenge.rw_sj0196_01.row.prog w) kvs) (lov : (xv == sysModules) = false)
  (mh : (xh, instObj 407 xd) ∈ tups) (mr : (xr, listOf #[] 0) ∈ tups) (hsl : subj.length ≤ 100)
  {p : Pat} {stF : Nat → St} {kF : Nat → Int} {fF : Nat → Nat} {G : Str → Option Pat} (hl9 : lim ≤ 99999) (hk0 : 0 ≤ k) (hkl : (kvs.length : Int) ≤ k + 10) (hll0 : (log.length : Int) ≤ k) (hp : PatIn tups nd p) (hG : GIn tups kvs G) (hkF : kF 0 = k) (hk9 : kF (subj.length + 1) ≤ 99999) (hlog : All2 (LogIn tups) log (stF 0).log)
  (hruns : ∀ b, b < subj.length + 1 → run G subj lim (fF b) none { stF b with pile := [([p], (b : Int))] } (kF b) = some (stF (b + 1), kF (b + 1)))
  (hret : ∀ h' tk' tk5 od' log' nl' tl k', Fr h₀ L h' m → News h₀ L h' ((xd, hostD h1 h2 h3 h4 h5 h6 t1 t2 t2' t3 t4 t4' t5 tk5 t6 xv xr xl lim k') :: (xv, od') :: (xl, listOf (List.toArray log') nl') :: (tl ++ tups)) →
    Tups tl → All2 (LogIn (tl ++ tups)) log' (stF (subj.length + 1)).log → (log'.length : Int) ≤ 99999 → Q .none { s with heap := h', toks := tk' }) :
  wpAny (model PySem.Challenge.rw_sj0196_01.row.prog w) (ktrTop dp un gd cn cs L a ccd cl outer) (call (.ref 320) [.ref nd, .str subj ts, .bool false, .ref xh]) Q E s := by
  revert X; k_fill; intro X
  have hlx : ∀ p ∈ tups, p.1 ≠ p.1 + 1 := fun p _ => Nat.ne_of_lt (Nat.lt_succ_self _)
  clear hlx
  k_steps
  unfold Hold
  rename Fr _ _ _ _ => F1
  rename News _ _ _ _ => N1
  rename Below _ _ _ _ => B1
  rename Frag.In _ _ => X1
  rename Top _ _ _ _ _ _ => T1
  rename IsRange _ _ _ _ _ _ _ _ => hR
  have hrg := rng (a := 0) (b := (subj.length : Int) + 1) (subj.length + 1) (by decide) (Int.zero_add _).symm (by omega)
  k_dflt (refine iter_rangeUnr (n := subj.length + 1) (by rfl) hR hrg.1 hrg.2 F1 N1 ?_)
  intro I lI
  clear F1 N1 hR
  have hIt : ∀ p ∈ tups, p.1 ≠ I := fun p hp => Nat.ne_of_lt (lI p (.tail _ (.tail _ (.tail _ hp))))
  have oI1 : @Ne Nat I xd := Nat.ne_of_gt (lI _ (.head _))
  have oI2 : @Ne Nat I xv := Nat.ne_of_gt (lI _ (.tail _ (.head _)))
  have oI3 : @Ne Nat I xl := Nat.ne_of_gt (lI _ (.tail _ (.tail _ (.head _))))
  clear lI
  refine RangeRest.invM (fun m₀ i m nw => ∃ (tk5 : Tok) (od : Obj) (kvs : List (Str × Value)) (log : List Value) (nl : Nat) (tl : List (Addr × Obj)) (k : Int), MIs [Str.ofString "begin", Str.ofString "found"] m₀ m ∧
    nw = (xd, hostD h1 h2 h3 h4 h5 h6 t1 t2 t2' t3 t4 t4' t5 tk5 t6 xv xr xl lim k) :: (xv, od) :: (xl, listOf log.toArray nl) :: (tl ++ tups) ∧ Tups tl ∧ od.IsDictOf (PySem.strKind PySem.Challenge.rw_sj0196_01.row.prog w) kvs ∧ k = kF i ∧ 0 ≤ k ∧ (kvs.length : Int) ≤ k + 10 ∧ (log.length : Int) ≤ k ∧ GIn tups kvs G ∧ All2 (LogIn (tl ++ tups)) log (stF i).log)
    ?turn ?fin ?start
  case start =>
    exact ⟨t5', od, kvs, log, nl, [], k, MIs.refl, rfl, Tups.nil, hod, hkF.symm, hk0, hkl, hll0, hG, hlog⟩
  case turn =>
    intro i m nw t h tk hi hJ F2 N2
    obtain ⟨tk5, od, kvs, log, nl, tl, k, ⟨u, rfl⟩, rfl, htl, hod, hki, hk0, hkl, hll, hG, hlog⟩ := hJ
    have hok2 : ∀ p ∈ tl ++ tups, OkT stat p := fun p hp => (List.mem_append.mp hp).elim (fun h => .inl (htl p h)) (hok p)
    k_steps
    unfold Hold
    rename Fr _ _ _ _ => F3
    rename News _ _ _ _ => N3
    rename Below _ _ _ _ => B2
    rename Frag.In _ _ => X2
    rename Top _ _ _ _ _ _ => T2
    k_dflt (refine tried_i (T0g := tups) (kvs := kvs) B2 F3 X2 N3 T2 rfl (by k_room) (by ktr_units) (by intro e; exact absurd (Value.type.inj e) (by decide)) oI1 oI2 oI3 hok2 hs1 hs2 hs3 (fun p hp => List.mem_append_right _ (hst hp)) n12 n13 n23 hod lov (List.mem_append_right _ mh) (List.mem_append_right _ mr) hsl (st := stF i) hl9 hk0 hkl hll (hp.mono fun p hp => List.mem_append_right _ hp) (fun p hp => List.mem_append_right _ hp) hG hlog (by rw [Int.zero_add, hki]; exact hruns i hi) ?_)
    clear N3 F3 N2 F2
    intro h' tk' tk5 od' kvs' log' nl' tl2 F4 N4 htl2 hod' hk0' hkl' hll' hG' hlog'
    have hok3 : ∀ p ∈ tl2 ++ (tl ++ tups), OkT stat p := fun p hp => (List.mem_append.mp hp).elim (fun h => .inl (htl2 p h)) (hok2 p)
    k_unmd
    k_fold
    k_steps
    rename Fr _ _ _ _ => F5
    rename News _ _ _ _ => N5
    have hq6 := sepT N5 (.head _) rfl (by decide) (fun p hp => .tail _ (.tail _ (.tail _ (.tail _ hp)))) hok3 (fun p hp => hIt p (hst hp))
    refine UnrEnd.intro F5 N5 _ (fun _ h => h) (List.forall_mem_cons.mpr ⟨Ne.symm oI1, List.forall_mem_cons.mpr ⟨Ne.symm oI2, List.forall_mem_cons.mpr ⟨Ne.symm oI3, hq6⟩⟩⟩) ?_
    refine ⟨_, _, kvs', log', _, tl2 ++ tl, _, jm_of ?_, by rw [List.append_assoc], fun p hp => (List.mem_append.mp hp).elim (htl2 p) (htl p), hod', rfl, hk0', hkl', hll', hG', by rw [List.append_assoc]; exact hlog'⟩
    intro z hz
    have a1 : z ≠ Str.ofString "begin" := fun e => by subst e; exact absurd hz (by decide)
    have a2 : z ≠ Str.ofString "found" := fun e => by subst e; exact absurd hz (by decide)
    simp only [if_neg a1, if_neg a2, hz, Bool.false_eq_true, if_false]
  case fin =>
    intro m nw h tk hJ F2 N2
    obtain ⟨tk5, od, kvs, log, nl, tl, k, ⟨u, rfl⟩, rfl, htl, hod, hki, hk0, hkl, hll, hG, hlog⟩ := hJ
    k_unmd
    (try k_fold)
    k_steps
    rename Fr h₀ L _ _ => F7
    rename News h₀ L _ _ => N7
    exact hret _ _ _ _ log _ tl _ F7 N7 htl hlog (Int.le_trans hll (by rw [hki]; exact hk9))
end matchp
end
section
section make
variable {w : World} {mean : ExcName → Option Value} {mg mb : Str → Option Value} {dp un : Nat} {gd : Option (List Code)} {cn : Str} {cs : Scope} {L a : Addr} {ccd : Value} {cl : List (Str × Addr)} {outer : List Env} {A₀ : Around} {base h₀ : Heap} {m : Str → Option Value} {s : Shared} {Q E : Value → Shared → Prop}
  {news : List (Addr × Obj)} {name : Str} {ta tb tc : Tok} {xv xr : Addr} {lim : Int}
set_option maxRecDepth 100000 in
set_option maxHeartbeats 8000000 in
theorem ref_c (B : Below A₀ base outer h₀) (F : Fr h₀ L s.heap m) (X : (stage.heap_1 w.params).In h₀) (N : News h₀ L s.heap news)
  (T : Top hd.view_1 (looseW hd.view_1 [Str.ofString "SnobolError", Str.ofString "plain_count"]) mean mg mb h₀)
  (hk : cs.kind = .function) (hr : dp + 50 < recursionLimit) (hu : un + 200 < cLine)
  (ret : ∀ x dx h' tk' g1 g2 g3 u1 u2 u3, Fr h₀ L h' m → News h₀ L h' ((x, instObj 110 dx) :: (dx, refD g1 g2 g3 u1 u2 u3 ta tb name) :: news) → (∀ p ∈ news, p.1 < dx) → @LT.lt Nat _ dx x → Q (.ref x) { s with heap := h', toks := tk' }) :
  wpAny (model PySem.Challenge.rw_sj0196_01.row.prog w) (ktrTop dp un gd cn cs L a ccd cl outer) (call (.ref 110) [.str (Str.ofString "var") ta, .none, .str name tb]) Q E s := by
  revert X; k_fill; intro X
  k_steps
  rename Fr h₀ L _ _ => F1
  rename News h₀ L _ _ => N1
  rename (_ : Nat) < _ => l2
  rename (∀ p ∈ news, p.1 < _) => l1
  exact ret _ _ _ _ _ _ _ _ _ _ F1 N1 l1 l2
set_option maxRecDepth 100000 in
set_option maxHeartbeats 8000000 in
theorem host_c (B : Below A₀ base outer h₀) (F : Fr h₀ L s.heap m) (X : (stage.heap_1 w.params).In h₀) (N : News h₀ L s.heap news)
  (T : Top hd.view_1 (looseW hd.view_1 [Str.ofString "SnobolError", Str.ofString "plain_count"]) mean mg mb h₀)
  (hk : cs.kind = .function) (hr : dp + 50 < recursionLimit) (hu : un + 200 < cLine)
  (ret : ∀ x dx xl h' tk' h1 h2 h3 h4 h5 h6 t1 t2 t3 t4 t4' t5 t5' t6, Fr h₀ L h' m → News h₀ L h' ((xl, listOf #[] 0) :: (x, instObj 407 dx) :: (dx, hostD h1 h2 h3 h4 h5 h6 t1 t2 tb t3 t4 t4' t5 t5' t6 xv xr xl lim 0) :: news) → (∀ p ∈ news, p.1 < dx) → @LT.lt Nat _ dx x → @LT.lt Nat _ x xl → Q (.ref x) { s with heap := h', toks := tk' }) :
  wpAny (model PySem.Challenge.rw_sj0196_01.row.prog w) (ktrTop dp un gd cn cs L a ccd cl outer) (call (.ref 407) [.ref xv, .int lim tb, .ref xr]) Q E s := by
  revert X; k_fill; intro X
  k_steps
  rename Fr h₀ L _ _ => F1
  rename News h₀ L _ _ => N1
  rename (∀ p ∈ news, p.1 < _) => l1
  rename (_ : Nat) < _ ∧ _ < _ ∧ AllLt _ news => l3
  rename (_ : Nat) < _ => l2
  exact ret _ _ _ _ _ _ _ _ _ _ _ _ _ _ _ _ _ _ _ F1 N1 l1 l2 l3.1
end make
end
section
/-! the rules of the grammar as data, and how the ledger bears them -/
inductive Sym where
  | str (c : Str) | name (i : Nat)
noncomputable def SymV (v : Value) : Sym → Prop
  | .str c => ∃ t, v = .str c t
  | .name i => ∃ t, v = .int (i : Int) t
noncomputable def GoodSym : Sym → Prop
  | .str c => c = Str.ofString "a" ∨ c = Str.ofString "b"
  | .name i => i < 3
noncomputable def stu : Nat → Str
  | 0 => Str.ofString "S" | 1 => Str.ofString "T" | _ => Str.ofString "U"
noncomputable def symPat : Sym → Pat
  | .str c => .chars c
  | .name i => .delay (stu i)
noncomputable def rowPat : List Sym → Pat
  | [] => .fail
  | [s] => symPat s
  | s :: r => .cat (symPat s) (rowPat r)
noncomputable def RowIn (T : List (Addr × Obj)) (r : Addr) (row : List Sym) : Prop := ∃ vs n, (r, listOf (List.toArray vs) n) ∈ T ∧ All2 SymV vs row
theorem RowIn.mono {T T' : List (Addr × Obj)} (hs : ∀ p ∈ T, p ∈ T') {r : Addr} {row : List Sym} (h : RowIn T r row) : RowIn T' r row := by
  obtain ⟨vs, n, a, b⟩ := h
  exact ⟨vs, n, hs _ a, b⟩
theorem stu_item {i : Nat} (h : i < 3) : Txt.item (Str.ofString "STU") (i : Int) = stu i := by
  rcases i with _ | _ | _ | i
  · decide +kernel
  · decide +kernel
  · decide +kernel
  · omega
theorem All2.get {α β : Type} {R : α → β → Prop} : ∀ {l : List α} {l' : List β} {i : Nat} {v : α}, All2 R l l' → l[i]? = some v → ∃ b, R v b ∧ l'.take (i + 1) = l'.take i ++ [b] ∧ b ∈ l'
  | _, _, 0, _, .cons (b := b) h _, e => by cases e; exact ⟨b, h, by simp, .head _⟩
  | _, _, i + 1, _, .cons (b := b) h t, e => by
    obtain ⟨x, h1, h2, h3⟩ := All2.get (i := i) t (by simpa using e)
    exact ⟨x, h1, by simp only [List.take_succ_cons, h2, List.cons_append], .tail _ h3⟩
  | _, _, _, _, .nil, e => by simp at e
theorem rot5 {α : Type} {a b c x y : α} {t : List α} : ∀ p ∈ a :: b :: c :: x :: y :: t, p ∈ x :: y :: a :: b :: c :: t := by
  intro p hp
  simp only [List.mem_cons] at hp ⊢
  rcases hp with h | h | h | h | h | h <;> simp [h]
theorem rot4 {α : Type} {a b c x : α} {t : List α} : ∀ p ∈ a :: b :: c :: x :: t, p ∈ x :: a :: b :: c :: t := by
  intro p hp
  simp only [List.mem_cons] at hp ⊢
  rcases hp with h | h | h | h | h <;> simp [h]
theorem All2.at {α β : Type} {R : α → β → Prop} {v : α} : ∀ {pre post : List α} {l : List β}, All2 R (pre ++ v :: post) l → ∃ e, R v e ∧ l.take (pre.length + 1) = l.take pre.length ++ [e]
  | [], _, _, .cons (b := b) h _ => ⟨b, h, by simp⟩
  | a :: pre, post, _, .cons (b := b) (l' := l') _ t => by
    obtain ⟨e, h1, h2⟩ := All2.at (pre := pre) t
    exact ⟨e, h1, by simp only [List.length_cons, List.take_succ_cons, h2, List.cons_append]⟩
theorem row_shapes {P : Addr → Sym → Prop} {ys : List Value} {row : List Sym} (h : All2 (fun v s => ∃ nd, v = Value.ref nd ∧ P nd s) ys row) (h1 : 1 ≤ row.length) (h3 : row.length ≤ 3) :
    (∃ s1 n1, row = [s1] ∧ ys = [.ref n1] ∧ P n1 s1) ∨ (∃ s1 s2 n1 n2, row = [s1, s2] ∧ ys = [.ref n1, .ref n2] ∧ P n1 s1 ∧ P n2 s2) ∨ ∃ s1 s2 s3 n1 n2 n3, row = [s1, s2, s3] ∧ ys = [.ref n1, .ref n2, .ref n3] ∧ P n1 s1 ∧ P n2 s2 ∧ P n3 s3 := by
  cases h with
  | nil => simp at h1
  | cons a h =>
    obtain ⟨n1, rfl, p1⟩ := a
    cases h with
    | nil => exact .inl ⟨_, _, rfl, rfl, p1⟩
    | cons a h =>
      obtain ⟨n2, rfl, p2⟩ := a
      cases h with
      | nil => exact .inr (.inl ⟨_, _, _, _, rfl, rfl, p1, p2⟩)
      | cons a h =>
        obtain ⟨n3, rfl, p3⟩ := a
        cases h with
        | nil => exact .inr (.inr ⟨_, _, _, _, _, _, rfl, rfl, p1, p2, p3⟩)
        | cons a h => simp only [List.length_cons] at h3; omega
section nodes
variable {w : World} {mean : ExcName → Option Value} {mg mb : Str → Option Value} {dp un : Nat} {gd : Option (List Code)} {cn : Str} {cs : Scope} {L a : Addr} {ccd : Value} {cl : List (Str × Addr)} {outer : List Env} {A₀ : Around} {base h₀ : Heap} {m : Str → Option Value} {s : Shared} {Q E : Value → Shared → Prop}
  {news : List (Addr × Obj)}
noncomputable def JN (T : List (Addr × Obj)) (row : List Sym) (i : Nat) (ys : List Value) (nw : List (Addr × Obj)) : Prop :=
  (∃ tl, Tups tl ∧ nw = tl ++ T) ∧ All2 (fun v s => ∃ nd, v = .ref nd ∧ PatIn nw nd (symPat s)) ys (row.take i)
theorem JN.keep {T nw tl : List (Addr × Obj)} {row : List Sym} {i : Nat} {ys : List Value} {s : Sym} {nd : Addr} (hJ : JN T row i ys nw) (htk : row.take (i + 1) = row.take i ++ [s]) (htl : Tups tl) (hp : PatIn (tl ++ nw) nd (symPat s)) : JN T row (i + 1) (ys ++ [.ref nd]) (tl ++ nw) := by
  obtain ⟨⟨l, hl, rfl⟩, h2⟩ := hJ
  refine ⟨⟨tl ++ l, fun p hp => (List.mem_append.mp hp).elim (htl p) (hl p), (List.append_assoc _ _ _).symm⟩, ?_⟩
  rw [htk]
  refine all2_snoc (all2_mono (fun v s h => ?_) h2) ⟨nd, rfl, hp⟩
  obtain ⟨nd, e, h⟩ := h
  exact ⟨nd, e, h.mono fun p hp => List.mem_append_right _ hp⟩
local macro_rules | `(tactic| walk_at "exec Assign cons ListComp") => `(tactic| walk_at "stop")
local macro_rules | `(tactic| walk_at "CompSrc") => `(tactic| walk_at "stop")
local macro_rules | `(tactic| walk_at "exec For Name Subscript cons nil") => `(tactic| walk_at "stop")
noncomputable def foldPat : List Sym → List Sym → List Sym
  | [], r => r
  | s :: l, r => foldPat l (s :: r)
noncomputable def JQ (m₀ : Str → Option Value) (T : List (Addr × Obj)) (base0 : List Sym) (done : List Sym) (m : Str → Option Value) (nw : List (Addr × Obj)) : Prop :=
  ∃ (nd : Addr) (pv : Option Value) (tl : List (Addr × Obj)), m = (fun y => if y = Str.ofString "found" then some (.ref nd) else if y = Str.ofString "part" then pv else m₀ y) ∧ Tups tl ∧ nw = tl ++ T ∧ PatIn nw nd (rowPat (foldPat done base0))
theorem foldPat_ne : ∀ {l r : List Sym}, r ≠ [] → foldPat l r ≠ []
  | [], _, h => h
  | _ :: l, _, _ => foldPat_ne (l := l) (List.cons_ne_nil _ _)
theorem foldPat_snoc : ∀ (l : List Sym) (s : Sym) (r : List Sym), foldPat (l ++ [s]) r = s :: foldPat l r
  | [], _, _ => rfl
  | _ :: l, s, r => foldPat_snoc l s _
theorem swap2 {α : Type} {a b : α} {t : List α} : ∀ p ∈ b :: a :: t, p ∈ a :: b :: t := by
  intro p hp
  simp only [List.mem_cons] at hp ⊢
  rcases hp with h | h | h <;> simp [h]
theorem part_eta {m : Str → Option Value} {v : Option Value} : (fun y => if y = Str.ofString "found" then v else m y) = fun y => if y = Str.ofString "found" then v else if y = Str.ofString "part" then (fun y => if y = Str.ofString "found" then v else m y) (Str.ofString "part") else (fun y => if y = Str.ofString "found" then v else m y) y := funext fun y => by
  by_cases h : y = Str.ofString "found"
  · simp [h]
  · by_cases h2 : y = Str.ofString "part"
    · subst h2
      simp only [if_neg h, if_true]
    · simp only [if_neg h, if_neg h2]
theorem part_two {m : Str → Option Value} {a b c d : Option Value} : (fun y => if y = Str.ofString "found" then a else if y = Str.ofString "part" then b else if y = Str.ofString "found" then c else if y = Str.ofString "part" then d else m y) = fun y => if y = Str.ofString "found" then a else if y = Str.ofString "part" then b else m y := funext fun y => by
  by_cases h : y = Str.ofString "found"
  · simp [h]
  · by_cases h2 : y = Str.ofString "part"
    · simp [h2]
    · simp [h, h2]
theorem tl3 {α : Type} {a b c : α} {t : List α} : ∀ p ∈ t, p ∈ a :: b :: c :: t := fun _ h => .tail _ (.tail _ (.tail _ h))
theorem rowPat_cons {s : Sym} {r : List Sym} (h : r ≠ []) : rowPat (s :: r) = .cat (symPat s) (rowPat r) := by
  cases r with
  | nil => exact absurd rfl h
  | cons => rfl
set_option maxRecDepth 100000 in
set_option maxHeartbeats 8000000 in
theorem node_c {r : Addr} {row : List Sym} (B : Below A₀ base outer h₀) (F : Fr h₀ L s.heap m) (X : (stage.heap_1 w.params).In h₀) (N : News h₀ L s.heap news) (hm : RowIn news r row)
  (T : Top hd.view_1 (looseW hd.view_1 [Str.ofString "SnobolError", Str.ofString "plain_count"]) mean mg mb h₀)
  (hk : cs.kind = .function) (hr : dp + 50 < recursionLimit) (hu : un + 200 < cLine) (hl1 : 1 ≤ row.length) (hl3 : row.length ≤ 3) (hgood : ∀ s ∈ row, GoodSym s)
  (ret : ∀ nd T1 h' tk', Fr h₀ L h' m → News h₀ L h' T1 → (∀ p ∈ news, p ∈ T1) → PatIn T1 nd (rowPat row) → Q (.ref nd) { s with heap := h', toks := tk' }) :
  wpAny (model PySem.Challenge.rw_sj0196_01.row.prog w) (ktrTop dp un gd cn cs L a ccd cl outer) (call (.ref 423) [.ref r]) Q E s := by
  revert X; k_fill; intro X
  obtain ⟨vs, n, hm, hvs⟩ := hm
  have hvl := all2_length hvs
  walk_at "call ref"
  k_steps
  unfold Hold
  rename Fr _ _ _ _ => F1
  k_dflt (refine LCg.Assign_ListComp_U F1 (by rfl) (by with_unfolding_all rfl) (by with_unfolding_all rfl) (by decide) (by rfl) (by decide) (by rfl) (by rfl) (by rfl) ?_)
  k_steps
  unfold Hold
  rename Fr _ _ _ _ => F2
  rename News _ _ _ _ => N2
  k_dflt (refine LCg.CompSrc.ledger (by rfl) F2 N2 hm (by rw [List.size_toArray, sizeLine_eq]; omega) ?_)
  intro g
  refine CompRest.inv (JN news row) ?turn ?fin ⟨⟨[], Tups.nil, rfl⟩, .nil⟩
  case turn =>
    clear F2 N2
    intro i v ys nw I oI C oC D m2 h tk E' hi hJ hv hC hx F3 N3 off ne
    obtain ⟨sy, hsv, htk, hsm⟩ := All2.get hvs (by simpa using hv)
    have hg := hgood sy hsm
    have hmn : (r, listOf vs.toArray n) ∈ nw := by obtain ⟨⟨l, -, rfl⟩, -⟩ := hJ; exact List.mem_append_right _ hm
    cases sy with
    | str c =>
      obtain ⟨tc, rfl⟩ := hsv
      k_steps
      rename Fr _ _ _ _ => F4
      rename News _ _ _ _ => N4
      rename (_ : Nat) < _ ∧ _ < _ ∧ _ < _ ∧ AllLt _ nw => la
      exact LCg.CompEnd.intro F4 N4 _ rot4 ⟨⟨Nat.ne_of_gt la.1, Nat.ne_of_gt la.2.1, Nat.ne_of_gt la.2.2.1⟩, LCg.Off3.of off⟩ (.inr ⟨_, .tail _ hmn, rfl, _, rfl⟩) (hJ.keep htk (tl := [_]) (Tups.cons rfl Tups.nil) (.chars (.head _)))
    | name j =>
      obtain ⟨tc, rfl⟩ := hsv
      have hj : j < 3 := hg
      k_steps
      rename Fr _ _ _ _ => F4
      rename News _ _ _ _ => N4
      rename (_ : Nat) < _ ∧ _ < _ ∧ _ < _ ∧ AllLt _ nw => la
      rename (_ : Nat) < _ ∧ _ < _ ∧ _ < _ ∧ _ < _ ∧ AllLt _ nw => lb
      rw [stu_item hj] at N4
      exact LCg.CompEnd.intro F4 N4 _ rot5 ⟨⟨Nat.ne_of_gt lb.2.1, Nat.ne_of_gt lb.2.2.1, Nat.ne_of_gt lb.2.2.2.1⟩, ⟨Nat.ne_of_gt la.1, Nat.ne_of_gt la.2.1, Nat.ne_of_gt la.2.2.1⟩, LCg.Off3.of off⟩ (.inr ⟨_, .tail _ (.tail _ hmn), rfl, _, rfl⟩) (hJ.keep htk (tl := [_, _]) (Tups.cons rfl (Tups.cons rfl Tups.nil)) (.delay (.head _) (.tail _ (.head _))))
  case fin =>
    intro ys nw hJ
    obtain ⟨⟨tl, htl, rfl⟩, hys⟩ := hJ
    clear F2 N2
    intro D h tk F3 N3 oD
    k_unmd
    (try k_fold)
    rw [List.size_toArray, hvl, List.take_length] at hys
    rcases row_shapes hys hl1 hl3 with ⟨s1, n1, hrow, rfl, p1⟩ | ⟨s1, s2, n1, n2, hrow, rfl, p1, p2⟩ | ⟨s1, s2, s3, n1, n2, n3, hrow, rfl, p1, p2, p3⟩
    · skip
      k_steps
      unfold Hold
      rename Fr _ _ _ _ => F4
      k_dflt (refine For_turns F4 ?_)
      k_steps
      rename Fr _ _ _ _ => F5
      rename News _ _ _ _ => N5
      k_dflt (refine iter_listTurns (vs := []) (by rfl) F5 N5 (.head _) rfl rfl ?_)
      intro I1 lI
      refine ItemsRest.invM (fun m₀ T pre => JQ m₀ T [s1] ([].take pre.length)) ?turn1 ?fin1 ⟨n1, _, [], part_eta, Tups.nil, rfl, p1.mono tl3⟩
      case turn1 =>
        intro pre v post m nw o h tk ev hJ ho F6 N6
        obtain ⟨nd, pv, tl2, rfl, ht2, rfl, hpd⟩ := hJ
        have hall : All2 (fun v s => ∃ nd, v = Value.ref nd ∧ PatIn (tl ++ news) nd (symPat s)) [] [] := .nil
        obtain ⟨e, ⟨ne, rfl, hpe⟩, htk⟩ := (ev ▸ hall).at
        k_steps
        rename Fr _ _ _ _ => F7
        rename News _ _ _ _ => N7
        rename (_ : Nat) < _ ∧ AllLt _ _ => lt
        have hq := sepT (stat := _ :: _ :: _ :: (tl ++ news)) N7 (.tail _ (.head _)) ho (by decide) (fun p hp => .tail _ (.tail _ hp)) (fun p hp => (List.mem_append.mp hp).elim (fun h => .inl (ht2 p h)) .inr) (fun p hp => Nat.ne_of_lt (lI p hp))
        refine UnrEndW.one F7 N7 _ swap2 (List.forall_mem_cons.mpr ⟨Nat.ne_of_gt lt.1, hq⟩) ⟨⟨.tail _ (List.mem_append_right _ (.head _)), trivial⟩, ⟨_, _, _ :: tl2, part_two, Tups.cons rfl ht2, rfl, ?_⟩⟩
        rw [List.length_append, List.length_singleton, htk, foldPat_snoc, rowPat_cons (foldPat_ne (List.cons_ne_nil _ _))]
        exact .cat (.head _) (hpe.mono fun p hp => .tail _ (List.mem_append_right _ (tl3 p hp))) (hpd.mono fun p hp => .tail _ hp)
      case fin1 =>
        intro m nw h tk hJ F6 N6
        obtain ⟨nd, pv, tl2, rfl, ht2, rfl, hpd⟩ := hJ
        k_unmd
        (try k_fold)
        k_steps
        rename Fr h₀ L _ _ => F7
        rename News h₀ L _ _ => N7
        exact ret nd _ _ _ F7 N7 (fun p hp => List.mem_append_right _ (tl3 p (List.mem_append_right _ hp))) (by rw [hrow]; exact hpd)
    · skip
      k_steps
      unfold Hold
      rename Fr _ _ _ _ => F4
      k_dflt (refine For_turns F4 ?_)
      k_steps
      rename Fr _ _ _ _ => F5
      rename News _ _ _ _ => N5
      k_dflt (refine iter_listTurns (vs := [.ref n1]) (by rfl) F5 N5 (.head _) rfl rfl ?_)
      intro I1 lI
      refine ItemsRest.invM (fun m₀ T pre => JQ m₀ T [s2] ([s1].take pre.length)) ?turn2 ?fin2 ⟨n2, _, [], part_eta, Tups.nil, rfl, p2.mono tl3⟩
      case turn2 =>
        intro pre v post m nw o h tk ev hJ ho F6 N6
        obtain ⟨nd, pv, tl2, rfl, ht2, rfl, hpd⟩ := hJ
        have hall : All2 (fun v s => ∃ nd, v = Value.ref nd ∧ PatIn (tl ++ news) nd (symPat s)) [.ref n1] [s1] := (.cons ⟨n1, rfl, p1⟩ .nil)
        obtain ⟨e, ⟨ne, rfl, hpe⟩, htk⟩ := (ev ▸ hall).at
        k_steps
        rename Fr _ _ _ _ => F7
        rename News _ _ _ _ => N7
        rename (_ : Nat) < _ ∧ AllLt _ _ => lt
        have hq := sepT (stat := _ :: _ :: _ :: (tl ++ news)) N7 (.tail _ (.head _)) ho (by decide) (fun p hp => .tail _ (.tail _ hp)) (fun p hp => (List.mem_append.mp hp).elim (fun h => .inl (ht2 p h)) .inr) (fun p hp => Nat.ne_of_lt (lI p hp))
        refine UnrEndW.one F7 N7 _ swap2 (List.forall_mem_cons.mpr ⟨Nat.ne_of_gt lt.1, hq⟩) ⟨⟨.tail _ (List.mem_append_right _ (.head _)), trivial⟩, ⟨_, _, _ :: tl2, part_two, Tups.cons rfl ht2, rfl, ?_⟩⟩
        rw [List.length_append, List.length_singleton, htk, foldPat_snoc, rowPat_cons (foldPat_ne (List.cons_ne_nil _ _))]
        exact .cat (.head _) (hpe.mono fun p hp => .tail _ (List.mem_append_right _ (tl3 p hp))) (hpd.mono fun p hp => .tail _ hp)
      case fin2 =>
        intro m nw h tk hJ F6 N6
        obtain ⟨nd, pv, tl2, rfl, ht2, rfl, hpd⟩ := hJ
        k_unmd
        (try k_fold)
        k_steps
        rename Fr h₀ L _ _ => F7
        rename News h₀ L _ _ => N7
        exact ret nd _ _ _ F7 N7 (fun p hp => List.mem_append_right _ (tl3 p (List.mem_append_right _ hp))) (by rw [hrow]; exact hpd)
    · skip
      k_steps
      unfold Hold
      rename Fr _ _ _ _ => F4
      k_dflt (refine For_turns F4 ?_)
      k_steps
      rename Fr _ _ _ _ => F5
      rename News _ _ _ _ => N5
      k_dflt (refine iter_listTurns (vs := [.ref n2, .ref n1]) (by rfl) F5 N5 (.head _) rfl rfl ?_)
      intro I1 lI
      refine ItemsRest.invM (fun m₀ T pre => JQ m₀ T [s3] ([s2, s1].take pre.length)) ?turn3 ?fin3 ⟨n3, _, [], part_eta, Tups.nil, rfl, p3.mono tl3⟩
      case turn3 =>
        intro pre v post m nw o h tk ev hJ ho F6 N6
        obtain ⟨nd, pv, tl2, rfl, ht2, rfl, hpd⟩ := hJ
        have hall : All2 (fun v s => ∃ nd, v = Value.ref nd ∧ PatIn (tl ++ news) nd (symPat s)) [.ref n2, .ref n1] [s2, s1] := (.cons ⟨n2, rfl, p2⟩ (.cons ⟨n1, rfl, p1⟩ .nil))
        obtain ⟨e, ⟨ne, rfl, hpe⟩, htk⟩ := (ev ▸ hall).at
        k_steps
        rename Fr _ _ _ _ => F7
        rename News _ _ _ _ => N7
        rename (_ : Nat) < _ ∧ AllLt _ _ => lt
        have hq := sepT (stat := _ :: _ :: _ :: (tl ++ news)) N7 (.tail _ (.head _)) ho (by decide) (fun p hp => .tail _ (.tail _ hp)) (fun p hp => (List.mem_append.mp hp).elim (fun h => .inl (ht2 p h)) .inr) (fun p hp => Nat.ne_of_lt (lI p hp))
        refine UnrEndW.one F7 N7 _ swap2 (List.forall_mem_cons.mpr ⟨Nat.ne_of_gt lt.1, hq⟩) ⟨⟨.tail _ (List.mem_append_right _ (.head _)), trivial⟩, ⟨_, _, _ :: tl2, part_two, Tups.cons rfl ht2, rfl, ?_⟩⟩
        rw [List.length_append, List.length_singleton, htk, foldPat_snoc, rowPat_cons (foldPat_ne (List.cons_ne_nil _ _))]
        exact .cat (.head _) (hpe.mono fun p hp => .tail _ (List.mem_append_right _ (tl3 p hp))) (hpd.mono fun p hp => .tail _ hp)
      case fin3 =>
        intro m nw h tk hJ F6 N6
        obtain ⟨nd, pv, tl2, rfl, ht2, rfl, hpd⟩ := hJ
        k_unmd
        (try k_fold)
        k_steps
        rename Fr h₀ L _ _ => F7
        rename News h₀ L _ _ => N7
        exact ret nd _ _ _ F7 N7 (fun p hp => List.mem_append_right _ (tl3 p (List.mem_append_right _ hp))) (by rw [hrow]; exact hpd)
end nodes
end
section
open PyProof.V
noncomputable def signAt1 (subj : Str) (b e : Nat) : Str := Txt.slice (Txt.slice subj (some (b : Int)) (some (e : Int))) none (some 1)
/-- the number of parse trees of a row over a span, when the table «tr» tells those of the names -/
noncomputable def waysL (subj : Str) (tr : Nat → Nat → Nat → Nat) : List Sym → Nat → Nat → Nat
  | [], b, e => if b = e then 1 else 0
  | .str c :: r, b, e => if (c == signAt1 subj b e) = true then waysL subj tr r (b + 1) e else 0
  | .name i :: r, b, e => ((List.range (e - b)).map fun j => tr i b (b + 1 + j) * waysL subj tr r (b + 1 + j) e).sum
noncomputable def Has (D : List (PyData × PyData)) (tr : Nat → Nat → Nat → Nat) (b e : Nat) : Prop := ∀ (i b' c : Nat), i < 3 → b ≤ b' → b' < c → c ≤ e → lookup (encTuple PyData.int [(i : Int), (b' : Int), (c : Int)]) D = some (.int (tr i b' c : Nat))
noncomputable def Need (D : List (PyData × PyData)) (tr : Nat → Nat → Nat → Nat) : List Sym → Nat → Nat → Prop
  | [], _, _ => True
  | .str _ :: _, b, e => Has D tr (b + 1) e
  | .name _ :: _, b, e => Has D tr b e
theorem Has.mono {D : List (PyData × PyData)} {tr : Nat → Nat → Nat → Nat} {b b2 e : Nat} (h : Has D tr b e) (hb : b ≤ b2) : Has D tr b2 e := fun i b' c hi h1 h2 h3 => h i b' c hi (Nat.le_trans hb h1) h2 h3
theorem Has.need {D : List (PyData × PyData)} {tr : Nat → Nat → Nat → Nat} {b e : Nat} (h : Has D tr b e) : ∀ row : List Sym, Need D tr row b e
  | [] => trivial
  | .str _ :: _ => h.mono (Nat.le_succ _)
  | .name _ :: _ => h
theorem tab_mono {prog : Program} {w : World} {news news' : List (Addr × Obj)} {d : Addr} {D : List (PyData × PyData)} (hs : ∀ p ∈ news, p ∈ news') (T : TupTab (PySem.intKind prog w) PyData.int news d D) : TupTab (PySem.intKind prog w) PyData.int news' d D := by
  obtain ⟨lo, o, es, ep, xs, hm, hc, hd, he, hn, hk, hf⟩ := T
  exact ⟨lo, o, es, ep, xs, hs _ hm, hc, hd, he, hn, fun x hx => let ⟨okx, hmk, t⟩ := hk x hx; ⟨okx, hs _ hmk, t⟩, hf⟩
noncomputable def WaysSpec (row : List Sym) : Prop := ∀ {w : World} {mean : ExcName → Option Value} {mg mb : Str → Option Value} {dp un : Nat} {gd : Option (List Code)} {cn : Str} {cs : Scope} {L a : Addr} {ccd : Value} {cl : List (Str × Addr)} {outer : List Env} {A₀ : Around} {base h₀ : Heap} {m : Str → Option Value} {s : Shared} {Q E : Value → Shared → Prop}
  {news : List (Addr × Obj)} {r d : Addr} {subj : Str} {ts tb te : Tok} {b e : Nat} {D : List (PyData × PyData)} {tr : Nat → Nat → Nat → Nat},
  Below A₀ base outer h₀ → Fr h₀ L s.heap m → (stage.heap_1 w.params).In h₀ → News h₀ L s.heap news → RowIn news r row →
  Top hd.view_1 (looseW hd.view_1 [Str.ofString "SnobolError", Str.ofString "plain_count"]) mean mg mb h₀ → cs.kind = .function → dp + 20 * row.length + 30 < recursionLimit → un + 50 * row.length + 200 < cLine →
  (∀ s ∈ row, GoodSym s) → row.length ≤ 3 → TupTab (PySem.intKind PySem.Challenge.rw_sj0196_01.row.prog w) PyData.int news d D → Need D tr row b e → (∀ i b c : Nat, i < 3 → b < c → c ≤ subj.length → tr i b c ≤ 1000) → (∀ (row' : List Sym) (b' e' : Nat), (∀ s ∈ row', GoodSym s) → row'.length ≤ 2 → b' ≤ e' → e' ≤ subj.length → waysL subj tr row' b' e' ≤ 1000000) → b + row.length ≤ 10 → e ≤ subj.length → subj.length ≤ 6 →
  (∀ t h' tk', Fr h₀ L h' m → News h₀ L h' news → Q (.int (waysL subj tr row b e : Nat) t) { s with heap := h', toks := tk' }) →
  wpAny (model PySem.Challenge.rw_sj0196_01.row.prog w) (ktrTop dp un gd cn cs L a ccd cl outer) (call (.ref 430) [.ref r, .str subj ts, .int (b : Int) tb, .int (e : Int) te, .ref d]) Q E s
local macro_rules | `(tactic| walk_at "call ref") => `(tactic| with_reducible first | refine hold_call [430] (by decide) ?_ | fail)
local macro_rules | `(tactic| walk_at "compareOp Eq ref ref") => `(tactic| walk_at "stop")
theorem eq_lists {prog : Program} {w : World} {A : Around} {E : Value → Shared → Prop} {s : Shared} {h₀ : Heap} {L : Addr} {l b : Addr} {vs us : List Value} {n k : Nat} {news : List (Addr × Obj)} {Q : Value → Shared → Prop} (N : News h₀ L s.heap news) (hl : (l, listOf vs.toArray n) ∈ news) (hb : (b, listOf us.toArray k) ∈ news)
    (hsz : (vs.length != us.length) = true) (hu : A.units < cLine) (h : Q (.bool false) s) : wpAny (model prog w) A (compareOp .Eq (.ref l) (.ref b)) Q E s :=
  cmp_ofEq (SeqAt.RcAt.lists_lengths (News.isList N hl) (News.isList N hb) (by simpa using hsz) hu prog w E Q h)
theorem pick_tail {v : Value} {vs : List Value} : kms_pick (v :: vs) (some 1) none = vs := by
  have h1 : kms_lo (some 1) (vs.length + 1) = 1 := by simp [kms_lo]
  have h2 : kms_hi none (vs.length + 1) = vs.length + 1 := by simp [kms_hi]
  unfold kms_pick
  rw [List.length_cons, h1, h2]
  simp
theorem eq_nil {prog : Program} {w : World} {A : Around} {E : Value → Shared → Prop} {s : Shared} {h₀ : Heap} {L : Addr} {l b : Addr} {n k : Nat} {news : List (Addr × Obj)} {Q : Value → Shared → Prop} (N : News h₀ L s.heap news) (hl : (l, listOf ([] : List Value).toArray n) ∈ news) (hb : (b, listOf ([] : List Value).toArray k) ∈ news)
    (hu : A.units + 10 < cLine) (h : Q (.bool true) s) : wpAny (model prog w) A (compareOp .Eq (.ref l) (.ref b)) Q E s := by
  have := SeqAt.RcAt.lists (A := A) (s := s) (e := fun _ => true) (News.isList N hl) (News.isList N hb) (by simp) (by omega) (fun j h1 h2 => absurd h1 (by simp))
  rw [List.all_eq_true.mpr (fun _ _ => rfl)] at this
  exact cmp_ofEq (this prog w E Q h)
set_option maxRecDepth 100000 in
set_option maxHeartbeats 8000000 in
theorem ways_nil : WaysSpec [] := by
  intro w mean mg mb dp un gd cn cs L a ccd cl outer A₀ base h₀ m s Q E news r d subj ts tb te b e D tr B F X N hm T hk hr hu hg hl3 hT hneed hbnd hwb hb7 he6 hsl ret
  obtain ⟨vs, n, hm, hvs⟩ := hm
  cases hvs
  have hr' : dp + 30 < recursionLimit := by simpa using hr
  have hu' : un + 200 < cLine := by simpa using hu
  revert X; k_fill; intro X
  walk_at "enter"
  k_steps
  unfold Hold
  rename News _ _ _ _ => N1
  k_dflt (refine eq_nil N1 (.tail _ hm) (.head _) (by ktr_units) ?_)
  k_steps
  rename Fr h₀ L _ _ => F2
  rename News h₀ L _ _ => N2
  have e0 : (if ((b : Int) == (e : Int)) = true then (1 : Int) else 0) = ((waysL subj tr [] b e : Nat) : Int) := by
    unfold waysL
    by_cases h : b = e
    · simp [h]
    · have h' : ¬ (b : Int) = (e : Int) := fun q => h (Int.ofNat.inj q)
      simp [h, h']
  rw [e0]
  exact ret _ _ _ F2 (kst_newsOf N2 fun p hp => .tail _ hp)
set_option maxRecDepth 100000 in
set_option maxHeartbeats 8000000 in
theorem ways_str {c : Str} {row : List Sym} (ih : WaysSpec row) : WaysSpec (.str c :: row) := by
  intro w mean mg mb dp un gd cn cs L a ccd cl outer A₀ base h₀ m s Q E news r d subj ts tb te b e D tr B F X N hm T hk hr hu hg hl3 hT hneed hbnd hwb hb7 he6 hsl ret
  obtain ⟨vs, n, hm, hvs⟩ := hm
  cases hvs with
  | @cons v _ vs _ hv hvs =>
  obtain ⟨tc, rfl⟩ := hv
  have hvl := all2_length hvs
  have hr' : dp + 20 * row.length + 50 < recursionLimit := by rw [List.length_cons] at hr; omega
  have hu' : un + 50 * row.length + 250 < cLine := by rw [List.length_cons] at hu; omega
  have hb8 : b + 1 + row.length ≤ 10 := by rw [List.length_cons] at hb7; omega
  have hl2 : row.length ≤ 2 := by rw [List.length_cons] at hl3; omega
  have hcl : c.length ≤ 1 := by rcases hg _ (.head _) with h | h <;> (rw [h]; decide +kernel)
  revert X; k_fill; intro X
  walk_at "enter"
  k_steps
  unfold Hold
  rename News _ _ _ _ => N1
  k_dflt (refine eq_lists (vs := .str c tc :: vs) (us := []) N1 (.tail _ hm) (.head _) (by simp) (by ktr_units) ?_)
  k_steps
  rename News _ _ _ _ => N2
  k_dflt (refine item_listL (l := .str c tc :: vs) (x := .str c tc) (News.isList N2 (by first | exact .tail _ hm | exact hm)) (by decide) (by decide) rfl ?_)
  k_steps
  rename News _ _ _ _ => N3
  k_dflt (refine item_listL (l := .str c tc :: vs) (x := .str c tc) (News.isList N3 (by first | exact .tail _ hm | exact hm)) (by decide) (by decide) rfl ?_)
  k_steps
  · rename (c == _) = true => hq
    rename Fr _ _ _ _ => F4
    rename News _ _ _ _ => N4
    k_dflt (refine kms_slice_lit (zs := vs) F4 N4 (News.isList N4 (by first | exact .tail _ hm | exact hm)) (by kmk_part) (by kmk_part) ?e ?_ (by with_unfolding_all rfl) (by kmk_pure) ?z)
    case e => exact pick_tail
    case z => simp [sizeLine_eq]; omega
    intro D4 h4 F5 N5 l5
    k_steps
    unfold Hold
    rename Fr _ _ _ _ => F6
    rename News _ _ _ _ => N6
    rename Below _ _ _ _ => B6
    rename Frag.In _ _ => X6
    rename Top _ _ _ _ _ _ => T6
    k_dflt (refine ih (b := b + 1) (D := D) (tr := tr) B6 F6 X6 N6 ⟨vs, 0, .head _, hvs⟩ T6 rfl (by k_room) (by ktr_units) (fun s hs => hg s (.tail _ hs)) (by omega) (tab_mono (fun p hp => .tail _ (.tail _ hp)) hT) (Has.need hneed row) hbnd hwb hb8 he6 hsl ?_)
    clear F6 N6
    intro tz hz kz F7 N7
    k_unmd
    (try k_fold)
    k_steps
    rename Fr h₀ L _ _ => F8
    rename News h₀ L _ _ => N8
    have e0 : waysL subj tr row (b + 1) e = waysL subj tr (.str c :: row) b e := by
      rw [waysL, if_pos (show (c == signAt1 subj b e) = true from hq)]
    rw [e0]
    exact ret _ _ _ F8 (kst_newsOf N8 fun p hp => .tail _ (.tail _ hp))
  · rename (c == _) = false => hq
    rename Fr h₀ L _ _ => F4
    rename News h₀ L _ _ => N4
    have e0 : (0 : Int) = ((waysL subj tr (.str c :: row) b e : Nat) : Int) := by
      unfold waysL
      rw [if_neg (by rw [show (c == signAt1 subj b e) = false from hq]; exact Bool.false_ne_true)]
      rfl
    rw [e0]
    exact ret _ _ _ F4 (kst_newsOf N4 fun p hp => .tail _ hp)
theorem flat_int {v : Value} {n : Int} (h : Flat v (.int n)) : ∃ t, v = .int n t := by
  exact h.int_inv
noncomputable def psum (subj : Str) (tr : Nat → Nat → Nat → Nat) (k : Nat) (row : List Sym) (b e i : Nat) : Nat := ((List.range i).map fun j => tr k b (b + 1 + j) * waysL subj tr row (b + 1 + j) e).sum
theorem psum_succ {subj : Str} {tr : Nat → Nat → Nat → Nat} {k : Nat} {row : List Sym} {b e i : Nat} : psum subj tr k row b e (i + 1) = psum subj tr k row b e i + tr k b (b + 1 + i) * waysL subj tr row (b + 1 + i) e := by
  unfold psum
  rw [List.range_succ, List.map_append, List.sum_append]
  simp
noncomputable def JS (subj : Str) (tr : Nat → Nat → Nat → Nat) (k : Nat) (row : List Sym) (b e : Nat) (T : List (Addr × Obj)) (m₀ : Str → Option Value) (i : Nat) (m : Str → Option Value) (nw : List (Addr × Obj)) : Prop :=
  nw = T ∧ ∃ (t : Tok) (o : Option Value), m = fun y => if y = Str.ofString "found" then some (.int (psum subj tr k row b e i : Nat) t) else if y = Str.ofString "cut" then o else m₀ y
theorem found_two {m : Str → Option Value} {a b c d : Option Value} {x z : Str} : (fun y => if y = x then a else if y = z then b else if y = x then c else if y = z then d else m y) = fun y => if y = x then a else if y = z then b else m y := funext fun y => by
  by_cases h : y = x
  · simp [h]
  · by_cases h2 : y = z
    · simp [h2]
    · simp [h, h2]
theorem two_eta {m : Str → Option Value} {v : Option Value} {x z : Str} : (fun y => if y = x then v else m y) = fun y => if y = x then v else if y = z then (fun y => if y = x then v else m y) z else (fun y => if y = x then v else m y) y := funext fun y => by
  by_cases h : y = x
  · simp [h]
  · by_cases h2 : y = z
    · subst h2
      simp only [if_neg h, if_true]
    · simp only [if_neg h, if_neg h2]
local macro_rules | `(tactic| walk_at "pyIter ref") => `(tactic| walk_at "iter")
set_option maxRecDepth 100000 in
set_option maxHeartbeats 8000000 in
theorem ways_name {k : Nat} {row : List Sym} (ih : WaysSpec row) : WaysSpec (.name k :: row) := by
  intro w mean mg mb dp un gd cn cs L a ccd cl outer A₀ base h₀ m s Q E news r d subj ts tb te b e D tr B F X N hm T hk hr hu hg hl3 hT hneed hbnd hwb hb7 he6 hsl ret
  obtain ⟨vs, n, hm, hvs⟩ := hm
  cases hvs with
  | @cons v _ vs _ hv hvs =>
  obtain ⟨tc, rfl⟩ := hv
  have hvl := all2_length hvs
  have hr' : dp + 20 * row.length + 50 < recursionLimit := by rw [List.length_cons] at hr; omega
  have hu' : un + 50 * row.length + 250 < cLine := by rw [List.length_cons] at hu; omega
  have hb8 : b ≤ 10 := by omega
  have hl2 : row.length ≤ 2 := by rw [List.length_cons] at hl3; omega
  have hk3 : k < 3 := hg _ (.head _)
  revert X; k_fill; intro X
  walk_at "enter"
  k_steps
  unfold Hold
  rename News _ _ _ _ => N1
  k_dflt (refine eq_lists (vs := .int (k : Int) tc :: vs) (us := []) N1 (.tail _ hm) (.head _) (by simp) (by ktr_units) ?_)
  k_steps
  rename News _ _ _ _ => N2
  k_dflt (refine item_listL (l := .int (k : Int) tc :: vs) (x := .int (k : Int) tc) (News.isList N2 (by first | exact .tail _ hm | exact hm)) (by decide) (by decide) rfl ?_)
  k_steps
  unfold Hold
  rename Fr _ _ _ _ => F3
  rename News _ _ _ _ => N3
  rename IsRange _ _ _ _ _ _ _ _ => hR
  replace N3 : News _ _ _ news := kst_newsOf N3 (fun p hp => by first | exact .tail _ hp | exact hp)
  k_dflt (refine iter_rangeUnr (n := e - b) (by rfl) hR (rng_be hb8 (Nat.le_trans he6 (Nat.le_trans hsl (by decide)))).1 (rng_be hb8 (Nat.le_trans he6 (Nat.le_trans hsl (by decide)))).2 F3 N3 ?_)
  intro I lI
  refine RangeRest.invM (JS subj tr k row b e news) ?turn ?fin ⟨rfl, _, _, two_eta⟩
  case turn =>
    intro i m nw t h tk hi hJ F4 N4
    obtain ⟨e9, t1, o1, rfl⟩ := hJ
    clear F3 N3 hR
    (try clear N1)
    (try clear N2)
    subst e9
    have hmI : (r, listOf (List.toArray (.int (k : Int) tc :: vs)) n) ∈ (I, itR ((b : Int) + 1 + ((i + 1 : Nat) : Int)) (((e - b : Nat) : Int) - ((i + 1 : Nat) : Int))) :: nw := .tail _ hm
    k_steps
    k_dflt (refine item_listL (l := .int (k : Int) tc :: vs) (x := .int (k : Int) tc) (News.isList N4 (.tail _ hm)) (by decide) (by decide) rfl ?_)
    k_steps
    rename Fr _ _ _ _ => F6
    rename News _ _ _ _ => N6
    have hlk : lookup (encTuple PyData.int [(k : Int), (b : Int), (b : Int) + 1 + (i : Int)]) D = some (.int (tr k b (b + 1 + i) : Nat)) := by
      have := hneed k b (b + 1 + i) hk3 (Nat.le_refl _) (by omega) (by omega)
      rwa [show ((b + 1 + i : Nat) : Int) = (b : Int) + 1 + (i : Int) by omega] at this
    k_dflt (refine item_tupTab (knd := PySem.intKind _ _) (enc := PyData.int) same_int (by ktr_units) N6 (tab_mono (fun p hp => .tail _ (.tail _ hp)) hT) (.head _) (TupKeyObj.made (.cons (intKind_is _ _ _ _) (.cons (intKind_is _ _ _ _) (.cons (intKind_is _ _ _ _) .nil)))) hlk ?_)
    intro vt hvt
    obtain ⟨tt, rfl⟩ := flat_int hvt
    k_steps
    rename Fr _ _ _ _ => F7
    rename News _ _ _ _ => N7
    k_dflt (refine kms_slice_lit (zs := vs) F7 N7 (News.isList N7 (.tail _ (.tail _ hm))) (by kmk_part) (by kmk_part) pick_tail ?_ (by with_unfolding_all rfl) (by kmk_pure) ?z)
    case z => simp [sizeLine_eq]; omega
    intro D4 h4 F8 N8 l8
    k_steps
    unfold Hold
    rename Fr _ _ _ _ => F9
    rename News _ _ _ _ => N9
    rename Below _ _ _ _ => B9
    rename Frag.In _ _ => X9
    rename Top _ _ _ _ _ _ => T9
    k_dflt (refine ih (b := b + 1 + i) (D := D) (tr := tr) B9 F9 X9 N9 ⟨vs, 0, .head _, hvs⟩ T9 rfl (by k_room) (by ktr_units) (fun s hs => hg s (.tail _ hs)) (by omega) (tab_mono (fun p hp => .tail _ (.tail _ (.tail _ hp))) hT) (Has.need (Has.mono hneed (by omega)) row) hbnd hwb (by omega) he6 hsl ?_)
    clear F9 N9
    intro tz hz kz F10 N10
    have q1 := hbnd k b (b + 1 + i) hk3 (by omega) (by omega)
    have q2 := hwb row (b + 1 + i) e (fun s hs => hg s (.tail _ hs)) hl2 (by omega) (by omega)
    k_unmd
    (try k_fold)
    k_steps
    rename Fr _ _ _ _ => F11
    rename News _ _ _ _ => N11
    have ev : ((psum subj tr k row b e i : Nat) : Int) + ((tr k b (b + 1 + i) : Nat) : Int) * ((waysL subj tr row (b + 1 + i) e : Nat) : Int) = ((psum subj tr k row b e (i + 1) : Nat) : Int) := by
      rw [psum_succ, Int.natCast_add, Int.natCast_mul]
    rw [ev] at F11
    exact UnrEnd.intro F11 N11 nw (fun p hp => .tail _ (.tail _ hp)) (fun p hp => Nat.ne_of_lt (lI p hp)) ⟨rfl, _, _, found_two⟩
  case fin =>
    intro m nw h tk hJ F4 N4
    obtain ⟨rfl, t1, o1, rfl⟩ := hJ
    clear F3 N3 hR
    k_unmd
    (try k_fold)
    k_steps
    rename Fr h₀ L _ _ => F5
    rename News h₀ L _ _ => N5
    exact ret _ _ _ F5 N5
theorem ways_c : ∀ row : List Sym, WaysSpec row
  | [] => ways_nil
  | .str _ :: row => ways_str (ways_c row)
  | .name _ :: row => ways_name (ways_c row)
end
section
noncomputable def GoodRow (row : List Sym) : Prop := 1 ≤ row.length ∧ row.length ≤ 3 ∧ (∀ s ∈ row, GoodSym s) ∧ ∃ c r, row = .str c :: r
theorem symv_int {e : Int} {t : Tok} (h : 0 ≤ e) : SymV (.int e t) (.name e.toNat) := ⟨t, by rw [Int.toNat_of_nonneg h]⟩
theorem symv_str {c : Str} {t : Tok} : SymV (.str c t) (.str c) := ⟨t, rfl⟩
theorem fmod3 (x : Int) : 0 ≤ x.fmod 3 ∧ x.fmod 3 < 3 := ⟨Int.fmod_nonneg_of_pos _ (by decide), Int.fmod_lt_of_pos _ (by decide)⟩
theorem fdiv3 (x : Int) : 0 ≤ (x.fmod 9).fdiv 3 ∧ (x.fmod 9).fdiv 3 < 3 := by
  have a := Int.fmod_nonneg_of_pos x (show (0 : Int) < 9 by decide)
  have b := Int.fmod_lt_of_pos x (show (0 : Int) < 9 by decide)
  rw [Int.fdiv_eq_ediv_of_nonneg _ (by decide)]
  omega
theorem item_ab (x : Int) : GoodSym (.str (Txt.item (Str.ofString "ab") (x.fmod 2))) := by
  have a := Int.fmod_nonneg_of_pos x (show (0 : Int) < 2 by decide)
  have b := Int.fmod_lt_of_pos x (show (0 : Int) < 2 by decide)
  have h : x.fmod 2 = 0 ∨ x.fmod 2 = 1 := by omega
  rcases h with h | h <;> rw [h]
  · exact .inl (by decide +kernel)
  · exact .inr (by decide +kernel)
theorem item_ba (x : Int) : GoodSym (.str (Txt.item (Str.ofString "ba") (x.fmod 2))) := by
  have a := Int.fmod_nonneg_of_pos x (show (0 : Int) < 2 by decide)
  have b := Int.fmod_lt_of_pos x (show (0 : Int) < 2 by decide)
  have h : x.fmod 2 = 0 ∨ x.fmod 2 = 1 := by omega
  rcases h with h | h <;> rw [h]
  · exact .inr (by decide +kernel)
  · exact .inl (by decide +kernel)
theorem good_nat {e : Int} (h : 0 ≤ e ∧ e < 3) : GoodSym (.name e.toNat) := by
  show e.toNat < 3
  omega
theorem good_row {c : Str} {r : List Sym} (hc : GoodSym (.str c)) (hr : ∀ s ∈ r, GoodSym s) (hl : r.length ≤ 2) : GoodRow (.str c :: r) := ⟨by simp, by simp; omega, List.forall_mem_cons.mpr ⟨hc, hr⟩, _, _, rfl⟩
section rul
variable {w : World} {mean : ExcName → Option Value} {mg mb : Str → Option Value} {dp un : Nat} {gd : Option (List Code)} {cn : Str} {cs : Scope} {L a : Addr} {ccd : Value} {cl : List (Str × Addr)} {outer : List Env} {A₀ : Around} {base h₀ : Heap} {m : Str → Option Value} {s : Shared} {Q E : Value → Shared → Prop}
  {news : List (Addr × Obj)}
set_option maxRecDepth 100000 in
set_option maxHeartbeats 8000000 in
theorem rules_c {f : Addr} {x0 x1 x2 x3 : Int} {t0 t1 t2 t3 : Tok} {nf : Nat} (B : Below A₀ base outer h₀) (F : Fr h₀ L s.heap m) (X : (stage.heap_1 w.params).In h₀) (N : News h₀ L s.heap ((f, listOf #[.int x0 t0, .int x1 t1, .int x2 t2, .int x3 t3] nf) :: news))
  (T : Top hd.view_1 (looseW hd.view_1 [Str.ofString "SnobolError", Str.ofString "plain_count"]) mean mg mb h₀)
  (hk : cs.kind = .function) (hr : dp + 50 < recursionLimit) (hu : un + 200 < cLine) (h0 : 0 ≤ x0) (h1 : 0 ≤ x1) (h2 : 0 ≤ x2) (h3 : 0 ≤ x3)
  (ret : ∀ rr r0 r1 row0 row1 T1 h' tk', Fr h₀ L h' m → News h₀ L h' T1 → (∀ p ∈ news, p ∈ T1) → (rr, listOf #[.ref r0, .ref r1] 0) ∈ T1 → RowIn T1 r0 row0 → RowIn T1 r1 row1 → GoodRow row0 → row0.length = 1 → GoodRow row1 → 2 ≤ row1.length → ((∀ q ∈ news, q.1 ≠ rr) ∧ (∀ q ∈ news, q.1 ≠ r0) ∧ (∀ q ∈ news, q.1 ≠ r1)) → Q (.ref rr) { s with heap := h', toks := tk' }) :
  wpAny (model PySem.Challenge.rw_sj0196_01.row.prog w) (ktrTop dp un gd cn cs L a ccd cl outer) (call (.ref 418) [.ref f]) Q E s := by
  have hq : ([x0, x1, x2, x3].getD (Int.toNat 1) 0).fmod 4 = 0 ∨ ([x0, x1, x2, x3].getD (Int.toNat 1) 0).fmod 4 = 1 ∨ ([x0, x1, x2, x3].getD (Int.toNat 1) 0).fmod 4 = 2 ∨ ([x0, x1, x2, x3].getD (Int.toNat 1) 0).fmod 4 = 3 := by
    have a := Int.fmod_nonneg_of_pos ([x0, x1, x2, x3].getD (Int.toNat 1) 0) (show (0 : Int) < 4 by decide)
    have b := Int.fmod_lt_of_pos ([x0, x1, x2, x3].getD (Int.toNat 1) 0) (show (0 : Int) < 4 by decide)
    omega
  revert X; k_fill; intro X
  k_steps
  rcases hq with e | e | e | e
  · rw [e]
    k_steps
    rename Fr h₀ L _ _ => F9
    rename News h₀ L _ _ => N9
    exact ret _ _ _ _ _ _ _ _ F9 N9 (fun p hp => by (repeat (first | exact hp | refine List.Mem.tail _ ?_))) (.head _) ⟨_, _, by walk_at "memx", .cons symv_str .nil⟩ ⟨_, _, .tail _ (.head _), .cons symv_str (.cons (symv_int (fmod3 _).1) (.cons (symv_int (fdiv3 _).1) .nil))⟩ (good_row (item_ab _) (List.forall_mem_nil _) (by decide)) rfl (good_row (item_ab _) (List.forall_mem_cons.mpr ⟨good_nat (fmod3 _), (List.forall_mem_cons.mpr ⟨good_nat (fdiv3 _), (List.forall_mem_nil _)⟩)⟩) (by simp)) (by simp) ⟨by walk_at "fresh", by walk_at "fresh", by walk_at "fresh"⟩
  · rw [e]
    k_steps
    rename Fr h₀ L _ _ => F9
    rename News h₀ L _ _ => N9
    exact ret _ _ _ _ _ _ _ _ F9 N9 (fun p hp => by (repeat (first | exact hp | refine List.Mem.tail _ ?_))) (.head _) ⟨_, _, by walk_at "memx", .cons symv_str .nil⟩ ⟨_, _, .tail _ (.head _), .cons symv_str (.cons (symv_int (fmod3 _).1) .nil)⟩ (good_row (item_ab _) (List.forall_mem_nil _) (by decide)) rfl (good_row (item_ab _) (List.forall_mem_cons.mpr ⟨good_nat (fmod3 _), (List.forall_mem_nil _)⟩) (by simp)) (by simp) ⟨by walk_at "fresh", by walk_at "fresh", by walk_at "fresh"⟩
  · rw [e]
    k_steps
    rename Fr h₀ L _ _ => F9
    rename News h₀ L _ _ => N9
    exact ret _ _ _ _ _ _ _ _ F9 N9 (fun p hp => by (repeat (first | exact hp | refine List.Mem.tail _ ?_))) (.head _) ⟨_, _, by walk_at "memx", .cons symv_str .nil⟩ ⟨_, _, .tail _ (.head _), .cons symv_str (.cons (symv_int (fmod3 _).1) (.cons symv_str .nil))⟩ (good_row (item_ab _) (List.forall_mem_nil _) (by decide)) rfl (good_row (item_ab _) (List.forall_mem_cons.mpr ⟨good_nat (fmod3 _), (List.forall_mem_cons.mpr ⟨item_ba _, (List.forall_mem_nil _)⟩)⟩) (by simp)) (by simp) ⟨by walk_at "fresh", by walk_at "fresh", by walk_at "fresh"⟩
  · rw [e]
    k_steps
    rename Fr h₀ L _ _ => F9
    rename News h₀ L _ _ => N9
    exact ret _ _ _ _ _ _ _ _ F9 N9 (fun p hp => by (repeat (first | exact hp | refine List.Mem.tail _ ?_))) (.head _) ⟨_, _, by walk_at "memx", .cons symv_str .nil⟩ ⟨_, _, .tail _ (.head _), .cons symv_str (.cons symv_str .nil)⟩ (good_row (item_ab _) (List.forall_mem_nil _) (by decide)) rfl (good_row (item_ab _) (List.forall_mem_cons.mpr ⟨item_ba _, (List.forall_mem_nil _)⟩) (by simp)) (by simp) ⟨by walk_at "fresh", by walk_at "fresh", by walk_at "fresh"⟩
end rul
end
section
/-! the plain law of law 1: what the run logs -/
section plain
variable {G : Str → Option Pat} {subj : Str} {lim : Int}
/-- from this way the run logs «ev» in «c» steps, and goes on with the pile -/
noncomputable def Runs (G : Str → Option Pat) (subj : Str) (lim : Int) (ps : List Pat) (i : Int) (ev : List (Str × Val)) (c : Nat) : Prop :=
  ∀ (st : St) (k : Int), k + c ≤ lim → ∃ d : Nat, ∀ f, run G subj lim (f + d) (some (ps, i)) st k = run G subj lim f none { st with log := st.log ++ ev } (k + c)
theorem Runs.step {p : Pat} {rest ps' : List Pat} {i j : Int} {ev : List (Str × Val)} {c : Nat} (e1 : List (Str × Val)) (h : ∀ st, adv G subj p rest i st = some (some (ps', j), { st with log := st.log ++ e1 })) (r : Runs G subj lim ps' j ev c) : Runs G subj lim (p :: rest) i (e1 ++ ev) (c + 1) := by
  intro st k hk
  obtain ⟨d, hd⟩ := r { st with log := st.log ++ e1 } (k + 1) (by omega)
  refine ⟨d + 1, fun f => ?_⟩
  rw [show f + (d + 1) = (f + d) + 1 by omega, run, if_pos (by omega), h st]
  dsimp only
  rw [hd f]
  simp only [List.append_assoc]
  congr 1
  omega
theorem Runs.fail {rest : List Pat} {i : Int} (h0 : 0 ≤ i) (h1 : i ≤ subj.length) : Runs G subj lim (.fail :: rest) i [] 1 := by
  intro st k hk
  refine ⟨1, fun f => ?_⟩
  rw [run, if_pos (by omega)]
  simp [adv, h0, h1]
theorem Runs.alt {a b : Pat} {rest : List Pat} {i : Int} {e1 e2 : List (Str × Val)} {c1 c2 : Nat} (h0 : 0 ≤ i) (h1 : i ≤ subj.length) (ra : Runs G subj lim (a :: rest) i e1 c1) (rb : Runs G subj lim (b :: rest) i e2 c2) : Runs G subj lim (.alt a b :: rest) i (e1 ++ e2) (c1 + c2 + 1) := by
  intro st k hk
  obtain ⟨d1, hd1⟩ := ra (st.push (b :: rest, i)) (k + 1) (by omega)
  obtain ⟨d2, hd2⟩ := rb { st with log := st.log ++ e1 } (k + 1 + c1) (by omega)
  refine ⟨d2 + 1 + d1 + 1, fun f => ?_⟩
  rw [show f + (d2 + 1 + d1 + 1) = (f + d2 + 1 + d1) + 1 by omega, run, if_pos (by omega)]
  have ha : adv G subj (.alt a b) rest i st = some (some (a :: rest, i), st.push (b :: rest, i)) := by simp [adv, h0, h1]
  rw [ha]
  dsimp only
  rw [hd1 (f + d2 + 1), run]
  have hl : ({ st.push (b :: rest, i) with log := (st.push (b :: rest, i)).log ++ e1 } : St).pile.getLast? = some (b :: rest, i) := by simp [St.push]
  rw [hl]
  dsimp only
  have hp : ({ log := (st.push (b :: rest, i)).log ++ e1, pile := (st.push (b :: rest, i)).pile.dropLast } : St) = { st with log := st.log ++ e1 } := by simp [St.push]
  rw [hp, hd2 f]
  simp only [List.append_assoc]
  congr 1
  omega
theorem log_nil (st : St) : ({ st with log := st.log ++ [] } : St) = st := by simp
theorem Runs.cat {a b : Pat} {rest : List Pat} {i : Int} {ev : List (Str × Val)} {c : Nat} (h0 : 0 ≤ i) (h1 : i ≤ subj.length) (r : Runs G subj lim (a :: b :: rest) i ev c) : Runs G subj lim (.cat a b :: rest) i ev (c + 1) :=
  Runs.step (e1 := []) (fun st => by rw [log_nil]; simp [adv, h0, h1]) r
theorem Runs.now {a : Pat} {key : Str} {rest : List Pat} {i : Int} {ev : List (Str × Val)} {c : Nat} (h0 : 0 ≤ i) (h1 : i ≤ subj.length) (r : Runs G subj lim (a :: .enow key i :: rest) i ev c) : Runs G subj lim (.now a key :: rest) i ev (c + 1) :=
  Runs.step (e1 := []) (fun st => by rw [log_nil]; simp [adv, h0, h1]) r
theorem Runs.enow {key : Str} {b : Int} {rest : List Pat} {i : Int} {ev : List (Str × Val)} {c : Nat} (h0 : 0 ≤ i) (h1 : i ≤ subj.length) (hb : 0 ≤ b) (hb2 : b ≤ i) (hk : (G key).isNone = true) (r : Runs G subj lim rest i ev c) :
    Runs G subj lim (.enow key b :: rest) i ((key, .str (Txt.slice subj (some b) (some i))) :: ev) (c + 1) :=
  Runs.step (e1 := [_]) (fun st => by simp only [adv, h0, h1, hb, hb2, hk, St.note, and_self, if_true]) r
theorem Runs.cursor {key : Str} {rest : List Pat} {i : Int} {ev : List (Str × Val)} {c : Nat} (h0 : 0 ≤ i) (h1 : i ≤ subj.length) (hk : (G key).isNone = true) (r : Runs G subj lim rest i ev c) :
    Runs G subj lim (.cursor key :: rest) i ((key, .int i) :: ev) (c + 1) :=
  Runs.step (e1 := [_]) (fun st => by simp only [adv, h0, h1, hk, St.note, and_self, if_true]) r
theorem Runs.delay {nm : Str} {p : Pat} {rest : List Pat} {i : Int} {ev : List (Str × Val)} {c : Nat} (h0 : 0 ≤ i) (h1 : i ≤ subj.length) (hp : G nm = some p) (r : Runs G subj lim (p :: rest) i ev c) : Runs G subj lim (.delay nm :: rest) i ev (c + 1) :=
  Runs.step (e1 := []) (fun st => by rw [log_nil]; simp [adv, h0, h1, hp]) r
theorem Runs.chars {t : Str} {rest : List Pat} {i : Int} {ev : List (Str × Val)} {c : Nat} (h0 : 0 ≤ i) (h1 : i ≤ subj.length) (ht : t.length ≤ 100) (hm : (Txt.slice subj (some i) (some (i + t.length)) == t) = true) (r : Runs G subj lim rest (i + t.length) ev c) : Runs G subj lim (.chars t :: rest) i ev (c + 1) :=
  Runs.step (e1 := []) (fun st => by rw [log_nil]; simp only [adv, h0, h1, ht, hm, and_self, if_true]) r
theorem Runs.charsNo {t : Str} {rest : List Pat} {i : Int} (h0 : 0 ≤ i) (h1 : i ≤ subj.length) (ht : t.length ≤ 100) (hm : (Txt.slice subj (some i) (some (i + t.length)) == t) = false) : Runs G subj lim (.chars t :: rest) i [] 1 := by
  intro st k hk
  refine ⟨1, fun f => ?_⟩
  have ha : adv G subj (.chars t) rest i st = some (none, st) := by simp only [adv, h0, h1, ht, hm, and_self, if_true, Bool.false_eq_true, if_false]
  rw [run, if_pos (by omega), ha]
  simp
end plain
end
section
open PyProof
/-! the plain law of law 1, second part: the ends of a sign, a row, a name: how many, and at what cost -/
noncomputable def bN : Nat → Nat
  | 0 => 0
  | k + 1 => 1 + bN k * bN k
noncomputable def aN : Nat → Nat
  | 0 => 5
  | k + 1 => 6 + aN k + bN k * aN k
theorem le_sq (m : Nat) : m ≤ m * m := by
  cases m with
  | zero => exact Nat.le_refl _
  | succ m => exact Nat.le_mul_of_pos_left _ (Nat.succ_pos _)
theorem bN_step (k : Nat) : bN k ≤ bN (k + 1) := by
  have := le_sq (bN k)
  show bN k ≤ 1 + bN k * bN k
  omega
theorem bN_mono {j k : Nat} (h : j ≤ k) : bN j ≤ bN k := by
  induction h with
  | refl => exact Nat.le_refl _
  | step _ ih => exact Nat.le_trans ih (bN_step _)
theorem aN_step (k : Nat) : aN k ≤ aN (k + 1) := by
  show aN k ≤ 6 + aN k + bN k * aN k
  omega
theorem aN_mono {j k : Nat} (h : j ≤ k) : aN j ≤ aN k := by
  induction h with
  | refl => exact Nat.le_refl _
  | step _ ih => exact Nat.le_trans ih (aN_step _)
theorem bN_pos {k : Nat} (h : 0 < k) : 1 ≤ bN k := by
  have := bN_mono (j := 1) (k := k) h
  exact this
theorem min_bN : ∀ x : Nat, min 1 x ≤ bN x
  | 0 => by decide
  | k + 1 => Nat.le_trans (Nat.min_le_left _ _) (bN_pos (Nat.succ_pos k))
theorem aN_ge (k : Nat) : 5 ≤ aN k := aN_mono (Nat.zero_le k)
theorem sum_const_le {l : List Nat} {f : Nat → Nat} {B : Nat} (h : ∀ x ∈ l, f x ≤ B) : (l.map f).sum ≤ l.length * B := by
  induction l with
  | nil => simp
  | cons a l ih =>
    rw [List.map_cons, List.sum_cons, List.length_cons, Nat.succ_mul]
    have h1 := h a (.head _)
    have h2 := ih fun x hx => h x (.tail _ hx)
    omega
theorem sum_add {l : List Nat} {f g : Nat → Nat} : (l.map fun x => f x + g x).sum = (l.map f).sum + (l.map g).sum := by
  induction l with
  | nil => rfl
  | cons a l ih => simp only [List.map_cons, List.sum_cons, ih]; omega
theorem sum_flatMap {l : List Nat} {f : Nat → List Nat} {c : Nat → Nat} : ((l.flatMap f).map c).sum = (l.map fun x => ((f x).map c).sum).sum := by
  induction l with
  | nil => rfl
  | cons a l ih => simp only [List.flatMap_cons, List.map_append, List.sum_append, List.map_cons, List.sum_cons, ih]
theorem count_flatMap {l : List Nat} {f : Nat → List Nat} {e : Nat} : (l.flatMap f).count e = (l.map fun x => (f x).count e).sum := by
  induction l with
  | nil => rfl
  | cons a l ih => simp only [List.flatMap_cons, List.count_append, List.map_cons, List.sum_cons, ih]
theorem length_flatMap_le {l : List Nat} {f : Nat → List Nat} {B : Nat} (h : ∀ x ∈ l, (f x).length ≤ B) : (l.flatMap f).length ≤ l.length * B := by
  induction l with
  | nil => simp
  | cons a l ih =>
    rw [List.flatMap_cons, List.length_append, List.length_cons, Nat.succ_mul]
    have h1 := h a (.head _)
    have h2 := ih fun x hx => h x (.tail _ hx)
    omega
/-- a sum over a list of places, told by how often each place stands in it -/
theorem sum_by_count {b m : Nat} {f : Nat → Nat} : ∀ {l : List Nat}, (∀ x ∈ l, b + m < x → f x = 0) → (∀ x ∈ l, b + 1 ≤ x) → (l.map f).sum = ((List.range m).map fun j => l.count (b + 1 + j) * f (b + 1 + j)).sum
  | [], _, _ => by
    rw [show (List.range m).map (fun j => ([] : List Nat).count (b + 1 + j) * f (b + 1 + j)) = (List.range m).map fun _ => 0 by simp]
    induction (List.range m) with
    | nil => rfl
    | cons a l ih => simpa using ih
  | a :: l, hf, h => by
    have ih := sum_by_count (l := l) (fun x hx => hf x (.tail _ hx)) fun x hx => h x (.tail _ hx)
    have ha := h a (.head _)
    have one : ∀ k : Nat, ((List.range k).map fun j => (if a = b + 1 + j then f a else 0)).sum = if a < b + 1 + k then f a else 0 := by
      intro k
      induction k with
      | zero =>
        rw [if_neg (Nat.not_lt_of_le ha)]
        rfl
      | succ k ih =>
        rw [List.range_succ, List.map_append, List.sum_append, ih]
        simp only [List.map_cons, List.map_nil, List.sum_cons, List.sum_nil, Nat.add_zero]
        by_cases h1 : a < b + 1 + k
        · rw [if_pos h1, if_neg (Nat.ne_of_lt h1), if_pos (show a < b + 1 + (k + 1) from Nat.lt_succ_of_lt h1), Nat.add_zero]
        · rw [if_neg h1, Nat.zero_add]
          by_cases h2 : a = b + 1 + k
          · rw [if_pos h2, if_pos (show a < b + 1 + (k + 1) from Nat.lt_succ_of_le (Nat.le_of_eq h2))]
          · rw [if_neg h2, if_neg (show ¬ a < b + 1 + (k + 1) from fun q => (Nat.lt_or_eq_of_le (Nat.le_of_lt_succ q)).elim h1 h2)]
    have e : (fun j => (a :: l).count (b + 1 + j) * f (b + 1 + j)) = fun j => (if a = b + 1 + j then f a else 0) + l.count (b + 1 + j) * f (b + 1 + j) := funext fun j => by
      rw [List.count_cons]
      by_cases h1 : a = b + 1 + j
      · subst h1
        simp only [BEq.rfl, if_true]
        rw [Nat.add_mul, Nat.one_mul, Nat.add_comm]
      · rw [if_neg h1, if_neg (by simpa using h1)]
        simp
    rw [List.map_cons, List.sum_cons, ih, e, sum_add, one m]
    congr 1
    by_cases h1 : a < b + 1 + m
    · rw [if_pos h1]
    · rw [if_neg h1, hf a (.head _) (show b + m + 1 ≤ a from Nat.add_right_comm b 1 m ▸ Nat.le_of_not_lt h1)]
theorem slice_nil {x : Str} {b : Nat} (h : b ≤ x.length) : Txt.slice x (some (b : Int)) (some (b : Int)) = Str.empty := by
  rw [eq_of_beq (slice_closesL (x := x) (i := (b : Int)) (j := (b : Int)) (by omega) (by omega) (by omega)), Int.sub_self]
  rfl
theorem slice_len {x : Str} {b e : Nat} (h1 : b ≤ e) (h2 : e ≤ x.length) : (Txt.slice x (some (b : Int)) (some (e : Int))).length = e - b := by
  have := fact_slice_ss x b e (by omega) (by omega) (by omega)
  omega
theorem signAt1_nil {x : Str} {b : Nat} (h : b ≤ x.length) : signAt1 x b b = Str.empty := by
  unfold signAt1
  rw [slice_nil h]
  decide +kernel
theorem signAt1_eq {x : Str} {b e : Nat} (h1 : b < e) (h2 : e ≤ x.length) : signAt1 x b e = Txt.slice x (some (b : Int)) (some ((b : Int) + 1)) := by
  unfold signAt1
  have hl := slice_len (x := x) (Nat.le_of_lt h1) h2
  rw [eq_of_beq (slice_closes_toL (x := Txt.slice x (some (b : Int)) (some (e : Int))) (j := 1) (by omega) (by omega))]
  rw [eq_of_beq (slice_closesL (x := x) (i := (b : Int)) (j := (e : Int)) (by omega) (by omega) (by omega))]
  rw [eq_of_beq (slice_closesL (x := x) (i := (b : Int)) (j := (b : Int) + 1) (by omega) (by omega) (by omega))]
  have e1 : ((b : Int) + 1 - b).toNat = 1 := by rw [Int.add_comm, Int.add_sub_cancel]; rfl
  have e2 : ((e : Int) - b).toNat = (e - b - 1) + 1 := by rw [Int.toNat_sub, Nat.sub_add_cancel (Nat.sub_pos_of_lt h1)]
  rw [e1, e2]
  simp [List.take_take]
section ends
variable {G : Str → Option Pat} {subj : Str} {lim : Int} {tr : Nat → Nat → Nat → Nat}
noncomputable def symW (subj : Str) (tr : Nat → Nat → Nat → Nat) : Sym → Nat → Nat → Nat
  | .str c, b, x => if x = b + 1 ∧ (c == Txt.slice subj (some (b : Int)) (some ((b : Int) + 1))) = true then 1 else 0
  | .name i, b, x => tr i b x
theorem symW_str {c : Str} {b x : Nat} : symW subj tr (.str c) b x = if x = b + 1 ∧ (c == Txt.slice subj (some (b : Int)) (some ((b : Int) + 1))) = true then 1 else 0 := rfl
theorem slice_over {x : Str} {i j : Int} (h : (x.length : Int) ≤ j) : Txt.slice x (some i) (some j) = Txt.slice x (some i) (some (x.length : Int)) := by
  have a1 : ¬ j < 0 := by omega
  have a2 : ¬ ((x.length : Int) < 0) := by omega
  have e1 : min j (x.length : Int) = x.length := by omega
  have e2 : min (x.length : Int) (x.length : Int) = x.length := by omega
  have e : PySem.Builtin.Str.strSliceIndices (some i) (some j) 1 x.length = PySem.Builtin.Str.strSliceIndices (some i) (some (x.length : Int)) 1 x.length := by
    simp [PySem.Builtin.Str.strSliceIndices, a1, a2, e1, e2]
  unfold Txt.slice
  rw [e]
theorem sum_first {f : Nat → Nat} : ∀ {m : Nat}, (∀ j, 0 < j → f j = 0) → 0 < m → ((List.range m).map f).sum = f 0
  | 0, _, h => absurd h (Nat.lt_irrefl _)
  | 1, _, _ => by simp [List.range_succ]
  | m + 2, hf, _ => by
    rw [List.range_succ, List.map_append, List.sum_append, sum_first hf (Nat.succ_pos m)]
    simp [hf (m + 1) (Nat.succ_pos m)]
theorem waysL_cons {s : Sym} {r : List Sym} {b e : Nat} (hs : GoodSym s) (h1 : b ≤ e) (h2 : e ≤ subj.length) :
    waysL subj tr (s :: r) b e = ((List.range (e - b)).map fun j => symW subj tr s b (b + 1 + j) * waysL subj tr r (b + 1 + j) e).sum := by
  cases s with
  | name i => rfl
  | str c =>
    have hc : c ≠ Str.empty := by
      rcases hs with h | h <;> rw [h] <;> decide +kernel
    by_cases hbe : b = e
    · subst hbe
      rw [Nat.sub_self, waysL, if_neg]
      · rfl
      · rw [signAt1_nil h2]
        simpa using hc
    · rw [sum_first (m := e - b) ?_ (Nat.sub_pos_of_lt (Nat.lt_of_le_of_ne h1 hbe))]
      · rw [waysL, signAt1_eq (Nat.lt_of_le_of_ne h1 hbe) h2]
        rw [symW_str]
        by_cases hq : (c == Txt.slice subj (some (b : Int)) (some ((b : Int) + 1))) = true
        · rw [if_pos hq, if_pos ⟨rfl, hq⟩, Nat.one_mul]
        · rw [if_neg hq, if_neg (fun h => hq h.2), Nat.zero_mul]
      · intro j hj
        rw [symW_str, if_neg (by omega), Nat.zero_mul]
/-- from the place b, one after another, the sign comes to «es», in some K steps -/
noncomputable def SymRuns (G : Str → Option Pat) (subj : Str) (lim : Int) (tr : Nat → Nat → Nat → Nat) (s : Sym) (b A B : Nat) : Prop :=
  ∃ (es : List Nat) (K : Nat), K ≤ A ∧ es.length ≤ B ∧ (∀ e ∈ es, b + 1 ≤ e ∧ e ≤ subj.length) ∧ (∀ e, b < e → e ≤ subj.length → es.count e = symW subj tr s b e) ∧
    ∀ (rest : List Pat) (ev : Nat → List (Str × Val)) (c : Nat → Nat), (∀ e ∈ es, Runs G subj lim rest (e : Int) (ev e) (c e)) → Runs G subj lim (symPat s :: rest) (b : Int) (es.flatMap ev) (K + (es.map c).sum)
noncomputable def tailP : List Sym → List Pat
  | [] => []
  | s :: r => [rowPat (s :: r)]
noncomputable def RowRuns (G : Str → Option Pat) (subj : Str) (lim : Int) (tr : Nat → Nat → Nat → Nat) (row : List Sym) (b A B : Nat) : Prop :=
  ∃ (es : List Nat) (K : Nat), K ≤ A ∧ es.length ≤ B ∧ (∀ e ∈ es, b + row.length ≤ e ∧ e ≤ subj.length) ∧ (∀ e, b ≤ e → e ≤ subj.length → es.count e = waysL subj tr row b e) ∧
    ∀ (rest : List Pat) (ev : Nat → List (Str × Val)) (c : Nat → Nat), (∀ e ∈ es, Runs G subj lim rest (e : Int) (ev e) (c e)) → Runs G subj lim (tailP row ++ rest) (b : Int) (es.flatMap ev) (K + (es.map c).sum)
theorem RowRuns.mono {row : List Sym} {b A B A' B' : Nat} (h : RowRuns G subj lim tr row b A B) (ha : A ≤ A') (hb : B ≤ B') : RowRuns G subj lim tr row b A' B' := by
  obtain ⟨es, K, h1, h2, h3⟩ := h
  exact ⟨es, K, Nat.le_trans h1 ha, Nat.le_trans h2 hb, h3⟩
theorem SymRuns.mono {s : Sym} {b A B A' B' : Nat} (h : SymRuns G subj lim tr s b A B) (ha : A ≤ A') (hb : B ≤ B') : SymRuns G subj lim tr s b A' B' := by
  obtain ⟨es, K, h1, h2, h3⟩ := h
  exact ⟨es, K, Nat.le_trans h1 ha, Nat.le_trans h2 hb, h3⟩
theorem RowRuns.nil {b : Nat} (hb : b ≤ subj.length) : RowRuns G subj lim tr [] b 0 1 := by
  refine ⟨[b], 0, Nat.le_refl _, Nat.le_refl _, ?_, ?_, ?_⟩
  · intro e he
    rw [List.mem_singleton] at he
    subst he
    exact ⟨Nat.le_refl _, hb⟩
  · intro e _ _
    rw [waysL, List.count_singleton]
    by_cases h : b = e
    · simp [h]
    · simp [h]
  · intro rest ev c h
    have := h b (.head _)
    simpa [tailP] using this
theorem SymRuns.str {c : Str} {b : Nat} (hs : GoodSym (.str c)) (hb : b ≤ subj.length) : SymRuns G subj lim tr (.str c) b 1 (min 1 (subj.length - b)) := by
  have hcl : c.length = 1 := by rcases hs with h | h <;> rw [h] <;> decide +kernel
  have hce : ((b : Int) + (c.length : Int)) = (b : Int) + 1 := by rw [hcl]; rfl
  by_cases hq : (c == Txt.slice subj (some (b : Int)) (some ((b : Int) + 1))) = true
  · have hbl : b < subj.length := by
      refine Nat.lt_of_le_of_ne hb fun e => ?_
      have h1 := Txt.slice_le subj (some (b : Int)) (some ((b : Int) + 1))
      have h2 := eq_of_beq hq
      have h3 : Txt.slice subj (some (subj.length : Int)) (some ((subj.length : Int) + 1)) = Str.empty := by
        rw [slice_over (Int.le_of_lt (Int.lt_succ _)), slice_nil (Nat.le_refl _)]
      rw [h2, e, h3] at hcl
      exact absurd hcl (by decide +kernel)
    refine ⟨[b + 1], 1, Nat.le_refl _, Nat.le_min.mpr ⟨Nat.le_refl 1, Nat.sub_pos_of_lt hbl⟩, ?_, ?_, ?_⟩
    · intro e he
      rw [List.mem_singleton] at he
      subst he
      exact ⟨Nat.le_refl _, hbl⟩
    · intro e h1 h2
      rw [symW_str, List.count_singleton]
      by_cases h : e = b + 1
      · subst h
        have e8 : (b + 1 = b + 1 ∧ (c == Txt.slice subj (some (b : Int)) (some ((b : Int) + 1))) = true) := ⟨rfl, hq⟩
        rw [if_pos e8]
        simp
      · have e8 : ¬ (e = b + 1 ∧ (c == Txt.slice subj (some (b : Int)) (some ((b : Int) + 1))) = true) := fun x => h x.1
        have e9 : (b + 1 == e) = false := by simpa using fun x : b + 1 = e => h x.symm
        simp only [if_neg e8, e9, Bool.false_eq_true, if_false]
    · intro rest ev cc h
      have h1 := h (b + 1) (.head _)
      have h2 := Runs.chars (G := G) (subj := subj) (lim := lim) (t := c) (rest := rest) (i := (b : Int)) (ev := ev (b + 1)) (c := cc (b + 1)) (Int.natCast_nonneg _) (Int.ofNat_le.mpr hb) (hcl ▸ by decide) (by rw [hce, BEq.comm]; exact hq) (by rw [hce]; exact_mod_cast h1)
      have e3 : 1 + ([b + 1].map cc).sum = cc (b + 1) + 1 := Nat.add_comm _ _
      rw [e3]
      simpa [symPat] using h2
  · refine ⟨[], 1, Nat.le_refl _, Nat.zero_le _, fun _ h => (nomatch h), ?_, ?_⟩
    · intro e h1 h2
      have e8 : ¬ (e = b + 1 ∧ (c == Txt.slice subj (some (b : Int)) (some ((b : Int) + 1))) = true) := fun x => hq x.2
      rw [symW_str, if_neg e8]
      rfl
    · intro rest ev cc _
      exact Runs.charsNo (Int.natCast_nonneg _) (Int.ofNat_le.mpr hb) (hcl ▸ by decide) (by rw [hce, BEq.comm]; simpa using hq)
theorem RowRuns.cons {s : Sym} {r : List Sym} {b A B A' B' : Nat} (hs : GoodSym s) (hb : b ≤ subj.length) (h1 : SymRuns G subj lim tr s b A B) (h2 : ∀ e, b < e → e ≤ subj.length → RowRuns G subj lim tr r e A' B') :
    RowRuns G subj lim tr (s :: r) b ((if r = [] then 0 else 1) + A + B * A') (B * B') := by
  obtain ⟨es, K, hK, hB, hes, hcnt, hrun⟩ := h1
  have h3 : ∀ e, ∃ (es : List Nat) (K : Nat), b < e → e ≤ subj.length → K ≤ A' ∧ es.length ≤ B' ∧ (∀ e' ∈ es, e + r.length ≤ e' ∧ e' ≤ subj.length) ∧ (∀ e', e ≤ e' → e' ≤ subj.length → es.count e' = waysL subj tr r e e') ∧
    ∀ (rest : List Pat) (ev : Nat → List (Str × Val)) (c : Nat → Nat), (∀ e' ∈ es, Runs G subj lim rest (e' : Int) (ev e') (c e')) → Runs G subj lim (tailP r ++ rest) (e : Int) (es.flatMap ev) (K + (es.map c).sum) := by
    intro e
    by_cases hx : b < e ∧ e ≤ subj.length
    · obtain ⟨es, K, h⟩ := h2 e hx.1 hx.2
      exact ⟨es, K, fun _ _ => h⟩
    · exact ⟨[], 0, fun a1 a2 => absurd ⟨a1, a2⟩ hx⟩
  obtain ⟨es2, h4⟩ := Classical.axiomOfChoice h3
  obtain ⟨K2, h5⟩ := Classical.axiomOfChoice h4
  have h6 : ∀ e ∈ es, _ := fun e he => h5 e (hes e he).1 (hes e he).2
  refine ⟨es.flatMap es2, (if r = [] then 0 else 1) + K + (es.map K2).sum, ?_, ?_, ?_, ?_, ?_⟩
  · exact Nat.add_le_add (Nat.add_le_add_left hK _) (Nat.le_trans (sum_const_le (l := es) (f := K2) (B := A') fun e he => (h6 e he).1) (Nat.mul_le_mul_right A' hB))
  · have := length_flatMap_le (l := es) (f := es2) (B := B') fun e he => (h6 e he).2.1
    exact Nat.le_trans this (Nat.mul_le_mul_right B' hB)
  · intro e he
    obtain ⟨e1, h7, h8⟩ := List.mem_flatMap.mp he
    have g1 := hes e1 h7
    have g2 := (h6 e1 h7).2.2.1 e h8
    exact ⟨Nat.le_trans (by rw [List.length_cons, Nat.add_comm r.length 1, ← Nat.add_assoc]; exact Nat.add_le_add_right g1.1 _) g2.1, g2.2⟩
  · intro e hbe hel
    rw [count_flatMap, waysL_cons hs hbe hel, sum_by_count (b := b) (m := e - b) ?_ fun x hx => (hes x hx).1]
    · refine congrArg List.sum (List.map_congr_left fun j hj => ?_)
      rw [List.mem_range] at hj
      have j1 : b < b + 1 + j := Nat.lt_of_lt_of_le (Nat.lt_succ_self b) (Nat.le_add_right _ j)
      have j2 : b + 1 + j ≤ e := by rw [Nat.add_right_comm]; exact Nat.add_lt_of_lt_sub' hj
      rw [hcnt (b + 1 + j) j1 (Nat.le_trans j2 hel), (h5 (b + 1 + j) j1 (Nat.le_trans j2 hel)).2.2.2.1 e j2 hel]
    · intro x hxm hx
      refine List.count_eq_zero.mpr fun hm => ?_
      rw [Nat.add_sub_cancel' hbe] at hx
      exact absurd (Nat.le_trans (Nat.le_add_right x _) ((h6 x hxm).2.2.1 e hm).1) (Nat.not_le_of_lt hx)
  · intro rest ev c h
    have h7 := hrun (tailP r ++ rest) (fun e => (es2 e).flatMap ev) (fun e => K2 e + ((es2 e).map c).sum) fun e he => (h6 e he).2.2.2.2 rest ev c fun e' he' => h e' (List.mem_flatMap.mpr ⟨e, he, he'⟩)
    rw [sum_add] at h7
    rw [List.flatMap_assoc, sum_flatMap]
    cases r with
    | nil =>
      rw [if_pos rfl]
      have e9 : 0 + K + (es.map K2).sum + (es.map fun x => ((es2 x).map c).sum).sum = K + ((es.map K2).sum + (es.map fun x => ((es2 x).map c).sum).sum) := by rw [Nat.zero_add, Nat.add_assoc]
      rw [e9]
      exact h7
    | cons s2 r2 =>
      rw [if_neg (List.cons_ne_nil _ _)]
      have e9 : 1 + K + (es.map K2).sum + (es.map fun x => ((es2 x).map c).sum).sum = K + ((es.map K2).sum + (es.map fun x => ((es2 x).map c).sum).sum) + 1 := by rw [Nat.add_assoc (1 + K), Nat.add_comm 1 K, Nat.add_right_comm]
      rw [e9]
      exact Runs.cat (Int.natCast_nonneg _) (Int.ofNat_le.mpr hb) h7
end ends
section names
variable {G : Str → Option Pat} {subj : Str} {lim : Int} {tr : Nat → Nat → Nat → Nat} {r0 r1 : Nat → List Sym}
  (hG : ∀ i, i < 3 → G (stu i) = some (.alt (rowPat (r0 i)) (rowPat (r1 i)))) (h0 : ∀ i, i < 3 → ∃ c, GoodSym (.str c) ∧ r0 i = [.str c]) (h1 : ∀ i, i < 3 → GoodRow (r1 i) ∧ 2 ≤ (r1 i).length)
  (htr : ∀ i, i < 3 → ∀ b e, b < e → e ≤ subj.length → tr i b e = waysL subj tr (r0 i) b e + waysL subj tr (r1 i) b e)
/-- all signs, from the place b -/
noncomputable def AllSyms (G : Str → Option Pat) (subj : Str) (lim : Int) (tr : Nat → Nat → Nat → Nat) (b : Nat) : Prop := ∀ s, GoodSym s → SymRuns G subj lim tr s b (aN (subj.length - b)) (bN (subj.length - b))
theorem tail_runs {r : List Sym} {b : Nat} (hr : ∀ s ∈ r, GoodSym s) (hl : 1 ≤ r.length) (hl2 : r.length ≤ 2) (hb : b ≤ subj.length) (hA : ∀ e, b ≤ e → e ≤ subj.length → AllSyms G subj lim tr e) :
    RowRuns G subj lim tr r b (1 + aN (subj.length - b) + bN (subj.length - b) * aN (subj.length - b)) (bN (subj.length - b) * bN (subj.length - b)) := by
  match r, hr, hl, hl2 with
  | [s], hr, _, _ =>
    have hs := hr s (.head _)
    have := RowRuns.cons (r := []) hs hb (hA b (Nat.le_refl _) hb s hs) fun e _ he => RowRuns.nil he
    rw [if_pos rfl] at this
    exact this.mono (Nat.add_le_add (Nat.add_le_add_right (Nat.zero_le 1) _) (Nat.zero_le _)) (by rw [Nat.mul_one]; exact le_sq _)
  | [s, s2], hr, _, _ =>
    have hs := hr s (.head _)
    have hs2 := hr s2 (.tail _ (.head _))
    have one : ∀ e, b < e → e ≤ subj.length → RowRuns G subj lim tr [s2] e (aN (subj.length - b)) (bN (subj.length - b)) := fun e h1 h2 => by
      have := RowRuns.cons (r := []) hs2 h2 (hA e (Nat.le_of_lt h1) h2 s2 hs2) fun e _ he => RowRuns.nil he
      rw [if_pos rfl] at this
      have hm := Nat.sub_le_sub_left (Nat.le_of_lt h1) subj.length
      exact this.mono (by rw [Nat.zero_add]; exact aN_mono hm) (by rw [Nat.mul_one]; exact bN_mono hm)
    have := RowRuns.cons (r := [s2]) hs hb (hA b (Nat.le_refl _) hb s hs) one
    rw [if_neg (List.cons_ne_nil _ _)] at this
    exact this
include h1 in
theorem rule_runs {i b : Nat} (hi : i < 3) (hb : b ≤ subj.length) (hA : ∀ e, b < e → e ≤ subj.length → AllSyms G subj lim tr e) :
    RowRuns G subj lim tr (r1 i) b (if b < subj.length then 3 + aN (subj.length - b - 1) + bN (subj.length - b - 1) * aN (subj.length - b - 1) else 2) (if b < subj.length then bN (subj.length - b - 1) * bN (subj.length - b - 1) else 0) := by
  obtain ⟨⟨-, hl3, hg, c, r, e⟩, hl⟩ := h1 i hi
  rw [e] at hl3 hg hl ⊢
  have hc := hg _ (.head _)
  have hr : ∀ s ∈ r, GoodSym s := fun s hs => hg s (.tail _ hs)
  rw [List.length_cons] at hl3 hl
  have hne : r ≠ [] := by intro e; subst e; simp at hl
  have hs := SymRuns.str (G := G) (lim := lim) (tr := tr) hc hb
  by_cases hbl : b < subj.length
  · rw [if_pos hbl, if_pos hbl]
    have hs1 := hs.mono (A' := 1) (B' := 1) (Nat.le_refl _) (Nat.min_le_left _ _)
    have := RowRuns.cons (r := r) hc hb hs1 (A' := 1 + aN (subj.length - b - 1) + bN (subj.length - b - 1) * aN (subj.length - b - 1)) (B' := bN (subj.length - b - 1) * bN (subj.length - b - 1)) fun e h1 h2 => by
      have ht := tail_runs hr (Nat.le_of_succ_le_succ hl) (Nat.le_of_succ_le_succ hl3) h2 fun e' h3 h4 => hA e' (Nat.lt_of_lt_of_le h1 h3) h4
      have hm : subj.length - e ≤ subj.length - b - 1 := by rw [Nat.sub_sub]; exact Nat.sub_le_sub_left h1 _
      exact ht.mono (Nat.add_le_add (Nat.add_le_add_left (aN_mono hm) 1) (Nat.mul_le_mul (bN_mono hm) (aN_mono hm))) (Nat.mul_le_mul (bN_mono hm) (bN_mono hm))
    rw [if_neg hne] at this
    exact this.mono (Nat.le_of_eq (by rw [Nat.one_mul, ← Nat.add_assoc, ← Nat.add_assoc])) (Nat.le_of_eq (Nat.one_mul _))
  · rw [if_neg hbl, if_neg hbl]
    have hs1 := hs.mono (A' := 1) (B' := 0) (Nat.le_refl _) (by rw [Nat.sub_eq_zero_of_le (Nat.le_of_not_lt hbl)]; exact Nat.le_refl _)
    have := RowRuns.cons (r := r) hc hb hs1 (A' := 0) (B' := 0) fun e h1 h2 => absurd (Nat.lt_of_lt_of_le h1 h2) hbl
    rw [if_neg hne] at this
    exact this
theorem name_cost {n b K0 K1 m : Nat} (a0 : K0 ≤ 0 + 1 + m * 0) (a1 : K1 ≤ if b < n then 3 + aN (n - b - 1) + bN (n - b - 1) * aN (n - b - 1) else 2) : 2 + K0 + K1 ≤ aN (n - b) := by
  have c0 : K0 ≤ 1 := a0
  by_cases hbl : b < n
  · rw [if_pos hbl] at a1
    obtain ⟨k, hk⟩ := Nat.exists_eq_succ_of_ne_zero (Nat.sub_ne_zero_of_lt hbl)
    rw [hk] at a1 ⊢
    exact Nat.le_trans (Nat.add_le_add (Nat.add_le_add_left c0 2) a1) (Nat.le_of_eq (by rw [← Nat.add_assoc, ← Nat.add_assoc]; rfl))
  · rw [if_neg hbl] at a1
    exact Nat.le_trans (Nat.add_le_add (Nat.add_le_add_left c0 2) a1) (aN_ge _)
theorem name_len {n b k0 k1 : Nat} (b0 : k0 ≤ min 1 (n - b) * 1) (b1 : k1 ≤ if b < n then bN (n - b - 1) * bN (n - b - 1) else 0) : k0 + k1 ≤ bN (n - b) := by
  rw [Nat.mul_one] at b0
  by_cases hbl : b < n
  · rw [if_pos hbl] at b1
    rw [← Nat.sub_add_cancel (Nat.sub_pos_of_lt hbl), bN]
    exact Nat.add_le_add (Nat.le_trans b0 (Nat.min_le_left _ _)) b1
  · rw [if_neg hbl] at b1
    rw [Nat.sub_eq_zero_of_le (Nat.le_of_not_lt hbl)] at b0
    exact Nat.le_trans (Nat.add_le_add b0 b1) (Nat.zero_le _)
theorem add5 (a b c d : Nat) : a + b + (c + d) + 1 + 1 = 2 + a + c + (b + d) := by omega
theorem Runs.two {p : Pat} {ps : List Pat} {i : Int} {ev : List (Str × Val)} {c c' : Nat} (h : Runs G subj lim (p :: ps) i ev c) (e : c = c') : Runs G subj lim (p :: ps) i ev c' := e ▸ h
include hG h0 h1 htr in
theorem name_runs {i b : Nat} (hi : i < 3) (hb : b ≤ subj.length) (hA : ∀ e, b < e → e ≤ subj.length → AllSyms G subj lim tr e) : SymRuns G subj lim tr (.name i) b (aN (subj.length - b)) (bN (subj.length - b)) := by
  obtain ⟨c, hc, e0⟩ := h0 i hi
  have q0 := RowRuns.cons (r := []) hc hb (SymRuns.str (G := G) (lim := lim) (tr := tr) hc hb) fun e _ he => RowRuns.nil he
  rw [if_pos rfl, ← e0] at q0
  obtain ⟨es0, K0, a0, b0, c0, d0, f0⟩ := q0
  obtain ⟨es1, K1, a1, b1, c1, d1, f1⟩ := rule_runs h1 hi hb hA
  obtain ⟨⟨-, -, -, c', r', e1⟩, hl1⟩ := h1 i hi
  refine ⟨es0 ++ es1, 2 + K0 + K1, ?_, ?_, ?_, ?_, ?_⟩
  · exact name_cost a0 a1
  · rw [List.length_append]
    exact name_len b0 b1
  · intro e he
    rcases List.mem_append.mp he with h | h
    · have := c0 e h
      rw [e0] at this
      exact ⟨this.1, this.2⟩
    · have := c1 e h
      exact ⟨Nat.le_trans (Nat.add_le_add_left (Nat.le_of_succ_le hl1) b) this.1, this.2⟩
  · intro e he1 he2
    rw [List.count_append, d0 e (Nat.le_of_lt he1) he2, d1 e (Nat.le_of_lt he1) he2]
    exact (htr i hi b e he1 he2).symm
  · intro rest ev cc h
    have g0 := f0 rest ev cc fun e he => h e (List.mem_append_left _ he)
    have g1 := f1 rest ev cc fun e he => h e (List.mem_append_right _ he)
    have t0 : tailP (r0 i) = [rowPat (r0 i)] := by rw [e0]; rfl
    have t1 : tailP (r1 i) = [rowPat (r1 i)] := by rw [e1]; rfl
    rw [t0] at g0
    rw [t1] at g1
    have := Runs.delay (nm := stu i) (Int.natCast_nonneg _) (Int.ofNat_le.mpr hb) (hG i hi) (Runs.alt (Int.natCast_nonneg _) (Int.ofNat_le.mpr hb) g0 g1)
    rw [List.flatMap_append, List.map_append, List.sum_append]
    exact Runs.two this (add5 _ _ _ _)
include hG h0 h1 htr in
theorem all_syms : ∀ (k b : Nat), subj.length - b = k → b ≤ subj.length → AllSyms G subj lim tr b := by
  intro k
  induction k using Nat.strongRecOn with
  | ind k ih =>
    intro b hk hb s hs
    cases s with
    | str c =>
      exact (SymRuns.str hs hb).mono (Nat.le_trans (by decide) (aN_ge _)) (min_bN _)
    | name i => exact name_runs hG h0 h1 htr hs hb fun e h1 h2 => ih (subj.length - e) (hk ▸ Nat.sub_lt_sub_left (Nat.lt_of_lt_of_le h1 h2) h1) e rfl h2
theorem whole_cost {K A B n s : Nat} (hK : K ≤ A) (hB : n ≤ B) (hs : s ≤ n * 2) : K + s + 1 + 1 + 1 + 1 ≤ 4 + A + 2 * B := by omega
noncomputable def wPat : Pat := .cat (.cursor (Str.ofString "I")) (.cat (.now (.delay (Str.ofString "S")) (Str.ofString "V")) .fail)
noncomputable def evV (subj : Str) (b e : Nat) : Str × Val := (Str.ofString "V", .str (Txt.slice subj (some (b : Int)) (some (e : Int))))
noncomputable def evsOf (subj : Str) (b : Nat) (es : List Nat) : List (Str × Val) := (Str.ofString "I", .int (b : Int)) :: es.map (evV subj b)
include hG h0 h1 htr in
/-- what the whole pattern logs from one place -/
theorem whole_runs (hI : G (Str.ofString "I") = none) (hV : G (Str.ofString "V") = none) {b : Nat} (hb : b ≤ subj.length) :
    ∃ (es : List Nat) (c : Nat), c ≤ 4 + aN (subj.length - b) + 2 * bN (subj.length - b) ∧ (∀ e ∈ es, b < e ∧ e ≤ subj.length) ∧ (∀ e, b < e → e ≤ subj.length → es.count e = tr 0 b e) ∧
      Runs G subj lim [wPat] (b : Int) (evsOf subj b es) c := by
  obtain ⟨es, K, hK, hB, hes, hcnt, hrun⟩ := all_syms (lim := lim) hG h0 h1 htr (subj.length - b) b rfl hb (.name 0) (show 0 < 3 by decide)
  have h := hrun [.enow (Str.ofString "V") (b : Int), .fail] (fun e => [evV subj b e]) (fun _ => 2) fun e he => by
    have hh := hes e he
    have h1 : (e : Int) ≤ subj.length := Int.ofNat_le.mpr hh.2
    exact Runs.enow (Int.natCast_nonneg _) h1 (Int.natCast_nonneg _) (Int.ofNat_le.mpr (Nat.le_of_succ_le hh.1)) (by rw [hV]; rfl) (Runs.fail (Int.natCast_nonneg _) h1)
  have hm : ∀ l : List Nat, l.flatMap (fun e => [evV subj b e]) = l.map (evV subj b) := fun l => by
    induction l with
    | nil => rfl
    | cons a l ih => rw [List.flatMap_cons, ih]; rfl
  rw [hm] at h
  have hc := sum_const_le (l := es) (f := fun _ => 2) (B := 2) fun _ _ => Nat.le_refl _
  have p0 : 0 ≤ (b : Int) := Int.natCast_nonneg b
  have p1 : (b : Int) ≤ subj.length := Int.ofNat_le.mpr hb
  have h2 : Runs G subj lim [wPat] (b : Int) (evsOf subj b es) (K + (es.map fun _ => 2).sum + 1 + 1 + 1 + 1) :=
    Runs.cat p0 p1 (Runs.cursor p0 p1 (by rw [hI]; rfl) (Runs.cat p0 p1 (Runs.now p0 p1 h)))
  exact ⟨es, _, whole_cost hK hB hc, fun e he => ⟨(hes e he).1, (hes e he).2⟩, hcnt, h2⟩
theorem run_room {n b s c : Nat} (hl : n ≤ 5) (hb : b ≤ n) (h2 : s ≤ b * 16106) (h3 : c ≤ 4 + 14748 + 1354) : (s : Int) + c ≤ 99999 := by omega
include hG h0 h1 htr in
/-- the runs from all places, one after another -/
theorem all_runs (hI : G (Str.ofString "I") = none) (hV : G (Str.ofString "V") = none) (hl : subj.length ≤ 5) (hlim : lim = 99999) :
    ∃ (es : Nat → List Nat) (kF : Nat → Int) (fF : Nat → Nat), (∀ b, b ≤ subj.length → (∀ e ∈ es b, b < e ∧ e ≤ subj.length) ∧ (∀ e, b < e → e ≤ subj.length → (es b).count e = tr 0 b e)) ∧ kF 0 = 0 ∧ kF (subj.length + 1) ≤ 99999 ∧
      ∀ b, b < subj.length + 1 → run G subj lim (fF b) none { (⟨(List.range b).flatMap fun b => evsOf subj b (es b), []⟩ : St) with pile := [([wPat], (b : Int))] } (kF b) = some (⟨(List.range (b + 1)).flatMap fun b => evsOf subj b (es b), []⟩, kF (b + 1)) := by
  have hx : ∀ b, ∃ (es : List Nat) (c : Nat), b ≤ subj.length → c ≤ 4 + aN (subj.length - b) + 2 * bN (subj.length - b) ∧ (∀ e ∈ es, b < e ∧ e ≤ subj.length) ∧ (∀ e, b < e → e ≤ subj.length → es.count e = tr 0 b e) ∧
      Runs G subj lim [wPat] (b : Int) (evsOf subj b es) c := fun b => by
    by_cases hb : b ≤ subj.length
    · obtain ⟨es, c, h⟩ := whole_runs (lim := lim) hG h0 h1 htr hI hV hb
      exact ⟨es, c, fun _ => h⟩
    · exact ⟨[], 0, fun h => absurd h hb⟩
  obtain ⟨es, hx⟩ := Classical.axiomOfChoice hx
  obtain ⟨c, hx⟩ := Classical.axiomOfChoice hx
  have hcb : ∀ b, b ≤ subj.length → c b ≤ 4 + 14748 + 1354 := fun b hb => by
    have h := (hx b hb).1
    have m1 := aN_mono (j := subj.length - b) (k := 5) (Nat.le_trans (Nat.sub_le _ _) hl)
    have m2 := bN_mono (j := subj.length - b) (k := 5) (Nat.le_trans (Nat.sub_le _ _) hl)
    have e1 : aN 5 = 14748 := by decide
    have e2 : bN 5 = 677 := by decide
    exact Nat.le_trans h (Nat.add_le_add (Nat.add_le_add_left (e1 ▸ m1) 4) (Nat.mul_le_mul_left 2 (e2 ▸ m2)))
  have hsum : ∀ b, b ≤ subj.length + 1 → (((List.range b).map c).sum : Nat) ≤ b * 16106 := fun b hb => by
    have := sum_const_le (l := List.range b) (f := c) (B := 16106) fun x hx => hcb x (Nat.le_of_lt_succ (Nat.lt_of_lt_of_le (List.mem_range.mp hx) hb))
    rwa [List.length_range] at this
  have hd : ∀ b, ∃ d : Nat, b ≤ subj.length → ∀ f, run G subj lim (f + d) (some ([wPat], (b : Int))) ⟨(List.range b).flatMap fun b => evsOf subj b (es b), []⟩ (((List.range b).map c).sum : Nat) =
      run G subj lim f none ⟨(List.range b).flatMap (fun b => evsOf subj b (es b)) ++ evsOf subj b (es b), []⟩ ((((List.range b).map c).sum : Nat) + c b) := fun b => by
    by_cases hb : b ≤ subj.length
    · have h2 := run_room hl hb (hsum b (Nat.le_succ_of_le hb)) (hcb b hb)
      obtain ⟨d, h⟩ := (hx b hb).2.2.2 ⟨(List.range b).flatMap fun b => evsOf subj b (es b), []⟩ (((List.range b).map c).sum : Nat) (by rw [hlim]; exact h2)
      exact ⟨d, fun _ => h⟩
    · exact ⟨0, fun h => absurd h hb⟩
  obtain ⟨d, hd⟩ := Classical.axiomOfChoice hd
  refine ⟨es, fun b => (((List.range b).map c).sum : Nat), fun b => 1 + d b + 1, fun b hb => ⟨(hx b hb).2.1, (hx b hb).2.2.1⟩, rfl, ?_, ?_⟩
  · exact Int.ofNat_le.mpr (Nat.le_trans (hsum (subj.length + 1) (Nat.le_refl _)) (Nat.le_trans (Nat.mul_le_mul_right _ (Nat.succ_le_succ hl)) (by decide)))
  · intro b hb
    rw [run]
    show run G subj lim (1 + d b) (some ([wPat], (b : Int))) ⟨_, []⟩ _ = _
    rw [hd b (Nat.le_of_lt_succ hb) 1, run]
    simp only [List.getLast?_nil]
    rw [List.range_succ, List.map_append, List.sum_append, List.flatMap_append]
    simp
end names
end
section
open PyProof
/-! the table of all spans: it exists, and what the rows' counts are bounded by -/
section table
variable {subj : Str} {r0 r1 : Nat → List Sym}
theorem waysL_congr {tr tr' : Nat → Nat → Nat → Nat} : ∀ {row : List Sym} {b e : Nat}, (∀ s ∈ row, GoodSym s) → (∀ i b' c, i < 3 → b ≤ b' → b' < c → c ≤ e → tr i b' c = tr' i b' c) → waysL subj tr row b e = waysL subj tr' row b e
  | [], _, _, _, _ => rfl
  | .str c :: r, b, e, hg, h => by
    rw [waysL, waysL, waysL_congr (row := r) (fun s hs => hg s (.tail _ hs)) fun i b' c hi h1 h2 h3 => h i b' c hi (by omega) h2 h3]
  | .name i :: r, b, e, hg, h => by
    rw [waysL, waysL]
    refine congrArg List.sum (List.map_congr_left fun j hj => ?_)
    rw [List.mem_range] at hj
    rw [h i b (b + 1 + j) (hg _ (.head _)) (Nat.le_refl _) (by omega) (by omega), waysL_congr (row := r) (fun s hs => hg s (.tail _ hs)) fun i b' c hi h1 h2 h3 => h i b' c hi (by omega) h2 h3]
/-- a row that opens with a sign reads only shorter spans -/
theorem waysL_congr1 {tr tr' : Nat → Nat → Nat → Nat} {row : List Sym} {b e : Nat} (hr : ∃ c r, row = .str c :: r) (hg : ∀ s ∈ row, GoodSym s) (h : ∀ i b' c, i < 3 → b < b' → b' < c → c ≤ e → tr i b' c = tr' i b' c) : waysL subj tr row b e = waysL subj tr' row b e := by
  obtain ⟨c, r, rfl⟩ := hr
  rw [waysL, waysL, waysL_congr (row := r) (fun s hs => hg s (.tail _ hs)) fun i b' c hi h1 h2 h3 => h i b' c hi (by omega) h2 h3]
noncomputable def trK (subj : Str) (r0 r1 : Nat → List Sym) : Nat → Nat → Nat → Nat → Nat
  | 0, _, _, _ => 0
  | k + 1, i, b, e => if e - b ≤ k then trK subj r0 r1 k i b e else waysL subj (trK subj r0 r1 k) (r0 i) b e + waysL subj (trK subj r0 r1 k) (r1 i) b e
theorem trK_stable {i b e : Nat} : ∀ {k m : Nat}, e - b ≤ k → k ≤ m → trK subj r0 r1 m i b e = trK subj r0 r1 k i b e := by
  intro k m h1 h2
  induction h2 with
  | refl => rfl
  | @step m h2 ih => rw [trK, if_pos (by have : k ≤ m := h2; omega), ih]
theorem trK_eq (h0 : ∀ i, i < 3 → (∀ s ∈ r0 i, GoodSym s) ∧ ∃ c r, r0 i = .str c :: r) (h1 : ∀ i, i < 3 → (∀ s ∈ r1 i, GoodSym s) ∧ ∃ c r, r1 i = .str c :: r) {i b e n : Nat} (hi : i < 3) (hbe : b < e) (hn : e ≤ n) :
    trK subj r0 r1 n i b e = waysL subj (trK subj r0 r1 n) (r0 i) b e + waysL subj (trK subj r0 r1 n) (r1 i) b e := by
  obtain ⟨k, he⟩ : ∃ k, e = k + (b + 1) := ⟨e - (b + 1), (Nat.sub_add_cancel hbe).symm⟩
  have hk : e - b = k + 1 := by rw [he, ← Nat.add_assoc, Nat.add_right_comm, Nat.add_sub_cancel]
  have hkn : k + 1 ≤ n := hk ▸ Nat.le_trans (Nat.sub_le _ _) hn
  have hs : ∀ {i b' c}, b < b' → c ≤ e → trK subj r0 r1 k i b' c = trK subj r0 r1 n i b' c := fun h2 h3 => (trK_stable (Nat.sub_le_of_le_add (Nat.le_trans h3 (he ▸ Nat.add_le_add_left h2 k))) (Nat.le_of_succ_le hkn)).symm
  rw [trK_stable (k := k + 1) (m := n) (Nat.le_of_eq hk) hkn, trK, if_neg (by rw [hk]; exact Nat.not_succ_le_self k)]
  have c0 := waysL_congr1 (subj := subj) (tr := trK subj r0 r1 k) (tr' := trK subj r0 r1 n) (b := b) (e := e) (h0 i hi).2 (h0 i hi).1 fun i b' c _ h1 h2 h3 => hs h1 h3
  have c1 := waysL_congr1 (subj := subj) (tr := trK subj r0 r1 k) (tr' := trK subj r0 r1 n) (b := b) (e := e) (h1 i hi).2 (h1 i hi).1 fun i b' c _ h1 h2 h3 => hs h1 h3
  rw [c0, c1]
variable {tr : Nat → Nat → Nat → Nat} (h0 : ∀ i, i < 3 → ∃ c, GoodSym (.str c) ∧ r0 i = [.str c]) (h1 : ∀ i, i < 3 → GoodRow (r1 i) ∧ 2 ≤ (r1 i).length)
  (htr : ∀ i, i < 3 → ∀ b e, b < e → e ≤ subj.length → tr i b e = waysL subj tr (r0 i) b e + waysL subj tr (r1 i) b e) (hl : subj.length ≤ 5)
noncomputable def gOf (r0 r1 : Nat → List Sym) (nm : Str) : Option Pat := if nm = Str.ofString "S" then some (.alt (rowPat (r0 0)) (rowPat (r1 0))) else if nm = Str.ofString "T" then some (.alt (rowPat (r0 1)) (rowPat (r1 1))) else if nm = Str.ofString "U" then some (.alt (rowPat (r0 2)) (rowPat (r1 2))) else none
theorem gOf_stu : ∀ i, i < 3 → gOf r0 r1 (stu i) = some (.alt (rowPat (r0 i)) (rowPat (r1 i)))
  | 0, _ => by show gOf r0 r1 (Str.ofString "S") = _; unfold gOf; rw [if_pos rfl]
  | 1, _ => by show gOf r0 r1 (Str.ofString "T") = _; unfold gOf; rw [if_neg (by decide +kernel), if_pos rfl]
  | 2, _ => by show gOf r0 r1 (Str.ofString "U") = _; unfold gOf; rw [if_neg (by decide +kernel), if_neg (by decide +kernel), if_pos rfl]
  | i + 3, h => absurd h (by omega)
theorem gOf_I : gOf r0 r1 (Str.ofString "I") = none := by unfold gOf; rw [if_neg (by decide +kernel), if_neg (by decide +kernel), if_neg (by decide +kernel)]
theorem gOf_V : gOf r0 r1 (Str.ofString "V") = none := by unfold gOf; rw [if_neg (by decide +kernel), if_neg (by decide +kernel), if_neg (by decide +kernel)]
include h0 h1 htr in
theorem syms_all : ∀ b, b ≤ subj.length → AllSyms (gOf r0 r1) subj 99999 tr b := fun b hb => all_syms (lim := 99999) gOf_stu h0 h1 htr (subj.length - b) b rfl hb
include h0 h1 htr hl in
theorem tr_le {i b c : Nat} (hi : i < 3) (hb : b < c) (hc : c ≤ subj.length) : tr i b c ≤ 1000 := by
  obtain ⟨es, K, -, hB, -, hcnt, -⟩ := syms_all h0 h1 htr b (by omega) (.name i) hi
  have e : es.count c = tr i b c := hcnt c hb hc
  have h2 := List.count_le_length (a := c) (l := es)
  have h3 := bN_mono (j := subj.length - b) (k := 5) (by omega)
  have h4 : bN 5 = 677 := by decide
  omega
include h0 h1 htr hl in
theorem waysL_le {row : List Sym} {b e : Nat} (hg : ∀ s ∈ row, GoodSym s) (hl2 : row.length ≤ 2) (hb : b ≤ e) (he : e ≤ subj.length) : waysL subj tr row b e ≤ 1000000 := by
  by_cases hr : row = []
  · subst hr
    rw [waysL]
    split <;> omega
  · have hl1 : 1 ≤ row.length := by
      rcases row with _ | ⟨a, r⟩
      · exact absurd rfl hr
      · simp
    obtain ⟨es, K, -, hB, -, hcnt, -⟩ := tail_runs (b := b) (G := gOf r0 r1) (lim := 99999) (tr := tr) hg hl1 hl2 (by omega) fun e h1' h2' => syms_all h0 h1 htr e h2'
    rw [← hcnt e hb he]
    have h2 := List.count_le_length (a := e) (l := es)
    have h3 := bN_mono (j := subj.length - b) (k := 5) (by omega)
    have h4 : bN 5 = 677 := by decide
    have h5 := Nat.mul_le_mul h3 h3
    rw [h4] at h5
    omega
end table
end
section
open PyProof PyProof.V
set_option maxRecDepth 100000
/-! dicts by tuple keys: a walk over the keys, equality, a dict of a list of pairs -/
section dictx
open PySem.Builtin
variable {prog : Program} {w : World} {A : Around} {E : Value → Shared → Prop} {s : Shared}
theorem exact_type {d : Addr} {o : Obj} (ho : s.heap.get? d = some o) (hc : o.ExactDict) : s.TypeIs (.ref d) "dict" := ⟨o, ho, hc.1⟩
/-- the iterator over a dict's keys, whatever the keys are -/
theorem iter_keys {d : Addr} {o : Obj} {es : Array DictEntry} {ep : Nat} {Q : Value → Shared → Prop} (ho : s.heap.get? d = some o) (hc : o.ExactDict) (hd : o.data = .dict es ep) (lo : (d == sysModules) = false)
    (hQ : Q (.ref s.heap.objs.size) { s with heap := s.heap.push { cls := .type "dict_keyiterator", data := .fields #[.ref d, .int 0 0, .int es.size 0, .int ep 0] } }) :
    wpAny (model prog w) A (pyIter (.ref d)) Q E s := by
  have hT := exact_type ho hc
  refine wpAny_pyIter_slot hT F.slot_dict_iter (wpAny_call_entry F.slot_dict_iter hT F.entry_dict_iter ?_ (F.args_dict_iter_1 _))
  unfold Builtin.«dict.__iter__»
  refine wpAny_bind ?_
  unfold Builtin.Dict.dictSlotNone
  refine wpAny_bind (wpAny_notOrdered_dict hT ?_)
  show wpAny _ _ (pure (Value.ref d)) _ _ s
  refine wpAny_pure ?_
  show wpAny _ _ (Builtin.Dict.showsAll d >>= _) _ _ s
  unfold Builtin.Dict.showsAll
  rw [if_neg (by rw [lo]; exact Bool.false_ne_true)]
  refine wpAny_bind (wpAny_pure (wpAny_bind (wpAny_dictEntries ho hd (wpAny_bind (wpAny_dictEpoch ho hd ?_)))))
  refine wpAny_bind (wpAny_newObj_type (wpAny_pure ⟨_, rfl, "dict_keyiterator", _, ⟨_, Heap.get?_push_size _ rfl, rfl⟩, F.slot_dict_keyiterator_next.lookup, ?_⟩))
  simpa [rawInt] using hQ
theorem next_key {it d : Addr} {i ep : Nat} {o : Obj} {es : Array DictEntry} {Q : Option Value → Shared → Prop} (hit : s.heap.IsKeyIter it d i es.size ep) (hod : s.heap.get? d = some o) (hdd : o.data = .dict es ep) (hlt : i < es.size)
    (hQ : ∀ h', h'.IsKeyIter it d (i + 1) es.size ep → Heap.SameBut it s.heap h' → Q (some es[i].key) { s with heap := h' }) :
    wpAny (model prog w) A (pyNext (.ref it)) Q E s := by
  obtain ⟨oi, ho, hc, hd⟩ := id hit
  unfold pyNext
  refine wpAny_bind (wpAny_attempt (wpAny_callSpecial?_slot (name := Str.ofString "__next__") hit.typeIs F.slot_dict_keyiterator_next
    (wpAny_call_entry F.slot_dict_keyiterator_next hit.typeIs F.entry_dict_keyiterator_next ?_ (F.args_dict_keyiterator_next_1 _))))
  refine wpAny_bind (wpAny_pure (wpAny_bind (wpAny_bind ?_)))
  first | refine wpAny_bind (wpAny_typeNameOfWhole_keyiter hit.typeIs (wpAny_pure ?_)) | refine wpAny_bind (wpAny_typeNameOf_keyiter hit.typeIs (wpAny_pure ?_))
  refine wpAny_bind (wpAny_fieldsOf ho hd ?_)
  have hown : Builtin.Dict_items.ownsTuple "dict_keyiterator" = false := by decide
  simp only [hown, Bool.false_eq_true, if_false]
  show wpAny _ _ (if (Value.ref d == Value.none) = true then _ else _) _ _ s
  rw [if_neg (show ¬ ((Value.ref d == Value.none) = true) from Bool.false_ne_true)]
  refine wpAny_bind (wpAny_pure (wpAny_bind (wpAny_dictEntries hod hdd ?_)))
  rw [if_neg (by simp)]
  refine wpAny_bind (wpAny_pure (wpAny_bind (wpAny_dictEpoch hod hdd ?_)))
  rw [if_neg (by simp)]
  refine wpAny_pure ?_
  simp only [show ¬ ((i : Int) < 0) from by omega, if_false, Int.toNat_natCast, Array.getElem?_eq_getElem hlt]
  refine wpAny_bind ?_
  first | refine wpAny_bind (wpAny_typeNameOfWhole_keyiter hit.typeIs (wpAny_pure ?_)) | refine wpAny_bind (wpAny_typeNameOf_keyiter hit.typeIs (wpAny_pure ?_))
  refine wpAny_bind (wpAny_isOneOf_keyiter hit.typeIs ?_)
  show wpAny _ _ (setField (.ref it) 1 (rawInt ((i : Int) + 1)) >>= _) _ _ s
  refine wpAny_bind (wpAny_setField ho hd (by simp) ?_)
  have hit' : (s.heap.update it (Obj.mapFields (·.setIfInBounds 1 (rawInt ((i : Int) + 1))))).IsKeyIter it d (i + 1) es.size ep :=
    ⟨_, Heap.get?_update_self _ ho (Obj.isFreed_of_fields (Obj.data_mapFields hd _)), (Obj.cls_mapFields ..).trans hc, by rw [Obj.data_mapFields hd]; simp [rawInt]⟩
  refine wpAny_bind (wpAny_holding (wpAny_bind (wpAny_isOneOf_keyiter (s := { s with heap := s.heap.update it (Obj.mapFields (·.setIfInBounds 1 (rawInt ((i : Int) + 1)))) }) hit'.typeIs ?_)))
  show wpAny _ _ (pure es[i].key) _ _ _
  exact wpAny_pure (wpAny_pure ⟨_, rfl, wpAny_pure (hQ _ hit' (Heap.SameBut.update ..))⟩)
theorem next_end {it d : Addr} {ep : Nat} {o : Obj} {es : Array DictEntry} {Q : Option Value → Shared → Prop} (hh : A.handled = none) (hit : s.heap.IsKeyIter it d es.size es.size ep) (hod : s.heap.get? d = some o) (hdd : o.data = .dict es ep)
    (hQ : ∀ h', Heap.ExtBut it s.heap h' → Q none { s with heap := h' }) : wpAny (model prog w) A (pyNext (.ref it)) Q E s := by
  obtain ⟨oi, ho, hc, hd⟩ := id hit
  unfold pyNext
  refine wpAny_bind (wpAny_attempt (wpAny_callSpecial?_slot (name := Str.ofString "__next__") hit.typeIs F.slot_dict_keyiterator_next
    (wpAny_call_entry F.slot_dict_keyiterator_next hit.typeIs F.entry_dict_keyiterator_next ?_ (F.args_dict_keyiterator_next_1 _))))
  refine wpAny_bind (wpAny_pure (wpAny_bind (wpAny_bind ?_)))
  first | refine wpAny_bind (wpAny_typeNameOfWhole_keyiter hit.typeIs (wpAny_pure ?_)) | refine wpAny_bind (wpAny_typeNameOf_keyiter hit.typeIs (wpAny_pure ?_))
  refine wpAny_bind (wpAny_fieldsOf ho hd ?_)
  have hown : Builtin.Dict_items.ownsTuple "dict_keyiterator" = false := by decide
  simp only [hown, Bool.false_eq_true, if_false]
  show wpAny _ _ (if (Value.ref d == Value.none) = true then _ else _) _ _ s
  rw [if_neg (show ¬ ((Value.ref d == Value.none) = true) from Bool.false_ne_true)]
  refine wpAny_bind (wpAny_pure (wpAny_bind (wpAny_dictEntries hod hdd ?_)))
  rw [if_neg (by simp)]
  refine wpAny_bind (wpAny_pure (wpAny_bind (wpAny_dictEpoch hod hdd ?_)))
  rw [if_neg (by simp)]
  refine wpAny_pure ?_
  simp only [show ¬ ((es.size : Int) < 0) from by omega, if_false, Int.toNat_natCast, Array.getElem?_eq_none (Nat.le_refl _)]
  refine wpAny_bind ?_
  first | refine wpAny_bind (wpAny_typeNameOfWhole_keyiter hit.typeIs (wpAny_pure ?_)) | refine wpAny_bind (wpAny_typeNameOf_keyiter hit.typeIs (wpAny_pure ?_))
  show wpAny _ _ (setField (.ref it) 0 .none >>= _) _ _ s
  refine wpAny_bind (wpAny_setField ho hd (by simp) ?_)
  show wpAny _ _ (newExc (.type "StopIteration") [] >>= _) _ _ _
  refine wpAny_bind ?_
  simp only [newExc, newTuple]
  refine wpAny_bind (wpAny_newObj_type ?_ (by size_fits))
  refine wpAny_bind (m := firstArgMember _ _) (wpAny_of_eq (a := Value.none) (by first | rfl | (simp only [firstArgMember]; rfl)) ?_)
  refine wpAny_newObj_type ?_ (by size_fits)
  simp only [raiseNew]
  refine wpAny_bind (wpAny_handled ?_)
  rw [show A.in1.handled = none from hh]
  refine wpAny_bind (wpAny_pure (wpAny_throw ?_))
  refine wpAny_bind (wpAny_isInstance (T := "StopIteration") (b := true) ⟨_, Heap.get?_push_size _ rfl, rfl⟩ isSubtype_stop ?_)
  exact wpAny_pure (hQ _ (((Heap.SameBut.update ..).extBut.push _).push _))
theorem keys_walk (hh : A.handled = none) (I d : Addr) (hne : d ≠ I) (o : Obj) (es : Array DictEntry) (ep : Nat) (hdd : o.data = .dict es ep) :
    Walks prog w A I [I, d] [I] es.size (fun i v => ∃ e, es[i]? = some e ∧ v = e.key) (fun i h => h.IsKeyIter I d i es.size ep ∧ h.get? d = some o) where
  sub := fun b hb => by simp at hb; simp [hb]
  frame := fun _ _ _ st hk => ⟨st.1.at fun o e => hk I (by simp) o e, hk d (by simp) o st.2⟩
  item := fun i s Q E hi st hQ => next_key st.1 st.2 hdd hi fun h' hit' hs' =>
    hQ es[i].key h' s.toks ⟨es[i], Array.getElem?_eq_getElem hi, rfl⟩ ⟨hit', hs'.extBut d o hne st.2⟩ fun b o hb e => hs'.extBut b o (fun h => hb (by simp [h])) e
  done := fun s Q E st hQ => next_end hh st.1 st.2 hdd fun h' he' => hQ h' s.toks fun b o hb e => he' b o (fun h => hb (by simp [h])) e
  self := fun _ _ _ _ st hQ => wpAny_pyIter_keyiter st.1 hQ
/-- a list comprehension with one test over a dict's keys -/
theorem ListComp_TD {h₀ : Heap} {L : Addr} {m : Str → Option Value} {env : Env} {ct elt iter : PySem.Expr} {x : Str} {px : Pos} {scope : Scope} {cl : List (Str × Addr)} {pos : Pos} {Q : Value → Shared → Prop} (_F₀ : Fr h₀ L s.heap m)
    (hclos : closureFor scope env = pure cl) (hcell : ∀ y ∈ scope.names, y.2 ≠ .cell) (hkind : scope.kind = .function)
    (hnames : ∀ y ∈ scope.names, y.2 = .local → scope.names.lookup y.1 = some .local) (hx : scope.names.lookup x = some .local)
    (h : wpAny (model prog w) A (eval iter env) (fun xv s₁ => ∃ d o es ep news, xv = .ref d ∧ A.handled = none ∧ Fr h₀ L s₁.heap m ∧ News h₀ L s₁.heap news ∧ (d == sysModules) = false ∧ (d, o) ∈ news ∧ o.ExactDict ∧ o.data = .dict es ep ∧ es.size ≤ sizeLine ∧
      ∀ g, LCt.CompRestT prog w A h₀ L m env ct elt x scope cl { s₁ with heap := g } (fun nw => (d, o) ∈ nw) (fun i v => ∃ e, es[i]? = some e ∧ v = e.key) (LCg.FinE h₀ L m { s₁ with heap := g } Q) es.size 0 [] news) E s)
    (hs : ∀ x, foldedSetIterable iter env x = pure x := by intro _; rfl) :
    wpAny (model prog w) A (eval (.ListComp elt [⟨.Name x px, iter, [ct], 0⟩] scope pos) env) Q E s := by
  rw [eval_ListComp]
  refine wpAny_comprehension_free (use := none) rfl hs hclos hkind hnames (wpAny_mono h (fun xv s₁ h₁ => ?_) fun _ _ e => e)
  obtain ⟨d, o, es, ep, news, rfl, hh, F, N, lo, hm, hc, hd, hsz, R⟩ := h₁
  have hod : s₁.heap.get? d = some o := (N _ hm).1
  have hlt : d < s₁.heap.objs.size := Heap.lt_size hod
  refine iter_keys hod hc hd lo ?_
  have up : ∀ b o', s₁.heap.get? b = some o' → (s₁.heap.push { cls := .type "dict_keyiterator", data := .fields #[.ref d, .int 0 0, .int es.size 0, .int ep 0] }).get? b = some o' := fun b o' e => Heap.get?_push_of_some _ e
  refine LCt.block_T (keys_walk hh s₁.heap.objs.size d (Nat.ne_of_lt hlt) o es ep hd) hsz (fun i h st => by obtain ⟨o', e, _⟩ := st.1; exact ⟨o', e⟩) ?_ hcell hkind hx ⟨⟨_, Heap.get?_push_size _ rfl, rfl, rfl⟩, up _ _ hod⟩ (fun b hb => ?_)
    (F.keeps up) (N.grown up) (Nat.ne_of_lt F.ns.lt) (next_is_new F) (fun p hp => Nat.ne_of_lt (Heap.lt_size (N p hp).1)) hm (R _) ?_
  · intro i h h' o' nw st e e' _ N' S
    exact ⟨st.1.at fun o₂ e₂ => by rw [e] at e₂; cases e₂; exact e', (N' _ S).1⟩
  · show b < (s₁.heap.push _).objs.size
    rw [Heap.size_push]
    rcases List.mem_cons.mp hb with rfl | hb
    · exact Nat.lt_succ_self _
    · rw [List.mem_singleton.mp hb]; exact Nat.lt_succ_of_lt hlt
  · intro D C h tk m' ys news' F' N' o1 hn hC₀ hD₀ hCL hDL hCD offC fin
    refine ⟨m', hn, fun h'' hs'' => fin D h'' tk (F'.change hs'' hCL hC₀) (fun p hp => ?_) o1⟩
    refine ⟨hs''.extBut _ _ ?_ (N' p hp).1, (N' p hp).2⟩
    rcases List.mem_cons.mp hp with rfl | hp
    · exact Ne.symm hCD
    · exact offC p hp
/-- a list has no «keys» -/
theorem no_keys_list {a : Addr} {o : Obj} {xs : Array Value} {k : Nat} {Q : Option Value → Shared → Prop} (hx : s.heap.get? a = some o) (hc : o.cls = .type "list") (hdat : o.data = .seq xs k) (hd : o.dict = none) (hA : A.handled = none)
    (hQ : ∀ h' tk, (∀ b ob, s.heap.get? b = some ob → h'.get? b = some ob) → Q none { s with heap := h', toks := tk }) :
    wpAny (model prog w) A (getAttr? (.ref a) "keys") Q E s := by
  obtain ⟨c, dct, dat, sl⟩ := o
  simp only at hc hdat hd
  subst hc hdat hd
  obtain ⟨hp, g, d, tk, os⟩ := s
  have hT : ∀ tk', (⟨hp, g, d, tk', os⟩ : Shared).TypeIs (.ref a) "list" := fun _ => ⟨_, hx, rfl⟩
  have f1 := sub_AttributeError
  have f3 := F.slot_list_getattribute.lookup
  have f4 := F.slot_list_getattribute.bind (.ref a)
  have f5 := am_list_getattr_none
  have hmiss : typeLookup (.type "list") (Str.ofString "keys") = pure none := am_miss_of_fast (by kernel_rfl)
  unfold getAttr? getAttrBy? getAttrBy
  repeat (any_goals (first | assumption | exact hT _ | ((with_reducible show wpAny _ _ (call (Value.builtin "list.__getattribute__") _ _) _ _ _); refine call_meets F.slot_list_getattribute (hT _) am_entry_list_getattribute (F.args_list_getattribute_2 _ _) (meets_getattribute_miss_list a xs k sl _ _ hmiss (by decide +kernel) (by decide +kernel)) ⟨hx, hA, fun h' tk' e hx' => ?_⟩) | wp_step))
  obtain ⟨t', u', he⟩ := hx'.there
  show wpAny _ _ (getattributeRaised _ _ _ _ _ _ _) _ _ _
  unfold getattributeRaised
  repeat (any_goals (first | assumption | wp_step))
  exact hQ _ _ hx'.keeps
theorem plain_update_loop : plainId "dict.update.loop" = true := by decide +kernel
theorem entry_update_loop : entryFor table "dict.update.loop" = some Builtin.«dict.update.loop» := entryFor_of_fast (by kernel_rfl)
section pairs
variable {K : Type} [DecidableEq K] {knd : KeyKind prog w K}
noncomputable def storeAllH (ps : List (List K × Addr × Value)) (xs : List (List K × Addr × Value)) : List (List K × Addr × Value) := ps.foldl (fun xs x => storedH xs x.1 x.2.1 x.2.2) xs
noncomputable def PairAt (knd : KeyKind prog w K) (h : Heap) (v : Value) (x : List K × Addr × Value) : Prop := ∃ p o n, v = .ref p ∧ h.get? p = some o ∧ o.cls = .type "tuple" ∧ o.data = .seq #[.ref x.2.1, x.2.2] n ∧ IsTupleKey knd h x.1 x.2.1
noncomputable def KeptBut (I d : Addr) (h h' : Heap) : Prop := ∀ b o, b ≠ I → b ≠ d → h.get? b = some o → h'.get? b = some o
theorem PairAt.kept {I d : Addr} {h h' : Heap} {v : Value} {x : List K × Addr × Value} (hk : KeptBut I d h h') (hI : ∀ o, h.get? I = some o → o.cls ≠ .type "tuple") (hd : ∀ o, h.get? d = some o → o.cls ≠ .type "tuple") (p : PairAt knd h v x) : PairAt knd h' v x := by
  obtain ⟨p, o, n, e, ho, hc, hdat, o2, items, n2, ho2, hc2, hd2, hi⟩ := p
  have k1 : ∀ b o, h.get? b = some o → o.cls = .type "tuple" → h'.get? b = some o := fun b o e hc => hk b o (fun q => hI o (q ▸ e) hc) (fun q => hd o (q ▸ e) hc) e
  exact ⟨p, o, n, e, k1 _ _ ho hc, hc, hdat, o2, items, n2, k1 _ _ ho2 hc2, hc2, hd2, hi⟩
theorem storedH_len (xs : List (List K × Addr × Value)) (k : List K) (a : Addr) (v : Value) : (storedH xs k a v).length ≤ xs.length + 1 := by
  unfold storedH
  split <;> simp
theorem update_pairs {I l d : Addr} {vs : Array Value} {ps : List (List K × Addr × Value)} {H0 : Heap} (hh : A.handled = none) (hu : A.units + 1 < cLine) (hlI : l ≠ I) (hdI : d ≠ I) (hdl : d ≠ l)
    (hI0 : ∀ o, H0.get? I = some o → o.cls ≠ .type "tuple") (hd0 : ∀ o, H0.get? d = some o → o.cls ≠ .type "tuple")
    (hlen : vs.size = ps.length) (hps : ∀ (i : Nat) (v : Value), vs[i]? = some v → ∃ x, ps[i]? = some x ∧ PairAt knd H0 v x) {R : Result → Shared → Prop} :
    ∀ (k i : Nat) (s : Shared) (xs : List (List K × Addr × Value)) (z : Int) (t : Tok), vs.size - i = k → i ≤ vs.size → (s.heap.IsListIter I l i ∧ s.heap.IsList l vs) → s.heap.DictOfH (tupleKind knd) d xs → KeptBut I d H0 s.heap → xs.length + k ≤ sizeLine →
    (∀ h' tk, h'.DictOfH (tupleKind knd) d (storeAllH (ps.drop i) xs) → KeptBut I d H0 h' → R (.ok (.ret .none)) { s with heap := h', toks := tk }) →
    codeAny (model prog w) A (.builtin "dict.update.loop" ⟨[.ref d, .ref I, .int z t, .none], []⟩) R s := by
  have W := Walks.list (prog := prog) (w := w) (A := A.in1) hh I l hlI vs
  intro k
  induction k with
  | zero =>
    intro i s xs z t hk hi hst hD hK hsz hR
    have hin : i = vs.size := by omega
    subst hin
    refine codeAny_builtin entry_update_loop ?_
    rw [Around.under_plainId plain_update_loop _]
    show wpAny _ A.in1 (pyNext (.ref I) >>= _) _ _ s
    refine wpAny_bind (W.done s _ _ hst fun h' tk hk' => ?_)
    show wpAny _ _ (Builtin.Dict.addKeywords d [] >>= _) _ _ _
    refine wpAny_bind (wpAny_pure (wpAny_pure ?_))
    rw [hlen, List.drop_length] at hR
    obtain ⟨o, es, ep, ho, r⟩ := hD
    refine hR h' tk ⟨o, es, ep, hk' _ _ (by simpa using hdI) ho, r.1, r.2.1, r.2.2.1, fun x hx => ?_, r.2.2.2.2⟩ fun b o' h1 h2 e => hk' b o' (by simpa using h1) (hK b o' h1 h2 e)
    obtain ⟨o2, items, n2, ho2, hc2, hd2, hi2⟩ := r.2.2.2.1 x hx
    refine ⟨o2, items, n2, hk' _ _ ?_ ho2, hc2, hd2, hi2⟩
    rw [List.mem_singleton]
    intro q
    obtain ⟨oI, e1, e2, -⟩ := hst.1
    rw [← q, ho2] at e1
    cases e1
    rw [hc2] at e2
    exact absurd (Value.type.inj e2) (by decide)
  | succ k ih =>
    intro i s xs z t hk hi hst hD hK hsz hR
    have hlt : i < vs.size := by omega
    refine codeAny_builtin entry_update_loop ?_
    rw [Around.under_plainId plain_update_loop _]
    show wpAny _ A.in1 (pyNext (.ref I) >>= _) _ _ s
    refine wpAny_bind (W.item i s _ _ hlt hst fun v h' tk hP hst' hk' => ?_)
    obtain ⟨x, hx, hpair⟩ := hps i v hP
    have hK' : KeptBut I d H0 h' := fun b o' h1 h2 e => hk' b o' (by simpa using h1) (hK b o' h1 h2 e)
    have hpr := hpair.kept hK' hI0 hd0
    obtain ⟨p, op, n, rfl, hop, hcp, hdp, hkey⟩ := hpr
    have hD' : h'.DictOfH (tupleKind knd) d xs := by
      obtain ⟨o, es, ep, ho, r⟩ := hD
      refine ⟨o, es, ep, hk' _ _ (by simpa using hdI) ho, r.1, r.2.1, r.2.2.1, fun x hx => ?_, r.2.2.2.2⟩
      obtain ⟨o2, items, n2, ho2, hc2, hd2, hi2⟩ := r.2.2.2.1 x hx
      refine ⟨o2, items, n2, hk' _ _ ?_ ho2, hc2, hd2, hi2⟩
      rw [List.mem_singleton]
      intro q
      obtain ⟨oI, e1, e2, -⟩ := hst.1
      rw [← q, ho2] at e1
      cases e1
      rw [hc2] at e2
      exact absurd (Value.type.inj e2) (by decide)
    show wpAny _ A.in1 (holding [.ref p] _ >>= _) _ _ _
    refine wpAny_bind (wpAny_holding ?_)
    refine wpAny_bind (wpAny_tryCatch ?_)
    unfold Builtin.Dict.pairItems
    refine wpAny_bind (wpAny_typeOf (T := "tuple") ⟨op, hop, hcp⟩ ?_)
    rw [if_pos (by decide)]
    refine wpAny_bind (wpAny_seqItems hop hdp (wpAny_pure ?_))
    show wpAny _ _ (holding [.ref x.2.1, x.2.2] (dictSet d (.ref x.2.1) x.2.2)) _ _ _
    refine wpAny_holding (wpAny_dictSet_heap (hsz := by omega) (knd := tupleKind knd) (k := x.1) (tupleKind_room_in1 hu) hkey hD' fun h2 hD2 hs2 => ?_)
    refine wpAny_pure ⟨plainId_quiet plain_update_loop _, ?_⟩
    have hxl := storedH_len xs x.1 x.2.1 x.2.2
    refine ih (i + 1) _ (storedH xs x.1 x.2.1 x.2.2) _ _ (by omega) hlt ?_ hD2 ?_ (by omega) ?_
    · obtain ⟨⟨oI, e1, r1⟩, ⟨ol, e2, r2⟩⟩ := hst'
      exact ⟨⟨oI, hs2.extBut _ _ (Ne.symm hdI) e1, r1⟩, ⟨ol, hs2.extBut _ _ (Ne.symm hdl) e2, r2⟩⟩
    · exact fun b o' h1 h2 e => hs2.extBut _ _ h2 (hK' b o' h1 h2 e)
    · intro h3 tk3 hD3 hK3
      refine hR h3 tk3 ?_ hK3
      rw [show ps.drop i = x :: ps.drop (i + 1) by
        obtain ⟨hl, e⟩ := List.getElem?_eq_some_iff.mp hx
        rw [← e]
        exact List.drop_eq_getElem_cons hl]
      exact hD3
theorem call_dict_pairs {l : Addr} {ol : Obj} {vs : Array Value} {nl : Nat} {ps : List (List K × Addr × Value)} {Q : Value → Shared → Prop} (hh : A.handled = none) (hu : A.units + 10 < cLine) (hol : s.heap.get? l = some ol) (hcl : ol.cls = .type "list") (hdl : ol.data = .seq vs nl) (hdn : ol.dict = none)
    (hlen : vs.size = ps.length) (hsz : ps.length ≤ sizeLine) (hps : ∀ (i : Nat) (v : Value), vs[i]? = some v → ∃ x, ps[i]? = some x ∧ PairAt knd s.heap v x)
    (h : ∀ h' tk, h'.DictOfH (tupleKind knd) s.heap.objs.size (storeAllH ps []) → (∀ b o, s.heap.get? b = some o → h'.get? b = some o) → Q (.ref s.heap.objs.size) { s with heap := h', toks := tk }) :
    wpAny (model prog w) A (call (.type "dict") [.ref l]) Q E s := by
  refine callType_codes (Q₁ := fun obj s₁ => obj = .ref s.heap.objs.size ∧ s₁ = { s with heap := s.heap.push { cls := .type "dict", data := .dict #[] } }) F.kt_called_dict (F.kt_typeCall_dict_1 _) F.entry_dict_init (kt_code_dict_new _ ⟨rfl, rfl⟩) ?_
  rintro obj s₁ ⟨rfl, rfl⟩
  have hnew : (s.heap.push { cls := .type "dict", data := .dict #[] }).get? s.heap.objs.size = some { cls := .type "dict", data := .dict #[] } := Heap.get?_push_size _ rfl
  have hlt : l < s.heap.objs.size := Heap.lt_size hol
  have hol1 : (s.heap.push { cls := .type "dict", data := .dict #[] }).get? l = some ol := Heap.get?_push_of_some _ hol
  refine ⟨⟨_, hnew, rfl⟩, F.args_dict_init_2 _ _, ?_⟩
  unfold Builtin.«dict.__init__»
  refine wpAny_bind ?_
  unfold Builtin.Dict.selfAndRest
  refine wpAny_bind (wpAny_notOrdered_dict ⟨_, hnew, rfl⟩ ?_)
  show wpAny _ _ (pure (s.heap.objs.size, [Value.ref l])) _ _ _
  refine wpAny_pure ?_
  show wpAny _ _ (Builtin.Dict.updateFrom "dict.__init__" s.heap.objs.size (.ref l) [] .none) _ _ _
  unfold Builtin.Dict.updateFrom
  refine wpAny_bind (wpAny_typeOf (T := "list") ⟨_, hol1, hcl⟩ ?_)
  rw [if_pos (by decide)]
  refine wpAny_bind (no_keys_list hol1 hcl hdl hdn hh fun h2 tk2 hk2 => ?_)
  rw [if_pos (by rfl)]
  refine wpAny_bind (wpAny_rule ?_)
  have hol2 : h2.get? l = some ol := hk2 _ _ hol1
  have hnew2 := hk2 _ _ hnew
  refine wpAny_bind (wpAny_pyIter_list (items := vs) ⟨ol, hol2, hcl, nl, hdl⟩ ?_)
  refine wpAny_bind (wpAny_pure (wpAny_pure ⟨plainId_quiet plain_update_loop _, ?_⟩))
  have up : ∀ b o, h2.get? b = some o → (h2.push { cls := .type "list_iterator", data := .fields #[.ref l, .int 0 0] }).get? b = some o := fun b o e => Heap.get?_push_of_some _ e
  have hl2 : l < h2.objs.size := Heap.lt_size hol2
  have hd2 : s.heap.objs.size < h2.objs.size := Heap.lt_size hnew2
  have hI := Heap.get?_push_size (h := h2) (o := { cls := .type "list_iterator", data := .fields #[.ref l, .int 0 0] }) rfl
  have k0 : ∀ b o, s.heap.get? b = some o → (h2.push { cls := .type "list_iterator", data := .fields #[.ref l, .int 0 0] }).get? b = some o := fun b o e => up _ _ (hk2 _ _ (Heap.get?_push_of_some _ e))
  refine update_pairs (knd := knd) (A := A.in1) (I := h2.objs.size) (l := l) (d := s.heap.objs.size) (ps := ps) (H0 := h2.push { cls := .type "list_iterator", data := .fields #[.ref l, .int 0 0] }) hh (by show A.units + 1 + 1 < cLine; omega) (Nat.ne_of_lt hl2) (Nat.ne_of_lt hd2) (Nat.ne_of_gt hlt)
    ?_ ?_ hlen ?_ vs.size 0 _ [] 0 0 (Nat.sub_zero _) (Nat.zero_le _) ⟨⟨_, hI, rfl, rfl⟩, ⟨ol, up _ _ hol2, hcl, nl, hdl⟩⟩ ⟨_, #[], 0, up _ _ hnew2, ⟨rfl, rfl, rfl⟩, rfl, rfl, fun _ hx => (nomatch hx), List.nodup_nil⟩ (fun _ _ _ _ e => e) (by rw [List.length_nil]; omega) ?_
  · intro o e
    rw [hI] at e
    cases e
    intro q
    exact absurd (Value.type.inj q) (by decide)
  · intro o e
    rw [up _ _ hnew2] at e
    cases e
    intro q
    exact absurd (Value.type.inj q) (by decide)
  · intro i v hv
    obtain ⟨x, hx, p, o, n, e, ho, hc, hd, o2, items, n2, ho2, r⟩ := hps i v hv
    exact ⟨x, hx, p, o, n, e, k0 _ _ ho, hc, hd, o2, items, n2, k0 _ _ ho2, r⟩
  · intro h' tk hD hK
    refine ⟨rfl, h h' tk (by rw [List.drop_zero] at hD; exact hD) fun b o e => hK b o ?_ ?_ (k0 b o e)⟩
    · exact Nat.ne_of_lt (Nat.lt_trans (Heap.lt_size e) hd2)
    · exact Nat.ne_of_lt (Heap.lt_size e)
/-- two dicts by tuple keys that tell the same -/
theorem same_pairsH {nm : String} {a b : Addr} {xa xb : List (List K × Addr × Value)} {Q : Bool → Shared → Prop} (ha : (a == sysModules) = false) (hb : (b == sysModules) = false) (da : s.heap.DictOfH (tupleKind knd) a xa) (db : s.heap.DictOfH (tupleKind knd) b xb)
    (hu : A.units < cLine) (hlen : xa.length = xb.length) (hits : ∀ x ∈ xa, ∃ (j : Nat) (p : Addr × Value), xb[j]? = some (x.1, p) ∧ SeqAt.EqAt A s x.2.2 p.2 true) (h : Q true s) :
    wpAny (model prog w) A (Builtin.Dict.samePairs nm a b) Q E s := by
  obtain ⟨oa, es, ep, hoa, -, hda, hea, hia, -⟩ := da
  obtain ⟨ob, es', ep', hob, -, hdb, heb, hib, hnb⟩ := db
  have hla : es.size = xa.length := size_of_entries hea
  have hlb : es'.size = xb.length := size_of_entries heb
  unfold Builtin.Dict.samePairs Builtin.Dict.showsAll
  rw [if_neg (show ¬ (a == sysModules) = true by rw [ha]; exact Bool.false_ne_true), if_neg (show ¬ (b == sysModules) = true by rw [hb]; exact Bool.false_ne_true)]
  refine wpAny_bind (wpAny_pure (wpAny_bind (wpAny_pure (wpAny_bind (wpAny_dictEntries hoa hda ?_)))))
  dsimp only
  refine wpAny_bind (wpAny_dictEntries hob hdb ?_)
  rw [if_neg (by rw [hla, hlb, hlen]; simp)]
  refine wpAny_bind (wpAny_dictEpoch hoa hda (wpAny_bind ?_))
  rw [Std.Legacy.Range.forIn_eq_forIn_range']
  simp only [Std.Legacy.Range.size, Nat.sub_zero, Nat.add_sub_cancel, Nat.div_one]
  refine wpAny_forIn_list _ (fun rest q s' => s' = s ∧ q = (none, ()) ∧ ∃ i, rest = List.range' i (es.size - i) ∧ i ≤ es.size) _ ?_ ?_ _ _ ⟨rfl, rfl, 0, by simp, Nat.zero_le _⟩
  · rintro i rest q s' ⟨rfl, rfl, i', hr, hi⟩
    have hlt : i' < es.size := by
      rcases Nat.lt_or_ge i' es.size with h | h
      · exact h
      · rw [Nat.sub_eq_zero_of_le h] at hr; simp at hr
    rw [show es.size - i' = (es.size - (i' + 1)) + 1 by omega, List.range'_succ] at hr
    obtain ⟨rfl, hrest⟩ := List.cons.inj hr
    refine wpAny_bind (wpAny_dictEntries hoa hda ?_)
    have hlx : i < xa.length := by omega
    have he : es[i]? = some (entryOfKey (tupleKind knd) xa[i]) := by rw [entry_at hea i, List.getElem?_eq_getElem hlx]; rfl
    rw [he]
    obtain ⟨j, p, hj, heq⟩ := hits xa[i] (List.getElem_mem hlx)
    show wpAny _ _ (holding [.ref xa[i].2.1, xa[i].2.2] _ >>= _) _ _ _
    refine wpAny_bind (wpAny_holding (wpAny_bind ?_))
    refine wpAny_dictFind_heap (knd := tupleKind knd) hu (hia _ (List.getElem_mem hlx)) hob hdb heb hib hnb (fun hno => absurd hj (hno j p)) fun j' p' hj' => ?_
    obtain rfl : j' = j := idxH_unique hnb hj' hj
    rw [hj] at hj'
    cases hj'
    refine wpAny_bind (wpAny_dictEntries hob hdb ?_)
    have he' : es'[j']? = some (entryOfKey (tupleKind knd) (xa[i].1, p)) := by rw [entry_at heb j', hj]; rfl
    rw [he']
    refine wpAny_holding (heq prog w _ _ ?_)
    show wpAny _ _ (if (!true) = true then _ else _) _ _ _
    rw [if_neg (by decide)]
    refine wpAny_bind (wpAny_dictEpoch hoa hda ?_)
    rw [if_neg (by simp)]
    exact wpAny_pure ⟨rfl, rfl, i + 1, hrest, hlt⟩
  · rintro q s' ⟨rfl, rfl, i, hr, hi⟩
    exact wpAny_pure h
theorem eq_dictsH {a b : Addr} {xa xb : List (List K × Addr × Value)} {Q : Value → Shared → Prop} (ha : (a == sysModules) = false) (hb : (b == sysModules) = false) (da : s.heap.DictOfH (tupleKind knd) a xa) (db : s.heap.DictOfH (tupleKind knd) b xb)
    (hu : A.units + 1 < cLine) (hlen : xa.length = xb.length) (hits : ∀ x ∈ xa, ∃ (j : Nat) (p : Addr × Value), xb[j]? = some (x.1, p) ∧ SeqAt.EqAt A.in1 s x.2.2 p.2 true) (h : Q (.bool true) s) :
    wpAny (model prog w) A (compareOp .Eq (.ref a) (.ref b)) Q E s := by
  have ta : s.TypeIs (.ref a) "dict" := let ⟨o, _, _, ho, hc, _⟩ := da; ⟨o, ho, hc.1⟩
  have tb : s.TypeIs (.ref b) "dict" := let ⟨o, _, _, ho, hc, _⟩ := db; ⟨o, ho, hc.1⟩
  refine wpAny_richCompare_same_room (op := .Eq) ta tb PySem.F.slot_dict_eq (wpAny_call_entry PySem.F.slot_dict_eq ta PySem.F.entry_dict_eq ?_ (PySem.F.args_dict_eq_2 _ _)) (by omega)
  show wpAny _ _ (Builtin.Dict.dictSlotArgs "__eq__" ⟨[.ref a, .ref b], []⟩ >>= _) _ _ s
  refine wpAny_bind ?_
  unfold Builtin.Dict.dictSlotArgs
  refine wpAny_bind (wpAny_notOrdered_dict ta ?_)
  show wpAny _ _ (pure (Value.ref a, Value.ref b)) _ _ s
  refine wpAny_pure (wpAny_bind (wpAny_isInstance (T := "dict") tb PySem.F.sub_dict_dict ?_))
  simp only [Bool.not_true, Bool.false_eq_true, if_false]
  refine wpAny_bind (wpAny_pure (wpAny_bind (wpAny_pure (wpAny_bind (same_pairsH ha hb da db hu hlen hits ?_)))))
  refine wpAny_pure ⟨_, rfl, ?_, ?_⟩
  · exact fun x => nomatch x
  · simpa using h
end pairs
end dictx
/-! tables by tuples of ints, as lists of pairs -/
section tabs
noncomputable def encM (M : List (List Int × Int)) : List (PyData × PyData) := M.map fun p => (encTuple PyData.int p.1, .int p.2)
noncomputable def lookM (M : List (List Int × Int)) (k : List Int) : Option Int := (M.find? fun p => decide (p.1 = k)).map (·.2)
noncomputable def putM (M : List (List Int × Int)) (k : List Int) (v : Int) : List (List Int × Int) := if M.any (fun p => decide (p.1 = k)) then M.map (fun p => if p.1 = k then (p.1, v) else p) else M ++ [(k, v)]
theorem same_encI (a b : List Int) : same (encTuple PyData.int a) (encTuple PyData.int b) = decide (a = b) := same_encTuple same_int a b
theorem putD_encM (M : List (List Int × Int)) (k : List Int) (v : Int) : putD (encTuple PyData.int k) (.int v) (encM M) = encM (putM M k v) := by
  have e : ((encM M).any fun p => same p.1 (encTuple PyData.int k)) = M.any fun p => decide (p.1 = k) := by
    unfold encM
    rw [List.any_map]
    congr 1
    funext p
    exact same_encI _ _
  unfold putD putM
  rw [e]
  split
  · unfold encM
    rw [List.map_map, List.map_map]
    refine List.map_congr_left fun p _ => ?_
    simp only [Function.comp, same_encI]
    by_cases h : p.1 = k
    · simp [h]
    · simp [h]
  · unfold encM
    rw [List.map_append]
    rfl
theorem lookup_encM (M : List (List Int × Int)) (k : List Int) : lookup (encTuple PyData.int k) (encM M) = (lookM M k).map .int := by
  induction M with
  | nil => rfl
  | cons p M ih =>
    unfold encM lookM at ih ⊢
    rw [List.map_cons, List.find?_cons]
    by_cases h : p.1 = k
    · simp [PySem.Spec.lookup, same_encI, h]
    · have h' : ¬ k = p.1 := fun e => h e.symm
      simp only [h, decide_false]
      rw [← ih]
      simp [PySem.Spec.lookup, same_encI, h, h']
theorem find_map_put (M : List (List Int × Int)) (k k' : List Int) (v : Int) : ((M.map fun p => if p.1 = k then (p.1, v) else p).find? fun p => decide (p.1 = k')).map (·.2) = if k' = k then ((M.find? fun p => decide (p.1 = k)).map fun _ => v) else (M.find? fun p => decide (p.1 = k')).map (·.2) := by
  induction M with
  | nil => simp
  | cons p M ih =>
    rw [List.map_cons, List.find?_cons, List.find?_cons, List.find?_cons]
    by_cases h1 : p.1 = k
    · by_cases h2 : k' = k
      · subst h2
        simp [h1]
      · have h3 : ¬ k = k' := fun e => h2 e.symm
        simp only [h1, if_true, h3, decide_false, h2, if_false]
        rw [ih, if_neg h2]
    · simp only [h1, if_false, decide_false]
      by_cases h2 : p.1 = k'
      · have h3 : ¬ k' = k := fun e => h1 (h2.trans e)
        simp [h2, h3]
      · simp only [h2, decide_false]
        rw [ih]
theorem lookM_putM (M : List (List Int × Int)) (k k' : List Int) (v : Int) : lookM (putM M k v) k' = if k' = k then some v else lookM M k' := by
  unfold lookM putM
  split
  · next h =>
    rw [find_map_put]
    split
    · obtain ⟨p, hp, hk⟩ := List.any_eq_true.mp h
      cases hf : M.find? fun p => decide (p.1 = k) with
      | none => exact absurd (List.find?_eq_none.mp hf p hp) (by simpa using hk)
      | some q => rfl
    · rfl
  · next h =>
    rw [List.find?_append]
    cases hf : M.find? fun p => decide (p.1 = k') with
    | some q =>
      have hq := List.find?_some hf
      have hm := List.mem_of_find?_eq_some hf
      have : ¬ k' = k := fun e => h (List.any_eq_true.mpr ⟨q, hm, by rw [← e]; exact hq⟩)
      simp [this]
    | none =>
      by_cases h2 : k' = k
      · simp [h2]
      · have h3 : ¬ k = k' := fun e => h2 e.symm
        simp [h2, h3]
theorem nodup_le {α : Type} [DecidableEq α] : ∀ {l l' : List α}, l.Nodup → (∀ x ∈ l, x ∈ l') → l.length ≤ l'.length
  | [], _, _, _ => Nat.zero_le _
  | a :: l, l', hn, hs => by
    have ha := hs a (.head _)
    have hn' := List.nodup_cons.mp hn
    have ih := nodup_le (l := l) (l' := l'.erase a) hn'.2 fun x hx => (List.mem_erase_of_ne (fun e : x = a => hn'.1 (by rw [← e]; exact hx))).mpr (hs x (.tail _ hx))
    rw [List.length_erase_of_mem ha] at ih
    have := List.length_pos_of_mem ha
    rw [List.length_cons]
    omega
variable {prog : Program} {w : World} {A : Around} {E : Value → Shared → Prop} {s : Shared} {h₀ : Heap} {L : Addr} {m : Str → Option Value} {news : List (Addr × Obj)}
noncomputable def IntTab (prog : Program) (w : World) (news : List (Addr × Obj)) (d : Addr) (M : List (List Int × Int)) : Prop := TupTab (PySem.intKind prog w) PyData.int news d (encM M)
theorem IntTab.dict {d : Addr} {M : List (List Int × Int)} {h : Heap} (T : IntTab prog w news d M) (N : News h₀ L h news) : (d == sysModules) = false ∧ ∃ xs, h.DictOfH (tupleKind (PySem.intKind prog w)) d xs ∧ FlatPairs (encTuple PyData.int) (kvsOf xs) (encM M) := TupTab.at T N
theorem atKey_of_mem {K : Type} [DecidableEq K] {xs : List (K × Addr × Value)} (hn : (xs.map (·.1)).Nodup) {x : K × Addr × Value} (hx : x ∈ xs) : atKey xs x.1 = some x.2 := by
  induction xs with
  | nil => cases hx
  | cons y xs ih =>
    rw [List.map_cons, List.nodup_cons] at hn
    unfold atKey at ih ⊢
    rw [List.find?_cons]
    rcases List.mem_cons.mp hx with rfl | hx
    · simp
    · have : ¬ y.1 = x.1 := fun e => hn.1 (e ▸ List.mem_map.mpr ⟨x, hx, rfl⟩)
      simp only [this, decide_false]
      exact ih hn.2 hx
theorem flat_int_inv {v : Value} {n : Int} (h : Flat v (.int n)) : ∃ t, v = .int n t := h.int_inv
theorem eq_intTabs {a b : Addr} {Ma Mb : List (List Int × Int)} {Q : Value → Shared → Prop} (N : News h₀ L s.heap news) (Ta : IntTab prog w news a Ma) (Tb : IntTab prog w news b Mb) (hu : A.units + 1 < cLine) (heq : ∀ k, lookM Ma k = lookM Mb k) (h : Q (.bool true) s) :
    wpAny (model prog w) A (compareOp .Eq (.ref a) (.ref b)) Q E s := by
  obtain ⟨la, xa, da, fa⟩ := Ta.dict N
  obtain ⟨lb, xb, db, fb⟩ := Tb.dict N
  have hna : (xa.map (·.1)).Nodup := by obtain ⟨_, _, _, _, _, _, _, _, hn⟩ := da; exact hn
  have hnb : (xb.map (·.1)).Nodup := by obtain ⟨_, _, _, _, _, _, _, _, hn⟩ := db; exact hn
  have one : ∀ {xa xb : List (List Int × Addr × Value)} {Ma Mb : List (List Int × Int)}, (xa.map (·.1)).Nodup → FlatPairs (encTuple PyData.int) (kvsOf xa) (encM Ma) → FlatPairs (encTuple PyData.int) (kvsOf xb) (encM Mb) → (∀ k, lookM Ma k = lookM Mb k) →
      ∀ x ∈ xa, ∃ n t t' p, x.2.2 = .int n t ∧ atKey xb x.1 = some p ∧ p.2 = .int n t' := by
    intro xa xb Ma Mb hna fa fb heq x hx
    have h1 : valueAt (kvsOf xa) x.1 = some x.2.2 := by rw [valueAt_kvsOf, atKey_of_mem hna hx]; rfl
    obtain ⟨dv, h2, h3⟩ := fa.there same_encI h1
    rw [lookup_encM] at h2
    obtain ⟨n, h4, rfl⟩ := Option.map_eq_some_iff.mp h2
    obtain ⟨t, ht⟩ := flat_int_inv h3
    have h5 : lookup (encTuple PyData.int x.1) (encM Mb) = some (.int n) := by rw [lookup_encM, ← heq, h4]; rfl
    obtain ⟨v, h6, h7⟩ := fb.of_lookup same_encI h5
    obtain ⟨t', ht'⟩ := flat_int_inv h7
    rw [valueAt_kvsOf] at h6
    obtain ⟨p, h8, h9⟩ := Option.map_eq_some_iff.mp h6
    exact ⟨n, t, t', p, ht, h8, h9.trans ht'⟩
  have idx : ∀ {xb : List (List Int × Addr × Value)} {k : List Int} {p : Addr × Value}, atKey xb k = some p → ∃ j : Nat, xb[j]? = some (k, p) := by
    intro xb k p hp
    unfold atKey at hp
    obtain ⟨y, hy, e⟩ := Option.map_eq_some_iff.mp hp
    have h1 := List.find?_some hy
    obtain ⟨j, hj⟩ := List.mem_iff_getElem?.mp (List.mem_of_find?_eq_some hy)
    refine ⟨j, hj.trans (congrArg some ?_)⟩
    have h2 : y.1 = k := by simpa using h1
    exact Prod.ext h2 e
  have sub : ∀ {xa xb : List (List Int × Addr × Value)}, (∀ x ∈ xa, ∃ n t t' p, x.2.2 = Value.int n t ∧ atKey xb x.1 = some p ∧ p.2 = Value.int n t') → ∀ k ∈ xa.map (·.1), k ∈ xb.map (·.1) := by
    intro xa xb h k hk
    obtain ⟨x, hx, rfl⟩ := List.mem_map.mp hk
    obtain ⟨n, t, t', p, -, h2, -⟩ := h x hx
    obtain ⟨j, hj⟩ := idx h2
    exact List.mem_map.mpr ⟨_, List.mem_of_getElem? hj, rfl⟩
  have ab := one hna fa fb heq
  have ba := one hnb fb fa fun k => (heq k).symm
  have l1 := nodup_le hna (sub ab)
  have l2 := nodup_le hnb (sub ba)
  rw [List.length_map, List.length_map] at l1 l2
  refine eq_dictsH la lb da db hu (Nat.le_antisymm l1 l2) (fun x hx => ?_) h
  obtain ⟨n, t, t', p, h1, h2, h3⟩ := ab x hx
  obtain ⟨j, hj⟩ := idx h2
  refine ⟨j, p, hj, ?_⟩
  rw [h1, h3]
  have q := SeqAt.EqAt.int_int (A := A.in1) (s := s) n t n t'
  simpa using q
/-- a pair of a comprehension: a key's tuple, and a number -/
noncomputable def PairIn (prog : Program) (w : World) (news : List (Addr × Obj)) (v : Value) (x : List Int × Int) : Prop := ∃ (p a : Addr) (ok : Obj) (t : Tok), v = .ref p ∧ (p, tupObj [.ref a, .int x.2 t]) ∈ news ∧ (a, ok) ∈ news ∧ TupKeyObj (PySem.intKind prog w) x.1 ok
theorem PairIn.mono {news' : List (Addr × Obj)} {v : Value} {x : List Int × Int} (hs : ∀ p ∈ news, p ∈ news') (h : PairIn prog w news v x) : PairIn prog w news' v x := by
  obtain ⟨p, a, ok, t, e, h1, h2, h3⟩ := h
  exact ⟨p, a, ok, t, e, hs _ h1, hs _ h2, h3⟩
noncomputable def tabOf (ps : List (List Int × Int)) : List (List Int × Int) := ps.foldl (fun M x => putM M x.1 x.2) []
theorem dict_of_pairs {l : Addr} {vs : List Value} {nl : Nat} {ps : List (List Int × Int)} {Q : Value → Shared → Prop} (hh : A.handled = none) (hu : A.units + 10 < cLine) (F : Fr h₀ L s.heap m) (N : News h₀ L s.heap news) (hbig : sysModules < h₀.objs.size)
    (hm : (l, listOf vs.toArray nl) ∈ news) (hps : All2 (PairIn prog w news) vs ps) (hsz : ps.length ≤ sizeLine)
    (h : ∀ h' tk o, Fr h₀ L h' m → News h₀ L h' ((s.heap.objs.size, o) :: news) → IntTab prog w ((s.heap.objs.size, o) :: news) s.heap.objs.size (tabOf ps) → (∀ p ∈ news, p.1 ≠ s.heap.objs.size) → Q (.ref s.heap.objs.size) { s with heap := h', toks := tk }) :
    wpAny (model prog w) A (call (.type "dict") [.ref l]) Q E s := by
  have hx : ∃ xs : List (List Int × Addr × Value), vs.length = xs.length ∧ (∀ (i : Nat) (v : Value), vs[i]? = some v → ∃ x, xs[i]? = some x ∧ PairAt (PySem.intKind prog w) s.heap v x) ∧ (∀ x ∈ xs, ∃ ok, (x.2.1, ok) ∈ news ∧ TupKeyObj (PySem.intKind prog w) x.1 ok) ∧
      (∀ (ys : List (List Int × Addr × Value)) (M : List (List Int × Int)), FlatPairs (encTuple PyData.int) (kvsOf ys) (encM M) → FlatPairs (encTuple PyData.int) (kvsOf (storeAllH xs ys)) (encM (ps.foldl (fun M x => putM M x.1 x.2) M))) := by
    clear hm hsz h
    induction hps with
    | nil => exact ⟨[], rfl, fun i v e => by simp at e, fun _ h => (nomatch h), fun _ _ h => h⟩
    | @cons v x vs ps hv _ ih =>
      obtain ⟨xs, h1, h2, h3, h4⟩ := ih
      obtain ⟨p, a, ok, t, rfl, h5, h6, h7⟩ := hv
      refine ⟨(x.1, a, .int x.2 t) :: xs, by simp [h1], ?_, List.forall_mem_cons.mpr ⟨⟨ok, h6, h7⟩, h3⟩, ?_⟩
      · intro i v hi
        cases i with
        | zero => cases hi; exact ⟨_, rfl, p, _, _, rfl, (N _ h5).1, rfl, rfl, h7.key (N _ h6).1⟩
        | succ i => exact h2 i v (by simpa using hi)
      · intro ys M hf
        refine h4 _ _ ?_
        have q := hf.stored same_encI x.1 (Flat.int x.2 t)
        rw [putD_encM] at q
        rw [kvsOf_storedH]
        exact q
  obtain ⟨xs, h1, h2, h3, h4⟩ := hx
  have hlen : vs.length = ps.length := all2_length hps
  refine call_dict_pairs (knd := PySem.intKind prog w) (ps := xs) hh hu (N _ hm).1 rfl rfl rfl (by simpa using h1) (by omega) (fun i v hi => h2 i v (by simpa using hi)) fun h' tk hD hk => ?_
  obtain ⟨o, es, ep, ho, hc, hd, he, hi, hn⟩ := hD
  have off : ∀ p ∈ news, p.1 ≠ s.heap.objs.size := fun p hp => Nat.ne_of_lt (Heap.lt_size (N p hp).1)
  have hL : s.heap.objs.size ≠ L := Ne.symm (Nat.ne_of_lt F.ns.lt)
  have h0 : h₀.get? s.heap.objs.size = none := next_is_new F
  refine h h' tk o (F.keeps hk) (fun p hp => ?_) ⟨F.notModules hbig, o, es, ep, storeAllH xs [], .head _, hc, hd, he, hn, fun x hx => ?_, h4 [] [] .nil⟩ off
  · rcases List.mem_cons.mp hp with rfl | hp
    · exact ⟨ho, hL, h0⟩
    · exact ⟨hk _ _ (N p hp).1, (N p hp).2⟩
  · have key : ∀ (xs ys : List (List Int × Addr × Value)), (∀ x ∈ xs, ∃ ok, (x.2.1, ok) ∈ news ∧ TupKeyObj (PySem.intKind prog w) x.1 ok) → (∀ x ∈ ys, ∃ ok, (x.2.1, ok) ∈ news ∧ TupKeyObj (PySem.intKind prog w) x.1 ok) → ∀ x ∈ storeAllH xs ys, ∃ ok, (x.2.1, ok) ∈ news ∧ TupKeyObj (PySem.intKind prog w) x.1 ok := by
      intro xs
      induction xs with
      | nil => intro ys _ hy x hx; exact hy x hx
      | cons z xs ih =>
        intro ys hz hy
        refine ih (storedH ys z.1 z.2.1 z.2.2) (fun x hx => hz x (.tail _ hx)) fun x hx => ?_
        rcases mem_storedH hx with ⟨y, hy', e1, e2⟩ | ⟨e1, e2⟩
        · rw [e1, e2]; exact hy y hy'
        · rw [e1, e2]; exact hz z (.head _)
    obtain ⟨ok, h5, h6⟩ := key xs [] h3 (fun _ h => (nomatch h)) x hx
    exact ⟨ok, .tail _ h5, h6⟩
end tabs
/-! a loop over a range whose name is any name (a cell, too) -/
section cellfor
variable {prog : Program} {w : World} {A : Around} {E : Value → Shared → Prop} {s : Shared} {env : Env} {h₀ : Heap} {body : List Stmt} {Q : Flow → Shared → Prop}
noncomputable def rangeItms (a : Int) (i k : Nat) : List Itm := (List.range' i k).map fun j => .tok fun t => .int (a + ((j : Nat) : Int)) t
theorem iter_rangeTurns {x : Str} {px : Pos} {r : Addr} {a b : Int} {t u v : Tok} {n : Nat} {m₀ : Str → Option Value} {news : List (Addr × Obj)} (hh : A.handled = none) (F : Fr h₀ env.locals s.heap m₀) (N : News h₀ env.locals s.heap news)
    (hr : IsRange s.heap r a b 1 t u v) (hsmall : Builtin.Range.small a b 1 = true) (hn : Builtin.Range.rangeSize a b 1 = (n : Int))
    (rest₀ : ∀ I : Addr, (∀ p ∈ news, p.1 < I) → ItemsRest prog w A E h₀ env (.Name x px) body Q s [(I, "range_iterator")] [] (rangeItms a 0 n) m₀ news) :
    wpAny (model prog w) A (pyIter (.ref r)) (fun it s₂ => TurnsAt prog w A h₀ env (.Name x px) body Q E it s₂) E s := by
  refine wpAny_pyIter_range hr hsmall ?_
  refine ktu_core (tk0 := s.toks) (keep := []) (KTurns.ofWalks (Walks.range hh s.heap.objs.size a 1 n).bound fun i v s Q E st q => wpAny_pure q) (by simp [rangeItms]) (fun i v h hp => ?_) (fun i h st => ?_) (fun b hb => ?_) (fun b hb => by simpa using hb) (fun b hb => .inl (by simpa using hb)) ?_ (fun p hp hI => ?_) ?_ (F.push _) (fun p hp => ⟨Heap.get?_push_of_some _ (N p hp).1, (N p hp).2⟩) trivial (rest₀ _ fun p hp => Heap.lt_size (N p hp).1)
  · obtain ⟨hi, t', rfl⟩ := hp
    refine ⟨.tok fun t => .int (a + ((i : Nat) : Int)) t, ?_, t', by rw [Int.mul_one]⟩
    unfold rangeItms
    rw [List.getElem?_map, List.getElem?_range' hi]
    simp
  · have st' : h.get? s.heap.objs.size = some _ := st
    exact ⟨[(s.heap.objs.size, _)], ⟨⟨rfl, rfl⟩, trivial⟩, fun p hp => by rw [List.mem_singleton.mp hp]; exact st'⟩
  · have hb' : b = s.heap.objs.size := by simpa using hb
    rw [hb']
    exact ⟨List.mem_cons_self .., next_is_new F⟩
  · intro hI
    rw [List.mem_singleton] at hI
    exact absurd F.ns.lt (hI ▸ Nat.lt_irrefl _)
  · exact absurd (Heap.lt_size (N p hp).1) ((List.mem_singleton.mp hI) ▸ Nat.lt_irrefl _)
  · show IsRangeIter _ _ _ _ _
    rw [hn]
    simpa using Heap.get?_push_size _ rfl
theorem ItemsRest.invR {target : PySem.Expr} {I : Addr} {a : Int} {n : Nat} {m₀ : Str → Option Value} {news : List (Addr × Obj)} (J : (Str → Option Value) → Nat → (Str → Option Value) → List (Addr × Obj) → Prop)
    (turn : ∀ i t m nw o h tk, i < n → J m₀ i m nw → o.cls = .type "range_iterator" → Fr h₀ env.locals h m → News h₀ env.locals h ((I, o) :: nw) →
      wpAny (model prog w) A (assign target env (.int (a + ((i : Nat) : Int)) t)) (fun _ s₂ => wpAny (model prog w) A (execs body env) (UnrPostW h₀ env.locals { s with heap := h, toks := tk } [(I, o)] (fun m' n' => SubL [] n' ∧ J m₀ (i + 1) m' n') Q) E s₂) E { s with heap := h, toks := tk })
    (fin : ∀ m nw h tk, J m₀ n m nw → Fr h₀ env.locals h m → News h₀ env.locals h nw → Q .next { s with heap := h, toks := tk }) (start : J m₀ 0 m₀ news) :
    ItemsRest prog w A E h₀ env target body Q s [(I, "range_iterator")] [] (rangeItms a 0 n) m₀ news := by
  have key : ∀ k i m nw, i + k = n → J m₀ i m nw → ItemsRest prog w A E h₀ env target body Q s [(I, "range_iterator")] [] (rangeItms a i k) m nw := by
    intro k
    induction k with
    | zero =>
      intro i m nw e j h tk F N
      exact fin m nw h tk (by rw [← e]; exact j) F N
    | succ k ih =>
      intro i m nw e j
      unfold rangeItms
      rw [List.range'_succ, List.map_cons]
      refine ItemsRest.tok fun t h tk F => AllObj.cons fun o ho => AllObj.nil fun N => ?_
      refine wpAny_mono (turn i t m nw o h tk (by omega) j ho F N) (fun _ s₂ z => wpAny_mono z (fun f s' z => ?_) fun _ _ z => z) fun _ _ z => z
      have up : UnrEndW h₀ env.locals { s with heap := h, toks := tk } [(I, o)] (fun m' n' => SubL [] n' ∧ J m₀ (i + 1) m' n') s' → UnrEndW h₀ env.locals { s with heap := h, toks := tk } [(I, o)] (fun m' n' => SubL [] n' ∧ ItemsRest prog w A E h₀ env target body Q s [(I, "range_iterator")] [] (rangeItms a (i + 1) k) m' n') s' := by
        rintro ⟨h', tk, m', nw', a1, a2, a3, a4, a5, a6⟩
        exact ⟨h', tk, m', nw', a1, a2, a3, a4, a5, ih (i + 1) m' nw' (by omega) a6⟩
      cases f with
      | ret v => exact z
      | brk => exact z
      | next => exact up z
      | cont => exact up z
  exact key n 0 m₀ news (Nat.zero_add n) start
end cellfor
/-! a comprehension over a tuple, bound to a name -/
section comptup
open LCg
variable {prog : Program} {w : World} {A : Around} {E : Value → Shared → Prop} {s : Shared} {h₀ : Heap} {L : Addr} {m : Str → Option Value} {env : Env}
noncomputable def TupSrc (prog : Program) (w : World) (A : Around) (h₀ : Heap) (L : Addr) (m : Str → Option Value) (env : Env) (elt : PySem.Expr) (x : Str) (scope : Scope) (cl : List (Str × Addr)) (y : Str) (Q : Flow → Shared → Prop) (xv : Value) (s₁ : Shared) : Prop :=
  ∃ ax o its n news, xv = .ref ax ∧ Fr h₀ L s₁.heap m ∧ News h₀ L s₁.heap news ∧ (ax, o) ∈ news ∧ o.cls = .type "tuple" ∧ o.data = .seq its n ∧ its.size ≤ sizeLine ∧
    ∀ g, CompRest prog w A h₀ L m env elt x scope cl { s₁ with heap := g } (fun nw => (ax, o) ∈ nw) (fun i v => its[i]? = some v) (FinA h₀ L m { s₁ with heap := g } y Q) its.size 0 [] news
theorem Assign_ListComp_Tup {elt iter : PySem.Expr} {x y : Str} {px py : Pos} {scope : Scope} {cl : List (Str × Addr)} {pos spos : Pos} {Q : Flow → Shared → Prop} (_F₀ : Fr h₀ L s.heap m) (hh : A.handled = none) (hLe : env.locals = L)
    (hsw : swapsWith (.ListComp elt [⟨.Name x px, iter, [], 0⟩] scope pos) (some (.Name y py)) spos.line env = pure true)
    (hclos : closureFor scope env = pure cl) (hcell : ∀ z ∈ scope.names, z.2 ≠ .cell) (hkind : scope.kind = .function)
    (hnames : ∀ z ∈ scope.names, z.2 = .local → scope.names.lookup z.1 = some .local) (hx : scope.names.lookup x = some .local)
    (hy : env.kindOf y = some .local) (hp : (env.scope.kind == .class || (env.scope.kind == .module && env.locals != env.globals)) = false)
    (h : wpAny (model prog w) A (eval iter env) (TupSrc prog w A h₀ L m env elt x scope cl y Q) E s)
    (hs : ∀ x, foldedSetIterable iter env x = pure x := by intro _; rfl) :
    wpAny (model prog w) A (exec (.Assign [.Name y py] (.ListComp elt [⟨.Name x px, iter, [], 0⟩] scope pos) spos) env) Q E s := by
  subst hLe
  rw [exec_Assign_Name_used _ _ _ _ hsw]
  refine wpAny_bind (wpAny_standAt (wpAny_bind ?_))
  show wpAny _ A (do let _ ← comprehension (.ListComp elt [⟨.Name x px, iter, [], 0⟩] scope pos) scope env _ (newList []) false (eval iter env) (some (assign (.Name y py) env))) _ _ s
  refine wpAny_bind (wpAny_mono (wpAny_comprehension_free (use := some (assign (.Name y py) env)) (Q := fun _ s' => Q .next s') rfl hs hclos hkind hnames
    (wpAny_mono h (fun xv s₁ h₁ => ?_) fun _ _ e => e)) (fun _ s' hq => wpAny_pure (wpAny_pure hq)) fun _ _ e => e)
  obtain ⟨ax, o, its, n, news, rfl, F, N, hm, hc, hd, hsz, R⟩ := h₁
  have ho := (N _ hm).1
  have hl : s₁.heap.IsTuple ax its := ⟨o, ho, hc, n, hd⟩
  have hlt : ax < s₁.heap.objs.size := Heap.lt_size ho
  refine wpAny_pyIter_tuple hl ?_
  have W := Walks.tuple (prog := prog) (w := w) hh s₁.heap.objs.size ax (Nat.ne_of_lt hlt) its
  refine block_U W hsz (fun i h st => by obtain ⟨o', e, _⟩ := st.1; exact ⟨o', e⟩) (fun i h h' o₂ nw st e e' _ N' S => ?_) hcell hkind hx ⟨⟨_, Heap.get?_push_size _ rfl, rfl, rfl⟩, hl.at fun o e => Heap.get?_push_of_some _ e⟩ (fun b hb => ?_)
    (F.push _) (fun p hp => ⟨Heap.get?_push_of_some _ (N p hp).1, (N p hp).2⟩) (Nat.ne_of_lt F.ns.lt) (next_is_new F) (fun p hp => Nat.ne_of_lt (Heap.lt_size (N p hp).1)) hm (R _) ?_
  · refine ⟨?_, ⟨o, (N' _ S).1, hc, n, hd⟩⟩
    obtain ⟨o', q, r⟩ := st.1
    rw [e] at q
    cases q
    exact ⟨_, e', r⟩
  · show b < (s₁.heap.push _).objs.size
    rw [Heap.size_push]
    rcases List.mem_cons.mp hb with rfl | hb
    · exact Nat.lt_succ_self _
    · rw [List.mem_singleton.mp hb]; exact Nat.lt_succ_of_lt hlt
  intro D C h tk m' ys news' F' N' o1 hn hC0 hD0 hCL hDL hCD offC fin
  show wpAny _ A (assign (.Name y py) env (.ref D)) _ _ _
  refine wpAny_assign_Name (wpAny_storeName_local hy F'.ns (fun h2 hn2 hs2 => ?_) hp)
  have F2 := F'.set hn2 hs2
  refine ⟨m', hn.sameBut hs2 hCL, fun h3 hs3 => fin D h3 _ (F2.change hs3 hCL hC0) (fun p hp => ?_) o1⟩
  have q : h2.get? p.1 = some p.2 := hs2.extBut _ _ (N' p hp).2.1 (N' p hp).1
  refine ⟨hs3.extBut _ _ ?_ q, (N' p hp).2⟩
  rcases List.mem_cons.mp hp with rfl | hp
  · exact Ne.symm hCD
  · exact offC p hp
end comptup
end
section
open PyProof
/-! the table of all spans while it is filled -/
section spans
noncomputable def key3 (i b e : Nat) : List Int := [(i : Int), (b : Int), (e : Int)]
theorem key3_inj {i b e i' b' e' : Nat} (h : key3 i b e = key3 i' b' e') : i = i' ∧ b = b' ∧ e = e' := by
  unfold key3 at h
  injection h with h1 h2
  injection h2 with h2 h3
  injection h3 with h3 _
  exact ⟨Int.ofNat.inj h1, Int.ofNat.inj h2, Int.ofNat.inj h3⟩
noncomputable def Done (n l b i i' b' e' : Nat) : Prop := i' < 3 ∧ b' < e' ∧ e' ≤ n ∧ (e' < b' + l ∨ (e' = b' + l ∧ (b' < b ∨ (b' = b ∧ i' < i))))
theorem Done.less {n l b i i' b' e' : Nat} (h : Done n l b (i + 1) i' b' e') (hn : i' = i → b' = b → e' = b + l → False) : Done n l b i i' b' e' :=
  ⟨h.1, h.2.1, h.2.2.1, h.2.2.2.imp id fun q => ⟨q.1, q.2.imp id fun r => ⟨r.1, (Nat.lt_or_eq_of_le (Nat.le_of_lt_succ r.2)).elim id fun e => (hn e r.1 (q.1.trans (by rw [r.1]))).elim⟩⟩⟩
theorem Done.more {n l b i i' b' e' : Nat} (h : Done n l b i i' b' e') : Done n l b (i + 1) i' b' e' :=
  ⟨h.1, h.2.1, h.2.2.1, h.2.2.2.imp id fun q => ⟨q.1, q.2.imp id fun r => ⟨r.1, Nat.lt_succ_of_lt r.2⟩⟩⟩
/-- what the table tells when the spans shorter than «l» are done, and of those of length «l» the ones before «b», and at «b» the names before «i» -/
noncomputable def Told (M : List (List Int × Int)) (tr : Nat → Nat → Nat → Nat) (n l b i : Nat) : Prop :=
  (∀ i' b' e', Done n l b i i' b' e' → lookM M (key3 i' b' e') = some ((tr i' b' e' : Nat) : Int)) ∧
  (∀ k v, lookM M k = some v → ∃ i' b' e', Done n l b i i' b' e' ∧ k = key3 i' b' e') ∧ M.length ≤ 18 * (l - 1) + 3 * b + i
theorem Told.congr {M : List (List Int × Int)} {tr : Nat → Nat → Nat → Nat} {n l b i l2 b2 i2 : Nat} (h : Told M tr n l b i) (hd : ∀ i' b' e', Done n l b i i' b' e' ↔ Done n l2 b2 i2 i' b' e') (hl : 18 * (l - 1) + 3 * b + i ≤ 18 * (l2 - 1) + 3 * b2 + i2) : Told M tr n l2 b2 i2 :=
  ⟨fun i' b' e' q => h.1 i' b' e' ((hd _ _ _).mpr q), fun k v q => let ⟨i', b', e', a, c⟩ := h.2.1 k v q; ⟨i', b', e', (hd _ _ _).mp a, c⟩, Nat.le_trans h.2.2 hl⟩
theorem Told.start {tr : Nat → Nat → Nat → Nat} {n : Nat} : Told [] tr n 1 0 0 :=
  ⟨fun i' b' e' h => h.2.2.2.elim (fun q => absurd h.2.1 (Nat.not_lt_of_le (Nat.le_of_lt_succ q))) fun q => q.2.elim (fun q => absurd q (Nat.not_lt_zero _)) fun q => absurd q.2 (Nat.not_lt_zero _), fun k v h => (by cases h), Nat.zero_le _⟩
theorem putM_length (M : List (List Int × Int)) (k : List Int) (v : Int) : (putM M k v).length ≤ M.length + 1 := by
  unfold putM
  split <;> simp
theorem Told.put {M : List (List Int × Int)} {tr : Nat → Nat → Nat → Nat} {n l b i : Nat} (h : Told M tr n l b i) (hi : i < 3) (hl : 0 < l) (hb : b + l ≤ n) : Told (putM M (key3 i b (b + l)) ((tr i b (b + l) : Nat) : Int)) tr n l b (i + 1) := by
  refine ⟨fun i' b' e' hd => ?_, fun k v hk => ?_, ?_⟩
  · rw [lookM_putM]
    by_cases e : key3 i' b' e' = key3 i b (b + l)
    · obtain ⟨rfl, rfl, rfl⟩ := key3_inj e
      rw [if_pos rfl]
    · rw [if_neg e]
      exact h.1 i' b' e' (hd.less fun a c d => e (by rw [a, c, d]))
  · rw [lookM_putM] at hk
    by_cases e : k = key3 i b (b + l)
    · exact ⟨i, b, b + l, ⟨hi, Nat.lt_add_of_pos_right hl, hb, .inr ⟨rfl, .inr ⟨rfl, Nat.lt_succ_self _⟩⟩⟩, e⟩
    · rw [if_neg e] at hk
      obtain ⟨i', b', e', hd, he⟩ := h.2.1 k v hk
      exact ⟨i', b', e', hd.more, he⟩
  · exact Nat.le_trans (putM_length M _ _) (Nat.succ_le_succ h.2.2)
theorem Told.next {M : List (List Int × Int)} {tr : Nat → Nat → Nat → Nat} {n l b : Nat} (h : Told M tr n l b 3) : Told M tr n l (b + 1) 0 :=
  h.congr (fun i' b' e' => and_congr_right fun hi => and_congr_right fun _ => and_congr_right fun _ => or_congr_right (and_congr_right fun _ => ⟨fun q => q.elim (fun q => .inl (Nat.lt_succ_of_lt q)) fun q => .inl (q.1 ▸ Nat.lt_succ_self _),
    fun q => q.elim (fun q => (Nat.lt_or_eq_of_le (Nat.le_of_lt_succ q)).imp id fun e => ⟨e, hi⟩) fun q => absurd q.2 (Nat.not_lt_zero _)⟩)) (Nat.le_refl _)
theorem longer_len {l n : Nat} (hl : 0 < l) (h5 : n ≤ 5) : 18 * (l - 1) + 3 * (n + 1 - l) + 0 ≤ 18 * l := by
  cases l with
  | zero => exact absurd hl (Nat.lt_irrefl _)
  | succ k => exact Nat.add_le_add_left (k := 18 * k) (Nat.le_trans (Nat.mul_le_mul_left 3 (Nat.le_trans (Nat.sub_le_sub_left (Nat.succ_le_succ (Nat.zero_le k)) (n + 1)) h5)) (by decide : 3 * 5 ≤ 18))
theorem Told.longer {M : List (List Int × Int)} {tr : Nat → Nat → Nat → Nat} {n l : Nat} (h : Told M tr n l (n + 1 - l) 0) (hl : 0 < l) (hn : l ≤ n) (h5 : n ≤ 5) : Told M tr n (l + 1) 0 0 :=
  h.congr (fun i' b' e' => and_congr_right fun _ => and_congr_right fun _ => and_congr_right fun he => ⟨fun q => q.elim (fun q => .inl (Nat.lt_succ_of_lt q)) fun q => .inl (q.1 ▸ Nat.lt_succ_self _),
    fun q => q.elim (fun q => (Nat.lt_or_eq_of_le (Nat.le_of_lt_succ q)).imp id fun e => ⟨e, .inl (Nat.lt_sub_of_add_lt (Nat.lt_succ_of_le (e ▸ he)))⟩) fun q => q.2.elim (fun q => absurd q (Nat.not_lt_zero _)) fun q => absurd q.2 (Nat.not_lt_zero _)⟩) (longer_len hl h5)
theorem Told.has {M : List (List Int × Int)} {tr : Nat → Nat → Nat → Nat} {n l b i : Nat} (h : Told M tr n l b i) (hb : b + l ≤ n) : Has (encM M) tr (b + 1) (b + l) := by
  intro i' b' c hi h1 h2 h3
  rw [lookup_encM]
  rw [show [(i' : Int), (b' : Int), (c : Int)] = key3 i' b' c from rfl, h.1 i' b' c ⟨hi, h2, Nat.le_trans h3 hb, .inl (Nat.lt_of_le_of_lt h3 (Nat.add_lt_add_right h1 l))⟩]
  rfl
theorem encM_length (M : List (List Int × Int)) : (encM M).length = M.length := by unfold encM; rw [List.length_map]
/-- a row that opens with a sign -/
theorem Told.need {M : List (List Int × Int)} {tr : Nat → Nat → Nat → Nat} {n l b i : Nat} {row : List Sym} (h : Told M tr n l b i) (hb : b + l ≤ n) (hr : ∃ c r, row = .str c :: r) : Need (encM M) tr row b (b + l) := by
  obtain ⟨c, r, rfl⟩ := hr
  exact h.has hb
end spans
/-! the log's events, taken one after another -/
section events
noncomputable def lk (M : List (List Int × Int)) (k : List Int) : Int := (lookM M k).getD 0
noncomputable def bump (M : List (List Int × Int)) (k : List Int) : List (List Int × Int) := putM M k (lk M k + 1)
noncomputable def PosM (M : List (List Int × Int)) : Prop := ∀ k v, lookM M k = some v → 0 < v
theorem PosM.lk_nonneg {M : List (List Int × Int)} (h : PosM M) (k : List Int) : 0 ≤ lk M k := by
  unfold lk
  cases e : lookM M k with
  | none => exact Int.le_refl _
  | some v => exact Int.le_of_lt (h k v e)
theorem lk_bump (M : List (List Int × Int)) (k k' : List Int) : lk (bump M k) k' = lk M k' + if k' = k then 1 else 0 := by
  unfold bump
  conv => lhs; unfold lk
  rw [lookM_putM]
  by_cases h : k' = k
  · subst h; rw [if_pos rfl, if_pos rfl]; rfl
  · rw [if_neg h, if_neg h, Int.add_zero]; rfl
theorem PosM.bump {M : List (List Int × Int)} (h : PosM M) (k : List Int) : PosM (bump M k) := by
  intro k' v e
  have hn := h.lk_nonneg k
  unfold Mine.bump at e
  rw [lookM_putM] at e
  split at e
  · cases e; omega
  · exact h k' v e
noncomputable abbrev EvSt := List Int × List (List Int × Int)
noncomputable def evStep (x : EvSt) (e : Str × Val) : EvSt := match e.2 with
  | .int i => (x.1 ++ [i], x.2)
  | .str v => (x.1, bump x.2 [0, x.1.getLastD 0, x.1.getLastD 0 + (v.length : Int)])
noncomputable def WF (subj : Str) : Option Nat → List (Str × Val) → Prop
  | _, [] => True
  | _, (k, .int i) :: r => k = Str.ofString "I" ∧ ∃ b : Nat, i = (b : Int) ∧ b ≤ subj.length ∧ WF subj (some b) r
  | some b, (k, .str v) :: r => k = Str.ofString "V" ∧ (∃ e : Nat, b < e ∧ e ≤ subj.length ∧ v = Txt.slice subj (some (b : Int)) (some (e : Int))) ∧ WF subj (some b) r
  | none, (_, .str _) :: _ => False
theorem wf_evV {subj : Str} {b : Nat} : ∀ {es : List Nat} {r : List (Str × Val)}, (∀ e ∈ es, b < e ∧ e ≤ subj.length) → WF subj (some b) r → WF subj (some b) (es.map (evV subj b) ++ r)
  | [], _, _, h => h
  | e :: es, r, he, h => ⟨rfl, ⟨e, (he e (.head _)).1, (he e (.head _)).2, rfl⟩, wf_evV (fun x hx => he x (.tail _ hx)) h⟩
theorem wf_evs {subj : Str} {es : Nat → List Nat} (hes : ∀ b, b ≤ subj.length → ∀ e ∈ es b, b < e ∧ e ≤ subj.length) : ∀ (k a : Nat) (o : Option Nat), a + k ≤ subj.length + 1 → WF subj o ((List.range' a k).flatMap fun b => evsOf subj b (es b))
  | 0, _, o, _ => by cases o <;> trivial
  | k + 1, a, o, h => by
    rw [List.range'_succ, List.flatMap_cons]
    have ih := wf_evs hes k (a + 1) (some a) (by omega)
    cases o <;> exact ⟨rfl, a, rfl, by omega, wf_evV (hes a (by omega)) ih⟩
theorem fold_evV {subj : Str} {b : Nat} {S : List Int} (hS : S.getLastD 0 = (b : Int)) : ∀ {es : List Nat} {M : List (List Int × Int)}, (∀ e ∈ es, b < e ∧ e ≤ subj.length) → PosM M →
    ∃ M', (es.map (evV subj b)).foldl evStep (S, M) = (S, M') ∧ PosM M' ∧ ∀ k, lk M' k = lk M k + ((es.countP fun e => decide (key3 0 b e = k) : Nat) : Int)
  | [], M, _, hp => ⟨M, rfl, hp, fun k => by simp⟩
  | e :: es, M, he, hp => by
    obtain ⟨h1, h2⟩ := he e (.head _)
    obtain ⟨M', f, p, c⟩ := fold_evV (es := es) (M := bump M (key3 0 b e)) hS (fun x hx => he x (.tail _ hx)) (hp.bump _)
    refine ⟨M', ?_, p, fun k => ?_⟩
    · rw [List.map_cons, List.foldl_cons, ← f]
      congr 1
      show (S, bump M [0, S.getLastD 0, S.getLastD 0 + ((Txt.slice subj (some (b : Int)) (some (e : Int))).length : Int)]) = _
      rw [hS, slice_len (by omega) h2]
      have : (b : Int) + ((e - b : Nat) : Int) = (e : Int) := by omega
      rw [this]
      rfl
    · rw [c, lk_bump, List.countP_cons]
      by_cases h : k = key3 0 b e
      · subst h
        simp only [decide_true, if_true]
        omega
      · have h' : ¬ key3 0 b e = k := fun x => h x.symm
        simp only [h, h', decide_false, if_false, Bool.false_eq_true]
        omega
theorem getLastD_snoc (S : List Int) (x : Int) : (S ++ [x]).getLastD 0 = x := by
  rw [List.getLastD_eq_getLast?, List.getLast?_append]
  simp
/-- what all events come to -/
theorem fold_evs {subj : Str} {es : Nat → List Nat} (hes : ∀ b, b ≤ subj.length → ∀ e ∈ es b, b < e ∧ e ≤ subj.length) : ∀ n, n ≤ subj.length + 1 →
    ∃ M, ((List.range n).flatMap fun b => evsOf subj b (es b)).foldl evStep ([], []) = ((List.range n).map fun (b : Nat) => (b : Int), M) ∧ PosM M ∧ (∀ b e, b < n → lk M (key3 0 b e) = ((es b).count e : Nat)) ∧ ∀ k, (∀ b e, b < n → k ≠ key3 0 b e) → lk M k = 0
  | 0, _ => ⟨[], rfl, fun k v h => (by cases h), fun b e h => absurd h (Nat.not_lt_zero _), fun _ _ => rfl⟩
  | n + 1, hn => by
    obtain ⟨M, f, p, a, z⟩ := fold_evs hes n (by omega)
    obtain ⟨M', f', p', c'⟩ := fold_evV (subj := subj) (b := n) (S := ((List.range n).map fun (b : Nat) => (b : Int)) ++ [(n : Int)]) (getLastD_snoc _ _) (es := es n) (M := M) (hes n (by omega)) p
    refine ⟨M', ?_, p', fun b e hb => ?_, fun k hk => ?_⟩
    · rw [List.range_succ, List.flatMap_append, List.foldl_append, f, List.map_append]
      simp only [List.flatMap_cons, List.flatMap_nil, List.append_nil]
      exact f'
    · rw [c']
      rcases Nat.lt_or_ge b n with h | h
      · rw [a b e h]
        have : (es n).countP (fun e' => decide (key3 0 n e' = key3 0 b e)) = 0 := List.countP_eq_zero.mpr fun x _ hx => by
          have := key3_inj (of_decide_eq_true hx)
          omega
        rw [this]
        simp
      · obtain rfl : b = n := by omega
        rw [z (key3 0 b e) fun b' e' h' h2 => by have := key3_inj h2; omega, Int.zero_add, List.count]
        congr 2
        funext x
        by_cases hx : x = e
        · subst hx; simp
        · have : ¬ key3 0 b x = key3 0 b e := fun q => hx (key3_inj q).2.2
          simp [this, hx]
    · rw [c', z k fun b e hb => hk b e (by omega)]
      have : (es n).countP (fun e' => decide (key3 0 n e' = k)) = 0 := List.countP_eq_zero.mpr fun x _ hx => hk n x (Nat.lt_succ_self _) (of_decide_eq_true hx).symm
      rw [this]
      rfl
theorem tabOf_go (f : List Int → Option Int) : ∀ (ps : List (List Int × Int)) (M0 : List (List Int × Int)), (∀ x ∈ ps, f x.1 = some x.2) → (∀ k v, lookM M0 k = some v → f k = some v) →
    ∀ k v, lookM (ps.foldl (fun M x => putM M x.1 x.2) M0) k = some v ↔ (k, v) ∈ ps ∨ lookM M0 k = some v
  | [], _, _, _, k, v => by simp
  | x :: ps, M0, h1, h2, k, v => by
    have hx := h1 x (.head _)
    rw [List.foldl_cons, tabOf_go f ps (putM M0 x.1 x.2) (fun y hy => h1 y (.tail _ hy)) ?_ k v]
    · rw [lookM_putM]
      by_cases e : k = x.1
      · rw [if_pos e]
        constructor
        · rintro (h | h)
          · exact .inl (.tail _ h)
          · refine .inl ?_
            have : (k, v) = x := Prod.ext e (Option.some.inj h).symm
            rw [this]
            exact .head _
        · rintro (h | h)
          · rcases List.mem_cons.mp h with h | h
            · exact .inr (by rw [← h])
            · exact .inl h
          · have := h2 k v h
            rw [e, hx] at this
            exact .inr this
      · rw [if_neg e]
        constructor
        · rintro (h | h)
          · exact .inl (.tail _ h)
          · exact .inr h
        · rintro (h | h)
          · rcases List.mem_cons.mp h with h | h
            · exact absurd (by rw [← h]) e
            · exact .inl h
          · exact .inr h
    · intro k' v' h
      rw [lookM_putM] at h
      split at h
      · next q => rw [q, hx]; exact h
      · exact h2 _ _ h
/-- the last comparison -/
theorem many_due {subj : Str} {es : Nat → List Nat} {tr : Nat → Nat → Nat → Nat} {Mt Mm ps : List (List Int × Int)} (hes : ∀ b, b ≤ subj.length → (∀ e ∈ es b, b < e ∧ e ≤ subj.length) ∧ ∀ e, b < e → e ≤ subj.length → (es b).count e = tr 0 b e)
    (ht : Told Mt tr subj.length (subj.length + 1) 0 0) (hp : PosM Mm) (ha : ∀ b e, b < subj.length + 1 → lk Mm (key3 0 b e) = ((es b).count e : Nat)) (hz : ∀ k, (∀ b e, b < subj.length + 1 → k ≠ key3 0 b e) → lk Mm k = 0)
    (h1 : ∀ x ∈ ps, lookM Mt x.1 = some x.2 ∧ x.1.head? = some 0 ∧ 0 < x.2) (h2 : ∀ k v, lookM Mt k = some v → k.head? = some 0 → 0 < v → (k, v) ∈ ps) : ∀ k, lookM Mm k = lookM (tabOf ps) k := by
  have hd : ∀ k v, lookM (tabOf ps) k = some v ↔ (k, v) ∈ ps := fun k v => by
    have := tabOf_go (fun k => lookM Mt k) ps [] (fun x hx => (h1 x hx).1) (fun k v h => (by cases h)) k v
    unfold tabOf
    rw [this]
    constructor
    · rintro (h | h)
      · exact h
      · cases h
    · exact .inl
  intro k
  refine Option.ext fun v => ?_
  rw [hd]
  constructor
  · intro h
    have hv := hp k v h
    have hlk : lk Mm k = v := by unfold lk; rw [h]; rfl
    by_cases hk : ∃ b e, b < subj.length + 1 ∧ k = key3 0 b e
    · obtain ⟨b, e, hb, rfl⟩ := hk
      have hc := ha b e hb
      rw [hlk] at hc
      have hpos : 0 < (es b).count e := by omega
      obtain ⟨q1, q2⟩ := hes b (by omega)
      obtain ⟨q3, q4⟩ := q1 e (List.count_pos_iff.mp hpos)
      rw [q2 e q3 q4] at hc
      refine h2 _ _ ?_ rfl hv
      rw [ht.1 0 b e (by unfold Done; omega), hc]
    · have := hz k fun b e hb he => hk ⟨b, e, hb, he⟩
      omega
  · intro h
    obtain ⟨g1, g2, g3⟩ := h1 _ h
    obtain ⟨i, b, e, hD, he⟩ := ht.2.1 k v g1
    dsimp only at g1 g2 g3
    subst he
    have hi : i = 0 := by
      have : ((i : Nat) : Int) = 0 := Option.some.inj g2
      omega
    subst hi
    have hDD := hD
    unfold Done at hDD
    rw [ht.1 0 b e hD] at g1
    have hv := Option.some.inj g1
    have hc := ha b e (by omega)
    rw [(hes b (by omega)).2 e (by omega) (by omega)] at hc
    unfold lk at hc
    cases hm : lookM Mm (key3 0 b e) with
    | none => rw [hm] at hc; have : (0 : Int) = (tr 0 b e : Nat) := hc; omega
    | some u => rw [hm] at hc; have : u = (tr 0 b e : Nat) := hc; rw [this, hv]
theorem All2.at2 {α β : Type} {R : α → β → Prop} {v : α} : ∀ {pre post : List α} {l : List β}, All2 R (pre ++ v :: post) l → ∃ e, R v e ∧ l.take (pre.length + 1) = l.take pre.length ++ [e] ∧ l.drop pre.length = e :: l.drop (pre.length + 1)
  | [], _, _, .cons (b := b) h _ => ⟨b, h, by simp, by simp⟩
  | a :: pre, post, _, .cons (b := b) (l' := l') _ t => by
    obtain ⟨e, h1, h2, h3⟩ := All2.at2 (pre := pre) t
    exact ⟨e, h1, by simp only [List.length_cons, List.take_succ_cons, h2, List.cons_append], by simpa using h3⟩
end events
end
section
section make1
variable {w : World} {mean : ExcName → Option Value} {mg mb : Str → Option Value} {dp un : Nat} {gd : Option (List Code)} {cn : Str} {cs : Scope} {L a : Addr} {ccd : Value} {cl : List (Str × Addr)} {outer : List Env} {A₀ : Around} {base h₀ : Heap} {m : Str → Option Value} {s : Shared} {Q E : Value → Shared → Prop}
  {news : List (Addr × Obj)}
set_option maxRecDepth 100000 in
set_option maxHeartbeats 8000000 in
theorem pattern_c {nd : Addr} (B : Below A₀ base outer h₀) (F : Fr h₀ L s.heap m) (X : (stage.heap_1 w.params).In h₀) (N : News h₀ L s.heap news)
  (T : Top hd.view_1 (looseW hd.view_1 [Str.ofString "SnobolError", Str.ofString "plain_count"]) mean mg mb h₀)
  (hk : cs.kind = .function) (hr : dp + 50 < recursionLimit) (hu : un + 200 < cLine)
  (ret : ∀ x dx h' tk' g1 u1, Fr h₀ L h' m → News h₀ L h' ((x, instObj 68 dx) :: (dx, patD g1 u1 nd) :: news) → (∀ p ∈ news, p.1 < dx) → @LT.lt Nat _ dx x → Q (.ref x) { s with heap := h', toks := tk' }) :
  wpAny (model PySem.Challenge.rw_sj0196_01.row.prog w) (ktrTop dp un gd cn cs L a ccd cl outer) (call (.ref 68) [.ref nd]) Q E s := by
  revert X; k_fill; intro X
  k_steps
  rename Fr h₀ L _ _ => F1
  rename News h₀ L _ _ => N1
  rename (_ : Nat) < _ => l2
  rename (∀ p ∈ news, p.1 < _) => l1
  exact ret _ _ _ _ _ _ F1 N1 l1 l2
end make1
noncomputable def noRef : Pat → Bool
  | .cat a b => noRef a && noRef b
  | .alt a b => noRef a && noRef b
  | .delay _ => true
  | .fail => true
  | .chars _ => true
  | _ => false
theorem noRef_row : ∀ row : List Sym, noRef (rowPat row) = true
  | [] => rfl
  | [s] => by cases s <;> rfl
  | s :: s2 :: r => by
    have ih := noRef_row (s2 :: r)
    show (noRef (symPat s) && noRef (rowPat (s2 :: r))) = true
    rw [ih]
    cases s <;> rfl
theorem tups_append {a b : List (Addr × Obj)} (ha : Tups a) (hb : Tups b) : Tups (a ++ b) := fun p hp => (List.mem_append.mp hp).elim (ha p) (hb p)
noncomputable def TupD (l : List (Addr × Obj)) : Prop := ∀ p ∈ l, ∃ vs, p.2 = tupObj vs
theorem TupD.nil : TupD [] := fun _ h => nomatch h
theorem TupD.cons {p : Addr × Obj} {l : List (Addr × Obj)} (h : ∃ vs, p.2 = tupObj vs) (hl : TupD l) : TupD (p :: l) := List.forall_mem_cons.mpr ⟨h, hl⟩
theorem TupD.append {a b : List (Addr × Obj)} (ha : TupD a) (hb : TupD b) : TupD (a ++ b) := fun p hp => (List.mem_append.mp hp).elim (ha p) (hb p)
theorem TupD.tups {l : List (Addr × Obj)} (h : TupD l) : Tups l := fun p hp => by obtain ⟨vs, e⟩ := h p hp; rw [e]
theorem PatIn.collect {T : List (Addr × Obj)} {a : Addr} {p : Pat} (h : PatIn T a p) (hn : noRef p = true) : ∃ U, TupD U ∧ (∀ x ∈ U, x ∈ T) ∧ PatIn U a p := by
  induction h with
  | cat m _ _ i j =>
    simp only [noRef, Bool.and_eq_true] at hn
    obtain ⟨U, u1, u2, u3⟩ := i hn.1
    obtain ⟨V, v1, v2, v3⟩ := j hn.2
    exact ⟨_ :: (U ++ V), TupD.cons ⟨_, rfl⟩ (TupD.append u1 v1), List.forall_mem_cons.mpr ⟨m, fun x hx => (List.mem_append.mp hx).elim (u2 x) (v2 x)⟩, .cat (.head _) (u3.mono fun x hx => .tail _ (List.mem_append_left _ hx)) (v3.mono fun x hx => .tail _ (List.mem_append_right _ hx))⟩
  | alt m _ _ i j =>
    simp only [noRef, Bool.and_eq_true] at hn
    obtain ⟨U, u1, u2, u3⟩ := i hn.1
    obtain ⟨V, v1, v2, v3⟩ := j hn.2
    exact ⟨_ :: (U ++ V), TupD.cons ⟨_, rfl⟩ (TupD.append u1 v1), List.forall_mem_cons.mpr ⟨m, fun x hx => (List.mem_append.mp hx).elim (u2 x) (v2 x)⟩, .alt (.head _) (u3.mono fun x hx => .tail _ (List.mem_append_left _ hx)) (v3.mono fun x hx => .tail _ (List.mem_append_right _ hx))⟩
  | now => cases hn
  | enow => cases hn
  | cursor => cases hn
  | delay m n => exact ⟨[_, _], TupD.cons ⟨_, rfl⟩ (TupD.cons ⟨_, rfl⟩ TupD.nil), List.forall_mem_cons.mpr ⟨m, List.forall_mem_cons.mpr ⟨n, List.forall_mem_nil _⟩⟩, .delay (.head _) (.tail _ (.head _))⟩
  | fail m => exact ⟨[_], TupD.cons ⟨_, rfl⟩ TupD.nil, List.forall_mem_cons.mpr ⟨m, List.forall_mem_nil _⟩, .fail (.head _)⟩
  | chars m => exact ⟨[_], TupD.cons ⟨_, rfl⟩ TupD.nil, List.forall_mem_cons.mpr ⟨m, List.forall_mem_nil _⟩, .chars (.head _)⟩
theorem node_t {w : World} {mean : ExcName → Option Value} {mg mb : Str → Option Value} {dp un : Nat} {gd : Option (List Code)} {cn : Str} {cs : Scope} {L a : Addr} {ccd : Value} {cl : List (Str × Addr)} {outer : List Env} {A₀ : Around} {base h₀ : Heap} {m : Str → Option Value} {s : Shared} {Q E : Value → Shared → Prop}
  {news : List (Addr × Obj)} {r : Addr} {row : List Sym} (B : Below A₀ base outer h₀) (F : Fr h₀ L s.heap m) (X : (stage.heap_1 w.params).In h₀) (N : News h₀ L s.heap news) (hm : RowIn news r row)
  (T : Top hd.view_1 (looseW hd.view_1 [Str.ofString "SnobolError", Str.ofString "plain_count"]) mean mg mb h₀)
  (hk : cs.kind = .function) (hr : dp + 50 < recursionLimit) (hu : un + 200 < cLine) (hg : GoodRow row)
  (ret : ∀ nd U h' tk', Fr h₀ L h' m → News h₀ L h' (U ++ news) → TupD U → PatIn U nd (rowPat row) → Q (.ref nd) { s with heap := h', toks := tk' }) :
  wpAny (model PySem.Challenge.rw_sj0196_01.row.prog w) (ktrTop dp un gd cn cs L a ccd cl outer) (call (.ref 423) [.ref r]) Q E s := by
  refine node_c B F X N hm T hk hr hu hg.1 hg.2.1 hg.2.2.1 fun nd T1 h' tk' F1 N1 hs hp => ?_
  obtain ⟨U, u1, u2, u3⟩ := hp.collect (noRef_row row)
  exact ret nd U h' tk' F1 (kst_newsOf N1 fun p hp => (List.mem_append.mp hp).elim (u2 p) (hs p)) u1 u3
end
section
open PyProof PyProof.V
noncomputable def PatObj (p : Addr × Obj) : Prop := (∃ vs, p.2 = tupObj vs) ∨ (∃ pd, p.2 = instObj 68 pd) ∨ ∃ h t nd, p.2 = patD h t nd
noncomputable def PatJ (P : List (Addr × Obj)) (kvs : List (Str × Value)) (row0 row1 : List Sym) (j : Nat) : Prop := ∃ pv pd h t nd, valueAt kvs (stu j) = some (.ref pv) ∧ (pv, instObj 68 pd) ∈ P ∧ (pd, patD h t nd) ∈ P ∧ PatIn P nd (.alt (rowPat row0) (rowPat row1))
/-! the ledger while the table of the spans is filled -/
section spanled
variable {h₀ h : Heap} {L : Addr}
theorem off_obj {c : Addr} {oc : Obj} {U l : List (Addr × Obj)} (N : News h₀ L h l) (hc : (c, oc) ∈ l) (hs : ∀ p ∈ U, p ∈ l) (hne : ∀ p ∈ U, p.2 ≠ oc) : ∀ p ∈ U, p.1 ≠ c := by
  intro p hp e
  have g1 := (N p (hs p hp)).1
  have g2 := (N _ hc).1
  rw [e, g2] at g1
  exact hne p hp (Option.some.inj g1).symm
noncomputable def NoCell (p : Addr × Obj) : Prop := ∀ v, p.2.data ≠ .cell v
theorem NoCell.ne {p : Addr × Obj} {oc : Obj} {v : Option Value} (h : NoCell p) (hc : oc.data = .cell v) : p.2 ≠ oc := fun e => h v (by rw [e]; exact hc)
theorem noCell_pat {p : Addr × Obj} (h : PatObj p) : NoCell p := by
  rcases h with ⟨vs, q⟩ | ⟨pd, q⟩ | ⟨h, t, nd, q⟩ <;> (rw [NoCell, q]; intro v e; nomatch e)
theorem noCell_list {p : Addr × Obj} (h : ∃ a n, p.2 = listOf a n) : NoCell p := by
  obtain ⟨a, n, q⟩ := h
  rw [NoCell, q]
  intro v e
  nomatch e
noncomputable def KeyObj (p : Addr × Obj) : Prop := p.2.cls = .type "tuple" ∧ ∃ items n, p.2.data = .seq items n
theorem KeyObj.noCell {p : Addr × Obj} (h : KeyObj p) : NoCell p := by
  obtain ⟨-, items, n, e⟩ := h
  intro v q
  rw [e] at q
  nomatch q
noncomputable def StatObj (p : Addr × Obj) : Prop := PatObj p ∨ ∃ a n, p.2 = listOf a n
theorem StatObj.noCell {p : Addr × Obj} (h : StatObj p) : NoCell p := h.elim noCell_pat noCell_list
theorem stat_append {P st : List (Addr × Obj)} (hP : ∀ p ∈ P, PatObj p) (hst : ∀ p ∈ st, ∃ a n, p.2 = listOf a n) : ∀ p ∈ P ++ st, StatObj p := fun p hp => (List.mem_append.mp hp).elim (fun h => .inl (hP p h)) fun h => .inr (hst p h)
variable {prog : Program} {w : World}
theorem stat_ne_empty {p : Addr × Obj} {ot : Obj} (h : StatObj p) (hot : ot.IsDictOf (PySem.strKind prog w) []) : p.2 ≠ ot := by
  obtain ⟨es, ep, hc, hd, -, hp, -⟩ := hot
  have he : es.toList = [] := List.length_eq_zero_iff.mp hp.length
  intro e
  have h1 := hc.1
  rw [← e] at h1 hd
  rcases h with (⟨vs, q⟩ | ⟨pd, q⟩ | ⟨h, t, nd, q⟩) | ⟨a, n, q⟩
  · rw [q] at h1; exact absurd (Value.type.inj h1) (by decide)
  · rw [q] at h1; exact nomatch h1
  · rw [q] at hd
    injection hd with h2
    rw [← h2] at he
    exact nomatch he
  · rw [q] at h1; exact absurd (Value.type.inj h1) (by decide)
/-- a table's keys alone -/
theorem IntTab.collect {news : List (Addr × Obj)} {td : Addr} {M : List (List Int × Int)} (T : IntTab prog w news td M) : ∃ ot KT, (td, ot) ∈ news ∧ ot.cls = .type "dict" ∧ (∀ p ∈ KT, p ∈ news) ∧ (∀ p ∈ KT, KeyObj p) ∧ IntTab prog w ((td, ot) :: KT) td M := by
  obtain ⟨lo, o, es, ep, xs, hm, hc, hd, he, hn, hk, hf⟩ := T
  have hx : ∃ KT : List (Addr × Obj), (∀ p ∈ KT, p ∈ news) ∧ (∀ p ∈ KT, KeyObj p) ∧ ∀ x ∈ xs, ∃ ok, (x.2.1, ok) ∈ KT ∧ TupKeyObj (PySem.intKind prog w) x.1 ok := by
    clear he hn hf
    induction xs with
    | nil => exact ⟨[], List.forall_mem_nil _, List.forall_mem_nil _, List.forall_mem_nil _⟩
    | cons x xs ih =>
      obtain ⟨KT, a, b, c⟩ := ih fun x hx => hk x (.tail _ hx)
      obtain ⟨ok, h1, h2⟩ := hk x (.head _)
      refine ⟨(x.2.1, ok) :: KT, List.forall_mem_cons.mpr ⟨h1, a⟩, List.forall_mem_cons.mpr ⟨⟨h2.1, ?_⟩, b⟩, List.forall_mem_cons.mpr ⟨⟨ok, .head _, h2⟩, fun x hx => ?_⟩⟩
      · obtain ⟨-, items, n, q, -⟩ := h2
        exact ⟨items, n, q⟩
      · obtain ⟨ok, h3, h4⟩ := c x hx
        exact ⟨ok, .tail _ h3, h4⟩
  obtain ⟨KT, a, b, c⟩ := hx
  refine ⟨o, KT, hm, hc.1, a, b, lo, o, es, ep, xs, .head _, hc, hd, he, hn, fun x hx => ?_, hf⟩
  obtain ⟨ok, h3, h4⟩ := c x hx
  exact ⟨ok, .tail _ h3, h4⟩
theorem IntTab.mono {news news' : List (Addr × Obj)} {td : Addr} {M : List (List Int × Int)} (hs : ∀ p ∈ news, p ∈ news') (T : IntTab prog w news td M) : IntTab prog w news' td M := tab_mono hs T
theorem IntTab.start {td : Addr} {ot : Obj} (lo : (td == sysModules) = false) (h : ot.IsDictOf (PySem.strKind prog w) []) : IntTab prog w [(td, ot)] td [] := TupTab.ofEmpty (.head _) lo h
variable {A : Around} {E : Value → Shared → Prop} {s : Shared} {m : Str → Option Value} {news : List (Addr × Obj)}
/-- a table takes a number under a tuple of ints -/
theorem setItem_intTab {K : List (Addr × Obj)} {td a : Addr} {ok : Obj} {ks : List Int} {z : Int} {t : Tok} {M : List (List Int × Int)} {Q : Unit → Shared → Prop} (F : Fr h₀ L s.heap m) (N : News h₀ L s.heap news) (T : IntTab prog w K td M) (hK : ∀ p ∈ K, p ∈ news) (hka : (a, ok) ∈ news)
    (tk : TupKeyObj (PySem.intKind prog w) ks ok) (hu : A.units + 1 < cLine) (hsz : M.length ≤ 1000000)
    (h : ∀ h' news' tk' ot KT, Fr h₀ L h' m → News h₀ L h' news' → (∀ p ∈ news, p.1 ≠ td → p ∈ news') → (td, ot) ∈ news' → ot.cls = .type "dict" → (∀ p ∈ KT, p ∈ news') → (∀ p ∈ KT, KeyObj p) → IntTab prog w ((td, ot) :: KT) td (putM M ks z) → Q () { s with heap := h', toks := tk' }) :
    wpAny (model prog w) A (setItem (.ref td) (.ref a) (.int z t)) Q E s := by
  refine setItem_tupTab (enc := PyData.int) same_int hu (Flat.int z t) F N (IntTab.mono hK T) hka tk (fun h' news' F' N' T' _ hs => ?_) (by rw [encM_length, sizeLine_eq]; omega)
  rw [putD_encM] at T'
  obtain ⟨ot, KT, h1, h2, h3, h4, h5⟩ := IntTab.collect T'
  exact h h' news' _ ot KT F' N' hs h1 h2 h3 h4 h5
end spanled
theorem intKey3 {prog : Program} {w : World} {a b c : Int} {t u v : Tok} {x : Obj} (hx : x = tupObj [.int a t, .int b u, .int c v]) : TupKeyObj (PySem.intKind prog w) [a, b, c] x := by
  subst hx
  exact ⟨rfl, _, _, rfl, .cons (intKind_is _ _ _ _) (.cons (intKind_is _ _ _ _) (.cons (intKind_is _ _ _ _) .nil))⟩
/-- what the spans' loops keep: cells «begin», «long», «trees», «subject», the table, the host's dict, and what nothing changes -/
noncomputable def LedT (prog : Program) (w : World) (cB cL cT cS td : Addr) (oT oS : Obj) (vv : Addr × Obj) (S : List (Addr × Obj)) (M : List (List Int × Int)) (oB oL : Obj) (nw : List (Addr × Obj)) : Prop :=
  ∃ ot KT, nw = (cB, oB) :: (cL, oL) :: (cT, oT) :: (cS, oS) :: (td, ot) :: vv :: (KT ++ S) ∧ ot.cls = .type "dict" ∧ (∀ p ∈ KT, KeyObj p) ∧ IntTab prog w ((td, ot) :: KT) td M
theorem led_off {h₀ h : Heap} {L : Addr} {cB cL td I : Addr} {oB0 oL0 oB oL ot0 ot o : Obj} {T S4 vv : Addr × Obj} {KT0 KT S all : List (Addr × Obj)} (lI : ∀ p ∈ (cB, oB0) :: (cL, oL0) :: T :: S4 :: (td, ot0) :: vv :: (KT0 ++ S), p.1 < I) (ho : o.cls = .type "range_iterator") (N : News h₀ L h all) (hI : (I, o) ∈ all) (hK : ∀ p ∈ KT, p ∈ all) (hKo : ∀ p ∈ KT, KeyObj p) :
    ∀ p ∈ (cB, oB) :: (cL, oL) :: T :: S4 :: (td, ot) :: vv :: (KT ++ S), p.1 ≠ I := by
  have lt : ∀ {p : Addr × Obj}, p ∈ (cB, oB0) :: (cL, oL0) :: T :: S4 :: (td, ot0) :: vv :: (KT0 ++ S) → p.1 ≠ I := fun hp => Nat.ne_of_lt (lI _ hp)
  refine List.forall_mem_cons.mpr ⟨lt (p := (cB, oB0)) (.head _), List.forall_mem_cons.mpr ⟨lt (p := (cL, oL0)) (.tail _ (.head _)), List.forall_mem_cons.mpr ⟨lt (.tail _ (.tail _ (.head _))), List.forall_mem_cons.mpr ⟨lt (.tail _ (.tail _ (.tail _ (.head _)))), List.forall_mem_cons.mpr ⟨lt (p := (td, ot0)) (.tail _ (.tail _ (.tail _ (.tail _ (.head _))))), List.forall_mem_cons.mpr ⟨lt (.tail _ (.tail _ (.tail _ (.tail _ (.tail _ (.head _)))))), fun p hp => ?_⟩⟩⟩⟩⟩⟩
  rcases List.mem_append.mp hp with hp | hp
  · refine off_obj N hI hK (fun p hp e => ?_) p hp
    have := (hKo p hp).1
    rw [e, ho] at this
    exact absurd (Value.type.inj this) (by decide)
  · exact lt (.tail _ (.tail _ (.tail _ (.tail _ (.tail _ (.tail _ (List.mem_append_right _ hp)))))))
/-- the objects that the cells and the host's dict are apart from -/
theorem led_apart {h₀ h : Heap} {L : Addr} {c : Addr} {oc : Obj} {v : Option Value} {KT S all : List (Addr × Obj)} (N : News h₀ L h all) (hc : (c, oc) ∈ all) (hd : oc.data = .cell v) (hK : ∀ p ∈ KT, p ∈ all) (hKo : ∀ p ∈ KT, KeyObj p) (hS : ∀ p ∈ S, p.1 ≠ c) : ∀ p ∈ KT ++ S, p.1 ≠ c := fun p hp =>
  (List.mem_append.mp hp).elim (fun h => off_obj N hc hK (fun p hp => (hKo p hp).noCell.ne hd) p h) (hS p)
theorem led_apartD {h₀ h : Heap} {L : Addr} {c : Addr} {oc : Obj} {KT S all : List (Addr × Obj)} (N : News h₀ L h all) (hc : (c, oc) ∈ all) (hd : oc.cls = .type "dict") (hK : ∀ p ∈ KT, p ∈ all) (hKo : ∀ p ∈ KT, KeyObj p) (hS : ∀ p ∈ S, p.1 ≠ c) : ∀ p ∈ KT ++ S, p.1 ≠ c := fun p hp =>
  (List.mem_append.mp hp).elim (fun h => off_obj N hc hK (fun p hp e => by
    have := (hKo p hp).1
    rw [e, hd] at this
    exact absurd (Value.type.inj this) (by decide)) p h) (hS p)
/-- what of the ledger nothing changes, told once -/
noncomputable def Frz (S : List (Addr × Obj)) (kvs : List (Str × Value)) (ys : List Value) (D : Addr) (R0 R1 : Nat → List Sym) : Prop :=
  GIn S kvs (gOf R0 R1) ∧ (D, listOf ys.toArray ys.length) ∈ S ∧ ∀ j : Nat, j < 3 → ∃ rr a0 a1, ys[j]? = some (.ref rr) ∧ (rr, listOf #[.ref a0, .ref a1] 0) ∈ S ∧ RowIn S a0 (R0 j) ∧ RowIn S a1 (R1 j)
theorem frz_of {P st : List (Addr × Obj)} {kvs : List (Str × Value)} {ys : List Value} {D : Addr} {R0 R1 : Nat → List Sym} (hPj : ∀ j, j < 3 → PatJ P kvs (R0 j) (R1 j) j) (hD : (D, listOf ys.toArray ys.length) ∈ st)
    (hR : ∀ j : Nat, j < 3 → ∃ rr a0 a1, ys[j]? = some (.ref rr) ∧ (rr, listOf #[.ref a0, .ref a1] 0) ∈ st ∧ RowIn st a0 (R0 j) ∧ RowIn st a1 (R1 j) ∧ GoodRow (R0 j) ∧ (R0 j).length = 1 ∧ GoodRow (R1 j) ∧ 2 ≤ (R1 j).length) : Frz (P ++ st) kvs ys D R0 R1 := by
  have hP : ∀ p ∈ P, p ∈ P ++ st := fun p hp => List.mem_append_left _ hp
  have hs : ∀ p ∈ st, p ∈ P ++ st := fun p hp => List.mem_append_right _ hp
  refine ⟨fun nm p h => ?_, hs _ hD, fun j hj => ?_⟩
  · have key : ∀ j, j < 3 → nm = stu j → p = .alt (rowPat (R0 j)) (rowPat (R1 j)) → ∃ pv pd h t nd, valueAt kvs nm = some (.ref pv) ∧ (pv, instObj 68 pd) ∈ P ++ st ∧ (pd, patD h t nd) ∈ P ++ st ∧ PatIn (P ++ st) nd p := by
      rintro j hj rfl rfl
      obtain ⟨pv, pd, h, t, nd, a, b, c, d⟩ := hPj j hj
      exact ⟨pv, pd, h, t, nd, a, hP _ b, hP _ c, d.mono hP⟩
    unfold gOf at h
    split at h
    · next e => exact key 0 (by decide) e (Option.some.inj h).symm
    · split at h
      · next e => exact key 1 (by decide) e (Option.some.inj h).symm
      · split at h
        · next e => exact key 2 (by decide) e (Option.some.inj h).symm
        · cases h
  · obtain ⟨rr, a0, a1, h1, h2, h3, h4, -⟩ := hR j hj
    exact ⟨rr, a0, a1, h1, hs _ h2, h3.mono hs, h4.mono hs⟩
/-- the grammar's counts -/
noncomputable def Gram (subj : Str) (R0 R1 : Nat → List Sym) (tr : Nat → Nat → Nat → Nat) : Prop :=
  (∀ i, i < 3 → ∃ c, GoodSym (.str c) ∧ R0 i = [.str c]) ∧ (∀ i, i < 3 → GoodRow (R1 i) ∧ 2 ≤ (R1 i).length) ∧ (∀ i, i < 3 → ∀ b e, b < e → e ≤ subj.length → tr i b e = waysL subj tr (R0 i) b e + waysL subj tr (R1 i) b e) ∧
  (∀ i b c : Nat, i < 3 → b < c → c ≤ subj.length → tr i b c ≤ 1000) ∧ (∀ (row' : List Sym) (b' e' : Nat), (∀ s ∈ row', GoodSym s) → row'.length ≤ 2 → b' ≤ e' → e' ≤ subj.length → waysL subj tr row' b' e' ≤ 1000000)
theorem gram_of {subj : Str} {R0 R1 : Nat → List Sym} (hsl : subj.length ≤ 5) (h : ∀ j : Nat, j < 3 → GoodRow (R0 j) ∧ (R0 j).length = 1 ∧ GoodRow (R1 j) ∧ 2 ≤ (R1 j).length) : ∃ tr, Gram subj R0 R1 tr := by
  have h0 : ∀ i, i < 3 → ∃ c, GoodSym (.str c) ∧ R0 i = [.str c] := fun i hi => by
    obtain ⟨⟨-, -, g, c, r, e⟩, l, -⟩ := h i hi
    rw [e] at l g ⊢
    have : r = [] := by
      rw [List.length_cons] at l
      exact List.length_eq_zero_iff.mp (by omega)
    subst this
    exact ⟨c, g _ (.head _), rfl⟩
  have h1 : ∀ i, i < 3 → GoodRow (R1 i) ∧ 2 ≤ (R1 i).length := fun i hi => (h i hi).2.2
  have htr : ∀ i, i < 3 → ∀ b e, b < e → e ≤ subj.length → trK subj R0 R1 subj.length i b e = waysL subj (trK subj R0 R1 subj.length) (R0 i) b e + waysL subj (trK subj R0 R1 subj.length) (R1 i) b e := fun i hi b e hb he =>
    trK_eq (fun i hi => by obtain ⟨⟨-, -, g, c, r, e⟩, -⟩ := h i hi; exact ⟨g, c, r, e⟩) (fun i hi => by obtain ⟨-, -, ⟨-, -, g, c, r, e⟩, -⟩ := h i hi; exact ⟨g, c, r, e⟩) hi hb he
  exact ⟨_, h0, h1, htr, fun i b c hi hb hc => tr_le h0 h1 htr hsl hi hb hc, fun row b e hg hl hb he => waysL_le h0 h1 htr hsl hg hl hb he⟩
end
section
open PyProof PyProof.V
theorem item_at {prog : Program} {w : World} {A : Around} {E : Value → Shared → Prop} {s : Shared} {value slice : PySem.Expr} {a : Addr} {l : List Value} {i : Nat} {u : Tok} {x : Value} {Q : Value → Shared → Prop} (hl : s.heap.IsList a l.toArray) (hi : i < 3) (hx : l[i]? = some x) (h : Q x s)
    (hs : subscripted slice false (.ref a) (.int (0 + (i : Int)) u) = operate [.ref a, .int (0 + (i : Int)) u] (getItem (.ref a) (.int (0 + (i : Int)) u)) := by with_unfolding_all rfl) (hg : ∀ r, letTemporaryGo value (.ref a) r = pure () := by intro _; with_unfolding_all rfl) :
    wpAny (model prog w) A (subscriptTail value slice (.ref a) (.int (0 + (i : Int)) u)) Q E s := by
  rw [zadd i] at hs ⊢
  exact item_listL hl (Int.natCast_nonneg i) (Int.lt_trans (Int.ofNat_lt.mpr hi) (by decide)) hx h hs hg
noncomputable def IntIs (v : Value) (i : Int) : Prop := ∃ t, v = .int i t
noncomputable def absI (x : Int) : Int := if x < 0 then -x else x
noncomputable def JA (T : List (Addr × Obj)) (ns : List Int) (i : Nat) (ys : List Value) (nw : List (Addr × Obj)) : Prop := nw = T ∧ All2 IntIs ys ((ns.take i).map absI)
noncomputable def usual : List Int := [4, 0, 0, 0, 1, 0, 1, 0, 0, 7, 0, 1, 0, 1, 1, 1, 0, 2]
theorem hide_list {h₀ h : Heap} {L l : Addr} {n : Nat} {us : List Value} {ns : List Int} {rest : List (Addr × Obj)} (N : News h₀ L h ((l, listOf us.toArray n) :: rest)) (hi : IntsAre us ns) : ∃ us', IntsAre us' ns ∧ News h₀ L h ((l, listOf us'.toArray n) :: rest) := ⟨us, hi, N⟩
theorem ints_are {ys : List Value} {ns : List Int} (h : All2 IntIs ys ns) : IntsAre ys ns := by
  induction h with
  | nil => exact .nil
  | cons a _ ih => obtain ⟨t, rfl⟩ := a; exact .cons _ t ih
theorem ints_drop {ys : List Value} {ns : List Int} (h : IntsAre ys ns) (k : Nat) : IntsAre (ys.drop k) (ns.drop k) := by
  induction h generalizing k with
  | nil => simpa using IntsAre.nil
  | cons n t h ih =>
    cases k with
    | zero => exact .cons n t h
    | succ k => exact ih k
theorem absI_nn (x : Int) : 0 ≤ absI x := by unfold absI; split <;> omega
theorem usual_nn : ∀ x ∈ usual, 0 ≤ x := by decide
noncomputable def cellsOf (ns : List Int) : List Int := ns.map absI ++ usual.drop ns.length
theorem cellsOf_len {ns : List Int} (h : ns.length ≤ 18) : (cellsOf ns).length = 18 := by
  unfold cellsOf
  rw [List.length_append, List.length_map, List.length_drop]
  show ns.length + (18 - ns.length) = 18
  omega
theorem cellsOf_nn {ns : List Int} : ∀ x ∈ cellsOf ns, 0 ≤ x := by
  intro x hx
  rcases List.mem_append.mp hx with h | h
  · obtain ⟨y, -, rfl⟩ := List.mem_map.mp h
    exact absI_nn y
  · exact usual_nn x (List.mem_of_mem_drop h)
theorem part_len {l : List Int} {x : Int} {n : Nat} (h0 : l.length = min (min (1 + x.fmod 6).toNat n - 1) (n - 1)) : l.length ≤ 5 := by
  have h := Int.fmod_lt_of_pos x (show (0 : Int) < 6 by decide)
  have e : (1 + x.fmod 6).toNat ≤ 6 := Int.toNat_le.mpr (by omega)
  rw [h0]
  exact Nat.le_trans (Nat.min_le_left _ _) (Nat.sub_le_of_le_add (Nat.le_trans (Nat.min_le_left _ _) e))
noncomputable def abOf (c : Int) : Str := Txt.item (Str.ofString "ab") (c.fmod 2)
noncomputable def JB (T : List (Addr × Obj)) (ns : List Int) (i : Nat) (ys : List Value) (nw : List (Addr × Obj)) : Prop := nw = T ∧ All2 StrIs ys ((ns.take i).map abOf)
theorem abOf_len (c : Int) : (abOf c).length = 1 := by
  have h : abOf c = Str.ofString "a" ∨ abOf c = Str.ofString "b" := item_ab c
  rcases h with h | h <;> rw [h] <;> decide +kernel
theorem ab_sum (part : List Int) : ((part.map abOf).map (·.length)).sum = part.length := by
  induction part with
  | nil => rfl
  | cons c l ih => simp only [List.map_cons, List.sum_cons, ih, abOf_len, List.length_cons]; omega
theorem ab_room {part : List Int} (h : part.length ≤ 5) : ((part.map abOf).map (·.length)).sum + (part.map abOf).length * (Str.ofString "").length ≤ 16777216 := by
  have e0 : (Str.ofString "").length = 0 := by decide +kernel
  rw [ab_sum, e0]
  omega
theorem ab_len {part : List Int} (h : part.length ≤ 5) : (Txt.join (Str.ofString "") (part.map abOf)).length ≤ 5 := by
  unfold Txt.join
  rw [StrLaws.glued_eq_join]
  have e0 : (Str.ofString "").length = 0 := by decide +kernel
  have := StrLaws.join_length_le (Str.ofString "") (part.map abOf)
  rw [ab_sum, e0] at this
  omega
theorem strs_are {ys : List Value} {us : List Str} (h : All2 StrIs ys us) : StrsAre ys us := by
  induction h with
  | nil => exact .nil
  | cons a _ ih => obtain ⟨t, rfl⟩ := a; exact .cons _ t ih
theorem all2_take {α : Type} {R : Value → α → Prop} {f : Int → α} {ys : List Value} {ns : List Int} {i : Nat} {x : Int} {v : Value} (hys : All2 R ys ((ns.take i).map f)) (hx : ns[i]? = some x) (hr : R v (f x)) : All2 R (ys ++ [v]) ((ns.take (i + 1)).map f) := by
  rw [List.take_add_one, hx, List.map_append]
  exact all2_snoc hys hr
theorem ints_size {vs : List Value} {ns : List Int} (h : IntsAre vs ns) (hl : ns.length ≤ 1000) : vs.toArray.size ≤ sizeLine := by
  rw [List.size_toArray, h.length, sizeLine_eq]
  omega
theorem tup3 {a b c : Int} {t u w : Tok} {i : Nat} {v : Value} (h : (List.toArray [Value.int a t, .int b u, .int c w])[i]? = some v) : ∃ x y, v = .int x y ∧ (x = a ∨ x = b ∨ x = c) := by
  match i, h with
  | 0, h => cases h; exact ⟨_, _, rfl, .inl rfl⟩
  | 1, h => cases h; exact ⟨_, _, rfl, .inr (.inl rfl)⟩
  | 2, h => cases h; exact ⟨_, _, rfl, .inr (.inr rfl)⟩
  | n + 3, h => simp at h
theorem ints4 {ws : List Value} {l cells : List Int} (h : IntsAre ws l) (hl : l.length = 4) (hs : ∀ x ∈ l, x ∈ cells) (hn : ∀ x ∈ cells, 0 ≤ x) : ∃ x0 x1 x2 x3 t0 t1 t2 t3, ws = [.int x0 t0, .int x1 t1, .int x2 t2, .int x3 t3] ∧ 0 ≤ x0 ∧ 0 ≤ x1 ∧ 0 ≤ x2 ∧ 0 ≤ x3 := by
  cases h with
  | nil => simp at hl
  | cons n t h => cases h with
    | nil => simp at hl
    | cons n t h => cases h with
      | nil => simp at hl
      | cons n t h => cases h with
        | nil => simp at hl
        | cons n t h => cases h with
          | nil => exact ⟨_, _, _, _, _, _, _, _, rfl, hn _ (hs _ (by simp)), hn _ (hs _ (by simp)), hn _ (hs _ (by simp)), hn _ (hs _ (by simp))⟩
          | cons n t h => simp at hl
theorem take_drop_len {cells : List Int} (hcl : cells.length = 18) {a : Int} (h0 : 0 ≤ a) (h1 : a ≤ 14) {l : List Int} (hl : l.length = min (min (a + 4).toNat cells.length - a.toNat) (cells.length - a.toNat)) : l.length = 4 := by
  obtain ⟨n, rfl⟩ := Int.eq_ofNat_of_zero_le h0
  have hn : n ≤ 14 := Int.ofNat_le.mp h1
  have e : ((n : Int) + 4).toNat = n + 4 := rfl
  rw [hl, hcl, Int.toNat_natCast, e, Nat.min_eq_left (Nat.add_le_add_right hn 4), Nat.add_sub_cancel_left, Nat.min_eq_left (Nat.le_sub_of_add_le' (Nat.add_le_add_right hn 4))]
/-- one name's two rules, as the ledger bears them -/
noncomputable def RuleIn (T : List (Addr × Obj)) (v : Value) : Prop := ∃ rr r0 r1 row0 row1, v = .ref rr ∧ (rr, listOf #[.ref r0, .ref r1] 0) ∈ T ∧ RowIn T r0 row0 ∧ RowIn T r1 row1 ∧ GoodRow row0 ∧ row0.length = 1 ∧ GoodRow row1 ∧ 2 ≤ row1.length
theorem RuleIn.mono {T T' : List (Addr × Obj)} (hs : ∀ p ∈ T, p ∈ T') {v : Value} (h : RuleIn T v) : RuleIn T' v := by
  obtain ⟨rr, r0, r1, row0, row1, e, h1, h2, h3, h4⟩ := h
  exact ⟨rr, r0, r1, row0, row1, e, hs _ h1, h2.mono hs, h3.mono hs, h4⟩
noncomputable def JR (T : List (Addr × Obj)) (i : Nat) (ys : List Value) (nw : List (Addr × Obj)) : Prop := (∀ p ∈ T, p ∈ nw) ∧ ys.length = i ∧ ∀ v ∈ ys, RuleIn nw v
theorem rules_end {h₀ h' : Heap} {L : Addr} {m : Str → Option Value} {s₁ : Shared} {tk : Nat} {I C D sx : Addr} {oI oC so : Obj} {ys : List Value} {i : Nat} {T nw T1 : List (Addr × Obj)} {rr r0 r1 : Addr} {row0 row1 : List Sym} (F : Fr h₀ L h' m) (N : News h₀ L h' T1)
    (hs : ∀ p ∈ (I, oI) :: (C, oC) :: (D, LCg.lst ys) :: nw, p ∈ T1) (off : ∀ p ∈ nw, p.1 ≠ I ∧ p.1 ≠ C ∧ p.1 ≠ D) (hS : (sx, so) ∈ nw) (hJ : JR T i ys nw)
    (hrr : (rr, listOf #[.ref r0, .ref r1] 0) ∈ T1) (hr0 : RowIn T1 r0 row0) (hr1 : RowIn T1 r1 row1) (g0 : GoodRow row0) (l0 : row0.length = 1) (g1 : GoodRow row1) (l1 : 2 ≤ row1.length)
    (fr : (∀ q ∈ (I, oI) :: (C, oC) :: (D, LCg.lst ys) :: nw, q.1 ≠ rr) ∧ (∀ q ∈ (I, oI) :: (C, oC) :: (D, LCg.lst ys) :: nw, q.1 ≠ r0) ∧ (∀ q ∈ (I, oI) :: (C, oC) :: (D, LCg.lst ys) :: nw, q.1 ≠ r1)) :
    LCg.CompEnd h₀ L m s₁ I oI C oC D (LCg.lst ys) (fun nw => (sx, so) ∈ nw) (fun y nw' => JR T (i + 1) (ys ++ [y]) nw') (.ref rr) { s₁ with heap := h', toks := tk } := by
  obtain ⟨vs0, n0, m0, a0⟩ := hr0
  obtain ⟨vs1, n1, m1, a1⟩ := hr1
  obtain ⟨j1, j2, j3⟩ := hJ
  have three : ∀ x : Addr, (∀ q ∈ (I, oI) :: (C, oC) :: (D, LCg.lst ys) :: nw, q.1 ≠ x) → x ≠ I ∧ x ≠ C ∧ x ≠ D := fun x h => ⟨Ne.symm (h _ (.head _)), Ne.symm (h _ (.tail _ (.head _))), Ne.symm (h _ (.tail _ (.tail _ (.head _))))⟩
  refine LCg.CompEnd.intro F N ((rr, listOf #[.ref r0, .ref r1] 0) :: (r0, listOf vs0.toArray n0) :: (r1, listOf vs1.toArray n1) :: nw) ?_ (LCg.Off3.of ?_) (.tail _ (.tail _ (.tail _ hS))) ⟨fun p hp => .tail _ (.tail _ (.tail _ (j1 p hp))), by simp [j2], ?_⟩
  · refine List.forall_mem_cons.mpr ⟨hs _ (.head _), List.forall_mem_cons.mpr ⟨hs _ (.tail _ (.head _)), List.forall_mem_cons.mpr ⟨hs _ (.tail _ (.tail _ (.head _))), List.forall_mem_cons.mpr ⟨hrr, List.forall_mem_cons.mpr ⟨m0, List.forall_mem_cons.mpr ⟨m1, fun p hp => hs p (.tail _ (.tail _ (.tail _ hp)))⟩⟩⟩⟩⟩⟩
  · exact List.forall_mem_cons.mpr ⟨three _ fr.1, List.forall_mem_cons.mpr ⟨three _ fr.2.1, List.forall_mem_cons.mpr ⟨three _ fr.2.2, off⟩⟩⟩
  · intro v hv
    rcases List.mem_append.mp hv with hv | hv
    · exact (j3 v hv).mono fun p hp => .tail _ (.tail _ (.tail _ hp))
    · rw [List.mem_singleton] at hv
      subst hv
      exact ⟨rr, r0, r1, row0, row1, rfl, .head _, ⟨vs0, n0, .tail _ (.head _), a0⟩, ⟨vs1, n1, .tail _ (.tail _ (.head _)), a1⟩, g0, l0, g1, l1⟩
theorem rules_stat {nw : List (Addr × Obj)} : ∀ {ys : List Value}, (∀ v ∈ ys, RuleIn nw v) → ∃ st, (∀ p ∈ st, p ∈ nw ∧ ∃ a n, p.2 = listOf a n) ∧ ∀ v ∈ ys, RuleIn st v
  | [], _ => ⟨[], List.forall_mem_nil _, List.forall_mem_nil _⟩
  | v :: ys, h => by
    obtain ⟨st, h1, h2⟩ := rules_stat (ys := ys) fun v hv => h v (.tail _ hv)
    obtain ⟨rr, r0, r1, row0, row1, e, h3, ⟨vs0, n0, m0, a0⟩, ⟨vs1, n1, m1, a1⟩, h6⟩ := h v (.head _)
    refine ⟨(rr, listOf #[.ref r0, .ref r1] 0) :: (r0, listOf vs0.toArray n0) :: (r1, listOf vs1.toArray n1) :: st, ?_, ?_⟩
    · exact List.forall_mem_cons.mpr ⟨⟨h3, _, _, rfl⟩, List.forall_mem_cons.mpr ⟨⟨m0, _, _, rfl⟩, List.forall_mem_cons.mpr ⟨⟨m1, _, _, rfl⟩, h1⟩⟩⟩
    · refine List.forall_mem_cons.mpr ⟨⟨rr, r0, r1, row0, row1, e, .head _, ⟨vs0, n0, .tail _ (.head _), a0⟩, ⟨vs1, n1, .tail _ (.tail _ (.head _)), a1⟩, h6⟩, fun v hv => (h2 v hv).mono fun p hp => .tail _ (.tail _ (.tail _ hp))⟩
/-- the ledger behind the rules: four cells, and the rules' lists as one list that nothing changes -/
theorem rules_ledger {h₀ h : Heap} {L D cB cL cT cS cC sx dx : Addr} {oB oL oT oS oC so dO : Obj} {vB vL vT vS : Option Value} {ys : List Value} {nw : List (Addr × Obj)} (N : News h₀ L h ((D, LCg.lst ys) :: nw)) (hsub : ∀ p ∈ [(sx, so), (dx, dO), (cB, oB), (cL, oL), (cT, oT), (cS, oS), (cC, oC)], p ∈ nw)
    (dB : oB.data = .cell vB) (dL : oL.data = .cell vL) (dT : oT.data = .cell vT) (dS : oS.data = .cell vS) (hys : ∀ v ∈ ys, RuleIn nw v) :
    ∃ st, News h₀ L h ((cB, oB) :: (cL, oL) :: (cT, oT) :: (cS, oS) :: st) ∧ (D, listOf ys.toArray ys.length) ∈ st ∧ (∀ v ∈ ys, RuleIn st v) ∧ (∀ p ∈ st, ∃ a n, p.2 = listOf a n) ∧
      (∀ p ∈ st, p.1 ≠ cB) ∧ (∀ p ∈ st, p.1 ≠ cL) ∧ (∀ p ∈ st, p.1 ≠ cT) ∧ (∀ p ∈ st, p.1 ≠ cS) := by
  obtain ⟨st, h1, h2⟩ := rules_stat hys
  have hl : ∀ p ∈ (D, listOf ys.toArray ys.length) :: st, p ∈ (D, LCg.lst ys) :: nw ∧ ∃ a n, p.2 = listOf a n := List.forall_mem_cons.mpr ⟨⟨.head _, _, _, rfl⟩, fun p hp => ⟨.tail _ (h1 p hp).1, (h1 p hp).2⟩⟩
  have off : ∀ {c : Addr} {oc : Obj} {v : Option Value}, (c, oc) ∈ nw → oc.data = .cell v → ∀ p ∈ (D, listOf ys.toArray ys.length) :: st, p.1 ≠ c := by
    intro c oc v hc hd p hp e
    obtain ⟨hm, a, n, he⟩ := hl p hp
    have g1 := (N p hm).1
    have g2 := (N _ (.tail _ hc)).1
    rw [e, g2] at g1
    have e3 : oc = listOf a n := (Option.some.inj g1).trans he
    rw [e3] at hd
    cases hd
  have b1 := hsub _ (.tail _ (.tail _ (.head _)))
  have b2 := hsub _ (.tail _ (.tail _ (.tail _ (.head _))))
  have b3 := hsub _ (.tail _ (.tail _ (.tail _ (.tail _ (.head _)))))
  have b4 := hsub _ (.tail _ (.tail _ (.tail _ (.tail _ (.tail _ (.head _))))))
  refine ⟨(D, listOf ys.toArray ys.length) :: st, kst_newsOf N ?_, .head _, fun v hv => (h2 v hv).mono fun p hp => .tail _ hp, fun p hp => (hl p hp).2, off b1 dB, off b2 dL, off b3 dT, off b4 dS⟩
  exact List.forall_mem_cons.mpr ⟨.tail _ b1, List.forall_mem_cons.mpr ⟨.tail _ b2, List.forall_mem_cons.mpr ⟨.tail _ b3, List.forall_mem_cons.mpr ⟨.tail _ b4, fun p hp => (hl p hp).1⟩⟩⟩⟩
theorem rules_fun {st : List (Addr × Obj)} {ys : List Value} (hl : ys.length = 3) (h : ∀ v ∈ ys, RuleIn st v) : ∃ R0 R1 : Nat → List Sym, ∀ j : Nat, j < 3 → ∃ rr a0 a1, ys[j]? = some (.ref rr) ∧ (rr, listOf #[.ref a0, .ref a1] 0) ∈ st ∧ RowIn st a0 (R0 j) ∧ RowIn st a1 (R1 j) ∧ GoodRow (R0 j) ∧ (R0 j).length = 1 ∧ GoodRow (R1 j) ∧ 2 ≤ (R1 j).length := by
  have h2 : ∀ j : Nat, ∃ row0 row1 : List Sym, j < 3 → ∃ rr a0 a1, ys[j]? = some (.ref rr) ∧ (rr, listOf #[.ref a0, .ref a1] 0) ∈ st ∧ RowIn st a0 row0 ∧ RowIn st a1 row1 ∧ GoodRow row0 ∧ row0.length = 1 ∧ GoodRow row1 ∧ 2 ≤ row1.length := by
    intro j
    by_cases hj : j < 3
    · have hjl : j < ys.length := by omega
      obtain ⟨rr, r0, r1, row0, row1, e, h3⟩ := h ys[j] (List.getElem_mem hjl)
      exact ⟨row0, row1, fun _ => ⟨rr, r0, r1, by rw [List.getElem?_eq_getElem hjl, e], h3⟩⟩
    · exact ⟨[], [], fun h => absurd h hj⟩
  obtain ⟨R0, h3⟩ := Classical.axiomOfChoice h2
  obtain ⟨R1, h4⟩ := Classical.axiomOfChoice h3
  exact ⟨R0, R1, h4⟩
noncomputable def JV (w : World) (vd : Addr) (T0 : List (Addr × Obj)) (R0 R1 : Nat → List Sym) (m₀ : Str → Option Value) (i : Nat) (m : Str → Option Value) (nw : List (Addr × Obj)) : Prop :=
  ∃ od kvs P, MIs [Str.ofString "name"] m₀ m ∧ nw = (vd, od) :: (P ++ T0) ∧ od.IsDictOf (PySem.strKind PySem.Challenge.rw_sj0196_01.row.prog w) kvs ∧ kvs.length ≤ i ∧ (∀ p ∈ P, PatObj p) ∧ (∀ p ∈ P ++ T0, p.1 ≠ vd) ∧ ∀ j, j < i → PatJ P kvs (R0 j) (R1 j) j
theorem JV.start {w : World} {vd : Addr} {od : Obj} {T0 : List (Addr × Obj)} {R0 R1 : Nat → List Sym} {m₀ : Str → Option Value} (h : od.IsDictOf (PySem.strKind PySem.Challenge.rw_sj0196_01.row.prog w) []) (hv : ∀ p ∈ T0, p.1 ≠ vd) : JV w vd T0 R0 R1 m₀ 0 m₀ ((vd, od) :: T0) :=
  ⟨od, [], [], MIs.refl, rfl, h, Nat.le_refl _, List.forall_mem_nil _, hv, fun j hj => absurd hj (Nat.not_lt_zero _)⟩
theorem swapU {α : Type} {a b : α} {U l : List α} : ∀ p ∈ a :: b :: (U ++ l), p ∈ U ++ (a :: b :: l) := by
  intro p hp
  simp only [List.mem_cons, List.mem_append] at hp ⊢
  rcases hp with h | h | h | h <;> simp [h]
theorem off_tups {h₀ h : Heap} {L vd : Addr} {od : Obj} {l U r : List (Addr × Obj)} (N : News h₀ L h l) (hv : (vd, od) ∈ l) (hc : od.cls = .type "dict") (hU : Tups U) (hs : ∀ p ∈ U, p ∈ l) (hr : ∀ p ∈ r, p.1 ≠ vd) : ∀ p ∈ U ++ r, p.1 ≠ vd := by
  intro p hp
  rcases List.mem_append.mp hp with hp | hp
  · intro e
    have g1 := (N p (hs p hp)).1
    have g2 := (N _ hv).1
    rw [e, g2] at g1
    have e2 : od = p.2 := Option.some.inj g1
    rw [e2, hU p hp] at hc
    exact absurd (Value.type.inj hc) (by decide)
  · exact hr p hp
theorem alt_ne {h₀ h : Heap} {L x vd : Addr} {vs : List Value} {od : Obj} {y : Addr × Obj} {r : List (Addr × Obj)} (N : News h₀ L h ((x, tupObj vs) :: y :: (vd, od) :: r)) (hc : od.cls = .type "dict") : @Ne Nat x vd := by
  intro e
  have g1 := (N _ (.head _)).1
  have g2 := (N _ (.tail _ (.tail _ (.head _)))).1
  dsimp only at g1 g2
  rw [show x = vd from e, g2] at g1
  rw [Option.some.inj g1] at hc
  exact absurd (Value.type.inj hc) (by decide)
theorem names_ledger {h₀ h : Heap} {L : Addr} {v t b l tr sb : Addr × Obj} {P st : List (Addr × Obj)} (N : News h₀ L h (v :: (P ++ (t :: b :: l :: tr :: sb :: st)))) : News h₀ L h (b :: l :: tr :: sb :: t :: v :: (P ++ st)) := kst_newsOf N fun p hp => by
  simp only [List.mem_cons, List.mem_append] at hp ⊢
  rcases hp with h | h | h | h | h | h | h | h <;> simp [h]
theorem vals_start {h₀ h : Heap} {L : Addr} {x y v : Addr × Obj} {r : List (Addr × Obj)} (N : News h₀ L h (x :: y :: v :: r)) : ∃ T0, T0 = y :: r ∧ News h₀ L h (v :: T0) := ⟨_, rfl, kst_newsOf N (List.forall_mem_cons.mpr ⟨.tail _ (.tail _ (.head _)), List.forall_mem_cons.mpr ⟨.tail _ (.head _), fun p hp => .tail _ (.tail _ (.tail _ hp))⟩⟩)⟩
theorem valueAt_stored_same {kvs : List (Str × Value)} {k : Str} {v : Value} : valueAt (stored kvs k v) k = some v := by
  unfold valueAt stored
  split
  · next h =>
    obtain ⟨p, hp, hk⟩ := List.any_eq_true.mp h
    have hk' : p.1 = k := by simpa using hk
    cases hf : (List.map (fun kv : Str × Value => if kv.1 = k then (kv.1, v) else kv) kvs).find? fun kv => decide (kv.1 = k) with
    | none =>
      have := List.find?_eq_none.mp hf (p.1, v) (List.mem_map.mpr ⟨p, hp, by rw [if_pos hk']⟩)
      exact absurd hk' (by simpa using this)
    | some q =>
      have h1 := List.find?_some hf
      obtain ⟨z, -, hz⟩ := List.mem_map.mp (List.mem_of_find?_eq_some hf)
      have h2 : q.1 = k := by simpa using h1
      by_cases hzk : z.1 = k
      · rw [if_pos hzk] at hz
        rw [← hz]
        rfl
      · rw [if_neg hzk] at hz
        exact absurd (hz ▸ h2) hzk
  · next h =>
    rw [List.find?_append]
    cases hf : kvs.find? fun kv => decide (kv.1 = k) with
    | none => simp
    | some q => exact absurd (List.any_eq_true.mpr ⟨q, List.mem_of_find?_eq_some hf, List.find?_some hf⟩) h
theorem stu_ne {i j : Nat} (hi : i < 3) (hj : j < i) : stu j ≠ stu i := by
  match i, j, hi, hj with
  | 1, 0, _, _ => decide +kernel
  | 2, 0, _, _ => decide +kernel
  | 2, 1, _, _ => decide +kernel
theorem names_end {w : World} {h₀ h' : Heap} {L vd I pv pd al nd0 nd1 : Addr} {od : Obj} {kvs : List (Str × Value)} {P U0 U1 T0 : List (Addr × Obj)} {R0 R1 : Nat → List Sym} {m₀ m' : Str → Option Value} {s₁ : Shared} {tk i : Nat} {a b gx : Int} {ux ta : Tok}
    (F : Fr h₀ L h' m') (N : News h₀ L h' ((pv, instObj 68 pd) :: (pd, patD gx ux al) :: (al, tupObj [.str (Str.ofString "alt") ta, .ref nd0, .ref nd1]) :: (I, itR a b) :: (vd, od) :: (U1 ++ (U0 ++ (P ++ T0))))) (hi : i < 3)
    (hod : od.IsDictOf (PySem.strKind PySem.Challenge.rw_sj0196_01.row.prog w) (stored kvs (Txt.item (Str.ofString "STU") (0 + (i : Int))) (.ref pv))) (hkv : kvs.length ≤ i) (hm : MIs [Str.ofString "name"] m₀ m')
    (hU0 : TupD U0) (hU1 : TupD U1) (hPo : ∀ p ∈ P, PatObj p) (hP : ∀ j, j < i → PatJ P kvs (R0 j) (R1 j) j) (h0 : PatIn U0 nd0 (rowPat (R0 i))) (h1 : PatIn U1 nd1 (rowPat (R1 i)))
    (lT : ∀ p ∈ T0, p.1 ≠ I) (lv : vd ≠ I) (ov : ∀ p ∈ U1 ++ (U0 ++ (P ++ T0)), p.1 ≠ vd) (n1 : @Ne Nat pv vd) (n2 : @Ne Nat pd vd) (n3 : @Ne Nat al vd) :
    UnrEnd h₀ L s₁ I (itR a b) (JV w vd T0 R0 R1 m₀ (i + 1)) { s₁ with heap := h', toks := tk } := by
  have hst : Txt.item (Str.ofString "STU") (0 + (i : Int)) = stu i := by rw [Int.zero_add]; exact stu_item hi
  rw [hst] at hod
  have hPo2 : ∀ p ∈ (pv, instObj 68 pd) :: (pd, patD gx ux al) :: (al, tupObj [.str (Str.ofString "alt") ta, .ref nd0, .ref nd1]) :: (U1 ++ (U0 ++ P)), PatObj p := by
    refine List.forall_mem_cons.mpr ⟨.inr (.inl ⟨_, rfl⟩), List.forall_mem_cons.mpr ⟨.inr (.inr ⟨_, _, _, rfl⟩), List.forall_mem_cons.mpr ⟨.inl ⟨_, rfl⟩, fun p hp => ?_⟩⟩⟩
    rcases List.mem_append.mp hp with hp | hp
    · exact .inl (hU1 p hp)
    · rcases List.mem_append.mp hp with hp | hp
      · exact .inl (hU0 p hp)
      · exact hPo p hp
  have e1 : (U1 ++ (U0 ++ P)) ++ T0 = U1 ++ (U0 ++ (P ++ T0)) := by simp
  have hsub : ∀ p ∈ (pv, instObj 68 pd) :: (pd, patD gx ux al) :: (al, tupObj [.str (Str.ofString "alt") ta, .ref nd0, .ref nd1]) :: (U1 ++ (U0 ++ P)), p ∈ (pv, instObj 68 pd) :: (pd, patD gx ux al) :: (al, tupObj [.str (Str.ofString "alt") ta, .ref nd0, .ref nd1]) :: (I, itR a b) :: (vd, od) :: (U1 ++ (U0 ++ (P ++ T0))) := by
    refine List.forall_mem_cons.mpr ⟨.head _, List.forall_mem_cons.mpr ⟨.tail _ (.head _), List.forall_mem_cons.mpr ⟨.tail _ (.tail _ (.head _)), fun p hp => .tail _ (.tail _ (.tail _ (.tail _ (.tail _ ?_))))⟩⟩⟩
    rw [← e1]
    exact List.mem_append_left _ hp
  have offI : ∀ p ∈ (pv, instObj 68 pd) :: (pd, patD gx ux al) :: (al, tupObj [.str (Str.ofString "alt") ta, .ref nd0, .ref nd1]) :: (U1 ++ (U0 ++ P)), p.1 ≠ I := by
    intro p hp e
    have g1 := (N p (hsub p hp)).1
    have g2 := (N (I, itR a b) (.tail _ (.tail _ (.tail _ (.head _))))).1
    rw [e, g2] at g1
    have e2 := Option.some.inj g1
    rcases hPo2 p hp with ⟨_, q⟩ | ⟨_, q⟩ | ⟨_, _, _, q⟩
    · rw [q] at e2
      have := congrArg Obj.cls e2
      exact absurd (Value.type.inj this) (by decide)
    · rw [q] at e2
      have := congrArg Obj.cls e2
      exact nomatch this
    · rw [q] at e2
      have := congrArg Obj.cls e2
      exact absurd (Value.type.inj this) (by decide)
  refine UnrEnd.intro F N ((vd, od) :: ((pv, instObj 68 pd) :: (pd, patD gx ux al) :: (al, tupObj [.str (Str.ofString "alt") ta, .ref nd0, .ref nd1]) :: (U1 ++ (U0 ++ P)) ++ T0)) ?_ ?_ ⟨od, _, _, hm, rfl, hod, Nat.le_trans stored_length (Nat.succ_le_succ hkv), hPo2, ?_, ?_⟩
  · refine List.forall_mem_cons.mpr ⟨.tail _ (.tail _ (.tail _ (.head _))), List.forall_mem_cons.mpr ⟨.tail _ (.tail _ (.tail _ (.tail _ (.head _)))), fun p hp => ?_⟩⟩
    rcases List.mem_append.mp hp with hp | hp
    · exact hsub p hp
    · exact .tail _ (.tail _ (.tail _ (.tail _ (.tail _ (List.mem_append_right _ (List.mem_append_right _ (List.mem_append_right _ hp)))))))
  · refine List.forall_mem_cons.mpr ⟨lv, fun p hp => ?_⟩
    rcases List.mem_append.mp hp with hp | hp
    · exact offI p hp
    · exact lT p hp
  · refine List.forall_mem_cons.mpr ⟨n1, List.forall_mem_cons.mpr ⟨n2, List.forall_mem_cons.mpr ⟨n3, fun p hp => ov p ?_⟩⟩⟩
    rw [← e1]
    exact hp
  · intro j hj
    rcases Nat.lt_or_ge j i with h | h
    · obtain ⟨pv', pd', hh, t', nd, k1, k2, k3, k4⟩ := hP j h
      have hs : ∀ p ∈ P, p ∈ (pv, instObj 68 pd) :: (pd, patD gx ux al) :: (al, tupObj [.str (Str.ofString "alt") ta, .ref nd0, .ref nd1]) :: (U1 ++ (U0 ++ P)) := fun p hp => .tail _ (.tail _ (.tail _ (List.mem_append_right _ (List.mem_append_right _ hp))))
      exact ⟨pv', pd', hh, t', nd, by rw [valueAt_stored (stu_ne hi h)]; exact k1, hs _ k2, hs _ k3, k4.mono hs⟩
    · obtain rfl : j = i := by omega
      refine ⟨pv, pd, _, _, al, ?_, .head _, .tail _ (.head _), .alt (.tail _ (.tail _ (.head _))) (h0.mono fun p hp => .tail _ (.tail _ (.tail _ (List.mem_append_right _ (List.mem_append_left _ hp))))) (h1.mono fun p hp => .tail _ (.tail _ (.tail _ (List.mem_append_left _ hp))))⟩
      exact valueAt_stored_same
end
section
open PyProof PyProof.V
noncomputable def JLong (w : World) (cB cL cT cS td : Addr) (oT oS : Obj) (vv : Addr × Obj) (S : List (Addr × Obj)) (n : Nat) (tr : Nat → Nat → Nat → Nat) (m₀ : Str → Option Value) (i : Nat) (m : Str → Option Value) (nw : List (Addr × Obj)) : Prop :=
  MIs [Str.ofString "name", Str.ofString "spans"] m₀ m ∧ ∃ M oB oL vB vL, LedT PySem.Challenge.rw_sj0196_01.row.prog w cB cL cT cS td oT oS vv S M oB oL nw ∧ oB.data = .cell vB ∧ oL.data = .cell vL ∧ Told M tr n (i + 1) 0 0
noncomputable def JBeg (w : World) (cB cL cT cS td : Addr) (oT oS oL : Obj) (p1 vv : Addr × Obj) (S : List (Addr × Obj)) (n l : Nat) (tr : Nat → Nat → Nat → Nat) (m₀ : Str → Option Value) (i : Nat) (m : Str → Option Value) (nw : List (Addr × Obj)) : Prop :=
  MIs [Str.ofString "name", Str.ofString "spans"] m₀ m ∧ ∃ M oB vB nw', nw = p1 :: nw' ∧ LedT PySem.Challenge.rw_sj0196_01.row.prog w cB cL cT cS td oT oS vv S M oB oL nw' ∧ oB.data = .cell vB ∧ Told M tr n l i 0
noncomputable def JNam (w : World) (cB cL cT cS td : Addr) (oT oS oL oB : Obj) (p1 p2 vv : Addr × Obj) (S : List (Addr × Obj)) (n l b : Nat) (tr : Nat → Nat → Nat → Nat) (m₀ : Str → Option Value) (i : Nat) (m : Str → Option Value) (nw : List (Addr × Obj)) : Prop :=
  MIs [Str.ofString "name", Str.ofString "spans"] m₀ m ∧ ∃ M nw', nw = p2 :: p1 :: nw' ∧ LedT PySem.Challenge.rw_sj0196_01.row.prog w cB cL cT cS td oT oS vv S M oB oL nw' ∧ Told M tr n l b i
theorem MIs.trans {S : List Str} {m₀ m : Str → Option Value} {u : Str → Option Value} (h : MIs S (fun z => if S.contains z = true then u z else m₀ z) m) : MIs S m₀ m := by
  obtain ⟨u', rfl⟩ := h
  refine ⟨u', funext fun z => ?_⟩
  by_cases q : S.contains z = true
  · simp only [if_pos q]
  · simp only [if_neg q]
theorem IntTab.cls {prog : Program} {w : World} {td : Addr} {ot : Obj} {M : List (List Int × Int)} (tab : IntTab prog w [(td, ot)] td M) : ot.cls = .type "dict" := by
  obtain ⟨-, o, es, ep, xs, hm, hc, -⟩ := tab
  have := List.mem_singleton.mp hm
  injection this with _ e
  rw [← e]
  exact hc.1
theorem JLong.start {w : World} {cB cL cT cS td : Addr} {oB oL oT oS ot : Obj} {vv : Addr × Obj} {S : List (Addr × Obj)} {n : Nat} {tr : Nat → Nat → Nat → Nat} {m₀ : Str → Option Value} {vB vL : Option Value} (dB : oB.data = .cell vB) (dL : oL.data = .cell vL) (tab : IntTab PySem.Challenge.rw_sj0196_01.row.prog w [(td, ot)] td []) :
    JLong w cB cL cT cS td oT oS vv S n tr m₀ 0 m₀ ((cB, oB) :: (cL, oL) :: (cT, oT) :: (cS, oS) :: (td, ot) :: vv :: S) :=
  ⟨MIs.refl, [], oB, oL, vB, vL, ⟨ot, [], rfl, IntTab.cls tab, List.forall_mem_nil _, tab⟩, dB, dL, Told.start⟩
theorem JBeg.start {w : World} {cB cL cT cS td : Addr} {oB oL oT oS ot : Obj} {p1 vv : Addr × Obj} {S KT : List (Addr × Obj)} {M : List (List Int × Int)} {n l : Nat} {tr : Nat → Nat → Nat → Nat} {m₀ : Str → Option Value} {vB : Option Value} (dB : oB.data = .cell vB) (hc : ot.cls = .type "dict") (hK : ∀ p ∈ KT, KeyObj p) (tab : IntTab PySem.Challenge.rw_sj0196_01.row.prog w ((td, ot) :: KT) td M) (ht : Told M tr n l 0 0) :
    JBeg w cB cL cT cS td oT oS oL p1 vv S n l tr m₀ 0 m₀ (p1 :: (cB, oB) :: (cL, oL) :: (cT, oT) :: (cS, oS) :: (td, ot) :: vv :: (KT ++ S)) :=
  ⟨MIs.refl, M, oB, vB, _, rfl, ⟨ot, KT, rfl, hc, hK, tab⟩, dB, ht⟩
theorem JNam.start {w : World} {cB cL cT cS td : Addr} {oB oL oT oS ot : Obj} {p1 p2 vv : Addr × Obj} {S KT : List (Addr × Obj)} {M : List (List Int × Int)} {n l b : Nat} {tr : Nat → Nat → Nat → Nat} {m₀ : Str → Option Value} (hc : ot.cls = .type "dict") (hK : ∀ p ∈ KT, KeyObj p) (tab : IntTab PySem.Challenge.rw_sj0196_01.row.prog w ((td, ot) :: KT) td M) (ht : Told M tr n l b 0) :
    JNam w cB cL cT cS td oT oS oL oB p1 p2 vv S n l b tr m₀ 0 m₀ (p2 :: p1 :: (cB, oB) :: (cL, oL) :: (cT, oT) :: (cS, oS) :: (td, ot) :: vv :: (KT ++ S)) :=
  ⟨MIs.refl, M, _, rfl, ⟨ot, KT, rfl, hc, hK, tab⟩, ht⟩
theorem ways_e {row : List Sym} {w : World} {mean : ExcName → Option Value} {mg mb : Str → Option Value} {dp un : Nat} {gd : Option (List Code)} {cn : Str} {cs : Scope} {L a : Addr} {ccd : Value} {cl : List (Str × Addr)} {outer : List Env} {A₀ : Around} {base h₀ : Heap} {m : Str → Option Value} {s : Shared} {Q E : Value → Shared → Prop}
  {news : List (Addr × Obj)} {r d : Addr} {subj : Str} {ts tb te : Tok} {b e : Nat} {D : List (PyData × PyData)} {tr : Nat → Nat → Nat → Nat} {R0 R1 : Nat → List Sym} {bi ei : Int}
  (B : Below A₀ base outer h₀) (F : Fr h₀ L s.heap m) (X : (stage.heap_1 w.params).In h₀) (N : News h₀ L s.heap news) (hm : RowIn news r row)
  (T : Top hd.view_1 (looseW hd.view_1 [Str.ofString "SnobolError", Str.ofString "plain_count"]) mean mg mb h₀) (hk : cs.kind = .function) (hr : dp + 100 < recursionLimit) (hu : un + 400 < cLine)
  (hg : GoodRow row) (hT : TupTab (PySem.intKind PySem.Challenge.rw_sj0196_01.row.prog w) PyData.int news d D) (hneed : Need D tr row b e) (gram : Gram subj R0 R1 tr) (hb : b + 1 ≤ subj.length) (he : e ≤ subj.length) (hsl : subj.length ≤ 5) (hbi : bi = (b : Int)) (hei : ei = (e : Int))
  (ret : ∀ t h' tk', Fr h₀ L h' m → News h₀ L h' news → Q (.int (waysL subj tr row b e : Nat) t) { s with heap := h', toks := tk' }) :
  wpAny (model PySem.Challenge.rw_sj0196_01.row.prog w) (ktrTop dp un gd cn cs L a ccd cl outer) (call (.ref 430) [.ref r, .str subj ts, .int bi tb, .int ei te, .ref d]) Q E s := by
  subst hbi hei
  obtain ⟨-, g2, g3, -⟩ := hg
  exact ways_c row B F X N hm T hk (by omega) (by omega) g3 g2 hT hneed gram.2.2.2.1 gram.2.2.2.2 (by omega) he (by omega) ret
noncomputable def JW (T : List (Addr × Obj)) (ws : List Int) (i : Nat) (ys : List Value) (nw : List (Addr × Obj)) : Prop := nw = T ∧ All2 IntIs ys (ws.take i)
theorem row_pick {S : List (Addr × Obj)} {a0 a1 : Addr} {row0 row1 : List Sym} {i : Nat} {v : Value} {f : List Sym → Int} (hv : (#[.ref a0, .ref a1] : Array Value)[i]? = some v) (h0 : RowIn S a0 row0) (h1 : RowIn S a1 row1) (g0 : GoodRow row0) (g1 : GoodRow row1) :
    ∃ a row, v = .ref a ∧ RowIn S a row ∧ GoodRow row ∧ [f row0, f row1].take (i + 1) = [f row0, f row1].take i ++ [f row] := by
  match i, hv with
  | 0, hv => cases hv; exact ⟨a0, row0, rfl, h0, g0, rfl⟩
  | 1, hv => cases hv; exact ⟨a1, row1, rfl, h1, g1, rfl⟩
  | i + 2, hv => simp at hv
theorem Gram.row0 {subj : Str} {R0 R1 : Nat → List Sym} {tr : Nat → Nat → Nat → Nat} (g : Gram subj R0 R1 tr) {j : Nat} (hj : j < 3) : GoodRow (R0 j) := by
  obtain ⟨c, hc, e⟩ := g.1 j hj
  rw [e]
  exact ⟨by simp, by simp, fun s hs => by rw [List.mem_singleton.mp hs]; exact hc, c, [], rfl⟩
theorem Gram.row1 {subj : Str} {R0 R1 : Nat → List Sym} {tr : Nat → Nat → Nat → Nat} (g : Gram subj R0 R1 tr) {j : Nat} (hj : j < 3) : GoodRow (R1 j) := (g.2.1 j hj).1
theorem tail9 {α : Type} {a b c d e f g h i : α} {l : List α} : ∀ p ∈ l, p ∈ a :: b :: c :: d :: e :: f :: g :: h :: i :: l := fun _ hp => .tail _ (.tail _ (.tail _ (.tail _ (.tail _ (.tail _ (.tail _ (.tail _ (.tail _ hp))))))))
theorem tail3 {α : Type} {a b c : α} {l : List α} : ∀ p ∈ l, p ∈ a :: b :: c :: l := fun _ hp => .tail _ (.tail _ (.tail _ hp))
theorem led_tab {α : Type} {b l t s x v : α} {K S : List α} : ∀ p ∈ x :: K, p ∈ b :: l :: t :: s :: x :: v :: (K ++ S) := List.forall_mem_cons.mpr ⟨.tail _ (.tail _ (.tail _ (.tail _ (.head _)))), fun _ hp => .tail _ (.tail _ (.tail _ (.tail _ (.tail _ (.tail _ (List.mem_append_left _ hp))))))⟩
theorem sum_intsE {prog : Program} {w : World} {A : Around} {E : Value → Shared → Prop} {s : Shared} {h₀ : Heap} {L l : Addr} {m : Str → Option Value} {news : List (Addr × Obj)} {vs : List Value} {ns : List Int} {z : Int} {Q : Value → Shared → Prop} (F : Fr h₀ L s.heap m) (N : News h₀ L s.heap news) (hh : A.handled = none) (hl : s.heap.IsList l vs.toArray) (hi : IntsAre vs ns) (hz : ns.sum = z)
    (h : ∀ h' tk t', Fr h₀ L h' m → News h₀ L h' news → Q (.int z t') { s with heap := h', toks := tk }) : wpAny (model prog w) A (call (.builtin "sum") [.ref l]) Q E s := by
  subst hz
  exact PyProof.Rows.LSm.sum_ints F N hh hl hi h
theorem gram_sum {subj : Str} {R0 R1 : Nat → List Sym} {tr : Nat → Nat → Nat → Nat} (g : Gram subj R0 R1 tr) {j b e : Nat} (hj : j < 3) (hb : b < e) (he : e ≤ subj.length) : [((waysL subj tr (R0 j) b e : Nat) : Int), ((waysL subj tr (R1 j) b e : Nat) : Int)].sum = ((tr j b e : Nat) : Int) := by
  rw [g.2.2.1 j hj b e hb he]
  simp
theorem keyJ {prog : Program} {w : World} {j b l : Nat} {t u v : Tok} {x : Obj} (hx : x = tupObj [.int (0 + (j : Int)) t, .int (b : Int) u, .int ((b : Int) + (l : Int)) v]) : TupKeyObj (PySem.intKind prog w) (key3 j b (b + l)) x := by
  have e : key3 j b (b + l) = [0 + (j : Int), (b : Int), (b : Int) + (l : Int)] := by
    unfold key3
    rw [Int.zero_add, Int.natCast_add]
  rw [e]
  exact intKey3 hx
theorem led_back {k1 k2 p3 p2 p1 pB pL pT pS vv : Addr × Obj} {td : Addr} {ot ot2 : Obj} {KT KT2 S N3 : List (Addr × Obj)} (hsub : ∀ p ∈ k1 :: k2 :: p3 :: p2 :: p1 :: pB :: pL :: pT :: pS :: (td, ot) :: vv :: (KT ++ S), p.1 ≠ td → p ∈ N3) (hot : (td, ot2) ∈ N3) (hK : ∀ p ∈ KT2, p ∈ N3)
    (n3 : p3.1 ≠ td) (n2 : p2.1 ≠ td) (n1 : p1.1 ≠ td) (nB : pB.1 ≠ td) (nL : pL.1 ≠ td) (nT : pT.1 ≠ td) (nS : pS.1 ≠ td) (nv : vv.1 ≠ td) (oS : ∀ p ∈ S, p.1 ≠ td) : ∀ p ∈ p3 :: p2 :: p1 :: pB :: pL :: pT :: pS :: (td, ot2) :: vv :: (KT2 ++ S), p ∈ N3 := by
  have up : ∀ {p : Addr × Obj}, p ∈ p3 :: p2 :: p1 :: pB :: pL :: pT :: pS :: (td, ot) :: vv :: (KT ++ S) → p.1 ≠ td → p ∈ N3 := fun hp hn => hsub _ (.tail _ (.tail _ hp)) hn
  refine List.forall_mem_cons.mpr ⟨up (.head _) n3, List.forall_mem_cons.mpr ⟨up (.tail _ (.head _)) n2, List.forall_mem_cons.mpr ⟨up (.tail _ (.tail _ (.head _))) n1, List.forall_mem_cons.mpr ⟨up (.tail _ (.tail _ (.tail _ (.head _)))) nB, List.forall_mem_cons.mpr ⟨up (.tail _ (.tail _ (.tail _ (.tail _ (.head _))))) nL,
    List.forall_mem_cons.mpr ⟨up (.tail _ (.tail _ (.tail _ (.tail _ (.tail _ (.head _)))))) nT, List.forall_mem_cons.mpr ⟨up (.tail _ (.tail _ (.tail _ (.tail _ (.tail _ (.tail _ (.head _))))))) nS, List.forall_mem_cons.mpr ⟨hot, List.forall_mem_cons.mpr ⟨up (by simp) nv, fun p hp => ?_⟩⟩⟩⟩⟩⟩⟩⟩⟩
  rcases List.mem_append.mp hp with hp | hp
  · exact hK p hp
  · exact up (tail9 _ (List.mem_append_right _ hp)) (oS p hp)
/-- the ledger as the matcher takes it -/
theorem match_led {h₀ h : Heap} {L : Addr} {a1 a2 a3 a4 a5 a6 a7 a8 a9 a10 a11 xl xh xd xr pB pL pT pS pD xv : Addr × Obj} {W : List (Addr × Obj)} (N : News h₀ L h (a1 :: a2 :: a3 :: a4 :: a5 :: a6 :: a7 :: a8 :: a9 :: a10 :: a11 :: xl :: xh :: xd :: xr :: pB :: pL :: pT :: pS :: pD :: xv :: W)) :
    News h₀ L h (xd :: xv :: xl :: a1 :: a2 :: a3 :: a4 :: a5 :: a6 :: a7 :: a8 :: a9 :: a10 :: a11 :: xh :: xr :: pB :: pL :: pT :: pS :: pD :: W) := kst_newsOf N (List.forall_mem_cons.mpr ⟨.tail _ (.tail _ (.tail _ (.tail _ (.tail _ (.tail _ (.tail _ (.tail _ (.tail _ (.tail _ (.tail _ (.tail _ (.tail _ (.head _))))))))))))), List.forall_mem_cons.mpr ⟨.tail _ (.tail _ (.tail _ (.tail _ (.tail _ (.tail _ (.tail _ (.tail _ (.tail _ (.tail _ (.tail _ (.tail _ (.tail _ (.tail _ (.tail _ (.tail _ (.tail _ (.tail _ (.tail _ (.tail _ (.head _)))))))))))))))))))), List.forall_mem_cons.mpr ⟨.tail _ (.tail _ (.tail _ (.tail _ (.tail _ (.tail _ (.tail _ (.tail _ (.tail _ (.tail _ (.tail _ (.head _))))))))))), List.forall_mem_cons.mpr ⟨.head _, List.forall_mem_cons.mpr ⟨.tail _ (.head _), List.forall_mem_cons.mpr ⟨.tail _ (.tail _ (.head _)), List.forall_mem_cons.mpr ⟨.tail _ (.tail _ (.tail _ (.head _))), List.forall_mem_cons.mpr ⟨.tail _ (.tail _ (.tail _ (.tail _ (.head _)))), List.forall_mem_cons.mpr ⟨.tail _ (.tail _ (.tail _ (.tail _ (.tail _ (.head _))))), List.forall_mem_cons.mpr ⟨.tail _ (.tail _ (.tail _ (.tail _ (.tail _ (.tail _ (.head _)))))), List.forall_mem_cons.mpr ⟨.tail _ (.tail _ (.tail _ (.tail _ (.tail _ (.tail _ (.tail _ (.head _))))))), List.forall_mem_cons.mpr ⟨.tail _ (.tail _ (.tail _ (.tail _ (.tail _ (.tail _ (.tail _ (.tail _ (.head _)))))))), List.forall_mem_cons.mpr ⟨.tail _ (.tail _ (.tail _ (.tail _ (.tail _ (.tail _ (.tail _ (.tail _ (.tail _ (.head _))))))))), List.forall_mem_cons.mpr ⟨.tail _ (.tail _ (.tail _ (.tail _ (.tail _ (.tail _ (.tail _ (.tail _ (.tail _ (.tail _ (.head _)))))))))), List.forall_mem_cons.mpr ⟨.tail _ (.tail _ (.tail _ (.tail _ (.tail _ (.tail _ (.tail _ (.tail _ (.tail _ (.tail _ (.tail _ (.tail _ (.head _)))))))))))), List.forall_mem_cons.mpr ⟨.tail _ (.tail _ (.tail _ (.tail _ (.tail _ (.tail _ (.tail _ (.tail _ (.tail _ (.tail _ (.tail _ (.tail _ (.tail _ (.tail _ (.head _)))))))))))))), List.forall_mem_cons.mpr ⟨.tail _ (.tail _ (.tail _ (.tail _ (.tail _ (.tail _ (.tail _ (.tail _ (.tail _ (.tail _ (.tail _ (.tail _ (.tail _ (.tail _ (.tail _ (.head _))))))))))))))), List.forall_mem_cons.mpr ⟨.tail _ (.tail _ (.tail _ (.tail _ (.tail _ (.tail _ (.tail _ (.tail _ (.tail _ (.tail _ (.tail _ (.tail _ (.tail _ (.tail _ (.tail _ (.tail _ (.head _)))))))))))))))), List.forall_mem_cons.mpr ⟨.tail _ (.tail _ (.tail _ (.tail _ (.tail _ (.tail _ (.tail _ (.tail _ (.tail _ (.tail _ (.tail _ (.tail _ (.tail _ (.tail _ (.tail _ (.tail _ (.tail _ (.head _))))))))))))))))), List.forall_mem_cons.mpr ⟨.tail _ (.tail _ (.tail _ (.tail _ (.tail _ (.tail _ (.tail _ (.tail _ (.tail _ (.tail _ (.tail _ (.tail _ (.tail _ (.tail _ (.tail _ (.tail _ (.tail _ (.tail _ (.head _)))))))))))))))))), List.forall_mem_cons.mpr ⟨.tail _ (.tail _ (.tail _ (.tail _ (.tail _ (.tail _ (.tail _ (.tail _ (.tail _ (.tail _ (.tail _ (.tail _ (.tail _ (.tail _ (.tail _ (.tail _ (.tail _ (.tail _ (.tail _ (.head _))))))))))))))))))), fun _ hp => .tail _ (.tail _ (.tail _ (.tail _ (.tail _ (.tail _ (.tail _ (.tail _ (.tail _ (.tail _ (.tail _ (.tail _ (.tail _ (.tail _ (.tail _ (.tail _ (.tail _ (.tail _ (.tail _ (.tail _ (.tail _ (hp)))))))))))))))))))))⟩⟩⟩⟩⟩⟩⟩⟩⟩⟩⟩⟩⟩⟩⟩⟩⟩⟩⟩⟩⟩)
theorem w_pat {T : List (Addr × Obj)} {a0 a1 a2 a3 a4 a5 a6 xa da xb db : Addr} {t0 t1 t2 t3 t4 t5 t6 u6 : Tok} {ga1 ga2 ga3 gb1 gb2 gb3 : Int} {ua1 ua2 ua3 ua4 ua5 ub1 ub2 ub3 ub4 ub5 : Tok}
    (h0 : (a0, tupObj [.str (Str.ofString "cat") t0, .ref a1, .ref a2]) ∈ T) (h1 : (a1, tupObj [.str (Str.ofString "cursor") t1, .ref xb]) ∈ T) (h2 : (a2, tupObj [.str (Str.ofString "cat") t2, .ref a3, .ref a6]) ∈ T) (h3 : (a3, tupObj [.str (Str.ofString "now") t3, .ref a4, .ref xa]) ∈ T)
    (h4 : (a4, tupObj [.str (Str.ofString "delay") t4, .ref a5]) ∈ T) (h5 : (a5, tupObj [.str (Str.ofString "name") t5, .str (Str.ofString "S") u6]) ∈ T) (h6 : (a6, tupObj [.str (Str.ofString "fail") t6]) ∈ T)
    (hxb : (xb, instObj 110 db) ∈ T) (hdb : (db, refD gb1 gb2 gb3 ub1 ub2 ub3 ub4 ub5 (Str.ofString "I")) ∈ T) (hxa : (xa, instObj 110 da) ∈ T) (hda : (da, refD ga1 ga2 ga3 ua1 ua2 ua3 ua4 ua5 (Str.ofString "V")) ∈ T) : PatIn T a0 wPat :=
  .cat h0 (.cursor h1 ⟨db, _, _, _, _, _, _, _, _, hxb, hdb⟩) (.cat h2 (.now h3 (.delay h4 h5) ⟨da, _, _, _, _, _, _, _, _, hxa, hda⟩) (.fail h6))
theorem span_le {n i b : Nat} (hi : i < n) (hb : b < n - i) : b + (i + 1) ≤ n := by omega
theorem span_le1 {n i b : Nat} (hi : i < n) (hb : b < n - i) : b + 1 ≤ n := by omega
theorem told_m {M : List (List Int × Int)} {tr : Nat → Nat → Nat → Nat} {n l b j : Nat} (h : Told M tr n l b j) (hn : n ≤ 5) (hb : b + l ≤ n) (hj : j < 3) : M.length ≤ 1000000 := by
  have := h.2.2
  omega
theorem small5 {n : Nat} (h : n ≤ 5) : Builtin.Range.small 1 ((n : Int) + 1) 1 = true ∧ Builtin.Range.rangeSize 1 ((n : Int) + 1) 1 = (n : Int) ∧ Builtin.Range.small 0 ((n : Int) + 1) 1 = true ∧ Builtin.Range.rangeSize 0 ((n : Int) + 1) 1 = ((n + 1 : Nat) : Int) :=
  have c : (n : Int) + 1 ≤ 1000000 := by omega
  have r1 := rng n (by decide) (Int.add_comm _ _) c
  have r2 := rng (a := 0) (b := (n : Int) + 1) (n + 1) (by decide) (Int.zero_add _).symm c
  ⟨r1.1, r1.2, r2.1, r2.2⟩
theorem small5b {n i : Nat} (h : n ≤ 5) (hi : i < n) : Builtin.Range.small 0 ((n : Int) - ((i + 1 : Nat) : Int) + 1) 1 = true ∧ Builtin.Range.rangeSize 0 ((n : Int) - ((i + 1 : Nat) : Int) + 1) 1 = ((n - i : Nat) : Int) :=
  rng (n - i) (by decide) (by omega) (by omega)
end
section
open PyProof PyProof.V
/-! the end of law 1: the log's loop, the comprehension over the table, the last comparison -/
noncomputable def LedM (prog : Program) (w : World) (xs md : Addr) (W : List (Addr × Obj)) (S1 : List Int) (M : List (List Int × Int)) (nw : List (Addr × Obj)) : Prop :=
  ∃ vs n om KM, nw = (xs, listOf vs.toArray n) :: (md, om) :: (KM ++ W) ∧ IntsAre vs S1 ∧ om.cls = .type "dict" ∧ (∀ p ∈ KM, KeyObj p) ∧ IntTab prog w ((md, om) :: KM) md M
noncomputable def WfSt (subj : Str) (S1 : List Int) (r : List (Str × Val)) : Prop := (S1 = [] ∧ WF subj none r) ∨ ∃ (b : Nat) (S0 : List Int), S1 = S0 ++ [(b : Int)] ∧ WF subj (some b) r
theorem slice_again {x : Str} {b e : Nat} (h1 : b < e) (h2 : e ≤ x.length) : Txt.slice x (some (b : Int)) (some ((b : Int) + ((Txt.slice x (some (b : Int)) (some (e : Int))).length : Int))) = Txt.slice x (some (b : Int)) (some (e : Int)) := by
  rw [slice_len (by omega) h2]
  have : (b : Int) + ((e - b : Nat) : Int) = (e : Int) := by omega
  rw [this]
theorem WfSt.event {subj : Str} {S1 : List Int} {e : Str × Val} {r : List (Str × Val)} (h : WfSt subj S1 (e :: r)) :
    (∃ b : Nat, e = (Str.ofString "I", .int (b : Int)) ∧ WfSt subj (S1 ++ [(b : Int)]) r) ∨
    ∃ (b : Nat) (S0 : List Int) (v : Str), S1 = S0 ++ [(b : Int)] ∧ e = (Str.ofString "V", .str v) ∧ 0 < v.length ∧ b + v.length ≤ subj.length ∧ Txt.slice subj (some (b : Int)) (some ((b : Int) + (v.length : Int))) = v ∧ WfSt subj S1 r := by
  obtain ⟨k, val⟩ := e
  cases val with
  | int i =>
    rcases h with ⟨rfl, hk, b, rfl, hb, hr⟩ | ⟨b0, S0, rfl, hk, b, rfl, hb, hr⟩
    · exact .inl ⟨b, by rw [hk], .inr ⟨b, [], rfl, hr⟩⟩
    · exact .inl ⟨b, by rw [hk], .inr ⟨b, _, rfl, hr⟩⟩
  | str v =>
    rcases h with ⟨rfl, h⟩ | ⟨b, S0, rfl, hk, ⟨e, h1, h2, rfl⟩, hr⟩
    · exact absurd h id
    · have hl := slice_len (x := subj) (Nat.le_of_lt h1) h2
      exact .inr ⟨b, S0, _, rfl, by rw [hk], by omega, by omega, slice_again h1 h2, .inr ⟨b, S0, rfl, hr⟩⟩
noncomputable def JLog (w : World) (xs md : Addr) (W : List (Addr × Obj)) (subj : Str) (evs : List (Str × Val)) (m₀ : Str → Option Value) (i : Nat) (m : Str → Option Value) (nw : List (Addr × Obj)) : Prop :=
  MIs [Str.ofString "key", Str.ofString "value", Str.ofString "here"] m₀ m ∧ ∃ S1 M, LedM PySem.Challenge.rw_sj0196_01.row.prog w xs md W S1 M nw ∧ (evs.take i).foldl evStep ([], []) = (S1, M) ∧ WfSt subj S1 (evs.drop i) ∧ S1.length ≤ i ∧ M.length ≤ i
theorem JLog.start {w : World} {xs md : Addr} {W : List (Addr × Obj)} {om : Obj} {subj : Str} {evs : List (Str × Val)} {m₀ : Str → Option Value} (hc : om.cls = .type "dict") (T : IntTab PySem.Challenge.rw_sj0196_01.row.prog w [(md, om)] md []) (hwf : WF subj none evs) :
    JLog w xs md W subj evs m₀ 0 m₀ ((xs, listOf #[] 0) :: (md, om) :: W) :=
  ⟨MIs.refl, [], [], ⟨[], 0, om, [], rfl, .nil, hc, List.forall_mem_nil _, T⟩, rfl, .inl ⟨rfl, hwf⟩, Nat.le_refl _, Nat.le_refl _⟩
theorem fold_snoc {evs : List (Str × Val)} {i : Nat} {e : Str × Val} {x : EvSt} (ht : evs.take (i + 1) = evs.take i ++ [e]) (hf : (evs.take i).foldl evStep ([], []) = x) : (evs.take (i + 1)).foldl evStep ([], []) = evStep x e := by
  rw [ht, List.foldl_append, hf]
  rfl
theorem JLog.int {w : World} {xs md : Addr} {W : List (Addr × Obj)} {subj : Str} {evs : List (Str × Val)} {m₀ m : Str → Option Value} {i n b : Nat} {vs : List Value} {om : Obj} {KM : List (Addr × Obj)} {S1 : List Int} {M : List (List Int × Int)} {t : Tok} {arr : Array Value} (ha : arr = (vs ++ [Value.int (b : Int) t]).toArray)
    (hm : MIs [Str.ofString "key", Str.ofString "value", Str.ofString "here"] m₀ m) (hi : IntsAre vs S1) (hc : om.cls = .type "dict") (hK : ∀ p ∈ KM, KeyObj p) (T : IntTab PySem.Challenge.rw_sj0196_01.row.prog w ((md, om) :: KM) md M)
    (hf : (evs.take i).foldl evStep ([], []) = (S1, M)) (ht : evs.take (i + 1) = evs.take i ++ [(Str.ofString "I", .int (b : Int))]) (hw : WfSt subj (S1 ++ [(b : Int)]) (evs.drop (i + 1))) (h1 : S1.length ≤ i) (h2 : M.length ≤ i) :
    JLog w xs md W subj evs m₀ (i + 1) m ((xs, listOf arr n) :: (md, om) :: (KM ++ W)) := by
  subst ha
  exact ⟨hm, S1 ++ [(b : Int)], M, ⟨_, _, om, KM, rfl, hi.append (.cons _ _ .nil), hc, hK, T⟩, fold_snoc ht hf, hw, by rw [List.length_append]; exact Nat.succ_le_succ h1, Nat.le_succ_of_le h2⟩
theorem JLog.str {w : World} {xs md : Addr} {W : List (Addr × Obj)} {subj v : Str} {evs : List (Str × Val)} {m₀ m : Str → Option Value} {i n b : Nat} {vs : List Value} {om : Obj} {KM : List (Addr × Obj)} {S0 S1 : List Int} {M : List (List Int × Int)}
    (hm : MIs [Str.ofString "key", Str.ofString "value", Str.ofString "here"] m₀ m) (hi : IntsAre vs S1) (hS : S1 = S0 ++ [(b : Int)]) (hc : om.cls = .type "dict") (hK : ∀ p ∈ KM, KeyObj p) (T : IntTab PySem.Challenge.rw_sj0196_01.row.prog w ((md, om) :: KM) md (putM M [0, (b : Int), (b : Int) + (v.length : Int)] (lk M [0, (b : Int), (b : Int) + (v.length : Int)] + 1)))
    (hf : (evs.take i).foldl evStep ([], []) = (S1, M)) (ht : evs.take (i + 1) = evs.take i ++ [(Str.ofString "V", .str v)]) (hw : WfSt subj S1 (evs.drop (i + 1))) (h1 : S1.length ≤ i) (h2 : M.length ≤ i) :
    JLog w xs md W subj evs m₀ (i + 1) m ((xs, listOf vs.toArray n) :: (md, om) :: (KM ++ W)) := by
  refine ⟨hm, S1, _, ⟨_, _, om, KM, rfl, hi, hc, hK, T⟩, ?_, hw, Nat.le_succ_of_le h1, Nat.le_trans (putM_length _ _ _) (Nat.succ_le_succ h2)⟩
  rw [fold_snoc ht hf]
  show (S1, bump M [0, S1.getLastD 0, S1.getLastD 0 + (v.length : Int)]) = _
  rw [hS, getLastD_snoc]
  rfl
/-- the last of the starts -/
theorem last_start {vs : List Value} {S1 S0 : List Int} {b : Nat} (h : IntsAre vs S1) (hS : S1 = S0 ++ [(b : Int)]) : ∃ t, vs[vs.length - 1]? = some (.int (b : Int) t) ∧ 0 < vs.length := by
  have hl := h.length
  rw [hS, List.length_append, List.length_singleton] at hl
  obtain ⟨t, ht⟩ := h.get (vs.length - 1) (b : Int) (by rw [hS, hl, Nat.add_sub_cancel, List.getElem?_append_right (Nat.le_refl _)]; simp)
  exact ⟨t, ht, by omega⟩
theorem lk_flat {M : List (List Int × Int)} {k : List Int} {v : Value} (h : Flat v ((lookup (encTuple PyData.int k) (encM M)).getD (.int 0))) : ∃ t, v = .int (lk M k) t := by
  rw [lookup_encM] at h
  refine flat_int_inv ?_
  unfold lk
  cases e : lookM M k with
  | none => rw [e] at h; exact h
  | some n => rw [e] at h; exact h
/-- a table's entries, one after another -/
theorem IntTab.entries {prog : Program} {w : World} {news : List (Addr × Obj)} {td : Addr} {M : List (List Int × Int)} (T : IntTab prog w news td M) : ∃ o es ep, ∃ ks : List (List Int), (td == sysModules) = false ∧ (td, o) ∈ news ∧ o.ExactDict ∧ o.data = .dict es ep ∧ es.size = ks.length ∧ ks.length ≤ M.length ∧
    (∀ (i : Nat) e, es[i]? = some e → ∃ k a ok n, ks[i]? = some k ∧ e.key = .ref a ∧ (a, ok) ∈ news ∧ TupKeyObj (PySem.intKind prog w) k ok ∧ lookM M k = some n) ∧ ∀ k v, lookM M k = some v → k ∈ ks := by
  obtain ⟨lo, o, es, ep, xs, hm, hc, hd, he, hn, hk, hf⟩ := T
  have hlook : ∀ x ∈ xs, ∃ n, lookM M x.1 = some n := fun x hx => by
    have h1 : valueAt (kvsOf xs) x.1 = some x.2.2 := by rw [valueAt_kvsOf, atKey_of_mem hn hx]; rfl
    obtain ⟨dv, h2, -⟩ := hf.there same_encI h1
    rw [lookup_encM] at h2
    obtain ⟨n, h4, -⟩ := Option.map_eq_some_iff.mp h2
    exact ⟨n, h4⟩
  refine ⟨o, es, ep, xs.map (·.1), lo, hm, hc, hd, ?_, ?_, ?_, ?_⟩
  · rw [← Array.length_toList, he, List.length_map, List.length_map]
  · rw [← List.length_map (f := fun p : List Int × Int => p.1) (as := M)]
    refine nodup_le hn fun k hk' => ?_
    obtain ⟨x, hx, e⟩ := List.mem_map.mp hk'
    subst e
    obtain ⟨n, h⟩ := hlook x hx
    unfold lookM at h
    obtain ⟨p, hp, -⟩ := Option.map_eq_some_iff.mp h
    exact List.mem_map.mpr ⟨p, List.mem_of_find?_eq_some hp, by simpa using List.find?_some hp⟩
  · intro i e hi
    have h1 : (xs.map (entryOfKey (tupleKind (PySem.intKind prog w))))[i]? = some e := by rw [← he, Array.getElem?_toList]; exact hi
    rw [List.getElem?_map] at h1
    obtain ⟨x, hx, rfl⟩ := Option.map_eq_some_iff.mp h1
    have hmem := List.mem_of_getElem? hx
    obtain ⟨ok, h2, h3⟩ := hk x hmem
    obtain ⟨n, h4⟩ := hlook x hmem
    exact ⟨x.1, x.2.1, ok, n, by rw [List.getElem?_map, hx]; rfl, rfl, h2, h3, h4⟩
  · intro k v h
    have h1 : lookup (encTuple PyData.int k) (encM M) = some (.int v) := by rw [lookup_encM, h]; rfl
    obtain ⟨u, h2, -⟩ := hf.of_lookup same_encI h1
    rw [valueAt_kvsOf] at h2
    obtain ⟨p, h3, -⟩ := Option.map_eq_some_iff.mp h2
    unfold atKey at h3
    obtain ⟨y, hy, -⟩ := Option.map_eq_some_iff.mp h3
    have e : y.1 = k := by simpa using List.find?_some hy
    exact List.mem_map.mpr ⟨y, List.mem_of_find?_eq_some hy, e⟩
noncomputable def JDue (prog : Program) (w : World) (Mt : List (List Int × Int)) (ks : List (List Int)) (W2 : List (Addr × Obj)) (i : Nat) (ys : List Value) (nw : List (Addr × Obj)) : Prop :=
  ∃ tl ps, nw = tl ++ W2 ∧ Tups tl ∧ All2 (PairIn prog w nw) ys ps ∧ (∀ x ∈ ps, lookM Mt x.1 = some x.2 ∧ x.1.head? = some 0 ∧ 0 < x.2) ∧ (∀ (j : Nat) k v, j < i → ks[j]? = some k → lookM Mt k = some v → k.head? = some 0 → 0 < v → (k, v) ∈ ps) ∧ ps.length ≤ i
theorem JDue.start {prog : Program} {w : World} {Mt : List (List Int × Int)} {ks : List (List Int)} {W2 : List (Addr × Obj)} : JDue prog w Mt ks W2 0 [] W2 :=
  ⟨[], [], rfl, Tups.nil, .nil, List.forall_mem_nil _, fun _ _ _ h => absurd h (Nat.not_lt_zero _), Nat.le_refl _⟩
theorem JDue.skip {prog : Program} {w : World} {Mt : List (List Int × Int)} {ks : List (List Int)} {W2 nw : List (Addr × Obj)} {i : Nat} {ys : List Value} {k : List Int} {n : Int} (h : JDue prog w Mt ks W2 i ys nw) (hk : ks[i]? = some k) (hn : lookM Mt k = some n) (hf : ¬ (k.head? = some 0 ∧ 0 < n)) : JDue prog w Mt ks W2 (i + 1) ys nw := by
  obtain ⟨tl, ps, e, ht, ha, h1, h2, hl⟩ := h
  refine ⟨tl, ps, e, ht, ha, h1, fun j k' v hj hk' hv hh hp => ?_, Nat.le_succ_of_le hl⟩
  rcases Nat.lt_or_ge j i with q | q
  · exact h2 j k' v q hk' hv hh hp
  · obtain rfl : j = i := by omega
    rw [hk] at hk'
    cases hk'
    rw [hn] at hv
    cases hv
    exact absurd ⟨hh, hp⟩ hf
theorem JDue.add {prog : Program} {w : World} {Mt : List (List Int × Int)} {ks : List (List Int)} {W2 nw : List (Addr × Obj)} {i : Nat} {ys : List Value} {k : List Int} {n : Int} {p a : Addr} {ok : Obj} {t : Tok} (h : JDue prog w Mt ks W2 i ys nw) (hk : ks[i]? = some k) (hn : lookM Mt k = some n) (h0 : k.head? = some 0) (hp : 0 < n)
    (ha : (a, ok) ∈ W2) (tk : TupKeyObj (PySem.intKind prog w) k ok) : JDue prog w Mt ks W2 (i + 1) (ys ++ [.ref p]) ((p, tupObj [.ref a, .int n t]) :: nw) := by
  obtain ⟨tl, ps, rfl, ht, hA, h1, h2, hl⟩ := h
  refine ⟨(p, tupObj [.ref a, .int n t]) :: tl, ps ++ [(k, n)], rfl, Tups.cons rfl ht, all2_snoc (all2_mono (fun _ _ q => q.mono fun _ h => .tail _ h) hA) ⟨p, a, ok, t, rfl, .head _, .tail _ (List.mem_append_right _ ha), tk⟩, ?_, ?_, by rw [List.length_append]; exact Nat.succ_le_succ hl⟩
  · intro x hx
    rcases List.mem_append.mp hx with hx | hx
    · exact h1 x hx
    · rw [List.mem_singleton.mp hx]
      exact ⟨hn, h0, hp⟩
  · intro j k' v hj hk' hv hh hp'
    rcases Nat.lt_or_ge j i with q | q
    · exact List.mem_append_left _ (h2 j k' v q hk' hv hh hp')
    · obtain rfl : j = i := by omega
      rw [hk] at hk'
      cases hk'
      rw [hn] at hv
      cases hv
      exact List.mem_append_right _ (.head _)
theorem range_ints {vs : List Value} {n : Nat} {f : Nat → Int} (h : IntsAre vs ((List.range n).map f)) : vs.length = n := by rw [h.length, List.length_map, List.length_range]
/-- a key of three ints, opened -/
theorem tupKey_three {prog : Program} {w : World} {i b e : Nat} {ok : Obj} (h : TupKeyObj (PySem.intKind prog w) (key3 i b e) ok) : ∃ t u v n, ok.cls = .type "tuple" ∧ ok.data = .seq #[.int (i : Int) t, .int (b : Int) u, .int (e : Int) v] n := by
  obtain ⟨hc, items, n, hd, hi⟩ := h
  unfold key3 at hi
  obtain ⟨l⟩ := items
  dsimp only at hi
  cases hi with
  | cons a1 hi => cases hi with
    | cons a2 hi => cases hi with
      | cons a3 hi => cases hi with
        | nil =>
          obtain ⟨t, rfl⟩ := Value.isInt_shape a1
          obtain ⟨u, rfl⟩ := Value.isInt_shape a2
          obtain ⟨v, rfl⟩ := Value.isInt_shape a3
          exact ⟨t, u, v, n, hc, hd⟩
/-- what stands behind the match, as one list that nothing changes -/
theorem rest_led {h₀ h : Heap} {L : Addr} {pd pv pl a1 a2 a3 a4 a5 a6 a7 a8 a9 a10 a11 xh xr pB pL pT pS pD : Addr × Obj} {tl KT S : List (Addr × Obj)} {log : List Value} {evs : List (Str × Val)} (N : News h₀ L h (pd :: pv :: pl :: (tl ++ (a1 :: a2 :: a3 :: a4 :: a5 :: a6 :: a7 :: a8 :: a9 :: a10 :: a11 :: xh :: xr :: pB :: pL :: pT :: pS :: pD :: (KT ++ S)))))
    (hl : All2 (LogIn (tl ++ (a1 :: a2 :: a3 :: a4 :: a5 :: a6 :: a7 :: a8 :: a9 :: a10 :: a11 :: xh :: xr :: pB :: pL :: pT :: pS :: pD :: (KT ++ S)))) log evs) :
    ∃ W, News h₀ L h W ∧ pd ∈ W ∧ pl ∈ W ∧ xh ∈ W ∧ pT ∈ W ∧ pS ∈ W ∧ (∀ p ∈ pD :: KT, p ∈ W) ∧ All2 (LogIn W) log evs := by
  refine ⟨_, N, .head _, .tail _ (.tail _ (.head _)), by simp, by simp, by simp, List.forall_mem_cons.mpr ⟨by simp, fun p hp => by simp [hp]⟩, all2_mono (fun _ _ q => q.mono fun _ h => .tail _ (.tail _ (.tail _ h))) hl⟩
theorem logled {h₀ h : Heap} {L : Addr} {x y z : Addr × Obj} {W : List (Addr × Obj)} (N : News h₀ L h (z :: y :: x :: W)) : News h₀ L h (x :: y :: W) := kst_newsOf N fun p hp => by
  simp only [List.mem_cons] at hp ⊢
  rcases hp with h | h | h <;> simp [h]
theorem match_okT {a1 a2 a3 a4 a5 a6 a7 a8 a9 a10 a11 : Addr × Obj} {st : List (Addr × Obj)} (c1 : a1.2.cls = .type "tuple") (c2 : a2.2.cls = .type "tuple") (c3 : a3.2.cls = .type "tuple") (c4 : a4.2.cls = .type "tuple") (c7 : a7.2.cls = .type "tuple") (c10 : a10.2.cls = .type "tuple") (c11 : a11.2.cls = .type "tuple") :
    ∀ p ∈ a1 :: a2 :: a3 :: a4 :: a5 :: a6 :: a7 :: a8 :: a9 :: a10 :: a11 :: st, OkT (a5 :: a6 :: a8 :: a9 :: st) p := by
  intro p hp
  simp only [List.mem_cons] at hp
  rcases hp with h | h | h | h | h | h | h | h | h | h | h | h
  · exact .inl (h ▸ c1)
  · exact .inl (h ▸ c2)
  · exact .inl (h ▸ c3)
  · exact .inl (h ▸ c4)
  · exact .inr (by simp [h])
  · exact .inr (by simp [h])
  · exact .inl (h ▸ c7)
  · exact .inr (by simp [h])
  · exact .inr (by simp [h])
  · exact .inl (h ▸ c10)
  · exact .inl (h ▸ c11)
  · exact .inr (by simp [h])
theorem match_sub {a1 a2 a3 a4 a5 a6 a7 a8 a9 a10 a11 : Addr × Obj} {st : List (Addr × Obj)} : (a5 :: a6 :: a8 :: a9 :: st) ⊆ (a1 :: a2 :: a3 :: a4 :: a5 :: a6 :: a7 :: a8 :: a9 :: a10 :: a11 :: st) := by
  intro p hp
  simp only [List.mem_cons] at hp ⊢
  rcases hp with h | h | h | h | h <;> simp [h]
theorem tail18 {α : Type} {a1 a2 a3 a4 a5 a6 a7 a8 a9 a10 a11 a12 a13 a14 a15 a16 a17 a18 : α} {l : List α} : ∀ p ∈ l, p ∈ a1 :: a2 :: a3 :: a4 :: a5 :: a6 :: a7 :: a8 :: a9 :: a10 :: a11 :: a12 :: a13 :: a14 :: a15 :: a16 :: a17 :: a18 :: l := fun _ h => .tail _ (.tail _ (.tail _ (.tail _ (.tail _ (.tail _ (.tail _ (.tail _ (.tail _ (.tail _ (.tail _ (.tail _ (.tail _ (.tail _ (.tail _ (.tail _ (.tail _ (.tail _ h)))))))))))))))))
theorem log_apart {h₀ h : Heap} {L xs md : Addr} {i : Addr × Obj} {vs : List Value} {n : Nat} {om : Obj} {KM W : List (Addr × Obj)} (N : News h₀ L h (i :: (xs, listOf vs.toArray n) :: (md, om) :: (KM ++ W))) (hc : om.cls = .type "dict") (hK : ∀ p ∈ KM, KeyObj p) (h1 : ∀ p ∈ W, p.1 ≠ xs) (h2 : ∀ p ∈ W, p.1 ≠ md) :
    (∀ p ∈ KM ++ W, p.1 ≠ xs) ∧ ∀ p ∈ KM ++ W, p.1 ≠ md := by
  have sub : ∀ p ∈ KM, p ∈ i :: (xs, listOf vs.toArray n) :: (md, om) :: (KM ++ W) := fun p hp => .tail _ (.tail _ (.tail _ (List.mem_append_left _ hp)))
  refine ⟨fun p hp => (List.mem_append.mp hp).elim (fun h => off_obj N (.tail _ (.head _)) sub (fun p hp e => ?_) p h) (h1 p), led_apartD N (.tail _ (.tail _ (.head _))) hc sub hK h2⟩
  have := (hK p hp).1
  rw [e] at this
  exact absurd (Value.type.inj this) (by decide)
theorem log_off {h₀ h : Heap} {L I xs md : Addr} {o x0 m0 x1 m1 : Obj} {KM W all : List (Addr × Obj)} (lI : ∀ p ∈ (xs, x0) :: (md, m0) :: W, p.1 < I) (ho : o.cls = .type "list_iterator") (N : News h₀ L h all) (hI : (I, o) ∈ all) (hs : ∀ p ∈ KM, p ∈ all) (hK : ∀ p ∈ KM, KeyObj p) : ∀ p ∈ (xs, x1) :: (md, m1) :: (KM ++ W), p.1 ≠ I := by
  refine List.forall_mem_cons.mpr ⟨Nat.ne_of_lt (lI (xs, x0) (.head _)), List.forall_mem_cons.mpr ⟨Nat.ne_of_lt (lI (md, m0) (.tail _ (.head _))), fun p hp => ?_⟩⟩
  rcases List.mem_append.mp hp with hp | hp
  · refine off_obj N hI hs (fun p hp e => ?_) p hp
    have := (hK p hp).1
    rw [e, ho] at this
    exact absurd (Value.type.inj this) (by decide)
  · exact Nat.ne_of_lt (lI p (.tail _ (.tail _ hp)))
theorem lt_off {W : List (Addr × Obj)} {x : Addr} (h : ∀ p ∈ W, @LT.lt Nat _ p.1 x) : ∀ p ∈ W, p.1 ≠ x := fun p hp => Nat.ne_of_lt (h p hp)
theorem pre_room {log pre post vs : List Value} {v : Value} {S1 : List Int} (ev : log = pre ++ v :: post) (hll : (log.length : Int) ≤ 99999) (hvs : IntsAre vs S1) (hS1 : S1.length ≤ pre.length) : vs.length ≤ 99999 ∧ pre.length ≤ 99999 := by
  have h1 := hvs.length
  have h2 := congrArg List.length ev
  rw [List.length_append, List.length_cons] at h2
  omega
theorem last_at {vs : List Value} {S1 S0 : List Int} {b : Nat} (h : IntsAre vs S1) (hS : S1 = S0 ++ [(b : Int)]) (h9 : vs.length ≤ 99999) : ∃ t, ∀ k : Int, k = (vs.length : Int) - 1 → 0 ≤ k ∧ k < 2 ^ 63 ∧ vs[k.toNat]? = some (.int (b : Int) t) := by
  obtain ⟨t, h1, h2⟩ := last_start h hS
  refine ⟨t, fun k e => ⟨by omega, by omega, ?_⟩⟩
  rw [show k.toNat = vs.length - 1 by omega]
  exact h1
theorem str_ne_empty {v : Str} (h : 0 < v.length) : (v == Str.ofString "") = false := by
  cases e : v == Str.ofString "" with
  | false => rfl
  | true =>
    have e2 : v = Str.ofString "" := by simpa using e
    rw [e2] at h
    exact absurd h (by decide +kernel)
theorem led_m {α : Type} {i x m : α} {KM W : List α} : ∀ p ∈ m :: KM, p ∈ i :: x :: m :: (KM ++ W) := List.forall_mem_cons.mpr ⟨.tail _ (.tail _ (.head _)), fun _ hp => .tail _ (.tail _ (.tail _ (List.mem_append_left _ hp)))⟩
theorem log_back {k1 k2 i x : Addr × Obj} {md : Addr} {om ot2 : Obj} {KM KM2 W N3 : List (Addr × Obj)} (hsub : ∀ p ∈ k1 :: k2 :: i :: x :: (md, om) :: (KM ++ W), p.1 ≠ md → p ∈ N3) (hot : (md, ot2) ∈ N3) (hK : ∀ p ∈ KM2, p ∈ N3) (n1 : i.1 ≠ md) (n2 : x.1 ≠ md) (hW : ∀ p ∈ W, p.1 ≠ md) : ∀ p ∈ i :: x :: (md, ot2) :: (KM2 ++ W), p ∈ N3 := by
  refine List.forall_mem_cons.mpr ⟨hsub _ (.tail _ (.tail _ (.head _))) n1, List.forall_mem_cons.mpr ⟨hsub _ (.tail _ (.tail _ (.tail _ (.head _)))) n2, List.forall_mem_cons.mpr ⟨hot, fun p hp => ?_⟩⟩⟩
  rcases List.mem_append.mp hp with hp | hp
  · exact hK p hp
  · exact hsub p (.tail _ (.tail _ (.tail _ (.tail _ (.tail _ (List.mem_append_right _ hp)))))) (hW p hp)
theorem log_done {log : List Value} {evs : List (Str × Val)} {W : List (Addr × Obj)} {S1 S : List Int} {M2 Mm : List (List Int × Int)} (hl : All2 (LogIn W) log evs) (hf : (evs.take log.length).foldl evStep ([], []) = (S1, M2)) (he : evs.foldl evStep ([], []) = (S, Mm)) : S1 = S ∧ M2 = Mm := by
  rw [all2_length hl, List.take_length, he] at hf
  injection hf with h1 h2
  exact ⟨h1.symm, h2.symm⟩
theorem due_led {h₀ h : Heap} {L xs md td : Addr} {pT pS : Addr × Obj} {vs : List Value} {n : Nat} {om : Obj} {KM W : List (Addr × Obj)} {prog : Program} {w : World} {M Mm : List (List Int × Int)} (N : News h₀ L h ((xs, listOf vs.toArray n) :: (md, om) :: (KM ++ W))) (hT : pT ∈ W) (hS : pS ∈ W) (ht : IntTab prog w W td M) (hm : IntTab prog w ((md, om) :: KM) md Mm) :
    ∃ W2, News h₀ L h W2 ∧ (xs, listOf vs.toArray n) ∈ W2 ∧ pT ∈ W2 ∧ pS ∈ W2 ∧ IntTab prog w W2 td M ∧ IntTab prog w W2 md Mm :=
  ⟨_, N, .head _, .tail _ (.tail _ (List.mem_append_right _ hT)), .tail _ (.tail _ (List.mem_append_right _ hS)), IntTab.mono (fun p hp => .tail _ (.tail _ (List.mem_append_right _ hp))) ht, IntTab.mono (List.forall_mem_cons.mpr ⟨.tail _ (.head _), fun _ hp => .tail _ (.tail _ (List.mem_append_left _ hp))⟩) hm⟩
theorem JDue.done {prog : Program} {w : World} {Mt : List (List Int × Int)} {ks : List (List Int)} {W2 nw : List (Addr × Obj)} {ys : List Value} (h : JDue prog w Mt ks W2 ks.length ys nw) (hall : ∀ k v, lookM Mt k = some v → k ∈ ks) :
    ∃ tl ps, nw = tl ++ W2 ∧ Tups tl ∧ All2 (PairIn prog w nw) ys ps ∧ (∀ x ∈ ps, lookM Mt x.1 = some x.2 ∧ x.1.head? = some 0 ∧ 0 < x.2) ∧ (∀ k v, lookM Mt k = some v → k.head? = some 0 → 0 < v → (k, v) ∈ ps) ∧ ps.length ≤ ks.length := by
  obtain ⟨tl, ps, e, ht, ha, h1, h2, hl⟩ := h
  refine ⟨tl, ps, e, ht, ha, h1, fun k v hv hh hp => ?_, hl⟩
  obtain ⟨j, hj⟩ := List.mem_iff_getElem?.mp (hall k v hv)
  obtain ⟨hlt, -⟩ := List.getElem?_eq_some_iff.mp hj
  exact h2 j k v hlt hj hv hh hp
theorem told_room {M : List (List Int × Int)} {tr : Nat → Nat → Nat → Nat} {n : Nat} {ks : List (List Int)} {es : Array DictEntry} (h : Told M tr n (n + 1) 0 0) (hn : n ≤ 5) (hk : ks.length ≤ M.length) (he : es.size = ks.length) : ks.length ≤ 1000 ∧ es.size ≤ sizeLine := by
  have := h.2.2
  rw [sizeLine_eq]
  omega
theorem due_entry {prog : Program} {w : World} {W2 : List (Addr × Obj)} {M : List (List Int × Int)} {tr : Nat → Nat → Nat → Nat} {n : Nat} {ks : List (List Int)} {es : Array DictEntry} {i : Nat} {v : Value} {x : Option Value} (hT : Told M tr n (n + 1) 0 0)
    (hent : ∀ (i : Nat) e, es[i]? = some e → ∃ k a ok n, ks[i]? = some k ∧ e.key = .ref a ∧ (a, ok) ∈ W2 ∧ TupKeyObj (PySem.intKind prog w) k ok ∧ lookM M k = some n) (hv : ∃ e, es[i]? = some e ∧ v = e.key) (hx : x = some v) :
    ∃ i' b' e' a ok nn tka tkb tkc nk, ks[i]? = some (key3 i' b' e') ∧ v = .ref a ∧ x = some (.ref a) ∧ (a, ok) ∈ W2 ∧ TupKeyObj (PySem.intKind prog w) (key3 i' b' e') ok ∧ lookM M (key3 i' b' e') = some nn ∧ ok.cls = .type "tuple" ∧ ok.data = .seq #[.int (i' : Int) tka, .int (b' : Int) tkb, .int (e' : Int) tkc] nk := by
  obtain ⟨e, he, rfl⟩ := hv
  obtain ⟨k, a, ok, nn, hk, hka, hmk, htk, hln⟩ := hent i e he
  obtain ⟨i', b', e', -, rfl⟩ := hT.2.1 k nn hln
  obtain ⟨tka, tkb, tkc, nk, hokc, hokd⟩ := tupKey_three htk
  exact ⟨i', b', e', a, ok, nn, tka, tkb, tkc, nk, hk, hka, by rw [hx, hka], hmk, htk, hln, hokc, hokd⟩
theorem due_parts {prog : Program} {w : World} {M : List (List Int × Int)} {ks : List (List Int)} {W2 nw : List (Addr × Obj)} {i : Nat} {ys : List Value} {pT : Addr × Obj} {td a : Addr} {ok : Obj} (h : JDue prog w M ks W2 i ys nw) (hT : pT ∈ W2) (ha : (a, ok) ∈ W2) (T : IntTab prog w W2 td M) : pT ∈ nw ∧ (a, ok) ∈ nw ∧ IntTab prog w nw td M := by
  obtain ⟨tl, ps, rfl, -⟩ := h
  exact ⟨List.mem_append_right tl hT, List.mem_append_right tl ha, IntTab.mono (fun p hp => List.mem_append_right tl hp) T⟩
theorem JDue.start0 {prog : Program} {w : World} {Mt : List (List Int × Int)} (ks : List (List Int)) {W2 : List (Addr × Obj)} {td : Addr} (_ : IntTab prog w W2 td Mt) : JDue prog w Mt ks W2 0 [] W2 := JDue.start
theorem lookM_enc {M : List (List Int × Int)} {k : List Int} {n : Int} (h : lookM M k = some n) : lookup (encTuple PyData.int k) (encM M) = some (.int n) := by rw [lookup_encM, h]; rfl
theorem JDue.skipA {prog : Program} {w : World} {Mt : List (List Int × Int)} {ks : List (List Int)} {W2 nw : List (Addr × Obj)} {i i' b' e' : Nat} {ys : List Value} {n : Int} (h : JDue prog w Mt ks W2 i ys nw) (hk : ks[i]? = some (key3 i' b' e')) (hn : lookM Mt (key3 i' b' e') = some n) (hne : (i' : Int) ≠ 0) : JDue prog w Mt ks W2 (i + 1) ys nw :=
  h.skip hk hn fun q => hne (Option.some.inj q.1)
theorem JDue.skipB {prog : Program} {w : World} {Mt : List (List Int × Int)} {ks : List (List Int)} {W2 nw : List (Addr × Obj)} {i : Nat} {k : List Int} {ys : List Value} {n : Int} (h : JDue prog w Mt ks W2 i ys nw) (hk : ks[i]? = some k) (hn : lookM Mt k = some n) (hle : n ≤ 0) : JDue prog w Mt ks W2 (i + 1) ys nw :=
  h.skip hk hn fun q => Int.not_lt.mpr hle q.2
theorem JDue.addA {prog : Program} {w : World} {Mt : List (List Int × Int)} {ks : List (List Int)} {W2 nw : List (Addr × Obj)} {i i' b' e' : Nat} {ys : List Value} {n : Int} {p a : Addr} {ok : Obj} {t : Tok} (h : JDue prog w Mt ks W2 i ys nw) (hk : ks[i]? = some (key3 i' b' e')) (hn : lookM Mt (key3 i' b' e') = some n) (h0 : (i' : Int) = 0) (hp : 0 < n)
    (ha : (a, ok) ∈ W2) (tk : TupKeyObj (PySem.intKind prog w) (key3 i' b' e') ok) : JDue prog w Mt ks W2 (i + 1) (ys ++ [.ref p]) ((p, tupObj [.ref a, .int n t]) :: nw) :=
  h.add hk hn (congrArg some h0) hp ha tk
theorem JDue.td {prog : Program} {w : World} {Mt : List (List Int × Int)} {ks : List (List Int)} {W2 nw : List (Addr × Obj)} {i : Nat} {ys : List Value} {x : Addr × Obj} (h : JDue prog w Mt ks W2 i ys nw) (hx : x ∈ W2) : x ∈ nw := by
  obtain ⟨tl, ps, rfl, -⟩ := h
  exact List.mem_append_right tl hx
theorem news_lt {h₀ h : Heap} {L : Addr} {l : List (Addr × Obj)} (N : News h₀ L h l) : ∀ p ∈ l, @LT.lt Nat _ p.1 h.objs.size := fun p hp => Heap.lt_size (N p hp).1
theorem due_off {h₀ h : Heap} {L I C D x : Addr} {oI oC oD ox : Obj} {nw : List (Addr × Obj)} (N : News h₀ L h ((I, oI) :: (C, oC) :: (D, oD) :: nw)) (hx : x = h.objs.size) (off : ∀ p ∈ nw, p.1 ≠ I ∧ p.1 ≠ C ∧ p.1 ≠ D) : LCg.Off3 I C D ((x, ox) :: nw) := by
  subst hx
  have q := news_lt N
  exact ⟨⟨Nat.ne_of_gt (q _ (.head _)), Nat.ne_of_gt (q _ (.tail _ (.head _))), Nat.ne_of_gt (q _ (.tail _ (.tail _ (.head _))))⟩, LCg.Off3.of off⟩
theorem ps_room {ps : List (List Int × Int)} {ks : List (List Int)} (h : ps.length ≤ ks.length) (hk : ks.length ≤ 1000) : ps.length ≤ sizeLine := by
  rw [sizeLine_eq]
  omega
theorem eq_intsT {prog : Program} {w : World} {A : Around} {E : Value → Shared → Prop} {s : Shared} {h₀ : Heap} {L a b : Addr} {vs us : List Value} {n k : Nat} {news : List (Addr × Obj)} {Q : Value → Shared → Prop} (N : News h₀ L s.heap news) (hl : (a, listOf vs.toArray k) ∈ news) {k2 : Nat} (hl' : (b, listOf us.toArray k2) ∈ news) (hi : IntsAre vs ((List.range n).map fun (b : Nat) => (b : Int))) (hi' : IntsAre us (rangeKs 0 n)) (hu : A.units + 64 < cLine)
    (h : Q (.bool true) s) : wpAny (model prog w) A (compareOp .Eq (.ref a) (.ref b)) Q E s := by
  have e : (List.range n).map (fun (b : Nat) => (b : Int)) = rangeKs 0 n := List.map_congr_left fun i _ => (Int.zero_add (i : Int)).symm
  refine eq_intsK (News.isList N hl) hi (News.isList N hl') hi' hu ?_
  rw [e, decide_eq_true rfl]
  exact h
section holds
variable {prog : Program} {w : World} {A : Around} {Q : Value → Shared → Prop} {R : Flow → Shared → Prop} {E : Value → Shared → Prop} {s : Shared} {env : Env} {x : Str} {p q : Pos} {v k : PySem.Expr} {b o r : List Stmt} {i j : Value}
noncomputable abbrev among (l : List String) (x : Str) : Bool := l.any fun y => x == Str.ofString y
theorem hold_asg (_ : among ["cells", "subject", "rules"] x = true) (h : Hold (wpAny (model prog w) A (execs (Stmt.Assign [PySem.Expr.Name x p] v q :: r) env) R E s)) : wpAny (model prog w) A (execs (Stmt.Assign [PySem.Expr.Name x p] v q :: r) env) R E s := h
theorem hold_fors (_ : among ["long"] x = true) (h : Hold (wpAny (model prog w) A (execs (Stmt.For (PySem.Expr.Name x p) v b o q :: r) env) R E s)) : wpAny (model prog w) A (execs (Stmt.For (PySem.Expr.Name x p) v b o q :: r) env) R E s := h
theorem hold_for (_ : among ["long", "begin"] x = true) (h : Hold (wpAny (model prog w) A (exec (Stmt.For (PySem.Expr.Name x p) v b o q) env) R E s)) : wpAny (model prog w) A (exec (Stmt.For (PySem.Expr.Name x p) v b o q) env) R E s := h
theorem hold_sub (_ : among ["_law_usual", "rules", "starts", "span", "trees"] x = true) (h : Hold (wpAny (model prog w) A (subscriptTail (PySem.Expr.Name x p) k i j) Q E s)) : wpAny (model prog w) A (subscriptTail (PySem.Expr.Name x p) k i j) Q E s := h
theorem hold_subs (_ : among ["rules"] x = true) (h : Hold (wpAny (model prog w) A (subscriptTail (PySem.Expr.Subscript (PySem.Expr.Name x p) v q) k i j) Q E s)) : wpAny (model prog w) A (subscriptTail (PySem.Expr.Subscript (PySem.Expr.Name x p) v q) k i j) Q E s := h
theorem hold_lc {es : List PySem.Expr} {c : Nat} {gs : List Comprehension} {sc : Scope} (h : Hold (wpAny (model prog w) A (eval (PySem.Expr.ListComp (PySem.Expr.Tuple es c p) gs sc q) env) Q E s)) : wpAny (model prog w) A (eval (PySem.Expr.ListComp (PySem.Expr.Tuple es c p) gs sc q) env) Q E s := h
theorem hold_get {a : Addr} {pl : Sem Bool} {T : Value × List Value → Shared → Prop} (h : Hold (wpAny (model prog w) A (getMethod (.ref a) "get" pl) T E s)) : wpAny (model prog w) A (getMethod (.ref a) "get" pl) T E s := h
end holds
end
section
open PyProof.V
section law
local macro_rules
  | `(tactic| walk_at $k:str) =>
    if ["CompSrc", "exec For Name Name cons nil", "exec Assign cons ListComp", "call builtin:sum", "setItem ref ref", "exec For Tuple Attribute cons nil", "exec For Tuple Attribute", "call builtin:dict.get", "call type:dict", "compareOp Eq ref ref"].contains k.getString then `(tactic| refine Hold.out ?_)
    else if ["call ref", "pyIter ref", "execs cons", "subscriptTail Name Slice ref ref", "subscriptTail Name Name ref int", "subscriptTail", "subscriptTail Subscript Constant ref int", "exec For Name Call cons nil", "subscriptTail Name BinOp ref int", "eval ListComp", "getMethod ref", "subscriptTail Name Constant ref int", "subscriptTail Name Name ref ref"].contains k.getString then
      `(tactic| with_reducible first | refine hold_call [418, 423, 430, 320, 68, 407, 110] (by decide) ?_ | refine hold_iter ?_ | refine hold_asg (by decide +kernel) ?_ | refine hold_fors (by decide +kernel) ?_ | refine hold_for (by decide +kernel) ?_ | refine hold_sub (by decide +kernel) ?_ | refine hold_subs (by decide +kernel) ?_ | refine hold_lc ?_ | refine hold_get ?_)
    else Lean.Macro.throwUnsupported
local macro_rules | `(tactic| k_qdec) => `(tactic| kernel_rfl)
set_option maxRecDepth 100000 in
set_option maxHeartbeats 8000000 in
theorem law_holds : PySem.Challenge.rw_sj0196_01.Holds := by
  refine hd ?_
  k_go0
  all_goals try k_fold
  k_steps
  unfold Hold
  rename Fr _ _ _ _ => F1
  rename News _ _ _ _ => N1
  obtain ⟨us, hus, N1⟩ := hide_list (ns := usual) N1 (by unfold usual; repeat constructor)
  have hul : us.length = 18 := hus.length
  refine seq_cut fun Z hZ hZ' => ?_
  k_steps
  unfold Hold
  rename Fr _ _ _ _ => F1
  rename News _ _ _ _ => N1
  rename IntsAre _ (List.take 18 _) => hI1
  rename (List.take 18 _).length = _ => hI2
  generalize hns : List.take 18 _ = ns at hI1
  k_dflt (refine LCg.CompSrc.ledger (by rfl) F1 N1 (.head _) (ints_size hI1 (by rw [← hns, hI2]; exact Nat.le_trans (Nat.min_le_left _ _) (by decide))) ?_)
  intro g
  refine CompRest.inv (JA _ ns) ?turn1 ?fin1 ⟨rfl, .nil⟩
  case turn1 =>
    intro i v ys nw I oI C oC D m2 h tk E' hi hJ hv hC hx F2 N2 off ne
    obtain ⟨rfl, hys⟩ := hJ
    have q := hI1.at i v (by simpa using hv)
    obtain ⟨x, t, rfl, hx1⟩ := q
    clear F1 N1
    (try dsimp only)
    k_steps
    rename Fr _ _ _ _ => F3
    rename News _ _ _ _ => N3
    refine LCg.CompEnd.intro F3 N3 _ (fun _ h => h) (LCg.Off3.of off) (.inr ⟨_, .head _, rfl, _, rfl⟩) ⟨rfl, ?_⟩
    exact all2_take hys hx1 ⟨_, rfl⟩
  case fin1 =>
    intro ys nw hJ
    obtain ⟨rfl, hys⟩ := hJ
    rw [List.size_toArray, hI1.length, List.take_length] at hys
    clear F1 N1
    intro D h tk F2 N2 oD
    simp only [LCg.Off1, and_true] at oD
    (try dsimp only)
    k_unmd
    (try k_fold)
    k_steps
    unfold Hold
    rename Fr _ _ _ _ => F3
    rename News _ _ _ _ => N3
    k_dflt (refine kms_slice_lit (zs := us.drop ns.length) F3 N3 (News.isList N3 (.tail _ (.tail _ (.tail _ (.head _))))) (by kmk_part) (by kmk_part) ?ea ?_ (by with_unfolding_all rfl) (by kmk_pure) ?za)
    case ea =>
      rw [hns, List.toList_toArray]
      unfold kms_pick kms_lo kms_hi
      dsimp only
      rw [if_neg (by omega), Int.toNat_natCast, hul]
      have h18 : ns.length ≤ 18 := by rw [← hns, hI2]; exact Nat.min_le_left _ _
      rw [Nat.min_eq_left h18]
      exact List.take_of_length_le (by rw [List.length_drop, hul]; omega)
    case za => rw [List.size_toArray, hul, sizeLine_eq]; omega
    clear F3 N3
    intro D4 h4 F4 N4 l4
    k_lt l4
    have hys2 := ints_are hys
    have hdr := ints_drop hus ns.length
    k_unmd
    (try k_fold)
    k_steps
    rename Fr _ _ _ _ => F5
    rename News _ _ _ _ => N5
    k_dflt (refine kmk_add_ints F5 N5 (News.isList N5 (.tail _ (.tail _ (.head _)))) (News.isList N5 (.head _)) hys2 hdr ?_ ?za)
    case za =>
      rw [List.length_map, List.length_drop, sizeLine_eq]
      show ns.length + (18 - ns.length) ≤ _
      have h18 : ns.length ≤ 18 := by rw [← hns, hI2]; exact Nat.min_le_left _ _
      omega
    clear F5 N5
    intro DC zs h5 F5 N5 l5 hzs
    k_lt l5
    have hcl := cellsOf_len (ns := ns) (by rw [← hns, hI2]; exact Nat.min_le_left _ _)
    have hcn := cellsOf_nn (ns := ns)
    replace hzs : IntsAre zs (cellsOf ns) := hzs
    generalize cellsOf ns = cells at hzs hcl hcn
    k_unmd
    (try dsimp only)
    (try k_fold)
    k_steps
    rename Fr _ _ _ _ => F6
    rename News _ _ _ _ => N6
    replace N6 : News _ _ _ [_, _, _, _, _, _] := kst_newsOf N6 (List.forall_mem_cons.mpr ⟨.head _, List.forall_mem_cons.mpr ⟨.tail _ (.tail _ (.tail _ (.tail _ (.tail _ (.tail _ (.head _)))))), List.forall_mem_cons.mpr ⟨.tail _ (.tail _ (.tail _ (.tail _ (.tail _ (.tail _ (.tail _ (.head _))))))), List.forall_mem_cons.mpr ⟨.tail _ (.tail _ (.tail _ (.tail _ (.tail _ (.tail _ (.tail _ (.tail _ (.head _)))))))), List.forall_mem_cons.mpr ⟨.tail _ (.tail _ (.tail _ (.tail _ (.tail _ (.tail _ (.tail _ (.tail _ (.tail _ (.head _))))))))), List.forall_mem_cons.mpr ⟨.tail _ (.tail _ (.tail _ (.tail _ (.tail _ (.tail _ (.tail _ (.tail _ (.tail _ (.tail _ (.head _)))))))))), List.forall_mem_nil _⟩⟩⟩⟩⟩⟩)
    refine hZ _ ?_
    clear hZ hZ' hI1 hI2 hus hul hys hys2 hdr
    k_unmd
    (try k_fold)
    k_steps
    unfold Hold
    rename Fr _ _ _ _ => F7
    rename News _ _ _ _ => N7
    refine seq_cut fun Z hZ hZ' => ?_
    k_steps
    unfold Hold
    rename Fr _ _ _ _ => F8
    rename News _ _ _ _ => N8
    rename IntsAre _ (List.take _ (List.drop 1 cells)) => hI3
    rename (List.take _ (List.drop 1 cells)).length = _ => hI4
    rename (List.take _ (List.drop 1 cells)).length ≤ _ => hI5
    have hp5 := part_len hI4
    clear hI4 hI5
    generalize List.take _ (List.drop 1 cells) = part at hI3 hp5
    k_dflt (refine LCg.CompSrc.ledger (by rfl) F8 N8 (.head _) (ints_size hI3 (by omega)) ?_)
    intro g2
    refine CompRest.inv (JB _ part) ?turn2 ?fin2 ⟨rfl, .nil⟩
    case turn2 =>
      intro i v ys nw I oI C oC D m2 h tk E' hi hJ hv hC hx F2 N2 off ne
      obtain ⟨rfl, hys⟩ := hJ
      have q := hI3.at i v (by simpa using hv)
      obtain ⟨x, t, rfl, hx1⟩ := q
      clear F8 N8
      (try dsimp only)
      k_steps
      rename Fr _ _ _ _ => F3
      rename News _ _ _ _ => N3
      refine LCg.CompEnd.intro F3 N3 _ (fun _ h => h) (LCg.Off3.of off) (.inr ⟨_, .head _, rfl, _, rfl⟩) ⟨rfl, ?_⟩
      exact all2_take hys hx1 ⟨_, rfl⟩
    case fin2 =>
      intro ys nw hJ
      obtain ⟨rfl, hys⟩ := hJ
      rw [List.size_toArray, hI3.length, List.take_length] at hys
      clear F8 N8
      intro D h tk F2 N2 oD
      simp only [LCg.Off1, and_true] at oD
      (try dsimp only)
      k_unmd
      (try k_fold)
      k_steps
      rename Fr _ _ _ _ => F3
      rename News _ _ _ _ => N3
      (show wpAny _ _ (call (Value.builtin "str.join") [Value.str _ _, Value.ref D]) _ _ _)
      k_dflt (refine join_list (News.isList N3 (.head _)) (strs_are hys) (ab_room hp5) ?_)
      intro tsb ksb
      have hsl := ab_len hp5
      generalize Txt.join (Str.ofString "") (List.map abOf part) = subj at hsl
      (try dsimp only)
      k_unmd
      (try k_fold)
      k_steps
      rename Fr _ _ _ _ => F4
      rename News _ _ _ _ => N4
      replace N4 : News _ _ _ [_, _, _, _, _, _] := kst_newsOf N4 (List.forall_mem_cons.mpr ⟨.tail _ (.tail _ (.head _)), List.forall_mem_cons.mpr ⟨.tail _ (.tail _ (.tail _ (.head _))), List.forall_mem_cons.mpr ⟨.tail _ (.tail _ (.tail _ (.tail _ (.head _)))), List.forall_mem_cons.mpr ⟨.tail _ (.tail _ (.tail _ (.tail _ (.tail _ (.head _))))), List.forall_mem_cons.mpr ⟨.tail _ (.tail _ (.tail _ (.tail _ (.tail _ (.tail _ (.head _)))))), List.forall_mem_cons.mpr ⟨.tail _ (.tail _ (.tail _ (.tail _ (.tail _ (.tail _ (.tail _ (.head _))))))), List.forall_mem_nil _⟩⟩⟩⟩⟩⟩)
      refine hZ _ ?_
      clear hZ hZ' hI3 hp5 hys
      k_unmd
      (try k_fold)
      k_steps
      unfold Hold
      rename Fr _ _ _ _ => F5
      rename News _ _ _ _ => N5
      refine seq_cut fun Z hZ hZ' => ?_
      k_steps
      unfold Hold
      k_dflt (refine Assign_ListComp_Tup F5 (by rfl) (by rfl) (by with_unfolding_all rfl) (by with_unfolding_all rfl) (by decide) (by rfl) (by decide) (by rfl) (by rfl) (by rfl) ?_)
      k_steps
      rename Fr _ _ _ _ => F6
      rename News _ _ _ _ => N6
      refine ⟨_, _, _, _, _, rfl, F6, N6, .head _, rfl, rfl, Nat.le_of_ble_eq_true rfl, fun g3 => ?_⟩
      refine CompRest.inv (JR _) ?turn3 ?fin3 ⟨fun _ h => h, rfl, List.forall_mem_nil _⟩
      case turn3 =>
        intro i v ys nw I oI C oC D m2 h tk E' hi hJ hv hC hx F2 N2 off ne
        obtain ⟨hsub, hyl, hys⟩ := hJ
        have q := tup3 hv
        obtain ⟨a, ta, rfl, hab⟩ := q
        have ha0 : 0 ≤ a := by omega
        have ha1 : a ≤ 14 := by omega
        clear F6 N6 hab hv
        have hDC := hsub _ (.tail _ (.head _))
        have hmC := hsub _ (.tail _ (.tail _ (.tail _ (.tail _ (.tail _ (.tail _ (.head _)))))))
        (try dsimp only)
        k_steps
        unfold Hold
        rename Fr _ _ _ _ => F3
        rename News _ _ _ _ => N3
        rename Below _ _ _ _ => B3
        rename Frag.In _ _ => X3
        rename Top _ _ _ _ _ _ => T3
        rename IntsAre _ (List.take _ (List.drop _ cells)) => hI6
        rename (List.take _ (List.drop _ cells)).length = _ => hI7
        have h4 := take_drop_len hcl ha0 ha1 hI7
        have q4 := ints4 hI6 h4 (fun x hx => List.mem_of_mem_drop (List.mem_of_mem_take hx)) hcn
        clear hI6 hI7 h4
        obtain ⟨x0, x1, x2, x3, t0, t1, t2, t3, rfl, g0, g1, g2, g3⟩ := q4
        k_dflt (refine rules_c B3 F3 X3 N3 T3 (by first | assumption | exact rfl) (by k_room) (by ktr_units) g0 g1 g2 g3 ?_)
        clear F3 N3
        intro rr r0 r1 row0 row1 T1 h5 tk5 F4 N4 hs4 hrr hr0 hr1 hg0 hl0 hg1 hl1 hfr
        k_unmd
        (try k_fold)
        (try dsimp only)
        k_steps
        exact rules_end F4 N4 hs4 off (hsub _ (.head _)) ⟨hsub, hyl, hys⟩ hrr hr0 hr1 hg0 hl0 hg1 hl1 hfr
      case fin3 =>
        intro ys nw hJ
        obtain ⟨hsub, hyl, hys⟩ := hJ
        clear F6 N6
        intro D h tk F2 N2 oD
        (try dsimp only)
        k_unmd
        (try k_fold)
        k_steps
        rename Fr _ _ _ _ => F3
        rename News _ _ _ _ => N3
        have qst := rules_ledger N3 hsub (by assumption) (by assumption) (by assumption) (by assumption) hys
        obtain ⟨st, N4, hD, hrules, hst, ofB, ofL, ofT, ofS⟩ := qst
        have hyl3 : ys.length = 3 := hyl
        have qr := rules_fun hyl3 hrules
        obtain ⟨R0, R1, hR⟩ := qr
        refine hZ _ ?_
        clear hZ hZ' N3 hys hsub hcl hcn hzs oD hrules hyl
        k_unmd
        (try k_fold)
        k_steps
        unfold Hold
        rename Fr _ _ _ _ => F5
        rename News _ _ _ _ => N5
        rename IsRange _ _ _ _ _ _ _ _ => hRg
        (try dsimp only)
        have qv := vals_start N5
        obtain ⟨T0, hT0, N6⟩ := qv
        have hst0 : ∀ p ∈ st, p ∈ T0 := fun p hp => by rw [hT0]; exact .tail _ (.tail _ (.tail _ (.tail _ (.tail _ hp))))
        k_dflt (refine iter_rangeUnr (n := 3) (by rfl) hRg (small_one (by decide) (by decide) (by decide) (by decide)) (by decide) F5 N6 ?_)
        intro I4 l4
        clear F5 N5 N6 hRg
        refine RangeRest.invM (JV _ _ T0 R0 R1) ?turn4 ?fin4 (JV.start (by assumption) (by rw [hT0]; exact List.forall_mem_cons.mpr ⟨by k_ne, List.forall_mem_cons.mpr ⟨by k_ne, List.forall_mem_cons.mpr ⟨by k_ne, List.forall_mem_cons.mpr ⟨by k_ne, List.forall_mem_cons.mpr ⟨by k_ne, by walk_at "fresh"⟩⟩⟩⟩⟩))
        case turn4 =>
          intro i m nw t h tk hi hJ F6 N6
          obtain ⟨od, kvs, P, ⟨u, rfl⟩, rfl, hod, hkv, hPo, hPv, hPj⟩ := hJ
          have qj := hR i hi
          obtain ⟨rr, a0, a1, hyi, hrr, hr0, hr1, hg0, hl0, hg1, hl1⟩ := qj
          have mD : (D, listOf ys.toArray ys.length) ∈ P ++ T0 := List.mem_append_right _ (hst0 _ hD)
          have mrr : (rr, listOf #[.ref a0, .ref a1] 0) ∈ P ++ T0 := List.mem_append_right _ (hst0 _ hrr)
          (try dsimp only)
          k_steps
          unfold Hold
          rename Fr _ _ _ _ => F7
          rename News _ _ _ _ => N7
          k_dflt (refine item_at (l := ys) (News.isList N7 (.tail _ (.tail _ mD))) hi hyi ?_)
          (try dsimp only)
          k_steps
          unfold Hold
          refine kba_turn (value' := PySem.Expr.Name (Str.ofString "_") ⟨0, 0, 0, 0⟩) (fun _ => rfl) ?_
          k_dflt (refine item_listL (l := [.ref a0, .ref a1]) (News.isList N7 (.tail _ (.tail _ mrr))) (by decide) (by decide) rfl ?_)
          (try dsimp only)
          k_steps
          unfold Hold
          rename Fr _ _ _ _ => F8
          rename News _ _ _ _ => N8
          rename Below _ _ _ _ => B3
          rename Frag.In _ _ => X3
          rename Top _ _ _ _ _ _ => T3
          k_dflt (refine node_t B3 F8 X3 N8 (hr0.mono fun p hp => .tail _ (.tail _ (List.mem_append_right _ (hst0 _ hp)))) T3 (by first | assumption | exact rfl) (by k_room) (by ktr_units) hg0 ?_)
          clear F8 N8
          intro nd0 U0 h7 tk7 F7 N7 hU0 hp0
          replace N7 := kst_newsOf N7 swapU
          have mD1 := List.mem_append_right U0 mD
          have mr1 := List.mem_append_right U0 mrr
          k_unmd
          (try k_fold)
          (try dsimp only)
          k_steps
          unfold Hold
          rename Fr _ _ _ _ => F8
          rename News _ _ _ _ => N8
          k_dflt (refine item_at (l := ys) (News.isList N8 (.tail _ (.tail _ mD1))) hi hyi ?_)
          (try dsimp only)
          k_steps
          unfold Hold
          refine kba_turn (value' := PySem.Expr.Name (Str.ofString "_") ⟨0, 0, 0, 0⟩) (fun _ => rfl) ?_
          k_dflt (refine item_listL (l := [.ref a0, .ref a1]) (News.isList N8 (.tail _ (.tail _ mr1))) (by decide) (by decide) rfl ?_)
          (try dsimp only)
          k_steps
          unfold Hold
          rename Fr _ _ _ _ => F9
          rename News _ _ _ _ => N9
          rename Below _ _ _ _ => B4
          rename Frag.In _ _ => X4
          rename Top _ _ _ _ _ _ => T4
          k_dflt (refine node_t B4 F9 X4 N9 (hr1.mono fun p hp => .tail _ (.tail _ (List.mem_append_right _ (List.mem_append_right _ (hst0 _ hp))))) T4 (by first | assumption | exact rfl) (by k_room) (by ktr_units) hg1 ?_)
          clear F9 N9
          intro nd1 U1 h8 tk8 F8 N8 hU1 hp1
          replace N8 := kst_newsOf N8 swapU
          have hodc : od.cls = .type "dict" := by obtain ⟨es, ep, ⟨hcls, -⟩, -⟩ := hod; exact hcls
          have of1 := off_tups N8 (.tail _ (.head _)) hodc hU1.tups (fun p hp => .tail _ (.tail _ (List.mem_append_left _ hp))) (off_tups N8 (.tail _ (.head _)) hodc hU0.tups (fun p hp => .tail _ (.tail _ (List.mem_append_right _ (List.mem_append_left _ hp)))) hPv)
          k_unmd
          (try k_fold)
          (try dsimp only)
          k_steps
          unfold Hold
          rename Fr _ _ _ _ => F9
          rename News _ _ _ _ => N9
          rename Below _ _ _ _ => B5
          rename Frag.In _ _ => X5
          rename Top _ _ _ _ _ _ => T5
          have nA := alt_ne N9 hodc
          k_dflt (refine pattern_c B5 F9 X5 N9 T5 (by first | assumption | exact rfl) (by k_room) (by ktr_units) ?_)
          clear F9 N9
          intro pv pd h9 tk9 gx ux F9 N9 lpd lpv
          have nV : @LT.lt Nat _ _ pd := lpd _ (.tail _ (.tail _ (.head _)))
          have nV1 : @Ne Nat pd _ := Nat.ne_of_gt nV
          have nV2 : @Ne Nat pv _ := Nat.ne_of_gt (Nat.lt_trans nV lpv)
          have nI : @Ne Nat I4 _ := Nat.ne_of_gt (l4 _ (.head _))
          k_lt lpd
          have hkl3 : kvs.length ≤ 3 := by omega
          k_unmd
          (try k_fold)
          (try dsimp only)
          k_steps
          rename Fr _ _ _ _ => F10
          rename News _ _ _ _ => N10
          refine names_end F10 N10 hi (by assumption) hkv (jm_of ?_) hU0 hU1 hPo hPj hp0 hp1 (fun p hp => Nat.ne_of_lt (l4 p (.tail _ hp))) (Nat.ne_of_lt (l4 _ (.head _))) of1 nV2 nV1 nA
          intro z hz
          have a1 : z ≠ Str.ofString "name" := fun e => by subst e; exact absurd hz (by decide)
          simp only [if_neg a1, hz, Bool.false_eq_true, if_false]
        case fin4 =>
          intro m nw h tk hJ F6 N6
          obtain ⟨od, kvs, P, ⟨u, rfl⟩, rfl, hod, hkv, hPo, hPv, hPj⟩ := hJ
          rw [hT0] at N6
          replace N6 := names_ledger N6
          (try dsimp only)
          k_unmd
          (try k_fold)
          k_steps
          unfold Hold
          refine seq_cut fun Z hZ hZ' => ?_
          k_steps
          unfold Hold
          have frz := frz_of hPj hD hR
          have qg := gram_of hsl (fun j hj => by obtain ⟨_, _, _, _, _, _, _, g⟩ := hR j hj; exact g)
          obtain ⟨tr, gram⟩ := qg
          have hSo := stat_append hPo hst
          have oS1 := off_obj N6 (.head _) (fun p hp => .tail _ (.tail _ (.tail _ (.tail _ (.tail _ (.tail _ hp)))))) (fun p hp => (hSo p hp).noCell.ne (by assumption))
          have oS2 := off_obj N6 (.tail _ (.head _)) (fun p hp => .tail _ (.tail _ (.tail _ (.tail _ (.tail _ (.tail _ hp)))))) (fun p hp => (hSo p hp).noCell.ne (by assumption))
          have oS3 := off_obj N6 (.tail _ (.tail _ (.head _))) (fun p hp => .tail _ (.tail _ (.tail _ (.tail _ (.tail _ (.tail _ hp)))))) (fun p hp => (hSo p hp).noCell.ne (by assumption))
          have oS4 := off_obj N6 (.tail _ (.tail _ (.tail _ (.head _)))) (fun p hp => .tail _ (.tail _ (.tail _ (.tail _ (.tail _ (.tail _ hp)))))) (fun p hp => (hSo p hp).noCell.ne (by assumption))
          have oS5 := off_obj N6 (.tail _ (.tail _ (.tail _ (.tail _ (.head _))))) (fun p hp => .tail _ (.tail _ (.tail _ (.tail _ (.tail _ (.tail _ hp)))))) (fun p hp => stat_ne_empty (hSo p hp) (by assumption))
          have oS6 : ∀ p ∈ P ++ st, p.1 ≠ _ := fun p hp => hPv p (by rw [hT0]; exact (List.mem_append.mp hp).elim (List.mem_append_left _) (fun h => List.mem_append_right _ (.tail _ (.tail _ (.tail _ (.tail _ (.tail _ h)))))))
          have tab0 := IntTab.start (by assumption) (by assumption)
          clear hPj hD hR hPo hst hPv hst0 ofB ofL ofT ofS hyl3 l4
          generalize P ++ st = S at N6 frz hSo oS1 oS2 oS3 oS4 oS5 oS6
          k_dflt (refine For_turns F6 ?_)
          k_steps
          rename Fr _ _ _ _ => F7
          rename News _ _ _ _ => N7
          rename IsRange _ _ _ _ _ _ _ _ => hRg
          k_dflt (refine iter_rangeTurns (n := subj.length) (by rfl) F7 N7 hRg (small5 hsl).1 (small5 hsl).2.1 ?_)
          intro I lI
          clear F7 hRg
          refine ItemsRest.invR (JLong _ _ _ _ _ _ _ _ _ S subj.length tr) ?turnL ?finL (JLong.start (by assumption) (by assumption) tab0)
          case turnL =>
            intro i t m nw o h tk hi hJ ho F8 N8
            obtain ⟨⟨u, rfl⟩, M, oB, oL, vB, vL, ⟨ot, KT, rfl, hotc, hKo, hTab⟩, dB, dL, hTold⟩ := hJ
            have hKa : ∀ p ∈ KT, p ∈ _ := fun p hp => List.mem_append_left S hp
            have aB := led_apart N8 (.tail _ (.head _)) dB (fun p hp => .tail _ (.tail _ (.tail _ (.tail _ (.tail _ (.tail _ (.tail _ (hKa p hp)))))))) hKo oS1
            have aL := led_apart N8 (.tail _ (.tail _ (.head _))) dL (fun p hp => .tail _ (.tail _ (.tail _ (.tail _ (.tail _ (.tail _ (.tail _ (hKa p hp)))))))) hKo oS2
            have nIB : @Ne Nat I _ := Nat.ne_of_gt (lI _ (.head _))
            have nIL : @Ne Nat I _ := Nat.ne_of_gt (lI _ (.tail _ (.head _)))
            (try dsimp only)
            k_steps
            unfold Hold
            rename Fr _ _ _ _ => F9
            rename (_ : Obj).data = .cell (some (.int _ _)) => dL1
            rw [show (1 + (i : Int)) = ((i + 1 : Nat) : Int) by omega] at dL1
            k_dflt (refine For_turns F9 ?_)
            k_steps
            rename Fr _ _ _ _ => F10
            rename News _ _ _ _ => N10
            rename IsRange _ _ _ _ _ _ _ _ => hRg
            k_dflt (refine iter_rangeTurns (n := subj.length - i) (by rfl) F10 N10 hRg (small5b hsl hi).1 (small5b hsl hi).2 ?_)
            intro I2 lI2
            clear F10 N10 hRg aB aL
            (try clear F8)
            (try clear N8)
            refine ItemsRest.invR (JBeg _ _ _ _ _ _ _ _ _ _ _ S subj.length (i + 1) tr) ?turnB ?finB (JBeg.start dB hotc hKo hTab hTold)
            case turnB =>
              intro b tb m nw o2 h tk hb hJ ho2 F8 N8
              have hbe := span_le hi hb
              have hb1 := span_le1 hi hb
              have hblt : b < b + (i + 1) := Nat.lt_add_of_pos_right (Nat.succ_pos i)
              clear hTab hKo hotc dB hKa hTold
              obtain ⟨⟨u2, rfl⟩, M, oB, vB, _, rfl, ⟨ot, KT, rfl, hotc, hKo, hTab⟩, dB, hTold⟩ := hJ
              have hKa : ∀ p ∈ KT, p ∈ _ := fun p hp => List.mem_append_left S hp
              have aB := led_apart N8 (.tail _ (.tail _ (.head _))) dB (fun p hp => .tail _ (.tail _ (.tail _ (.tail _ (.tail _ (.tail _ (.tail _ (.tail _ (hKa p hp))))))))) hKo oS1
              have nI2B : @Ne Nat I2 _ := Nat.ne_of_gt (lI2 _ (.tail _ (.head _)))
              (try dsimp only)
              k_steps
              unfold Hold
              rename Fr _ _ _ _ => F9
              rename News _ _ _ _ => N9
              rename (_ : Obj).data = .cell (some (.int _ _)) => dB1
              rw [Int.zero_add] at dB1
              rename IsRange _ _ _ _ _ _ _ _ => hRg
              k_dflt (refine iter_rangeUnr (n := 3) (by rfl) hRg (small_one (by decide) (by decide) (by decide) (by decide)) (by decide) F9 N9 ?_)
              intro I3 lI3
              clear F9 N9 hRg aB
              (try clear F8)
              (try clear N8)
              refine RangeRest.invM (JNam _ _ _ _ _ _ _ _ _ _ _ _ _ S subj.length (i + 1) b tr) ?turnN ?finN (JNam.start hotc hKo hTab hTold)
              case turnN =>
                intro j m nw t h tk hj hJ F8 N8
                clear hTab hKo hotc dB hKa hTold
                obtain ⟨⟨u3, rfl⟩, M, _, rfl, ⟨ot, KT, rfl, hotc, hKo, hTab⟩, hTold⟩ := hJ
                have qj := frz.2.2 j hj
                obtain ⟨rr, a0, a1, hyi, hrr, hr0, hr1⟩ := qj
                have mD : (D, listOf ys.toArray ys.length) ∈ KT ++ S := List.mem_append_right _ frz.2.1
                have mrr : (rr, listOf #[.ref a0, .ref a1] 0) ∈ KT ++ S := List.mem_append_right _ hrr
                (try dsimp only)
                k_steps
                unfold Hold
                rename Fr _ _ _ _ => F9
                k_dflt (refine LCg.Assign_ListComp_U F9 (by rfl) (by with_unfolding_all rfl) (by with_unfolding_all rfl) (by decide) (by rfl) (by decide) (by rfl) (by rfl) (by rfl) ?_)
                k_steps
                unfold Hold
                rename News _ _ _ _ => N9
                k_dflt (refine item_at (l := ys) (News.isList N9 (.tail _ (.tail _ (.tail _ (.tail _ (.tail _ (.tail _ (.tail _ (.tail _ (.tail _ mD)))))))))) hj hyi ?_)
                (try dsimp only)
                k_steps
                unfold Hold
                rename Fr _ _ _ _ => F10
                rename News _ _ _ _ => N10
                k_dflt (refine LCg.CompSrc.ledger (by rfl) F10 N10 (.tail _ (.tail _ (.tail _ (.tail _ (.tail _ (.tail _ (.tail _ (.tail _ (.tail _ mrr))))))))) (by rw [sizeLine_eq]; exact Nat.le_of_ble_eq_true rfl) ?_)
                intro g
                refine CompRest.inv (JW _ [((waysL subj tr (R0 j) b (b + (i + 1)) : Nat) : Int), ((waysL subj tr (R1 j) b (b + (i + 1)) : Nat) : Int)]) ?turnC ?finC ⟨rfl, .nil⟩
                case turnC =>
                  intro q v ys2 nw I4 oI C oC D2 m2 h tk E' hq hJ hv hC hx F11 N11 off ne
                  obtain ⟨rfl, hys2⟩ := hJ
                  have qp := row_pick (f := fun row => ((waysL subj tr row b (b + (i + 1)) : Nat) : Int)) hv hr0 hr1 (gram.row0 hj) (gram.row1 hj)
                  obtain ⟨ar, row, rfl, hrow, hgrow, htk⟩ := qp
                  clear F10 N10
                  (try clear N9)
                  (try clear N8)
                  (try dsimp only)
                  k_steps
                  unfold Hold
                  rename Fr _ _ _ _ => F12
                  rename News _ _ _ _ => N12
                  rename Below _ _ _ _ => B3
                  rename Frag.In _ _ => X3
                  rename Top _ _ _ _ _ _ => T3
                  k_dflt (refine ways_e (b := b) (e := b + (i + 1)) B3 F12 X3 N12 (hrow.mono fun p hp => tail3 _ (tail9 _ (List.mem_append_right _ hp))) T3 (by first | assumption | exact rfl) (by k_room) (by ktr_units) hgrow (IntTab.mono (fun p hp => tail3 _ (tail3 _ (led_tab _ hp))) hTab) (hTold.need hbe hgrow.2.2.2) gram hb1 hbe hsl rfl (Int.natCast_add b (i + 1)).symm ?_)
                  clear F12 N12
                  intro tz hz kz F13 N13
                  k_unmd
                  (try k_fold)
                  k_steps
                  rename Fr _ _ _ _ => F14
                  rename News _ _ _ _ => N14
                  exact LCg.CompEnd.intro F14 N14 _ (fun _ h => h) (LCg.Off3.of off) (.inr ⟨_, tail9 _ mrr, rfl, _, rfl⟩) ⟨rfl, by rw [htk]; exact all2_snoc hys2 ⟨_, rfl⟩⟩
                case finC =>
                  intro ys2 nw hJ
                  obtain ⟨rfl, hys2⟩ := hJ
                  clear F10 N10
                  intro D2 h tk F11 N11 oD
                  (try dsimp only)
                  k_unmd
                  (try k_fold)
                  k_steps
                  unfold Hold
                  rename Fr _ _ _ _ => F12
                  rename News _ _ _ _ => N12
                  replace hys2 : IntsAre ys2 [((waysL subj tr (R0 j) b (b + (i + 1)) : Nat) : Int), ((waysL subj tr (R1 j) b (b + (i + 1)) : Nat) : Int)] := ints_are hys2
                  k_dflt (refine sum_intsE F12 N12 (by rfl) (News.isList N12 (.head _)) hys2 (gram_sum gram hj hblt hbe) ?_)
                  clear F12 N12
                  intro h2 tk2 ts F12 N12
                  k_unmd
                  (try k_fold)
                  k_steps
                  unfold Hold
                  rename Fr _ _ _ _ => F13
                  rename News _ _ _ _ => N13
                  k_dflt (refine setItem_intTab (ks := key3 j b (b + (i + 1))) F13 N13 hTab (fun p hp => .tail _ (.tail _ (.tail _ (.tail _ (.tail _ (led_tab _ hp)))))) (.head _) (keyJ rfl) (by ktr_units) (told_m hTold hsl hbe hj) ?_)
                  intro h3 N3 tk3 ot2 KT2 F14 N14 hsub hot2 hotc2 hK2 hKo2 hTab2
                  clear F13 N13
                  (try dsimp only)
                  k_unmd
                  (try k_fold)
                  k_steps
                  rename Fr _ _ _ _ => F15
                  rename News _ _ _ _ => N15
                  have nI3 : @Ne Nat I3 _ := Nat.ne_of_gt (lI3 _ (.tail _ (.tail _ (.tail _ (.tail _ (.tail _ (.tail _ (.head _))))))))
                  have nI2 : @Ne Nat I2 _ := Nat.ne_of_gt (lI2 _ (.tail _ (.tail _ (.tail _ (.tail _ (.tail _ (.head _)))))))
                  have nI1 : @Ne Nat I _ := Nat.ne_of_gt (lI _ (.tail _ (.tail _ (.tail _ (.tail _ (.head _))))))
                  refine UnrEnd.intro F15 N15 _ (led_back hsub hot2 hK2 nI3 nI2 nI1 (by k_ne) (by k_ne) (by k_ne) (by k_ne) (by k_ne) oS5) (List.forall_mem_cons.mpr ⟨Nat.ne_of_lt (lI3 _ (.head _)), List.forall_mem_cons.mpr ⟨Nat.ne_of_lt (lI3 _ (.tail _ (.head _))), led_off (fun p hp => lI3 p (.tail _ (.tail _ hp))) rfl N15 (hsub _ (.tail _ (.tail _ (.head _))) nI3) hK2 hKo2⟩⟩) ⟨jm_of ?_, _, _, rfl, ⟨ot2, KT2, rfl, hotc2, hKo2, hTab2⟩, hTold.put hj (Nat.succ_pos _) hbe⟩
                  intro z hz
                  have a1 : z ≠ Str.ofString "name" := fun e => by subst e; exact absurd hz (by decide)
                  have a2 : z ≠ Str.ofString "spans" := fun e => by subst e; exact absurd hz (by decide)
                  simp only [if_neg a1, if_neg a2, hz, Bool.false_eq_true, if_false]
              case finN =>
                intro m nw h tk hJ F8 N8
                clear hTab hKo hotc dB hKa hTold
                obtain ⟨⟨u3, rfl⟩, M, _, rfl, ⟨ot, KT, rfl, hotc, hKo, hTab⟩, hTold⟩ := hJ
                (try dsimp only)
                k_unmd
                (try k_fold)
                k_steps
                rename Fr _ _ _ _ => F9
                rename News _ _ _ _ => N9
                exact UnrEndW.one F9 N9 _ (fun _ h => h) (List.forall_mem_cons.mpr ⟨Nat.ne_of_lt (lI2 _ (.head _)), led_off (fun p hp => lI2 p (.tail _ hp)) ho2 N9 (.head _) (fun p hp => .tail _ (.tail _ (led_tab _ (.tail _ hp)))) hKo⟩) ⟨trivial, MIs.trans ⟨u3, rfl⟩, M, _, _, _, rfl, ⟨ot, KT, rfl, hotc, hKo, hTab⟩, dB1, hTold.next⟩
            case finB =>
              intro m nw h tk hJ F8 N8
              clear hTab hKo hotc dB hKa hTold
              obtain ⟨⟨u2, rfl⟩, M, oB, vB, _, rfl, ⟨ot, KT, rfl, hotc, hKo, hTab⟩, dB, hTold⟩ := hJ
              (try dsimp only)
              k_unmd
              (try k_fold)
              k_steps
              rename Fr _ _ _ _ => F9
              rename News _ _ _ _ => N9
              exact UnrEndW.one F9 N9 _ (fun _ h => h) (led_off (KT0 := []) lI ho N9 (.head _) (fun p hp => .tail _ (led_tab _ (.tail _ hp))) hKo) ⟨trivial, MIs.trans ⟨u2, rfl⟩, M, _, _, _, _, ⟨ot, KT, rfl, hotc, hKo, hTab⟩, dB, dL1, Told.longer (by rw [show subj.length + 1 - (i + 1) = subj.length - i from Nat.add_sub_add_right subj.length 1 i]; exact hTold) (Nat.succ_pos _) hi hsl⟩
          case finL =>
            intro m nw h tk hJ F8 N8
            clear tab0
            obtain ⟨⟨u2, rfl⟩, M, oB, oL, vB, vL, ⟨ot, KT, rfl, hotc, hKo, hTab⟩, dB, dL, hTold⟩ := hJ
            (try dsimp only)
            refine hZ _ ?_
            clear hZ hZ'
            k_unmd
            (try k_fold)
            k_steps
            unfold Hold
            rename Fr _ _ _ _ => F9
            rename News _ _ _ _ => N9
            rename Below _ _ _ _ => B3
            rename Frag.In _ _ => X3
            rename Top _ _ _ _ _ _ => T3
            k_dflt (refine host_c B3 F9 X3 N9 T3 (by first | assumption | exact rfl) (by k_room) (by ktr_units) ?_)
            clear F9 N9
            intro xh xd xl h4 tk4 g1 g2 g3 g4 g5 g6 t1 t2 t3 t4 t4' t5 t5' t6 F9 N9 lxd lxh lxl
            have lxl2 := fun p hp => Nat.lt_trans (lxd p hp) (Nat.lt_trans lxh lxl)
            replace lxl2 := fun p hp => (lxl2 p hp : @LT.lt Nat _ p.1 xl)
            k_lt lxd
            k_lt lxl2
            k_unmd
            (try k_fold)
            k_steps
            unfold Hold
            rename Fr _ _ _ _ => F9
            rename News _ _ _ _ => N9
            k_dflt (refine ref_c B3 F9 X3 N9 T3 (by first | assumption | exact rfl) (by k_room) (by ktr_units) ?_)
            clear F9 N9
            intro xa da h5 tk5 ga1 ga2 ga3 ua1 ua2 ua3 F9 N9 lda lxa
            k_lt lda
            k_unmd
            (try k_fold)
            k_steps
            unfold Hold
            rename Fr _ _ _ _ => F9
            rename News _ _ _ _ => N9
            k_dflt (refine ref_c B3 F9 X3 N9 T3 (by first | assumption | exact rfl) (by k_room) (by ktr_units) ?_)
            clear F9 N9
            intro xb db h6 tk6 gb1 gb2 gb3 ub1 ub2 ub3 F9 N9 ldb lxb
            k_lt ldb
            k_unmd
            (try k_fold)
            k_steps
            unfold Hold
            rename Fr _ _ _ _ => F9
            rename News _ _ _ _ => N9
            have hxr := all_runs (subj := subj) (tr := tr) (lim := 99999) gOf_stu gram.1 gram.2.1 gram.2.2.1 gOf_I gOf_V hsl rfl
            obtain ⟨es, kF, fF, hes, hk0, hk9, hruns⟩ := hxr
            replace N9 := match_led N9
            have fxd : ∀ p ∈ KT ++ S, p.1 ≠ xd := by walk_at "fresh"
            have fxl : ∀ p ∈ KT ++ S, p.1 ≠ xl := by walk_at "fresh"
            have hodc : od.cls = .type "dict" := by obtain ⟨es, ep, ⟨hcls, -⟩, -⟩ := hod; exact hcls
            have fxv := led_apartD N9 (.tail _ (.head _)) hodc (fun p hp => by simp [hp]) hKo oS6
            k_dflt (refine match_c (p := wPat) (kvs := kvs) (G := gOf R0 R1) (stF := fun b => ⟨(List.range b).flatMap fun b => evsOf subj b (es b), []⟩) (kF := kF) (fF := fF) B3 F9 X3 N9 T3 (by first | assumption | exact rfl) (by k_room) (by ktr_units) (match_okT rfl rfl rfl rfl rfl rfl rfl) ?s1 ?s2 ?s3 match_sub (by k_ne) (by k_ne) (by k_ne) hod (by assumption) ?mh ?mr (by omega) (by decide) (by decide) ?kl (by decide) ?pt ?gi hk0 hk9 .nil hruns ?_)
            case s1 => exact List.forall_mem_cons.mpr ⟨by k_ne, List.forall_mem_cons.mpr ⟨by k_ne, List.forall_mem_cons.mpr ⟨by k_ne, List.forall_mem_cons.mpr ⟨by k_ne, List.forall_mem_cons.mpr ⟨by k_ne, List.forall_mem_cons.mpr ⟨by k_ne, List.forall_mem_cons.mpr ⟨by k_ne, List.forall_mem_cons.mpr ⟨by k_ne, List.forall_mem_cons.mpr ⟨by k_ne, List.forall_mem_cons.mpr ⟨by k_ne, List.forall_mem_cons.mpr ⟨by k_ne, fxd⟩⟩⟩⟩⟩⟩⟩⟩⟩⟩⟩
            case s2 => exact List.forall_mem_cons.mpr ⟨by k_ne, List.forall_mem_cons.mpr ⟨by k_ne, List.forall_mem_cons.mpr ⟨by k_ne, List.forall_mem_cons.mpr ⟨by k_ne, List.forall_mem_cons.mpr ⟨by k_ne, List.forall_mem_cons.mpr ⟨by k_ne, List.forall_mem_cons.mpr ⟨by k_ne, List.forall_mem_cons.mpr ⟨by k_ne, List.forall_mem_cons.mpr ⟨by k_ne, List.forall_mem_cons.mpr ⟨by k_ne, List.forall_mem_cons.mpr ⟨by k_ne, fxv⟩⟩⟩⟩⟩⟩⟩⟩⟩⟩⟩
            case s3 => exact List.forall_mem_cons.mpr ⟨by k_ne, List.forall_mem_cons.mpr ⟨by k_ne, List.forall_mem_cons.mpr ⟨by k_ne, List.forall_mem_cons.mpr ⟨by k_ne, List.forall_mem_cons.mpr ⟨by k_ne, List.forall_mem_cons.mpr ⟨by k_ne, List.forall_mem_cons.mpr ⟨by k_ne, List.forall_mem_cons.mpr ⟨by k_ne, List.forall_mem_cons.mpr ⟨by k_ne, List.forall_mem_cons.mpr ⟨by k_ne, List.forall_mem_cons.mpr ⟨by k_ne, fxl⟩⟩⟩⟩⟩⟩⟩⟩⟩⟩⟩
            case mh => walk_at "memx"
            case mr => walk_at "memx"
            case kl => omega
            case pt => exact w_pat (by walk_at "memx") (by walk_at "memx") (by walk_at "memx") (by walk_at "memx") (by walk_at "memx") (by walk_at "memx") (by walk_at "memx") (by walk_at "memx") (by walk_at "memx") (by walk_at "memx") (by walk_at "memx")
            case gi => exact frz.1.mono fun p hp => tail18 p (List.mem_append_right _ hp)
            clear F9 N9
            intro h9 tk9 tk5' od' log nl tl k9 F9 N9 htl hlog hll
            have qW := rest_led N9 hlog
            clear N9 hlog
            obtain ⟨W, N9, mxd, mxl, mxh, mpT, mpS, mTab, hlog⟩ := qW
            replace hTab := IntTab.mono mTab hTab
            have hevs := fold_evs (fun b hb => (hes b hb).1) (subj.length + 1) (Nat.le_refl _)
            have hwf := wf_evs (fun b hb => (hes b hb).1) (subj.length + 1) 0 none (by omega)
            rw [← List.range_eq_range'] at hwf
            generalize hEV : (List.range (subj.length + 1)).flatMap (fun b => evsOf subj b (es b)) = evs at hevs hwf hlog
            clear hEV hruns hk0 hk9 fxd fxl fxv hod hodc hKo hotc dB dL frz hSo oS1 oS2 oS3 oS4 oS5 oS6 lxh lxl lxd lxl2 lxa lda lxb ldb mTab htl
            obtain ⟨Mm, hev1, hev2, hev3, hev4⟩ := hevs
            k_unmd
            (try k_fold)
            k_steps
            unfold Hold
            rename Fr _ _ _ _ => F10
            rename News _ _ _ _ => N10
            replace N10 := logled N10
            rename (∀ p ∈ W, p.1 < _) => lW
            have hWx := lt_off lW
            rename _ < _ ∧ AllLt _ W => lM
            have hWm := lt_off (allLt_mem lM.2)
            have tabM := IntTab.start (by assumption) (by assumption)
            k_dflt (refine For_turns F10 ?_)
            k_steps
            rename Fr _ _ _ _ => F11
            rename News _ _ _ _ => N11
            k_dflt (refine iter_listTurns (vs := log) (by rfl) F11 N11 (.tail _ (.tail _ mxl)) rfl rfl ?_)
            intro I5 lI5
            refine ItemsRest.invM (fun m₀ _ pre m nw => JLog _ _ _ W subj evs m₀ pre.length m nw) ?turnG ?finG (JLog.start (IntTab.cls tabM) tabM hwf)
            case turnG =>
              intro pre v post m nw o h tk ev hJ ho F5 N5
              obtain ⟨⟨u, rfl⟩, S1, M2, ⟨vs, n, om, KM, rfl, hvs, homc, hKo, hTabM⟩, hfold, hwfs, hS1, hM1⟩ := hJ
              have q := All2.at2 (ev ▸ hlog)
              obtain ⟨e, hin, htk, hdr⟩ := q
              rw [hdr] at hwfs
              have q := hwfs.event
              obtain ⟨ae, te, ve, rfl, hme, hvr⟩ := hin
              have qa := log_apart N5 homc hKo hWx hWm
              obtain ⟨axs, amd⟩ := qa
              have qr := pre_room ev hll hvs hS1
              obtain ⟨hvl, hpl⟩ := qr
              have hme2 := List.mem_append_right KM hme
              have mpS2 := List.mem_append_right KM mpS
              have nIx : @Ne Nat I5 _ := Nat.ne_of_gt (lI5 _ (.head _))
              have nIm : @Ne Nat I5 _ := Nat.ne_of_gt (lI5 _ (.tail _ (.head _)))
              clear F11 N11
              (try clear F10)
              (try clear N10)
              dsimp only at nIx nIm htk
              rcases q with ⟨b, rfl, hw⟩ | ⟨b, S0, v, hS, rfl, hv0, hv1, hv2, hw⟩
              · have hvi := hvr.int_inv
                obtain ⟨tb, rfl⟩ := hvi
                replace hme2 : (ae, tupObj [.str (Str.ofString "I") te, .int (b : Int) tb]) ∈ KM ++ W := hme2
                clear hme hvr hwfs hdr
                (try dsimp only)
                k_steps
                rename Fr _ _ _ _ => F6
                rename News _ _ _ _ => N6
                refine UnrEndW.one F6 N6 _ (fun _ h => h) (log_off lI5 ho N6 (.head _) (fun p hp => .tail _ (.tail _ (.tail _ (List.mem_append_left _ hp)))) hKo) ⟨⟨.tail _ (.tail _ (List.mem_append_right _ mxl)), trivial⟩, ?_⟩
                rw [List.length_append, List.length_singleton]
                refine JLog.int (List.push_toArray _ _) (jm_of ?_) hvs homc hKo hTabM hfold htk hw hS1 hM1
                intro z hz
                have a1 : z ≠ Str.ofString "key" := fun e => by subst e; exact absurd hz (by decide)
                have a2 : z ≠ Str.ofString "value" := fun e => by subst e; exact absurd hz (by decide)
                simp only [if_neg a1, if_neg a2, hz, Bool.false_eq_true, if_false]
              · have hvi := hvr.str_inv
                obtain ⟨tb, rfl⟩ := hvi
                replace hme2 : (ae, tupObj [.str (Str.ofString "V") te, .str v tb]) ∈ KM ++ W := hme2
                clear hme hvr hwfs hdr
                (try dsimp only)
                k_steps
                unfold Hold
                rename Fr _ _ _ _ => F6
                rename News _ _ _ _ => N6
                have ql := last_at hvs hS hvl
                obtain ⟨tla, hla⟩ := ql
                have hla2 := hla ((S1.length : Int) - 1) (by rw [hvs.length])
                k_dflt (refine item_listL (l := vs) (News.isList N6 (.tail _ (.head _))) hla2.1 hla2.2.1 hla2.2.2 ?_)
                clear hla hla2
                have hv3 : (v == Str.ofString "") = false := str_ne_empty hv0
                have hv4 : (v != Txt.slice subj (some (b : Int)) (some ((b : Int) + (v.length : Int)))) = false := by rw [hv2]; exact bne_self_eq_false v
                (try dsimp only)
                k_steps
                unfold Hold
                rename News _ _ _ _ => N6
                k_dflt (refine getMethod_tupTab_get N6 (IntTab.mono led_m hTabM) ?_)
                (try dsimp only)
                k_steps
                unfold Hold
                rename News _ _ _ _ => N6
                k_dflt (refine call_get2_tupTab (knd := PySem.intKind PySem.Challenge.rw_sj0196_01.row.prog _) (enc := PyData.int) (ks := [0, (b : Int), (b : Int) + (v.length : Int)]) same_int (by ktr_units) N6 (IntTab.mono (fun p hp => .tail _ (led_m p hp)) hTabM) (.head _) (intKey3 rfl) (Flat.int 0 _) ?_)
                intro gv hgv
                have hgv2 := lk_flat hgv
                obtain ⟨gt, rfl⟩ := hgv2
                clear hgv
                (try dsimp only)
                k_steps
                unfold Hold
                rename Fr _ _ _ _ => F7
                rename News _ _ _ _ => N7
                k_dflt (refine setItem_intTab (ks := [0, (b : Int), (b : Int) + (v.length : Int)]) F7 N7 hTabM (fun p hp => .tail _ (.tail _ (led_m p hp))) (.head _) (intKey3 rfl) (by ktr_units) (by omega) ?_)
                intro h3 N3 tk3 ot2 KM2 F14 N14 hsub hot2 hotc2 hK2 hKo2 hTab2
                clear F7 N7
                (try dsimp only)
                k_unmd
                (try k_fold)
                k_steps
                rename Fr _ _ _ _ => F15
                rename News _ _ _ _ => N15
                have nXm : @Ne Nat _ _ := Nat.ne_of_lt lM.1
                have qb := log_back hsub hot2 hK2 nIm nXm hWm
                have hIm : (I5, o) ∈ N3 := hsub (I5, o) (.tail _ (.tail _ (.head _))) nIm
                refine UnrEndW.one F15 N15 _ qb ?offI ⟨⟨.tail _ (.tail _ (List.mem_append_right _ mxl)), trivial⟩, ?_⟩
                case offI => exact log_off lI5 ho N15 hIm hK2 hKo2
                refine JLog.str (jm_of ?_) hvs hS hotc2 hKo2 hTab2 hfold htk hw hS1 hM1
                intro z hz
                have a1 : z ≠ Str.ofString "key" := fun e => by subst e; exact absurd hz (by decide)
                have a2 : z ≠ Str.ofString "value" := fun e => by subst e; exact absurd hz (by decide)
                have a3 : z ≠ Str.ofString "here" := fun e => by subst e; exact absurd hz (by decide)
                simp only [if_neg a1, if_neg a2, if_neg a3, hz, Bool.false_eq_true, if_false]
            case finG =>
              intro m nw h tk hJ F5 N5
              obtain ⟨⟨u, rfl⟩, S1, M2, ⟨vs, n, om, KM, rfl, hvs, homc, hKo, hTabM⟩, hfold, -, -, -⟩ := hJ
              have q := log_done hlog hfold hev1
              obtain ⟨rfl, rfl⟩ := q
              clear F11 N11 hfold hev1 hlog hwf
              (try clear F10)
              (try clear N10)
              k_unmd
              (try k_fold)
              (try dsimp only)
              k_steps
              unfold Hold
              rename Fr _ _ _ _ => F12
              rename News _ _ _ _ => N12
              have qd := due_led N12 mpT mpS hTab hTabM
              obtain ⟨W2, N13, mxs2, mpT2, mpS2, hTab2, hTabM2⟩ := qd
              have qe := IntTab.entries hTab2
              obtain ⟨ot, ees, eep, ks, lot, mot, hex, hdat, hks, hkl, hent, hall⟩ := qe
              have qr := told_room hTold hsl hkl hks
              obtain ⟨hkl2, hesz⟩ := qr
              clear N12 mxd mxl mxh mpT mpS hTab hTabM hKo homc
              k_dflt (refine ListComp_TD F12 (by with_unfolding_all rfl) (by decide) (by rfl) (by decide) (by rfl) ?_)
              walk1
              rename Fr _ _ _ _ => F13
              rename News _ _ _ _ => N13
              refine ⟨_, ot, ees, eep, W2, rfl, by rfl, F13, N13, lot, mot, hex, hdat, hesz, fun g => ?_⟩
              have st0 := JDue.start0 ks hTab2
              refine CompRestT.inv (JDue PySem.Challenge.rw_sj0196_01.row.prog _ M ks W2) ?turnD ?finD st0
              case turnD =>
                intro i v ys nw I oI C oC D m2 h tk E' hi hJ hv hC hx F2 N2 off ne
                have q := due_entry hTold hent hv hx
                obtain ⟨i', b', e', a, ok, nn, tka, tkb, tkc, nk, hk, rfl, hx2, hmk, htk, hln, hokc, hokd⟩ := q
                have q := due_parts hJ mpT2 hmk hTab2
                obtain ⟨mpT3, hmk3, hTab3⟩ := q
                clear F13 N13
                (try clear F12)
                k_steps
                unfold Hold
                rename News _ _ _ _ => N3
                k_dflt (refine item_tuple (items := #[.int (i' : Int) tka, .int (b' : Int) tkb, .int (e' : Int) tkc]) (j := 0) (x := .int (i' : Int) tka) ⟨ok, (N3 _ (.tail _ (.tail _ (.tail _ hmk3)))).1, hokc, nk, hokd⟩ (by decide) (by decide) rfl rfl ?_)
                (try dsimp only)
                k_steps
                · skip
                  unfold Hold
                  rename _ = (0 : Int) => hi0
                  rename News _ _ _ _ => N4
                  k_dflt (refine item_tupTab same_int (by ktr_units) N4 (IntTab.mono (fun p hp => .tail _ (.tail _ (.tail _ hp))) hTab3) (.tail _ (.tail _ (.tail _ hmk3))) htk (lookM_enc hln) ?_)
                  intro gv hgv
                  have hgv2 := flat_int_inv hgv
                  obtain ⟨gt, rfl⟩ := hgv2
                  clear hgv
                  (try dsimp only)
                  k_steps
                  · unfold Hold
                    rename News _ _ _ _ => N5
                    have qoff : ∀ ox, LCg.Off3 I C D ((h.objs.size, ox) :: nw) := fun ox => due_off (ox := ox) N5 rfl off
                    k_dflt (refine item_tupTab same_int (by ktr_units) N5 (IntTab.mono (fun p hp => .tail _ (.tail _ (.tail _ hp))) hTab3) (.tail _ (.tail _ (.tail _ hmk3))) htk (lookM_enc hln) ?_)
                    intro gv hgv
                    have hgv2 := flat_int_inv hgv
                    obtain ⟨gt2, rfl⟩ := hgv2
                    clear hgv
                    (try dsimp only)
                    k_steps
                    rename Fr _ _ _ _ => F6
                    rename News _ _ _ _ => N6
                    refine LCg.CompEnd.intro F6 N6 _ rot3 ?offD (.tail _ (hJ.td mot)) ?_
                    case offD => exact qoff _
                    exact JDue.addA hJ hk hln hi0 (by assumption) hmk htk
                  · skip
                    rename Fr _ _ _ _ => F6
                    rename News _ _ _ _ => N6
                    exact LCg.CompEnd.intro F6 N6 nw (fun _ h => h) (LCg.Off3.of off) (hJ.td mot) (JDue.skipB hJ hk hln (by first | assumption | (simp only [Int.not_lt] at *; assumption) | omega))
                · skip
                  rename (_ : Int) ≠ 0 => hi0
                  rename Fr _ _ _ _ => F6
                  rename News _ _ _ _ => N6
                  exact LCg.CompEnd.intro F6 N6 nw (fun _ h => h) (LCg.Off3.of off) (hJ.td mot) (JDue.skipA hJ hk hln hi0)
              case finD =>
                intro ys nw hJ
                rw [hks] at hJ
                have q := JDue.done hJ hall
                obtain ⟨tl, ps, rfl, htl, hA, hp1, hp2, hpl⟩ := q
                intro D h tk F2 N2 oD
                clear F13 N13
                (try clear F12)
                k_unmd
                (try k_fold)
                (try dsimp only)
                k_steps
                unfold Hold
                rename Fr _ _ _ _ => F3
                rename News _ _ _ _ => N3
                have hpsz : ps.length ≤ sizeLine := ps_room hpl hkl2
                k_dflt (refine dict_of_pairs (by rfl) (by ktr_units) F3 N3 (modules_low T3.nolimit) (.head _) (all2_mono (fun _ _ q => q.mono fun _ h => .tail _ h) hA) hpsz ?_)
                intro h5 tk5 o5 F5 N5 hTab5 o5off
                clear F3 N3
                have mpS3 := List.mem_append_right tl mpS2
                have mxs3 := List.mem_append_right tl mxs2
                (try dsimp only)
                k_unmd
                (try k_fold)
                k_steps
                rename Fr _ _ _ _ => F6
                rename News _ _ _ _ => N6
                rename IsRange _ _ _ _ _ _ _ _ => hRg
                k_dflt (refine kll_range (n := subj.length + 1) (by rfl) F6 N6 hRg (by first | exact (small5 hsl).2.2.1 | exact small_one (by omega) (by omega) (by omega) (by omega)) (by first | exact (small5 hsl).2.2.2 | (rw [rangeSize_nat]; omega)) (by omega) ?_)
                clear F6 N6 hRg
                intro DL us2 c2 h6x tk6x F7 N7 lDL hus2
                (try dsimp only)
                k_unmd
                (try k_fold)
                k_steps
                unfold Hold
                rename News _ _ _ _ => N8
                k_dflt (refine eq_intsT N8 (.tail _ (.tail _ (.tail _ mxs3))) (.head _) hvs hus2 (by ktr_units) ?_)
                k_unmd
                (try k_fold)
                k_steps
                unfold Hold
                rename News _ _ _ _ => N9
                have hmd := many_due hes hTold hev2 hev3 hev4 hp1 hp2
                k_dflt (refine eq_intTabs N9 (IntTab.mono (fun p hp => .tail _ (.tail _ (.tail _ (List.mem_append_right tl hp)))) hTabM2) (IntTab.mono (fun p hp => .tail _ hp) hTab5) (by ktr_units) hmd ?_)
                k_unmd
                (try k_fold)
                k_steps
                skip
end law
end
end
end Mine
theorem PySem.Challenge.cw_sj0196_01_holds : PySem.Challenge.rw_sj0196_01.Holds :=
  Mine.law_holds
