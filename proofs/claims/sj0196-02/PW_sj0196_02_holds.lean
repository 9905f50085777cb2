import PyProof.Rows.All
import Wide.All
import OpenK.AllK
import Wide.FinOn
import Lean
import PySem.Challenge.RW_sj0196_02
open PySem PySem.W PyProof.Rows
set_option Elab.async false
set_option linter.all false
namespace Mine
section headrun
variable {tb : String → Option Builtin} {p : Program} {w : World} {n₀ : Nat} {ann : Option Value}
/-- the run of a top over a tree of objects, in one go -/
def topRunT (tb : String → Option Builtin) (p : Program) (w : World) (n₀ : Nat) (ann : Option Value) : Nat → SharedT → Thread → Option SharedT
  | 0, _, _ => none
  | n + 1, s, t => match through t with
    | true => some s
    | false => match stepOk n₀ ann t with
      | false => none
      | true => match stepT (denote tb) p w s t with
        | some (s', t') => topRunT tb p w n₀ ann n s' t'
        | none => none
theorem topRunT_of : ∀ {n : Nat} {s s' : SharedT} {t : Thread}, topRunT tb p w n₀ ann n s t = some s' → topRun tb p w n₀ ann n s.abs t = some s'.abs
  | 0, _, _, _, h => by cases h
  | n + 1, s, s', t, h => by
    unfold topRunT at h
    unfold topRun
    cases ht : through t with
    | true => rw [ht] at h; cases h; rfl
    | false =>
      rw [ht] at h
      dsimp only at h ⊢
      cases hs : stepOk n₀ ann t with
      | false => rw [hs] at h; cases h
      | true =>
        rw [hs] at h
        dsimp only at h ⊢
        cases he : stepT (denote tb) p w s t with
        | none => rw [he] at h; cases h
        | some r =>
          obtain ⟨s2, t2⟩ := r
          rw [he] at h
          rw [stepT_spec he]
          exact topRunT_of h
def insAll : BT → Nat → List Obj → BT
  | t, _, [] => t
  | t, n, o :: l => insAll (t.ins n o) (n + 1) l
noncomputable def bootT (P : Params) : BT := insAll .nil 0 (boot_heap P).objs.toList
noncomputable def startT (w : World) (os : OsState) : SharedT := ⟨bootT w.params, (boot_heap w.params).objs.size, (boot_heap w.params).life, Array.mk [], boot_drawn, boot_toks, os⟩
theorem startT_abs (w : World) (os : OsState) : (startT w os).abs = ⟨boot_heap w.params, Array.mk [], boot_drawn, boot_toks, os⟩ := by kernel_rfl
noncomputable def runAll (p : Program) (w : World) (N : Nat) (os : OsState) : Option SharedT := topRunT treeTable p w (boot_heap w.params).objs.size ((boot_heap w.params).nsMap mainGlobals "__annotations__") N (startT w os) (topStub p)
theorem boot_ns (w : World) : ((boot_heap w.params).isNs mainGlobals && (Array.mk [] : Array GenState).size == 0) = true := by kernel_rfl
theorem left_once {q : Program} {loose : List Str} {Xt : Shared → Bool} {α : Type} {Yf : Shared → α} {Ya : World → α} {N : Nat} {g0 : Bool} (e : opening p = plainProg p.main.scope.names) (hN : Nat.ble 600 N = true) (f : ∀ s, fenceModules? p s = some s)
    (l1 : ∀ (w : World) (os : OsState), (runAll p w N os).map (fun s => staticsOk (importedModules p.main.body) (boot_heap w.params) s.abs.heap && namesBound p s.abs.heap && gensDone s.abs && laidKept (boot_heap w.params) s.abs.heap) = some true)
    (l2 : ∀ (w : World) (os : OsState), (runAll p w N os).map (fun s => openSeen q loose (importedModules p.main.body) Xt g0 s.abs) = some (openGood q loose))
    (l3 : ∀ (w : World) (os : OsState), (runAll p w N os).map (fun s => Yf s.abs) = some (Ya w)) : LeftO p q loose Xt Yf Ya N g0 := fun w => by
  obtain ⟨⟨h, gs, d, k, os⟩, ef, e'⟩ := Option.map_eq_some_iff.mp (boot_open e hN f w)
  obtain ⟨rfl, rfl, rfl, rfl⟩ : h = boot_heap w.params ∧ gs = Array.mk [] ∧ d = boot_drawn ∧ k = boot_toks := by simpa using e'
  obtain ⟨s1, r1, z1⟩ := Option.map_eq_some_iff.mp (l1 w os)
  obtain ⟨s2, r2, z2⟩ := Option.map_eq_some_iff.mp (l2 w os)
  obtain ⟨s3, r3, z3⟩ := Option.map_eq_some_iff.mp (l3 w os)
  rw [r1] at r2 r3
  cases r2
  cases r3
  have r := topRunT_of r1
  rw [startT_abs] at r
  have t : topFrom treeTable p w N ⟨boot_heap w.params, Array.mk [], boot_drawn, boot_toks, os⟩ = some s1.abs := by
    unfold topFrom
    dsimp only
    rw [boot_ns, r]
    show (match staticsOk (importedModules p.main.body) (boot_heap w.params) s1.abs.heap && namesBound p s1.abs.heap && gensDone s1.abs && laidKept (boot_heap w.params) s1.abs.heap with | true => _ | false => _) = _
    rw [z1]
  unfold openEnds
  rw [ef]
  show (topFrom treeTable p w N _).map _ = _
  rw [t]
  exact congrArg some (Prod.ext z2 z3)
theorem map3 {α β γ δ : Type} {r : Option α} {a : α → β} {b : α → γ} {c : α → δ} {A : β} {B : γ} {C : δ} (h : r.map (fun s => (a s, b s, c s)) = some (A, B, C)) : r.map a = some A ∧ r.map b = some B ∧ r.map c = some C := by
  cases r with
  | none => cases h
  | some s =>
    have h' := Option.some.inj h
    exact ⟨congrArg some (Prod.mk.inj h').1, congrArg some (Prod.mk.inj (Prod.mk.inj h').2).1, congrArg some (Prod.mk.inj (Prod.mk.inj h').2).2⟩
end headrun
section stage
local macro_rules | `(tactic| first | refine $t:term | fail $_s:str) => `(tactic| (refine $t:term; all_goals exact (by assumption : ∀ P : Prop, P) _))
set_option maxRecDepth 100000 in
set_option maxHeartbeats 8000000 in
/-- a theorem of no weight (its premise is false): it makes the two constants that the head speaks of -/
theorem stage (h : ∀ P : Prop, P) : PySem.Challenge.rw_sj0196_02.Holds := by
  w_on
  refine holds_law (h _) (fun _ => ?_)
  k_head
end stage
section left
set_option maxRecDepth 100000
set_option maxHeartbeats 0
abbrev prog0 : Program := PySem.Challenge.rw_sj0196_02.row.prog
abbrev loose0 : List Str := [Str.ofString "SnobolError", Str.ofString "plain_count"]
def obsAs : List Addr := [2,3,15,18,23,24,25,27,28,30,31,32,33,34,35,45,46,47,48,49,59,61,62,64,65,66,67,68,69,70,80,82,83,85,86,87,88,89,90,91,101,103,104,106,107,108,109,110,111,112,115,117,118,120,121,122,124,125,127,128,129,131,132,134,135,136,138,139,141,142,143,145,146,148,149,150,152,153,155,156,157,159,160,162,163,164,165,166,167,169,170,172,173,174,176,177,179,180,181,183,184,186,187,188,190,191,193,194,195,197,198,200,201,202,204,205,207,208,209,211,212,214,215,216,218,219,221,222,223,225,226,228,229,230,232,233,235,236,237,239,240,242,243,244,246,247,249,250,251,253,254,256,257,258,260,261,263,264,265,267,268,270,271,272,274,275,277,278,279,281,282,284,285,286,288,289,291,292,293,295,296,298,299,300,302,303,305,306,307,309,310,312,313,314,316,317,319,320,321,323,324,326,327,328,330,331,333,334,335,337,338,340,341,342,344,345,347,348,349,351,352,354,355,356,358,359,361,362,363,365,366,368,369,377,379,380,382,383,384,386,387,389,390,391,393,394,396,397,398,400,401,403,404,405,406,407,408,409,412,414,415,417,418,419,422,423,424,427,428,429,432,433,434,436,437,439,440,441,444,445]
theorem obsAs_eq (P : Params) : obsAs = (stage.heap_1 P).map (·.1) := by kernel_rfl
theorem left123 (w : World) (os : OsState) : (runAll prog0 w 5868 os).map (fun s => (staticsOk (importedModules prog0.main.body) (boot_heap w.params) s.abs.heap && namesBound prog0 s.abs.heap && gensDone s.abs && laidKept (boot_heap w.params) s.abs.heap,
    openSeen stage.view_1 loose0 (importedModules prog0.main.body) (fun s => xlAt stage.view_1 [] s && recOk (RowW.records PySem.Challenge.rw_sj0196_02.row.toRowW) s) true s.abs, obsAs.map s.abs.heap.get?)) =
    some (true, openGood stage.view_1 loose0, (stage.heap_1 w.params).map fun p => some p.2) := by kernel_rfl
theorem left0 : LeftO prog0 stage.view_1 loose0 (fun s => xlAt stage.view_1 [] s && recOk (RowW.records PySem.Challenge.rw_sj0196_02.row.toRowW) s) (Hook.obs (kHook stage.heap_1 obsAs obsAs_eq)) (Hook.val (kHook stage.heap_1 obsAs obsAs_eq)) 5868 := left_once (by kernel_rfl) (by kernel_rfl) (fun s => by kernel_rfl) (fun w os => (map3 (left123 w os)).1) (fun w os => (map3 (left123 w os)).2.1) (fun w os => (map3 (left123 w os)).2.2)
end left
section top
set_option maxRecDepth 100000 in
set_option maxHeartbeats 0 in
theorem said0 : OpenLaw.wellSaid PySem.Challenge.rw_sj0196_02 = true := by kernel_rfl
local macro_rules | `(tactic| o_law) => `(tactic| refine holds_law said0 (fun said => ?_))
local macro_rules | `(tactic| k_head) => `(tactic| o_head (kHook stage.heap_1 obsAs obsAs_eq))
local macro_rules | `(tactic| first | refine $t:term | fail $_s:str) => `(tactic| (refine $t:term; focus exact left0))
set_option maxRecDepth 100000 in
set_option maxHeartbeats 8000000 in
open_top hd for PySem.Challenge.rw_sj0196_02
end top
end Mine
open PySem.Spec PySem.Calls
namespace Mine
section
abbrev tupObj (vs : List Value) : Obj := { cls := .type "tuple", data := .seq vs.toArray 0 }
abbrev hostD (h1 h2 h3 h4 h5 h6 : Int) (t1 t2 t2' t3 t4 t4' t5 t5' t6 : Tok) (xv xr xl : Addr) (lim k : Int) : Obj :=
  dictOf [⟨h1, .str (Str.ofString "values") t1, .ref xv⟩, ⟨h2, .str (Str.ofString "limit") t2, .int lim t2'⟩, ⟨h3, .str (Str.ofString "refused") t3, .ref xr⟩,
    ⟨h4, .str (Str.ofString "width") t4, .int 64 t4'⟩, ⟨h5, .str (Str.ofString "steps") t5, .int k t5'⟩, ⟨h6, .str (Str.ofString "log") t6, .ref xl⟩] 6
abbrev refD (h1 h2 h3 : Int) (t1 t2 t3 t1' t3' : Tok) (key : Str) : Obj :=
  dictOf [⟨h1, .str (Str.ofString "kind") t1, .str (Str.ofString "var") t1'⟩, ⟨h2, .str (Str.ofString "owner") t2, .none⟩, ⟨h3, .str (Str.ofString "key") t3, .str key t3'⟩] 3
/-- what the tuples' part of the ledger holds: tuples, and a fixed set of other objects that nothing changes -/
def OkT (stat : List (Addr × Obj)) (p : Addr × Obj) : Prop := p.2.cls = .type "tuple" ∨ p ∈ stat
def Tups (l : List (Addr × Obj)) : Prop := ∀ p ∈ l, p.2.cls = .type "tuple"
theorem Tups.nil : Tups [] := fun _ h => nomatch h
theorem Tups.cons {p : Addr × Obj} {l : List (Addr × Obj)} (h : p.2.cls = .type "tuple") (hl : Tups l) : Tups (p :: l) := List.forall_mem_cons.mpr ⟨h, hl⟩
theorem sepT {h₀ h : Heap} {L x : Addr} {o : Obj} {n : String} {news tups stat : List (Addr × Obj)} (N : News h₀ L h news) (hx : (x, o) ∈ news) (ho : o.cls = .type n) (hn : n ≠ "tuple") (hsub : ∀ p ∈ tups, p ∈ news)
    (hok : ∀ p ∈ tups, OkT stat p) (hs : ∀ p ∈ stat, p.1 ≠ x) : ∀ p ∈ tups, p.1 ≠ x := by
  intro p hp e
  rcases hok p hp with h1 | h1
  · have g1 := (N p (hsub p hp)).1
    have g2 := (N _ hx).1
    rw [e, g2] at g1
    have e2 := Option.some.inj g1
    rw [← e2] at h1
    rw [ho] at h1
    exact hn (Value.type.inj h1)
  · exact hs p h1 e
theorem re4 {α : Type} {tl tups : List α} {a b c d : α} : ∀ p ∈ a :: b :: c :: d :: (tl ++ tups), p ∈ tl ++ (a :: b :: c :: d :: tups) := by
  intro p hp
  simp only [List.mem_cons, List.mem_append] at hp ⊢
  rcases hp with h | h | h | h | h | h <;> simp [h]
theorem news4 {h₀ h : Heap} {L : Addr} {a b c d : Addr × Obj} (tl junk : List (Addr × Obj)) {tups l : List (Addr × Obj)} (N : News h₀ L h l) (e : l = tl ++ junk ++ (a :: b :: c :: d :: tups)) :
    News h₀ L h (a :: b :: c :: d :: (tl ++ (junk ++ tups))) := kst_newsOf N (by subst e; rw [← List.append_assoc]; exact re4)

local macro_rules | `(tactic| walk_at "spliced") => `(tactic| (refine spliced_none ?_; simp only [List.cons_append, List.nil_append]))
local macro_rules | `(tactic| k_all) => `(tactic| assumption)
local macro_rules | `(tactic| k_mem) => `(tactic| ((fail_if_success (with_reducible show _ ∈ (_ :: _))); assumption))
local macro_rules | `(tactic| walk_at "memx") => `(tactic| first | exact List.Mem.head _ | (refine List.Mem.tail _ ?_; walk_at "memx"))
local macro_rules | `(tactic| k_room) => `(tactic| ((simp only [depth_under_make, depth_under_kw, depth_in1, depth_deeper, ktrTop]); omega))
local macro_rules | `(tactic| ktr_units) => `(tactic| ((simp only [units_in1, units_deeper, Around.mark_units, ktrTop]); omega))
local macro_rules | `(tactic| walk_at "okT") => `(tactic| first | exact Tups.nil | (refine Tups.cons rfl ?_; walk_at "okT"))
local macro_rules | `(tactic| walk_at "call ref") => `(tactic| (k_here; (refine wpAny_call ?_); k_dflt (refine' code_def ?k1 ?k2 ?k3 ?k4 ?k5 ?kA ?kF ?kK ?k6 ?k7 ?k8 ?k9 ?kB ?_ ?c2 ?c3 ?c4 ?c5; (case kA => exact rfl); (case kF => exact rfl); (case kK => first | assumption | exact rfl); (case k1 => k_asm); (case k2 => k_asm); (case k3 => k_asm); (case k4 => k_asm); (case k5 => k_asm); (case k6 => k_is); (case k7 => k_is); (case k8 => k_room); (case k9 => exact BindsTo.of_eq rfl); (case c5 => decide); (case kB => exact locs rfl); (case c2 => exact rfl); (case c3 => exact rfl); (case c4 => exact rfl); k_whole; intro g' L' h' FG' F' N' B' X' T'; (try dsimp only); (try k_fold))))
local macro_rules | `(tactic| walk_at "call ref") => `(tactic| (k_here; k_dflt (refine' call_cls ?q1 ?q2 ?q3 ?q4 ?q5 ?q6 ?_; (case q1 => k_asm); (case q2 => k_asm); (case q3 => k_asm); (case q4 => k_is); (case q5 => k_is); (case q6 => k_is); k_whole; intro x' d' h' F' N' l1 l2; (try k_lt l1); (try k_lt2 l2); (try k_sweep); refine' code_def ?k1 ?k2 ?k3 ?k4 ?k5 ?kA ?kF ?kK ?k6 ?k7 ?k8 ?k9 ?kB ?_ ?c2 ?c3 ?c4 ?c5; (case kA => exact rfl); (case kF => exact rfl); (case kK => first | assumption | exact rfl); (case k1 => k_asm); (case k2 => k_asm); (case k3 => k_asm); (case k4 => k_asm); (case k5 => k_asm); (case k6 => k_is); (case k7 => k_is); (case k8 => k_room); (case k9 => exact BindsTo.of_eq rfl); (case c5 => decide); (case kB => exact locs rfl); (case c2 => exact rfl); (case c3 => exact rfl); (case c4 => exact rfl); k_whole; intro g' L' h' FG' F' N' B' X' T'; (try dsimp only); (try k_fold))))
section rules
variable {prog : Program} {w : World} {A : Around} {E : Value → Shared → Prop} {s : Shared} {h₀ : Heap} {L : Addr} {m : Str → Option Value} {news : List (Addr × Obj)}
theorem in_top_tuple {t : Addr} {items : Array Value} {ys : List Str} {x : Str} {u : Tok} {Q : Value → Shared → Prop} (b : Bool) (ht : IsTup s.heap t items) (hi : StrsAre items.toList ys) (hb : ys.any (· == x) = b)
    (h : Q (.bool b) s) : wpAny (model prog w) A (compareOp .In (.str x u) (.ref t)) Q E s := in_tuple_strs ht hi (hb ▸ h)
theorem notin_top_tuple {t : Addr} {items : Array Value} {ys : List Str} {x : Str} {u : Tok} {Q : Value → Shared → Prop} (b : Bool) (ht : IsTup s.heap t items) (hi : StrsAre items.toList ys) (hb : (!(ys.any (· == x))) = b)
    (h : Q (.bool b) s) : wpAny (model prog w) A (compareOp .NotIn (.str x u) (.ref t)) Q E s := notin_tuple_strs ht hi (hb ▸ h)
theorem in_empty {l : Addr} {n : Nat} {k : Str} {t : Tok} {Q : Value → Shared → Prop} (N : News h₀ L s.heap news) (hm : (l, listOf #[] n) ∈ news)
    (h : Q (.bool false) s) : wpAny (model prog w) A (compareOp .In (.str k t) (.ref l)) Q E s :=
  in_list_strs (vs := []) (ys := []) (News.isList N hm) .nil h
end rules
local macro_rules | `(tactic| walk_at "compareOp NotIn str ref") => `(tactic| (k_here; k_dflt (first
  | (refine' notin_top_tuple true ?k1 ?k2 ?k3 ?_; (case k1 => exact kun_topT (by k_asm) (by k_asm) (by k_is)); (case k2 => kde_strs); (case k3 => decide))
  | (refine' notin_top_tuple false ?k1 ?k2 ?k3 ?_; (case k1 => exact kun_topT (by k_asm) (by k_asm) (by k_is)); (case k2 => kde_strs); (case k3 => decide)))))
local macro_rules | `(tactic| walk_at "compareOp In str ref") => `(tactic| (k_here; k_dflt (first
  | (refine' in_empty ?k1 ?k2 ?_; (case k1 => k_asm); (case k2 => k_mem))
  | (refine' in_top_tuple true ?k1 ?k2 ?k3 ?_; (case k1 => exact kun_topT (by k_asm) (by k_asm) (by k_is)); (case k2 => kde_strs); (case k3 => decide))
  | (refine' in_top_tuple false ?k1 ?k2 ?k3 ?_; (case k1 => exact kun_topT (by k_asm) (by k_asm) (by k_is)); (case k2 => kde_strs); (case k3 => decide)))))
local macro_rules | `(tactic| walk_at "call builtin:dict.get") => `(tactic| (k_here; k_dflt (refine kdg_get2 (knd := PySem.strKind _ _) (by k_asm) (by k_mem) (by k_asm) (by k_asm) (strKind_is _ _ _ _) (some _) (by assumption) ?_); (try dsimp only [Option.getD])))
local macro_rules | `(tactic| walk_at "setItem ref str") => `(tactic| (k_here; k_dflt (refine' kda_set (knd := PySem.strKind _ _) ?F ?N ?U ?d (strKind_is _ _ _ _) ?z ?_; (case F => k_asm); (case N => k_asm); (case U => k_updF); (case d => k_asm); (case z => rw [sizeLine_eq]; omega)); intro h' o' F' N' hd'; (try dsimp only at N')))
def brkGo (subj : Str) : Nat → Int → Int
  | 0, i => i
  | f + 1, i => if i < subj.length ∧ ((!(Builtin.Str.occurrences (Str.ofString "|") (Txt.item subj i) 0 (Str.ofString "|").length 1).isEmpty) == false) = true then brkGo subj f (i + 1) else i
def brkEnd (subj : Str) (i : Int) : Int := brkGo subj (subj.length - i).toNat i
theorem brkEnd_on {subj : Str} {i : Int} (h : i < subj.length) (h2 : ((!(Builtin.Str.occurrences (Str.ofString "|") (Txt.item subj i) 0 (Str.ofString "|").length 1).isEmpty) == false) = true) : brkEnd subj (i + 1) = brkEnd subj i := by
  unfold brkEnd
  have e : ((subj.length : Int) - i).toNat = ((subj.length : Int) - (i + 1)).toNat + 1 := by omega
  rw [e, brkGo, if_pos ⟨h, h2⟩]
theorem brkEnd_off {subj : Str} {i : Int} (h2 : ((!(Builtin.Str.occurrences (Str.ofString "|") (Txt.item subj i) 0 (Str.ofString "|").length 1).isEmpty) == false) = false) : brkEnd subj i = i := by
  unfold brkEnd
  cases ((subj.length : Int) - i).toNat with
  | zero => rfl
  | succ f => rw [brkGo, if_neg]; rintro ⟨_, h⟩; rw [h2] at h; cases h
theorem brkEnd_end {subj : Str} {i : Int} (h : ¬ i < subj.length) : brkEnd subj i = i := by
  unfold brkEnd
  cases ((subj.length : Int) - i).toNat with
  | zero => rfl
  | succ f => rw [brkGo, if_neg]; rintro ⟨h', _⟩; exact h h'
section runend
variable {w : World} {mean : ExcName → Option Value} {mg mb : Str → Option Value} {dp un : Nat} {gd : Option (List Code)} {cn : Str} {cs : Scope} {L a : Addr} {ccd : Value} {cl : List (Str × Addr)} {outer : List Env} {A₀ : Around} {base h₀ : Heap} {m : Str → Option Value} {s : Shared} {Q E : Value → Shared → Prop}
  {news : List (Addr × Obj)} {subj : Str} {at_ : Int} {ts ta u1 : Tok}
set_option maxRecDepth 100000 in
set_option maxHeartbeats 8000000 in
theorem run_end_c (B : Below A₀ base outer h₀) (F : Fr h₀ L s.heap m) (X : (stage.heap_1 w.params).In h₀) (N : News h₀ L s.heap news)
  (T : Top hd.view_1 (looseW hd.view_1 [Str.ofString "SnobolError", Str.ofString "plain_count"]) mean mg mb h₀)
  (hk : cs.kind = .function) (hr : dp + 10 < recursionLimit) (hu : un + 50 < cLine)
  (hsl : subj.length ≤ 100) (hat : 0 ≤ at_) (hat2 : at_ ≤ subj.length)
  (hret : ∀ h' tk' t', Fr h₀ L h' m → News h₀ L h' news → Q (.int (brkEnd subj at_) t') { s with heap := h', toks := tk' }) :
  wpAny (model PySem.Challenge.rw_sj0196_02.row.prog w) (ktrTop dp un gd cn cs L a ccd cl outer) (call (.ref 271) [.str subj ts, .int at_ ta, .str (Str.ofString "|") u1, .bool false]) Q E s := by
  revert X; k_fill; intro X
  walk_at "call ref"
  rename Fr _ _ _ _ => F1
  rename News _ _ _ _ => N1
  refine wpAny_execs_cons ?_
  refine ksw_while (σ := Int × Tok) (fun _ => news) (fun c => [(Str.ofString "at", .int c.1 c.2)]) (fun c => at_ ≤ c.1 ∧ c.1 ≤ subj.length ∧ brkEnd subj c.1 = brkEnd subj at_) [Str.ofString "at"] (fun _ => True) (fun c => (subj.length - c.1).toNat) (at_, ta) F1 N1 ⟨Int.le_refl _, hat2, rfl⟩ (List.forall_mem_cons.mpr ⟨rfl, List.forall_mem_nil _⟩) trivial ?_
  rintro ⟨k, tk⟩ u h tk2 ⟨hk1, hk2, hk3⟩ - F2 N2
  clear F1 N1
  dsimp only at *
  generalize hZ : KswPost _ _ _ _ _ _ _ _ _ _ _ _ = Z
  k_fold
  k_steps
  · rename Fr _ _ _ _ => F3
    rename News _ _ _ _ => N3
    rw [← hZ]
    refine ksw_end (_, _) F3 N3 (fun _ hp => hp) ⟨by omega, by omega, ?_⟩ (List.forall_mem_cons.mpr ⟨rfl, List.forall_mem_nil _⟩) ?_ trivial ?_
    · rw [brkEnd_on (by assumption) (by assumption)]; exact hk3
    · intro z hz1 hz2
      have : z ≠ Str.ofString "at" := hz1 (Str.ofString "at", .int _ _) (.head _)
      show (if z = Str.ofString "at" then _ else _) = _
      rw [if_neg this]
      show (if z = Str.ofString "at" then _ else if [Str.ofString "at"].contains z = true then _ else _) = _
      rw [if_neg this, hz2]
      rfl
    · show ((subj.length : Int) - (k + 1)).toNat < ((subj.length : Int) - k).toNat
      omega
  · rename Fr h₀ L _ _ => F3
    rename News h₀ L _ _ => N3
    rw [brkEnd_off (by assumption)] at hk3
    rw [hk3]
    exact hret _ _ _ F3 N3
  · rename Fr h₀ L _ _ => F3
    rename News h₀ L _ _ => N3
    rw [brkEnd_end (by assumption)] at hk3
    rw [hk3]
    exact hret _ _ _ F3 N3
end runend
local macro_rules | `(tactic| walk_at "call ref") => `(tactic| (k_here; (with_reducible show wpAny _ _ (call (Value.ref 271) _) _ _ _); k_dflt (refine' run_end_c ?k1 ?k2 ?k3 ?k4 ?k5 ?k6 ?k7 ?k8 ?k9 ?k10 ?k11 ?_; (case k1 => k_asm); (case k2 => k_asm); (case k3 => k_asm); (case k4 => k_asm); (case k5 => k_asm); (case k6 => first | assumption | exact rfl); (case k7 => k_room); (case k8 => ktr_units); (case k9 => assumption); (case k10 => assumption); (case k11 => assumption); k_whole; intro h' tk' t' F' N'; (try dsimp only); (try k_fold))))

section adv
variable {w : World} {mean : ExcName → Option Value} {mg mb : Str → Option Value} {dp un : Nat} {gd : Option (List Code)} {cn : Str} {cs : Scope} {L a : Addr} {ccd : Value} {cl : List (Str × Addr)} {outer : List Env} {A₀ : Around} {base h₀ : Heap} {m : Str → Option Value} {s : Shared} {Q E : Value → Shared → Prop}
  {xh xd xv xl xp xr c nd : Addr} {h1 h2 h3 h4 h5 h6 : Int} {t1 t2 t2' t3 t4 t4' t5 t5' t6 : Tok} {od : Obj} {kvs : List (Str × Value)} {log items : List Value} {nl np : Nat} {lim k at_ : Int} {tups stat : List (Addr × Obj)} {tk ta ts : Tok} {named rest : Value} {subj : Str}
variable (B : Below A₀ base outer h₀) (F : Fr h₀ L s.heap m) (X : (stage.heap_1 w.params).In h₀)
  (N : News h₀ L s.heap ((xd, hostD h1 h2 h3 h4 h5 h6 t1 t2 t2' t3 t4 t4' t5 t5' t6 xv xr xl lim k) :: (xv, od) :: (xl, listOf log.toArray nl) :: (xp, listOf items.toArray np) :: tups))
  (T : Top hd.view_1 (looseW hd.view_1 [Str.ofString "SnobolError", Str.ofString "plain_count"]) mean mg mb h₀)
  (hk : cs.kind = .function) (hr : dp + 50 < recursionLimit) (hu : un + 200 < cLine)
  (hok : ∀ p ∈ tups, OkT stat p) (hs1 : ∀ p ∈ stat, p.1 ≠ xd) (hs2 : ∀ p ∈ stat, p.1 ≠ xv) (hs3 : ∀ p ∈ stat, p.1 ≠ xl) (hs4 : ∀ p ∈ stat, p.1 ≠ xp)
  (n12 : @Ne Nat xd xv) (n13 : @Ne Nat xd xl) (n14 : @Ne Nat xd xp) (n23 : @Ne Nat xv xl) (n24 : @Ne Nat xv xp) (n34 : @Ne Nat xl xp)
  (hod : od.IsDictOf (PySem.strKind PySem.Challenge.rw_sj0196_02.row.prog w) kvs) (lov : (xv == sysModules) = false) (hkv : kvs.length ≤ 1000) (hll : log.length ≤ 100000) (hpl : items.length ≤ 100000)
  (mh : (xh, instObj 407 xd) ∈ tups) (mr : (xr, listOf #[] 0) ∈ tups) (hc : (c, tupObj [.ref nd, rest]) ∈ tups)
  (hsl : subj.length ≤ 100) (hat : 0 ≤ at_) (hat2 : at_ ≤ subj.length)
include B F X N T hk hr hu hok hs1 hs2 hs3 hs4 n12 n13 n14 n23 n24 n34 hod lov hkv hll hpl mh mr hc hsl hat hat2

set_option maxRecDepth 100000 in
set_option maxHeartbeats 8000000 in
theorem adv_cat {v1 v2 : Value} (hnd : (nd, tupObj [.str (Str.ofString "cat") tk, v1, v2]) ∈ tups)
  (ret1 : ∀ x y z junk h' tk', Fr h₀ L h' m → News h₀ L h' ((xd, hostD h1 h2 h3 h4 h5 h6 t1 t2 t2' t3 t4 t4' t5 t5' t6 xv xr xl lim k) :: (xv, od) :: (xl, listOf log.toArray nl) :: (xp, listOf items.toArray np) :: ([(x, tupObj [.ref y, .int at_ ta, named]), (y, tupObj [v1, .ref z]), (z, tupObj [v2, rest])] ++ (junk ++ tups))) → Tups junk → Q (.ref x) { s with heap := h', toks := tk' }) :
  wpAny (model PySem.Challenge.rw_sj0196_02.row.prog w) (ktrTop dp un gd cn cs L a ccd cl outer) (call (.ref 341) [.ref c, .int at_ ta, named, .str subj ts, .ref xp, .ref xh]) Q E s := by
  revert X; k_fill; intro X
  have s1 := sepT N (.head _) rfl (by decide) (fun p hp => .tail _ (.tail _ (.tail _ (.tail _ hp)))) hok hs1
  have s2 := sepT N (.tail _ (.head _)) (by obtain ⟨es, ep, ⟨hcls, -⟩, -⟩ := hod; exact hcls) (by decide) (fun p hp => .tail _ (.tail _ (.tail _ (.tail _ hp)))) hok hs2
  have s3 := sepT N (.tail _ (.tail _ (.head _))) rfl (by decide) (fun p hp => .tail _ (.tail _ (.tail _ (.tail _ hp)))) hok hs3
  have s4 := sepT N (.tail _ (.tail _ (.tail _ (.head _)))) rfl (by decide) (fun p hp => .tail _ (.tail _ (.tail _ (.tail _ hp)))) hok hs4
  k_steps
  · rename Fr h₀ L _ _ => F9
    rename News h₀ L _ _ => N9
    exact ret1 _ _ _ [_] _ _ F9 (news4 [_, _, _] [_] N9 rfl) (by walk_at "okT")

set_option maxRecDepth 100000 in
set_option maxHeartbeats 8000000 in
theorem adv_now {v1 v2 : Value} (hnd : (nd, tupObj [.str (Str.ofString "now") tk, v1, v2]) ∈ tups)
  (ret1 : ∀ x y z u t junk h' tk', Fr h₀ L h' m → News h₀ L h' ((xd, hostD h1 h2 h3 h4 h5 h6 t1 t2 t2' t3 t4 t4' t5 t5' t6 xv xr xl lim k) :: (xv, od) :: (xl, listOf log.toArray nl) :: (xp, listOf items.toArray np) :: ([(x, tupObj [.ref y, .int at_ ta, named]), (y, tupObj [v1, .ref z]), (z, tupObj [.ref u, rest]), (u, tupObj [.str (Str.ofString "end now") t, v2, .int at_ ta])] ++ (junk ++ tups))) → Tups junk → Q (.ref x) { s with heap := h', toks := tk' }) :
  wpAny (model PySem.Challenge.rw_sj0196_02.row.prog w) (ktrTop dp un gd cn cs L a ccd cl outer) (call (.ref 341) [.ref c, .int at_ ta, named, .str subj ts, .ref xp, .ref xh]) Q E s := by
  revert X; k_fill; intro X
  have s1 := sepT N (.head _) rfl (by decide) (fun p hp => .tail _ (.tail _ (.tail _ (.tail _ hp)))) hok hs1
  have s2 := sepT N (.tail _ (.head _)) (by obtain ⟨es, ep, ⟨hcls, -⟩, -⟩ := hod; exact hcls) (by decide) (fun p hp => .tail _ (.tail _ (.tail _ (.tail _ hp)))) hok hs2
  have s3 := sepT N (.tail _ (.tail _ (.head _))) rfl (by decide) (fun p hp => .tail _ (.tail _ (.tail _ (.tail _ hp)))) hok hs3
  have s4 := sepT N (.tail _ (.tail _ (.tail _ (.head _)))) rfl (by decide) (fun p hp => .tail _ (.tail _ (.tail _ (.tail _ hp)))) hok hs4
  k_steps
  · rename Fr h₀ L _ _ => F9
    rename News h₀ L _ _ => N9
    exact ret1 _ _ _ _ _ [_] _ _ F9 (news4 [_, _, _, _] [_] N9 rfl) (by walk_at "okT")

set_option maxRecDepth 100000 in
set_option maxHeartbeats 8000000 in
theorem adv_enow {rr rd : Addr} {b : Int} {tb : Tok} {g1 g2 g3 : Int} {u1 u2 u3 u1' u3' : Tok} {key : Str} (hnd : (nd, tupObj [.str (Str.ofString "end now") tk, .ref rr, .int b tb]) ∈ tups) (m1 : (rr, instObj 110 rd) ∈ tups) (m2 : (rd, refD g1 g2 g3 u1 u2 u3 u1' u3' key) ∈ tups) (hb : 0 ≤ b) (hb2 : b ≤ at_)
  (ret1 : ∀ x y t od' junk h' tk', Fr h₀ L h' m → News h₀ L h' ((xd, hostD h1 h2 h3 h4 h5 h6 t1 t2 t2' t3 t4 t4' t5 t5' t6 xv xr xl lim k) :: (xv, od') :: (xl, listOf (log.toArray.push (.ref y)) (nl + 1)) :: (xp, listOf items.toArray np) :: ([(x, tupObj [rest, .int at_ ta, named]), (y, tupObj [.str key u3', .str (Txt.slice subj (some b) (some at_)) t])] ++ (junk ++ tups))) → Tups junk → od'.IsDictOf (PySem.strKind PySem.Challenge.rw_sj0196_02.row.prog w) (stored kvs key (.str (Txt.slice subj (some b) (some at_)) t)) → Q (.ref x) { s with heap := h', toks := tk' }) :
  wpAny (model PySem.Challenge.rw_sj0196_02.row.prog w) (ktrTop dp un gd cn cs L a ccd cl outer) (call (.ref 341) [.ref c, .int at_ ta, named, .str subj ts, .ref xp, .ref xh]) Q E s := by
  revert X; k_fill; intro X
  have s1 := sepT N (.head _) rfl (by decide) (fun p hp => .tail _ (.tail _ (.tail _ (.tail _ hp)))) hok hs1
  have s2 := sepT N (.tail _ (.head _)) (by obtain ⟨es, ep, ⟨hcls, -⟩, -⟩ := hod; exact hcls) (by decide) (fun p hp => .tail _ (.tail _ (.tail _ (.tail _ hp)))) hok hs2
  have s3 := sepT N (.tail _ (.tail _ (.head _))) rfl (by decide) (fun p hp => .tail _ (.tail _ (.tail _ (.tail _ hp)))) hok hs3
  have s4 := sepT N (.tail _ (.tail _ (.tail _ (.head _)))) rfl (by decide) (fun p hp => .tail _ (.tail _ (.tail _ (.tail _ hp)))) hok hs4
  k_steps
  · rename Fr h₀ L _ _ => F9
    rename News h₀ L _ _ => N9
    exact ret1 _ _ _ _ [_] _ _ F9 (news4 [_, _] [_] N9 rfl) (by walk_at "okT") (by assumption)

set_option maxRecDepth 100000 in
set_option maxHeartbeats 8000000 in
theorem adv_cursor {rr rd : Addr} {g1 g2 g3 : Int} {u1 u2 u3 u1' u3' : Tok} {key : Str} (hnd : (nd, tupObj [.str (Str.ofString "cursor") tk, .ref rr]) ∈ tups) (m1 : (rr, instObj 110 rd) ∈ tups) (m2 : (rd, refD g1 g2 g3 u1 u2 u3 u1' u3' key) ∈ tups)
  (ret1 : ∀ x y od' junk h' tk', Fr h₀ L h' m → News h₀ L h' ((xd, hostD h1 h2 h3 h4 h5 h6 t1 t2 t2' t3 t4 t4' t5 t5' t6 xv xr xl lim k) :: (xv, od') :: (xl, listOf (log.toArray.push (.ref y)) (nl + 1)) :: (xp, listOf items.toArray np) :: ([(x, tupObj [rest, .int at_ ta, named]), (y, tupObj [.str key u3', .int at_ ta])] ++ (junk ++ tups))) → Tups junk → od'.IsDictOf (PySem.strKind PySem.Challenge.rw_sj0196_02.row.prog w) (stored kvs key (.int at_ ta)) → Q (.ref x) { s with heap := h', toks := tk' }) :
  wpAny (model PySem.Challenge.rw_sj0196_02.row.prog w) (ktrTop dp un gd cn cs L a ccd cl outer) (call (.ref 341) [.ref c, .int at_ ta, named, .str subj ts, .ref xp, .ref xh]) Q E s := by
  revert X; k_fill; intro X
  have s1 := sepT N (.head _) rfl (by decide) (fun p hp => .tail _ (.tail _ (.tail _ (.tail _ hp)))) hok hs1
  have s2 := sepT N (.tail _ (.head _)) (by obtain ⟨es, ep, ⟨hcls, -⟩, -⟩ := hod; exact hcls) (by decide) (fun p hp => .tail _ (.tail _ (.tail _ (.tail _ hp)))) hok hs2
  have s3 := sepT N (.tail _ (.tail _ (.head _))) rfl (by decide) (fun p hp => .tail _ (.tail _ (.tail _ (.tail _ hp)))) hok hs3
  have s4 := sepT N (.tail _ (.tail _ (.tail _ (.head _)))) rfl (by decide) (fun p hp => .tail _ (.tail _ (.tail _ (.tail _ hp)))) hok hs4
  k_steps
  · rename Fr h₀ L _ _ => F9
    rename News h₀ L _ _ => N9
    exact ret1 _ _ _ [_] _ _ F9 (news4 [_, _] [_] N9 rfl) (by walk_at "okT") (by assumption)

set_option maxRecDepth 100000 in
set_option maxHeartbeats 8000000 in
theorem adv_delay {d : Addr} {u1 u2 u3 : Tok} {nm txt : Str} (hnd : (nd, tupObj [.str (Str.ofString "delay") tk, .ref d]) ∈ tups) (m1 : (d, tupObj [.str (Str.ofString "name") u1, .str nm u2]) ∈ tups) (hv : valueAt kvs nm = some (.str txt u3))
  (ret1 : ∀ x y z t junk h' tk', Fr h₀ L h' m → News h₀ L h' ((xd, hostD h1 h2 h3 h4 h5 h6 t1 t2 t2' t3 t4 t4' t5 t5' t6 xv xr xl lim k) :: (xv, od) :: (xl, listOf log.toArray nl) :: (xp, listOf items.toArray np) :: ([(x, tupObj [.ref y, .int at_ ta, named]), (y, tupObj [.ref z, rest]), (z, tupObj [.str (Str.ofString "chars") t, .str txt u3])] ++ (junk ++ tups))) → Tups junk → Q (.ref x) { s with heap := h', toks := tk' }) :
  wpAny (model PySem.Challenge.rw_sj0196_02.row.prog w) (ktrTop dp un gd cn cs L a ccd cl outer) (call (.ref 341) [.ref c, .int at_ ta, named, .str subj ts, .ref xp, .ref xh]) Q E s := by
  revert X; k_fill; intro X
  have s1 := sepT N (.head _) rfl (by decide) (fun p hp => .tail _ (.tail _ (.tail _ (.tail _ hp)))) hok hs1
  have s2 := sepT N (.tail _ (.head _)) (by obtain ⟨es, ep, ⟨hcls, -⟩, -⟩ := hod; exact hcls) (by decide) (fun p hp => .tail _ (.tail _ (.tail _ (.tail _ hp)))) hok hs2
  have s3 := sepT N (.tail _ (.tail _ (.head _))) rfl (by decide) (fun p hp => .tail _ (.tail _ (.tail _ (.tail _ hp)))) hok hs3
  have s4 := sepT N (.tail _ (.tail _ (.tail _ (.head _)))) rfl (by decide) (fun p hp => .tail _ (.tail _ (.tail _ (.tail _ hp)))) hok hs4
  k_steps
  · rename Fr h₀ L _ _ => F9
    rename News h₀ L _ _ => N9
    exact ret1 _ _ _ _ [_] _ _ F9 (news4 [_, _, _] [_] N9 rfl) (by walk_at "okT")

set_option maxRecDepth 100000 in
set_option maxHeartbeats 8000000 in
theorem adv_fail (hnd : (nd, tupObj [.str (Str.ofString "fail") tk]) ∈ tups)
  (ret1 : ∀ junk h' tk', Fr h₀ L h' m → News h₀ L h' ((xd, hostD h1 h2 h3 h4 h5 h6 t1 t2 t2' t3 t4 t4' t5 t5' t6 xv xr xl lim k) :: (xv, od) :: (xl, listOf log.toArray nl) :: (xp, listOf items.toArray np) :: (junk ++ tups)) → Tups junk → Q .none { s with heap := h', toks := tk' }) :
  wpAny (model PySem.Challenge.rw_sj0196_02.row.prog w) (ktrTop dp un gd cn cs L a ccd cl outer) (call (.ref 341) [.ref c, .int at_ ta, named, .str subj ts, .ref xp, .ref xh]) Q E s := by
  revert X; k_fill; intro X
  have s1 := sepT N (.head _) rfl (by decide) (fun p hp => .tail _ (.tail _ (.tail _ (.tail _ hp)))) hok hs1
  have s2 := sepT N (.tail _ (.head _)) (by obtain ⟨es, ep, ⟨hcls, -⟩, -⟩ := hod; exact hcls) (by decide) (fun p hp => .tail _ (.tail _ (.tail _ (.tail _ hp)))) hok hs2
  have s3 := sepT N (.tail _ (.tail _ (.head _))) rfl (by decide) (fun p hp => .tail _ (.tail _ (.tail _ (.tail _ hp)))) hok hs3
  have s4 := sepT N (.tail _ (.tail _ (.tail _ (.head _)))) rfl (by decide) (fun p hp => .tail _ (.tail _ (.tail _ (.tail _ hp)))) hok hs4
  k_steps
  · rename Fr h₀ L _ _ => F9
    rename News h₀ L _ _ => N9
    exact ret1 [_, _, _] _ _ F9 (news4 [] [_, _, _] N9 rfl) (by walk_at "okT")

set_option maxRecDepth 100000 in
set_option maxHeartbeats 8000000 in
theorem adv_arb (hnd : (nd, tupObj [.str (Str.ofString "arb") tk]) ∈ tups)
  (ret1 : ∀ x y z t junk h' tk', Fr h₀ L h' m → News h₀ L h' ((xd, hostD h1 h2 h3 h4 h5 h6 t1 t2 t2' t3 t4 t4' t5 t5' t6 xv xr xl lim k) :: (xv, od) :: (xl, listOf log.toArray nl) :: (xp, listOf (items.toArray.push (.ref y)) (np + 1)) :: ([(x, tupObj [rest, .int at_ ta, named]), (y, tupObj [.ref z, .int (at_ + 1) t, named]), (z, tupObj [.ref nd, rest])] ++ (junk ++ tups))) → Tups junk → at_ < subj.length → Q (.ref x) { s with heap := h', toks := tk' })
  (ret2 : ∀ x  junk h' tk', Fr h₀ L h' m → News h₀ L h' ((xd, hostD h1 h2 h3 h4 h5 h6 t1 t2 t2' t3 t4 t4' t5 t5' t6 xv xr xl lim k) :: (xv, od) :: (xl, listOf log.toArray nl) :: (xp, listOf items.toArray np) :: ([(x, tupObj [rest, .int at_ ta, named])] ++ (junk ++ tups))) → Tups junk → ¬ at_ < subj.length → Q (.ref x) { s with heap := h', toks := tk' }) :
  wpAny (model PySem.Challenge.rw_sj0196_02.row.prog w) (ktrTop dp un gd cn cs L a ccd cl outer) (call (.ref 341) [.ref c, .int at_ ta, named, .str subj ts, .ref xp, .ref xh]) Q E s := by
  revert X; k_fill; intro X
  have s1 := sepT N (.head _) rfl (by decide) (fun p hp => .tail _ (.tail _ (.tail _ (.tail _ hp)))) hok hs1
  have s2 := sepT N (.tail _ (.head _)) (by obtain ⟨es, ep, ⟨hcls, -⟩, -⟩ := hod; exact hcls) (by decide) (fun p hp => .tail _ (.tail _ (.tail _ (.tail _ hp)))) hok hs2
  have s3 := sepT N (.tail _ (.tail _ (.head _))) rfl (by decide) (fun p hp => .tail _ (.tail _ (.tail _ (.tail _ hp)))) hok hs3
  have s4 := sepT N (.tail _ (.tail _ (.tail _ (.head _)))) rfl (by decide) (fun p hp => .tail _ (.tail _ (.tail _ (.tail _ hp)))) hok hs4
  k_steps
  · rename Fr h₀ L _ _ => F9
    rename News h₀ L _ _ => N9
    exact ret1 _ _ _ _ [_, _] _ _ F9 (news4 [_, _, _] [_, _] N9 rfl) (by walk_at "okT") (by assumption)
  · rename Fr h₀ L _ _ => F9
    rename News h₀ L _ _ => N9
    exact ret2 _ [_, _] _ _ F9 (news4 [_] [_, _] N9 rfl) (by walk_at "okT") (by assumption)

set_option maxRecDepth 100000 in
set_option maxHeartbeats 8000000 in
theorem adv_rpos {u1 : Tok} (hnd : (nd, tupObj [.str (Str.ofString "rpos") tk, .int 0 u1]) ∈ tups)
  (ret1 : ∀ x  junk h' tk', Fr h₀ L h' m → News h₀ L h' ((xd, hostD h1 h2 h3 h4 h5 h6 t1 t2 t2' t3 t4 t4' t5 t5' t6 xv xr xl lim k) :: (xv, od) :: (xl, listOf log.toArray nl) :: (xp, listOf items.toArray np) :: ([(x, tupObj [rest, .int at_ ta, named])] ++ (junk ++ tups))) → Tups junk → (subj.length : Int) - at_ = 0 → Q (.ref x) { s with heap := h', toks := tk' })
  (ret2 : ∀ junk h' tk', Fr h₀ L h' m → News h₀ L h' ((xd, hostD h1 h2 h3 h4 h5 h6 t1 t2 t2' t3 t4 t4' t5 t5' t6 xv xr xl lim k) :: (xv, od) :: (xl, listOf log.toArray nl) :: (xp, listOf items.toArray np) :: (junk ++ tups)) → Tups junk → (subj.length : Int) - at_ ≠ 0 → Q .none { s with heap := h', toks := tk' }) :
  wpAny (model PySem.Challenge.rw_sj0196_02.row.prog w) (ktrTop dp un gd cn cs L a ccd cl outer) (call (.ref 341) [.ref c, .int at_ ta, named, .str subj ts, .ref xp, .ref xh]) Q E s := by
  revert X; k_fill; intro X
  have s1 := sepT N (.head _) rfl (by decide) (fun p hp => .tail _ (.tail _ (.tail _ (.tail _ hp)))) hok hs1
  have s2 := sepT N (.tail _ (.head _)) (by obtain ⟨es, ep, ⟨hcls, -⟩, -⟩ := hod; exact hcls) (by decide) (fun p hp => .tail _ (.tail _ (.tail _ (.tail _ hp)))) hok hs2
  have s3 := sepT N (.tail _ (.tail _ (.head _))) rfl (by decide) (fun p hp => .tail _ (.tail _ (.tail _ (.tail _ hp)))) hok hs3
  have s4 := sepT N (.tail _ (.tail _ (.tail _ (.head _)))) rfl (by decide) (fun p hp => .tail _ (.tail _ (.tail _ (.tail _ hp)))) hok hs4
  k_steps
  · rename Fr h₀ L _ _ => F9
    rename News h₀ L _ _ => N9
    exact ret1 _ [_, _] _ _ F9 (news4 [_] [_, _] N9 rfl) (by walk_at "okT") (by assumption)
  · rename Fr h₀ L _ _ => F9
    rename News h₀ L _ _ => N9
    exact ret2 [_, _] _ _ F9 (news4 [] [_, _] N9 rfl) (by walk_at "okT") (by assumption)

set_option maxRecDepth 100000 in
set_option maxHeartbeats 8000000 in
theorem adv_brk {u1 : Tok} (hnd : (nd, tupObj [.str (Str.ofString "break") tk, .str (Str.ofString "|") u1]) ∈ tups)
  (ret1 : ∀ x t junk h' tk', Fr h₀ L h' m → News h₀ L h' ((xd, hostD h1 h2 h3 h4 h5 h6 t1 t2 t2' t3 t4 t4' t5 t5' t6 xv xr xl lim k) :: (xv, od) :: (xl, listOf log.toArray nl) :: (xp, listOf items.toArray np) :: ([(x, tupObj [rest, .int (brkEnd subj at_) t, named])] ++ (junk ++ tups))) → Tups junk → brkEnd subj at_ < subj.length → Q (.ref x) { s with heap := h', toks := tk' })
  (ret2 : ∀ junk h' tk', Fr h₀ L h' m → News h₀ L h' ((xd, hostD h1 h2 h3 h4 h5 h6 t1 t2 t2' t3 t4 t4' t5 t5' t6 xv xr xl lim k) :: (xv, od) :: (xl, listOf log.toArray nl) :: (xp, listOf items.toArray np) :: (junk ++ tups)) → Tups junk → ¬ brkEnd subj at_ < subj.length → Q .none { s with heap := h', toks := tk' }) :
  wpAny (model PySem.Challenge.rw_sj0196_02.row.prog w) (ktrTop dp un gd cn cs L a ccd cl outer) (call (.ref 341) [.ref c, .int at_ ta, named, .str subj ts, .ref xp, .ref xh]) Q E s := by
  revert X; k_fill; intro X
  have s1 := sepT N (.head _) rfl (by decide) (fun p hp => .tail _ (.tail _ (.tail _ (.tail _ hp)))) hok hs1
  have s2 := sepT N (.tail _ (.head _)) (by obtain ⟨es, ep, ⟨hcls, -⟩, -⟩ := hod; exact hcls) (by decide) (fun p hp => .tail _ (.tail _ (.tail _ (.tail _ hp)))) hok hs2
  have s3 := sepT N (.tail _ (.tail _ (.head _))) rfl (by decide) (fun p hp => .tail _ (.tail _ (.tail _ (.tail _ hp)))) hok hs3
  have s4 := sepT N (.tail _ (.tail _ (.tail _ (.head _)))) rfl (by decide) (fun p hp => .tail _ (.tail _ (.tail _ (.tail _ hp)))) hok hs4
  k_steps
  · rename Fr h₀ L _ _ => F9
    rename News h₀ L _ _ => N9
    exact ret1 _ _ [_, _] _ _ F9 (news4 [_] [_, _] N9 rfl) (by walk_at "okT") (by assumption)
  · rename Fr h₀ L _ _ => F9
    rename News h₀ L _ _ => N9
    exact ret2 [_, _] _ _ F9 (news4 [] [_, _] N9 rfl) (by walk_at "okT") (by assumption)

set_option maxRecDepth 100000 in
set_option maxHeartbeats 8000000 in
theorem adv_rtab {d e : Addr} {u1 u2 u3 u4 : Tok} {nm : Str} {i : Int} (hnd : (nd, tupObj [.str (Str.ofString "rtab") tk, .ref d]) ∈ tups) (m1 : (d, tupObj [.str (Str.ofString "delay") u1, .ref e]) ∈ tups) (m2 : (e, tupObj [.str (Str.ofString "name") u2, .str nm u3]) ∈ tups) (hv : valueAt kvs nm = some (.int i u4)) (hi : 0 ≤ i) (hi2 : i ≤ subj.length)
  (ret1 : ∀ x t junk h' tk', Fr h₀ L h' m → News h₀ L h' ((xd, hostD h1 h2 h3 h4 h5 h6 t1 t2 t2' t3 t4 t4' t5 t5' t6 xv xr xl lim k) :: (xv, od) :: (xl, listOf log.toArray nl) :: (xp, listOf items.toArray np) :: ([(x, tupObj [rest, .int (subj.length - i) t, named])] ++ (junk ++ tups))) → Tups junk → at_ ≤ subj.length - i → Q (.ref x) { s with heap := h', toks := tk' })
  (ret2 : ∀ junk h' tk', Fr h₀ L h' m → News h₀ L h' ((xd, hostD h1 h2 h3 h4 h5 h6 t1 t2 t2' t3 t4 t4' t5 t5' t6 xv xr xl lim k) :: (xv, od) :: (xl, listOf log.toArray nl) :: (xp, listOf items.toArray np) :: (junk ++ tups)) → Tups junk → ¬ at_ ≤ (subj.length : Int) - i → Q .none { s with heap := h', toks := tk' }) :
  wpAny (model PySem.Challenge.rw_sj0196_02.row.prog w) (ktrTop dp un gd cn cs L a ccd cl outer) (call (.ref 341) [.ref c, .int at_ ta, named, .str subj ts, .ref xp, .ref xh]) Q E s := by
  revert X; k_fill; intro X
  have s1 := sepT N (.head _) rfl (by decide) (fun p hp => .tail _ (.tail _ (.tail _ (.tail _ hp)))) hok hs1
  have s2 := sepT N (.tail _ (.head _)) (by obtain ⟨es, ep, ⟨hcls, -⟩, -⟩ := hod; exact hcls) (by decide) (fun p hp => .tail _ (.tail _ (.tail _ (.tail _ hp)))) hok hs2
  have s3 := sepT N (.tail _ (.tail _ (.head _))) rfl (by decide) (fun p hp => .tail _ (.tail _ (.tail _ (.tail _ hp)))) hok hs3
  have s4 := sepT N (.tail _ (.tail _ (.tail _ (.head _)))) rfl (by decide) (fun p hp => .tail _ (.tail _ (.tail _ (.tail _ hp)))) hok hs4
  k_steps
  · rename Fr h₀ L _ _ => F9
    rename News h₀ L _ _ => N9
    exact ret1 _ _ [_, _, _] _ _ F9 (news4 [_] [_, _, _] N9 rfl) (by walk_at "okT") (by assumption)
  · rename Fr h₀ L _ _ => F9
    rename News h₀ L _ _ => N9
    exact ret2 [_, _, _] _ _ F9 (news4 [] [_, _, _] N9 rfl) (by walk_at "okT") (by assumption)

set_option maxRecDepth 100000 in
set_option maxHeartbeats 8000000 in
theorem adv_chars {u1 : Tok} {txt : Str} (hnd : (nd, tupObj [.str (Str.ofString "chars") tk, .str txt u1]) ∈ tups) (htl : txt.length ≤ 100)
  (ret1 : ∀ x t junk h' tk', Fr h₀ L h' m → News h₀ L h' ((xd, hostD h1 h2 h3 h4 h5 h6 t1 t2 t2' t3 t4 t4' t5 t5' t6 xv xr xl lim k) :: (xv, od) :: (xl, listOf log.toArray nl) :: (xp, listOf items.toArray np) :: ([(x, tupObj [rest, .int (at_ + txt.length) t, named])] ++ (junk ++ tups))) → Tups junk → (Txt.slice subj (some at_) (some (at_ + txt.length)) == txt) = true → Q (.ref x) { s with heap := h', toks := tk' })
  (ret2 : ∀ junk h' tk', Fr h₀ L h' m → News h₀ L h' ((xd, hostD h1 h2 h3 h4 h5 h6 t1 t2 t2' t3 t4 t4' t5 t5' t6 xv xr xl lim k) :: (xv, od) :: (xl, listOf log.toArray nl) :: (xp, listOf items.toArray np) :: (junk ++ tups)) → Tups junk → (Txt.slice subj (some at_) (some (at_ + txt.length)) == txt) = false → Q .none { s with heap := h', toks := tk' }) :
  wpAny (model PySem.Challenge.rw_sj0196_02.row.prog w) (ktrTop dp un gd cn cs L a ccd cl outer) (call (.ref 341) [.ref c, .int at_ ta, named, .str subj ts, .ref xp, .ref xh]) Q E s := by
  revert X; k_fill; intro X
  have s1 := sepT N (.head _) rfl (by decide) (fun p hp => .tail _ (.tail _ (.tail _ (.tail _ hp)))) hok hs1
  have s2 := sepT N (.tail _ (.head _)) (by obtain ⟨es, ep, ⟨hcls, -⟩, -⟩ := hod; exact hcls) (by decide) (fun p hp => .tail _ (.tail _ (.tail _ (.tail _ hp)))) hok hs2
  have s3 := sepT N (.tail _ (.tail _ (.head _))) rfl (by decide) (fun p hp => .tail _ (.tail _ (.tail _ (.tail _ hp)))) hok hs3
  have s4 := sepT N (.tail _ (.tail _ (.tail _ (.head _)))) rfl (by decide) (fun p hp => .tail _ (.tail _ (.tail _ (.tail _ hp)))) hok hs4
  k_steps
  · rename Fr h₀ L _ _ => F9
    rename News h₀ L _ _ => N9
    exact ret1 _ _ [_, _] _ _ F9 (news4 [_] [_, _] N9 rfl) (by walk_at "okT") (by assumption)
  · rename Fr h₀ L _ _ => F9
    rename News h₀ L _ _ => N9
    exact ret2 [_, _] _ _ F9 (news4 [] [_, _] N9 rfl) (by walk_at "okT") (by assumption)
end adv
section
/-! the matcher as plain Lean: nodes, values, one step -/
inductive Pat where
  | cat (a b : Pat) | now (a : Pat) (key : Str) | enow (key : Str) (b : Int) | cursor (key : Str) | delay (nm : Str)
  | fail | arb | rpos | brk | rtab (nm : Str) | chars (t : Str)
inductive Val where
  | str (s : Str) | int (i : Int)
  deriving DecidableEq
abbrev Way := List Pat × Int
structure St where
  vals : List (Str × Val)
  log : List (Str × Val)
  pile : List Way
def setVal (vals : List (Str × Val)) (k : Str) (v : Val) : List (Str × Val) :=
  if vals.any (fun kv => kv.1 = k) then vals.map (fun kv => if kv.1 = k then (kv.1, v) else kv) else vals ++ [(k, v)]
def getVal (vals : List (Str × Val)) (k : Str) : Option Val := (vals.find? fun kv => kv.1 = k).map (·.2)
def St.assign (st : St) (k : Str) (v : Val) : St := { st with vals := setVal st.vals k v, log := st.log ++ [(k, v)] }
def St.push (st : St) (w : Way) : St := { st with pile := st.pile ++ [w] }
/-- one call of «advanced»: none where this model has nothing to say -/
def adv (subj : Str) (p : Pat) (rest : List Pat) (at_ : Int) (st : St) : Option (Option Way × St) :=
  if 0 ≤ at_ ∧ at_ ≤ subj.length ∧ st.vals.length ≤ 1000 ∧ st.log.length ≤ 100000 ∧ st.pile.length ≤ 100000 then
    match p with
    | .cat a b => some (some (a :: b :: rest, at_), st)
    | .now a k => some (some (a :: .enow k at_ :: rest, at_), st)
    | .enow k b => if 0 ≤ b ∧ b ≤ at_ then some (some (rest, at_), st.assign k (.str (Txt.slice subj (some b) (some at_)))) else none
    | .cursor k => some (some (rest, at_), st.assign k (.int at_))
    | .delay nm => match getVal st.vals nm with
      | some (.str t) => some (some (.chars t :: rest, at_), st)
      | _ => none
    | .fail => some (none, st)
    | .arb => if at_ < subj.length then some (some (rest, at_), st.push (.arb :: rest, at_ + 1)) else some (some (rest, at_), st)
    | .rpos => if (subj.length : Int) - at_ = 0 then some (some (rest, at_), st) else some (none, st)
    | .brk => if brkEnd subj at_ < subj.length then some (some (rest, brkEnd subj at_), st) else some (none, st)
    | .rtab nm => match getVal st.vals nm with
      | some (.int i) => if 0 ≤ i ∧ i ≤ subj.length then (if at_ ≤ subj.length - i then some (some (rest, subj.length - i), st) else some (none, st)) else none
      | _ => none
    | .chars t => if t.length ≤ 100 then (if (Txt.slice subj (some at_) (some (at_ + t.length)) == t) = true then some (some (rest, at_ + t.length), st) else some (none, st)) else none
  else none
/-- the loops of «tried»: none where the way is out of fuel, out of this model, past the limit, or a match is found -/
def run (subj : Str) (lim : Int) : Nat → Option Way → St → Int → Option (St × Int)
  | 0, _, _, _ => none
  | f + 1, none, st, k => match st.pile.getLast? with
    | none => some (st, k)
    | some w => run subj lim f (some w) { st with pile := st.pile.dropLast } k
  | _ + 1, some ([], _), _, _ => none
  | f + 1, some (p :: rest, at_), st, k => if k + 1 ≤ lim then
      match adv subj p rest at_ st with
      | some (r, st') => run subj lim f r st' (k + 1)
      | none => none
    else none

/-! what bears them in the ledger -/
def VRel : Value → Val → Prop
  | .str s _, .str s' => s = s'
  | .int i _, .int i' => i = i'
  | _, _ => False
def RefIn (T : List (Addr × Obj)) (r : Addr) (key : Str) : Prop :=
  ∃ rd g1 g2 g3 u1 u2 u3 u1' u3', (r, instObj 110 rd) ∈ T ∧ (rd, refD g1 g2 g3 u1 u2 u3 u1' u3' key) ∈ T
inductive PatIn (T : List (Addr × Obj)) : Addr → Pat → Prop where
  | cat {a v1 v2 : Addr} {t : Tok} {p q : Pat} : (a, tupObj [.str (Str.ofString "cat") t, .ref v1, .ref v2]) ∈ T → PatIn T v1 p → PatIn T v2 q → PatIn T a (.cat p q)
  | now {a v r : Addr} {t : Tok} {p : Pat} {key : Str} : (a, tupObj [.str (Str.ofString "now") t, .ref v, .ref r]) ∈ T → PatIn T v p → RefIn T r key → PatIn T a (.now p key)
  | enow {a r : Addr} {t tb : Tok} {key : Str} {b : Int} : (a, tupObj [.str (Str.ofString "end now") t, .ref r, .int b tb]) ∈ T → RefIn T r key → PatIn T a (.enow key b)
  | cursor {a r : Addr} {t : Tok} {key : Str} : (a, tupObj [.str (Str.ofString "cursor") t, .ref r]) ∈ T → RefIn T r key → PatIn T a (.cursor key)
  | delay {a d : Addr} {t u1 u2 : Tok} {nm : Str} : (a, tupObj [.str (Str.ofString "delay") t, .ref d]) ∈ T → (d, tupObj [.str (Str.ofString "name") u1, .str nm u2]) ∈ T → PatIn T a (.delay nm)
  | fail {a : Addr} {t : Tok} : (a, tupObj [.str (Str.ofString "fail") t]) ∈ T → PatIn T a .fail
  | arb {a : Addr} {t : Tok} : (a, tupObj [.str (Str.ofString "arb") t]) ∈ T → PatIn T a .arb
  | rpos {a : Addr} {t u : Tok} : (a, tupObj [.str (Str.ofString "rpos") t, .int 0 u]) ∈ T → PatIn T a .rpos
  | brk {a : Addr} {t u : Tok} : (a, tupObj [.str (Str.ofString "break") t, .str (Str.ofString "|") u]) ∈ T → PatIn T a .brk
  | rtab {a d e : Addr} {t u1 u2 u3 : Tok} {nm : Str} : (a, tupObj [.str (Str.ofString "rtab") t, .ref d]) ∈ T → (d, tupObj [.str (Str.ofString "delay") u1, .ref e]) ∈ T → (e, tupObj [.str (Str.ofString "name") u2, .str nm u3]) ∈ T → PatIn T a (.rtab nm)
  | chars {a : Addr} {t u : Tok} {txt : Str} : (a, tupObj [.str (Str.ofString "chars") t, .str txt u]) ∈ T → PatIn T a (.chars txt)
inductive ChainIn (T : List (Addr × Obj)) : Value → List Pat → Prop where
  | nil : ChainIn T .none []
  | cons {c nd : Addr} {rest : Value} {p : Pat} {ps : List Pat} : (c, tupObj [.ref nd, rest]) ∈ T → PatIn T nd p → ChainIn T rest ps → ChainIn T (.ref c) (p :: ps)
def WayIn (T : List (Addr × Obj)) (named : Value) (v : Value) (w : Way) : Prop := ∃ x cv t, v = .ref x ∧ (x, tupObj [cv, .int w.2 t, named]) ∈ T ∧ ChainIn T cv w.1
def LogIn (T : List (Addr × Obj)) (v : Value) (e : Str × Val) : Prop := ∃ a t v', v = .ref a ∧ (a, tupObj [.str e.1 t, v']) ∈ T ∧ VRel v' e.2
def KvIn (a : Str × Value) (b : Str × Val) : Prop := a.1 = b.1 ∧ VRel a.2 b.2
inductive All2 {α β : Type} (R : α → β → Prop) : List α → List β → Prop where
  | nil : All2 R [] []
  | cons {a : α} {b : β} {l : List α} {l' : List β} : R a b → All2 R l l' → All2 R (a :: l) (b :: l')
section mono
variable {T T' : List (Addr × Obj)} (hs : ∀ p ∈ T, p ∈ T')
include hs
theorem RefIn.mono {r key} (h : RefIn T r key) : RefIn T' r key := by
  obtain ⟨rd, g1, g2, g3, u1, u2, u3, u1', u3', a, b⟩ := h
  exact ⟨rd, g1, g2, g3, u1, u2, u3, u1', u3', hs _ a, hs _ b⟩
theorem PatIn.mono {a p} (h : PatIn T a p) : PatIn T' a p := by
  induction h with
  | cat m _ _ i j => exact .cat (hs _ m) i j
  | now m _ r i => exact .now (hs _ m) i (r.mono hs)
  | enow m r => exact .enow (hs _ m) (r.mono hs)
  | cursor m r => exact .cursor (hs _ m) (r.mono hs)
  | delay m n => exact .delay (hs _ m) (hs _ n)
  | fail m => exact .fail (hs _ m)
  | arb m => exact .arb (hs _ m)
  | rpos m => exact .rpos (hs _ m)
  | brk m => exact .brk (hs _ m)
  | rtab m n o => exact .rtab (hs _ m) (hs _ n) (hs _ o)
  | chars m => exact .chars (hs _ m)
theorem ChainIn.mono {v ps} (h : ChainIn T v ps) : ChainIn T' v ps := by
  induction h with
  | nil => exact .nil
  | cons m p _ i => exact .cons (hs _ m) (p.mono hs) i
theorem WayIn.mono {nm v w} (h : WayIn T nm v w) : WayIn T' nm v w := by
  obtain ⟨x, cv, t, e, m, c⟩ := h
  exact ⟨x, cv, t, e, hs _ m, c.mono hs⟩
theorem LogIn.mono {v e} (h : LogIn T v e) : LogIn T' v e := by
  obtain ⟨x, t, v', e, m, c⟩ := h
  exact ⟨x, t, v', e, hs _ m, c⟩
end mono
theorem all2_mono {α β : Type} {R S : α → β → Prop} (h : ∀ a b, R a b → S a b) {l : List α} {l' : List β} (x : All2 R l l') : All2 S l l' := by
  induction x with
  | nil => exact .nil
  | cons a _ i => exact .cons (h _ _ a) i
theorem all2_snoc {α β : Type} {R : α → β → Prop} {l : List α} {l' : List β} (x : All2 R l l') {a : α} {b : β} (h : R a b) : All2 R (l ++ [a]) (l' ++ [b]) := by
  induction x with
  | nil => exact .cons h .nil
  | cons a _ i => exact .cons a i
theorem all2_length {α β : Type} {R : α → β → Prop} {l : List α} {l' : List β} (x : All2 R l l') : l.length = l'.length := by
  induction x with
  | nil => rfl
  | cons _ _ i => simp [i]
theorem kvs_get {kvs : List (Str × Value)} {vals : List (Str × Val)} (h : All2 KvIn kvs vals) {k : Str} {x : Val} (hx : getVal vals k = some x) : ∃ v, valueAt kvs k = some v ∧ VRel v x := by
  induction h with
  | nil => cases hx
  | @cons a b _ _ hab _ ih =>
    obtain ⟨h1, h2⟩ := hab
    unfold getVal at hx
    unfold valueAt
    rw [List.find?_cons] at hx ⊢
    rw [h1]
    by_cases e : b.1 = k
    · simp only [e, decide_true] at hx ⊢
      cases hx
      exact ⟨_, rfl, h2⟩
    · simp only [e, decide_false] at hx ⊢
      exact ih hx
theorem kvs_any {kvs : List (Str × Value)} {vals : List (Str × Val)} (h : All2 KvIn kvs vals) (k : Str) : (kvs.any fun kv => kv.1 = k) = vals.any fun kv => kv.1 = k := by
  induction h with
  | nil => rfl
  | cons hab _ ih => rw [List.any_cons, List.any_cons, ih, hab.1]
theorem kvs_map {kvs : List (Str × Value)} {vals : List (Str × Val)} (h : All2 KvIn kvs vals) {k : Str} {v : Value} {x : Val} (hv : VRel v x) :
    All2 KvIn (kvs.map fun kv => if kv.1 = k then (kv.1, v) else kv) (vals.map fun kv => if kv.1 = k then (kv.1, x) else kv) := by
  induction h with
  | nil => exact .nil
  | @cons a b _ _ hab _ ih =>
    refine .cons ?_ ih
    show KvIn (if a.1 = k then (a.1, v) else a) (if b.1 = k then (b.1, x) else b)
    rw [hab.1]
    by_cases e : b.1 = k
    · rw [if_pos e, if_pos e]; exact ⟨rfl, hv⟩
    · rw [if_neg e, if_neg e]; exact hab
theorem kvs_set {kvs : List (Str × Value)} {vals : List (Str × Val)} (h : All2 KvIn kvs vals) {k : Str} {v : Value} {x : Val} (hv : VRel v x) : All2 KvIn (stored kvs k v) (setVal vals k x) := by
  unfold stored setVal
  rw [kvs_any h k]
  split
  · exact kvs_map h hv
  · exact all2_snoc h ⟨rfl, hv⟩
theorem VRel.str_inv {v : Value} {t : Str} (h : VRel v (.str t)) : ∃ u, v = .str t u := by
  cases v <;> first | (cases h; done) | (exact ⟨_, by rw [show _ = t from h]⟩)
theorem VRel.int_inv {v : Value} {i : Int} (h : VRel v (.int i)) : ∃ u, v = .int i u := by
  cases v <;> first | (cases h; done) | (exact ⟨_, by rw [show _ = i from h]⟩)
def Hold (P : Prop) : Prop := P
theorem Hold.out {P : Prop} (h : Hold P) : P := h
def StrIs (v : Value) (u : Str) : Prop := ∃ t, v = .str u t
theorem allLt_mem {d : Addr} {l : List (Addr × Obj)} (h : AllLt d l) : ∀ p ∈ l, @LT.lt Nat _ p.1 d := by
  induction l with
  | nil => intro p hp; cases hp
  | cons a l ih =>
    obtain ⟨h1, h2⟩ := h
    intro p hp
    rcases List.mem_cons.mp hp with e | hp
    · rw [e]; exact h1
    · exact ih h2 p hp
end
section
/-! the words, and what grows of them -/
def abL : Nat → List (List Nat)
  | 0 => [[]]
  | n + 1 => (abL n).flatMap fun l => [97 :: l, 98 :: l]
def wordsN (n : Nat) : List Str := (abL n).map fun l => ⟨l.toArray⟩
def words : List Str := [0, 1, 2, 3, 4, 5, 6].flatMap wordsN
def isAB (x : Str) : Bool := x.cps.toList.length ≤ 6 && x.cps.toList.all fun c => c == 97 || c == 98
theorem mem_abL : ∀ (l : List Nat), (l.all fun c => c == 97 || c == 98) = true → l ∈ abL l.length
  | [], _ => .head _
  | c :: l, h => by
    rw [List.all_cons, Bool.and_eq_true] at h
    have ih := mem_abL l h.2
    have hc : c = 97 ∨ c = 98 := by simpa using h.1
    exact List.mem_flatMap.mpr ⟨l, ih, by rcases hc with rfl | rfl <;> simp⟩
theorem mem_words {x : Str} (h : isAB x = true) : x ∈ words := by
  unfold isAB at h
  rw [Bool.and_eq_true] at h
  have h1 : x.cps.toList.length ≤ 6 := by simpa using h.1
  have h2 := mem_abL _ h.2
  refine List.mem_flatMap.mpr ⟨x.cps.toList.length, ?_, List.mem_map.mpr ⟨x.cps.toList, h2, by simp⟩⟩
  simp only [List.mem_cons, List.not_mem_nil, or_false]
  omega
def grownStep (word : Str) (found : List Str) (sign : Str) : List Str := Str.ofString "" :: (found.filter fun b => Txt.item word (b.length : Int) == sign).map (· ++ sign)
def signAt (word : Str) (i : Nat) : Str := Txt.slice word (some (i : Int)) (some ((i : Int) + 1))
def grownN (word : Str) : Nat → List Str
  | 0 => [Str.ofString ""]
  | i + 1 => grownStep word (grownN word i) (signAt word i)
def grown (word : Str) : List Str := grownN word word.length
def bPat : Pat := .cat (.now .arb (Str.ofString "W")) (.cat (.cursor (Str.ofString "I")) (.cat .brk (.cat (.rtab (Str.ofString "I")) (.cat (.now (.delay (Str.ofString "W")) (Str.ofString "U")) (.cat .rpos .fail)))))
def subjOf (word : Str) : Str := word ++ Str.ofString "|" ++ word
def dueN (subj : Str) (n : Nat) : List (Str × Val) := (List.range n).flatMap fun (n : Nat) => [(Str.ofString "W", .str (Txt.slice subj none (some (n : Int)))), (Str.ofString "I", .int (n : Int))]
def dueOf (subj : Str) : List (Str × Val) := dueN subj (subj.cps.size + 1)
theorem words_len : ∀ x ∈ words, x.length ≤ 6 ∧ (x ≠ Str.ofString "" → 0 < x.length) := by decide +kernel
end
section
section cinv
open LCg
variable {prog : Program} {w : World} {A : Around} {s : Shared} {h₀ : Heap} {L : Addr} {m : Str → Option Value} {env : Env}
theorem CompRest.inv {elt : PySem.Expr} {x : Str} {scope : Scope} {cl : List (Str × Addr)} {S : List (Addr × Obj) → Prop} {P : Nat → Value → Prop} {Fin : List Value → List (Addr × Obj) → Prop} {n : Nat} {news : List (Addr × Obj)} (J : Nat → List Value → List (Addr × Obj) → Prop)
    (turn : ∀ i v ys nw I oI C oC D m₂ h tk (E' : Value → Shared → Prop), i < n → J i ys nw → P i v → NsObj oC m₂ → m₂ x = some v → Fr h₀ L h m → News h₀ L h ((I, oI) :: (C, oC) :: (D, lst ys) :: nw) → (∀ p ∈ nw, p.1 ≠ I ∧ p.1 ≠ C ∧ p.1 ≠ D) → ((@Ne Nat I C) ∧ (@Ne Nat I D) ∧ (@Ne Nat C D)) →
      wpAny (model prog w) A (eval elt (compEnvC scope cl C env)) (CompEnd h₀ L m { s with heap := h, toks := tk } I oI C oC D (lst ys) S (fun y news' => J (i + 1) (ys ++ [y]) news')) E' { s with heap := h, toks := tk })
    (fin : ∀ ys nw, J n ys nw → Fin ys nw) (start : J 0 [] news) : CompRest prog w A h₀ L m env elt x scope cl s S P Fin n 0 [] news := by
  have key : ∀ k i ys nw, i + k = n → J i ys nw → CompRest prog w A h₀ L m env elt x scope cl s S P Fin k i ys nw := by
    intro k
    induction k with
    | zero =>
      intro i ys nw e j
      exact fin ys nw (by rw [← e]; exact j)
    | succ k ih =>
      intro i ys nw e j
      intro v I oI C oC D m₂ h tk E' hv hC hx F N off ne
      refine wpAny_mono (turn i v ys nw I oI C oC D m₂ h tk E' (by omega) j hv hC hx F N off.mem ne) (fun q s' z => ?_) fun _ _ z => z
      obtain ⟨h', tk', nw', a1, a2, a3, a4, a5, a6⟩ := z
      exact ⟨h', tk', nw', a1, a2, a3, a4, a5, ih (i + 1) _ nw' (by omega) a6⟩
  exact key n 0 [] news (Nat.zero_add n) start
theorem CompRestT.inv {ct elt : PySem.Expr} {x : Str} {scope : Scope} {cl : List (Str × Addr)} {S : List (Addr × Obj) → Prop} {P : Nat → Value → Prop} {Fin : List Value → List (Addr × Obj) → Prop} {n : Nat} {news : List (Addr × Obj)} (J : Nat → List Value → List (Addr × Obj) → Prop)
    (turn : ∀ i v ys nw I oI C oC D m₂ h tk (E' : Value → Shared → Prop), i < n → J i ys nw → P i v → NsObj oC m₂ → m₂ x = some v → Fr h₀ L h m → News h₀ L h ((I, oI) :: (C, oC) :: (D, lst ys) :: nw) → (∀ p ∈ nw, p.1 ≠ I ∧ p.1 ≠ C ∧ p.1 ≠ D) → ((@Ne Nat I C) ∧ (@Ne Nat I D) ∧ (@Ne Nat C D)) →
      wpAny (model prog w) A (isTrue ct (compEnvC scope cl C env) (eval ct (compEnvC scope cl C env))) (fun ok s' => if ok = true then
        wpAny (model prog w) A (eval elt (compEnvC scope cl C env)) (CompEnd h₀ L m { s with heap := h, toks := tk } I oI C oC D (lst ys) S (fun y news' => J (i + 1) (ys ++ [y]) news')) E' s'
        else CompEnd h₀ L m { s with heap := h, toks := tk } I oI C oC D (lst ys) S (fun _ news' => J (i + 1) ys news') Value.none s') E' { s with heap := h, toks := tk })
    (fin : ∀ ys nw, J n ys nw → Fin ys nw) (start : J 0 [] news) : LCt.CompRestT prog w A h₀ L m env ct elt x scope cl s S P Fin n 0 [] news := by
  have key : ∀ k i ys nw, i + k = n → J i ys nw → LCt.CompRestT prog w A h₀ L m env ct elt x scope cl s S P Fin k i ys nw := by
    intro k
    induction k with
    | zero =>
      intro i ys nw e j
      exact fin ys nw (by rw [← e]; exact j)
    | succ k ih =>
      intro i ys nw e j
      intro v I oI C oC D m₂ h tk E' hv hC hx F N off ne
      have up : ∀ {y' s''} {J' J'' : Value → List (Addr × Obj) → Prop}, (∀ n, J' y' n → J'' y' n) → CompEnd h₀ L m { s with heap := h, toks := tk } I oI C oC D (lst ys) S J' y' s'' → CompEnd h₀ L m { s with heap := h, toks := tk } I oI C oC D (lst ys) S J'' y' s'' := by
        rintro y' s'' J' J'' hj ⟨h', tk, nw', a, b, c, d, f, g⟩
        exact ⟨h', tk, nw', a, b, c, d, f, hj _ g⟩
      refine wpAny_mono (turn i v ys nw I oI C oC D m₂ h tk E' (by omega) j hv hC hx F N off.mem ne) (fun ok s' z => ?_) fun _ _ z => z
      cases ok with
      | true =>
        simp only [if_true] at z ⊢
        exact wpAny_mono z (fun q s₄ z4 => up (fun n jn => ih (i + 1) _ n (by omega) jn) z4) fun _ _ z => z
      | false =>
        simp only [Bool.false_eq_true, if_false] at z ⊢
        exact up (fun n jn => ih (i + 1) _ n (by omega) jn) z
  exact key n 0 [] news (Nat.zero_add n) start
theorem ItemsRest.inv {E : Value → Shared → Prop} {target : PySem.Expr} {body : List Stmt} {Q : Flow → Shared → Prop} {I : Addr} {c : String} {keep : List (Addr × Obj)} {vs : List Value} {m₀ : Str → Option Value} {news : List (Addr × Obj)} (J : List Value → (Str → Option Value) → List (Addr × Obj) → Prop)
    (turn : ∀ pre v post m nw o h tk, vs = pre ++ v :: post → J pre m nw → o.cls = .type c → Fr h₀ env.locals h m → News h₀ env.locals h ((I, o) :: nw) →
      wpAny (model prog w) A (assign target env v) (fun _ s₂ => wpAny (model prog w) A (execs body env) (UnrPostW h₀ env.locals { s with heap := h, toks := tk } [(I, o)] (fun m' n' => SubL keep n' ∧ J (pre ++ [v]) m' n') Q) E s₂) E { s with heap := h, toks := tk })
    (fin : ∀ m nw h tk, J vs m nw → Fr h₀ env.locals h m → News h₀ env.locals h nw → Q .next { s with heap := h, toks := tk }) (start : J [] m₀ news) :
    ItemsRest prog w A E h₀ env target body Q s [(I, c)] keep (vs.map .val) m₀ news := by
  have key : ∀ post pre m nw, vs = pre ++ post → J pre m nw → ItemsRest prog w A E h₀ env target body Q s [(I, c)] keep (post.map .val) m nw := by
    intro post
    induction post with
    | nil =>
      intro pre m nw e j h tk F N
      rw [List.append_nil] at e
      subst e
      exact fin m nw h tk j F N
    | cons v post ih =>
      intro pre m nw e j
      have e2 : vs = (pre ++ [v]) ++ post := by rw [e]; simp
      refine ItemsRest.val fun h tk F => AllObj.cons fun o ho => AllObj.nil fun N => ?_
      refine wpAny_mono (turn pre v post m nw o h tk e j ho F N) (fun _ s₂ z => wpAny_mono z (fun f s' z => ?_) fun _ _ z => z) fun _ _ z => z
      have up : UnrEndW h₀ env.locals { s with heap := h, toks := tk } [(I, o)] (fun m' n' => SubL keep n' ∧ J (pre ++ [v]) m' n') s' → UnrEndW h₀ env.locals { s with heap := h, toks := tk } [(I, o)] (fun m' n' => SubL keep n' ∧ ItemsRest prog w A E h₀ env target body Q s [(I, c)] keep (post.map .val) m' n') s' := by
        rintro ⟨h', tk, m', nw', a1, a2, a3, a4, a5, a6⟩
        exact ⟨h', tk, m', nw', a1, a2, a3, a4, a5, ih (pre ++ [v]) m' nw' e2 a6⟩
      cases f with
      | ret v => exact z
      | brk => exact z
      | next => exact up z
      | cont => exact up z
  exact key vs [] m₀ news rfl start
theorem ItemsRest.invM {E : Value → Shared → Prop} {target : PySem.Expr} {body : List Stmt} {Q : Flow → Shared → Prop} {I : Addr} {c : String} {keep : List (Addr × Obj)} {vs : List Value} {m₀ : Str → Option Value} {news : List (Addr × Obj)} (J : (Str → Option Value) → List (Addr × Obj) → List Value → (Str → Option Value) → List (Addr × Obj) → Prop)
    (turn : ∀ pre v post m nw o h tk, vs = pre ++ v :: post → J m₀ news pre m nw → o.cls = .type c → Fr h₀ env.locals h m → News h₀ env.locals h ((I, o) :: nw) →
      wpAny (model prog w) A (assign target env v) (fun _ s₂ => wpAny (model prog w) A (execs body env) (UnrPostW h₀ env.locals { s with heap := h, toks := tk } [(I, o)] (fun m' n' => SubL keep n' ∧ J m₀ news (pre ++ [v]) m' n') Q) E s₂) E { s with heap := h, toks := tk })
    (fin : ∀ m nw h tk, J m₀ news vs m nw → Fr h₀ env.locals h m → News h₀ env.locals h nw → Q .next { s with heap := h, toks := tk }) (start : J m₀ news [] m₀ news) :
    ItemsRest prog w A E h₀ env target body Q s [(I, c)] keep (vs.map .val) m₀ news := ItemsRest.inv (J m₀ news) turn fin start
theorem UnrEndW.one {I : Addr} {o : Obj} {rest : (Str → Option Value) → List (Addr × Obj) → Prop} {s₁ : Shared} {h' : Heap} {tk : Nat} {m' : Str → Option Value} {all : List (Addr × Obj)} (F : Fr h₀ L h' m') (N : News h₀ L h' all) (news' : List (Addr × Obj))
    (hs : ∀ p ∈ (I, o) :: news', p ∈ all) (off : ∀ p ∈ news', p.1 ≠ I) (r : rest m' news') : UnrEndW h₀ L s₁ [(I, o)] rest { s₁ with heap := h', toks := tk } :=
  ⟨h', tk, m', news', rfl, F, kst_newsOf N hs, fun p hp q hq => by rw [List.mem_singleton.mp hq]; exact off p hp, r⟩
end cinv
end
section
def runOf (word : Str) : Option (St × Int) := run (subjOf word) 9999 1000 none { vals := [], log := [], pile := [([bPat], 0)] } 0
def runOk (word : Str) : Bool := match runOf word with
  | none => false
  | some (st, _) => decide (st.log.length ≤ 10000) && decide (st.log.filter (fun e => e.1 ≠ Str.ofString "U") = dueOf (subjOf word)) && decide (st.log.filter (fun e => e.1 = Str.ofString "U") = (grown word).map fun u => (Str.ofString "U", .str u))
/-- in sixteen parts: one check of all the words takes ten thousand megabytes -/
def wd : Nat → List Str
  | 0 => words
  | k + 1 => (wd k).drop 8
theorem all_split {P : Str → Prop} {l : List Str} (i : Nat) (h1 : ∀ w ∈ l.take i, P w) (h2 : ∀ w ∈ l.drop i, P w) : ∀ w ∈ l, P w := by
  intro w hw
  rw [← List.take_append_drop i l] at hw
  exact (List.mem_append.mp hw).elim (h1 w) (h2 w)
theorem rc0 : ∀ w ∈ (wd 0).take 8, runOk w = true := by decide +kernel
theorem rc1 : ∀ w ∈ (wd 1).take 8, runOk w = true := by decide +kernel
theorem rc2 : ∀ w ∈ (wd 2).take 8, runOk w = true := by decide +kernel
theorem rc3 : ∀ w ∈ (wd 3).take 8, runOk w = true := by decide +kernel
theorem rc4 : ∀ w ∈ (wd 4).take 8, runOk w = true := by decide +kernel
theorem rc5 : ∀ w ∈ (wd 5).take 8, runOk w = true := by decide +kernel
theorem rc6 : ∀ w ∈ (wd 6).take 8, runOk w = true := by decide +kernel
theorem rc7 : ∀ w ∈ (wd 7).take 8, runOk w = true := by decide +kernel
theorem rc8 : ∀ w ∈ (wd 8).take 8, runOk w = true := by decide +kernel
theorem rc9 : ∀ w ∈ (wd 9).take 8, runOk w = true := by decide +kernel
theorem rc10 : ∀ w ∈ (wd 10).take 8, runOk w = true := by decide +kernel
theorem rc11 : ∀ w ∈ (wd 11).take 8, runOk w = true := by decide +kernel
theorem rc12 : ∀ w ∈ (wd 12).take 8, runOk w = true := by decide +kernel
theorem rc13 : ∀ w ∈ (wd 13).take 8, runOk w = true := by decide +kernel
theorem rc14 : ∀ w ∈ (wd 14).take 8, runOk w = true := by decide +kernel
theorem rc15 : ∀ w ∈ (wd 15).take 8, runOk w = true := by decide +kernel
theorem rcEnd : ∀ w ∈ wd 16, runOk w = true := by decide +kernel
theorem runOk_all : ∀ w ∈ words, runOk w = true := (all_split 8 rc0 (all_split 8 rc1 (all_split 8 rc2 (all_split 8 rc3 (all_split 8 rc4 (all_split 8 rc5 (all_split 8 rc6 (all_split 8 rc7 (all_split 8 rc8 (all_split 8 rc9 (all_split 8 rc10 (all_split 8 rc11 (all_split 8 rc12 (all_split 8 rc13 (all_split 8 rc14 (all_split 8 rc15 rcEnd))))))))))))))))
end
section
/-! what the law asks of the row of borders, over all 127 words -/
def periodsOf (word : Str) : List Int := ((grown word).filter fun b => decide ((b.length : Int) < (word.length : Int))).map fun b => (word.length : Int) - (b.length : Int)
def chainOk (row : List Str) (i : Nat) : Bool := match row[i]?, row[i + 1]? with
  | some b, some a => Txt.startswith a b && Txt.endswith a b
  | _, _ => false
def periodsOk (ps : List Int) (n : Int) : Bool := ps.all fun one => ps.all fun other => decide (0 ≤ one) && decide (one ≤ 6) && (!(decide (one + other - ((Int.gcd one other : Nat) : Int) ≤ n)) || ps.any (· == ((Int.gcd one other : Nat) : Int)))
def rowOk (word : Str) : Bool := (grown word).length ≤ 100 && (grown word).length ≥ 1 && ((List.range ((grown word).length - 1)).all (chainOk (grown word))) && ((grown word).all fun b => decide (b.length ≤ 6)) && periodsOk (periodsOf word) word.length
theorem rowOk_all : ∀ w ∈ words, rowOk w = true := by decide +kernel
theorem row_facts {word : Str} (h : word ∈ words) : ((grown word).length ≤ 100 ∧ 1 ≤ (grown word).length) ∧ (∀ i, i + 1 < (grown word).length → ∃ a b, (grown word)[i]? = some b ∧ (grown word)[i + 1]? = some a ∧ Txt.startswith a b = true ∧ Txt.endswith a b = true) ∧ (∀ b ∈ grown word, b.length ≤ 6) ∧
    (∀ one ∈ periodsOf word, 0 ≤ one ∧ one ≤ 6) ∧ (∀ one ∈ periodsOf word, ∀ other ∈ periodsOf word, one + other - ((Int.gcd one other : Nat) : Int) ≤ word.length → (periodsOf word).any (· == ((Int.gcd one other : Nat) : Int)) = true) := by
  have e := rowOk_all word h
  unfold rowOk at e
  simp only [Bool.and_eq_true, decide_eq_true_eq, List.all_eq_true, List.mem_range] at e
  obtain ⟨⟨⟨⟨e1, e2⟩, e3⟩, e4⟩, e5⟩ := e
  unfold periodsOk at e5
  simp only [Bool.and_eq_true, decide_eq_true_eq, List.all_eq_true, Bool.or_eq_true, Bool.not_eq_true', decide_eq_false_iff_not] at e5
  refine ⟨⟨e1, e2⟩, fun i hi => ?_, e4, fun one h1 => ⟨(e5 one h1 one h1).1.1, (e5 one h1 one h1).1.2⟩, fun one h1 other h2 hle => ((e5 one h1 other h2).2).resolve_left fun hn => hn hle⟩
  have c := e3 i (by omega)
  unfold chainOk at c
  split at c
  next b a hb ha => exact ⟨a, b, hb, ha, by simpa using c⟩
  next => cases c
end
section
def ResIn (T : List (Addr × Obj)) (named : Value) (r : Value) : Option Way → Prop
  | none => r = .none
  | some w => WayIn T named r w
theorem push_arr {l : List Value} {v : Value} : l.toArray.push v = (l ++ [v]).toArray := by simp

section adv
variable {w : World} {mean : ExcName → Option Value} {mg mb : Str → Option Value} {dp un : Nat} {gd : Option (List Code)} {cn : Str} {cs : Scope} {L a : Addr} {ccd : Value} {cl : List (Str × Addr)} {outer : List Env} {A₀ : Around} {base h₀ : Heap} {m : Str → Option Value} {s : Shared} {Q E : Value → Shared → Prop}
  {xh xd xv xl xp xr c nd : Addr} {h1 h2 h3 h4 h5 h6 : Int} {t1 t2 t2' t3 t4 t4' t5 t5' t6 : Tok} {od : Obj} {kvs : List (Str × Value)} {log items : List Value} {nl np : Nat} {lim k at_ : Int} {tups stat : List (Addr × Obj)} {tk ta ts : Tok} {named rest : Value} {subj : Str}
variable (B : Below A₀ base outer h₀) (F : Fr h₀ L s.heap m) (X : (stage.heap_1 w.params).In h₀)
  (N : News h₀ L s.heap ((xd, hostD h1 h2 h3 h4 h5 h6 t1 t2 t2' t3 t4 t4' t5 t5' t6 xv xr xl lim k) :: (xv, od) :: (xl, listOf log.toArray nl) :: (xp, listOf items.toArray np) :: tups))
  (T : Top hd.view_1 (looseW hd.view_1 [Str.ofString "SnobolError", Str.ofString "plain_count"]) mean mg mb h₀)
  (hk : cs.kind = .function) (hr : dp + 50 < recursionLimit) (hu : un + 200 < cLine)
  (hok : ∀ p ∈ tups, OkT stat p) (hs1 : ∀ p ∈ stat, p.1 ≠ xd) (hs2 : ∀ p ∈ stat, p.1 ≠ xv) (hs3 : ∀ p ∈ stat, p.1 ≠ xl) (hs4 : ∀ p ∈ stat, p.1 ≠ xp)
  (n12 : @Ne Nat xd xv) (n13 : @Ne Nat xd xl) (n14 : @Ne Nat xd xp) (n23 : @Ne Nat xv xl) (n24 : @Ne Nat xv xp) (n34 : @Ne Nat xl xp)
  (hod : od.IsDictOf (PySem.strKind PySem.Challenge.rw_sj0196_02.row.prog w) kvs) (lov : (xv == sysModules) = false) (hkv : kvs.length ≤ 1000) (hll : log.length ≤ 100000) (hpl : items.length ≤ 100000)
  (mh : (xh, instObj 407 xd) ∈ tups) (mr : (xr, listOf #[] 0) ∈ tups) (hc : (c, tupObj [.ref nd, rest]) ∈ tups)
  (hsl : subj.length ≤ 100) (hat : 0 ≤ at_) (hat2 : at_ ≤ subj.length)
include B F X N T hk hr hu hok hs1 hs2 hs3 hs4 n12 n13 n14 n23 n24 n34 hod lov hkv hll hpl mh mr hc hsl hat hat2
set_option maxHeartbeats 2000000 in
theorem adv_sim {p : Pat} {ps : List Pat} {st st' : St} {res : Option Way} (hp : PatIn tups nd p) (hps : ChainIn tups rest ps) (hkvs : All2 KvIn kvs st.vals) (hlog : All2 (LogIn tups) log st.log) (hpile : All2 (WayIn tups named) items st.pile)
  (hadv : adv subj p ps at_ st = some (res, st'))
  (ret : ∀ r od' kvs' log' nl' items' np' tl h' tk', Fr h₀ L h' m →
    News h₀ L h' ((xd, hostD h1 h2 h3 h4 h5 h6 t1 t2 t2' t3 t4 t4' t5 t5' t6 xv xr xl lim k) :: (xv, od') :: (xl, listOf (List.toArray log') nl') :: (xp, listOf (List.toArray items') np') :: (tl ++ tups)) → Tups tl →
    od'.IsDictOf (PySem.strKind PySem.Challenge.rw_sj0196_02.row.prog w) kvs' → All2 KvIn kvs' st'.vals → All2 (LogIn (tl ++ tups)) log' st'.log → All2 (WayIn (tl ++ tups) named) items' st'.pile → ResIn (tl ++ tups) named r res → Q r { s with heap := h', toks := tk' }) :
  wpAny (model PySem.Challenge.rw_sj0196_02.row.prog w) (ktrTop dp un gd cn cs L a ccd cl outer) (call (.ref 341) [.ref c, .int at_ ta, named, .str subj ts, .ref xp, .ref xh]) Q E s := by
  have sub : ∀ tl : List (Addr × Obj), ∀ p ∈ tups, p ∈ tl ++ tups := fun tl p h => List.mem_append_right _ h
  have keep : ∀ tl : List (Addr × Obj), All2 (LogIn (tl ++ tups)) log st.log ∧ All2 (WayIn (tl ++ tups) named) items st.pile := fun tl => ⟨all2_mono (fun _ _ h => h.mono (sub tl)) hlog, all2_mono (fun _ _ h => h.mono (sub tl)) hpile⟩
  have chk : ∀ tl : List (Addr × Obj), ChainIn (tl ++ tups) rest ps := fun tl => hps.mono (sub tl)
  have junkT : ∀ {l junk : List (Addr × Obj)}, Tups l → Tups junk → Tups (l ++ junk) := fun a b p hp => (List.mem_append.mp hp).elim (a p) (b p)
  unfold adv at hadv
  split at hadv
  next hc0 =>
    cases hp with
    | @cat _ v1 v2 t p q hm hp1 hp2 =>
      cases hadv
      refine adv_cat B F X N T hk hr hu hok hs1 hs2 hs3 hs4 n12 n13 n14 n23 n24 n34 hod lov hkv hll hpl mh mr hc hsl hat hat2 hm (fun x y z junk h' tk' F' N' hj => ?_)
      refine ret _ _ kvs log _ items _ ([(x, tupObj [.ref y, .int at_ ta, named]), (y, tupObj [.ref v1, .ref z]), (z, tupObj [.ref v2, rest])] ++ junk) _ _ F' N' (junkT (by walk_at "okT") hj) hod hkvs (keep _).1 (keep _).2 ?_
      exact ⟨x, _, _, rfl, .head _, .cons (.tail _ (.head _)) (hp1.mono (sub _)) (.cons (.tail _ (.tail _ (.head _))) (hp2.mono (sub _)) (chk _))⟩
    | @now _ v r t p key hm hp1 hr1 =>
      cases hadv
      refine adv_now B F X N T hk hr hu hok hs1 hs2 hs3 hs4 n12 n13 n14 n23 n24 n34 hod lov hkv hll hpl mh mr hc hsl hat hat2 hm (fun x y z u t junk h' tk' F' N' hj => ?_)
      refine ret _ _ kvs log _ items _ ([(x, tupObj [.ref y, .int at_ ta, named]), (y, tupObj [.ref v, .ref z]), (z, tupObj [.ref u, rest]), (u, tupObj [.str (Str.ofString "end now") t, .ref r, .int at_ ta])] ++ junk) _ _ F' N' (junkT (by walk_at "okT") hj) hod hkvs (keep _).1 (keep _).2 ?_
      exact ⟨x, _, _, rfl, .head _, .cons (.tail _ (.head _)) (hp1.mono (sub _)) (.cons (.tail _ (.tail _ (.head _))) (.enow (.tail _ (.tail _ (.tail _ (.head _)))) (hr1.mono (sub _))) (chk _))⟩
    | @enow _ r t tb key b hm hr1 =>
      dsimp only at hadv
      split at hadv
      next hb =>
        cases hadv
        obtain ⟨rd, g1, g2, g3, u1, u2, u3, u1', u3', m1, m2⟩ := hr1
        refine adv_enow B F X N T hk hr hu hok hs1 hs2 hs3 hs4 n12 n13 n14 n23 n24 n34 hod lov hkv hll hpl mh mr hc hsl hat hat2 hm m1 m2 hb.1 hb.2 (fun x y t od' junk h' tk' F' N' hj hd' => ?_)
        rw [push_arr] at N'
        refine ret _ _ _ _ _ items _ ([(x, tupObj [rest, .int at_ ta, named]), (y, tupObj [.str key u3', .str (Txt.slice subj (some b) (some at_)) t])] ++ junk) _ _ F' N' (junkT (by walk_at "okT") hj) hd' (kvs_set hkvs rfl) (all2_snoc (keep _).1 ⟨y, _, _, rfl, .tail _ (.head _), rfl⟩) (keep _).2 ?_
        exact ⟨x, _, _, rfl, .head _, chk _⟩
      next => cases hadv
    | @cursor _ r t key hm hr1 =>
      cases hadv
      obtain ⟨rd, g1, g2, g3, u1, u2, u3, u1', u3', m1, m2⟩ := hr1
      refine adv_cursor B F X N T hk hr hu hok hs1 hs2 hs3 hs4 n12 n13 n14 n23 n24 n34 hod lov hkv hll hpl mh mr hc hsl hat hat2 hm m1 m2 (fun x y od' junk h' tk' F' N' hj hd' => ?_)
      rw [push_arr] at N'
      refine ret _ _ _ _ _ items _ ([(x, tupObj [rest, .int at_ ta, named]), (y, tupObj [.str key u3', .int at_ ta])] ++ junk) _ _ F' N' (junkT (by walk_at "okT") hj) hd' (kvs_set hkvs rfl) (all2_snoc (keep _).1 ⟨y, _, _, rfl, .tail _ (.head _), rfl⟩) (keep _).2 ?_
      exact ⟨x, _, _, rfl, .head _, chk _⟩
    | @delay _ d t u1 u2 nm hm hn =>
      dsimp only at hadv
      split at hadv
      next txt hv =>
        cases hadv
        obtain ⟨v, hv1, hv2⟩ := kvs_get hkvs hv
        obtain ⟨u3, rfl⟩ := hv2.str_inv
        refine adv_delay B F X N T hk hr hu hok hs1 hs2 hs3 hs4 n12 n13 n14 n23 n24 n34 hod lov hkv hll hpl mh mr hc hsl hat hat2 hm hn hv1 (fun x y z t junk h' tk' F' N' hj => ?_)
        refine ret _ _ kvs log _ items _ ([(x, tupObj [.ref y, .int at_ ta, named]), (y, tupObj [.ref z, rest]), (z, tupObj [.str (Str.ofString "chars") t, .str txt u3])] ++ junk) _ _ F' N' (junkT (by walk_at "okT") hj) hod hkvs (keep _).1 (keep _).2 ?_
        exact ⟨x, _, _, rfl, .head _, .cons (.tail _ (.head _)) (.chars (.tail _ (.tail _ (.head _)))) (chk _)⟩
      next => cases hadv
    | @fail _ t hm =>
      cases hadv
      refine adv_fail B F X N T hk hr hu hok hs1 hs2 hs3 hs4 n12 n13 n14 n23 n24 n34 hod lov hkv hll hpl mh mr hc hsl hat hat2 hm (fun junk h' tk' F' N' hj => ?_)
      exact ret _ _ kvs log _ items _ junk _ _ F' N' hj hod hkvs (keep _).1 (keep _).2 rfl
    | @arb _ t hm =>
      dsimp only at hadv
      refine adv_arb B F X N T hk hr hu hok hs1 hs2 hs3 hs4 n12 n13 n14 n23 n24 n34 hod lov hkv hll hpl mh mr hc hsl hat hat2 hm (fun x y z t junk h' tk' F' N' hj hlt => ?_) (fun x junk h' tk' F' N' hj hlt => ?_)
      · rw [if_pos hlt] at hadv
        cases hadv
        rw [push_arr] at N'
        refine ret _ _ kvs log _ _ _ ([(x, tupObj [rest, .int at_ ta, named]), (y, tupObj [.ref z, .int (at_ + 1) t, named]), (z, tupObj [.ref nd, rest])] ++ junk) _ _ F' N' (junkT (by walk_at "okT") hj) hod hkvs (keep _).1
          (all2_snoc (keep _).2 ⟨y, _, _, rfl, .tail _ (.head _), .cons (.tail _ (.tail _ (.head _))) (.arb (sub _ _ hm)) (chk _)⟩) ?_
        exact ⟨x, _, _, rfl, .head _, chk _⟩
      · rw [if_neg hlt] at hadv
        cases hadv
        refine ret _ _ kvs log _ items _ ([(x, tupObj [rest, .int at_ ta, named])] ++ junk) _ _ F' N' (junkT (by walk_at "okT") hj) hod hkvs (keep _).1 (keep _).2 ?_
        exact ⟨x, _, _, rfl, .head _, chk _⟩
    | @rpos _ t u hm =>
      dsimp only at hadv
      refine adv_rpos B F X N T hk hr hu hok hs1 hs2 hs3 hs4 n12 n13 n14 n23 n24 n34 hod lov hkv hll hpl mh mr hc hsl hat hat2 hm (fun x junk h' tk' F' N' hj hlt => ?_) (fun junk h' tk' F' N' hj hlt => ?_)
      · rw [if_pos hlt] at hadv
        cases hadv
        refine ret _ _ kvs log _ items _ ([(x, tupObj [rest, .int at_ ta, named])] ++ junk) _ _ F' N' (junkT (by walk_at "okT") hj) hod hkvs (keep _).1 (keep _).2 ?_
        exact ⟨x, _, _, rfl, .head _, chk _⟩
      · rw [if_neg hlt] at hadv
        cases hadv
        exact ret _ _ kvs log _ items _ junk _ _ F' N' hj hod hkvs (keep _).1 (keep _).2 rfl
    | @brk _ t u hm =>
      dsimp only at hadv
      refine adv_brk B F X N T hk hr hu hok hs1 hs2 hs3 hs4 n12 n13 n14 n23 n24 n34 hod lov hkv hll hpl mh mr hc hsl hat hat2 hm (fun x t junk h' tk' F' N' hj hlt => ?_) (fun junk h' tk' F' N' hj hlt => ?_)
      · rw [if_pos hlt] at hadv
        cases hadv
        refine ret _ _ kvs log _ items _ ([(x, tupObj [rest, .int (brkEnd subj at_) t, named])] ++ junk) _ _ F' N' (junkT (by walk_at "okT") hj) hod hkvs (keep _).1 (keep _).2 ?_
        exact ⟨x, _, _, rfl, .head _, chk _⟩
      · rw [if_neg hlt] at hadv
        cases hadv
        exact ret _ _ kvs log _ items _ junk _ _ F' N' hj hod hkvs (keep _).1 (keep _).2 rfl
    | @rtab _ d e t u1 u2 u3 nm hm hn ho =>
      dsimp only at hadv
      split at hadv
      next i hv =>
        split at hadv
        next hi =>
          obtain ⟨v, hv1, hv2⟩ := kvs_get hkvs hv
          obtain ⟨u4, rfl⟩ := hv2.int_inv
          refine adv_rtab B F X N T hk hr hu hok hs1 hs2 hs3 hs4 n12 n13 n14 n23 n24 n34 hod lov hkv hll hpl mh mr hc hsl hat hat2 hm hn ho hv1 hi.1 hi.2 (fun x t junk h' tk' F' N' hj hlt => ?_) (fun junk h' tk' F' N' hj hlt => ?_)
          · rw [if_pos hlt] at hadv
            cases hadv
            refine ret _ _ kvs log _ items _ ([(x, tupObj [rest, .int (subj.length - i) t, named])] ++ junk) _ _ F' N' (junkT (by walk_at "okT") hj) hod hkvs (keep _).1 (keep _).2 ?_
            exact ⟨x, _, _, rfl, .head _, chk _⟩
          · rw [if_neg hlt] at hadv
            cases hadv
            exact ret _ _ kvs log _ items _ junk _ _ F' N' hj hod hkvs (keep _).1 (keep _).2 rfl
        next => cases hadv
      next => cases hadv
    | @chars _ t u txt hm =>
      dsimp only at hadv
      split at hadv
      next htl =>
        refine adv_chars B F X N T hk hr hu hok hs1 hs2 hs3 hs4 n12 n13 n14 n23 n24 n34 hod lov hkv hll hpl mh mr hc hsl hat hat2 hm htl (fun x t junk h' tk' F' N' hj hlt => ?_) (fun junk h' tk' F' N' hj hlt => ?_)
        · rw [if_pos hlt] at hadv
          cases hadv
          refine ret _ _ kvs log _ items _ ([(x, tupObj [rest, .int (at_ + txt.length) t, named])] ++ junk) _ _ F' N' (junkT (by walk_at "okT") hj) hod hkvs (keep _).1 (keep _).2 ?_
          exact ⟨x, _, _, rfl, .head _, chk _⟩
        · rw [if_neg (by rw [hlt]; exact Bool.false_ne_true)] at hadv
          cases hadv
          exact ret _ _ kvs log _ items _ junk _ _ F' N' hj hod hkvs (keep _).1 (keep _).2 rfl
      next => cases hadv
  next => cases hadv
end adv
end
section
section cuts
variable {prog : Program} {w : World} {A : Around} {E : Value → Shared → Prop} {s : Shared} {env : Env} {Q : Flow → Shared → Prop}
theorem seq_cut {st : Stmt} {rest : List Stmt} (h : ∀ Z : Flow → Shared → Prop, (∀ s', wpAny (model prog w) A (execs rest env) Q E s' → Z .next s') → (∀ f s', f ≠ .next → Q f s' → Z f s') → wpAny (model prog w) A (exec st env) Z E s) : wpAny (model prog w) A (execs (st :: rest) env) Q E s :=
  wpAny_execs_cons (h _ (fun _ x => x) (fun f _ hf x => by cases f <;> first | exact x | exact absurd rfl hf))
theorem test_cut {t : Sem Bool} {body : Shared → Prop} {done : Shared → Prop} (h : ∀ Z : Bool → Shared → Prop, (∀ s', body s' → Z true s') → (∀ s', done s' → Z false s') → wpAny (model prog w) A t Z E s) :
    wpAny (model prog w) A t (fun b s₂ => if b = true then body s₂ else done s₂) E s :=
  h _ (fun _ x => by rw [if_pos rfl]; exact x) (fun _ x => by rw [if_neg Bool.false_ne_true]; exact x)
end cuts
structure Cf where
  f : Nat
  st : St
  k : Int
  tk5 : Tok
  od : Obj
  kvs : List (Str × Value)
  log : List Value
  nl : Nat
  items : List Value
  np : Nat
  tups : List (Addr × Obj)
structure CfOk (w : World) (stat T0 : List (Addr × Obj)) (xh xd xr : Addr) (named : Value) (c : Cf) : Prop where
  sub : ∃ tl, Tups tl ∧ c.tups = tl ++ T0
  ok : ∀ p ∈ c.tups, OkT stat p
  od : c.od.IsDictOf (PySem.strKind PySem.Challenge.rw_sj0196_02.row.prog w) c.kvs
  kvs : All2 KvIn c.kvs c.st.vals
  log : All2 (LogIn c.tups) c.log c.st.log
  pile : All2 (WayIn c.tups named) c.items c.st.pile
  mh : (xh, instObj 407 xd) ∈ c.tups
  mr : (xr, listOf #[] 0) ∈ c.tups
theorem CfOk.grow {T0 T tl : List (Addr × Obj)} (h : ∃ tl, Tups tl ∧ T = tl ++ T0) (ht : Tups tl) : ∃ tl', Tups tl' ∧ tl ++ T = tl' ++ T0 := by
  obtain ⟨l, hl, rfl⟩ := h
  exact ⟨tl ++ l, fun p hp => (List.mem_append.mp hp).elim (ht p) (hl p), (List.append_assoc _ _ _).symm⟩
theorem all2_last {α β : Type} {R : α → β → Prop} {l : List α} {l' : List β} (x : All2 R l l') {b : β} (h : l'.getLast? = some b) : ∃ i a, l = i ++ [a] ∧ R a b ∧ All2 R i l'.dropLast := by
  induction x with
  | nil => cases h
  | @cons a b' l l' hab hl ih =>
    cases hl with
    | nil => cases h; exact ⟨[], a, rfl, hab, .nil⟩
    | @cons a2 b2 l2 l2' h2 hl2 =>
      rw [List.getLast?_cons_cons] at h
      obtain ⟨i, a', e, hr, hi⟩ := ih h
      exact ⟨a :: i, a', by rw [e]; rfl, hr, by rw [List.dropLast_cons_cons]; exact .cons hab hi⟩
theorem all2_none {α β : Type} {R : α → β → Prop} {l : List α} {l' : List β} (x : All2 R l l') (h : l'.getLast? = none) : l = [] ∧ l' = [] := by
  cases x with
  | nil => exact ⟨rfl, rfl⟩
  | cons _ _ => simp at h
theorem len_snoc {α : Type} {l : List α} {v : α} : (l ++ [v]).length = l.length + 1 := by simp
theorem kl_last_snoc {l : List Value} {v : Value} : kl_last ((l ++ [v]).toArray.toList) = some (l, v) := by
  rw [List.toList_toArray]
  cases h : kl_last (l ++ [v]) with
  | none => have := kl_last_none h; simp at this
  | some z =>
    obtain ⟨p, y⟩ := z
    have := kl_last_spec h
    have e := List.append_inj' this rfl
    rw [e.1, (List.cons.inj e.2).1]
section lenpop
variable {prog : Program} {w : World} {A : Around} {E : Value → Shared → Prop} {s : Shared} {h₀ : Heap} {L : Addr} {m : Str → Option Value} {news news' : List (Addr × Obj)}
theorem len_ledger {l : Addr} {items : List Value} {n k : Nat} {Q : Value → Shared → Prop} (N : News h₀ L s.heap news) (hm : (l, listOf items.toArray n) ∈ news) (hk : items.length = k) (hz : k ≤ 1000000)
    (h : Q (.int (k : Nat) (s.toks + 1)) { s with toks := s.toks + 1 + 1 }) : wpAny (model prog w) A (call (.builtin "len") [.ref l]) Q E s := by
  subst hk
  exact PyProof.Rows.len_list (News.isList N hm) (by simp; omega) (by simpa using h)
theorem pop_ledger {D : Addr} {l : List Value} {v : Value} {n : Nat} {Q : Value → Shared → Prop} (F : Fr h₀ L s.heap m) (N : News h₀ L s.heap news) (U : Upd D (listOf (l ++ [v]).toArray n) (listOf l.toArray (n + 1)) news news') (hz : l.length ≤ 1000000)
    (h : ∀ h', Fr h₀ L h' m → News h₀ L h' news' → Q v { s with heap := h' }) : wpAny (model prog w) A (call (.builtin "list.pop") [.ref D]) Q E s :=
  kl_pop F N kl_last_snoc U (by rw [sizeLine_eq]; simp; omega) h
theorem eq_tup_str {x : Addr} {vs : List Value} {b : Str} {u : Tok} {Q : Value → Shared → Prop} (hu : A.units < cLine) (N : News h₀ L s.heap news) (hm : (x, tupObj vs) ∈ news) (h : Q (.bool false) s) :
    wpAny (model prog w) A (compareOp .Eq (.ref x) (.str b u)) Q E s := cmp_ofEq (SeqAt.RcAt.tuple_str b u ⟨_, N.get hm, rfl, _, rfl⟩ hu prog w E Q h)
end lenpop
local macro_rules | `(tactic| walk_at "compareOp Eq ref str") => `(tactic| (k_here; k_dflt (refine' eq_tup_str ?k1 ?k2 ?k3 ?_; (case k1 => ktr_units); (case k2 => k_asm); (case k3 => k_mem); k_whole)))
local macro_rules | `(tactic| walk_at "call builtin:len") => `(tactic| (k_here; (with_reducible show wpAny _ _ (call (Value.builtin "len") [Value.ref _]) _ _ _); k_dflt (refine' len_ledger ?k1 ?k2 ?k3 ?k4 ?_; (case k1 => k_asm); (case k2 => k_mem); (case k3 => first | exact len_snoc | exact rfl); (case k4 => omega); k_whole)))
local macro_rules | `(tactic| walk_at "call builtin:list.pop") => `(tactic| (k_here; (with_reducible show wpAny _ _ (call (Value.builtin "list.pop") [Value.ref _]) _ _ _); k_dflt (refine' pop_ledger ?k1 ?k2 ?k3 ?k4 ?_; (case k1 => k_asm); (case k2 => k_asm); (case k3 => k_upd); (case k4 => omega); k_whole); intro h' F' N'; (try k_sweep)))
theorem not_contains {l : List Str} {z : Str} (h : l.contains z = false) : ∀ y ∈ l, z ≠ y := by
  intro y hy e
  subst e
  rw [List.contains_iff_mem.mpr hy] at h
  cases h
theorem drop4 {α : Type} {a b c d : α} {t : List α} : ∀ p ∈ a :: b :: c :: t, p ∈ a :: b :: c :: d :: t := by
  intro p hp
  simp only [List.mem_cons] at hp ⊢
  rcases hp with h | h | h | h <;> simp [h]
theorem adv_bounds {subj : Str} {p : Pat} {rest : List Pat} {i : Int} {st : St} {r : Option Way × St} (h : adv subj p rest i st = some r) : 0 ≤ i ∧ i ≤ subj.length ∧ st.vals.length ≤ 1000 ∧ st.log.length ≤ 100000 ∧ st.pile.length ≤ 100000 := by
  unfold adv at h
  split at h
  next hc => exact hc
  next => cases h
theorem run_inv {subj : Str} {lim : Int} {f : Nat} {ps : List Pat} {i : Int} {st : St} {k : Int} {r : St × Int} (h : run subj lim f (some (ps, i)) st k = some r) :
    ∃ f' p rest res st', f = f' + 1 ∧ ps = p :: rest ∧ k + 1 ≤ lim ∧ adv subj p rest i st = some (res, st') ∧ run subj lim f' res st' (k + 1) = some r := by
  cases f with
  | zero => cases h
  | succ f =>
    cases ps with
    | nil => cases h
    | cons p rest =>
      rw [run] at h
      split at h
      next hk =>
        split at h
        next res st' ha => exact ⟨f, p, rest, res, st', rfl, rfl, hk, ha, h⟩
        next => cases h
      next => cases h
section tried
variable {w : World} {mean : ExcName → Option Value} {mg mb : Str → Option Value} {dp un : Nat} {gd : Option (List Code)} {cn : Str} {cs : Scope} {L a : Addr} {ccd : Value} {cl : List (Str × Addr)} {outer : List Env} {A₀ : Around} {base h₀ : Heap} {m : Str → Option Value} {s : Shared} {Q E : Value → Shared → Prop}
  {xh xd xv xl xr nd : Addr} {h1 h2 h3 h4 h5 h6 : Int} {t1 t2 t2' t3 t4 t4' t5 t5' t6 : Tok} {od : Obj} {kvs : List (Str × Value)} {log : List Value} {nl : Nat} {lim k begin : Int} {tupsZ stat : List (Addr × Obj)} {tb ts : Tok} {subj : Str}
local macro_rules | `(tactic| walk_at "exec While Compare cons nil") => `(tactic| (refine Hold.out ?_))
local macro_rules | `(tactic| walk_at "call ref") => `(tactic| ((with_reducible show wpAny _ _ (call (Value.ref 341) _) _ _ _); refine Hold.out ?_))
set_option maxRecDepth 100000 in
set_option maxHeartbeats 8000000 in
theorem tried_c (B : Below A₀ base outer h₀) (F : Fr h₀ L s.heap m) (X : (stage.heap_1 w.params).In h₀)
  (N : News h₀ L s.heap ((xd, hostD h1 h2 h3 h4 h5 h6 t1 t2 t2' t3 t4 t4' t5 t5' t6 xv xr xl lim k) :: (xv, od) :: (xl, listOf log.toArray nl) :: tupsZ))
  (T : Top hd.view_1 (looseW hd.view_1 [Str.ofString "SnobolError", Str.ofString "plain_count"]) mean mg mb h₀)
  (hk : cs.kind = .function) (hr : dp + 60 < recursionLimit) (hu : un + 250 < cLine)
  (hok : ∀ p ∈ tupsZ, OkT stat p) (hs1 : ∀ p ∈ stat, p.1 ≠ xd) (hs2 : ∀ p ∈ stat, p.1 ≠ xv) (hs3 : ∀ p ∈ stat, p.1 ≠ xl) (hst : stat ⊆ tupsZ)
  (n12 : @Ne Nat xd xv) (n13 : @Ne Nat xd xl) (n23 : @Ne Nat xv xl)
  (hod : od.IsDictOf (PySem.strKind PySem.Challenge.rw_sj0196_02.row.prog w) kvs) (lov : (xv == sysModules) = false)
  (mh : (xh, instObj 407 xd) ∈ tupsZ) (mr : (xr, listOf #[] 0) ∈ tupsZ) (hsl : subj.length ≤ 100)
  {p : Pat} {st st' : St} {k' : Int} {f : Nat} (hp : PatIn tupsZ nd p) (hkvs : All2 KvIn kvs st.vals) (hlog : All2 (LogIn tupsZ) log st.log) (hpile : st.pile = [])
  (hrun : run subj lim f none { st with pile := [([p], begin)] } k = some (st', k'))
  (hret : ∀ h' tk' tk5 od' kvs' log' nl' tl, Fr h₀ L h' m → News h₀ L h' ((xd, hostD h1 h2 h3 h4 h5 h6 t1 t2 t2' t3 t4 t4' t5 tk5 t6 xv xr xl lim k') :: (xv, od') :: (xl, listOf (List.toArray log') nl') :: (tl ++ tupsZ)) →
    Tups tl → od'.IsDictOf (PySem.strKind PySem.Challenge.rw_sj0196_02.row.prog w) kvs' → All2 KvIn kvs' st'.vals → All2 (LogIn (tl ++ tupsZ)) log' st'.log → Q .none { s with heap := h', toks := tk' }) :
  wpAny (model PySem.Challenge.rw_sj0196_02.row.prog w) (ktrTop dp un gd cn cs L a ccd cl outer) (call (.ref 334) [.ref nd, .str subj ts, .int begin tb, .ref xh]) Q E s := by
  revert X; k_fill; intro X
  have s1 := sepT N (.head _) rfl (by decide) (fun p hp => .tail _ (.tail _ (.tail _ hp))) hok hs1
  have s2 := sepT N (.tail _ (.head _)) (by obtain ⟨es, ep, ⟨hcls, -⟩, -⟩ := hod; exact hcls) (by decide) (fun p hp => .tail _ (.tail _ (.tail _ hp))) hok hs2
  have s3 := sepT N (.tail _ (.tail _ (.head _))) rfl (by decide) (fun p hp => .tail _ (.tail _ (.tail _ hp))) hok hs3
  walk_at "call ref"
  k_steps
  unfold Hold
  rename Fr _ _ _ _ => F1
  rename News _ _ _ _ => N1
  rename_i g1 L1 hx FG1 B1 X1 T1 tkx D2 hy la D1 hz lb D0 hw lc xp hv ld hu'
  clear lc hx hy hz hw hv
  refine wpAny_mono (ksw_while (σ := Cf) (fun c => (xd, hostD h1 h2 h3 h4 h5 h6 t1 t2 t2' t3 t4 t4' t5 c.tk5 t6 xv xr xl lim c.k) :: (xv, c.od) :: (xl, listOf c.log.toArray c.nl) :: (xp, listOf c.items.toArray c.np) :: c.tups) (fun _ => [])
    (fun c => CfOk w stat tupsZ xh xd xr (.ref D1) c ∧ run subj lim c.f none c.st c.k = some (st', k')) [Str.ofString "way", Str.ofString "chain", Str.ofString "at", Str.ofString "named"] (fun _ => True) (fun c => c.f)
    ⟨f, { st with pile := [([p], begin)] }, k, t5', od, kvs, log, nl, [.ref D0], 0, (D0, tupObj [.ref D2, .int begin tb, .ref D1]) :: (D1, tupObj []) :: (D2, tupObj [.ref nd, .none]) :: tupsZ⟩ F1 ?_ ⟨⟨⟨[_, _, _], by walk_at "okT", rfl⟩, ?_, hod, hkvs, ?_, ?_, ?_, ?_⟩, hrun⟩ (List.forall_mem_nil _) trivial ?_) (fun _ _ x => x) (fun _ _ x => x)
  · refine kst_newsOf N1 fun p hp => ?_
    simp only [List.mem_cons] at hp ⊢
    rcases hp with h | h | h | h | h | h | h | h <;> simp [h]
  · exact List.forall_mem_cons.mpr ⟨.inl rfl, List.forall_mem_cons.mpr ⟨.inl rfl, List.forall_mem_cons.mpr ⟨.inl rfl, hok⟩⟩⟩
  · exact all2_mono (fun _ _ h => h.mono fun p hp => .tail _ (.tail _ (.tail _ hp))) hlog
  · exact .cons ⟨D0, _, _, rfl, .head _, .cons (.tail _ (.tail _ (.head _))) (hp.mono fun p hp => .tail _ (.tail _ (.tail _ hp))) .nil⟩ .nil
  · exact .tail _ (.tail _ (.tail _ mh))
  · exact .tail _ (.tail _ (.tail _ mr))
  have hs4 : ∀ p ∈ stat, p.1 ≠ xp := fun p hp => Nat.ne_of_lt (allLt_mem ld.2.2.2.2.2.2 p (hst hp))
  have n14 : @Ne Nat xd xp := Nat.ne_of_lt ld.2.2.2.1
  have n24 : @Ne Nat xv xp := Nat.ne_of_lt ld.2.2.2.2.1
  have n34 : @Ne Nat xl xp := Nat.ne_of_lt ld.2.2.2.2.2.1
  clear N1 F1 N hrun hpile hlog hkvs hp hod hok mh mr
  rintro ⟨f, st, k, tk5, od, kvs, log, nl, items, np, tups⟩ u h tk2 ⟨hc, hrun⟩ - F1 N1
  dsimp only at F1 N1 hc hrun
  generalize hZ : KswPost _ _ _ _ _ _ _ _ _ _ _ _ = Z
  cases f with
  | zero => cases hrun
  | succ f =>
  rw [run] at hrun
  cases hl : st.pile.getLast? with
  | none =>
    rw [hl] at hrun
    obtain ⟨rfl, hpn⟩ := all2_none hc.pile hl
    k_fold
    k_steps
    cases hrun
    rename Fr h₀ L _ _ => F2
    rename News h₀ L _ _ => N2
    obtain ⟨tl, htl, rfl⟩ := hc.sub
    exact hret _ _ _ _ _ _ _ tl F2 (kst_newsOf N2 drop4) htl hc.od hc.kvs hc.log
  | some wp =>
    rw [hl] at hrun
    obtain ⟨its, a, rfl, ha, hits⟩ := all2_last hc.pile hl
    obtain ⟨x, cv, tx, rfl, hx, hch⟩ := ha
    dsimp only at hx hch hrun
    have hok := hc.ok
    have s1 := sepT N1 (.head _) rfl (by decide) (fun p hp => .tail _ (.tail _ (.tail _ (.tail _ hp)))) hok hs1
    have s2 := sepT N1 (.tail _ (.head _)) (by obtain ⟨es, ep, ⟨hcls, -⟩, -⟩ := hc.od; exact hcls) (by decide) (fun p hp => .tail _ (.tail _ (.tail _ (.tail _ hp)))) hok hs2
    have s3 := sepT N1 (.tail _ (.tail _ (.head _))) rfl (by decide) (fun p hp => .tail _ (.tail _ (.tail _ (.tail _ hp)))) hok hs3
    have s4 := sepT N1 (.tail _ (.tail _ (.tail _ (.head _)))) rfl (by decide) (fun p hp => .tail _ (.tail _ (.tail _ (.tail _ hp)))) hok hs4
    obtain ⟨f', p0, rest0, res0, st0, e1, e2, e3, e4, e5⟩ := run_inv hrun
    have hb := adv_bounds e4
    have hil := all2_length hits
    have hll : its.length ≤ 100000 := by rw [hil]; exact hb.2.2.2.2
    clear e1 e2 e3 e4 e5 f' rest0 res0 st0 p0
    k_unmd
    k_fold
    k_steps
    · unfold Hold
      rename Fr g1 L1 _ _ => F2
      rename News g1 L1 _ _ => N2
      refine ksw_while (σ := Cf × Value × Value × Int × Tok) (fun c => (xd, hostD h1 h2 h3 h4 h5 h6 t1 t2 t2' t3 t4 t4' t5 c.1.tk5 t6 xv xr xl lim c.1.k) :: (xv, c.1.od) :: (xl, listOf c.1.log.toArray c.1.nl) :: (xp, listOf c.1.items.toArray c.1.np) :: c.1.tups)
        (fun c => [(Str.ofString "named", .ref D1), (Str.ofString "at", .int c.2.2.2.1 c.2.2.2.2), (Str.ofString "chain", c.2.2.1), (Str.ofString "way", c.2.1)])
        (fun c => CfOk w stat tupsZ xh xd xr (.ref D1) c.1 ∧ c.1.f ≤ f ∧ ∃ pl, ChainIn c.1.tups c.2.2.1 pl ∧ run subj lim c.1.f (some (pl, c.2.2.2.1)) c.1.st c.1.k = some (st', k')) [] (fun _ => True) (fun c => c.1.f)
        (⟨f, { st with pile := st.pile.dropLast }, k, tk5, od, kvs, log, nl, its, np + 1, tups⟩, .ref x, cv, wp.2, tx) F2 N2 ⟨⟨hc.sub, hok, hc.od, hc.kvs, hc.log, hits, hc.mh, hc.mr⟩, Nat.le_refl _, wp.1, hch, hrun⟩
        (List.forall_mem_cons.mpr ⟨rfl, List.forall_mem_cons.mpr ⟨rfl, List.forall_mem_cons.mpr ⟨rfl, List.forall_mem_cons.mpr ⟨rfl, List.forall_mem_nil _⟩⟩⟩⟩) trivial ?_
      clear F2 N2 s1 s2 s3 s4 hb hil hll hits hx hch hrun hok hc
      rintro ⟨⟨fi, st, k, tk5, od, kvs, log, nl, items, np, tups⟩, wv, chv, at_, ta⟩ u2 h2_ tk3 ⟨hc, hfi, pl, hch, hrun⟩ - F2 N2
      dsimp only at F2 N2 hc hrun hch hfi
      obtain ⟨f', p, rest, res, st1, rfl, rfl, hlim, hadv, hrun1⟩ := run_inv hrun
      have hb := adv_bounds hadv
      cases hch with
      | @cons c nd restv _ _ hmc hpp hpr =>
      have hok := hc.ok
      have s1 := sepT N2 (.head _) rfl (by decide) (fun p hp => .tail _ (.tail _ (.tail _ (.tail _ hp)))) hok hs1
      have s2 := sepT N2 (.tail _ (.head _)) (by obtain ⟨es, ep, ⟨hcls, -⟩, -⟩ := hc.od; exact hcls) (by decide) (fun p hp => .tail _ (.tail _ (.tail _ (.tail _ hp)))) hok hs2
      have s3 := sepT N2 (.tail _ (.tail _ (.head _))) rfl (by decide) (fun p hp => .tail _ (.tail _ (.tail _ (.tail _ hp)))) hok hs3
      have s4 := sepT N2 (.tail _ (.tail _ (.tail _ (.head _)))) rfl (by decide) (fun p hp => .tail _ (.tail _ (.tail _ (.tail _ hp)))) hok hs4
      have mh := hc.mh
      have mr := hc.mr
      generalize hY : KswPost _ _ _ _ _ _ _ _ _ _ _ _ = Y
      k_unmd
      k_fold
      k_steps
      unfold Hold
      rename Fr g1 L1 _ _ => F3
      rename News g1 L1 _ _ => N3
      k_dflt (refine adv_sim B1 F3 X1 N3 T1 rfl (by k_room) (by ktr_units) hok hs1 hs2 hs3 hs4 n12 n13 n14 n23 n24 n34 hc.od lov (by rw [all2_length hc.kvs]; exact hb.2.2.1) (by rw [all2_length hc.log]; exact hb.2.2.2.1) (by rw [all2_length hc.pile]; exact hb.2.2.2.2) mh mr hmc hsl hb.1 hb.2.1 hpp hpr hc.kvs hc.log hc.pile hadv ?_)
      clear F3 N3 F2 N2
      intro r od' kvs' log' nl' items' np' tl h' tk' F4 N4 htl hod' hkvs' hlog' hpile' hres
      have sub : ∀ p ∈ tups, p ∈ tl ++ tups := fun p hp => List.mem_append_right _ hp
      have hok' : ∀ p ∈ tl ++ tups, OkT stat p := fun p hp => (List.mem_append.mp hp).elim (fun h => .inl (htl p h)) (hok p)
      cases res with
      | none =>
        cases hres
        k_unmd
        k_fold
        k_steps
        dsimp only
        rw [← hY]
        unfold KswPost
        dsimp only
        k_unmd
        (try k_fold)
        k_steps
        rename Fr g1 L1 _ _ => F5
        rename News g1 L1 _ _ => N5
        rw [← hZ]
        refine ksw_end (⟨f', st1, k + 1, _, od', kvs', log', nl', items', np', tl ++ tups⟩ : Cf) F5 N5 (fun _ hp => hp) ⟨⟨CfOk.grow hc.sub htl, hok', hod', hkvs', hlog', hpile', sub _ mh, sub _ mr⟩, hrun1⟩ (List.forall_mem_nil _) ?_ trivial ?_
        · intro z _ hz2
          have a1 : z ≠ Str.ofString "named" := not_contains hz2 _ (.tail _ (.tail _ (.tail _ (.head _))))
          have a2 : z ≠ Str.ofString "at" := not_contains hz2 _ (.tail _ (.tail _ (.head _)))
          have a3 : z ≠ Str.ofString "chain" := not_contains hz2 _ (.tail _ (.head _))
          have a4 : z ≠ Str.ofString "way" := not_contains hz2 _ (.head _)
          have a5 : ([] : List Str).contains z = false := rfl
          simp only [if_neg a1, if_neg a2, if_neg a3, if_neg a4, kstB, hz2, a5, Bool.false_eq_true, if_false]
        · show f' < f + 1
          omega
      | some w2 =>
        obtain ⟨x2, cv2, tx2, rfl, hx2, hch2⟩ := hres
        have hx2' := hx2
        k_unmd
        k_fold
        k_steps
        rename Fr g1 L1 _ _ => F5
        rename News g1 L1 _ _ => N5
        rw [← hY]
        refine ksw_end ((⟨f', st1, k + 1, _, od', kvs', log', nl', items', np', tl ++ tups⟩, .ref x2, cv2, w2.2, tx2) : Cf × Value × Value × Int × Tok) F5 N5 (fun _ hp => hp) ⟨⟨CfOk.grow hc.sub htl, hok', hod', hkvs', hlog', hpile', sub _ mh, sub _ mr⟩, by show f' ≤ f; omega, w2.1, hch2, hrun1⟩
          (List.forall_mem_cons.mpr ⟨rfl, List.forall_mem_cons.mpr ⟨rfl, List.forall_mem_cons.mpr ⟨rfl, List.forall_mem_cons.mpr ⟨rfl, List.forall_mem_nil _⟩⟩⟩⟩) ?_ trivial ?_
        · intro z hz1 hz2
          have a1 : z ≠ Str.ofString "named" := hz1 (Str.ofString "named", _) (.head _)
          have a2 : z ≠ Str.ofString "at" := hz1 (Str.ofString "at", _) (.tail _ (.head _))
          have a3 : z ≠ Str.ofString "chain" := hz1 (Str.ofString "chain", _) (.tail _ (.tail _ (.head _)))
          have a4 : z ≠ Str.ofString "way" := hz1 (Str.ofString "way", _) (.tail _ (.tail _ (.tail _ (.head _))))
          simp only [if_neg a1, if_neg a2, if_neg a3, if_neg a4, kstB, hz2, Bool.false_eq_true, if_false]
        · show f' < f' + 1
          omega
end tried
end
section
theorem rot3 {α : Type} {i a b c : α} {t : List α} : ∀ p ∈ a :: b :: c :: i :: t, p ∈ i :: a :: b :: c :: t := by
  intro p hp
  simp only [List.mem_cons] at hp ⊢
  rcases hp with h | h | h | h | h <;> simp [h]
theorem rot3b {α : Type} {i a b c : α} {tl t : List α} : ∀ p ∈ i :: a :: b :: c :: (tl ++ t), p ∈ a :: b :: c :: (tl ++ (i :: t)) := by
  intro p hp
  simp only [List.mem_cons, List.mem_append] at hp ⊢
  rcases hp with h | h | h | h | h | h <;> simp [h]
theorem LogIn.drop {tl T : List (Addr × Obj)} {it : Addr} {io : Obj} {v : Value} {e : Str × Val} (hio : io.cls ≠ .type "tuple") (h : LogIn (tl ++ (it, io) :: T) v e) : LogIn (tl ++ T) v e := by
  obtain ⟨a, t, v', hv, hm, hr⟩ := h
  refine ⟨a, t, v', hv, ?_, hr⟩
  simp only [List.mem_append, List.mem_cons] at hm ⊢
  rcases hm with h | h | h
  · exact .inl h
  · have := congrArg (fun p => p.2.cls) h
    exact absurd this.symm hio
  · exact .inr h
section matchp
variable {w : World} {mean : ExcName → Option Value} {mg mb : Str → Option Value} {dp un : Nat} {gd : Option (List Code)} {cn : Str} {cs : Scope} {L a : Addr} {ccd : Value} {cl : List (Str × Addr)} {outer : List Env} {A₀ : Around} {base h₀ : Heap} {m : Str → Option Value} {s : Shared} {Q E : Value → Shared → Prop}
  {xh xd xv xl xr nd : Addr} {h1 h2 h3 h4 h5 h6 : Int} {t1 t2 t2' t3 t4 t4' t5 t5' t6 : Tok} {od : Obj} {kvs : List (Str × Value)} {log : List Value} {nl : Nat} {lim k : Int} {tups stat : List (Addr × Obj)} {tb ts : Tok} {subj : Str}
local macro_rules | `(tactic| walk_at "call ref") => `(tactic| ((with_reducible show wpAny _ _ (call (Value.ref 334) _) _ _ _); refine Hold.out ?_))
set_option maxRecDepth 100000 in
set_option maxHeartbeats 8000000 in
theorem tried_i {it : Addr} {io : Obj} {begin : Int} {tb : Tok} (B : Below A₀ base outer h₀) (F : Fr h₀ L s.heap m) (X : (stage.heap_1 w.params).In h₀)
  (N : News h₀ L s.heap ((it, io) :: (xd, hostD h1 h2 h3 h4 h5 h6 t1 t2 t2' t3 t4 t4' t5 t5' t6 xv xr xl lim k) :: (xv, od) :: (xl, listOf log.toArray nl) :: tups))
  (T : Top hd.view_1 (looseW hd.view_1 [Str.ofString "SnobolError", Str.ofString "plain_count"]) mean mg mb h₀)
  (hk : cs.kind = .function) (hr : dp + 60 < recursionLimit) (hu : un + 250 < cLine)
  (hio : io.cls ≠ .type "tuple") (l1 : xd < it ∧ xv < it ∧ xl < it ∧ AllLt it tups) (hok : ∀ p ∈ tups, OkT stat p) (hs1 : ∀ p ∈ stat, p.1 ≠ xd) (hs2 : ∀ p ∈ stat, p.1 ≠ xv) (hs3 : ∀ p ∈ stat, p.1 ≠ xl) (hst : stat ⊆ tups)
  (n12 : @Ne Nat xd xv) (n13 : @Ne Nat xd xl) (n23 : @Ne Nat xv xl)
  (hod : od.IsDictOf (PySem.strKind PySem.Challenge.rw_sj0196_02.row.prog w) kvs) (lov : (xv == sysModules) = false)
  (mh : (xh, instObj 407 xd) ∈ tups) (mr : (xr, listOf #[] 0) ∈ tups) (hsl : subj.length ≤ 100)
  {p : Pat} {st st' : St} {k' : Int} {f : Nat} (hp : PatIn tups nd p) (hkvs : All2 KvIn kvs st.vals) (hlog : All2 (LogIn tups) log st.log)
  (hrun : run subj lim f none { st with pile := [([p], begin)] } k = some (st', k'))
  (hret : ∀ h' tk' tk5 od' kvs' log' nl' tl, Fr h₀ L h' m → News h₀ L h' ((it, io) :: (xd, hostD h1 h2 h3 h4 h5 h6 t1 t2 t2' t3 t4 t4' t5 tk5 t6 xv xr xl lim k') :: (xv, od') :: (xl, listOf (List.toArray log') nl') :: (tl ++ tups)) →
    Tups tl → od'.IsDictOf (PySem.strKind PySem.Challenge.rw_sj0196_02.row.prog w) kvs' → All2 KvIn kvs' st'.vals → All2 (LogIn (tl ++ tups)) log' st'.log → Q .none { s with heap := h', toks := tk' }) :
  wpAny (model PySem.Challenge.rw_sj0196_02.row.prog w) (ktrTop dp un gd cn cs L a ccd cl outer) (call (.ref 334) [.ref nd, .str subj ts, .int begin tb, .ref xh]) Q E s := by
  refine tried_c (stat := (it, io) :: stat) B F X (kst_newsOf N rot3) T hk hr hu ?_ ?_ ?_ ?_ ?_ n12 n13 n23 hod lov (.tail _ mh) (.tail _ mr) hsl (hp.mono fun _ h => .tail _ h) (st := { st with pile := [] }) hkvs (all2_mono (fun _ _ h => h.mono fun _ h => .tail _ h) hlog) rfl hrun ?_
  · exact List.forall_mem_cons.mpr ⟨.inr (.head _), fun p hp => (hok p hp).elim .inl fun h => .inr (.tail _ h)⟩
  · exact List.forall_mem_cons.mpr ⟨Nat.ne_of_gt l1.1, hs1⟩
  · exact List.forall_mem_cons.mpr ⟨Nat.ne_of_gt l1.2.1, hs2⟩
  · exact List.forall_mem_cons.mpr ⟨Nat.ne_of_gt l1.2.2.1, hs3⟩
  · intro p hp
    rcases List.mem_cons.mp hp with e | h
    · rw [e]; exact .head _
    · exact .tail _ (hst h)
  intro h' tk' tk5 od' kvs' log' nl' tl F4 N4 htl hod' hkvs' hlog'
  refine hret h' tk' tk5 od' kvs' log' nl' tl F4 (kst_newsOf N4 rot3b) htl hod' hkvs' ?_
  exact all2_mono (fun _ _ h => h.drop hio) hlog'
set_option maxRecDepth 100000 in
set_option maxHeartbeats 8000000 in
theorem match_c (B : Below A₀ base outer h₀) (F : Fr h₀ L s.heap m) (X : (stage.heap_1 w.params).In h₀)
  (N : News h₀ L s.heap ((xd, hostD h1 h2 h3 h4 h5 h6 t1 t2 t2' t3 t4 t4' t5 t5' t6 xv xr xl lim k) :: (xv, od) :: (xl, listOf log.toArray nl) :: tups))
  (T : Top hd.view_1 (looseW hd.view_1 [Str.ofString "SnobolError", Str.ofString "plain_count"]) mean mg mb h₀)
  (hk : cs.kind = .function) (hr : dp + 70 < recursionLimit) (hu : un + 270 < cLine)
  (hok : ∀ p ∈ tups, OkT stat p) (hs1 : ∀ p ∈ stat, p.1 ≠ xd) (hs2 : ∀ p ∈ stat, p.1 ≠ xv) (hs3 : ∀ p ∈ stat, p.1 ≠ xl) (hst : stat ⊆ tups)
  (n12 : @Ne Nat xd xv) (n13 : @Ne Nat xd xl) (n23 : @Ne Nat xv xl)
  (hod : od.IsDictOf (PySem.strKind PySem.Challenge.rw_sj0196_02.row.prog w) kvs) (lov : (xv == sysModules) = false)
  (mh : (xh, instObj 407 xd) ∈ tups) (mr : (xr, listOf #[] 0) ∈ tups) (hsl : subj.length ≤ 100)
  {p : Pat} {st st' : St} {k' : Int} {f : Nat} (hp : PatIn tups nd p) (hkvs : All2 KvIn kvs st.vals) (hlog : All2 (LogIn tups) log st.log)
  (hrun : run subj lim f none { st with pile := [([p], 0)] } k = some (st', k'))
  (hret : ∀ h' tk' tk5 od' kvs' log' nl' tl, Fr h₀ L h' m → News h₀ L h' ((xd, hostD h1 h2 h3 h4 h5 h6 t1 t2 t2' t3 t4 t4' t5 tk5 t6 xv xr xl lim k') :: (xv, od') :: (xl, listOf (List.toArray log') nl') :: (tl ++ tups)) →
    Tups tl → od'.IsDictOf (PySem.strKind PySem.Challenge.rw_sj0196_02.row.prog w) kvs' → All2 KvIn kvs' st'.vals → All2 (LogIn (tl ++ tups)) log' st'.log → Q .none { s with heap := h', toks := tk' }) :
  wpAny (model PySem.Challenge.rw_sj0196_02.row.prog w) (ktrTop dp un gd cn cs L a ccd cl outer) (call (.ref 320) [.ref nd, .str subj ts, .bool true, .ref xh]) Q E s := by
  revert X; k_fill; intro X
  k_steps
  unfold Hold
  rename Fr _ _ _ _ => F1
  rename News _ _ _ _ => N1
  rename Below _ _ _ _ => B1
  rename Frag.In _ _ => X1
  rename Top _ _ _ _ _ _ => T1
  rename (_ : Nat) < _ ∧ _ < _ ∧ _ < _ ∧ AllLt _ tups => l1
  k_dflt (refine tried_i B1 F1 X1 N1 T1 rfl (by k_room) (by ktr_units) (by intro e; exact absurd (Value.type.inj e) (by decide)) l1 hok hs1 hs2 hs3 hst n12 n13 n23 hod lov mh mr hsl hp hkvs hlog hrun ?_)
  clear N1 F1
  intro h' tk' tk5 od' kvs' log' nl' tl F4 N5 htl hod' hkvs' hlog'
  k_unmd
  k_fold
  k_steps
  rename Fr _ _ _ _ => F6
  rename News _ _ _ _ => N6
  have hok6 : ∀ p ∈ tl ++ tups, OkT stat p := fun p hp => (List.mem_append.mp hp).elim (fun h => .inl (htl p h)) (hok p)
  have hq6 := sepT N6 (.head _) rfl (by decide) (fun p hp => .tail _ (.tail _ (.tail _ (.tail _ hp)))) hok6 (fun p hp => Nat.ne_of_lt (allLt_mem l1.2.2.2 p (hst hp)))
  refine UnrEnd.intro F6 N6 _ (fun _ h => h) (List.forall_mem_cons.mpr ⟨Nat.ne_of_lt l1.1, List.forall_mem_cons.mpr ⟨Nat.ne_of_lt l1.2.1, List.forall_mem_cons.mpr ⟨Nat.ne_of_lt l1.2.2.1, hq6⟩⟩⟩) ?_
  k_steps
  rename Fr h₀ L _ _ => F7
  rename News h₀ L _ _ => N7
  exact hret _ _ _ _ _ _ _ tl F7 N7 htl hod' hkvs' hlog'
end matchp
end
section
/-! a comprehension over a list of pairs, with one test: its turns one by one over the ledger -/
section comppt
open LCg
variable {prog : Program} {w : World} {A : Around} {E : Value → Shared → Prop} {s : Shared} {h₀ : Heap} {L : Addr} {m : Str → Option Value} {env : Env}
def PtRest (prog : Program) (w : World) (A : Around) (h₀ : Heap) (L : Addr) (m : Str → Option Value) (env : Env) (ct elt : PySem.Expr) (x y : Str) (scope : Scope) (cl : List (Str × Addr)) (s : Shared) (src : Addr × Obj)
    (Fin : List Value → List (Addr × Obj) → Prop) : List Value → List Value → List (Addr × Obj) → Prop
  | [], ys, news => Fin ys news
  | v :: r, ys, news => ∃ t v₁ v₂, v = .ref t ∧ (t, tupObj [v₁, v₂]) ∈ news ∧
      ∀ I oI C oC D m₂ h tk (E' : Value → Shared → Prop), NsObj oC m₂ → m₂ x = some v₁ → m₂ y = some v₂ → Fr h₀ L h m → News h₀ L h ((I, oI) :: (C, oC) :: (D, lst ys) :: news) → (∀ p ∈ news, p.1 ≠ I ∧ p.1 ≠ C ∧ p.1 ≠ D) → (@Ne Nat I C ∧ @Ne Nat I D ∧ @Ne Nat C D) →
      wpAny (model prog w) A (isTrue ct (compEnvC scope cl C env) (eval ct (compEnvC scope cl C env))) (fun ok s₃ => if ok = true then
        wpAny (model prog w) A (eval elt (compEnvC scope cl C env)) (CompEnd h₀ L m { s with heap := h, toks := tk } I oI C oC D (lst ys) (fun nw => src ∈ nw) (fun z news' => PtRest prog w A h₀ L m env ct elt x y scope cl s src Fin r (ys ++ [z]) news')) E' s₃
        else CompEnd h₀ L m { s with heap := h, toks := tk } I oI C oC D (lst ys) (fun nw => src ∈ nw) (fun _ news' => PtRest prog w A h₀ L m env ct elt x y scope cl s src Fin r ys news') .none s₃) E' { s with heap := h, toks := tk }

theorem pt_loop {elt iter ct : PySem.Expr} {x y : Str} {px py tp : Pos} {kk : Nat} {scope : Scope} {cl : List (Str × Addr)} {pos : Pos} {s₂ : Shared} {I C D ax : Addr} {vs : List Value} {ka : Nat} {news : List (Addr × Obj)} {m₁ : Str → Option Value}
    {Fin : List Value → List (Addr × Obj) → Prop} {R : Result → Shared → Prop} (hh : A.handled = none) (hsz : vs.length ≤ sizeLine)
    (hkind : scope.kind = .function) (hx : scope.names.lookup x = some .local) (hy : scope.names.lookup y = some .local) (hxy : x ≠ y)
    (hI0 : h₀.get? I = none) (hC0 : h₀.get? C = none) (hD0 : h₀.get? D = none) (hIL : I ≠ L) (hCL : C ≠ L) (hDL : D ≠ L) (hIC : I ≠ C) (hID : I ≠ D) (hCD : C ≠ D)
    (F : Fr h₀ L s₂.heap m) (hit : s₂.heap.IsListIter I ax 0) (hn : s₂.heap.Ns C m₁) (N : News h₀ L s₂.heap ((D, lst []) :: news)) (off : ∀ p ∈ news, p.1 ≠ I ∧ p.1 ≠ C ∧ p.1 ≠ D) (hS : (ax, listOf vs.toArray ka) ∈ news)
    (hR0 : PtRest prog w A h₀ L m env ct elt x y scope cl s₂ (ax, listOf vs.toArray ka) Fin vs [] news)
    (hend : ∀ h tk m' ys news', Fr h₀ L h m → News h₀ L h ((D, lst ys) :: news') → (∀ p ∈ news', p.1 ≠ C ∧ p.1 ≠ D) → h.Ns C m' → Fin ys news' → R (.ok .next) { s₂ with heap := h, toks := tk }) :
    codeAny (model prog w) A (.compLoop (.ListComp elt [⟨.Tuple [.Name x px, .Name y py] kk tp, iter, [ct], 0⟩] scope pos) 0 (.ref I) (.ref D) (compEnvC scope cl C env)) R s₂ := by
  refine kct_loop (fun k s' => ∃ h tk i ys m' news', s' = { s₂ with heap := h, toks := tk } ∧ i ≤ vs.length ∧ k = vs.length + 1 - i ∧ ys.length ≤ i ∧ h.IsListIter I ax i ∧ Fr h₀ L h m ∧ h.Ns C m' ∧ News h₀ L h ((D, lst ys) :: news') ∧
      (∀ p ∈ news', p.1 ≠ I ∧ p.1 ≠ C ∧ p.1 ≠ D) ∧ (ax, listOf vs.toArray ka) ∈ news' ∧ PtRest prog w A h₀ L m env ct elt x y scope cl s₂ (ax, listOf vs.toArray ka) Fin (vs.drop i) ys news') ?_ (vs.length + 1)
    ⟨s₂.heap, s₂.toks, 0, [], m₁, news, rfl, Nat.zero_le _, rfl, Nat.le_refl _, hit, F, hn, N, off, hS, hR0⟩
  rintro k s' ⟨h, tk, i, ys, m', news', rfl, hi, rfl, hyl, hit', F', hn', N', off', hS', R'⟩
  have hl : h.IsList ax vs.toArray := News.isList N' (.tail _ hS')
  by_cases hlt : i < vs.length
  · obtain ⟨v, hv⟩ : ∃ v, vs[i]? = some v := ⟨vs[i], List.getElem?_eq_getElem hlt⟩
    have hdrop : vs.drop i = v :: vs.drop (i + 1) := by
      rw [List.drop_eq_getElem_cons hlt]
      have := List.getElem?_eq_getElem hlt
      rw [hv] at this
      rw [Option.some.inj this]
    rw [hdrop] at R'
    obtain ⟨t, v₁, v₂, rfl, hmt, R''⟩ := R'
    refine wpAny_pyNext_list_item hit' hl (x := .ref t) (by simpa using hv) fun h1 hit1 hs1 => ?_
    have F1 : Fr h₀ L h1 m := F'.change hs1 hIL hI0
    have N1 : News h₀ L h1 ((D, lst ys) :: news') := fun p hp => by
      refine ⟨(hs1.2 p.1 ?_).trans (N' p hp).1, (N' p hp).2⟩
      rcases List.mem_cons.mp hp with rfl | hp
      · exact Ne.symm hID
      · exact (off' p hp).1
    refine wpAny_letOwnedTupleGo_listiter hit1 ?_
    refine assign_Tuple_tuple hh (News.isTup N1 (.tail _ hmt)) rfl rfl fun h2 he => ?_
    have he' : ∀ b o, h1.get? b = some o → h2.get? b = some o := fun b o e => he b o (Nat.ne_of_lt (Heap.lt_size e)) e
    have hn2 : h2.Ns C m' := (hn'.sameBut hs1 (Ne.symm hIC)).at' fun o e => he' _ o e
    refine assignInOrder_cons (wpAny_assign_Name (wpAny_storeName_local (lookup_relabel_local hx) hn2 (fun h3 hn3 hs3 => ?_) (by simp [compEnvC, relabel, hkind])))
    refine assignInOrder_cons (wpAny_assign_Name (wpAny_storeName_local (lookup_relabel_local hy) hn3 (fun h4 hn4 hs4 => ?_) (by simp [compEnvC, relabel, hkind])))
    refine assignInOrder_nil ?_
    have up : ∀ b o, b ≠ C → h1.get? b = some o → h4.get? b = some o := fun b o hb e => hs4.extBut b o hb (hs3.extBut b o hb (he' b o e))
    obtain ⟨oI, heI, hcI, hdI⟩ := hit1
    obtain ⟨oC, heC, hoC⟩ := ns_obj hn4
    have F4 : Fr h₀ L h4 m := ((F1.keeps he').change hs3 hCL hC0).change hs4 hCL hC0
    have N4 : News h₀ L h4 ((I, oI) :: (C, oC) :: (D, lst ys) :: news') := fun p hp => by
      rcases List.mem_cons.mp hp with rfl | hp
      · exact ⟨up _ _ hIC heI, hIL, hI0⟩
      rcases List.mem_cons.mp hp with rfl | hp
      · exact ⟨heC, hCL, hC0⟩
      refine ⟨up _ _ ?_ (N1 p hp).1, (N1 p hp).2⟩
      rcases List.mem_cons.mp hp with rfl | hp
      · exact Ne.symm hCD
      · exact (off' p hp).2.1
    have after : ∀ h5 nw, News h₀ L h5 ((I, oI) :: (C, oC) :: (D, lst ys) :: nw) → h5.IsListIter I ax (i + 1) ∧ h5.Ns C (fun z => if z = y then some v₂ else if z = x then some v₁ else m' z) := fun h5 nw N5 =>
      ⟨⟨oI, (N5 _ (.head _)).1, hcI, hdI⟩, hoC.ns (N5 _ (.tail _ (.head _))).1⟩
    refine wpAny_mono (R'' I oI C oC D _ h4 _ _ hoC (by simp [hxy]) (by simp) F4 N4 off' ⟨hIC, hID, hCD⟩) (fun ok s₅ h₅ => ?_) fun _ _ e => e
    cases ok with
    | true =>
      simp only [if_true] at h₅ ⊢
      refine wpAny_mono h₅ (fun z s₆ h₆ => ?_) fun _ _ e => e
      obtain ⟨h6, tk6, news6, rfl, F6, N6, off6, hS6, R6⟩ := h₆
      obtain ⟨hit6, hn6⟩ := after h6 news6 N6
      have off6' := off6.mem
      refine append_at (hsz := by show ys.toArray.size ≤ sizeLine; rw [List.size_toArray]; exact Nat.le_trans hyl (Nat.le_trans hi hsz)) (N6 _ (.tail _ (.tail _ (.head _)))).1 fun h7 hs7 hD7 => ?_
      refine ⟨vs.length + 1 - (i + 1), by omega, h7, tk6, i + 1, ys ++ [z], _, news6, rfl, hlt, rfl, by rw [List.length_append, List.length_singleton]; exact Nat.succ_le_succ hyl, ?_, F6.change hs7 hDL hD0, hn6.sameBut hs7 hCD, fun p hp => ?_, off6', hS6, R6⟩
      · obtain ⟨o, ho, r⟩ := hit6
        exact ⟨o, hs7.extBut _ _ hID ho, r⟩
      · rcases List.mem_cons.mp hp with rfl | hp
        · exact ⟨hD7.trans (congrArg some (lst_snoc ys z)), hDL, hD0⟩
        · have z6 := N6 p (.tail _ (.tail _ (.tail _ hp)))
          exact ⟨hs7.extBut _ _ (off6' p hp).2.2 z6.1, z6.2⟩
    | false =>
      simp only [Bool.false_eq_true, if_false] at h₅ ⊢
      obtain ⟨h6, tk6, news6, rfl, F6, N6, off6, hS6, R6⟩ := h₅
      obtain ⟨hit6, hn6⟩ := after h6 news6 N6
      exact ⟨vs.length + 1 - (i + 1), by omega, h6, tk6, i + 1, ys, _, news6, rfl, hlt, rfl, Nat.le_succ_of_le hyl, hit6, F6, hn6, fun p hp => N6 p (.tail _ (.tail _ hp)), off6.mem, hS6, R6⟩
  · obtain rfl : i = vs.length := Nat.le_antisymm hi (Nat.not_lt.mp hlt)
    rw [List.drop_length] at R'
    refine wpAny_pyNext_list_end hh hit' hl (by simp) fun h1 hx1 => ?_
    refine hend h1 _ m' ys news' ⟨F'.ns.at' fun o e => hx1 _ o (Ne.symm hIL) e, fun b o e => hx1 b o (fun q => by rw [q, hI0] at e; cases e) (F'.keep b o e), F'.above⟩ (fun p hp => ⟨hx1 _ _ ?_ (N' p hp).1, (N' p hp).2⟩) (fun p hp => ⟨(off' p hp).2.1, (off' p hp).2.2⟩) (hn'.at' fun o e => hx1 _ o (Ne.symm hIC) e) R'
    rcases List.mem_cons.mp hp with rfl | hp
    · exact Ne.symm hID
    · exact (off' p hp).1
theorem pt_block {elt iter ct : PySem.Expr} {x y : Str} {px py tp : Pos} {kk : Nat} {scope : Scope} {cl : List (Str × Addr)} {pos : Pos} {ax : Addr} {vs : List Value} {ka : Nat} {news : List (Addr × Obj)}
    {Fin : Shared → List Value → List (Addr × Obj) → Prop} {RR : Value → Addr → Result → Shared → Prop} (hh : A.handled = none) (hsz : vs.length ≤ sizeLine)
    (hcell : ∀ z ∈ scope.names, z.2 ≠ .cell) (hkind : scope.kind = .function) (hx : scope.names.lookup x = some .local) (hy : scope.names.lookup y = some .local) (hxy : x ≠ y)
    (F : Fr h₀ L s.heap m) (N : News h₀ L s.heap news) (hS : (ax, listOf vs.toArray ka) ∈ news)
    (hR0 : ∀ g tk, PtRest prog w A h₀ L m env ct elt x y scope cl { s with heap := g, toks := tk } (ax, listOf vs.toArray ka) (Fin { s with heap := g, toks := tk }) vs [] news)
    (hRR : ∀ g gt D C h tk m' ys news', Fr h₀ L h m → News h₀ L h ((D, lst ys) :: news') → (∀ p ∈ news', p.1 ≠ C ∧ p.1 ≠ D) → h.Ns C m' → h₀.get? C = none → C ≠ L → D ≠ L → C ≠ D → Fin { s with heap := g, toks := gt } ys news' → RR (.ref D) C (.ok .next) { s with heap := h, toks := tk }) :
    wpAny (model prog w) A (pyIter (.ref ax)) (fun it s₂ => wpAny (model prog w) A (newList []) (fun acc s₃ => wpAny (model prog w) A (newFunctionEnv scope env.globals cl [] env.qual none .none (some env)) (fun cenv s₄ =>
      codeAny (model prog w) A (.compStart (.ListComp elt [⟨.Tuple [.Name x px, .Name y py] kk tp, iter, [ct], 0⟩] scope pos) 0 it acc { cenv with scope := relabel scope env }) (RR acc cenv.locals) s₄) E s₃) E s₂) E s := by
  have hl : s.heap.IsList ax vs.toArray := News.isList N hS
  refine wpAny_pyIter_list hl ?_
  refine wpAny_newObj_type (wpAny_newFunctionEnv hcell (by intro y hy; simp at hy) (fun h₁ hns₁ hsb₁ => ?_) hkind)
  dsimp only at hns₁ hsb₁ ⊢
  generalize hH1 : s.heap.push { cls := .type "list_iterator", data := .fields #[.ref ax, .int 0 0] } = H1 at hns₁ hsb₁ ⊢
  generalize hH2 : H1.push { cls := .type "list", dict := none, data := .seq ([] : List Value).toArray } = H2 at hns₁ hsb₁ ⊢
  have e1 : H1.objs.size = s.heap.objs.size + 1 := by rw [← hH1, Heap.size_push]
  have e2 : H2.objs.size = s.heap.objs.size + 2 := by rw [← hH2, Heap.size_push, e1]
  have up1 : ∀ b o, s.heap.get? b = some o → H1.get? b = some o := fun b o e => hH1 ▸ Heap.get?_push_of_some _ e
  have up2 : ∀ b o, H1.get? b = some o → H2.get? b = some o := fun b o e => hH2 ▸ Heap.get?_push_of_some _ e
  have up3 : ∀ b o, H2.get? b = some o → h₁.get? b = some o := fun b o e => hsb₁.extBut b o (Nat.ne_of_lt (Heap.lt_size e)) (Heap.get?_push_of_some _ e)
  have up : ∀ b o, s.heap.get? b = some o → h₁.get? b = some o := fun b o e => up3 b o (up2 b o (up1 b o e))
  have hI : h₁.get? s.heap.objs.size = some { cls := .type "list_iterator", data := .fields #[.ref ax, .int 0 0] } := up3 _ _ (up2 _ _ (hH1 ▸ Heap.get?_push_size _ rfl))
  have hD : h₁.get? H1.objs.size = some (lst []) := up3 _ _ (hH2 ▸ Heap.get?_push_size _ rfl)
  have fresh0 : ∀ a, s.heap.objs.size ≤ a → h₀.get? a = none := fun a ha => by
    cases e : h₀.get? a with
    | none => rfl
    | some o' => exact absurd (Heap.lt_size (F.keep a o' e)) (Nat.not_lt.mpr ha)
  have hLlt : L < s.heap.objs.size := F.ns.lt
  have below : ∀ b, b < s.heap.objs.size → b ≠ s.heap.objs.size ∧ b ≠ H2.objs.size ∧ b ≠ H1.objs.size := fun b hb => ⟨Nat.ne_of_lt hb, by rw [e2]; exact Nat.ne_of_lt (Nat.lt_succ_of_lt (Nat.lt_succ_of_lt hb)), by rw [e1]; exact Nat.ne_of_lt (Nat.lt_succ_of_lt hb)⟩
  have hD0 := fresh0 H1.objs.size (by rw [e1]; exact Nat.le_succ _)
  have hC0 := fresh0 H2.objs.size (by rw [e2]; exact Nat.le_succ_of_le (Nat.le_succ _))
  have hIC : s.heap.objs.size ≠ H2.objs.size := by rw [e2]; exact Nat.ne_of_lt (Nat.lt_succ_of_lt (Nat.lt_succ_self _))
  have hID : s.heap.objs.size ≠ H1.objs.size := by rw [e1]; exact Nat.ne_of_lt (Nat.lt_succ_self _)
  have hCD : H2.objs.size ≠ H1.objs.size := by rw [e1, e2]; exact Nat.ne_of_gt (Nat.lt_succ_self _)
  have off : ∀ p ∈ news, p.1 ≠ s.heap.objs.size ∧ p.1 ≠ H2.objs.size ∧ p.1 ≠ H1.objs.size := fun p hp => below _ (Heap.lt_size (N p hp).1)
  have hN1 : News h₀ L h₁ ((H1.objs.size, lst []) :: news) := by
    intro p hp
    rcases List.mem_cons.mp hp with rfl | hp
    · exact ⟨hD, Ne.symm (below L hLlt).2.2, hD0⟩
    · exact ⟨up _ _ (N p hp).1, (N p hp).2⟩
  have loop : ∀ s₃ : Shared, s₃ = ({ s with heap := h₁, toks := s.toks + ([] : List (Str × Value)).length } : Shared) →
      codeAny (model prog w) A (.compLoop (.ListComp elt [⟨.Tuple [.Name x px, .Name y py] kk tp, iter, [ct], 0⟩] scope pos) 0 (.ref s.heap.objs.size) (.ref H1.objs.size) (compEnvC scope cl H2.objs.size env)) (RR (.ref H1.objs.size) H2.objs.size) s₃ := by
    rintro s₃ rfl
    refine pt_loop (Fin := Fin { s with heap := h₁, toks := s.toks + ([] : List (Str × Value)).length }) hh hsz hkind hx hy hxy (fresh0 _ (Nat.le_refl _)) hC0 hD0 (Ne.symm (below L hLlt).1) (Ne.symm (below L hLlt).2.1) (Ne.symm (below L hLlt).2.2) hIC hID hCD
      (F.keeps up) ⟨_, hI, rfl, rfl⟩ hns₁ hN1 off hS (hR0 _ _) ?_
    intro h tk m' ys news' F' N' o' hn fin
    exact hRR _ _ _ _ h tk m' ys news' F' N' o' hn hC0 (Ne.symm (below L hLlt).2.1) (Ne.symm (below L hLlt).2.2) hCD fin
  exact codeAny_compStart_list (loop _ rfl) (wpAny_pyIter_listiter ⟨_, hI, rfl, rfl⟩ (loop _ rfl))

def FinE2 (h₀ : Heap) (L : Addr) (m : Str → Option Value) (Q : Value → Shared → Prop) (s : Shared) (ys : List Value) (news : List (Addr × Obj)) : Prop :=
  ∀ D h tk, Fr h₀ L h m → News h₀ L h ((D, lst ys) :: news) → (∀ p ∈ news, p.1 ≠ D) → Q (.ref D) { s with heap := h, toks := tk }
def FinA2 (h₀ : Heap) (L : Addr) (m : Str → Option Value) (z : Str) (Q : Flow → Shared → Prop) (s : Shared) (ys : List Value) (news : List (Addr × Obj)) : Prop :=
  ∀ D h tk, Fr h₀ L h (fun u => if u = z then some (.ref D) else m u) → News h₀ L h ((D, lst ys) :: news) → (∀ p ∈ news, p.1 ≠ D) → Q .next { s with heap := h, toks := tk }

theorem ListComp_PT {elt iter ct : PySem.Expr} {x y : Str} {px py tp : Pos} {kk : Nat} {scope : Scope} {cl : List (Str × Addr)} {pos : Pos} {Q : Value → Shared → Prop} (_F₀ : Fr h₀ L s.heap m) (hh : A.handled = none)
    (hclos : closureFor scope env = pure cl) (hcell : ∀ z ∈ scope.names, z.2 ≠ .cell) (hkind : scope.kind = .function)
    (hnames : ∀ z ∈ scope.names, z.2 = .local → scope.names.lookup z.1 = some .local) (hx : scope.names.lookup x = some .local) (hy : scope.names.lookup y = some .local) (hxy : x ≠ y)
    (h : wpAny (model prog w) A (eval iter env) (fun xv s₁ => ∃ ax vs ka news, xv = .ref ax ∧ vs.length ≤ sizeLine ∧ Fr h₀ L s₁.heap m ∧ News h₀ L s₁.heap news ∧ (ax, listOf (List.toArray vs) ka) ∈ news ∧
      ∀ g tk, PtRest prog w A h₀ L m env ct elt x y scope cl { s₁ with heap := g, toks := tk } (ax, listOf vs.toArray ka) (FinE2 h₀ L m Q { s₁ with heap := g, toks := tk }) vs [] news) E s)
    (hs : ∀ x, foldedSetIterable iter env x = pure x := by intro _; rfl) :
    wpAny (model prog w) A (eval (.ListComp elt [⟨.Tuple [.Name x px, .Name y py] kk tp, iter, [ct], 0⟩] scope pos) env) Q E s := by
  rw [eval_ListComp]
  refine wpAny_comprehension_free (use := none) rfl hs hclos hkind hnames (wpAny_mono h (fun xv s₁ h₁ => ?_) fun _ _ e => e)
  obtain ⟨ax, vs, ka, news, rfl, hsz, F, N, hS, hR0⟩ := h₁
  refine pt_block hh hsz hcell hkind hx hy hxy F N hS hR0 ?_
  intro g gt D C h tk m' ys news' F' N' o' hn hC0 hCL hDL hCD fin
  refine ⟨m', hn, fun h2 hs2 => fin D h2 tk (F'.change hs2 hCL hC0) (fun p hp => ⟨hs2.extBut _ _ ?_ (N' p hp).1, (N' p hp).2⟩) fun p hp => (o' p hp).2⟩
  rcases List.mem_cons.mp hp with rfl | hp
  · exact Ne.symm hCD
  · exact (o' p hp).1

theorem Assign_ListComp_PT {elt iter ct : PySem.Expr} {x y z : Str} {px py pz tp : Pos} {kk : Nat} {scope : Scope} {cl : List (Str × Addr)} {pos spos : Pos} {Q : Flow → Shared → Prop} (_F₀ : Fr h₀ L s.heap m) (hh : A.handled = none) (hLe : env.locals = L)
    (hsw : swapsWith (.ListComp elt [⟨.Tuple [.Name x px, .Name y py] kk tp, iter, [ct], 0⟩] scope pos) (some (.Name z pz)) spos.line env = pure true)
    (hclos : closureFor scope env = pure cl) (hcell : ∀ u ∈ scope.names, u.2 ≠ .cell) (hkind : scope.kind = .function)
    (hnames : ∀ u ∈ scope.names, u.2 = .local → scope.names.lookup u.1 = some .local) (hx : scope.names.lookup x = some .local) (hy : scope.names.lookup y = some .local) (hxy : x ≠ y)
    (hz : env.kindOf z = some .local) (hp : (env.scope.kind == .class || (env.scope.kind == .module && env.locals != env.globals)) = false)
    (h : wpAny (model prog w) A (eval iter env) (fun xv s₁ => ∃ ax vs ka news, xv = .ref ax ∧ vs.length ≤ sizeLine ∧ Fr h₀ L s₁.heap m ∧ News h₀ L s₁.heap news ∧ (ax, listOf (List.toArray vs) ka) ∈ news ∧
      ∀ g tk, PtRest prog w A h₀ L m env ct elt x y scope cl { s₁ with heap := g, toks := tk } (ax, listOf vs.toArray ka) (FinA2 h₀ L m z Q { s₁ with heap := g, toks := tk }) vs [] news) E s)
    (hs : ∀ x, foldedSetIterable iter env x = pure x := by intro _; rfl) :
    wpAny (model prog w) A (exec (.Assign [.Name z pz] (.ListComp elt [⟨.Tuple [.Name x px, .Name y py] kk tp, iter, [ct], 0⟩] scope pos) spos) env) Q E s := by
  subst hLe
  rw [exec_Assign_Name_used _ _ _ _ hsw]
  refine wpAny_bind (wpAny_standAt (wpAny_bind ?_))
  show wpAny _ A (do let _ ← comprehension (.ListComp elt [⟨.Tuple [.Name x px, .Name y py] kk tp, iter, [ct], 0⟩] scope pos) scope env _ (newList []) false (eval iter env) (some (assign (.Name z pz) env))) _ _ s
  refine wpAny_bind (wpAny_mono (wpAny_comprehension_free (use := some (assign (.Name z pz) env)) (Q := fun _ s' => Q .next s') rfl hs hclos hkind hnames
    (wpAny_mono h (fun xv s₁ h₁ => ?_) fun _ _ e => e)) (fun _ s' hq => wpAny_pure (wpAny_pure hq)) fun _ _ e => e)
  obtain ⟨ax, vs, ka, news, rfl, hsz, F, N, hS, hR0⟩ := h₁
  refine pt_block hh hsz hcell hkind hx hy hxy F N hS hR0 ?_
  intro g gt D C h tk m' ys news' F' N' o' hn hC0 hCL hDL hCD fin
  show wpAny _ A (assign (.Name z pz) env (.ref D)) _ _ _
  refine wpAny_assign_Name (wpAny_storeName_local hz F'.ns (fun h2 hn2 hs2 => ?_) hp)
  have F2 := F'.set hn2 hs2
  refine ⟨m', hn.sameBut hs2 hCL, fun h3 hs3 => fin D h3 _ (F2.change hs3 hCL hC0) (fun p hp => ?_) fun p hp => (o' p hp).2⟩
  have q : h2.get? p.1 = some p.2 := hs2.extBut _ _ (N' p hp).2.1 (N' p hp).1
  refine ⟨hs3.extBut _ _ ?_ q, (N' p hp).2⟩
  rcases List.mem_cons.mp hp with rfl | hp
  · exact Ne.symm hCD
  · exact (o' p hp).1
end comppt
/-! a comprehension over a text's signs, bound to a name -/
section comps
open LCg
variable {prog : Program} {w : World} {A : Around} {E : Value → Shared → Prop} {s : Shared} {h₀ : Heap} {L : Addr} {m : Str → Option Value} {env : Env}
theorem Assign_ListComp_S {elt iter : PySem.Expr} {x y : Str} {px py : Pos} {scope : Scope} {cl : List (Str × Addr)} {pos spos : Pos} {Q : Flow → Shared → Prop} (_F₀ : Fr h₀ L s.heap m) (hh : A.handled = none) (hLe : env.locals = L)
    (hsw : swapsWith (.ListComp elt [⟨.Name x px, iter, [], 0⟩] scope pos) (some (.Name y py)) spos.line env = pure true)
    (hclos : closureFor scope env = pure cl) (hcell : ∀ z ∈ scope.names, z.2 ≠ .cell) (hkind : scope.kind = .function)
    (hnames : ∀ z ∈ scope.names, z.2 = .local → scope.names.lookup z.1 = some .local) (hx : scope.names.lookup x = some .local)
    (hy : env.kindOf y = some .local) (hp : (env.scope.kind == .class || (env.scope.kind == .module && env.locals != env.globals)) = false)
    (h : wpAny (model prog w) A (eval iter env) (fun xv s₁ => ∃ tx t news, xv = .str tx t ∧ (tx.cps.all (· < 128)) = true ∧ tx.cps.size ≤ sizeLine ∧ Fr h₀ L s₁.heap m ∧ News h₀ L s₁.heap news ∧
      ∀ g, CompRest prog w A h₀ L m env elt x scope cl { s₁ with heap := g } (fun _ => True) (SignAt tx) (FinA h₀ L m { s₁ with heap := g } y Q) tx.cps.size 0 [] news) E s)
    (hs : ∀ x, foldedSetIterable iter env x = pure x := by intro _; rfl) :
    wpAny (model prog w) A (exec (.Assign [.Name y py] (.ListComp elt [⟨.Name x px, iter, [], 0⟩] scope pos) spos) env) Q E s := by
  subst hLe
  rw [exec_Assign_Name_used _ _ _ _ hsw]
  refine wpAny_bind (wpAny_standAt (wpAny_bind ?_))
  show wpAny _ A (do let _ ← comprehension (.ListComp elt [⟨.Name x px, iter, [], 0⟩] scope pos) scope env _ (newList []) false (eval iter env) (some (assign (.Name y py) env))) _ _ s
  refine wpAny_bind (wpAny_mono (wpAny_comprehension_free (use := some (assign (.Name y py) env)) (Q := fun _ s' => Q .next s') rfl hs hclos hkind hnames
    (wpAny_mono h (fun xv s₁ h₁ => ?_) fun _ _ e => e)) (fun _ s' hq => wpAny_pure (wpAny_pure hq)) fun _ _ e => e)
  obtain ⟨tx, t, news, rfl, hasc, hsz, F, N, R⟩ := h₁
  refine wpAny_pyIter_ascii hasc ?_
  have W := Walks.strAscii (prog := prog) (w := w) hh s₁.heap.objs.size tx t
  refine block_U W hsz (fun i h st => ⟨st.choose, st.choose_spec.1⟩) (fun i h h' o nw st e e' _ _ _ => W.frame i h h' st fun b hb o' eo => ?_) hcell hkind hx ⟨_, Heap.get?_push_size _ rfl, rfl, rfl⟩ (fun b hb => ?_)
    (F.push _) (fun p hp => ⟨Heap.get?_push_of_some _ (N p hp).1, (N p hp).2⟩) (Nat.ne_of_lt F.ns.lt) (next_is_new F) (fun p hp => Nat.ne_of_lt (Heap.lt_size (N p hp).1)) trivial (R _) ?_
  · rw [List.mem_singleton.mp hb] at eo ⊢
    rw [eo] at e
    cases e
    exact e'
  · rw [List.mem_singleton.mp hb]
    show s₁.heap.objs.size < (s₁.heap.push _).objs.size
    rw [Heap.size_push]; exact Nat.lt_succ_self _
  intro D C h tk m' ys news' F' N' o1 hn hC0 hD0 hCL hDL hCD offC fin
  show wpAny _ A (assign (.Name y py) env (.ref D)) _ _ _
  refine wpAny_assign_Name (wpAny_storeName_local hy F'.ns (fun h2 hn2 hs2 => ?_) hp)
  have F2 := F'.set hn2 hs2
  refine ⟨m', hn.sameBut hs2 hCL, fun h3 hs3 => fin D h3 _ (F2.change hs3 hCL hC0) (fun p hp => ?_) o1⟩
  have q : h2.get? p.1 = some p.2 := hs2.extBut _ _ (N' p hp).2.1 (N' p hp).1
  refine ⟨hs3.extBut _ _ ?_ q, (N' p hp).2⟩
  rcases List.mem_cons.mp hp with rfl | hp
  · exact Ne.symm hCD
  · exact offC p hp
end comps
/-! loops and comprehensions by a word that holds between the turns -/
section inv
open LCg
variable {prog : Program} {w : World} {A : Around} {E : Value → Shared → Prop} {s : Shared} {h₀ : Heap} {L : Addr} {m : Str → Option Value} {env : Env}
theorem PtRest.inv {ct elt : PySem.Expr} {x y : Str} {scope : Scope} {cl : List (Str × Addr)} {src : Addr × Obj} {Fin : List Value → List (Addr × Obj) → Prop} (J : List Value → List Value → List (Addr × Obj) → Prop) {vs : List Value} {news : List (Addr × Obj)}
    (turn : ∀ pre v post ys nw, vs = pre ++ v :: post → J pre ys nw → ∃ t v₁ v₂, v = .ref t ∧ (t, tupObj [v₁, v₂]) ∈ nw ∧
      ∀ I oI C oC D m₂ h tk (E' : Value → Shared → Prop), NsObj oC m₂ → m₂ x = some v₁ → m₂ y = some v₂ → Fr h₀ L h m → News h₀ L h ((I, oI) :: (C, oC) :: (D, lst ys) :: nw) → (∀ p ∈ nw, p.1 ≠ I ∧ p.1 ≠ C ∧ p.1 ≠ D) → (@Ne Nat I C ∧ @Ne Nat I D ∧ @Ne Nat C D) →
      wpAny (model prog w) A (isTrue ct (compEnvC scope cl C env) (eval ct (compEnvC scope cl C env))) (fun ok s₃ => if ok = true then
        wpAny (model prog w) A (eval elt (compEnvC scope cl C env)) (CompEnd h₀ L m { s with heap := h, toks := tk } I oI C oC D (lst ys) (fun nw => src ∈ nw) (fun z news' => J (pre ++ [v]) (ys ++ [z]) news')) E' s₃
        else CompEnd h₀ L m { s with heap := h, toks := tk } I oI C oC D (lst ys) (fun nw => src ∈ nw) (fun _ news' => J (pre ++ [v]) ys news') .none s₃) E' { s with heap := h, toks := tk })
    (fin : ∀ ys nw, J vs ys nw → Fin ys nw) (start : J [] [] news) : PtRest prog w A h₀ L m env ct elt x y scope cl s src Fin vs [] news := by
  have key : ∀ post pre ys nw, vs = pre ++ post → J pre ys nw → PtRest prog w A h₀ L m env ct elt x y scope cl s src Fin post ys nw := by
    intro post
    induction post with
    | nil =>
      intro pre ys nw e j
      rw [List.append_nil] at e
      subst e
      exact fin ys nw j
    | cons v post ih =>
      intro pre ys nw e j
      obtain ⟨t, v₁, v₂, e1, hm, step⟩ := turn pre v post ys nw e j
      have e2 : vs = (pre ++ [v]) ++ post := by rw [e]; simp
      have up : ∀ {s' I oI C oC D oD y' s''} {J' J'' : Value → List (Addr × Obj) → Prop}, (∀ n, J' y' n → J'' y' n) → CompEnd h₀ L m s' I oI C oC D oD (fun nw => src ∈ nw) J' y' s'' → CompEnd h₀ L m s' I oI C oC D oD (fun nw => src ∈ nw) J'' y' s'' := by
        rintro s' I oI C oC D oD y' s'' J' J'' hj ⟨h', tk, nw', a, b, c, d, f, g⟩
        exact ⟨h', tk, nw', a, b, c, d, f, hj _ g⟩
      refine ⟨t, v₁, v₂, e1, hm, fun I oI C oC D m₂ h tk E' a b c d f g k => wpAny_mono (step I oI C oC D m₂ h tk E' a b c d f g k) (fun ok s₃ z => ?_) fun _ _ z => z⟩
      cases ok with
      | true =>
        simp only [if_true] at z ⊢
        exact wpAny_mono z (fun q s₄ z4 => up (fun n jn => ih (pre ++ [v]) _ n e2 jn) z4) fun _ _ z => z
      | false =>
        simp only [Bool.false_eq_true, if_false] at z ⊢
        exact up (fun n jn => ih (pre ++ [v]) _ n e2 jn) z
  exact key vs [] [] news rfl start
theorem RangeRest.inv {x : Str} {body : List Stmt} {Q : Flow → Shared → Prop} {I : Addr} {a : Int} {n : Nat} {m₀ : Str → Option Value} {news : List (Addr × Obj)} (J : Nat → (Str → Option Value) → List (Addr × Obj) → Prop)
    (turn : ∀ i m nw t h tk, i < n → J i m nw → Fr h₀ env.locals h (fun y => if y = x then some (.int (a + (i : Int)) t) else m y) → News h₀ env.locals h ((I, itR (a + ((i + 1 : Nat) : Int)) ((n : Int) - ((i + 1 : Nat) : Int))) :: nw) →
      wpAny (model prog w) A (execs body env) (UnrPost h₀ env.locals { s with heap := h, toks := tk } I (itR (a + ((i + 1 : Nat) : Int)) ((n : Int) - ((i + 1 : Nat) : Int))) (J (i + 1)) Q) E { s with heap := h, toks := tk })
    (fin : ∀ m nw h tk, J n m nw → Fr h₀ env.locals h m → News h₀ env.locals h nw → Q .next { s with heap := h, toks := tk }) (start : J 0 m₀ news) : RangeRest prog w A E h₀ env x body Q s I a n n 0 m₀ news := by
  have key : ∀ k i m nw, i + k = n → J i m nw → RangeRest prog w A E h₀ env x body Q s I a n k i m nw := by
    intro k
    induction k with
    | zero =>
      intro i m nw e j h tk F N
      exact fin m nw h tk (by rw [← e]; exact j) F N
    | succ k ih =>
      intro i m nw e j t h tk F N
      refine wpAny_mono (turn i m nw t h tk (by omega) j F N) (fun f s' z => ?_) fun _ _ z => z
      have up : UnrEnd h₀ env.locals { s with heap := h, toks := tk } I (itR (a + ((i + 1 : Nat) : Int)) ((n : Int) - ((i + 1 : Nat) : Int))) (J (i + 1)) s' → UnrEnd h₀ env.locals { s with heap := h, toks := tk } I (itR (a + ((i + 1 : Nat) : Int)) ((n : Int) - ((i + 1 : Nat) : Int))) (RangeRest prog w A E h₀ env x body Q s I a n k (i + 1)) s' := by
        rintro ⟨h', tk', m', nw', a1, a2, a3, a4, a5⟩
        exact ⟨h', tk', m', nw', a1, a2, a3, a4, ih (i + 1) m' nw' (by omega) a5⟩
      cases f with
      | ret v => exact z
      | brk => exact z
      | next => exact up z
      | cont => exact up z
  exact key n 0 m₀ news (Nat.zero_add n) start
theorem RangeRest.invM {x : Str} {body : List Stmt} {Q : Flow → Shared → Prop} {I : Addr} {a : Int} {n : Nat} {m₀ : Str → Option Value} {news : List (Addr × Obj)} (J : (Str → Option Value) → Nat → (Str → Option Value) → List (Addr × Obj) → Prop)
    (turn : ∀ i m nw t h tk, i < n → J m₀ i m nw → Fr h₀ env.locals h (fun y => if y = x then some (.int (a + (i : Int)) t) else m y) → News h₀ env.locals h ((I, itR (a + ((i + 1 : Nat) : Int)) ((n : Int) - ((i + 1 : Nat) : Int))) :: nw) →
      wpAny (model prog w) A (execs body env) (UnrPost h₀ env.locals { s with heap := h, toks := tk } I (itR (a + ((i + 1 : Nat) : Int)) ((n : Int) - ((i + 1 : Nat) : Int))) (J m₀ (i + 1)) Q) E { s with heap := h, toks := tk })
    (fin : ∀ m nw h tk, J m₀ n m nw → Fr h₀ env.locals h m → News h₀ env.locals h nw → Q .next { s with heap := h, toks := tk }) (start : J m₀ 0 m₀ news) : RangeRest prog w A E h₀ env x body Q s I a n n 0 m₀ news := RangeRest.inv (J m₀) turn fin start
end inv
end
section
section make
variable {w : World} {mean : ExcName → Option Value} {mg mb : Str → Option Value} {dp un : Nat} {gd : Option (List Code)} {cn : Str} {cs : Scope} {L a : Addr} {ccd : Value} {cl : List (Str × Addr)} {outer : List Env} {A₀ : Around} {base h₀ : Heap} {m : Str → Option Value} {s : Shared} {Q E : Value → Shared → Prop}
  {news : List (Addr × Obj)} {name : Str} {ta tb tc : Tok} {xv xr : Addr} {lim : Int}
set_option maxRecDepth 100000 in
set_option maxHeartbeats 8000000 in
theorem ref_c (B : Below A₀ base outer h₀) (F : Fr h₀ L s.heap m) (X : (stage.heap_1 w.params).In h₀) (N : News h₀ L s.heap news)
  (T : Top hd.view_1 (looseW hd.view_1 [Str.ofString "SnobolError", Str.ofString "plain_count"]) mean mg mb h₀)
  (hk : cs.kind = .function) (hr : dp + 50 < recursionLimit) (hu : un + 200 < cLine)
  (ret : ∀ x dx h' tk' g1 g2 g3 u1 u2 u3, Fr h₀ L h' m → News h₀ L h' ((x, instObj 110 dx) :: (dx, refD g1 g2 g3 u1 u2 u3 ta tb name) :: news) → (∀ p ∈ news, p.1 < dx) → @LT.lt Nat _ dx x → Q (.ref x) { s with heap := h', toks := tk' }) :
  wpAny (model PySem.Challenge.rw_sj0196_02.row.prog w) (ktrTop dp un gd cn cs L a ccd cl outer) (call (.ref 110) [.str (Str.ofString "var") ta, .none, .str name tb]) Q E s := by
  revert X; k_fill; intro X
  k_steps
  rename Fr h₀ L _ _ => F1
  rename News h₀ L _ _ => N1
  rename (_ : Nat) < _ => l2
  rename (∀ p ∈ news, p.1 < _) => l1
  exact ret _ _ _ _ _ _ _ _ _ _ F1 N1 l1 l2
set_option maxRecDepth 100000 in
set_option maxHeartbeats 8000000 in
theorem host_c (B : Below A₀ base outer h₀) (F : Fr h₀ L s.heap m) (X : (stage.heap_1 w.params).In h₀) (N : News h₀ L s.heap news)
  (T : Top hd.view_1 (looseW hd.view_1 [Str.ofString "SnobolError", Str.ofString "plain_count"]) mean mg mb h₀)
  (hk : cs.kind = .function) (hr : dp + 50 < recursionLimit) (hu : un + 200 < cLine)
  (ret : ∀ x dx xl h' tk' h1 h2 h3 h4 h5 h6 t1 t2 t3 t4 t4' t5 t5' t6, Fr h₀ L h' m → News h₀ L h' ((xl, listOf #[] 0) :: (x, instObj 407 dx) :: (dx, hostD h1 h2 h3 h4 h5 h6 t1 t2 tb t3 t4 t4' t5 t5' t6 xv xr xl lim 0) :: news) → (∀ p ∈ news, p.1 < dx) → @LT.lt Nat _ dx x → @LT.lt Nat _ x xl → Q (.ref x) { s with heap := h', toks := tk' }) :
  wpAny (model PySem.Challenge.rw_sj0196_02.row.prog w) (ktrTop dp un gd cn cs L a ccd cl outer) (call (.ref 407) [.ref xv, .int lim tb, .ref xr]) Q E s := by
  revert X; k_fill; intro X
  k_steps
  rename Fr h₀ L _ _ => F1
  rename News h₀ L _ _ => N1
  rename (∀ p ∈ news, p.1 < _) => l1
  rename (_ : Nat) < _ ∧ _ < _ ∧ AllLt _ news => l3
  rename (_ : Nat) < _ => l2
  exact ret _ _ _ _ _ _ _ _ _ _ _ _ _ _ _ _ _ _ _ F1 N1 l1 l2 l3.1
end make
end
section
theorem off_two {I C D x dx : Addr} {oI oC oD o1 o2 : Obj} {nw : List (Addr × Obj)} (l1 : ∀ p ∈ (I, oI) :: (C, oC) :: (D, oD) :: nw, p.1 < dx) (l2 : @LT.lt Nat _ dx x) (off : LCg.Off3 I C D nw) : LCg.Off3 I C D ((x, o1) :: (dx, o2) :: nw) := by
  have a := l1 _ (.head _)
  have b := l1 _ (.tail _ (.head _))
  have c := l1 _ (.tail _ (.tail _ (.head _)))
  exact ⟨⟨Nat.ne_of_gt (Nat.lt_trans a l2), Nat.ne_of_gt (Nat.lt_trans b l2), Nat.ne_of_gt (Nat.lt_trans c l2)⟩, ⟨Nat.ne_of_gt a, Nat.ne_of_gt b, Nat.ne_of_gt c⟩, off⟩
theorem rot5 {α : Type} {a b c x y : α} {t : List α} : ∀ p ∈ a :: b :: c :: x :: y :: t, p ∈ x :: y :: a :: b :: c :: t := by
  intro p hp
  simp only [List.mem_cons] at hp ⊢
  rcases hp with h | h | h | h | h | h <;> simp [h]
theorem sign_at {x : Str} {i c d : Nat} (h : x.cps[i]? = some c) (e : x.cps[i]? = some d) : c = d := by rw [h] at e; exact Option.some.inj e
theorem with_pat {h₀ h : Heap} {L nd : Addr} {o : Obj} {T news : List (Addr × Obj)} {G : Prop} (N : News h₀ L h ((nd, o) :: T)) (hP : PatIn ((nd, o) :: T) nd bPat) (hS : ∀ p ∈ news, p ∈ (nd, o) :: T) (k : ∀ T', News h₀ L h T' → PatIn T' nd bPat → (∀ p ∈ news, p ∈ T') → G) : G := k _ N hP hS
theorem subjOf_len {word : Str} (h : word.length ≤ 6) : (subjOf word).length ≤ 100 := by
  have e : (subjOf word).cps.size = word.cps.size + 1 + word.cps.size := by
    show ((word.cps ++ (Str.ofString "|").cps) ++ word.cps).size = _
    rw [Array.size_append, Array.size_append]
    rfl
  have h' : word.cps.size ≤ 6 := h
  show (subjOf word).cps.size ≤ 100
  omega
theorem All2.at {α β : Type} {R : α → β → Prop} {v : α} : ∀ {pre post : List α} {l : List β}, All2 R (pre ++ v :: post) l → ∃ e, R v e ∧ l.take (pre.length + 1) = l.take pre.length ++ [e]
  | [], _, _, .cons (b := b) h _ => ⟨b, h, by simp⟩
  | a :: pre, post, _, .cons (b := b) (l' := l') _ t => by
    obtain ⟨e, h1, h2⟩ := All2.at (pre := pre) t
    exact ⟨e, h1, by simp only [List.length_cons, List.take_succ_cons, h2, List.cons_append]⟩
def J1 (T : List (Addr × Obj)) (log : List (Str × Val)) (pre ys : List Value) (nw : List (Addr × Obj)) : Prop :=
  (∀ p ∈ T, p ∈ nw) ∧ All2 (LogIn nw) ys ((log.take pre.length).filter fun e => e.1 ≠ Str.ofString "U")
theorem J1.start (T : List (Addr × Obj)) (log : List (Str × Val)) : J1 T log [] [] T := ⟨fun _ h => h, .nil⟩
theorem rot4 {α : Type} {a b c x : α} {t : List α} : ∀ p ∈ a :: b :: c :: x :: t, p ∈ x :: a :: b :: c :: t := by
  intro p hp
  simp only [List.mem_cons] at hp ⊢
  rcases hp with h | h | h | h | h <;> simp [h]
theorem J1.keep {T nw : List (Addr × Obj)} {log : List (Str × Val)} {pre ys : List Value} {e : Str × Val} {v v' : Value} {z : Addr} {tn : Tok} (hJ : J1 T log pre ys nw) (htk : log.take (pre.length + 1) = log.take pre.length ++ [e]) (hU : (e.1 != Str.ofString "U") = true) (hvr : VRel v' e.2) :
    J1 T log (pre ++ [v]) (ys ++ [.ref z]) ((z, tupObj [.str e.1 tn, v']) :: nw) := by
  refine ⟨fun p hp => .tail _ (hJ.1 p hp), ?_⟩
  have h1 : e.1 ≠ Str.ofString "U" := bne_iff_ne.mp hU
  rw [List.length_append, List.length_singleton, htk, List.filter_append, List.filter_cons_of_pos (by simpa using h1), List.filter_nil]
  exact all2_snoc (all2_mono (fun a b h => h.mono fun p hp => .tail _ hp) hJ.2) ⟨z, tn, v', rfl, .head _, hvr⟩
theorem J1.skip {T nw : List (Addr × Obj)} {log : List (Str × Val)} {pre ys : List Value} {e : Str × Val} {v : Value} (hJ : J1 T log pre ys nw) (htk : log.take (pre.length + 1) = log.take pre.length ++ [e]) (hU : (e.1 != Str.ofString "U") = false) :
    J1 T log (pre ++ [v]) ys nw := by
  refine ⟨hJ.1, ?_⟩
  have h1 : ¬ (e.1 ≠ Str.ofString "U") := fun h => by rw [bne_iff_ne.mpr h] at hU; cases hU
  rw [List.length_append, List.length_singleton, htk, List.filter_append, List.filter_cons_of_neg (by simpa using h1), List.filter_nil, List.append_nil]
  exact hJ.2
theorem subjOf_size (word : Str) : (subjOf word).cps.size = word.length + (Str.ofString "|").length + word.length := by
  show ((word.cps ++ (Str.ofString "|").cps) ++ word.cps).size = _
  rw [Array.size_append, Array.size_append]
  rfl
theorem small_range {word : Str} (h : (subjOf word).length ≤ 100) : Builtin.Range.small 0 (((word.length + (Str.ofString "|").length + word.length : Nat) : Int) + 1) 1 = true := by
  have e := subjOf_size word
  have h' : (subjOf word).cps.size ≤ 100 := h
  rw [e] at h'
  exact small_one (by omega) (by omega) (by omega) (by omega)
theorem dueOf_eq (subj : Str) : dueOf subj = dueN subj (subj.cps.size + 1) := rfl
theorem dueN_succ (subj : Str) (n : Nat) : dueN subj (n + 1) = dueN subj n ++ [(Str.ofString "W", .str (Txt.slice subj none (some (n : Int)))), (Str.ofString "I", .int (n : Int))] := by
  unfold dueN
  rw [List.range_succ, List.flatMap_append]
  simp only [List.flatMap_cons, List.flatMap_nil, List.append_nil]
def J2 (B : List (Addr × Obj)) (x I : Addr) (m₀ : Str → Option Value) (subj : Str) (i : Nat) (m : Str → Option Value) (nw : List (Addr × Obj)) : Prop :=
  ∃ (o : Option Value) (ys : List Value) (nl : Nat) (T : List (Addr × Obj)), m = (fun y => if y = Str.ofString "many" then o else m₀ y) ∧ nw = (x, listOf ys.toArray nl) :: T ∧ (∀ p ∈ B, p ∈ T) ∧ (∀ p ∈ T, p.1 ≠ x) ∧ (∀ p ∈ T, p.1 ≠ I) ∧ All2 (LogIn T) ys (dueN subj i)
theorem J2.start {D1 xl xh xd x I : Addr} {o1 o2 o3 o4 : Obj} {nw : List (Addr × Obj)} {m₀ : Str → Option Value} {subj : Str} (l1 : D1 < x ∧ xl < x ∧ xh < x ∧ xd < x ∧ AllLt x nw) (l2 : ∀ p ∈ (D1, o1) :: (xl, o2) :: (xh, o3) :: (xd, o4) :: nw, p.1 < I) :
    J2 ((D1, o1) :: (xl, o2) :: (xh, o3) :: (xd, o4) :: nw) x I m₀ subj 0 m₀ ((x, listOf #[] 0) :: (D1, o1) :: (xl, o2) :: (xh, o3) :: (xd, o4) :: nw) :=
  ⟨m₀ (Str.ofString "many"), [], 0, _, funext fun y => by by_cases h : y = Str.ofString "many" <;> simp [h], rfl, fun _ h => h, List.forall_mem_cons.mpr ⟨Nat.ne_of_lt l1.1, List.forall_mem_cons.mpr ⟨Nat.ne_of_lt l1.2.1, List.forall_mem_cons.mpr ⟨Nat.ne_of_lt l1.2.2.1, List.forall_mem_cons.mpr ⟨Nat.ne_of_lt l1.2.2.2.1, fun p hp => Nat.ne_of_lt (allLt_mem l1.2.2.2.2 p hp)⟩⟩⟩⟩, fun p hp => Nat.ne_of_lt (l2 p hp), .nil⟩
theorem two_many {o o' : Option Value} {m₀ : Str → Option Value} : (fun y => if y = Str.ofString "many" then o else (fun y => if y = Str.ofString "many" then o' else m₀ y) y) = (fun y => if y = Str.ofString "many" then o else m₀ y) :=
  funext fun y => by by_cases h : y = Str.ofString "many" <;> simp [h]
theorem dueN_length (subj : Str) (n : Nat) : (dueN subj n).length = 2 * n := by
  induction n with
  | zero => rfl
  | succ n ih => rw [dueN_succ, List.length_append, ih]; simp; omega
theorem News.tuple {h₀ h : Heap} {L x : Addr} {T : List (Addr × Obj)} {vs : List Value} (N : News h₀ L h T) (hx : (x, tupObj vs) ∈ T) : h.IsTuple x vs.toArray := ⟨_, (N _ hx).1, rfl, _, rfl⟩
section duex
variable {prog : Program} {w : World} {A : Around} {E : Value → Shared → Prop} {s : Shared} {h₀ : Heap} {L : Addr} {m : Str → Option Value}
theorem due_ext {Q : Value → Shared → Prop} {x lt b1 b2 I : Addr} {it : Obj} {ys : List Value} {nl i : Nat} {T2 B : List (Addr × Obj)} {subj sl : Str} {k1 k2 k3 t : Tok} {j : Int}
    (F : Fr h₀ L s.heap m) (N : News h₀ L s.heap ((lt, listOf #[.ref b1, .ref b2] 0) :: (b2, tupObj [.str (Str.ofString "I") k1, .int j t]) :: (b1, tupObj [.str (Str.ofString "W") k2, .str sl k3]) :: (I, it) :: (x, listOf ys.toArray nl) :: T2))
    (hit : it.cls = .type "range_iterator") (hxI : @Ne Nat x I) (l1 : @LT.lt Nat _ b2 lt ∧ @LT.lt Nat _ b1 lt ∧ @LT.lt Nat _ I lt ∧ @LT.lt Nat _ x lt ∧ AllLt lt T2)
    (hj : j = (i : Int)) (hsl : sl = Txt.slice subj none (some (i : Int))) (hi : i ≤ 1000) (hsub : ∀ p ∈ B, p ∈ T2) (hx : ∀ p ∈ T2, p.1 ≠ x) (hI : ∀ p ∈ T2, p.1 ≠ I) (hall : All2 (LogIn T2) ys (dueN subj i))
    (ret : ∀ h' ys' nl' T3, Fr h₀ L h' m → News h₀ L h' ((I, it) :: (x, listOf (List.toArray ys') nl') :: T3) → (∀ p ∈ B, p ∈ T3) → (∀ p ∈ T3, p.1 ≠ x) → (∀ p ∈ T3, p.1 ≠ I) → All2 (LogIn T3) ys' (dueN subj (i + 1)) → Q .none { s with heap := h' }) :
    wpAny (model prog w) A (call (.builtin "list.extend") [.ref x, .ref lt]) Q E s := by
  subst hj hsl
  have hlen : ys.length ≤ 2000 := by rw [all2_length hall, dueN_length]; omega
  have g (a : Addr) (o : Obj) (b : Addr) (o' : Obj) (ha : s.heap.get? a = some o) (hb : s.heap.get? b = some o') (hc : o.cls ≠ o'.cls) : a ≠ b := by
    rintro rfl
    rw [ha] at hb
    cases hb
    exact hc rfl
  have m0 : (lt, listOf #[.ref b1, .ref b2] 0) ∈ ((lt, listOf #[.ref b1, .ref b2] 0) :: (b2, tupObj [.str (Str.ofString "I") k1, .int (i : Int) t]) :: (b1, tupObj [.str (Str.ofString "W") k2, .str (Txt.slice subj none (some (i : Int))) k3]) :: (I, it) :: (x, listOf ys.toArray nl) :: T2) := .head _
  have n1 := (N _ (.tail _ (.head _))).1
  have n2 := (N _ (.tail _ (.tail _ (.head _)))).1
  have n3 := (N _ (.tail _ (.tail _ (.tail _ (.head _))))).1
  have n4 := (N _ (.tail _ (.tail _ (.tail _ (.tail _ (.head _)))))).1
  have b2x := g _ _ _ _ n1 n4 (by intro h; exact absurd (Value.type.inj h) (by decide))
  have b1x := g _ _ _ _ n2 n4 (by intro h; exact absurd (Value.type.inj h) (by decide))
  have b2I := g _ _ _ _ n1 n3 (by rw [hit]; intro h; exact absurd (Value.type.inj h) (by decide))
  have b1I := g _ _ _ _ n2 n3 (by rw [hit]; intro h; exact absurd (Value.type.inj h) (by decide))
  refine kl_extend (l := ys ++ [.ref b1, .ref b2]) F N m0 (by simp) (by simp) (.tail (Nat.ne_of_gt l1.2.2.2.1) (.tail b2x (.tail b1x (.tail (Ne.symm hxI) (.head hx))))) ?_ ?_ ?_ ?_
  · simp only [Bool.and_eq_true, not_and, List.isEmpty_toArray]
    intro _
    simp [Builtin.List.listTooLong, sizeLine_eq]
    omega
  · rw [sizeLine_eq]; simp; omega
  · rw [sizeLine_eq]; simp; omega
  intro h' F' N'
  refine ret h' (ys ++ [.ref b1, .ref b2]) (nl + 1) ((lt, listOf #[.ref b1, .ref b2] 0) :: (b2, tupObj [.str (Str.ofString "I") k1, .int (i : Int) t]) :: (b1, tupObj [.str (Str.ofString "W") k2, .str (Txt.slice subj none (some (i : Int))) k3]) :: T2) F' (kst_newsOf N' fun p hp => ?_) (fun p hp => .tail _ (.tail _ (.tail _ (hsub p hp))))
    (List.forall_mem_cons.mpr ⟨Nat.ne_of_gt l1.2.2.2.1, List.forall_mem_cons.mpr ⟨b2x, List.forall_mem_cons.mpr ⟨b1x, hx⟩⟩⟩) (List.forall_mem_cons.mpr ⟨Nat.ne_of_gt l1.2.2.1, List.forall_mem_cons.mpr ⟨b2I, List.forall_mem_cons.mpr ⟨b1I, hI⟩⟩⟩) ?_
  · simp only [List.mem_cons] at hp ⊢
    rcases hp with h | h | h | h | h | h <;> simp [h]
  · rw [dueN_succ, show ys ++ [Value.ref b1, .ref b2] = (ys ++ [.ref b1]) ++ [.ref b2] from by simp, show ∀ a b : Str × Val, dueN subj i ++ [a, b] = (dueN subj i ++ [a]) ++ [b] from by intro a b; simp]
    exact all2_snoc (all2_snoc (all2_mono (fun a b h => h.mono fun p hp => .tail _ (.tail _ (.tail _ hp))) hall) ⟨b1, k2, _, rfl, .tail _ (.tail _ (.head _)), rfl⟩) ⟨b2, k1, _, rfl, .tail _ (.head _), rfl⟩
theorem eq_vrel {v v' : Value} {e : Val} (h : VRel v e) (h' : VRel v' e) : SeqAt.EqAt A s v v' true := by
  cases e with
  | str x =>
    obtain ⟨t, rfl⟩ := h.str_inv
    obtain ⟨t', rfl⟩ := h'.str_inv
    have := SeqAt.EqAt.str_str (A := A) (s := s) x t x t'
    rwa [beq_self_eq_true] at this
  | int x =>
    obtain ⟨t, rfl⟩ := h.int_inv
    obtain ⟨t', rfl⟩ := h'.int_inv
    have := SeqAt.EqAt.int_int (A := A) (s := s) x t x t'
    rwa [beq_self_eq_true] at this
theorem eq_log {T : List (Addr × Obj)} {v v' : Value} {e : Str × Val} (N : News h₀ L s.heap T) (h : LogIn T v e) (h' : LogIn T v' e) (hu : A.units < cLine) : SeqAt.EqAt A s v v' true := by
  obtain ⟨a, t, u, rfl, hm, hr⟩ := h
  obtain ⟨b, t', u', rfl, hm', hr'⟩ := h'
  by_cases hab : a = b
  · subst hab; exact SeqAt.EqAt.same _
  · refine SeqAt.EqAt.of_refs hab ?_
    have := SeqAt.RcAt.tuples (e := fun _ => true) (News.tuple N hm) (News.tuple N hm') hu (fun j h1 h2 => ?_)
    · exact this
    · match j with
      | 0 =>
        have := SeqAt.EqAt.str_str (A := A.in1) (s := s) e.1 t e.1 t'
        rwa [beq_self_eq_true] at this
      | 1 => exact eq_vrel hr hr'
      | j + 2 => exact absurd h1 (by simp)
theorem ne_logs {T : List (Addr × Obj)} {ys zs : List Value} {log : List (Str × Val)} {D x : Addr} {n1 n2 : Nat} (N : News h₀ L s.heap T) (hy : (D, listOf ys.toArray n1) ∈ T) (hz : (x, listOf zs.toArray n2) ∈ T)
    (ha : All2 (LogIn T) ys log) (hb : All2 (LogIn T) zs log) (hu : A.units + 10 < cLine) : SeqAt.RcNeAt A s (.ref D) (.ref x) false := by
  have key : ∀ (j : Nat) (ys zs : List Value) (log : List (Str × Val)), All2 (LogIn T) ys log → All2 (LogIn T) zs log → ∀ v v', ys[j]? = some v → zs[j]? = some v' → ∃ e, LogIn T v e ∧ LogIn T v' e := by
    intro j
    induction j with
    | zero =>
      intro ys zs log ha hb v v' h h'
      cases ha with
      | nil => cases h
      | cons a _ =>
        cases hb with
        | cons b _ => cases h; cases h'; exact ⟨_, a, b⟩
    | succ j ih =>
      intro ys zs log ha hb v v' h h'
      cases ha with
      | nil => cases h
      | cons _ a =>
        cases hb with
        | cons _ b => exact ih _ _ _ a b v v' (by simpa using h) (by simpa using h')
  have := SeqAt.RcNeAt.lists (A := A) (s := s) (e := fun _ => true) (News.isList N hy) (News.isList N hz) (by simp [all2_length ha, all2_length hb]) (by omega) (fun j h1 h2 => by
    obtain ⟨e, p, q⟩ := key j ys zs log ha hb _ _ (List.getElem?_eq_getElem (by simpa using h1)) (List.getElem?_eq_getElem (by simpa using h2))
    exact eq_log N p q (by rw [units_in1]; omega))
  rw [List.all_eq_true.mpr (fun _ _ => rfl)] at this
  exact this
theorem ne_logs_w {prog : Program} {w : World} {E : Value → Shared → Prop} {Q : Value → Shared → Prop} {T : List (Addr × Obj)} {ys zs : List Value} {log : List (Str × Val)} {D x : Addr} {n1 n2 : Nat} (N : News h₀ L s.heap T) (hy : (D, listOf ys.toArray n1) ∈ T) (hz : (x, listOf zs.toArray n2) ∈ T)
    (ha : All2 (LogIn T) ys log) (hb : All2 (LogIn T) zs log) (hu : A.units + 10 < cLine) (h : Q (.bool false) s) : wpAny (model prog w) A (compareOp .NotEq (.ref D) (.ref x)) Q E s := ne_logs N hy hz ha hb hu prog w E Q h
end duex
section bord
variable {w : World} {mean : ExcName → Option Value} {mg mb : Str → Option Value} {dp un : Nat} {gd : Option (List Code)} {cn : Str} {cs : Scope} {L a : Addr} {ccd : Value} {cl : List (Str × Addr)} {outer : List Env} {A₀ : Around} {base h₀ : Heap} {m : Str → Option Value} {s : Shared} {Q E : Value → Shared → Prop}
  {news : List (Addr × Obj)} {word : Str} {ts : Tok}
set_option maxHeartbeats 1000000 in
theorem match_b {xh xd xv xl xr nd D : Addr} {oD od : Obj} {h1 h2 h3 h4 h5 h6 : Int} {t1 t2 t2' t3 t4 t4' t5 t5' t6 : Tok} {T0 : List (Addr × Obj)} {subj : Str} {lim : Int} {st' : St} {k' : Int} {f : Nat}
  (B : Below A₀ base outer h₀) (F : Fr h₀ L s.heap m) (X : (stage.heap_1 w.params).In h₀)
  (N : News h₀ L s.heap ((D, oD) :: (xl, listOf #[] 0) :: (xh, instObj 407 xd) :: (xd, hostD h1 h2 h3 h4 h5 h6 t1 t2 t2' t3 t4 t4' t5 t5' t6 xv xr xl lim 0) :: (xr, listOf #[] 0) :: (xv, od) :: T0))
  (T : Top hd.view_1 (looseW hd.view_1 [Str.ofString "SnobolError", Str.ofString "plain_count"]) mean mg mb h₀)
  (hk : cs.kind = .function) (hr : dp + 70 < recursionLimit) (hu : un + 270 < cLine)
  (l1 : ∀ p ∈ T0, p.1 < xv) (l2 : @LT.lt Nat _ xv xr) (l3 : @LT.lt Nat _ xr xd) (l4 : @LT.lt Nat _ xd xh) (l5 : @LT.lt Nat _ xh xl) (l6 : @LT.lt Nat _ xl D)
  (hod : od.IsDictOf (PySem.strKind PySem.Challenge.rw_sj0196_02.row.prog w) []) (lov : (xv == sysModules) = false) (hsl : subj.length ≤ 100) (hp : PatIn T0 nd bPat)
  (hrun : run subj lim f none { vals := [], log := [], pile := [([bPat], 0)] } 0 = some (st', k'))
  (hret : ∀ h' tk' tk5 od' log' nl' T1, Fr h₀ L h' m → News h₀ L h' ((xl, listOf (List.toArray log') nl') :: (xh, instObj 407 xd) :: (xd, hostD h1 h2 h3 h4 h5 h6 t1 t2 t2' t3 t4 t4' t5 tk5 t6 xv xr xl lim k') :: (xv, od') :: T1) →
    (∀ p ∈ T1, p.1 ≠ xl) → (∀ p ∈ T0, p ∈ T1) → All2 (LogIn T1) log' st'.log → Q .none { s with heap := h', toks := tk' }) :
  wpAny (model PySem.Challenge.rw_sj0196_02.row.prog w) (ktrTop dp un gd cn cs L a ccd cl outer) (call (.ref 320) [.ref nd, .str subj ts, .bool true, .ref xh]) Q E s := by
  have e : ∀ p ∈ (xd, hostD h1 h2 h3 h4 h5 h6 t1 t2 t2' t3 t4 t4' t5 t5' t6 xv xr xl lim 0) :: (xv, od) :: (xl, listOf ([] : List Value).toArray 0) :: (D, oD) :: (xh, instObj 407 xd) :: (xr, listOf #[] 0) :: T0,
      p ∈ (D, oD) :: (xl, listOf #[] 0) :: (xh, instObj 407 xd) :: (xd, hostD h1 h2 h3 h4 h5 h6 t1 t2 t2' t3 t4 t4' t5 t5' t6 xv xr xl lim 0) :: (xr, listOf #[] 0) :: (xv, od) :: T0 := by
    intro p hp
    simp only [List.mem_cons] at hp ⊢
    rcases hp with h | h | h | h | h | h | h <;> simp [h]
  have b1 : @LT.lt Nat _ xv xd := Nat.lt_trans l2 l3
  have b2 : @LT.lt Nat _ xv xh := Nat.lt_trans b1 l4
  have b3 : @LT.lt Nat _ xr xh := Nat.lt_trans l3 l4
  have b4 : @LT.lt Nat _ xd xl := Nat.lt_trans l4 l5
  have b5 : @LT.lt Nat _ xr xl := Nat.lt_trans b3 l5
  have b6 : @LT.lt Nat _ xv xl := Nat.lt_trans b2 l5
  have t1' : ∀ p ∈ (D, oD) :: (xh, instObj 407 xd) :: (xr, listOf #[] 0) :: T0, p.1 ≠ xd := List.forall_mem_cons.mpr ⟨Nat.ne_of_gt (Nat.lt_trans b4 l6), List.forall_mem_cons.mpr ⟨Nat.ne_of_gt l4, List.forall_mem_cons.mpr ⟨Nat.ne_of_lt l3, fun p hp => Nat.ne_of_lt (Nat.lt_trans (l1 p hp) b1)⟩⟩⟩
  have t2' : ∀ p ∈ (D, oD) :: (xh, instObj 407 xd) :: (xr, listOf #[] 0) :: T0, p.1 ≠ xv := List.forall_mem_cons.mpr ⟨Nat.ne_of_gt (Nat.lt_trans b6 l6), List.forall_mem_cons.mpr ⟨Nat.ne_of_gt b2, List.forall_mem_cons.mpr ⟨Nat.ne_of_gt l2, fun p hp => Nat.ne_of_lt (l1 p hp)⟩⟩⟩
  have t3' : ∀ p ∈ (D, oD) :: (xh, instObj 407 xd) :: (xr, listOf #[] 0) :: T0, p.1 ≠ xl := List.forall_mem_cons.mpr ⟨Nat.ne_of_gt l6, List.forall_mem_cons.mpr ⟨Nat.ne_of_lt l5, List.forall_mem_cons.mpr ⟨Nat.ne_of_lt b5, fun p hp => Nat.ne_of_lt (Nat.lt_trans (l1 p hp) b6)⟩⟩⟩
  refine match_c (stat := (D, oD) :: (xh, instObj 407 xd) :: (xr, listOf #[] 0) :: T0) (kvs := []) (log := []) (st := { vals := [], log := [], pile := [] }) B F X (kst_newsOf N e) T hk hr hu (fun p hp => .inr hp) t1' t2' t3' (fun _ h => h) (Nat.ne_of_gt b1) (Nat.ne_of_lt b4) (Nat.ne_of_lt b6) hod lov
    (.tail _ (.head _)) (.tail _ (.tail _ (.head _))) hsl (hp.mono fun p h => .tail _ (.tail _ (.tail _ h))) .nil .nil hrun ?_
  intro h' tk' tk5 od' kvs' log' nl' tl F1 N1 htl _ _ hlog
  have off := sepT N1 (.tail _ (.tail _ (.head _))) rfl (by decide) (fun p hp => .tail _ (.tail _ (.tail _ hp))) (tups := tl ++ (D, oD) :: (xh, instObj 407 xd) :: (xr, listOf #[] 0) :: T0) (stat := (D, oD) :: (xh, instObj 407 xd) :: (xr, listOf #[] 0) :: T0)
    (fun p hp => (List.mem_append.mp hp).elim (fun h => .inl (htl p h)) .inr) t3'
  refine hret h' tk' tk5 od' log' nl' (tl ++ (D, oD) :: (xh, instObj 407 xd) :: (xr, listOf #[] 0) :: T0) F1 (kst_newsOf N1 fun p hp => ?_) off (fun p hp => List.mem_append_right _ (.tail _ (.tail _ (.tail _ hp)))) hlog
  simp only [List.mem_cons, List.mem_append] at hp ⊢
  rcases hp with h | h | h | h | h | h | h | h | h <;> simp [h]
end bord
def J3 (T : List (Addr × Obj)) (log : List (Str × Val)) (pre ys : List Value) (nw : List (Addr × Obj)) : Prop :=
  (∀ p ∈ T, p ∈ nw) ∧ All2 (fun v e => VRel v e.2) ys ((log.take pre.length).filter fun e => e.1 = Str.ofString "U")
theorem J3.start (T : List (Addr × Obj)) (log : List (Str × Val)) : J3 T log [] [] T := ⟨fun _ h => h, .nil⟩
theorem J3.keep {T nw : List (Addr × Obj)} {log : List (Str × Val)} {pre ys : List Value} {e : Str × Val} {v v' : Value} (hJ : J3 T log pre ys nw) (htk : log.take (pre.length + 1) = log.take pre.length ++ [e]) (hU : (e.1 == Str.ofString "U") = true) (hvr : VRel v' e.2) :
    J3 T log (pre ++ [v]) (ys ++ [v']) nw := by
  refine ⟨hJ.1, ?_⟩
  have h1 : e.1 = Str.ofString "U" := beq_iff_eq.mp hU
  rw [List.length_append, List.length_singleton, htk, List.filter_append, List.filter_cons_of_pos (by simpa using h1), List.filter_nil]
  exact all2_snoc hJ.2 hvr
theorem J3.skip {T nw : List (Addr × Obj)} {log : List (Str × Val)} {pre ys : List Value} {e : Str × Val} {v : Value} (hJ : J3 T log pre ys nw) (htk : log.take (pre.length + 1) = log.take pre.length ++ [e]) (hU : (e.1 == Str.ofString "U") = false) :
    J3 T log (pre ++ [v]) ys nw := by
  refine ⟨hJ.1, ?_⟩
  have h1 : ¬ (e.1 = Str.ofString "U") := fun h => by rw [beq_iff_eq.mpr h] at hU; cases hU
  rw [List.length_append, List.length_singleton, htk, List.filter_append, List.filter_cons_of_neg (by simpa using h1), List.filter_nil, List.append_nil]
  exact hJ.2
theorem strs_of {k : Str} : ∀ {us : List Str} {ys : List Value}, All2 (fun v (e : Str × Val) => VRel v e.2) ys (us.map fun u => (k, .str u)) → All2 StrIs ys us
  | [], _, h => by cases h; exact .nil
  | _ :: _, _, h => by
    cases h with
    | cons h1 h2 => exact .cons h1.str_inv (strs_of h2)
end
section
section bord
variable {w : World} {mean : ExcName → Option Value} {mg mb : Str → Option Value} {dp un : Nat} {gd : Option (List Code)} {cn : Str} {cs : Scope} {L a : Addr} {ccd : Value} {cl : List (Str × Addr)} {outer : List Env} {A₀ : Around} {base h₀ : Heap} {m : Str → Option Value} {s : Shared} {Q E : Value → Shared → Prop}
  {news : List (Addr × Obj)} {word : Str} {ts : Tok}
local macro_rules | `(tactic| walk_at "call ref") => `(tactic| ((with_reducible show wpAny _ _ (call (Value.ref 320) _) _ _ _); refine Hold.out ?_))
local macro_rules | `(tactic| walk_at "call ref") => `(tactic| ((with_reducible show wpAny _ _ (call (Value.ref 110) _) _ _ _); refine Hold.out ?_))
local macro_rules | `(tactic| walk_at "call ref") => `(tactic| ((with_reducible show wpAny _ _ (call (Value.ref 407) _) _ _ _); refine Hold.out ?_))
local macro_rules | `(tactic| walk_at "exec Assign cons ListComp") => `(tactic| refine Hold.out ?_)
local macro_rules | `(tactic| walk_at "pyIter ref") => `(tactic| ((with_reducible show wpAny _ _ (pyIter (Value.ref _)) (fun it s₂ => LoopAtV _ _ _ _ _ _ _ _ _ it s₂) _ _); refine Hold.out ?_))
local macro_rules | `(tactic| walk_at "eval ListComp") => `(tactic| refine Hold.out ?_)
local macro_rules | `(tactic| walk_at "eval Dict nil nil") => `(tactic| refine Hold.out ?_)
set_option maxRecDepth 100000 in
set_option maxHeartbeats 8000000 in
theorem borders_c (B : Below A₀ base outer h₀) (F : Fr h₀ L s.heap m) (X : (stage.heap_1 w.params).In h₀) (N : News h₀ L s.heap news)
  (T : Top hd.view_1 (looseW hd.view_1 [Str.ofString "SnobolError", Str.ofString "plain_count"]) mean mg mb h₀)
  (hk : cs.kind = .function) (hr : dp + 100 < recursionLimit) (hu : un + 400 < cLine) (hwl : word.length ≤ 6)
  {st' : St} {k' : Int} {f : Nat} (hrun : run (subjOf word) 9999 f none { vals := [], log := [], pile := [([bPat], 0)] } 0 = some (st', k'))
  (hll : st'.log.length ≤ 10000) (hbeg : st'.log.filter (fun e => e.1 ≠ Str.ofString "U") = dueOf (subjOf word)) {us : List Str} (hus : st'.log.filter (fun e => e.1 = Str.ofString "U") = us.map fun u => (Str.ofString "U", .str u))
  (hret : ∀ r ys h' tk' T1, Fr h₀ L h' m → News h₀ L h' ((r, LCg.lst ys) :: T1) → (∀ p ∈ T1, p.1 ≠ r) → (∀ p ∈ news, p ∈ T1) → All2 StrIs ys us → Q (.ref r) { s with heap := h', toks := tk' }) :
  wpAny (model PySem.Challenge.rw_sj0196_02.row.prog w) (ktrTop dp un gd cn cs L a ccd cl outer) (call (.ref 428) [.str word ts]) Q E s := by
  revert X; k_fill; intro X
  walk_at "call ref"
  k_steps
  unfold Hold
  rename Fr _ _ _ _ => F1
  rename News _ _ _ _ => N1
  k_dflt (refine Assign_ListComp_S F1 (by rfl) (by rfl) (by with_unfolding_all rfl) (by with_unfolding_all rfl) (by decide) (by rfl) (by decide) (by rfl) (by rfl) (by rfl) ?_)
  walk1
  refine ⟨_, _, _, rfl, by decide +kernel, by rw [sizeLine_eq]; decide +kernel, F1, N1, fun g => ?_⟩
  clear F1 N1
  lcg_lit
  refine LCg.CompRest.succ ?_
  intro v I oI C oC D m2 h tk E' hv hC hx F1 N1 off ne
  obtain ⟨c, u, hc, rfl⟩ := hv
  obtain rfl : c = 87 := sign_at hc (by decide +kernel)
  rw [show (⟨#[87]⟩ : Str) = Str.ofString "W" from by decide +kernel] at hx
  generalize hZ : LCg.CompEnd _ _ _ _ _ _ _ _ _ _ _ _ = Z
  k_unmd
  k_steps
  unfold Hold
  k_dflt (refine ref_c (by k_asm) F1 (by k_asm) N1 (by k_asm) (by first | assumption | exact rfl) (by k_room) (by ktr_units) ?_)
  clear F1 N1
  intro x0 dx0 h' tk' g1 g2 g3 u1 u2 u3 F1 N1 l1 l2
  rw [← hZ]
  refine LCg.CompEnd.intro F1 N1 _ rot5 (off_two l1 l2 off) trivial ?_
  clear hZ Z F1 N1 l1 l2 off hC hx
  refine LCg.CompRest.succ ?_
  intro v I oI C oC D m2 h tk E' hv hC hx F1 N1 off ne
  obtain ⟨c, u, hc, rfl⟩ := hv
  obtain rfl : c = 73 := sign_at hc (by decide +kernel)
  rw [show (⟨#[73]⟩ : Str) = Str.ofString "I" from by decide +kernel] at hx
  generalize hZ : LCg.CompEnd _ _ _ _ _ _ _ _ _ _ _ _ = Z
  k_unmd
  k_steps
  unfold Hold
  k_dflt (refine ref_c (by k_asm) F1 (by k_asm) N1 (by k_asm) (by first | assumption | exact rfl) (by k_room) (by ktr_units) ?_)
  clear F1 N1
  intro x1 dx1 h' tk' g1 g2 g3 u1 u2 u3 F1 N1 l1 l2
  rw [← hZ]
  refine LCg.CompEnd.intro F1 N1 _ rot5 (off_two l1 l2 off) trivial ?_
  clear hZ Z F1 N1 l1 l2 off hC hx
  refine LCg.CompRest.succ ?_
  intro v I oI C oC D m2 h tk E' hv hC hx F1 N1 off ne
  obtain ⟨c, u, hc, rfl⟩ := hv
  obtain rfl : c = 85 := sign_at hc (by decide +kernel)
  rw [show (⟨#[85]⟩ : Str) = Str.ofString "U" from by decide +kernel] at hx
  generalize hZ : LCg.CompEnd _ _ _ _ _ _ _ _ _ _ _ _ = Z
  k_unmd
  k_steps
  unfold Hold
  k_dflt (refine ref_c (by k_asm) F1 (by k_asm) N1 (by k_asm) (by first | assumption | exact rfl) (by k_room) (by ktr_units) ?_)
  clear F1 N1
  intro x2 dx2 h' tk' g1 g2 g3 u1 u2 u3 F1 N1 l1 l2
  rw [← hZ]
  refine LCg.CompEnd.intro F1 N1 _ rot5 (off_two l1 l2 off) trivial ?_
  clear hZ Z F1 N1 l1 l2 off hC hx
  refine LCg.CompRest.zero ?_
  intro D' h' tk' F1 N1 o1
  simp only [List.nil_append, List.cons_append] at N1
  k_unmd
  (try k_fold)
  dsimp only
  k_steps
  unfold Hold
  rename Fr _ _ _ _ => F2
  rename News _ _ _ _ => N2
  refine with_pat (news := news) N2 ?hP ?hS ?hG
  case hS =>
    intro p hp
    (repeat (first | exact hp | refine List.Mem.tail _ ?_))
  case hP =>
    refine PatIn.cat (by walk_at "memx") (.now (by walk_at "memx") (.arb (by walk_at "memx")) ⟨_, _, _, _, _, _, _, _, _, by walk_at "memx", by walk_at "memx"⟩) (.cat (by walk_at "memx") (.cursor (by walk_at "memx") ⟨_, _, _, _, _, _, _, _, _, by walk_at "memx", by walk_at "memx"⟩) (.cat (by walk_at "memx") (.brk (by walk_at "memx"))
      (.cat (by walk_at "memx") (.rtab (by walk_at "memx") (by walk_at "memx") (by walk_at "memx")) (.cat (by walk_at "memx") (.now (by walk_at "memx") (.delay (by walk_at "memx") (by walk_at "memx")) ⟨_, _, _, _, _, _, _, _, _, by walk_at "memx", by walk_at "memx"⟩) (.cat (by walk_at "memx") (.rpos (by walk_at "memx")) (.fail (by walk_at "memx")))))))
  case hG =>
    clear N2
    intro T0 N2 hP hnews
    clear B N F
    (repeat (rename ((_ : Nat) < _ ∧ _) => z9; clear z9))
    rename Below _ _ _ _ => B2
    rename Frag.In _ _ => X2
    rename Top _ _ _ _ _ _ => T2
    k_dflt (refine newDict_K F2 N2 T2.nolimit ?_)
    intro xv h' ov F3 N3 l1 lov hov _ _ _
    k_unmd
    (try k_fold)
    k_steps
    unfold Hold
    rename Fr _ _ _ _ => F4
    rename News _ _ _ _ => N4
    rename ((_ : Nat) < _ ∧ _) => l2
    k_dflt (refine host_c B2 F4 X2 N4 T2 (by first | assumption | exact rfl) (by k_room) (by ktr_units) ?_)
    intro xh xd xl h' tk' h1 h2 h3 h4 h5 h6 t1 t2 t3 t4 t4' t5 t5' t6 F5 N5 l3 l4 l5
    k_unmd
    (try k_fold)
    k_steps
    unfold Hold
    rename Fr _ _ _ _ => F6
    rename News _ _ _ _ => N6
    rename ((_ : Nat) < _ ∧ _) => l6
    k_dflt (refine match_b B2 F6 X2 N6 T2 (by first | assumption | exact rfl) (by k_room) (by ktr_units) l1 l2.1 (l3 _ (.head _)) l4 l5 l6.1 hov lov (subjOf_len hwl) hP hrun ?_)
    clear F6 N6
    intro h' tk' tk5 od' log' nl' T1 F7 N7 o7 hT hlog
    k_unmd
    (try k_fold)
    k_steps
    unfold Hold
    rename Fr _ _ _ _ => F8
    rename News _ _ _ _ => N8
    clear l1 l2 l3 l4 l5 l6 hP hov lov
    k_dflt (refine Assign_ListComp_PT F8 (by rfl) (by rfl) (by with_unfolding_all rfl) (by with_unfolding_all rfl) (by decide) (by rfl) (by decide) (by rfl) (by rfl) (by decide) (by rfl) (by rfl) ?_)
    show wpAny _ _ _ (fun xv s₁ => Hold _) _ _
    k_steps
    unfold Hold
    rename Fr _ _ _ _ => F9
    rename News _ _ _ _ => N9
    refine ⟨_, _, _, _, rfl, by rw [all2_length hlog, sizeLine_eq]; exact Nat.le_trans hll (by decide), F9, N9, .head _, fun g tk => ?_⟩
    refine PtRest.inv (J1 _ st'.log) ?turn1 ?fin1 (J1.start _ _)
    case turn1 =>
      intro pre v post ys nw ev hJ
      obtain ⟨e, ⟨ta, tn, v', rfl, hm, hvr⟩, htk⟩ := (ev ▸ hlog).at
      refine ⟨ta, _, _, rfl, hJ.1 _ (.tail _ (.tail _ (.tail _ (.tail _ hm)))), ?_⟩
      clear F9 N9
      intro I oI C oC D m2 h tk E' hC hx hy F10 N10 off ne
      have lt10 : ∀ p ∈ (I, oI) :: (C, oC) :: (D, LCg.lst ys) :: nw, p.1 < h.objs.size := fun p hp => Heap.lt_size (N10 p hp).1
      k_steps
      · rename Fr _ _ _ _ => F11
        rename News _ _ _ _ => N11
        rename (e.1 != Str.ofString "U") = true => hU
        exact LCg.CompEnd.intro F11 N11 _ rot4 ⟨⟨Nat.ne_of_gt (lt10 _ (.head _)), Nat.ne_of_gt (lt10 _ (.tail _ (.head _))), Nat.ne_of_gt (lt10 _ (.tail _ (.tail _ (.head _))))⟩, LCg.Off3.of off⟩ (.tail _ (hJ.1 _ (.head _))) (hJ.keep htk hU hvr)
      · rename (e.1 != Str.ofString "U") = false => hU
        exact LCg.CompEnd.intro F10 N10 nw (fun _ h => h) (LCg.Off3.of off) (hJ.1 _ (.head _)) (hJ.skip htk hU)
    case fin1 =>
      intro ys nw hJ
      obtain ⟨hsub, hys⟩ := hJ
      rw [all2_length hlog, List.take_length, hbeg] at hys
      clear F9 N9
      intro D1 h tk F10 N10 oD1
      replace N10 := kst_newsOf (l' := (D1, LCg.lst ys) :: (xl, listOf log'.toArray nl') :: (xh, instObj 407 xd) :: (xd, hostD h1 h2 h3 h4 h5 h6 t1 t2 _ t3 t4 t4' t5 tk5 t6 xv _ xl 9999 k') :: nw) N10 (List.forall_mem_cons.mpr ⟨.head _, List.forall_mem_cons.mpr ⟨.tail _ (hsub _ (.head _)), List.forall_mem_cons.mpr ⟨.tail _ (hsub _ (.tail _ (.head _))), List.forall_mem_cons.mpr ⟨.tail _ (hsub _ (.tail _ (.tail _ (.head _)))), fun p hp => .tail _ hp⟩⟩⟩⟩)
      k_unmd
      (try k_fold)
      k_steps
      unfold Hold
      rename Fr _ _ _ _ => F11
      rename News _ _ _ _ => N11
      rename IsRange _ _ _ _ _ _ _ _ => hR
      rename (_ : Nat) < _ ∧ _ < _ ∧ _ < _ ∧ _ < _ ∧ AllLt _ nw => l1
      k_dflt (refine iter_rangeUnr (n := (subjOf word).cps.size + 1) (by rfl) hR (small_range (subjOf_len hwl)) (by rw [rangeSize_nat, subjOf_size]; omega) F11 N11 ?_)
      intro I l2
      have hxI := Nat.ne_of_lt (l2 _ (.head _))
      refine RangeRest.inv (J2 _ _ I _ (subjOf word)) ?turn2 ?fin2 (J2.start l1 (fun p hp => l2 p (.tail _ hp)))
      case turn2 =>
        intro i m nw2 t h tk hi hJ F12 N12
        obtain ⟨o, ys2, nl, T2, rfl, rfl, hsub2, hne2, hnI2, hall2⟩ := hJ
        k_steps
        rename Fr _ _ _ _ => F13
        rename News _ _ _ _ => N13
        rename (_ : Nat) < _ ∧ _ < _ ∧ _ < _ ∧ _ < _ ∧ AllLt _ T2 => l3
        k_dflt (refine due_ext F13 N13 rfl (Nat.ne_of_lt (l2 _ (.head _))) l3 (Int.zero_add _) (by rw [Int.zero_add]; rfl) (Nat.le_trans (Nat.le_of_lt_succ hi) (Nat.le_trans (subjOf_len hwl) (by decide))) hsub2 hne2 hnI2 hall2 ?_)
        clear F13 N13
        intro h' ys3 nl3 T3 F13 N13 hsub3 hne3 hnI3 hall3
        k_steps
        rename Fr _ _ _ _ => F14
        rename News _ _ _ _ => N14
        exact UnrEnd.intro F14 N14 _ (fun _ h => h) (List.forall_mem_cons.mpr ⟨hxI, hnI3⟩) ⟨_, ys3, nl3, T3, two_many, rfl, hsub3, hne3, hnI3, hall3⟩
      case fin2 =>
        intro m nw2 h tk hJ F12 N12
        obtain ⟨o, ys2, nl, T2, rfl, rfl, hsub2, hne2, hnI2, hall2⟩ := hJ
        k_unmd
        (try k_fold)
        k_steps
        rename Fr _ _ _ _ => F13
        rename News _ _ _ _ => N13
        rw [dueOf_eq] at hys
        k_dflt (refine ne_logs_w (ys := ys) (zs := ys2) (log := dueN (subjOf word) ((subjOf word).cps.size + 1)) (n1 := ys.length) (n2 := nl) N13 ?ma ?mb ?la ?lb ?lu ?_)
        case ma => exact .tail _ (hsub2 _ (.head _))
        case mb => exact .head _
        case la => exact all2_mono (fun a b h => h.mono fun p hp => .tail _ (hsub2 _ (.tail _ (.tail _ (.tail _ (.tail _ hp)))))) hys
        case lb => exact all2_mono (fun a b h => h.mono fun p hp => .tail _ hp) hall2
        case lu => ktr_units
        replace N13 := kst_newsOf (l' := (xl, listOf log'.toArray nl') :: (xh, instObj 407 xd) :: (xd, hostD h1 h2 h3 h4 h5 h6 t1 t2 _ t3 t4 t4' t5 tk5 t6 xv _ xl 9999 k') :: T2) N13 (List.forall_mem_cons.mpr ⟨.tail _ (hsub2 _ (.tail _ (.head _))), List.forall_mem_cons.mpr ⟨.tail _ (hsub2 _ (.tail _ (.tail _ (.head _)))), List.forall_mem_cons.mpr ⟨.tail _ (hsub2 _ (.tail _ (.tail _ (.tail _ (.head _))))), fun p hp => .tail _ hp⟩⟩⟩)
        k_steps
        unfold Hold
        rename Fr _ _ _ _ => F14
        k_dflt (refine ListComp_PT F14 (by rfl) (by with_unfolding_all rfl) (by decide) (by rfl) (by decide) (by rfl) (by rfl) (by decide) ?_)
        show wpAny _ _ _ (fun xv s₁ => Hold _) _ _
        k_steps
        unfold Hold
        rename Fr _ _ _ _ => F15
        rename News _ _ _ _ => N15
        refine ⟨_, _, _, _, rfl, by rw [all2_length hlog, sizeLine_eq]; exact Nat.le_trans hll (by decide), F15, N15, .head _, fun g tk => ?_⟩
        have hlog3 : All2 (LogIn T2) log' st'.log := all2_mono (fun a b h => h.mono fun p hp => hsub2 _ (.tail _ (.tail _ (.tail _ (.tail _ (hsub _ (.tail _ (.tail _ (.tail _ (.tail _ hp))))))))) ) hlog
        refine PtRest.inv (J3 _ st'.log) ?turn3 ?fin3 (J3.start _ _)
        case turn3 =>
          intro pre v post ys nw ev hJ
          obtain ⟨e, ⟨ta, tn, v', rfl, hm, hvr⟩, htk⟩ := (ev ▸ hlog3).at
          refine ⟨ta, _, _, rfl, hJ.1 _ (.tail _ (.tail _ (.tail _ hm))), ?_⟩
          clear F15 N15
          intro I oI C oC D m2 h tk E' hC hx hy F16 N16 off ne
          k_steps
          · rename (e.1 == Str.ofString "U") = true => hU
            exact LCg.CompEnd.intro F16 N16 nw (fun _ h => h) (LCg.Off3.of off) (hJ.1 _ (.head _)) (hJ.keep htk hU hvr)
          · rename (e.1 == Str.ofString "U") = false => hU
            exact LCg.CompEnd.intro F16 N16 nw (fun _ h => h) (LCg.Off3.of off) (hJ.1 _ (.head _)) (hJ.skip htk hU)
        case fin3 =>
          intro ys nw hJ
          obtain ⟨hsub3, hys3⟩ := hJ
          rw [all2_length hlog, List.take_length, hus] at hys3
          clear F15 N15
          intro D3 h tk F16 N16 oD3
          k_steps
          rename Fr h₀ L _ _ => Fz
          rename News h₀ L _ _ => Nz
          refine hret D3 ys _ _ nw Fz Nz oD3 (fun p hp => ?_) (strs_of hys3)
          have q1 := hT _ (hnews p hp)
          have q2 := hsub _ (.tail _ (.tail _ (.tail _ (.tail _ q1))))
          have q3 := hsub2 _ (.tail _ (.tail _ (.tail _ (.tail _ q2))))
          exact hsub3 _ (.tail _ (.tail _ (.tail _ q3)))
end bord
end
section
section take
variable {w : World} {mean : ExcName → Option Value} {mg mb : Str → Option Value} {dp un : Nat} {gd : Option (List Code)} {cn : Str} {cs : Scope} {L a : Addr} {ccd : Value} {cl : List (Str × Addr)} {outer : List Env} {A₀ : Around} {base h₀ : Heap} {m : Str → Option Value} {s : Shared} {Q E : Value → Shared → Prop}
  {news : List (Addr × Obj)}
def IntV (v : Value) : Prop := ∃ i t, v = .int i t
set_option maxRecDepth 100000 in
set_option maxHeartbeats 8000000 in
theorem take_c {b q : Addr} {vs : List Value} {n wide : Int} {t tw : Tok} {nb nq : Nat} (B : Below A₀ base outer h₀) (F : Fr h₀ L s.heap m) (X : (stage.heap_1 w.params).In h₀) (N : News h₀ L s.heap ((b, listOf #[.ref q, .int n t] nb) :: (q, listOf vs.toArray nq) :: news))
  (T : Top hd.view_1 (looseW hd.view_1 [Str.ofString "SnobolError", Str.ofString "plain_count"]) mean mg mb h₀)
  (hk : cs.kind = .function) (hr : dp + 50 < recursionLimit) (hu : un + 200 < cLine) (hne : @Ne Nat b q) (hb : ∀ p ∈ news, p.1 ≠ b) (hq : ∀ p ∈ news, p.1 ≠ q) (hvs : ∀ v ∈ vs, IntV v) (hw : 0 < wide) (hw' : wide ≤ 100) (hl : vs.length ≤ 1000) (hn : 0 ≤ n) (hn' : n ≤ 1000)
  (ret : ∀ r tr vs' n' t' nb' nq' h' tk', Fr h₀ L h' m → News h₀ L h' ((b, listOf #[.ref q, .int n' t'] nb') :: (q, listOf (List.toArray vs') nq') :: news) → (∀ v ∈ vs', IntV v) → vs'.length ≤ 1000 → n' = n + 1 → 0 ≤ r → r < wide → Q (.int r tr) { s with heap := h', toks := tk' }) :
  wpAny (model PySem.Challenge.rw_sj0196_02.row.prog w) (ktrTop dp un gd cn cs L a ccd cl outer) (call (.ref 418) [.ref b, .int wide tw]) Q E s := by
  revert X; k_fill; intro X
  rcases vs with _ | ⟨v, vs⟩
  · k_steps
    rename Fr _ _ _ _ => F1
    rename News _ _ _ _ => N1
    exact ret _ _ [] _ _ _ _ _ _ F1 (kst_newsOf N1 fun p hp => .tail _ hp) hvs (Nat.zero_le _) rfl (Int.fmod_nonneg_of_pos _ hw) (Int.fmod_lt_of_pos _ hw)
  · obtain ⟨i, ti, rfl⟩ := hvs v (.head _)
    k_steps
    rename Fr _ _ _ _ => F1
    rename News _ _ _ _ => N1
    k_dflt (refine SeqAt.RcNeAt.lists_lengths (News.isList N1 (.tail _ (.tail _ (.head _)))) (News.isList N1 (.head _)) (by simp) (by ktr_units) _ _ _ _ ?_)
    k_steps
    rename Fr _ _ _ _ => F1
    rename News _ _ _ _ => N1
    rename (_ : Nat) < _ ∧ _ < _ ∧ AllLt _ news => l1
    k_dflt (refine kl_popAt (k := 0) (p := []) (y := .int i ti) (q := vs) F1 N1 (by decide) (by simp [seqIndex?]) rfl (.tail (Nat.ne_of_gt l1.2.1) (.tail hne (.head hq))) (by rw [sizeLine_eq]; exact Nat.le_trans hl (by decide)) ?_)
    clear F1 N1
    intro h' F1 N1
    k_steps
    rename Fr _ _ _ _ => F2
    rename News _ _ _ _ => N2
    exact ret _ _ vs _ _ _ _ _ _ F2 (kst_newsOf N2 fun p hp => .tail _ hp) (fun v h => hvs v (.tail _ h)) (Nat.le_of_succ_le hl) rfl (Int.fmod_nonneg_of_pos _ hw) (Int.fmod_lt_of_pos _ hw)
end take
end
section
section wd
variable {w : World} {mean : ExcName → Option Value} {mg mb : Str → Option Value} {dp un : Nat} {gd : Option (List Code)} {cn : Str} {cs : Scope} {L a : Addr} {ccd : Value} {cl : List (Str × Addr)} {outer : List Env} {A₀ : Around} {base h₀ : Heap} {m : Str → Option Value} {s : Shared} {Q E : Value → Shared → Prop}
  {news : List (Addr × Obj)}
local macro_rules | `(tactic| walk_at "call ref") => `(tactic| ((with_reducible show wpAny _ _ (call (Value.ref 418) _) _ _ _); refine Hold.out ?_))
theorem rot3a {α : Type} {a b c : α} {t : List α} : ∀ p ∈ a :: b :: c :: t, p ∈ c :: a :: b :: t := by
  intro p hp
  simp only [List.mem_cons] at hp ⊢
  rcases hp with h | h | h | h <;> simp [h]
local macro_rules | `(tactic| walk_at "eval ListComp") => `(tactic| refine Hold.out ?_)
local macro_rules | `(tactic| walk_at "CompSrc") => `(tactic| refine Hold.out ?_)
def SignV (y : Value) : Prop := ∃ x u, y = .str x u ∧ (x = Str.ofString "a" ∨ x = Str.ofString "b")
def JW (b q c : Addr) (oc : Obj) (news : List (Addr × Obj)) (n₀ : Int) (i : Nat) (ys : List Value) (nw : List (Addr × Obj)) : Prop :=
  ∃ (vs : List Value) (n : Int) (t : Tok) (nb nq : Nat), nw = (b, listOf #[.ref q, .int n t] nb) :: (q, listOf vs.toArray nq) :: (c, oc) :: news ∧ (∀ v ∈ vs, IntV v) ∧ vs.length ≤ 1000 ∧ n = n₀ + i ∧ ys.length = i ∧ ∀ y ∈ ys, SignV y
theorem rot5w {α : Type} {a b c x y : α} {t : List α} : ∀ p ∈ a :: b :: c :: x :: y :: t, p ∈ x :: y :: a :: b :: c :: t := by
  intro p hp
  simp only [List.mem_cons] at hp ⊢
  rcases hp with h | h | h | h | h | h <;> simp [h]
theorem rot5v {α : Type} {a b c x y : α} {t : List α} : ∀ p ∈ x :: y :: a :: b :: c :: t, p ∈ a :: b :: c :: x :: y :: t := by
  intro p hp
  simp only [List.mem_cons] at hp ⊢
  rcases hp with h | h | h | h | h | h <;> simp [h]
def ABw (x : Str) : Prop := x ∈ words
def parts : List Str := [1, 2, 3].flatMap wordsN
theorem parts_room : ∀ p ∈ parts, p.length ≤ 16 := by decide +kernel
theorem parts_mul : ∀ p ∈ parts, (Txt.mul p 6).length ≤ 18 := by decide +kernel
theorem parts_cut0 : ∀ p ∈ parts, ∀ n ∈ List.range 7, Txt.slice (Txt.mul p 6) none (some (6 - (n : Int))) ∈ words := by decide +kernel
theorem parts_cut (p : Str) (hp : p ∈ parts) (r : Int) (h0 : 0 ≤ r) (h7 : r < 7) : Txt.slice (Txt.mul p 6) none (some (6 - r)) ∈ words := by
  have := parts_cut0 p hp r.toNat (List.mem_range.mpr (by omega))
  rwa [Int.toNat_of_nonneg h0] at this
theorem words_item0 : ∀ x ∈ words, ∀ n ∈ List.range x.length, Txt.item x (n : Int) = Str.ofString "a" ∨ Txt.item x (n : Int) = Str.ofString "b" := by decide +kernel
theorem words_item (x : Str) (hx : x ∈ words) (i : Int) (h0 : 0 ≤ i) (h1 : i < (x.length : Int)) : Txt.item x i = Str.ofString "a" ∨ Txt.item x i = Str.ofString "b" := by
  have := words_item0 x hx i.toNat (List.mem_range.mpr (by omega))
  rwa [Int.toNat_of_nonneg h0] at this
theorem words_swap0 : ∀ x ∈ words, ∀ n ∈ List.range x.length, ∀ c ∈ [Str.ofString "a", Str.ofString "b"], isAB (Txt.slice x none (some (n : Int)) ++ c ++ Txt.slice x (some ((n : Int) + 1)) none) = true := by decide +kernel
theorem words_swap (x : Str) (hx : x ∈ words) (i : Int) (h0 : 0 ≤ i) (h1 : i < (x.length : Int)) (c : Str) (hc : c ∈ [Str.ofString "a", Str.ofString "b"]) : Txt.slice x none (some i) ++ c ++ Txt.slice x (some (i + 1)) none ∈ words := by
  have := mem_words (words_swap0 x hx i.toNat (List.mem_range.mpr (by omega)) c hc)
  rwa [Int.toNat_of_nonneg h0] at this
theorem sign_strs : ∀ {ys : List Value}, (∀ y ∈ ys, SignV y) → ∃ xs, StrsAre ys xs ∧ xs.length = ys.length ∧ ∀ x ∈ xs, x = Str.ofString "a" ∨ x = Str.ofString "b"
  | [], _ => ⟨[], .nil, rfl, fun _ h => nomatch h⟩
  | y :: ys, h => by
    obtain ⟨x, u, rfl, hx⟩ := h y (.head _)
    obtain ⟨xs, h1, h2, h3⟩ := sign_strs fun z hz => h z (.tail _ hz)
    exact ⟨x :: xs, .cons x u h1, by simp [h2], List.forall_mem_cons.mpr ⟨hx, h3⟩⟩
theorem join_parts {xs : List Str} (h1 : 1 ≤ xs.length) (h3 : xs.length ≤ 3) (h : ∀ x ∈ xs, x = Str.ofString "a" ∨ x = Str.ofString "b") : Txt.join (Str.ofString "") xs ∈ parts := by
  match xs, h1, h3, h with
  | [x], _, _, h =>
    rcases h x (by simp) with rfl | rfl <;> decide +kernel
  | [x, y], _, _, h =>
    rcases h x (by simp) with rfl | rfl <;> rcases h y (by simp) with rfl | rfl <;> decide +kernel
  | [x, y, z], _, _, h =>
    rcases h x (by simp) with rfl | rfl <;> rcases h y (by simp) with rfl | rfl <;> rcases h z (by simp) with rfl | rfl <;> decide +kernel
theorem join_room {xs : List Str} (h3 : xs.length ≤ 3) (h : ∀ x ∈ xs, x = Str.ofString "a" ∨ x = Str.ofString "b") : (xs.map (·.length)).sum + xs.length * (Str.ofString "").length ≤ 16777216 := by
  have e : (xs.map (·.length)).sum ≤ xs.length := by
    clear h3
    induction xs with
    | nil => simp
    | cons x xs ih =>
      have := ih fun z hz => h z (.tail _ hz)
      have hx : x.length = 1 := by rcases h x (.head _) with rfl | rfl <;> decide +kernel
      simp only [List.map_cons, List.sum_cons, List.length_cons]
      omega
  have e0 : (Str.ofString "").length = 0 := by decide +kernel
  rw [e0]
  omega
set_option maxRecDepth 100000 in
set_option maxHeartbeats 8000000 in
theorem word_c {b q : Addr} {vs : List Value} {n : Int} {t : Tok} {nb nq : Nat} (B : Below A₀ base outer h₀) (F : Fr h₀ L s.heap m) (X : (stage.heap_1 w.params).In h₀) (N : News h₀ L s.heap ((b, listOf #[.ref q, .int n t] nb) :: (q, listOf vs.toArray nq) :: news))
  (T : Top hd.view_1 (looseW hd.view_1 [Str.ofString "SnobolError", Str.ofString "plain_count"]) mean mg mb h₀)
  (hk : cs.kind = .function) (hr : dp + 100 < recursionLimit) (hu : un + 400 < cLine) (hne : @Ne Nat b q) (hb : ∀ p ∈ news, p.1 ≠ b) (hq : ∀ p ∈ news, p.1 ≠ q) (hvs : ∀ v ∈ vs, IntV v) (hl : vs.length ≤ 1000) (hn : 0 ≤ n) (hn' : n ≤ 100)
  (ret : ∀ x tx h' tk', Fr h₀ L h' m → News h₀ L h' news → ABw x → Q (.str x tx) { s with heap := h', toks := tk' }) :
  wpAny (model PySem.Challenge.rw_sj0196_02.row.prog w) (ktrTop dp un gd cn cs L a ccd cl outer) (call (.ref 423) [.ref b]) Q E s := by
  revert X; k_fill; intro X
  k_dflt (refine wpAny_call ?_)
  k_dflt (refine' code_defC ?k1 ?k2 ?k3 ?k4 ?k5 ?kA ?kF ?kK ?k6 ?k7 ?k8 ?k9 ?kB ?kD ?_ ?c2 ?c3 ?c4; (case kA => exact rfl); (case kF => exact rfl); (case kK => exact hk); (case k1 => k_asm); (case k2 => k_asm); (case k3 => k_asm); (case k4 => k_asm); (case k5 => k_asm); (case k6 => k_is); (case k7 => k_is); (case k8 => k_room); (case k9 => first | exact BindsTo.of_eq rfl | exact binds_K (by k_in) rfl (by k_is) rfl rfl rfl | fail "k_enter: no rule for these arguments"); (case kB => exact rfl); (case kD => decide +kernel); (case c2 => exact rfl); (case c3 => exact rfl); (case c4 => exact rfl); k_whole; intro g' L' h' tk' cells' FG' F' N' Y' B' X' T' l1; (try k_lt l1); k_cells Y'; (try simp only [List.cons_append, List.nil_append] at N'); (try dsimp only); (try k_lift B'); (try k_fold))
  k_steps
  unfold Hold
  rename Fr _ _ _ _ => F1
  k_dflt (refine LCg.ListComp_U F1 (by with_unfolding_all rfl) (by decide) (by rfl) (by decide) (by rfl) ?_)
  k_steps
  unfold Hold
  rename Fr _ _ _ _ => F1
  rename News _ _ _ _ => N1
  rename Below _ _ _ _ => B1
  rename Frag.In _ _ => X1
  rename Top _ _ _ _ _ _ => T1
  replace N1 := kst_newsOf (l' := (b, listOf #[.ref q, .int n t] nb) :: (q, listOf vs.toArray nq) :: (_, _) :: news) N1 rot3a
  k_dflt (refine take_c B1 F1 X1 N1 T1 (by first | assumption | exact rfl) (by k_room) (by ktr_units) hne (List.forall_mem_cons.mpr ⟨Nat.ne_of_gt (Nat.lt_succ_of_lt l1.1), hb⟩) (List.forall_mem_cons.mpr ⟨Nat.ne_of_gt (Nat.lt_succ_of_lt l1.2.1), hq⟩) hvs (by decide) (by decide) hl hn (Int.le_trans hn' (by decide)) ?_)
  clear F1 N1
  intro r tr vs' n' t' nb' nq' h' tk' F1 N1 hvs' hl' en h0 h3
  k_unmd
  (try k_fold)
  k_steps
  unfold Hold
  rename Fr _ _ _ _ => F2
  rename News _ _ _ _ => N2
  rename IsRange _ _ _ _ _ _ _ _ => hR
  k_dflt (refine LCg.CompSrc.range (n := (1 + r).toNat) (by rfl) F2 N2 hR (small_one (by omega) (by omega) (by omega) (by omega)) (by rw [rangeSize_nat, Int.sub_zero]) (by rw [sizeLine_eq]; omega) ?_)
  intro g2
  refine CompRest.inv (JW b q _ _ news n') ?turn ?fin ⟨vs', n', t', nb', nq', rfl, hvs', hl', by simp, rfl, fun _ h => nomatch h⟩
  case turn =>
    clear F2 N2 hR
    intro i v ys nw I oI C oC D m2 h tk E' hi hJ hv hC hx F3 N3 off ne
    obtain ⟨vs2, n2, tt2, nb2, nq2, rfl, hvs2, hl2, hn2, hy2, hys2⟩ := hJ
    replace N3 := kst_newsOf (l' := (b, listOf #[.ref q, .int n2 tt2] nb2) :: (q, listOf vs2.toArray nq2) :: (I, oI) :: (C, oC) :: (D, LCg.lst ys) :: (_, _) :: news) N3 rot5v
    have offb := off _ (.head _)
    have offq := off _ (.tail _ (.head _))
    have offc := off _ (.tail _ (.tail _ (.head _)))
    k_steps
    unfold Hold
    rename Fr _ _ _ _ => F4
    rename News _ _ _ _ => N4
    k_dflt (refine take_c B1 F4 X1 N4 T1 (by first | assumption | exact rfl) (by k_room) (by ktr_units) hne ?ob ?oq hvs2 (by decide) (by decide) hl2 (by omega) (by omega) ?_)
    case ob => exact List.forall_mem_cons.mpr ⟨Ne.symm offb.1, List.forall_mem_cons.mpr ⟨Ne.symm offb.2.1, List.forall_mem_cons.mpr ⟨Ne.symm offb.2.2, List.forall_mem_cons.mpr ⟨Nat.ne_of_gt (Nat.lt_succ_of_lt l1.1), hb⟩⟩⟩⟩
    case oq => exact List.forall_mem_cons.mpr ⟨Ne.symm offq.1, List.forall_mem_cons.mpr ⟨Ne.symm offq.2.1, List.forall_mem_cons.mpr ⟨Ne.symm offq.2.2, List.forall_mem_cons.mpr ⟨Nat.ne_of_gt (Nat.lt_succ_of_lt l1.2.1), hq⟩⟩⟩⟩
    clear F4 N4
    intro r2 tr2 vs3 n3 t3 nb3 nq3 h3' tk3 F5 N5 hvs3 hl3 en3 hr0 hr2
    have hr : r2 = 0 ∨ r2 = 1 := by omega
    rcases hr with rfl | rfl
    · k_steps
      exact LCg.CompEnd.intro F5 N5 _ rot5w ⟨offb, offq, offc, LCg.Off3.of fun p hp => off p (.tail _ (.tail _ (.tail _ hp)))⟩ trivial ⟨vs3, _, _, _, _, rfl, hvs3, hl3, by omega, by simp [hy2], fun y hy => (List.mem_append.mp hy).elim (hys2 y) fun hy => by rw [List.mem_singleton.mp hy]; exact ⟨_, _, rfl, Or.inl (by decide +kernel)⟩⟩
    · k_steps
      exact LCg.CompEnd.intro F5 N5 _ rot5w ⟨offb, offq, offc, LCg.Off3.of fun p hp => off p (.tail _ (.tail _ (.tail _ hp)))⟩ trivial ⟨vs3, _, _, _, _, rfl, hvs3, hl3, by omega, by simp [hy2], fun y hy => (List.mem_append.mp hy).elim (hys2 y) fun hy => by rw [List.mem_singleton.mp hy]; exact ⟨_, _, rfl, Or.inr (by decide +kernel)⟩⟩
  case fin =>
    intro ys nw hJ
    obtain ⟨vs2, n2, tt2, nb2, nq2, rfl, hvs2, hl2, hn2, hy2, hys2⟩ := hJ
    clear F2 N2 hR
    intro D h tk F3 N3 oD
    k_unmd
    (try k_fold)
    k_steps
    obtain ⟨xs, hx1, hx2, hx3⟩ := sign_strs hys2
    k_dflt (refine join_list (News.isList N3 (.head _)) hx1 (join_room (by omega) hx3) ?_)
    have hpart := join_parts (xs := xs) (by omega) (by omega) hx3
    generalize Txt.join (Str.ofString "") xs = part at hpart ⊢
    clear hx1 hx2 hx3 hys2 hy2
    replace N3 := kst_newsOf (l' := (b, listOf #[.ref q, .int n2 tt2] nb2) :: (q, listOf vs2.toArray nq2) :: (_, _) :: news) N3 (fun p hp => .tail _ hp)
    intro tp kp
    k_steps
    k_dflt (refine KXi.mul (n := part.length) rfl (parts_room part hpart) (by decide) (by decide) ?_)
    intro tm km _ _
    k_steps
    unfold Hold
    rename Fr _ _ _ _ => F4
    rename News _ _ _ _ => N4
    k_dflt (refine take_c B1 F4 X1 N4 T1 (by first | assumption | exact rfl) (by k_room) (by ktr_units) hne (List.forall_mem_cons.mpr ⟨Nat.ne_of_gt (Nat.lt_succ_of_lt l1.1), hb⟩) (List.forall_mem_cons.mpr ⟨Nat.ne_of_gt (Nat.lt_succ_of_lt l1.2.1), hq⟩) hvs2 (by decide) (by decide) hl2 (by omega) (by omega) ?_)
    clear F4 N4
    intro r2 tr2 vs3 n3 t3 nb3 nq3 h3' tk3 F5 N5 hvs3 hl3 en3 hr0 hr2
    k_steps
    rename Fr _ _ _ _ => F6
    rename News _ _ _ _ => N6
    k_dflt (refine slice_strN_ns (hsz := ?hsz) F6 N6 ?_)
    case hsz => rw [sizeLine_eq]; exact Nat.le_trans (parts_mul part hpart) (by decide)
    clear F6 N6
    have hword := parts_cut part hpart r2 hr0 hr2
    generalize Txt.slice (Txt.mul part 6) none (some (6 - r2)) = word at hword ⊢
    intro h7 t7 k7 F7 N7
    k_steps
    unfold Hold
    rename Fr _ _ _ _ => F4
    rename News _ _ _ _ => N4
    k_dflt (refine take_c B1 F4 X1 N4 T1 (by first | assumption | exact rfl) (by k_room) (by ktr_units) hne (List.forall_mem_cons.mpr ⟨Nat.ne_of_gt (Nat.lt_succ_of_lt l1.1), hb⟩) (List.forall_mem_cons.mpr ⟨Nat.ne_of_gt (Nat.lt_succ_of_lt l1.2.1), hq⟩) hvs3 (by decide) (by decide) hl3 (by omega) (by omega) ?_)
    clear F4 N4
    intro r4 tr4 vs4 n4 t4 nb4 nq4 h4' tk4 F5 N5 hvs4 hl4 en4 hr40 hr42
    have wl := words_len word hword
    k_steps
    · unfold Hold
      have w0 : word ≠ Str.ofString "" := by rename (word != Str.ofString "") = true => hz; exact bne_iff_ne.mp hz
      have wp := wl.2 w0
      rename Fr _ _ _ _ => F4
      rename News _ _ _ _ => N4
      k_dflt (refine take_c B1 F4 X1 N4 T1 (by first | assumption | exact rfl) (by k_room) (by ktr_units) hne (List.forall_mem_cons.mpr ⟨Nat.ne_of_gt (Nat.lt_succ_of_lt l1.1), hb⟩) (List.forall_mem_cons.mpr ⟨Nat.ne_of_gt (Nat.lt_succ_of_lt l1.2.1), hq⟩) hvs4 (by omega) (by omega) hl4 (by omega) (by omega) ?_)
      clear F4 N4
      intro sp tsp vs5 n5 t5 nb5 nq5 h5' tk5 F5 N5 hvs5 hl5 en5 hs0 hs1
      k_steps
      rcases words_item word hword sp hs0 hs1 with hit | hit
      · rw [hit]
        k_steps
        rename Fr h₀ L _ _ => Fz
        rename News h₀ L _ _ => Nz
        exact ret _ _ _ _ Fz (kst_newsOf Nz fun p hp => by simp [hp]) (words_swap word hword sp hs0 hs1 _ (by simp))
      · rw [hit]
        k_steps
        rename Fr h₀ L _ _ => Fz
        rename News h₀ L _ _ => Nz
        exact ret _ _ _ _ Fz (kst_newsOf Nz fun p hp => by simp [hp]) (words_swap word hword sp hs0 hs1 _ (by simp))
    all_goals (rename Fr h₀ L _ _ => Fz; rename News h₀ L _ _ => Nz; exact ret _ _ _ _ Fz (kst_newsOf Nz fun p hp => .tail _ (.tail _ (.tail _ hp))) hword)
end wd
end
section
def JG (T : List (Addr × Obj)) (word : Str) (i : Nat) (ys : List Value) (nw : List (Addr × Obj)) : Prop := nw = T ∧ All2 StrIs ys ((List.range i).map (signAt word))
theorem two_found {o o' : Option Value} {m₀ : Str → Option Value} : (fun y => if y = Str.ofString "found" then o else (fun y => if y = Str.ofString "found" then o' else m₀ y) y) = (fun y => if y = Str.ofString "found" then o else m₀ y) :=
  funext fun y => by by_cases h : y = Str.ofString "found" <;> simp [h]
def JT (word : Str) (B : List (Addr × Obj)) (cS I : Addr) (m₀ : Str → Option Value) (pre : List Value) (m : Str → Option Value) (nw : List (Addr × Obj)) : Prop :=
  ∃ (fa : Addr) (fs : List Value) (nf : Nat) (T : List (Addr × Obj)) (oS : Obj) (cv : Option Value), m = (fun y => if y = Str.ofString "found" then some (.ref fa) else m₀ y) ∧ nw = (fa, listOf fs.toArray nf) :: (cS, oS) :: T ∧ (∀ p ∈ B, p ∈ T) ∧ (∀ p ∈ T, p.1 ≠ cS) ∧
    (∀ p ∈ T, p.1 ≠ I) ∧ (∀ p ∈ T, p.1 ≠ fa) ∧ (@Ne Nat fa cS) ∧ (@Ne Nat fa I) ∧ oS.data = .cell cv ∧ All2 StrIs fs (grownN word pre.length)
theorem grown_len : ∀ word ∈ words, ∀ n ∈ List.range word.length, (grownN word n).length ≤ 100 ∧ ∀ b ∈ grownN word n, b.length ≤ n := by decide +kernel
theorem sign_len : ∀ word ∈ words, ∀ n ∈ List.range word.length, (signAt word n).length ≤ 1 := by decide +kernel
def JF (T : List (Addr × Obj)) (bs : List Str) (word sign : Str) (i : Nat) (ys : List Value) (nw : List (Addr × Obj)) : Prop := nw = T ∧ All2 StrIs ys (((bs.take i).filter fun b => Txt.item word (b.length : Int) == sign).map (· ++ sign))
theorem All2.get {α β : Type} {R : α → β → Prop} : ∀ {l : List α} {l' : List β} {i : Nat} {v : α}, All2 R l l' → l[i]? = some v → ∃ b, R v b ∧ l'.take (i + 1) = l'.take i ++ [b] ∧ b ∈ l'
  | _, _, 0, _, .cons (b := b) h _, e => by cases e; exact ⟨b, h, by simp, .head _⟩
  | _, _, i + 1, _, .cons (b := b) h t, e => by
    obtain ⟨x, h1, h2, h3⟩ := All2.get (i := i) t (by simpa using e)
    exact ⟨x, h1, by simp only [List.take_succ_cons, h2, List.cons_append], .tail _ h3⟩
  | _, _, _, _, .nil, e => by simp at e
theorem JT.start {word : Str} {D l' L' I : Addr} {oS oW : Obj} {ys : List Value} {news : List (Addr × Obj)} {m₀ : Str → Option Value} {tk : Tok} (l1 : ∀ p ∈ news, p.1 < L') (l2 : L' + 1 + 1 < l' ∧ L' + 1 < l' ∧ AllLt l' news)
    (lI : ∀ p ∈ (l', listOf #[.str (Str.ofString "") tk] 0) :: (L' + 1 + 1, oS) :: (D, LCg.lst ys) :: (L' + 1, oW) :: news, p.1 < I) (oD : LCg.Off1 D ((l', listOf #[.str (Str.ofString "") tk] 0) :: (L' + 1 + 1, oS) :: (L' + 1, oW) :: news)) (dS : oS.data = .cell none) :
    JT word ((D, LCg.lst ys) :: (L' + 1, oW) :: news) (L' + 1 + 1) I m₀ [] (fun y => if y = Str.ofString "found" then some (.ref l') else m₀ y) ((l', listOf #[.str (Str.ofString "") tk] 0) :: (L' + 1 + 1, oS) :: (D, LCg.lst ys) :: (L' + 1, oW) :: news) := by
  refine ⟨l', [_], 0, _, _, none, rfl, rfl, fun _ h => h, List.forall_mem_cons.mpr ⟨?_, List.forall_mem_cons.mpr ⟨Nat.ne_of_lt (Nat.lt_succ_self _), fun p hp => Nat.ne_of_lt (Nat.lt_succ_of_lt (Nat.lt_succ_of_lt (l1 p hp)))⟩⟩,
    fun p hp => Nat.ne_of_lt (lI p (.tail _ (.tail _ hp))), List.forall_mem_cons.mpr ⟨Ne.symm oD.1, List.forall_mem_cons.mpr ⟨Nat.ne_of_lt l2.2.1, fun p hp => Nat.ne_of_lt (allLt_mem l2.2.2 p hp)⟩⟩, Nat.ne_of_gt l2.1, Nat.ne_of_lt (lI _ (.head _)), dS, .cons ⟨_, rfl⟩ .nil⟩
  exact Ne.symm oD.2.1
theorem rotA {α : Type} {a b c : α} {t : List α} : ∀ p ∈ b :: c :: a :: t, p ∈ a :: b :: c :: t := by
  intro p hp
  simp only [List.mem_cons] at hp ⊢
  rcases hp with h | h | h | h <;> simp [h]
theorem rotT {α : Type} {o d3 d2 l f s : α} {t : List α} : ∀ p ∈ o :: d3 :: s :: d2 :: l :: f :: t, p ∈ d3 :: d2 :: l :: o :: f :: s :: t := by
  intro p hp
  simp only [List.mem_cons] at hp ⊢
  rcases hp with h | h | h | h | h | h | h <;> simp [h]
section offs
variable {D3 D2 l' I fa cS : Addr} {o2 o3 o o4 oS d3 : Obj} {T1 : List (Addr × Obj)}
theorem JT.offD (l4 : ∀ p ∈ (D2, o2) :: (l', o3) :: (I, o) :: (fa, o4) :: (cS, oS) :: T1, p.1 < D3) : ∀ p ∈ (D2, o2) :: (l', o3) :: (fa, o4) :: T1, p.1 ≠ D3 := by
  intro p hp
  refine Nat.ne_of_lt (l4 p ?_)
  simp only [List.mem_cons] at hp ⊢
  rcases hp with h | h | h | h <;> simp [h]
theorem JT.offI (n2 : @Ne Nat fa I) (l3 : I < l' ∧ fa < l' ∧ cS < l' ∧ AllLt l' T1) (l4 : ∀ p ∈ (D2, o2) :: (l', o3) :: (I, o) :: (fa, o4) :: (cS, oS) :: T1, p.1 < D3)
    (oD : LCg.Off1 D2 ((l', o3) :: (I, o) :: (fa, o4) :: (cS, oS) :: T1)) (hT2 : ∀ p ∈ T1, p.1 ≠ I) (nI : @Ne Nat cS I) : ∀ p ∈ (D3, d3) :: (cS, oS) :: (D2, o2) :: (l', o3) :: (fa, o4) :: T1, p.1 ≠ I :=
  List.forall_mem_cons.mpr ⟨Nat.ne_of_gt (l4 _ (.tail _ (.tail _ (.head _)))), List.forall_mem_cons.mpr ⟨nI, List.forall_mem_cons.mpr ⟨Ne.symm oD.2.1, List.forall_mem_cons.mpr ⟨Nat.ne_of_gt l3.1, List.forall_mem_cons.mpr ⟨n2, hT2⟩⟩⟩⟩⟩
theorem JT.offS (n1 : @Ne Nat fa cS) (l3 : I < l' ∧ fa < l' ∧ cS < l' ∧ AllLt l' T1) (oD : LCg.Off1 D2 ((l', o3) :: (I, o) :: (fa, o4) :: (cS, oS) :: T1)) (hT1 : ∀ p ∈ T1, p.1 ≠ cS) : ∀ p ∈ (D2, o2) :: (l', o3) :: (fa, o4) :: T1, p.1 ≠ cS :=
  List.forall_mem_cons.mpr ⟨Ne.symm oD.2.2.2.1, List.forall_mem_cons.mpr ⟨Nat.ne_of_gt l3.2.2.1, List.forall_mem_cons.mpr ⟨n1, hT1⟩⟩⟩
end offs
section gr
variable {w : World} {mean : ExcName → Option Value} {mg mb : Str → Option Value} {dp un : Nat} {gd : Option (List Code)} {cn : Str} {cs : Scope} {L a : Addr} {ccd : Value} {cl : List (Str × Addr)} {outer : List Env} {A₀ : Around} {base h₀ : Heap} {m : Str → Option Value} {s : Shared} {Q E : Value → Shared → Prop}
  {news : List (Addr × Obj)}
local macro_rules | `(tactic| walk_at "exec For Name ListComp cons nil") => `(tactic| refine Hold.out ?_)
local macro_rules | `(tactic| walk_at "eval ListComp") => `(tactic| refine Hold.out ?_)
local macro_rules | `(tactic| walk_at "binaryOp Add ref ref") => `(tactic| refine Hold.out ?_)
local macro_rules | `(tactic| walk_at "CompSrc") => `(tactic| refine Hold.out ?_)
local macro_rules | `(tactic| walk_at "CompSrcT") => `(tactic| refine Hold.out ?_)
local macro_rules | `(tactic| walk_at "pyIter ref") => `(tactic| ((with_reducible show wpAny _ _ (pyIter (Value.ref _)) (fun it s₂ => LoopAtV _ _ _ _ _ _ _ _ _ it s₂) _ _); refine Hold.out ?_))
set_option maxRecDepth 100000 in
set_option maxHeartbeats 8000000 in
theorem grown_c {word : Str} {ts : Tok} (B : Below A₀ base outer h₀) (F : Fr h₀ L s.heap m) (X : (stage.heap_1 w.params).In h₀) (N : News h₀ L s.heap news)
  (T : Top hd.view_1 (looseW hd.view_1 [Str.ofString "SnobolError", Str.ofString "plain_count"]) mean mg mb h₀)
  (hk : cs.kind = .function) (hr : dp + 100 < recursionLimit) (hu : un + 400 < cLine) (hw : word ∈ words)
  (ret : ∀ r ys nl h' tk' T1, Fr h₀ L h' m → News h₀ L h' ((r, listOf (List.toArray ys) nl) :: T1) → (∀ p ∈ T1, p.1 ≠ r) → (∀ p ∈ news, p ∈ T1) → All2 StrIs ys (grown word) → Q (.ref r) { s with heap := h', toks := tk' }) :
  wpAny (model PySem.Challenge.rw_sj0196_02.row.prog w) (ktrTop dp un gd cn cs L a ccd cl outer) (call (.ref 433) [.str word ts]) Q E s := by
  have wl := (words_len word hw).1
  revert X; k_fill; intro X
  k_dflt (refine wpAny_call ?_)
  k_dflt (refine' code_defC ?k1 ?k2 ?k3 ?k4 ?k5 ?kA ?kF ?kK ?k6 ?k7 ?k8 ?k9 ?kB ?kD ?_ ?c2 ?c3 ?c4; (case kA => exact rfl); (case kF => exact rfl); (case kK => exact hk); (case k1 => k_asm); (case k2 => k_asm); (case k3 => k_asm); (case k4 => k_asm); (case k5 => k_asm); (case k6 => k_is); (case k7 => k_is); (case k8 => k_room); (case k9 => first | exact BindsTo.of_eq rfl | exact binds_K (by k_in) rfl (by k_is) rfl rfl rfl | fail "k_enter: no rule for these arguments"); (case kB => exact rfl); (case kD => decide +kernel); (case c2 => exact rfl); (case c3 => exact rfl); (case c4 => exact rfl); k_whole; intro g' L' h' tk' cells' FG' F' N' Y' B' X' T' l1; (try k_lt l1); (obtain ⟨oS, oW, hE', dS, dW⟩ := PyProof.Rows.CellsAre.two Y'; subst hE'; clear Y'); (try simp only [List.cons_append, List.nil_append] at N'); (try dsimp only); (try k_lift B'); (try k_fold))
  k_steps
  rename Fr _ _ _ _ => F1
  rename News _ _ _ _ => N1
  unfold Hold
  k_dflt (refine For_turns F1 ?_)
  k_steps
  unfold Hold
  k_dflt (refine LCg.ListComp_U F1 (by with_unfolding_all rfl) (by decide) (by rfl) (by decide) (by rfl) ?_)
  k_steps
  unfold Hold
  rename Fr _ _ _ _ => F2
  rename News _ _ _ _ => N2
  rename IsRange _ _ _ _ _ _ _ _ => hR
  k_dflt (refine LCg.CompSrc.range (n := word.length) (by rfl) F2 N2 hR (small_one (by omega) (by omega) (by omega) (by omega)) (by rw [rangeSize_nat, Int.sub_zero]; omega) (by rw [sizeLine_eq]; omega) ?_)
  intro g2
  refine CompRest.inv (JG _ word) ?turn ?fin ⟨rfl, .nil⟩
  case turn =>
    intro i v ys nw I oI C oC D m2 h tk E' hi hJ hv hC hx F3 N3 off ne
    obtain ⟨rfl, hys⟩ := hJ
    obtain ⟨tv, rfl⟩ := hv
    clear F2 N2 hR
    k_steps
    rename Fr _ _ _ _ => F4
    rename News _ _ _ _ => N4
    exact LCg.CompEnd.intro F4 N4 _ (fun _ h => h) (LCg.Off3.of off) trivial ⟨rfl, by rw [List.range_succ, List.map_append]; exact all2_snoc hys ⟨_, by rw [Int.zero_add]; rfl⟩⟩
  case fin =>
    intro ys nw hJ
    obtain ⟨rfl, hys⟩ := hJ
    clear F2 N2 hR
    intro D h tk F3 N3 oD
    k_unmd
    (try k_fold)
    k_steps
    rename (_ : Nat) < _ ∧ _ < _ ∧ AllLt _ news => l2
    replace dW := dW.trans (show _ = Data.cell (some (.str word ts)) by with_unfolding_all rfl)
    replace dS := dS.trans (show _ = Data.cell none by with_unfolding_all rfl)
    replace N3 := kst_newsOf N3 rotA
    k_dflt (refine iter_listTurns (by rfl) F3 N3 (.tail _ (.tail _ (.head _))) rfl rfl ?_)
    intro I lI
    refine ItemsRest.inv (JT word _ _ I _) ?turn2 ?fin2 (JT.start l1 l2 lI oD dS)
    case fin2 =>
      intro m nw h tk hJ F5 N5
      obtain ⟨fa, fs, nf, T1, oS, cv, rfl, rfl, hsub, hT1, hT2, hfa, n1, n2, dS, hfs⟩ := hJ
      clear F3 N3
      k_unmd
      (try k_fold)
      k_steps
      rename Fr h₀ L _ _ => F6
      rename News h₀ L _ _ => N6
      have hl : ys.length = word.length := by rw [all2_length hys]; simp
      rw [hl] at hfs
      exact ret _ fs nf _ _ T1 F6 (kst_newsOf N6 fun p hp => by
        rcases List.mem_cons.mp hp with h | h
        · rw [h]; exact .head _
        · exact .tail _ (.tail _ h)) (fun p hp => hfa p hp) (fun p hp => hsub p (.tail _ (.tail _ hp))) hfs
    case turn2 =>
      intro pre v post m nw o h tk ev hJ ho F5 N5
      obtain ⟨fa, fs, nf, T1, oS, cv, rfl, rfl, hsub, hT1, hT2, hfa, n1, n2, dS, hfs⟩ := hJ
      clear F3 N3
      obtain ⟨tv, rfl⟩ : StrIs v (signAt word pre.length) := by
        obtain ⟨b, hb, htk, -⟩ := All2.get hys (i := pre.length) (v := v) (by rw [ev]; simp)
        have hpl : pre.length < word.length := by
          have e1 := congrArg List.length ev
          have e2 := all2_length hys
          simp only [List.length_append, List.length_cons, List.length_map, List.length_range] at e1 e2
          omega
        have e3 : b = signAt word pre.length := by
          rw [List.take_add_one, List.getElem?_map, List.getElem?_range hpl] at htk
          have := List.append_cancel_left htk
          simpa using this.symm
        rw [← e3]
        exact hb
      have nI : @Ne Nat I (L' + 1 + 1) := Nat.ne_of_gt (lI _ (.tail _ (.head _)))
      have hW : (L' + 1, oW) ∈ T1 := hsub _ (.tail _ (.head _))
      k_steps
      unfold Hold
      rename Fr _ _ _ _ => F6
      rename News _ _ _ _ => N6
      rename (Obj.data _ = Data.cell (some (Value.str (signAt word pre.length) _))) => dS2
      clear F5 N5 dS
      k_dflt (refine LCt.ListComp_T F6 (by with_unfolding_all rfl) (by decide) (by rfl) (by decide) (by rfl) ?_)
      k_steps
      unfold Hold
      rename _ ∧ _ ∧ _ ∧ AllLt _ T1 => l3
      have hpl : pre.length < word.length := by
        have e1 := congrArg List.length ev
        have e2 := all2_length hys
        simp only [List.length_append, List.length_cons, List.length_map, List.length_range] at e1 e2
        omega
      have hgl := grown_len word hw pre.length (List.mem_range.mpr hpl)
      have hfl : fs.length ≤ 100 := by rw [all2_length hfs]; exact hgl.1
      k_dflt (refine LCt.CompSrcT.ledger (by rfl) F6 N6 (.tail _ (.tail _ (.head _))) (by rw [List.size_toArray, sizeLine_eq]; omega) ?_)
      intro g
      refine CompRestT.inv (JF _ (grownN word pre.length) word (signAt word pre.length)) ?turn3 ?fin3 ⟨rfl, .nil⟩
      case turn3 =>
        intro i v ys2 nw I2 oI C oC D2 m2 h tk E' hi hJ hv hC hx F7 N7 off ne
        obtain ⟨rfl, hys2⟩ := hJ
        obtain ⟨b, ⟨tb, rfl⟩, htk, hbm⟩ := All2.get hfs (by simpa using hv)
        have hbl := hgl.2 b hbm
        have hsg := sign_len word hw pre.length (List.mem_range.mpr hpl)
        clear F6 N6
        k_steps
        k_dflt (refine KXi.item (n := word.length) rfl (by omega) (by omega) (by omega) ?_)
        intro _
        k_steps
        · rename Fr _ _ _ _ => F7
          rename News _ _ _ _ => N7
          rename (Txt.item word _ == signAt word pre.length) = true => hq
          exact LCg.CompEnd.intro F7 N7 _ (fun _ h => h) (LCg.Off3.of off) (.inr ⟨_, .tail _ (.tail _ (.head _)), rfl, _, rfl⟩) ⟨rfl, by rw [htk, List.filter_append, List.filter_cons_of_pos (p := fun b : Str => Txt.item word (b.length : Int) == signAt word pre.length) hq, List.filter_nil, List.map_append]; exact all2_snoc hys2 ⟨_, rfl⟩⟩
        · rename (Txt.item word _ == signAt word pre.length) = false => hq
          exact LCg.CompEnd.intro F7 N7 _ (fun _ h => h) (LCg.Off3.of off) (.inr ⟨_, .tail _ (.tail _ (.head _)), rfl, _, rfl⟩) ⟨rfl, by rw [htk, List.filter_append, List.filter_cons_of_neg (p := fun b : Str => Txt.item word (b.length : Int) == signAt word pre.length) (by rw [hq]; exact Bool.false_ne_true), List.filter_nil, List.append_nil]; exact hys2⟩
      case fin3 =>
        intro ys2 nw hJ
        obtain ⟨rfl, hys2⟩ := hJ
        clear F6 N6
        intro D2 h tk F7 N7 oD2
        have hyl := all2_length hys2
        have hyl2 := List.length_filter_le (fun b : Str => Txt.item word (b.length : Int) == signAt word pre.length) ((grownN word pre.length).take fs.length)
        rw [List.length_map] at hyl
        have hyl3 := List.length_take_le fs.length (grownN word pre.length)
        k_unmd
        (try k_fold)
        k_steps
        unfold Hold
        rename Fr _ _ _ _ => F7a
        rename News _ _ _ _ => N7a
        have hsz : ([Value.str (Str.ofString "") 0]).length + ys2.length ≤ 1000 := by
          have : ys2.length ≤ fs.length := by rw [hyl]; exact Nat.le_trans (List.length_filter_le _ _) (by have := List.length_take_le fs.toArray.size (grownN word pre.length); simpa using this)
          simp
          omega
        k_dflt (refine kmk_add_lit F7a N7a (News.isList N7a (.tail _ (.head _))) (News.isList N7a (.head _)) rfl ?_ (by rw [sizeLine_eq]; exact Nat.le_trans hsz (by decide)))
        intro D3 h3 F8 N8 l4
        k_steps
        rename Fr _ _ _ _ => F9
        rename News _ _ _ _ => N9
        refine UnrEndW.one F9 N9 _ (rotT (o := (I, o))) (JT.offI n2 l3 l4 oD2 hT2 (Ne.symm nI)) ⟨⟨.tail _ (.tail _ (.tail _ (.tail _ (.tail _ (hsub _ (.head _)))))), trivial⟩, ?_⟩
        refine ⟨D3, _, 0, _, _, _, two_found, rfl, fun p hp => .tail _ (.tail _ (.tail _ (hsub p hp))), JT.offS n1 l3 oD2 hT1, fun p hp => JT.offI (d3 := listOf #[] 0) n2 l3 l4 oD2 hT2 (Ne.symm nI) p (.tail _ (.tail _ hp)), JT.offD l4, Nat.ne_of_gt (l4 _ (.tail _ (.tail _ (.tail _ (.tail _ (.head _)))))), Nat.ne_of_gt (l4 _ (.tail _ (.tail _ (.head _)))), dS2, ?_⟩
        rw [List.length_append, List.length_singleton]
        have ht : (grownN word pre.length).take fs.toArray.size = grownN word pre.length := by rw [List.size_toArray, all2_length hfs, List.take_length]
        rw [ht] at hys2
        show All2 StrIs (Value.str (Str.ofString "") _ :: ys2) _
        exact .cons ⟨_, rfl⟩ hys2
end gr
end
section
theorem gcd_fmod (a b : Int) (ha : 0 ≤ a) (hb : 0 < b) : Int.gcd b (a.fmod b) = Int.gcd a b := by
  rw [Int.fmod_eq_emod_of_nonneg _ (Int.le_of_lt hb), Int.gcd_comm b]
  show Nat.gcd (a % b).natAbs b.natAbs = Nat.gcd a.natAbs b.natAbs
  have e : (a % b).natAbs = a.natAbs % b.natAbs := by
    obtain ⟨x, rfl⟩ := Int.eq_ofNat_of_zero_le ha
    obtain ⟨y, rfl⟩ := Int.eq_ofNat_of_zero_le (Int.le_of_lt hb)
    rw [← Int.natCast_emod]
    rfl
  rw [e, ← Nat.gcd_rec, Nat.gcd_comm]
section gr
variable {w : World} {mean : ExcName → Option Value} {mg mb : Str → Option Value} {dp un : Nat} {gd : Option (List Code)} {cn : Str} {cs : Scope} {L a : Addr} {ccd : Value} {cl : List (Str × Addr)} {outer : List Env} {A₀ : Around} {base h₀ : Heap} {m : Str → Option Value} {s : Shared} {Q E : Value → Shared → Prop}
  {news : List (Addr × Obj)}
set_option maxRecDepth 100000 in
set_option maxHeartbeats 8000000 in
theorem common_c {x y : Int} {tx ty : Tok} (B : Below A₀ base outer h₀) (F : Fr h₀ L s.heap m) (X : (stage.heap_1 w.params).In h₀) (N : News h₀ L s.heap news)
  (T : Top hd.view_1 (looseW hd.view_1 [Str.ofString "SnobolError", Str.ofString "plain_count"]) mean mg mb h₀)
  (hk : cs.kind = .function) (hr : dp + 100 < recursionLimit) (hu : un + 400 < cLine) (hx : 0 ≤ x) (hx' : x ≤ 100) (hy : 0 ≤ y) (hy' : y ≤ 100)
  (ret : ∀ t h' tk', Fr h₀ L h' m → News h₀ L h' news → Q (.int (Int.gcd x y : Nat) t) { s with heap := h', toks := tk' }) :
  wpAny (model PySem.Challenge.rw_sj0196_02.row.prog w) (ktrTop dp un gd cn cs L a ccd cl outer) (call (.ref 440) [.int x tx, .int y ty]) Q E s := by
  revert X; k_fill; intro X
  walk_at "call ref"
  rename Fr _ _ _ _ => F1
  rename News _ _ _ _ => N1
  refine wpAny_execs_cons ?_
  refine ksw_while (σ := (Int × Int) × (Tok × Tok)) (fun _ => news) (fun c => [(Str.ofString "other", .int c.1.2 c.2.2), (Str.ofString "one", .int c.1.1 c.2.1)]) (fun c => 0 ≤ c.1.1 ∧ c.1.1 ≤ 100 ∧ 0 ≤ c.1.2 ∧ c.1.2 ≤ 100 ∧ Int.gcd c.1.1 c.1.2 = Int.gcd x y) [] (fun _ => True) (fun c => c.1.2.toNat)
    ((x, y), (tx, ty)) F1 N1 ⟨hx, hx', hy, hy', rfl⟩ ?kk trivial ?_
  case kk => kst_all
  clear F1 N1
  rintro ⟨⟨a1, b1⟩, ⟨ta1, tb1⟩⟩ u2 h2 tk2 ⟨ha, ha', hb, hb', hg⟩ - F2 N2
  dsimp only at F2 N2 ha ha' hb hb' hg
  generalize hZ : KswPost _ _ _ _ _ _ _ _ _ _ _ _ = Z
  k_fold
  k_steps
  · rename Fr _ _ _ _ => F3
    rename News _ _ _ _ => N3
    rw [← hZ]
    have hb0 : 0 < b1 := by assumption
    refine ksw_end ((b1, a1.fmod b1), (_, _)) F3 N3 (fun _ hp => .tail _ hp) ⟨hb, hb', Int.fmod_nonneg_of_pos _ hb0, ?_, ?_⟩ (by kst_all) ?_ trivial ?_
    · have := Int.fmod_lt_of_pos a1 hb0
      dsimp only
      omega
    · dsimp only
      rw [gcd_fmod _ _ ha hb0]
      exact hg
    · intro z hz1 hz2
      have a1 : z ≠ Str.ofString "other" := hz1 (Str.ofString "other", _) (.head _)
      have a2 : z ≠ Str.ofString "one" := hz1 (Str.ofString "one", _) (.tail _ (.head _))
      simp only [if_neg a1, if_neg a2, kstB, hz2, Bool.false_eq_true, if_false]
    · dsimp only
      have h1 := Int.fmod_lt_of_pos a1 hb0
      have h2 := Int.fmod_nonneg_of_pos a1 hb0
      omega
  · rename Fr h₀ L _ _ => F3
    rename News h₀ L _ _ => N3
    have hb0 : b1 = 0 := by omega
    subst hb0
    have e : a1 = ((Int.gcd x y : Nat) : Int) := by rw [← hg, Int.gcd_zero_right]; omega
    rw [e]
    exact ret _ _ _ F3 N3
end gr
end
section
theorem run_facts {word : Str} (h : word ∈ words) : ∃ st k, run (subjOf word) 9999 1000 none { vals := [], log := [], pile := [([bPat], 0)] } 0 = some (st, k) ∧ st.log.length ≤ 10000 ∧ st.log.filter (fun e => e.1 ≠ Str.ofString "U") = dueOf (subjOf word) ∧ st.log.filter (fun e => e.1 = Str.ofString "U") = (grown word).map fun u => (Str.ofString "U", .str u) := by
  have e := runOk_all word h
  unfold runOk runOf at e
  split at e
  next => cases e
  next st k heq =>
    simp only [Bool.and_eq_true, decide_eq_true_eq] at e
    exact ⟨st, k, heq, e.1.1, e.1.2, e.2⟩
theorem ints_IntV {vs : List Value} {ns : List Int} (h : IntsAre vs ns) : ∀ v ∈ vs, IntV v := by
  induction h with
  | nil => intro v hv; cases hv
  | cons n t _ ih =>
    intro v hv
    rcases List.mem_cons.mp hv with rfl | hv
    · exact ⟨n, t, rfl⟩
    · exact ih v hv
theorem strs_are {ys : List Value} {us : List Str} (h : All2 StrIs ys us) : StrsAre ys us := by
  induction h with
  | nil => exact .nil
  | cons a _ ih => obtain ⟨t, rfl⟩ := a; exact .cons _ t ih
section nes
variable {prog : Program} {w : World} {A : Around} {E : Value → Shared → Prop} {s : Shared} {h₀ : Heap} {L : Addr} {m : Str → Option Value}
theorem all2_two {ys zs : List Value} {us : List Str} (ha : All2 StrIs ys us) (hb : All2 StrIs zs us) : ∀ (j : Nat) v v', ys[j]? = some v → zs[j]? = some v' → ∃ u t t', v = .str u t ∧ v' = .str u t' := by
  induction ha generalizing zs with
  | nil => intro j v v' h; simp at h
  | cons a _ ih =>
    cases hb with
    | cons b hb =>
      intro j v v' h h'
      cases j with
      | zero =>
        cases h; cases h'
        obtain ⟨t, rfl⟩ := a
        obtain ⟨t', rfl⟩ := b
        exact ⟨_, t, t', rfl, rfl⟩
      | succ j => exact ih hb j v v' (by simpa using h) (by simpa using h')
theorem ne_strs {T : List (Addr × Obj)} {ys zs : List Value} {us : List Str} {D x : Addr} {n1 n2 : Nat} {Q : Value → Shared → Prop} (N : News h₀ L s.heap T) (hy : (D, listOf ys.toArray n1) ∈ T) (hz : (x, listOf zs.toArray n2) ∈ T)
    (ha : All2 StrIs ys us) (hb : All2 StrIs zs us) (hu : A.units + 10 < cLine) (h : Q (.bool false) s) : wpAny (model prog w) A (compareOp .NotEq (.ref D) (.ref x)) Q E s := by
  have := SeqAt.RcNeAt.lists (A := A) (s := s) (e := fun _ => true) (News.isList N hy) (News.isList N hz) (by simp [all2_length ha, all2_length hb]) (by omega) (fun j h1 h2 => by
    obtain ⟨u, t, t', e1, e2⟩ := all2_two ha hb j _ _ (List.getElem?_eq_getElem (by simpa using h1)) (List.getElem?_eq_getElem (by simpa using h2))
    simp only [List.getElem_toArray, e1, e2]
    have q := SeqAt.EqAt.str_str (A := A.in1) (s := s) u t u t'
    rwa [beq_self_eq_true] at q)
  rw [List.all_eq_true.mpr (fun _ _ => rfl)] at this
  exact this prog w E Q h
end nes
theorem all2_nth {α β : Type} {R : α → β → Prop} {l : List α} {l' : List β} (x : All2 R l l') {i : Nat} {b : β} (h : l'[i]? = some b) : ∃ a, l[i]? = some a ∧ R a b := by
  induction x generalizing i with
  | nil => simp at h
  | cons a _ ih =>
    cases i with
    | zero => cases h; exact ⟨_, rfl, a⟩
    | succ i => simpa using ih (i := i) (by simpa using h)
theorem st_set {S : List Str} {x : Str} {v : Option Value} {u m₀ : Str → Option Value} (hx : S.contains x = true) : (fun z => if z = x then v else if S.contains z = true then u z else m₀ z) = fun z => if S.contains z = true then (if z = x then v else u z) else m₀ z := by
  funext z
  by_cases h : z = x
  · subst h; simp only [if_true, hx]
  · simp only [if_neg h]
def JM (S : List Str) (m₀ : Str → Option Value) (T : List (Addr × Obj)) (m : Str → Option Value) (nw : List (Addr × Obj)) : Prop := nw = T ∧ ∃ u : Str → Option Value, m = fun z => if S.contains z = true then u z else m₀ z
theorem JM.start {S : List Str} {m₀ : Str → Option Value} {T : List (Addr × Obj)} : JM S m₀ T m₀ T := ⟨rfl, m₀, funext fun z => by split <;> rfl⟩
theorem JM.sub {S : List Str} {m₀ m₁ : Str → Option Value} {u : Str → Option Value} {T : List (Addr × Obj)} {m : Str → Option Value} {S' : List Str} (h : JM S m₁ T m T) (hm : m₁ = fun z => if S'.contains z = true then u z else m₀ z) (hs : ∀ z, S.contains z = true → S'.contains z = true) : JM S' m₀ T m T := by
  obtain ⟨-, v, rfl⟩ := h
  refine ⟨rfl, fun z => if S.contains z = true then v z else u z, funext fun z => ?_⟩
  subst hm
  dsimp only
  by_cases h1 : S.contains z = true
  · rw [if_pos h1, if_pos (hs z h1), if_pos h1]
  · rw [if_neg h1]
    by_cases h2 : S'.contains z = true
    · simp only [if_pos h2, if_neg h1]
    · simp only [if_neg h2]
theorem JM.of {S : List Str} {m₀ m : Str → Option Value} {T : List (Addr × Obj)} (h : ∀ z, S.contains z = false → m z = m₀ z) : JM S m₀ T m T := ⟨rfl, m, funext fun z => by
  cases hz : S.contains z with
  | true => simp
  | false => simpa using h z hz⟩
theorem jm_rest {x : Str} {S S' : List Str} {v : Option Value} {u u' m₀ : Str → Option Value} (hx : S.contains x = true) (hs : ∀ z, S'.contains z = true → S.contains z = true) (z : Str) (hz : S.contains z = false) :
    (fun z => if S'.contains z = true then u z else if z = x then v else if S.contains z = true then u' z else m₀ z) z = m₀ z := by
  have h1 : S'.contains z = false := by
    cases h : S'.contains z with
    | false => rfl
    | true => rw [hs z h] at hz; cases hz
  have h2 : z ≠ x := fun e => by subst e; rw [hx] at hz; cases hz
  simp only [h1, hz, if_neg h2, Bool.false_eq_true, if_false]
theorem jm_two {x y : Str} {S : List Str} {v v' : Option Value} {u m₀ : Str → Option Value} (hx : S.contains x = true) (hy : S.contains y = true) (z : Str) (hz : S.contains z = false) :
    (fun z => if z = x then v else if z = y then v' else if S.contains z = true then u z else m₀ z) z = m₀ z := by
  have h1 : z ≠ x := fun e => by subst e; rw [hx] at hz; cases hz
  have h2 : z ≠ y := fun e => by subst e; rw [hy] at hz; cases hz
  simp only [if_neg h1, if_neg h2, hz, Bool.false_eq_true, if_false]
def IntIs (v : Value) (i : Int) : Prop := ∃ t, v = .int i t
def shorter (word b : Str) : Bool := decide ((b.length : Int) < (word.length : Int))
def JP (T : List (Addr × Obj)) (word : Str) (row : List Str) (i : Nat) (ys : List Value) (nw : List (Addr × Obj)) : Prop := nw = T ∧ All2 IntIs ys (((row.take i).filter (shorter word)).map fun b => (word.length : Int) - (b.length : Int))
theorem ints_are {ys : List Value} {ns : List Int} (h : All2 IntIs ys ns) : IntsAre ys ns := by
  induction h with
  | nil => exact .nil
  | cons a _ ih => obtain ⟨t, rfl⟩ := a; exact .cons _ t ih
section law
local macro_rules | `(tactic| walk_at "CompSrcT") => `(tactic| refine Hold.out ?_)
local macro_rules | `(tactic| walk_at "call ref") => `(tactic| ((with_reducible show wpAny _ _ (call (Value.ref 440) _) _ _ _); refine Hold.out ?_))
local macro_rules | `(tactic| walk_at "call ref") => `(tactic| ((with_reducible show wpAny _ _ (call (Value.ref 433) _) _ _ _); refine Hold.out ?_))
local macro_rules | `(tactic| walk_at "call ref") => `(tactic| ((with_reducible show wpAny _ _ (call (Value.ref 428) _) _ _ _); refine Hold.out ?_))
local macro_rules | `(tactic| walk_at "call ref") => `(tactic| ((with_reducible show wpAny _ _ (call (Value.ref 423) _) _ _ _); refine Hold.out ?_))
local macro_rules | `(tactic| walk_at "compareOp NotEq ref ref") => `(tactic| refine Hold.out ?_)
local macro_rules | `(tactic| walk_at "compareOp NotIn int ref") => `(tactic| refine Hold.out ?_)
local macro_rules | `(tactic| walk_at "exec For Name Name cons nil") => `(tactic| refine Hold.out ?_)
local macro_rules | `(tactic| walk_at "pyIter ref") => `(tactic| ((with_reducible show wpAny _ _ (pyIter (Value.ref _)) (fun it s₂ => LoopAtV _ _ _ _ _ _ _ _ _ it s₂) _ _); refine Hold.out ?_))
local macro_rules | `(tactic| walk_at "exec Assign cons ListComp") => `(tactic| refine Hold.out ?_)
local macro_rules | `(tactic| walk_at "subscriptTail") => `(tactic| ((with_reducible show wpAny _ _ (subscriptTail _ _ (Value.ref _) (Value.int _ _)) _ _ _); refine Hold.out ?_))
local macro_rules | `(tactic| walk_at "call builtin:len") => `(tactic| ((with_reducible show wpAny _ _ (call (Value.builtin "len") [Value.ref _]) _ _ _); refine Hold.out ?_))
local macro_rules | `(tactic| k_qdec) => `(tactic| kernel_rfl)
set_option maxRecDepth 100000 in
set_option maxHeartbeats 8000000 in
theorem law_holds : PySem.Challenge.rw_sj0196_02.Holds := hd (by
  k_go0
  all_goals try k_fold
  k_steps
  unfold Hold
  rename Fr _ _ _ _ => F1
  rename News _ _ _ _ => N1
  rename Frag.In _ _ => X1
  rename Top _ _ _ _ _ _ => T1
  rename Below _ _ _ _ => B1
  rename IntsAre _ (List.take 20 _) => hI1
  rename (List.take 20 _).length = _ => hI2
  rename _ < _ ∧ _ < _ ∧ _ < _ => l2
  rename _ < _ ∧ _ < _ => l3
  k_dflt (refine word_c B1 F1 X1 N1 T1 (by first | assumption | exact rfl) (by k_room) (by ktr_units) (Nat.ne_of_gt l2.1) (List.forall_mem_cons.mpr ⟨Nat.ne_of_lt l2.2.1, List.forall_mem_cons.mpr ⟨Nat.ne_of_lt l2.2.2, List.forall_mem_nil _⟩⟩) (List.forall_mem_cons.mpr ⟨Nat.ne_of_lt l3.1, List.forall_mem_cons.mpr ⟨Nat.ne_of_lt l3.2, List.forall_mem_nil _⟩⟩) (ints_IntV hI1) ?hl (by decide) (by decide) ?_)
  case hl =>
    rw [hI1.length]
    omega
  clear F1 N1
  intro word tw h' tk' F1 N1 hw
  have hw' : word ∈ words := hw
  obtain ⟨st', k', hrun, hll, hbeg, hus⟩ := run_facts hw'
  have hwl := (words_len word hw').1
  k_unmd
  (try k_fold)
  k_steps
  unfold Hold
  rename Fr _ _ _ _ => F2
  rename News _ _ _ _ => N2
  k_dflt (refine borders_c B1 F2 X1 N2 T1 (by first | assumption | exact rfl) (by k_room) (by ktr_units) hwl hrun hll hbeg hus ?_)
  clear F2 N2 hrun hll hbeg hus st' k'
  intro r ys h' tk' T2 F2 N2 hr hT2 hys
  have hW := hT2 _ (.tail _ (.head _))
  k_unmd
  (try k_fold)
  k_steps
  unfold Hold
  rename Fr _ _ _ _ => F3
  rename News _ _ _ _ => N3
  k_dflt (refine grown_c B1 F3 X1 N3 T1 (by first | assumption | exact rfl) (by k_room) (by ktr_units) hw' ?_)
  clear F3 N3
  intro r2 ys2 nl2 h' tk' T3 F3 N3 hr2 hT3 hys2
  obtain ⟨⟨hg1, hg2⟩, hg3, hg4, hg5, hg6⟩ := row_facts hw'
  have hyl : ys.length = (grown word).length := all2_length hys
  k_unmd
  (try k_fold)
  k_steps
  unfold Hold
  rename Fr _ _ _ _ => F4
  rename News _ _ _ _ => N4
  k_dflt (refine ne_strs N4 (.tail _ (hT3 _ (.head _))) (.head _) hys hys2 (by ktr_units) ?_)
  replace N4 : News _ _ _ [_, _] := kst_newsOf N4 (List.forall_mem_cons.mpr ⟨.tail _ (hT3 _ (.head _)), List.forall_mem_cons.mpr ⟨.tail _ (hT3 _ (.tail _ hW)), List.forall_mem_nil _⟩⟩)
  clear hr hr2 hys2 hT2 hT3 hW
  k_unmd
  (try k_fold)
  k_steps
  unfold Hold
  k_dflt (refine len_ledger (n := ys.length) N4 (.head _) hyl (by omega) ?_)
  k_steps
  unfold Hold
  rename Fr _ _ _ _ => F5
  rename News _ _ _ _ => N5
  rename IsRange _ _ _ _ _ _ _ _ => hR
  k_dflt (refine iter_rangeUnr (n := (grown word).length - 1) (by rfl) hR (small_one (by omega) (by omega) (by omega) (by omega)) (by rw [rangeSize_nat]; omega) F5 N5 ?_)
  intro I1 l1
  refine RangeRest.inv (fun _ => JM [Str.ofString "at"] _ _) ?turn1 ?fin1 JM.start
  case turn1 =>
    intro i m nw t h tk hi hJ F6 N6
    obtain ⟨rfl, u, rfl⟩ := hJ
    clear F5 N5 hR
    obtain ⟨a, b, hb, ha, hst, hen⟩ := hg3 i (by omega)
    obtain ⟨vb, hvb, tb, rfl⟩ := all2_nth hys hb
    obtain ⟨va, hva, ta, rfl⟩ := all2_nth hys ha
    have hi2 : (grown word).length ≤ 100 := hg1
    k_steps
    unfold Hold
    rename Fr _ _ _ _ => F7
    rename News _ _ _ _ => N7
    k_dflt (refine item_listL (l := ys) (News.isList N7 (by walk_at "memx")) (by omega) (by omega) (show ys[(0 + (i : Int) + 1).toNat]? = some _ by rw [show ((0 : Int) + (i : Int) + 1).toNat = i + 1 by omega]; exact hva) ?_)
    k_steps
    unfold Hold
    rename Fr _ _ _ _ => F8
    rename News _ _ _ _ => N8
    k_dflt (refine item_listL (l := ys) (News.isList N8 (by walk_at "memx")) (by omega) (by omega) (show ys[(0 + (i : Int)).toNat]? = some _ by rw [show ((0 : Int) + (i : Int)).toNat = i by omega]; exact hvb) ?_)
    k_steps
    unfold Hold
    rename Fr _ _ _ _ => F9
    rename News _ _ _ _ => N9
    k_dflt (refine item_listL (l := ys) (News.isList N9 (by walk_at "memx")) (by omega) (by omega) (show ys[(0 + (i : Int) + 1).toNat]? = some _ by rw [show ((0 : Int) + (i : Int) + 1).toNat = i + 1 by omega]; exact hva) ?_)
    k_steps
    unfold Hold
    rename Fr _ _ _ _ => F10
    rename News _ _ _ _ => N10
    k_dflt (refine item_listL (l := ys) (News.isList N10 (by walk_at "memx")) (by omega) (by omega) (show ys[(0 + (i : Int)).toNat]? = some _ by rw [show ((0 : Int) + (i : Int)).toNat = i by omega]; exact hvb) ?_)
    k_steps
    rename Fr _ _ _ _ => F11
    rename News _ _ _ _ => N11
    exact UnrEnd.intro F11 N11 _ (fun _ h => h) (fun p hp => Nat.ne_of_lt (l1 p hp)) ⟨rfl, _, st_set (by rfl)⟩
  case fin1 =>
    intro m nw h tk hJ F6 N6
    obtain ⟨rfl, u, rfl⟩ := hJ
    clear F5 N5 hR
    k_unmd
    (try k_fold)
    k_steps
    unfold Hold
    rename Fr _ _ _ _ => F7
    k_dflt (refine LCt.Assign_ListComp_T F7 (by rfl) (by with_unfolding_all rfl) (by with_unfolding_all rfl) (by decide) (by rfl) (by decide) (by rfl) (by rfl) (by rfl) ?_)
    k_steps
    unfold Hold
    rename Fr _ _ _ _ => F8
    rename News _ _ _ _ => N8
    k_dflt (refine LCt.CompSrcT.ledger (by rfl) F8 N8 (.head _) (by rw [List.size_toArray, sizeLine_eq]; omega) ?_)
    intro g
    refine CompRestT.inv (JP _ word (grown word)) ?turn2 ?fin2 ⟨rfl, .nil⟩
    case turn2 =>
      intro i v ys2 nw I2 oI C oC D2 m2 h tk E' hi hJ hv hC hx F9 N9 off ne
      obtain ⟨rfl, hys2⟩ := hJ
      obtain ⟨b, ⟨tb, rfl⟩, htk, hbm⟩ := All2.get hys (by simpa using hv)
      have hbl := hg4 b hbm
      clear F8 N8
      k_steps
      · rename Fr _ _ _ _ => F9
        rename News _ _ _ _ => N9
        rename (b.length : Int) < _ => hq
        exact LCg.CompEnd.intro F9 N9 _ (fun _ h => h) (LCg.Off3.of off) (.inr ⟨_, .head _, rfl, _, rfl⟩) ⟨rfl, by rw [htk, List.filter_append, List.filter_cons_of_pos (p := shorter word) (decide_eq_true hq), List.filter_nil, List.map_append]; exact all2_snoc hys2 ⟨_, rfl⟩⟩
      · rename Fr _ _ _ _ => F9
        rename News _ _ _ _ => N9
        rename ¬ (b.length : Int) < _ => hq
        exact LCg.CompEnd.intro F9 N9 _ (fun _ h => h) (LCg.Off3.of off) (.inr ⟨_, .head _, rfl, _, rfl⟩) ⟨rfl, by rw [htk, List.filter_append, List.filter_cons_of_neg (p := shorter word) (by unfold shorter; rw [decide_eq_false hq]; exact Bool.false_ne_true), List.filter_nil, List.append_nil]; exact hys2⟩
    case fin2 =>
      intro ys2 nw hJ
      obtain ⟨rfl, hys2⟩ := hJ
      replace hys2 : All2 IntIs ys2 (periodsOf word) := by
        rw [List.size_toArray, hyl, List.take_length] at hys2
        exact hys2
      clear F8 N8
      intro D2 h tk F9 N9 oD2
      k_unmd
      (try k_fold)
      k_steps
      unfold Hold
      rename Fr _ _ _ _ => F10
      rename News _ _ _ _ => N10
      k_dflt (refine For_turns F10 ?_)
      k_steps
      rename Fr _ _ _ _ => F11
      rename News _ _ _ _ => N11
      k_dflt (refine iter_listTurns (by rfl) F11 N11 (by walk_at "memx") rfl rfl ?_)
      intro I lI
      refine ItemsRest.inv (fun _ => JM [Str.ofString "one", Str.ofString "other", Str.ofString "common"] _ _) ?turn3 ?fin3 JM.start
      case fin3 =>
        intro m nw h tk hJ F12 N12
        obtain ⟨rfl, u2, rfl⟩ := hJ
        clear F11 N11
        k_unmd
        (try k_fold)
        k_steps
      case turn3 =>
        intro pre v post m nw o h tk ev hJ ho F12 N12
        obtain ⟨rfl, u2, rfl⟩ := hJ
        clear F11 N11
        obtain ⟨one, ⟨t1, rfl⟩, -, hone⟩ := All2.get hys2 (i := pre.length) (v := v) (by rw [ev]; simp)
        k_steps
        unfold Hold
        rename Fr _ _ _ _ => F13
        rename News _ _ _ _ => N13
        k_dflt (refine For_turns F13 ?_)
        k_steps
        rename Fr _ _ _ _ => F14
        rename News _ _ _ _ => N14
        k_dflt (refine iter_listTurns (by rfl) F14 N14 (by walk_at "memx") rfl rfl ?_)
        intro I2 lI2
        refine ItemsRest.inv (fun _ => JM [Str.ofString "other", Str.ofString "common"] _ _) ?turn4 ?fin4 JM.start
        case fin4 =>
          intro m nw h tk hJ F15 N15
          obtain ⟨rfl, u3, rfl⟩ := hJ
          clear F14 N14
          k_unmd
          (try k_fold)
          k_steps
          rename Fr _ _ _ _ => F16
          rename News _ _ _ _ => N16
          refine UnrEndW.one F16 N16 _ (fun _ h => h) (fun p hp => Nat.ne_of_lt (lI p hp)) ⟨⟨.head _, trivial⟩, JM.of (jm_rest (by rfl) ?_)⟩
          intro z hz
          simp at hz ⊢
          rcases hz with h | h <;> simp [h]
        case turn4 =>
          intro pre2 v post m nw o2 h tk ev2 hJ ho2 F15 N15
          obtain ⟨rfl, u3, rfl⟩ := hJ
          clear F14 N14
          obtain ⟨other, ⟨t2, rfl⟩, -, hother⟩ := All2.get hys2 (i := pre2.length) (v := v) (by rw [ev2]; simp)
          k_steps
          unfold Hold
          rename Fr _ _ _ _ => F16
          rename News _ _ _ _ => N16
          have hb1 := hg5 one hone
          have hb2 := hg5 other hother
          k_dflt (refine common_c B1 F16 X1 N16 T1 (by first | assumption | exact rfl) (by k_room) (by ktr_units) hb1.1 (by omega) hb2.1 (by omega) ?_)
          clear F16 N16
          intro tg h2 tk2 F16 N16
          have hgc := hg6 one hone other hother
          have hgl : Int.gcd one other ≤ 12 := by
            rcases Int.lt_or_eq_of_le hb1.1 with h | h
            · have := Int.gcd_le_natAbs_left (a := one) other (by omega)
              omega
            · subst h
              rw [Int.gcd_zero_left]
              omega
          generalize Int.gcd one other = gc at hgc hgl ⊢
          k_unmd
          (try k_fold)
          k_steps
          · unfold Hold
            rename Fr _ _ _ _ => F17
            rename News _ _ _ _ => N17
            k_dflt (refine notin_list_ints (News.isList N17 (.tail _ (.tail _ (.head _)))) (ints_are hys2) ?_)
            rw [hgc (by assumption)]
            k_unmd
            (try k_fold)
            k_steps
            rename Fr _ _ _ _ => F18
            rename News _ _ _ _ => N18
            exact UnrEndW.one F18 N18 _ (fun _ h => h) (fun p hp => Nat.ne_of_lt (lI2 p hp)) ⟨⟨.tail _ (.head _), trivial⟩, JM.of (jm_two (by rfl) (by rfl))⟩
          · rename Fr _ _ _ _ => F18
            rename News _ _ _ _ => N18
            exact UnrEndW.one F18 N18 _ (fun _ h => h) (fun p hp => Nat.ne_of_lt (lI2 p hp)) ⟨⟨.tail _ (.head _), trivial⟩, JM.of (jm_two (by rfl) (by rfl))⟩)
end law
end
end
end Mine
theorem PySem.Challenge.cw_sj0196_02_holds : PySem.Challenge.rw_sj0196_02.Holds :=
  Mine.law_holds
