import PyProof.Rows.All
import Wide.All
import OpenK.AllK
import Wide.FinOn
import Lean
import PySem.Challenge.RW_nt0557_01
open PySem PySem.W PySem.Calls PyProof.Rows
set_option Elab.async false
set_option maxRecDepth 100000
set_option maxHeartbeats 8000000
namespace Mine
/-- the items but those at the places told -/
def without (no : List Nat) : Nat → List Stmt → List Stmt
  | _, [] => []
  | i, s :: l => bif no.contains i then without no (i + 1) l else s :: without no (i + 1) l
/-- the text but the rows that bind the module's name again -/
def view : Program := { PySem.Challenge.pw_nt0557_01 with main := { PySem.Challenge.pw_nt0557_01.main with body := without [0, 10, 26, 31, 34, 38] 0 PySem.Challenge.pw_nt0557_01.main.body } }
/-- the top's run over a heap told as a tree -/
def topRunT (tb : String → Option Builtin) (p : Program) (w : World) (n₀ : Nat) (ann : Option Value) : Nat → SharedT → Thread → Option SharedT
  | 0, _, _ => none
  | n + 1, s, t => match through t with
    | true => some s
    | false => match stepOk n₀ ann t with
      | false => none
      | true => match stepT (denote tb) p w s t with
        | some (s', t') => topRunT tb p w n₀ ann n s' t'
        | none => none
theorem topRun_of {tb : String → Option Builtin} {p : Program} {w : World} {n₀ : Nat} {ann : Option Value} : ∀ {n : Nat} {s s' : SharedT} {t : Thread}, topRunT tb p w n₀ ann n s t = some s' → topRun tb p w n₀ ann n s.abs t = some s'.abs
  | 0, _, _, _, h => by cases h
  | n + 1, s, s', t, h => by
    unfold topRunT at h
    unfold topRun
    cases he : through t with
    | true => rw [he] at h; cases h; rfl
    | false =>
      rw [he] at h
      cases hk : stepOk n₀ ann t with
      | false => rw [hk] at h; cases h
      | true =>
        rw [hk] at h
        cases hs : stepT (denote tb) p w s t with
        | none => rw [hs] at h; cases h
        | some r => obtain ⟨s₂, t₂⟩ := r; rw [hs] at h; rw [stepT_spec hs]; exact topRun_of h
def treeUp : List Obj → Nat → BT → BT
  | [], _, t => t
  | o :: l, i, t => treeUp l (i + 1) (t.ins i o)
noncomputable def bootT (w : World) (os : OsState) : SharedT := ⟨treeUp (boot_heap w.params).objs.toList 0 .nil, (boot_heap w.params).objs.size, (boot_heap w.params).life, Array.mk [], boot_drawn, boot_toks, os⟩
theorem left_of_tree {p q : Program} {loose : List Str} {Xt : Shared → Bool} {α : Type} {Yf : Shared → α} {Ya : World → α} {N : Nat} {g0 : Bool} {m₀ : Nat} {ann : Option Value}
    (e : opening p = plainProg p.main.scope.names) (hN : Nat.ble 600 N = true) (f : ∀ s, fenceModules? p s = some s)
    (hb : ∀ w : World, absHeap (treeUp (boot_heap w.params).objs.toList 0 .nil) (boot_heap w.params).objs.size (boot_heap w.params).life = boot_heap w.params)
    (size : ∀ w : World, ((boot_heap w.params).isNs mainGlobals, (boot_heap w.params).objs.size, (boot_heap w.params).nsMap mainGlobals "__annotations__") = (true, m₀, ann))
    (h1 : ∀ (w : World) (os : OsState), (topRunT treeTable p w m₀ ann N (bootT w os) (topStub p)).map (fun s => (staticsOk (importedModules p.main.body) (boot_heap w.params) s.abs.heap && namesBound p s.abs.heap && gensDone s.abs && laidKept (boot_heap w.params) s.abs.heap, (openSeen q loose (importedModules p.main.body) Xt g0 s.abs).1)) = some (true, (openGood q loose).1))
    (h3 : ∀ (w : World) (os : OsState), (topRunT treeTable p w m₀ ann N (bootT w os) (topStub p)).map (fun s => (openSeen q loose (importedModules p.main.body) Xt g0 s.abs).2) = some (openGood q loose).2)
    (h2 : ∀ (w : World) (os : OsState), (topRunT treeTable p w m₀ ann N (bootT w os) (topStub p)).map (fun s => Yf s.abs) = some (Ya w)) :
    LeftO p q loose Xt Yf Ya N g0 := fun w => by
  obtain ⟨⟨hp, gs, d, k, os⟩, e1, e2⟩ := Option.map_eq_some_iff.mp (boot_open e hN f w)
  obtain ⟨rfl, rfl, rfl, rfl⟩ : hp = boot_heap w.params ∧ gs = Array.mk [] ∧ d = boot_drawn ∧ k = boot_toks := by simpa using e2
  obtain ⟨s', r1, r2⟩ := Option.map_eq_some_iff.mp (h1 w os)
  obtain ⟨s'', r3, l3⟩ := Option.map_eq_some_iff.mp (h2 w os)
  obtain rfl : s'' = s' := Option.some.inj (r3.symm.trans r1)
  obtain ⟨l1, l2⟩ : _ ∧ _ := by simpa only [Prod.mk.injEq] using r2
  obtain ⟨s4, r4, l4⟩ := Option.map_eq_some_iff.mp (h3 w os)
  have e4 : s4 = s'' := Option.some.inj (r4.symm.trans r1)
  rw [e4] at l4
  obtain ⟨z1, z2, z3⟩ : _ ∧ _ ∧ _ := by simpa only [Prod.mk.injEq] using size w
  have r := topRun_of r1
  have eb : (bootT w os).abs = ⟨boot_heap w.params, Array.mk [], boot_drawn, boot_toks, os⟩ := by unfold bootT SharedT.abs; rw [hb w]
  rw [eb] at r
  have t : topFrom treeTable p w N ⟨boot_heap w.params, Array.mk [], boot_drawn, boot_toks, os⟩ = some s''.abs := by
    unfold topFrom
    dsimp only
    rw [z1, z2, z3, r]
    show (match staticsOk (importedModules p.main.body) (boot_heap w.params) s''.abs.heap && namesBound p s''.abs.heap && gensDone s''.abs && laidKept (boot_heap w.params) s''.abs.heap with | true => _ | false => _) = _
    rw [l1]
  unfold openEnds
  rw [e1]
  show (topFrom treeTable p w N _).map _ = _
  rw [t]
  exact congrArg some (Prod.ext (Prod.ext l2 l4) l3)
theorem boot_size : ∀ w : World, ((boot_heap w.params).isNs mainGlobals, (boot_heap w.params).objs.size, (boot_heap w.params).nsMap mainGlobals "__annotations__") = (true, 11, some (.ref 6)) := by intro w; kernel_rfl
theorem boot_tree : ∀ w : World, absHeap (treeUp (boot_heap w.params).objs.toList 0 .nil) (boot_heap w.params).objs.size (boot_heap w.params).life = boot_heap w.params := by intro w; kernel_rfl
theorem seen_top : ∀ (w : World) (os : OsState), (topRunT treeTable PySem.Challenge.pw_nt0557_01 w 11 (some (.ref 6)) 4672 (bootT w os) (topStub PySem.Challenge.pw_nt0557_01)).map (fun s => (staticsOk (importedModules PySem.Challenge.pw_nt0557_01.main.body) (boot_heap w.params) s.abs.heap && namesBound PySem.Challenge.pw_nt0557_01 s.abs.heap && gensDone s.abs && laidKept (boot_heap w.params) s.abs.heap, (openSeen Mine.view [] (importedModules PySem.Challenge.pw_nt0557_01.main.body) (fun s => xlAt Mine.view [] s && recOk (RowW.records (OpenRow.toRowW (OpenLaw.row PySem.Challenge.rw_nt0557_01))) s) true s.abs).1)) = some (true, (openGood Mine.view []).1) := by
  intro w os; kernel_rfl
theorem seen_rest : ∀ (w : World) (os : OsState), (topRunT treeTable PySem.Challenge.pw_nt0557_01 w 11 (some (.ref 6)) 4672 (bootT w os) (topStub PySem.Challenge.pw_nt0557_01)).map (fun s => (openSeen Mine.view [] (importedModules PySem.Challenge.pw_nt0557_01.main.body) (fun s => xlAt Mine.view [] s && recOk (RowW.records (OpenRow.toRowW (OpenLaw.row PySem.Challenge.rw_nt0557_01))) s) true s.abs).2) = some (openGood Mine.view []).2 := by
  intro w os; kernel_rfl
theorem told : OpenLaw.wellSaid PySem.Challenge.rw_nt0557_01 = true := by kernel_rfl
local macro_rules | `(tactic| o_law) => `(tactic| refine holds_law Mine.told fun said => ?_)
local macro_rules | `(tactic| o_head $H) => do
  let (hw, hc) := (Lean.mkIdent `hw, Lean.mkIdent `hc)
  `(tactic| (refine holds_open (q := Mine.view) (loose := []) (Xt := fun s => xlAt Mine.view [] s && recOk (RowW.records (OpenRow.toRowW (OpenLaw.row PySem.Challenge.rw_nt0557_01))) s) (XP := XL Mine.view []) (Yf := Hook.obs $H) (Ya := Hook.val $H) (YP := Hook.says $H) (N := 4672) ?k1 (Hook.of $H) (Hook.keeps $H) (fun s e => xl_of s (Bool.and_eq_true_iff.mp e).1) XL.keeps (by rfl) (by rfl) (by rfl) (fun s e => recFacts_of (Bool.and_eq_true_iff.mp e).2) (by rfl) (by first | assumption | decide +kernel) (by decide +kernel) ⟨rfl, rfl, rfl, rfl, rfl, by decide +kernel⟩ ?$hw ?$hc; (case k1 => (refine left_of_tree (m₀ := 11) (ann := some (.ref 6)) ?k2 ?k3 ?k4 ?k5 ?k6 Mine.seen_top Mine.seen_rest ?k7; (case k2 => kernel_rfl); (case k3 => decide); (case k4 => (intro s; kernel_rfl)); (case k5 => exact Mine.boot_tree); (case k6 => exact Mine.boot_size); (case k7 => (intro w os; kernel_rfl))))))
open_top hd for PySem.Challenge.rw_nt0557_01
/-- a call that hands back a new list of ints -/
abbrev LRet (h₀ : Heap) (L : Addr) (m : Str → Option Value) (news : List (Addr × Obj)) (s : Shared) (Q : Value → Shared → Prop) (ns : List Int) : Prop :=
  ∀ (r : Addr) (ws : List Value) (c : Nat) (h' : Heap) (tk' : Nat), Fr h₀ L h' m → News h₀ L h' ((r, listOf ws.toArray c) :: news) → LCg.Off1 r news → IntsAre ws ns → Q (.ref r) { s with heap := h', toks := tk' }
/-- an int -/
abbrev IRet (h₀ : Heap) (L : Addr) (m : Str → Option Value) (news : List (Addr × Obj)) (s : Shared) (Q : Value → Shared → Prop) (x : Int) : Prop :=
  ∀ (t : Tok) (h' : Heap) (tk' : Nat), Fr h₀ L h' m → News h₀ L h' news → Q (.int x t) { s with heap := h', toks := tk' }
/-- a new tuple of four ints -/
abbrev TRet (h₀ : Heap) (L : Addr) (m : Str → Option Value) (news : List (Addr × Obj)) (s : Shared) (Q : Value → Shared → Prop) (x : Int × Int × Int × Int) : Prop :=
  ∀ (r : Addr) (t1 t2 t3 t4 : Tok) (c : Nat) (h' : Heap) (tk' : Nat), Fr h₀ L h' m → News h₀ L h' ((r, ({ cls := .type "tuple", data := .seq #[.int x.1 t1, .int x.2.1 t2, .int x.2.2.1 t3, .int x.2.2.2 t4] c } : Obj)) :: news) → (∀ p ∈ news, p.1 < r) → Q (.ref r) { s with heap := h', toks := tk' }

/-- what a call of the def at f owes, whoever calls -/
def Owes (k : Nat) (w : World) (f : Addr) (vs : List Value) (news : List (Addr × Obj)) (R : Heap → Addr → (Str → Option Value) → Shared → (Value → Shared → Prop) → Prop) : Prop :=
  ∀ (mean : ExcName → Option Value) (mg mb : Str → Option Value) (dp un : Nat) (gd : Option (List Code)) (cn : Str) (cs : Scope) (a : Addr) (ccd : Value) (cl : List (Str × Addr)) (outer : List Env) (A₀ : Around) (base h₀ : Heap) (L : Addr) (m : Str → Option Value) (s : Shared) (Q E : Value → Shared → Prop),
    Below A₀ base outer h₀ → Fr h₀ L s.heap m → (Mine.hd.heap_1 w.params).In h₀ → News h₀ L s.heap news → Top Mine.view (looseW Mine.view []) mean mg mb h₀ → cs.kind = .function →
    dp + k < recursionLimit → un + 8 * k < cLine → R h₀ L m s Q → wpAny (model PySem.Challenge.rw_nt0557_01.row.prog w) (ktrTop dp un gd cn cs L a ccd cl outer) (call (.ref f) vs) Q E s

theorem owes_use' {k : Nat} {w : World} {f : Addr} {vs : List Value} {news : List (Addr × Obj)} {R : Heap → Addr → (Str → Option Value) → Shared → (Value → Shared → Prop) → Prop}
    {mean : ExcName → Option Value} {mg mb : Str → Option Value} {dp un : Nat} {gd : Option (List Code)} {cn : Str} {cs : Scope} {a : Addr} {ccd : Value} {cl : List (Str × Addr)} {outer : List Env} {A₀ : Around} {base h₀ : Heap} {L : Addr} {m : Str → Option Value} {s : Shared} {Q E : Value → Shared → Prop}
    (B : Below A₀ base outer h₀) (F : Fr h₀ L s.heap m) (X : (Mine.hd.heap_1 w.params).In h₀) (N : News h₀ L s.heap news) (T : Top Mine.view (looseW Mine.view []) mean mg mb h₀) (hk : cs.kind = .function)
    (C : Owes k w f vs news R) (hd : dp + k < recursionLimit) (hu : un + 8 * k < cLine) (r : R h₀ L m s Q) :
    wpAny (model PySem.Challenge.rw_nt0557_01.row.prog w) (ktrTop dp un gd cn cs L a ccd cl outer) (call (.ref f) vs) Q E s := C _ _ _ _ _ _ _ _ _ _ _ _ _ _ _ _ _ _ _ _ B F X N T hk hd hu r
theorem news_dup {h₀ h : Heap} {L : Addr} {news : List (Addr × Obj)} {p : Addr × Obj} (N : News h₀ L h news) (hp : p ∈ news) : News h₀ L h (p :: news) := fun q hq => N q ((List.mem_cons.mp hq).elim (fun e => e ▸ hp) id)
theorem news_tail {h₀ h : Heap} {L : Addr} {news : List (Addr × Obj)} {p : Addr × Obj} (N : News h₀ L h (p :: news)) : News h₀ L h news := fun q hq => N q (.tail _ hq)

theorem off1_lt {r : Addr} : ∀ {l : List (Addr × Obj)}, AllLt r l → LCg.Off1 r l
  | [], _ => trivial
  | _ :: _, h => ⟨Nat.ne_of_lt h.1, off1_lt h.2⟩
theorem off1_all {r : Addr} : ∀ {l : List (Addr × Obj)}, LCg.Off1 r l → ∀ p ∈ l, p.1 ≠ r
  | [], _, _, h => nomatch h
  | _ :: _, x, p, h => (List.mem_cons.mp h).elim (fun e => e ▸ x.1) (off1_all x.2 p)
local macro_rules | `(tactic| walk_at "my enter") => `(tactic| first
  | (refine' code_def ?k1 ?k2 ?k3 ?k4 ?k5 ?kA ?kF ?kK ?k6 ?k7 ?k8 ?k9 ?kB ?_ ?c2 ?c3 ?c4 ?c5; (case kA => exact rfl); (case kF => exact rfl); (case kK => first | exact rfl | assumption); (case k1 => k_asm); (case k2 => k_asm); (case k3 => k_asm); (case k4 => k_asm); (case k5 => k_asm); (case k6 => k_is); (case k7 => k_is); (case k8 => ktr_room); (case k9 => exact BindsTo.of_eq rfl); (case c5 => decide); (case kB => exact locs rfl); (case c2 => exact rfl); (case c3 => exact rfl); (case c4 => exact rfl); k_whole; intro g' L' h' FG' F' N' B' X' T'; (try dsimp only); (try k_fold))
  | (refine' code_defC ?k1 ?k2 ?k3 ?k4 ?k5 ?kA ?kF ?kK ?k6 ?k7 ?k8 ?k9 ?kB ?kD ?_ ?c2 ?c3 ?c4; (case kA => exact rfl); (case kF => exact rfl); (case kK => first | exact rfl | assumption); (case k1 => k_asm); (case k2 => k_asm); (case k3 => k_asm); (case k4 => k_asm); (case k5 => k_asm); (case k6 => k_is); (case k7 => k_is); (case k8 => ktr_room); (case k9 => exact BindsTo.of_eq rfl); (case kB => exact rfl); (case kD => decide +kernel); (case c2 => exact rfl); (case c3 => exact rfl); (case c4 => exact rfl); k_whole; intro g' L' h' tk' cells' FG' F' N' Y' B' X' T' l1; (try k_lt l1); k_cells Y'; (try simp only [List.cons_append, List.nil_append] at N'); (try dsimp only); (try k_fold)))
local macro_rules | `(tactic| walk_at $s:str) => `(tactic| k_extra $s)
local macro_rules | `(tactic| lcg_off) => `(tactic| k_extra "lcg_off")
local macro_rules | `(tactic| lcg_src) => `(tactic| k_extra "lcg_src")
local macro_rules | `(tactic| k_all) => `(tactic| k_extra "k_all")
local macro_rules | `(tactic| mul_fits) => `(tactic| k_extra "mul_fits")
def dsc (n b : Int) : Int := (n + 1 * 2 ^ (b - 1).toNat).fdiv (2 ^ b.toNat)
def evenF (a b c d : Int) : Int × Int × Int × Int := (a + d + b + c, a + d - b - c, (a - d + (b - c)) * 4433 + (a - d) * 6270, (a - d + (b - c)) * 4433 - (b - c) * 15137)
def evenI (p h f t : Int) : Int × Int × Int × Int :=
  ((p + h) * 2 ^ 13 + ((f + t) * 4433 + f * 6270), (p - h) * 2 ^ 13 + ((f + t) * 4433 - t * 15137), (p - h) * 2 ^ 13 - ((f + t) * 4433 - t * 15137), (p + h) * 2 ^ 13 - ((f + t) * 4433 + f * 6270))
def oddF (a b c d : Int) : Int × Int × Int × Int :=
  (a * 2446 - (a + d) * 7373 + ((a + c + b + d) * 9633 - (a + c) * 16069), b * 16819 - (b + c) * 20995 + ((a + c + b + d) * 9633 - (b + d) * 3196),
   c * 25172 - (b + c) * 20995 + ((a + c + b + d) * 9633 - (a + c) * 16069), d * 12299 - (a + d) * 7373 + ((a + c + b + d) * 9633 - (b + d) * 3196))

theorem c_descaled (w : World) (news : List (Addr × Obj)) (n b : Int) (t u : Tok) (h1 : 1 ≤ b) (h2 : b ≤ 20) :
    Owes 2 w 21 [.int n t, .int b u] news (fun h₀ L m s Q => IRet h₀ L m news s Q (dsc n b)) := by
  unfold Owes
  w_top off
  k_with_none
  k_with "my off" => (first | assumption | exact off1_lt (by tbn_lt) | exact (by assumption : _ ∧ LCg.Off1 _ _).2 | exact (by assumption : _ ∧ _ ∧ LCg.Off1 _ _).2.2 | exact (by assumption : _ ∧ _ ∧ _ ∧ LCg.Off1 _ _).2.2.2 | exact (by assumption : _ ∧ _ ∧ _ ∧ _ ∧ LCg.Off1 _ _).2.2.2.2 | exact (by assumption : _ ∧ _ ∧ _ ∧ _ ∧ _ ∧ LCg.Off1 _ _).2.2.2.2.2 | exact (by assumption : _ ∧ _ ∧ _ ∧ _ ∧ _ ∧ _ ∧ LCg.Off1 _ _).2.2.2.2.2.2 | exact (by assumption : _ ∧ _ ∧ _ ∧ _ ∧ _ ∧ _ ∧ _ ∧ LCg.Off1 _ _).2.2.2.2.2.2.2 | exact (by assumption : _ ∧ _ ∧ _ ∧ _ ∧ _ ∧ _ ∧ _ ∧ _ ∧ LCg.Off1 _ _).2.2.2.2.2.2.2.2 | exact (by assumption : _ ∧ _ ∧ _ ∧ _ ∧ _ ∧ _ ∧ _ ∧ _ ∧ _ ∧ LCg.Off1 _ _).2.2.2.2.2.2.2.2.2 | exact (by assumption : _ ∧ _ ∧ _ ∧ _ ∧ _ ∧ _ ∧ _ ∧ _ ∧ _ ∧ _ ∧ LCg.Off1 _ _).2.2.2.2.2.2.2.2.2.2 | exact (by assumption : _ ∧ _ ∧ _ ∧ _ ∧ _ ∧ _ ∧ _ ∧ _ ∧ _ ∧ _ ∧ _ ∧ LCg.Off1 _ _).2.2.2.2.2.2.2.2.2.2.2 | exact (by assumption : _ ∧ _ ∧ _ ∧ _ ∧ _ ∧ _ ∧ _ ∧ _ ∧ _ ∧ _ ∧ _ ∧ _ ∧ LCg.Off1 _ _).2.2.2.2.2.2.2.2.2.2.2.2 | exact (by assumption : _ ∧ _ ∧ _ ∧ _ ∧ _ ∧ _ ∧ _ ∧ _ ∧ _ ∧ _ ∧ _ ∧ _ ∧ _ ∧ LCg.Off1 _ _).2.2.2.2.2.2.2.2.2.2.2.2.2 | exact (by assumption : _ ∧ _ ∧ _ ∧ _ ∧ _ ∧ _ ∧ _ ∧ _ ∧ _ ∧ _ ∧ _ ∧ _ ∧ _ ∧ _ ∧ LCg.Off1 _ _).2.2.2.2.2.2.2.2.2.2.2.2.2.2 | exact (by assumption : _ ∧ _ ∧ _ ∧ _ ∧ _ ∧ _ ∧ _ ∧ _ ∧ _ ∧ _ ∧ _ ∧ _ ∧ _ ∧ _ ∧ _ ∧ LCg.Off1 _ _).2.2.2.2.2.2.2.2.2.2.2.2.2.2.2 | exact (by assumption : _ ∧ _ ∧ _ ∧ _ ∧ _ ∧ _ ∧ _ ∧ _ ∧ _ ∧ _ ∧ _ ∧ _ ∧ _ ∧ _ ∧ _ ∧ _ ∧ LCg.Off1 _ _).2.2.2.2.2.2.2.2.2.2.2.2.2.2.2.2 | exact (by assumption : _ ∧ _ ∧ _ ∧ _ ∧ _ ∧ _ ∧ _ ∧ _ ∧ _ ∧ _ ∧ _ ∧ _ ∧ _ ∧ _ ∧ _ ∧ _ ∧ _ ∧ LCg.Off1 _ _).2.2.2.2.2.2.2.2.2.2.2.2.2.2.2.2.2 | exact (by assumption : _ ∧ _ ∧ _ ∧ _ ∧ _ ∧ _ ∧ _ ∧ _ ∧ _ ∧ _ ∧ _ ∧ _ ∧ _ ∧ _ ∧ _ ∧ _ ∧ _ ∧ _ ∧ LCg.Off1 _ _).2.2.2.2.2.2.2.2.2.2.2.2.2.2.2.2.2.2 | exact (by assumption : _ ∧ _ ∧ _ ∧ _ ∧ _ ∧ _ ∧ _ ∧ _ ∧ _ ∧ _ ∧ _ ∧ _ ∧ _ ∧ _ ∧ _ ∧ _ ∧ _ ∧ _ ∧ _ ∧ LCg.Off1 _ _).2.2.2.2.2.2.2.2.2.2.2.2.2.2.2.2.2.2.2 | exact (by assumption : _ ∧ _ ∧ _ ∧ _ ∧ _ ∧ _ ∧ _ ∧ _ ∧ _ ∧ _ ∧ _ ∧ _ ∧ _ ∧ _ ∧ _ ∧ _ ∧ _ ∧ _ ∧ _ ∧ _ ∧ LCg.Off1 _ _).2.2.2.2.2.2.2.2.2.2.2.2.2.2.2.2.2.2.2.2)
  k_with "lcg_off" => (first | assumption | exact (by assumption : _ ∧ LCg.Off3 _ _ _ _).2 | exact (by assumption : _ ∧ _ ∧ LCg.Off3 _ _ _ _).2.2 | exact (by assumption : _ ∧ _ ∧ _ ∧ LCg.Off3 _ _ _ _).2.2.2 | exact (by assumption : _ ∧ _ ∧ _ ∧ _ ∧ LCg.Off3 _ _ _ _).2.2.2.2 | exact (by assumption : _ ∧ _ ∧ _ ∧ _ ∧ _ ∧ LCg.Off3 _ _ _ _).2.2.2.2.2 | exact (by assumption : _ ∧ _ ∧ _ ∧ _ ∧ _ ∧ _ ∧ LCg.Off3 _ _ _ _).2.2.2.2.2.2 | exact (by assumption : _ ∧ _ ∧ _ ∧ _ ∧ _ ∧ _ ∧ _ ∧ LCg.Off3 _ _ _ _).2.2.2.2.2.2.2 | exact (by assumption : _ ∧ _ ∧ _ ∧ _ ∧ _ ∧ _ ∧ _ ∧ _ ∧ LCg.Off3 _ _ _ _).2.2.2.2.2.2.2.2 | exact (by assumption : _ ∧ _ ∧ _ ∧ _ ∧ _ ∧ _ ∧ _ ∧ _ ∧ _ ∧ LCg.Off3 _ _ _ _).2.2.2.2.2.2.2.2.2 | exact (by assumption : _ ∧ _ ∧ _ ∧ _ ∧ _ ∧ _ ∧ _ ∧ _ ∧ _ ∧ _ ∧ LCg.Off3 _ _ _ _).2.2.2.2.2.2.2.2.2.2 | exact (by assumption : _ ∧ _ ∧ _ ∧ _ ∧ _ ∧ _ ∧ _ ∧ _ ∧ _ ∧ _ ∧ _ ∧ LCg.Off3 _ _ _ _).2.2.2.2.2.2.2.2.2.2.2 | exact (by assumption : _ ∧ _ ∧ _ ∧ _ ∧ _ ∧ _ ∧ _ ∧ _ ∧ _ ∧ _ ∧ _ ∧ _ ∧ LCg.Off3 _ _ _ _).2.2.2.2.2.2.2.2.2.2.2.2 | exact (by assumption : _ ∧ _ ∧ _ ∧ _ ∧ _ ∧ _ ∧ _ ∧ _ ∧ _ ∧ _ ∧ _ ∧ _ ∧ _ ∧ LCg.Off3 _ _ _ _).2.2.2.2.2.2.2.2.2.2.2.2.2 | exact (by assumption : _ ∧ _ ∧ _ ∧ _ ∧ _ ∧ _ ∧ _ ∧ _ ∧ _ ∧ _ ∧ _ ∧ _ ∧ _ ∧ _ ∧ LCg.Off3 _ _ _ _).2.2.2.2.2.2.2.2.2.2.2.2.2.2 | exact (by assumption : _ ∧ _ ∧ _ ∧ _ ∧ _ ∧ _ ∧ _ ∧ _ ∧ _ ∧ _ ∧ _ ∧ _ ∧ _ ∧ _ ∧ _ ∧ LCg.Off3 _ _ _ _).2.2.2.2.2.2.2.2.2.2.2.2.2.2.2 | exact (by assumption : _ ∧ _ ∧ _ ∧ _ ∧ _ ∧ _ ∧ _ ∧ _ ∧ _ ∧ _ ∧ _ ∧ _ ∧ _ ∧ _ ∧ _ ∧ _ ∧ LCg.Off3 _ _ _ _).2.2.2.2.2.2.2.2.2.2.2.2.2.2.2.2 | exact (by assumption : _ ∧ _ ∧ _ ∧ _ ∧ _ ∧ _ ∧ _ ∧ _ ∧ _ ∧ _ ∧ _ ∧ _ ∧ _ ∧ _ ∧ _ ∧ _ ∧ _ ∧ LCg.Off3 _ _ _ _).2.2.2.2.2.2.2.2.2.2.2.2.2.2.2.2.2 | exact (by assumption : _ ∧ _ ∧ _ ∧ _ ∧ _ ∧ _ ∧ _ ∧ _ ∧ _ ∧ _ ∧ _ ∧ _ ∧ _ ∧ _ ∧ _ ∧ _ ∧ _ ∧ _ ∧ LCg.Off3 _ _ _ _).2.2.2.2.2.2.2.2.2.2.2.2.2.2.2.2.2.2 | exact (by assumption : _ ∧ _ ∧ _ ∧ _ ∧ _ ∧ _ ∧ _ ∧ _ ∧ _ ∧ _ ∧ _ ∧ _ ∧ _ ∧ _ ∧ _ ∧ _ ∧ _ ∧ _ ∧ _ ∧ LCg.Off3 _ _ _ _).2.2.2.2.2.2.2.2.2.2.2.2.2.2.2.2.2.2.2 | exact (by assumption : _ ∧ _ ∧ _ ∧ _ ∧ _ ∧ _ ∧ _ ∧ _ ∧ _ ∧ _ ∧ _ ∧ _ ∧ _ ∧ _ ∧ _ ∧ _ ∧ _ ∧ _ ∧ _ ∧ _ ∧ LCg.Off3 _ _ _ _).2.2.2.2.2.2.2.2.2.2.2.2.2.2.2.2.2.2.2.2)
  k_fill
  intro mean mg mb dp un gd cn cs av ccd cl outer A₀ base h₀ L m s Q E B F X N T hk hd hu hret
  refine wpAny_call ?_
  k_dflt (walk_at "my enter")
  repeat' ((fail_if_success (with_reducible show Q _ _)); (fail_if_success (with_reducible show TurnK _ _ _ _ _ _ _ _ _ _ _ _)); first | (k_unfold; (try dsimp only)) | (k_end; wrow_close) | walk1 | (dsimp only; walk1) | (leave1; walk_say "STEP leave1"; try dsimp only) | fail "no step")
  all_goals exact hret _ _ _ (by assumption) (by assumption)
theorem c_even_forward (w : World) (news : List (Addr × Obj)) (a b c d : Int) (t1 t2 t3 t4 : Tok) :
    Owes 2 w 28 [.int a t1, .int b t2, .int c t3, .int d t4] news (fun h₀ L m s Q => TRet h₀ L m news s Q (evenF a b c d)) := by
  unfold Owes
  w_top off
  k_fill
  intro mean mg mb dp un gd cn cs av ccd cl outer A₀ base h₀ L m s Q E B F X N T hk hd hu hret
  refine wpAny_call ?_
  k_dflt (walk_at "my enter")
  repeat' ((fail_if_success (with_reducible show Q _ _)); (fail_if_success (with_reducible show TurnK _ _ _ _ _ _ _ _ _ _ _ _)); first | (k_unfold; (try dsimp only)) | (k_end; wrow_close) | walk1 | (dsimp only; walk1) | (leave1; walk_say "STEP leave1"; try dsimp only) | fail "no step")
  all_goals exact hret _ _ _ _ _ _ _ _ (by assumption) (cb_drop (by assumption) (List.forall_mem_cons.mpr ⟨by k_dflt k_mem, by (intro p9 h9; repeat (first | exact h9 | refine List.Mem.tail _ ?_))⟩)) (ktn_ltOf (by tbn_lt))
theorem c_even_inverse (w : World) (news : List (Addr × Obj)) (a b c d : Int) (t1 t2 t3 t4 : Tok) (ha : a.natAbs < 2 ^ 40) (hb : b.natAbs < 2 ^ 40) :
    Owes 2 w 35 [.int a t1, .int b t2, .int c t3, .int d t4] news (fun h₀ L m s Q => TRet h₀ L m news s Q (evenI a b c d)) := by
  unfold Owes
  w_top off
  k_fill
  intro mean mg mb dp un gd cn cs av ccd cl outer A₀ base h₀ L m s Q E B F X N T hk hd hu hret
  refine wpAny_call ?_
  k_dflt (walk_at "my enter")
  repeat' ((fail_if_success (with_reducible show Q _ _)); (fail_if_success (with_reducible show TurnK _ _ _ _ _ _ _ _ _ _ _ _)); first | (k_unfold; (try dsimp only)) | (k_end; wrow_close) | walk1 | (dsimp only; walk1) | (leave1; walk_say "STEP leave1"; try dsimp only) | fail "no step")
  all_goals exact hret _ _ _ _ _ _ _ _ (by assumption) (cb_drop (by assumption) (List.forall_mem_cons.mpr ⟨by k_dflt k_mem, by (intro p9 h9; repeat (first | exact h9 | refine List.Mem.tail _ ?_))⟩)) (ktn_ltOf (by tbn_lt))
theorem c_odd_flow (w : World) (news : List (Addr × Obj)) (a b c d : Int) (t1 t2 t3 t4 : Tok) :
    Owes 2 w 49 [.int a t1, .int b t2, .int c t3, .int d t4] news (fun h₀ L m s Q => TRet h₀ L m news s Q (oddF a b c d)) := by
  unfold Owes
  w_top off
  k_fill
  intro mean mg mb dp un gd cn cs av ccd cl outer A₀ base h₀ L m s Q E B F X N T hk hd hu hret
  refine wpAny_call ?_
  k_dflt (walk_at "my enter")
  repeat' ((fail_if_success (with_reducible show Q _ _)); (fail_if_success (with_reducible show TurnK _ _ _ _ _ _ _ _ _ _ _ _)); first | (k_unfold; (try dsimp only)) | (k_end; wrow_close) | walk1 | (dsimp only; walk1) | (leave1; walk_say "STEP leave1"; try dsimp only) | fail "no step")
  all_goals exact hret _ _ _ _ _ _ _ _ (by assumption) (cb_drop (by assumption) (List.forall_mem_cons.mpr ⟨by k_dflt k_mem, by (intro p9 h9; repeat (first | exact h9 | refine List.Mem.tail _ ?_))⟩)) (ktn_ltOf (by tbn_lt))
section
variable {prog : Program} {w : World} {A : Around} {E : Value → Shared → Prop} {s : Shared} {h₀ : Heap} {L : Addr} {m : Str → Option Value} {env : Env}

/-- the ledger bears the tuple at ax -/
def TupHere (ax : Addr) (its : Array Value) (news : List (Addr × Obj)) : Prop := ∃ o, (ax, o) ∈ news ∧ o.cls = .type "tuple" ∧ ∃ n, o.data = .seq its n
theorem TupHere.tup {h : Heap} {ax : Addr} {its : Array Value} {news : List (Addr × Obj)} (x : TupHere ax its news) (N : News h₀ L h news) : h.IsTuple ax its := let ⟨o, hm, r⟩ := x; ⟨o, (N _ hm).1, r⟩

/-- a tuple of the ledger as a comprehension's source -/
def SrcTup (prog : Program) (w : World) (A : Around) (h₀ : Heap) (L : Addr) (m : Str → Option Value) (env : Env) (elt : Expr) (x : Str) (scope : Scope) (cl : List (Str × Addr)) (Fin : Shared → List Value → List (Addr × Obj) → Prop) (xv : Value) (s₁ : Shared) : Prop :=
  ∃ ax its news, xv = .ref ax ∧ A.handled = none ∧ Fr h₀ L s₁.heap m ∧ News h₀ L s₁.heap news ∧ TupHere ax its news ∧ its.size ≤ sizeLine ∧
    ∀ s₂ : Shared, (∃ h, s₂ = { s₁ with heap := h }) → LCg.CompRest prog w A h₀ L m env elt x scope cl s₂ (TupHere ax its) (fun i v => its[i]? = some v) (Fin s₂) its.size 0 [] news
theorem SrcTup.mk' {elt : Expr} {x : Str} {scope : Scope} {cl : List (Str × Addr)} {Fin : Shared → List Value → List (Addr × Obj) → Prop} {ax : Addr} {its : Array Value} {k : Nat} {news : List (Addr × Obj)} {s₁ : Shared}
    (hh : A.handled = none) (F : Fr h₀ L s₁.heap m) (N : News h₀ L s₁.heap news) (hm : (ax, ({ cls := .type "tuple", data := .seq its k } : Obj)) ∈ news) (hsz : its.size ≤ sizeLine)
    (h : ∀ g, LCg.CompRest prog w A h₀ L m env elt x scope cl { s₁ with heap := g } (TupHere ax its) (fun i v => its[i]? = some v) (Fin { s₁ with heap := g }) its.size 0 [] news) :
    SrcTup prog w A h₀ L m env elt x scope cl Fin (.ref ax) s₁ := ⟨ax, its, news, rfl, hh, F, N, ⟨_, hm, rfl, _, rfl⟩, hsz, fun _ ⟨g, e⟩ => e ▸ h g⟩

theorem tup_st {ax I : Addr} {its : Array Value} : ∀ i (h h' : Heap) (o : Obj) (nw : List (Addr × Obj)), (h.IsTupleIter I ax i ∧ h.IsTuple ax its) → h.get? I = some o → h'.get? I = some o → (∀ b o, h₀.get? b = some o → h'.get? b = some o) → News h₀ L h' nw → TupHere ax its nw → (h'.IsTupleIter I ax i ∧ h'.IsTuple ax its) :=
  fun i h h' o nw st e e' _ N S => ⟨by obtain ⟨o', q, r⟩ := st.1; rw [e] at q; cases q; exact ⟨o, e', r⟩, S.tup N⟩

theorem comp_tup_core {elt iter : Expr} {x : Str} {px : Pos} {scope : Scope} {cl : List (Str × Addr)} {pos : Pos} {s₁ : Shared} {ax : Addr} {its : Array Value} {news : List (Addr × Obj)} {Fin : Shared → List Value → List (Addr × Obj) → Prop} {RR : Value → Addr → Result → Shared → Prop}
    (hcell : ∀ y ∈ scope.names, y.2 ≠ .cell) (hkind : scope.kind = .function) (hx : scope.names.lookup x = some .local)
    (hh : A.handled = none) (F : Fr h₀ L s₁.heap m) (N : News h₀ L s₁.heap news) (S : TupHere ax its news) (hsz : its.size ≤ sizeLine)
    (R : ∀ s₂ : Shared, (∃ h, s₂ = { s₁ with heap := h }) → LCg.CompRest prog w A h₀ L m env elt x scope cl s₂ (TupHere ax its) (fun i v => its[i]? = some v) (Fin s₂) its.size 0 [] news)
    (hRR : ∀ (s₂ : Shared) D C h tk m' ys news', (∃ g, s₂ = { s₁ with heap := g }) → Fr h₀ L h m → News h₀ L h ((D, LCg.lst ys) :: news') → LCg.Off1 D news' → h.Ns C m' → h₀.get? C = none → h₀.get? D = none → C ≠ L → D ≠ L → C ≠ D → (∀ p ∈ news', p.1 ≠ C) → Fin s₂ ys news' → RR (.ref D) C (.ok .next) { s₂ with heap := h, toks := tk }) :
    wpAny (model prog w) A (pyIter (.ref ax)) (fun it s₂ => wpAny (model prog w) A (newList []) (fun acc s₃ => wpAny (model prog w) A (newFunctionEnv scope env.globals cl [] env.qual none .none (some env)) (fun cenv s₄ =>
      codeAny (model prog w) A (.compStart (.ListComp elt [⟨.Name x px, iter, [], 0⟩] scope pos) 0 it acc { cenv with scope := relabel scope env }) (RR acc cenv.locals) s₄) E s₃) E s₂) E s₁ := by
  have hl := S.tup N
  have hlt : ax < s₁.heap.objs.size := by obtain ⟨_, e, _⟩ := hl; exact Heap.lt_size e
  refine wpAny_pyIter_tuple hl ?_
  have up : ∀ b o, s₁.heap.get? b = some o → (s₁.heap.push { cls := .type "tuple_iterator", data := .fields #[.ref ax, .int 0 0] }).get? b = some o := fun b o e => Heap.get?_push_of_some _ e
  refine LCg.block_U (Walks.tuple hh s₁.heap.objs.size ax (Nat.ne_of_lt hlt) its) hsz (fun i h st => by obtain ⟨o, e, _⟩ := st.1; exact ⟨o, e⟩) tup_st hcell hkind hx ⟨⟨_, Heap.get?_push_size _ rfl, rfl, rfl⟩, hl.push _⟩ (fun b hb => ?_)
    (F.keeps up) (N.grown up) (Nat.ne_of_lt F.ns.lt) (next_is_new F) (fun p hp => Nat.ne_of_lt (Heap.lt_size (N p hp).1)) S (R _ ⟨_, rfl⟩) (fun D C h tk m' ys news' a1 a2 a3 a4 a5 a6 a7 a8 a9 b1 b2 => hRR _ D C h tk m' ys news' ⟨_, rfl⟩ a1 a2 a3 a4 a5 a6 a7 a8 a9 b1 b2)
  show b < (s₁.heap.push _).objs.size
  rw [Heap.size_push]
  rcases List.mem_cons.mp hb with rfl | hb
  · exact Nat.lt_succ_self _
  · rw [List.mem_singleton.mp hb]; exact Nat.lt_succ_of_lt hlt

theorem comp_tup {elt iter : Expr} {x : Str} {px : Pos} {scope : Scope} {cl : List (Str × Addr)} {pos : Pos} {Q : Value → Shared → Prop} (_F₀ : Fr h₀ L s.heap m)
    (hclos : closureFor scope env = pure cl) (hcell : ∀ y ∈ scope.names, y.2 ≠ .cell) (hkind : scope.kind = .function)
    (hnames : ∀ y ∈ scope.names, y.2 = .local → scope.names.lookup y.1 = some .local) (hx : scope.names.lookup x = some .local)
    (h : wpAny (model prog w) A (eval iter env) (SrcTup prog w A h₀ L m env elt x scope cl (fun s₂ => LCg.FinE h₀ L m s₂ Q)) E s)
    (hs : ∀ x, foldedSetIterable iter env x = pure x := by intro _; rfl) :
    wpAny (model prog w) A (eval (.ListComp elt [⟨.Name x px, iter, [], 0⟩] scope pos) env) Q E s := by
  rw [eval_ListComp]
  refine wpAny_comprehension_free (use := none) rfl hs hclos hkind hnames (wpAny_mono h (fun xv s₁ h₁ => ?_) fun _ _ e => e)
  obtain ⟨ax, its, news, rfl, hh, F, N, S, hsz, R⟩ := h₁
  refine comp_tup_core hcell hkind hx hh F N S hsz R ?_
  rintro _ D C h tk m' ys news' ⟨g, rfl⟩ F' N' o1 hn hC₀ hD₀ hCL hDL hCD offC fin
  refine ⟨m', hn, fun h'' hs'' => fin D h'' tk (F'.change hs'' hCL hC₀) (fun p hp => ?_) o1⟩
  refine ⟨hs''.extBut _ _ ?_ (N' p hp).1, (N' p hp).2⟩
  rcases List.mem_cons.mp hp with rfl | hp
  · exact Ne.symm hCD
  · exact offC p hp

theorem assign_comp_tup {elt iter : Expr} {x y : Str} {px py : Pos} {scope : Scope} {cl : List (Str × Addr)} {pos spos : Pos} {Q : Flow → Shared → Prop} (_F₀ : Fr h₀ L s.heap m) (hLe : env.locals = L)
    (hsw : swapsWith (.ListComp elt [⟨.Name x px, iter, [], 0⟩] scope pos) (some (.Name y py)) spos.line env = pure true)
    (hclos : closureFor scope env = pure cl) (hcell : ∀ z ∈ scope.names, z.2 ≠ .cell) (hkind : scope.kind = .function)
    (hnames : ∀ z ∈ scope.names, z.2 = .local → scope.names.lookup z.1 = some .local) (hx : scope.names.lookup x = some .local)
    (hy : env.kindOf y = some .local) (hp : (env.scope.kind == .class || (env.scope.kind == .module && env.locals != env.globals)) = false)
    (h : wpAny (model prog w) A (eval iter env) (SrcTup prog w A h₀ L m env elt x scope cl (fun s₂ => LCg.FinA h₀ L m s₂ y Q)) E s)
    (hs : ∀ x, foldedSetIterable iter env x = pure x := by intro _; rfl) :
    wpAny (model prog w) A (exec (.Assign [.Name y py] (.ListComp elt [⟨.Name x px, iter, [], 0⟩] scope pos) spos) env) Q E s := by
  subst hLe
  rw [exec_Assign_Name_used _ _ _ _ hsw]
  refine wpAny_bind (wpAny_standAt (wpAny_bind ?_))
  show wpAny _ A (do let _ ← comprehension (.ListComp elt [⟨.Name x px, iter, [], 0⟩] scope pos) scope env _ (newList []) false (eval iter env) (some (assign (.Name y py) env))) _ _ s
  refine wpAny_bind (wpAny_mono (wpAny_comprehension_free (use := some (assign (.Name y py) env)) (Q := fun _ s' => Q .next s') rfl hs hclos hkind hnames
    (wpAny_mono h (fun xv s₁ h₁ => ?_) fun _ _ e => e)) (fun _ s' hq => wpAny_pure (wpAny_pure hq)) fun _ _ e => e)
  obtain ⟨ax, its, news, rfl, hh, F, N, S, hsz, R⟩ := h₁
  refine comp_tup_core hcell hkind hx hh F N S hsz R ?_
  rintro _ D C h' tk m' ys news' ⟨g, rfl⟩ F' N' o1 hn hC₀ hD₀ hCL hDL hCD offC fin
  show wpAny _ A (assign (.Name y py) env (.ref D)) _ _ _
  refine wpAny_assign_Name (wpAny_storeName_local hy F'.ns (fun h₂ hn₂ hs₂ => ?_) hp)
  have hL₀ : h₀.get? env.locals = none := Heap.get?_none_of_le F'.above
  have F₂ : Fr h₀ env.locals h₂ (fun z => if z = y then some (.ref D) else m z) := ⟨hn₂, fun b o e => hs₂.extBut b o (fun q => by rw [q, hL₀] at e; cases e) (F'.keep b o e), F'.above⟩
  refine ⟨m', hn.sameBut hs₂ hCL, fun h'' hs'' => fin D h'' _ (F₂.change hs'' hCL hC₀) (fun p hp => ?_) o1⟩
  have z : h₂.get? p.1 = some p.2 := hs₂.extBut _ _ (N' p hp).2.1 (N' p hp).1
  refine ⟨hs''.extBut _ _ ?_ z, (N' p hp).2⟩
  rcases List.mem_cons.mp hp with rfl | hp
  · exact Ne.symm hCD
  · exact offC p hp
end
def rowF1 (a b c d e f g h : Int) : List Int :=
  let z := evenF (a + h) (b + g) (c + f) (d + e)
  let o := oddF (d - e) (c - f) (b - g) (a - h)
  [z.1 * 2 ^ 2, dsc o.2.2.2 11, dsc z.2.2.1 11, dsc o.2.2.1 11, z.2.1 * 2 ^ 2, dsc o.2.1 11, dsc z.2.2.2 11, dsc o.1 11]
def rowF2 (a b c d e f g h : Int) : List Int :=
  let z := evenF (a + h) (b + g) (c + f) (d + e)
  let o := oddF (d - e) (c - f) (b - g) (a - h)
  [dsc z.1 2, dsc o.2.2.2 15, dsc z.2.2.1 15, dsc o.2.2.1 15, dsc z.2.1 2, dsc o.2.1 15, dsc z.2.2.2 15, dsc o.1 15]
def rowU (pu td a b c d e f g h : Int) : List Int :=
  let z := evenF (a + h) (b + g) (c + f) (d + e)
  let o := oddF (d - e) (c - f) (b - g) (a - h)
  [z.1 * 2 ^ pu.toNat, dsc o.2.2.2 td, dsc z.2.2.1 td, dsc o.2.2.1 td, z.2.1 * 2 ^ pu.toNat, dsc o.2.1 td, dsc z.2.2.2 td, dsc o.1 td]
def rowD (pd td a b c d e f g h : Int) : List Int :=
  let z := evenF (a + h) (b + g) (c + f) (d + e)
  let o := oddF (d - e) (c - f) (b - g) (a - h)
  [dsc z.1 pd, dsc o.2.2.2 td, dsc z.2.2.1 td, dsc o.2.2.1 td, dsc z.2.1 pd, dsc o.2.1 td, dsc z.2.2.2 td, dsc o.1 td]
def rowFG (pu pd td a b c d e f g h : Int) : List Int := if pd > 0 then rowD pd td a b c d e f g h else rowU pu td a b c d e f g h
theorem rowFG1 (a b c d e f g h : Int) : rowFG 2 0 11 a b c d e f g h = rowF1 a b c d e f g h := if_neg (by decide)
theorem rowFG2 (a b c d e f g h : Int) : rowFG 0 2 15 a b c d e f g h = rowF2 a b c d e f g h := if_pos (by decide)
theorem c_forward_row (w : World) (news : List (Addr × Obj)) (l : Addr) (k : Nat) (a b c d e f g h pu pd td : Int) (t1 t2 t3 t4 t5 t6 t7 t8 u1 u2 u3 : Tok)
    (hl : (l, listOf [Value.int a t1, .int b t2, .int c t3, .int d t4, .int e t5, .int f t6, .int g t7, .int h t8].toArray k) ∈ news)
    (hz1 : (evenF (a + h) (b + g) (c + f) (d + e)).1.natAbs < 2 ^ 64) (hz2 : (evenF (a + h) (b + g) (c + f) (d + e)).2.1.natAbs < 2 ^ 64) (hu1 : 0 ≤ pu) (hu2 : pu ≤ 2) (hd2 : pd ≤ 2) (ht1 : 1 ≤ td) (ht2 : td ≤ 20) :
    Owes 5 w 54 [.ref l, .int pu u1, .int pd u2, .int td u3] news (fun h₀ L m s Q => LRet h₀ L m news s Q (rowFG pu pd td a b c d e f g h)) := by
  unfold Owes
  w_top off
  k_with_none
  k_with "my off" => (first | assumption | exact off1_lt (by tbn_lt) | exact (by assumption : _ ∧ LCg.Off1 _ _).2 | exact (by assumption : _ ∧ _ ∧ LCg.Off1 _ _).2.2 | exact (by assumption : _ ∧ _ ∧ _ ∧ LCg.Off1 _ _).2.2.2 | exact (by assumption : _ ∧ _ ∧ _ ∧ _ ∧ LCg.Off1 _ _).2.2.2.2 | exact (by assumption : _ ∧ _ ∧ _ ∧ _ ∧ _ ∧ LCg.Off1 _ _).2.2.2.2.2 | exact (by assumption : _ ∧ _ ∧ _ ∧ _ ∧ _ ∧ _ ∧ LCg.Off1 _ _).2.2.2.2.2.2 | exact (by assumption : _ ∧ _ ∧ _ ∧ _ ∧ _ ∧ _ ∧ _ ∧ LCg.Off1 _ _).2.2.2.2.2.2.2 | exact (by assumption : _ ∧ _ ∧ _ ∧ _ ∧ _ ∧ _ ∧ _ ∧ _ ∧ LCg.Off1 _ _).2.2.2.2.2.2.2.2 | exact (by assumption : _ ∧ _ ∧ _ ∧ _ ∧ _ ∧ _ ∧ _ ∧ _ ∧ _ ∧ LCg.Off1 _ _).2.2.2.2.2.2.2.2.2 | exact (by assumption : _ ∧ _ ∧ _ ∧ _ ∧ _ ∧ _ ∧ _ ∧ _ ∧ _ ∧ _ ∧ LCg.Off1 _ _).2.2.2.2.2.2.2.2.2.2 | exact (by assumption : _ ∧ _ ∧ _ ∧ _ ∧ _ ∧ _ ∧ _ ∧ _ ∧ _ ∧ _ ∧ _ ∧ LCg.Off1 _ _).2.2.2.2.2.2.2.2.2.2.2 | exact (by assumption : _ ∧ _ ∧ _ ∧ _ ∧ _ ∧ _ ∧ _ ∧ _ ∧ _ ∧ _ ∧ _ ∧ _ ∧ LCg.Off1 _ _).2.2.2.2.2.2.2.2.2.2.2.2 | exact (by assumption : _ ∧ _ ∧ _ ∧ _ ∧ _ ∧ _ ∧ _ ∧ _ ∧ _ ∧ _ ∧ _ ∧ _ ∧ _ ∧ LCg.Off1 _ _).2.2.2.2.2.2.2.2.2.2.2.2.2 | exact (by assumption : _ ∧ _ ∧ _ ∧ _ ∧ _ ∧ _ ∧ _ ∧ _ ∧ _ ∧ _ ∧ _ ∧ _ ∧ _ ∧ _ ∧ LCg.Off1 _ _).2.2.2.2.2.2.2.2.2.2.2.2.2.2 | exact (by assumption : _ ∧ _ ∧ _ ∧ _ ∧ _ ∧ _ ∧ _ ∧ _ ∧ _ ∧ _ ∧ _ ∧ _ ∧ _ ∧ _ ∧ _ ∧ LCg.Off1 _ _).2.2.2.2.2.2.2.2.2.2.2.2.2.2.2 | exact (by assumption : _ ∧ _ ∧ _ ∧ _ ∧ _ ∧ _ ∧ _ ∧ _ ∧ _ ∧ _ ∧ _ ∧ _ ∧ _ ∧ _ ∧ _ ∧ _ ∧ LCg.Off1 _ _).2.2.2.2.2.2.2.2.2.2.2.2.2.2.2.2 | exact (by assumption : _ ∧ _ ∧ _ ∧ _ ∧ _ ∧ _ ∧ _ ∧ _ ∧ _ ∧ _ ∧ _ ∧ _ ∧ _ ∧ _ ∧ _ ∧ _ ∧ _ ∧ LCg.Off1 _ _).2.2.2.2.2.2.2.2.2.2.2.2.2.2.2.2.2 | exact (by assumption : _ ∧ _ ∧ _ ∧ _ ∧ _ ∧ _ ∧ _ ∧ _ ∧ _ ∧ _ ∧ _ ∧ _ ∧ _ ∧ _ ∧ _ ∧ _ ∧ _ ∧ _ ∧ LCg.Off1 _ _).2.2.2.2.2.2.2.2.2.2.2.2.2.2.2.2.2.2 | exact (by assumption : _ ∧ _ ∧ _ ∧ _ ∧ _ ∧ _ ∧ _ ∧ _ ∧ _ ∧ _ ∧ _ ∧ _ ∧ _ ∧ _ ∧ _ ∧ _ ∧ _ ∧ _ ∧ _ ∧ LCg.Off1 _ _).2.2.2.2.2.2.2.2.2.2.2.2.2.2.2.2.2.2.2 | exact (by assumption : _ ∧ _ ∧ _ ∧ _ ∧ _ ∧ _ ∧ _ ∧ _ ∧ _ ∧ _ ∧ _ ∧ _ ∧ _ ∧ _ ∧ _ ∧ _ ∧ _ ∧ _ ∧ _ ∧ _ ∧ LCg.Off1 _ _).2.2.2.2.2.2.2.2.2.2.2.2.2.2.2.2.2.2.2.2)
  k_with "lcg_off" => (first | assumption | exact (by assumption : _ ∧ LCg.Off3 _ _ _ _).2 | exact (by assumption : _ ∧ _ ∧ LCg.Off3 _ _ _ _).2.2 | exact (by assumption : _ ∧ _ ∧ _ ∧ LCg.Off3 _ _ _ _).2.2.2 | exact (by assumption : _ ∧ _ ∧ _ ∧ _ ∧ LCg.Off3 _ _ _ _).2.2.2.2 | exact (by assumption : _ ∧ _ ∧ _ ∧ _ ∧ _ ∧ LCg.Off3 _ _ _ _).2.2.2.2.2 | exact (by assumption : _ ∧ _ ∧ _ ∧ _ ∧ _ ∧ _ ∧ LCg.Off3 _ _ _ _).2.2.2.2.2.2 | exact (by assumption : _ ∧ _ ∧ _ ∧ _ ∧ _ ∧ _ ∧ _ ∧ LCg.Off3 _ _ _ _).2.2.2.2.2.2.2 | exact (by assumption : _ ∧ _ ∧ _ ∧ _ ∧ _ ∧ _ ∧ _ ∧ _ ∧ LCg.Off3 _ _ _ _).2.2.2.2.2.2.2.2 | exact (by assumption : _ ∧ _ ∧ _ ∧ _ ∧ _ ∧ _ ∧ _ ∧ _ ∧ _ ∧ LCg.Off3 _ _ _ _).2.2.2.2.2.2.2.2.2 | exact (by assumption : _ ∧ _ ∧ _ ∧ _ ∧ _ ∧ _ ∧ _ ∧ _ ∧ _ ∧ _ ∧ LCg.Off3 _ _ _ _).2.2.2.2.2.2.2.2.2.2 | exact (by assumption : _ ∧ _ ∧ _ ∧ _ ∧ _ ∧ _ ∧ _ ∧ _ ∧ _ ∧ _ ∧ _ ∧ LCg.Off3 _ _ _ _).2.2.2.2.2.2.2.2.2.2.2 | exact (by assumption : _ ∧ _ ∧ _ ∧ _ ∧ _ ∧ _ ∧ _ ∧ _ ∧ _ ∧ _ ∧ _ ∧ _ ∧ LCg.Off3 _ _ _ _).2.2.2.2.2.2.2.2.2.2.2.2 | exact (by assumption : _ ∧ _ ∧ _ ∧ _ ∧ _ ∧ _ ∧ _ ∧ _ ∧ _ ∧ _ ∧ _ ∧ _ ∧ _ ∧ LCg.Off3 _ _ _ _).2.2.2.2.2.2.2.2.2.2.2.2.2 | exact (by assumption : _ ∧ _ ∧ _ ∧ _ ∧ _ ∧ _ ∧ _ ∧ _ ∧ _ ∧ _ ∧ _ ∧ _ ∧ _ ∧ _ ∧ LCg.Off3 _ _ _ _).2.2.2.2.2.2.2.2.2.2.2.2.2.2 | exact (by assumption : _ ∧ _ ∧ _ ∧ _ ∧ _ ∧ _ ∧ _ ∧ _ ∧ _ ∧ _ ∧ _ ∧ _ ∧ _ ∧ _ ∧ _ ∧ LCg.Off3 _ _ _ _).2.2.2.2.2.2.2.2.2.2.2.2.2.2.2 | exact (by assumption : _ ∧ _ ∧ _ ∧ _ ∧ _ ∧ _ ∧ _ ∧ _ ∧ _ ∧ _ ∧ _ ∧ _ ∧ _ ∧ _ ∧ _ ∧ _ ∧ LCg.Off3 _ _ _ _).2.2.2.2.2.2.2.2.2.2.2.2.2.2.2.2 | exact (by assumption : _ ∧ _ ∧ _ ∧ _ ∧ _ ∧ _ ∧ _ ∧ _ ∧ _ ∧ _ ∧ _ ∧ _ ∧ _ ∧ _ ∧ _ ∧ _ ∧ _ ∧ LCg.Off3 _ _ _ _).2.2.2.2.2.2.2.2.2.2.2.2.2.2.2.2.2 | exact (by assumption : _ ∧ _ ∧ _ ∧ _ ∧ _ ∧ _ ∧ _ ∧ _ ∧ _ ∧ _ ∧ _ ∧ _ ∧ _ ∧ _ ∧ _ ∧ _ ∧ _ ∧ _ ∧ LCg.Off3 _ _ _ _).2.2.2.2.2.2.2.2.2.2.2.2.2.2.2.2.2.2 | exact (by assumption : _ ∧ _ ∧ _ ∧ _ ∧ _ ∧ _ ∧ _ ∧ _ ∧ _ ∧ _ ∧ _ ∧ _ ∧ _ ∧ _ ∧ _ ∧ _ ∧ _ ∧ _ ∧ _ ∧ LCg.Off3 _ _ _ _).2.2.2.2.2.2.2.2.2.2.2.2.2.2.2.2.2.2.2 | exact (by assumption : _ ∧ _ ∧ _ ∧ _ ∧ _ ∧ _ ∧ _ ∧ _ ∧ _ ∧ _ ∧ _ ∧ _ ∧ _ ∧ _ ∧ _ ∧ _ ∧ _ ∧ _ ∧ _ ∧ _ ∧ LCg.Off3 _ _ _ _).2.2.2.2.2.2.2.2.2.2.2.2.2.2.2.2.2.2.2.2)
  k_with "call ref" => ((k_here; (with_reducible show wpAny _ _ (call (Value.ref 21) [Value.int _ _, Value.int _ _]) _ _ _); k_dflt (refine owes_use' (by k_asm) (by k_asm) (by k_asm) (by k_asm) (by k_asm) (by first | exact rfl | assumption) (c_descaled _ _ _ _ _ _ (by first | decide | assumption | omega) (by first | decide | assumption | omega)) (by ktr_room) (by ktr_units) ?_); intro t' h' tk' F' N'; (try k_sweep); (try dsimp only); (try k_fold)))
  k_with "call ref" => ((k_here; (with_reducible show wpAny _ _ (call (Value.ref 28) [Value.int _ _, Value.int _ _, Value.int _ _, Value.int _ _]) _ _ _); k_dflt (refine owes_use' (by k_asm) (by k_asm) (by k_asm) (by k_asm) (by k_asm) (by first | exact rfl | assumption) (c_even_forward _ _ _ _ _ _ _ _ _ _) (by ktr_room) (by ktr_units) ?_); intro r' t1' t2' t3' t4' c' h' tk' F' N' l1; (try k_sweep); (try k_lt l1); (try dsimp only); (try k_fold)))
  k_with "call ref" => ((k_here; (with_reducible show wpAny _ _ (call (Value.ref 49) [Value.int _ _, Value.int _ _, Value.int _ _, Value.int _ _]) _ _ _); k_dflt (refine owes_use' (by k_asm) (by k_asm) (by k_asm) (by k_asm) (by k_asm) (by first | exact rfl | assumption) (c_odd_flow _ _ _ _ _ _ _ _ _ _) (by ktr_room) (by ktr_units) ?_); intro r' t1' t2' t3' t4' c' h' tk' F' N' l1; (try k_sweep); (try k_lt l1); (try dsimp only); (try k_fold)))
  k_with "CompEnd" => ((k_here; k_dflt (refine LCg.CompEnd.intro (by assumption) (by assumption) _ (fun _ hp => hp) (by lcg_off) (by lcg_src) ?_)))
  k_with "FinE" => (((repeat ((rename ((@Ne Nat _ _ ∧ _ ∧ _) ∧ _) => hx9); clear hx9)); (repeat ((rename (@Ne Nat _ _ ∧ @Ne Nat _ _ ∧ @Ne Nat _ _) => hx9); clear hx9)); (unfold LCg.FinE); intro D' h' tk' F' N' o1'; (try simp only [LCg.Off1, and_true] at o1'); (try simp only [List.nil_append, List.cons_append] at N'); (try dsimp only)))
  k_with "FinA" => (((repeat ((rename ((@Ne Nat _ _ ∧ _ ∧ _) ∧ _) => hx9); clear hx9)); (repeat ((rename (@Ne Nat _ _ ∧ @Ne Nat _ _ ∧ @Ne Nat _ _) => hx9); clear hx9)); (unfold LCg.FinA); intro D' h' tk' F' N' o1'; (try simp only [LCg.Off1, and_true] at o1'); (try simp only [List.nil_append, List.cons_append] at N'); (try dsimp only)))
  k_with "lcg_src" => (exact ⟨_, by k_mem, rfl, _, rfl⟩)
  k_with "exec Assign cons ListComp" => ((k_here; k_dflt (refine assign_comp_tup (by k_asm) (by rfl) (by with_unfolding_all rfl) (by with_unfolding_all rfl) (by decide) (by rfl) (by decide) (by rfl) (by rfl) (by rfl) ?_)))
  k_with "eval ListComp" => ((k_here; k_dflt (refine comp_tup (by k_asm) (by with_unfolding_all rfl) (by decide) (by rfl) (by decide) (by rfl) ?_)))
  k_with "SrcTup" => ((k_here; k_dflt (refine SrcTup.mk' (by rfl) (by k_asm) (by k_asm) (by k_mem) (by first | size_fits | exact Nat.le_of_ble_eq_true rfl) ?_; intro g'; lcg_lit)))
  k_with "binaryOp LShift int int" => ((k_here; (with_reducible refine lshift_int_small (by assumption) (by omega) (by assumption) ?_)))
  k_fill
  intro mean mg mb dp un gd cn cs av ccd cl outer A₀ base h₀ L m s Q E B F X N T hk hd hu hret
  replace N := news_dup N hl
  clear hl
  refine wpAny_call ?_
  k_dflt (walk_at "my enter")
  repeat' ((fail_if_success (with_reducible show Q _ _)); (fail_if_success (with_reducible show TurnK _ _ _ _ _ _ _ _ _ _ _ _)); first | (k_unfold; (try dsimp only)) | (k_end; wrow_close) | walk1 | (dsimp only; walk1) | (leave1; walk_say "STEP leave1"; try dsimp only) | fail "no step")
  all_goals first
  | (have er : rowFG pu pd td a b c d e f g h = [dsc (evenF (a + h) (b + g) (c + f) (d + e)).1 pd, dsc (oddF (d - e) (c - f) (b - g) (a - h)).2.2.2 td, dsc (evenF (a + h) (b + g) (c + f) (d + e)).2.2.1 td, dsc (oddF (d - e) (c - f) (b - g) (a - h)).2.2.1 td, dsc (evenF (a + h) (b + g) (c + f) (d + e)).2.1 pd, dsc (oddF (d - e) (c - f) (b - g) (a - h)).2.1 td, dsc (evenF (a + h) (b + g) (c + f) (d + e)).2.2.2 td, dsc (oddF (d - e) (c - f) (b - g) (a - h)).1 td] := if_pos (by assumption)
     rw [er] at hret
     exact hret _ _ _ _ _ (by with_reducible assumption) (cb_drop (by with_reducible assumption) (List.forall_mem_cons.mpr ⟨by k_dflt k_mem, by (intro p9 h9; repeat (first | exact h9 | refine List.Mem.tail _ ?_))⟩)) (by walk_at "my off") (by k_dflt (repeat' (first | exact IntsAre.nil | refine IntsAre.cons _ _ ?_))))
  | (have er : rowFG pu pd td a b c d e f g h = [(evenF (a + h) (b + g) (c + f) (d + e)).1 * 2 ^ pu.toNat, dsc (oddF (d - e) (c - f) (b - g) (a - h)).2.2.2 td, dsc (evenF (a + h) (b + g) (c + f) (d + e)).2.2.1 td, dsc (oddF (d - e) (c - f) (b - g) (a - h)).2.2.1 td, (evenF (a + h) (b + g) (c + f) (d + e)).2.1 * 2 ^ pu.toNat, dsc (oddF (d - e) (c - f) (b - g) (a - h)).2.1 td, dsc (evenF (a + h) (b + g) (c + f) (d + e)).2.2.2 td, dsc (oddF (d - e) (c - f) (b - g) (a - h)).1 td] := if_neg (by assumption)
     rw [er] at hret
     exact hret _ _ _ _ _ (by with_reducible assumption) (cb_drop (by with_reducible assumption) (List.forall_mem_cons.mpr ⟨by k_dflt k_mem, by (intro p9 h9; repeat (first | exact h9 | refine List.Mem.tail _ ?_))⟩)) (by walk_at "my off") (by k_dflt (repeat' (first | exact IntsAre.nil | refine IntsAre.cons _ _ ?_))))
def rowI (dn r0 r1 r2 r3 r4 r5 r6 r7 : Int) : List Int :=
  let t := evenI r0 r4 r2 r6
  let o := oddF r7 r5 r3 r1
  [dsc (t.1 + o.2.2.2) dn, dsc (t.2.1 + o.2.2.1) dn, dsc (t.2.2.1 + o.2.1) dn, dsc (t.2.2.2 + o.1) dn, dsc (t.2.2.2 - o.1) dn, dsc (t.2.2.1 - o.2.1) dn, dsc (t.2.1 - o.2.2.1) dn, dsc (t.1 - o.2.2.2) dn]
theorem c_inverse_row (w : World) (news : List (Addr × Obj)) (l : Addr) (k : Nat) (a b c d e f g h : Int) (dn : Int) (t1 t2 t3 t4 t5 t6 t7 t8 u1 : Tok) (hn1 : 1 ≤ dn) (hn2 : dn ≤ 20)
    (hl : (l, listOf [Value.int a t1, .int b t2, .int c t3, .int d t4, .int e t5, .int f t6, .int g t7, .int h t8].toArray k) ∈ news)
    (ha : a.natAbs < 2 ^ 40) (he : e.natAbs < 2 ^ 40) :
    Owes 5 w 59 [.ref l, .int dn u1] news (fun h₀ L m s Q => LRet h₀ L m news s Q (rowI dn a b c d e f g h)) := by
  unfold Owes
  w_top off
  k_with_none
  k_with "my off" => (first | assumption | exact off1_lt (by tbn_lt) | exact (by assumption : _ ∧ LCg.Off1 _ _).2 | exact (by assumption : _ ∧ _ ∧ LCg.Off1 _ _).2.2 | exact (by assumption : _ ∧ _ ∧ _ ∧ LCg.Off1 _ _).2.2.2 | exact (by assumption : _ ∧ _ ∧ _ ∧ _ ∧ LCg.Off1 _ _).2.2.2.2 | exact (by assumption : _ ∧ _ ∧ _ ∧ _ ∧ _ ∧ LCg.Off1 _ _).2.2.2.2.2 | exact (by assumption : _ ∧ _ ∧ _ ∧ _ ∧ _ ∧ _ ∧ LCg.Off1 _ _).2.2.2.2.2.2 | exact (by assumption : _ ∧ _ ∧ _ ∧ _ ∧ _ ∧ _ ∧ _ ∧ LCg.Off1 _ _).2.2.2.2.2.2.2 | exact (by assumption : _ ∧ _ ∧ _ ∧ _ ∧ _ ∧ _ ∧ _ ∧ _ ∧ LCg.Off1 _ _).2.2.2.2.2.2.2.2 | exact (by assumption : _ ∧ _ ∧ _ ∧ _ ∧ _ ∧ _ ∧ _ ∧ _ ∧ _ ∧ LCg.Off1 _ _).2.2.2.2.2.2.2.2.2 | exact (by assumption : _ ∧ _ ∧ _ ∧ _ ∧ _ ∧ _ ∧ _ ∧ _ ∧ _ ∧ _ ∧ LCg.Off1 _ _).2.2.2.2.2.2.2.2.2.2 | exact (by assumption : _ ∧ _ ∧ _ ∧ _ ∧ _ ∧ _ ∧ _ ∧ _ ∧ _ ∧ _ ∧ _ ∧ LCg.Off1 _ _).2.2.2.2.2.2.2.2.2.2.2 | exact (by assumption : _ ∧ _ ∧ _ ∧ _ ∧ _ ∧ _ ∧ _ ∧ _ ∧ _ ∧ _ ∧ _ ∧ _ ∧ LCg.Off1 _ _).2.2.2.2.2.2.2.2.2.2.2.2 | exact (by assumption : _ ∧ _ ∧ _ ∧ _ ∧ _ ∧ _ ∧ _ ∧ _ ∧ _ ∧ _ ∧ _ ∧ _ ∧ _ ∧ LCg.Off1 _ _).2.2.2.2.2.2.2.2.2.2.2.2.2 | exact (by assumption : _ ∧ _ ∧ _ ∧ _ ∧ _ ∧ _ ∧ _ ∧ _ ∧ _ ∧ _ ∧ _ ∧ _ ∧ _ ∧ _ ∧ LCg.Off1 _ _).2.2.2.2.2.2.2.2.2.2.2.2.2.2 | exact (by assumption : _ ∧ _ ∧ _ ∧ _ ∧ _ ∧ _ ∧ _ ∧ _ ∧ _ ∧ _ ∧ _ ∧ _ ∧ _ ∧ _ ∧ _ ∧ LCg.Off1 _ _).2.2.2.2.2.2.2.2.2.2.2.2.2.2.2 | exact (by assumption : _ ∧ _ ∧ _ ∧ _ ∧ _ ∧ _ ∧ _ ∧ _ ∧ _ ∧ _ ∧ _ ∧ _ ∧ _ ∧ _ ∧ _ ∧ _ ∧ LCg.Off1 _ _).2.2.2.2.2.2.2.2.2.2.2.2.2.2.2.2 | exact (by assumption : _ ∧ _ ∧ _ ∧ _ ∧ _ ∧ _ ∧ _ ∧ _ ∧ _ ∧ _ ∧ _ ∧ _ ∧ _ ∧ _ ∧ _ ∧ _ ∧ _ ∧ LCg.Off1 _ _).2.2.2.2.2.2.2.2.2.2.2.2.2.2.2.2.2 | exact (by assumption : _ ∧ _ ∧ _ ∧ _ ∧ _ ∧ _ ∧ _ ∧ _ ∧ _ ∧ _ ∧ _ ∧ _ ∧ _ ∧ _ ∧ _ ∧ _ ∧ _ ∧ _ ∧ LCg.Off1 _ _).2.2.2.2.2.2.2.2.2.2.2.2.2.2.2.2.2.2 | exact (by assumption : _ ∧ _ ∧ _ ∧ _ ∧ _ ∧ _ ∧ _ ∧ _ ∧ _ ∧ _ ∧ _ ∧ _ ∧ _ ∧ _ ∧ _ ∧ _ ∧ _ ∧ _ ∧ _ ∧ LCg.Off1 _ _).2.2.2.2.2.2.2.2.2.2.2.2.2.2.2.2.2.2.2 | exact (by assumption : _ ∧ _ ∧ _ ∧ _ ∧ _ ∧ _ ∧ _ ∧ _ ∧ _ ∧ _ ∧ _ ∧ _ ∧ _ ∧ _ ∧ _ ∧ _ ∧ _ ∧ _ ∧ _ ∧ _ ∧ LCg.Off1 _ _).2.2.2.2.2.2.2.2.2.2.2.2.2.2.2.2.2.2.2.2)
  k_with "lcg_off" => (first | assumption | exact (by assumption : _ ∧ LCg.Off3 _ _ _ _).2 | exact (by assumption : _ ∧ _ ∧ LCg.Off3 _ _ _ _).2.2 | exact (by assumption : _ ∧ _ ∧ _ ∧ LCg.Off3 _ _ _ _).2.2.2 | exact (by assumption : _ ∧ _ ∧ _ ∧ _ ∧ LCg.Off3 _ _ _ _).2.2.2.2 | exact (by assumption : _ ∧ _ ∧ _ ∧ _ ∧ _ ∧ LCg.Off3 _ _ _ _).2.2.2.2.2 | exact (by assumption : _ ∧ _ ∧ _ ∧ _ ∧ _ ∧ _ ∧ LCg.Off3 _ _ _ _).2.2.2.2.2.2 | exact (by assumption : _ ∧ _ ∧ _ ∧ _ ∧ _ ∧ _ ∧ _ ∧ LCg.Off3 _ _ _ _).2.2.2.2.2.2.2 | exact (by assumption : _ ∧ _ ∧ _ ∧ _ ∧ _ ∧ _ ∧ _ ∧ _ ∧ LCg.Off3 _ _ _ _).2.2.2.2.2.2.2.2 | exact (by assumption : _ ∧ _ ∧ _ ∧ _ ∧ _ ∧ _ ∧ _ ∧ _ ∧ _ ∧ LCg.Off3 _ _ _ _).2.2.2.2.2.2.2.2.2 | exact (by assumption : _ ∧ _ ∧ _ ∧ _ ∧ _ ∧ _ ∧ _ ∧ _ ∧ _ ∧ _ ∧ LCg.Off3 _ _ _ _).2.2.2.2.2.2.2.2.2.2 | exact (by assumption : _ ∧ _ ∧ _ ∧ _ ∧ _ ∧ _ ∧ _ ∧ _ ∧ _ ∧ _ ∧ _ ∧ LCg.Off3 _ _ _ _).2.2.2.2.2.2.2.2.2.2.2 | exact (by assumption : _ ∧ _ ∧ _ ∧ _ ∧ _ ∧ _ ∧ _ ∧ _ ∧ _ ∧ _ ∧ _ ∧ _ ∧ LCg.Off3 _ _ _ _).2.2.2.2.2.2.2.2.2.2.2.2 | exact (by assumption : _ ∧ _ ∧ _ ∧ _ ∧ _ ∧ _ ∧ _ ∧ _ ∧ _ ∧ _ ∧ _ ∧ _ ∧ _ ∧ LCg.Off3 _ _ _ _).2.2.2.2.2.2.2.2.2.2.2.2.2 | exact (by assumption : _ ∧ _ ∧ _ ∧ _ ∧ _ ∧ _ ∧ _ ∧ _ ∧ _ ∧ _ ∧ _ ∧ _ ∧ _ ∧ _ ∧ LCg.Off3 _ _ _ _).2.2.2.2.2.2.2.2.2.2.2.2.2.2 | exact (by assumption : _ ∧ _ ∧ _ ∧ _ ∧ _ ∧ _ ∧ _ ∧ _ ∧ _ ∧ _ ∧ _ ∧ _ ∧ _ ∧ _ ∧ _ ∧ LCg.Off3 _ _ _ _).2.2.2.2.2.2.2.2.2.2.2.2.2.2.2 | exact (by assumption : _ ∧ _ ∧ _ ∧ _ ∧ _ ∧ _ ∧ _ ∧ _ ∧ _ ∧ _ ∧ _ ∧ _ ∧ _ ∧ _ ∧ _ ∧ _ ∧ LCg.Off3 _ _ _ _).2.2.2.2.2.2.2.2.2.2.2.2.2.2.2.2 | exact (by assumption : _ ∧ _ ∧ _ ∧ _ ∧ _ ∧ _ ∧ _ ∧ _ ∧ _ ∧ _ ∧ _ ∧ _ ∧ _ ∧ _ ∧ _ ∧ _ ∧ _ ∧ LCg.Off3 _ _ _ _).2.2.2.2.2.2.2.2.2.2.2.2.2.2.2.2.2 | exact (by assumption : _ ∧ _ ∧ _ ∧ _ ∧ _ ∧ _ ∧ _ ∧ _ ∧ _ ∧ _ ∧ _ ∧ _ ∧ _ ∧ _ ∧ _ ∧ _ ∧ _ ∧ _ ∧ LCg.Off3 _ _ _ _).2.2.2.2.2.2.2.2.2.2.2.2.2.2.2.2.2.2 | exact (by assumption : _ ∧ _ ∧ _ ∧ _ ∧ _ ∧ _ ∧ _ ∧ _ ∧ _ ∧ _ ∧ _ ∧ _ ∧ _ ∧ _ ∧ _ ∧ _ ∧ _ ∧ _ ∧ _ ∧ LCg.Off3 _ _ _ _).2.2.2.2.2.2.2.2.2.2.2.2.2.2.2.2.2.2.2 | exact (by assumption : _ ∧ _ ∧ _ ∧ _ ∧ _ ∧ _ ∧ _ ∧ _ ∧ _ ∧ _ ∧ _ ∧ _ ∧ _ ∧ _ ∧ _ ∧ _ ∧ _ ∧ _ ∧ _ ∧ _ ∧ LCg.Off3 _ _ _ _).2.2.2.2.2.2.2.2.2.2.2.2.2.2.2.2.2.2.2.2)
  k_with "call ref" => ((k_here; (with_reducible show wpAny _ _ (call (Value.ref 21) [Value.int _ _, Value.int _ _]) _ _ _); k_dflt (refine owes_use' (by k_asm) (by k_asm) (by k_asm) (by k_asm) (by k_asm) (by first | exact rfl | assumption) (c_descaled _ _ _ _ _ _ (by first | decide | assumption | omega) (by first | decide | assumption | omega)) (by ktr_room) (by ktr_units) ?_); intro t' h' tk' F' N'; (try k_sweep); (try dsimp only); (try k_fold)))
  k_with "call ref" => ((k_here; (with_reducible show wpAny _ _ (call (Value.ref 35) [Value.int _ _, Value.int _ _, Value.int _ _, Value.int _ _]) _ _ _); k_dflt (refine owes_use' (by k_asm) (by k_asm) (by k_asm) (by k_asm) (by k_asm) (by first | exact rfl | assumption) (c_even_inverse _ _ _ _ _ _ _ _ _ _ (by first | decide | assumption | omega) (by first | decide | assumption | omega)) (by ktr_room) (by ktr_units) ?_); intro r' t1' t2' t3' t4' c' h' tk' F' N' l1; (try k_sweep); (try k_lt l1); (try dsimp only); (try k_fold)))
  k_with "call ref" => ((k_here; (with_reducible show wpAny _ _ (call (Value.ref 49) [Value.int _ _, Value.int _ _, Value.int _ _, Value.int _ _]) _ _ _); k_dflt (refine owes_use' (by k_asm) (by k_asm) (by k_asm) (by k_asm) (by k_asm) (by first | exact rfl | assumption) (c_odd_flow _ _ _ _ _ _ _ _ _ _) (by ktr_room) (by ktr_units) ?_); intro r' t1' t2' t3' t4' c' h' tk' F' N' l1; (try k_sweep); (try k_lt l1); (try dsimp only); (try k_fold)))
  k_with "CompEnd" => ((k_here; k_dflt (refine LCg.CompEnd.intro (by assumption) (by assumption) _ (fun _ hp => hp) (by lcg_off) (by lcg_src) ?_)))
  k_fill
  intro mean mg mb dp un gd cn cs av ccd cl outer A₀ base h₀ L m s Q E B F X N T hk hd hu hret
  replace N := news_dup N hl
  clear hl
  refine wpAny_call ?_
  k_dflt (walk_at "my enter")
  repeat' ((fail_if_success (with_reducible show Q _ _)); (fail_if_success (with_reducible show TurnK _ _ _ _ _ _ _ _ _ _ _ _)); first | (k_unfold; (try dsimp only)) | (k_end; wrow_close) | walk1 | (dsimp only; walk1) | (leave1; walk_say "STEP leave1"; try dsimp only) | fail "no step")
  all_goals exact hret _ _ _ _ _ (by assumption) (cb_drop (by assumption) (List.forall_mem_cons.mpr ⟨by k_dflt k_mem, by (intro p9 h9; repeat (first | exact h9 | refine List.Mem.tail _ ?_))⟩)) (by walk_at "my off") (by k_dflt assumption)
section
variable {prog : Program} {w : World} {A : Around} {E : Value → Shared → Prop} {s : Shared} {env : Env} {h₀ : Heap} {x : Str} {body : List Stmt} {Q : Flow → Shared → Prop}

/-- the end of a turn: J holds of what the ledger bears beside the iterator -/
def TurnK (h₀ : Heap) (L : Addr) (x : Str) (stored : List Str) (m₀ : Str → Option Value) (I : Addr) (o : Obj) (J : List (Addr × Obj) → Prop) (s₁ : Shared) (Q : Flow → Shared → Prop) (f : Flow) (s₂ : Shared) : Prop :=
  match f with
  | .ret v => Q (.ret v) s₂
  | .brk => Q .next s₂
  | _ => ∃ h' tk m' news', s₂ = { s₁ with heap := h', toks := tk } ∧ Fr h₀ L h' m' ∧ News h₀ L h' ((I, o) :: news') ∧ (∀ p ∈ news', p.1 ≠ I) ∧ (∀ y, y ≠ x → stored.contains y = false → m' y = m₀ y) ∧ J news'

theorem turnK_end {L : Addr} {stored : List Str} {m₀ m' : Str → Option Value} {I : Addr} {o : Obj} {J : List (Addr × Obj) → Prop} {s₁ : Shared} {h' : Heap} {tk : Nat} {all : List (Addr × Obj)} (F : Fr h₀ L h' m') (N : News h₀ L h' all) (news' : List (Addr × Obj))
    (hs : ∀ p ∈ (I, o) :: news', p ∈ all) (off : ∀ p ∈ news', p.1 ≠ I) (hm : ∀ y, y ≠ x → stored.contains y = false → m' y = m₀ y) (j : J news') : TurnK h₀ L x stored m₀ I o J s₁ Q .next { s₁ with heap := h', toks := tk } :=
  ⟨h', tk, m', news', rfl, F, fun p hp => N p (hs p hp), off, hm, j⟩

theorem loopK_rest {I : Addr} {a c : Int} {n : Nat} {m₀ : Str → Option Value} (stored : List Str) (J : Nat → List (Addr × Obj) → Prop)
    (turn : ∀ i t (u : Str → Option Value) h tk o news', i < n → J i news' → (∀ p ∈ news', p.1 ≠ I) → Fr h₀ env.locals h (fun y => if y = x then some (.int (a + (i : Int) * c) t) else if stored.contains y then u y else m₀ y) → News h₀ env.locals h ((I, o) :: news') →
      wpAny (model prog w) A (execs body env) (TurnK h₀ env.locals x stored m₀ I o (J (i + 1)) { s with heap := h, toks := tk } Q) E { s with heap := h, toks := tk })
    (done : ∀ (u : Str → Option Value) h tk news', J n news' → Fr h₀ env.locals h (fun y => if y = x then u y else if stored.contains y then u y else m₀ y) → News h₀ env.locals h news' → Q .next { s with heap := h, toks := tk }) :
    ∀ k i (m : Str → Option Value) news', i + k = n → J i news' → (∀ p ∈ news', p.1 ≠ I) → (∀ y, y ≠ x → stored.contains y = false → m y = m₀ y) → KrsRest prog w A E h₀ env x body Q s I a c n k i m news'
  | 0, i, m, news', hi, hJ, off, hm => by
    obtain rfl : i = n := by omega
    intro h tk F N
    refine done m h tk news' hJ ?_ N
    have e : (fun y => if y = x then m y else if stored.contains y then m y else m₀ y) = m := by
      funext y
      by_cases h1 : y = x
      · simp [h1]
      · simp only [if_neg h1]
        cases h2 : stored.contains y with
        | true => simp
        | false => simp only [Bool.false_eq_true, if_false]; exact (hm y h1 h2).symm
    rw [e]; exact F
  | k + 1, i, m, news', hi, hJ, off, hm => by
    intro t h tk F N
    have e : (fun y => if y = x then some (Value.int (a + (i : Int) * c) t) else m y) = fun y => if y = x then some (Value.int (a + (i : Int) * c) t) else if stored.contains y then m y else m₀ y := by
      funext y
      by_cases h1 : y = x
      · simp [h1]
      · simp only [if_neg h1]
        cases h2 : stored.contains y with
        | true => simp
        | false => simp only [Bool.false_eq_true, if_false]; exact hm y h1 h2
    rw [e] at F
    refine wpAny_mono (turn i t m h tk _ news' (by omega) hJ off F N) (fun f s₂ p => ?_) fun _ _ q => q
    have fin : (∃ h' tk' m' news', s₂ = { ({ s with heap := h, toks := tk } : Shared) with heap := h', toks := tk' } ∧ Fr h₀ env.locals h' m' ∧ News h₀ env.locals h' ((I, krsIt (a + ((i + 1 : Nat) : Int) * c) ((n : Int) - ((i + 1 : Nat) : Int)) c) :: news') ∧ (∀ p ∈ news', p.1 ≠ I) ∧ (∀ y, y ≠ x → stored.contains y = false → m' y = m₀ y) ∧ J (i + 1) news') →
        UnrEnd h₀ env.locals { s with heap := h, toks := tk } I (krsIt (a + ((i + 1 : Nat) : Int) * c) ((n : Int) - ((i + 1 : Nat) : Int)) c) (KrsRest prog w A E h₀ env x body Q s I a c n k (i + 1)) s₂ := by
      rintro ⟨h', tk', m', nw, e, F', N', off', hm', hJ'⟩
      exact ⟨h', tk', m', nw, e, F', N', off', loopK_rest stored J turn done k (i + 1) m' nw (by omega) hJ' off' hm'⟩
    cases f with
    | ret v => exact p
    | brk => exact p
    | next => exact fin p
    | cont => exact fin p

theorem off1_of {D : Addr} : ∀ {l : List (Addr × Obj)}, (∀ p ∈ l, p.1 ≠ D) → LCg.Off1 D l
  | [], _ => trivial
  | p :: _, h => ⟨h p (.head _), off1_of fun q hq => h q (.tail _ hq)⟩
theorem loopK {r : Addr} {a c b₀ : Int} {t₀ u₀ v₀ : Tok} (n : Nat) {m₀ : Str → Option Value} {news : List (Addr × Obj)} (stored : List Str) (J : Nat → List (Addr × Obj) → Prop)
    (hh : A.handled = none) (hr : IsRange s.heap r a b₀ c t₀ u₀ v₀) (hsmall : Builtin.Range.small a b₀ c = true) (hn : Builtin.Range.rangeSize a b₀ c = (n : Int)) (F : Fr h₀ env.locals s.heap m₀) (N : News h₀ env.locals s.heap news) (hJ : J 0 news)
    (turn : ∀ I i t (u : Str → Option Value) h tk o news', i < n → J i news' → LCg.Off1 I news' → Fr h₀ env.locals h (fun y => if y = x then some (.int (a + (i : Int) * c) t) else if stored.contains y then u y else m₀ y) → News h₀ env.locals h ((I, o) :: news') →
      wpAny (model prog w) A (execs body env) (TurnK h₀ env.locals x stored m₀ I o (J (i + 1)) { s with heap := h, toks := tk } Q) E { s with heap := h, toks := tk })
    (done : ∀ (u : Str → Option Value) h tk news', J n news' → Fr h₀ env.locals h (fun y => if y = x then u y else if stored.contains y then u y else m₀ y) → News h₀ env.locals h news' → Q .next { s with heap := h, toks := tk }) :
    wpAny (model prog w) A (pyIter (.ref r)) (fun it s₂ => LoopAtV prog w A h₀ env x body Q E it s₂) E s :=
  krs_iter hh hr hsmall hn F N fun I hI => loopK_rest stored J (fun i t u h tk o nw hi hj off => turn I i t u h tk o nw hi hj (off1_of off)) done n 0 m₀ news (Nat.zero_add _) hJ (fun p hp => Nat.ne_of_lt (hI p hp)) fun _ _ _ => rfl

theorem tooLong_no {a b : Nat} {e : Bool} (h : a + b ≤ 4096) : ¬ (e && Builtin.List.listTooLong (a + b)) = true := by
  have : Builtin.List.listTooLong (a + b) = false := by
    unfold Builtin.List.listTooLong
    rw [decide_eq_false_iff_not, sizeLine_eq]; omega
  rw [this]; simp
/-- extend by a list of ints, either of any length -/
theorem ext_ints {L D b : Addr} {m : Str → Option Value} {news : List (Addr × Obj)} {us ws : List Value} {ms ks : List Int} {n n2 : Nat} {nf : Nat → List (Addr × Obj)} {Q : Value → Shared → Prop} (F : Fr h₀ L s.heap m) (N : News h₀ L s.heap news) (hb : (b, listOf ws.toArray n2) ∈ news)
    (U : ∀ n', Upd D (listOf us.toArray n) (listOf (us ++ ws).toArray n') news (nf n')) (hu : IntsAre us ms) (hw : IntsAre ws ks) (hz : us.length + ws.length ≤ 4096)
    (h : ∀ n' h', Fr h₀ L h' m → News h₀ L h' (nf n') → IntsAre (us ++ ws) (ms ++ ks) → Q .none { s with heap := h' }) : wpAny (model prog w) A (call (.builtin "list.extend") [.ref D, .ref b]) Q E s := by
  by_cases h0 : ws = []
  · subst h0
    refine kxn_extend (its := us.toArray) (its2 := #[]) (n := n) F N hb rfl (by have := U n; rw [List.append_nil] at this; exact this) ?_ ?_ ?_ fun h' F' N' => h n h' F' N' (hu.append hw)
    · simpa using tooLong_no (a := us.length) (b := 0) (e := !us.isEmpty) (by simpa using hz)
    · rw [sizeLine_eq]; simp at hz ⊢; omega
    · rw [sizeLine_eq]; simp at hz ⊢; omega
  · refine kl_extend (its := us.toArray) (its2 := ws.toArray) (n := n) (l := us ++ ws) F N hb rfl (by simpa using h0) (U (n + 1)) ?_ ?_ ?_ fun h' F' N' => h (n + 1) h' F' N' (hu.append hw)
    · simpa using tooLong_no (a := us.length) (b := ws.length) (e := !us.isEmpty) hz
    · rw [sizeLine_eq]; simp; omega
    · rw [sizeLine_eq]; simp; omega
end

theorem not4 {a b c d y : Str} (h : [a, b, c, d].contains y = false) : y ≠ a ∧ y ≠ b ∧ y ≠ c ∧ y ≠ d := by
  simp only [List.contains_cons, List.contains_nil, Bool.or_false, Bool.or_eq_false_iff] at h
  obtain ⟨h1, h2, h3, h4⟩ := h
  exact ⟨fun e => by simp [e] at h1, fun e => by simp [e] at h2, fun e => by simp [e] at h3, fun e => by simp [e] at h4⟩
theorem not1 {a y : Str} (h : [a].contains y = false) : y ≠ a := by
  simp only [List.contains_cons, List.contains_nil, Bool.or_false] at h
  exact fun e => by simp [e] at h
theorem news_at0 {h₀ h : Heap} {L a : Addr} {o : Obj} {news : List (Addr × Obj)} (_N : News h₀ L h ((a, o) :: news)) : ∃ b : Addr, b = a := ⟨a, rfl⟩
theorem news_at1 {h₀ h : Heap} {L a : Addr} {p : Addr × Obj} {us : List Value} {c : Nat} {news : List (Addr × Obj)} (_N : News h₀ L h (p :: (a, listOf us.toArray c) :: news)) : ∃ (b : Addr) (vs : List Value) (d : Nat), b = a ∧ vs = us ∧ d = c := ⟨a, us, c, rfl, rfl, rfl⟩
section
variable {prog : Program} {w : World} {A : Around} {E : Value → Shared → Prop} {s : Shared} {h₀ : Heap} {L : Addr} {m : Str → Option Value} {news : List (Addr × Obj)}
/-- a slice of a list of ints, with or without a step -/
theorem slice_ints3 {value slice : PySem.Expr} {l : Addr} {vs : List Value} {k : Nat} {ns : List Int} {vl vu vk : Value} {lo hi st : Option Int} {ops : List Value} {Q : Value → Shared → Prop}
    (F : Fr h₀ L s.heap m) (N : News h₀ L s.heap news) (hl : (l, listOf vs.toArray k) ∈ news) (hi' : IntsAre vs ns) (pl : IsPart vl lo) (pu : IsPart vu hi) (pk : IsPart vk st) (h0 : st ≠ some 0) (hz : vs.length ≤ 4096)
    (h : ∀ D ws h', Fr h₀ L h' m → News h₀ L h' ((D, listOf (List.toArray ws) 0) :: news) → (∀ p ∈ news, p.1 < D) → IntsAre ws (pickNums ns lo hi st) → ws.length ≤ vs.length → Q (.ref D) { s with heap := h' })
    (hs : subscripted slice false (.ref l) (.ref s.heap.objs.size) = operate ops (getItem (.ref l) (.ref s.heap.objs.size))) (ht : ∀ r, letTemporaryGo value (.ref l) r = pure ()) :
    wpAny (model prog w) A (subscriptTail value slice (.ref l) (.ref s.heap.objs.size)) Q E { s with heap := s.heap.push { cls := .type "slice", data := .fields #[vl, vu, vk] } } := by
  have hL : s.heap.IsList l vs.toArray := ⟨_, (N _ hl).1, rfl, k, rfl⟩
  refine slice_list3 F N hL pl pu pk h0 (fun h' F' N' => h _ (slicePick vs.toArray lo hi st).toList h' F' ?_ (fun p hp => Nat.lt_succ_of_lt (Heap.lt_size (N p hp).1)) (hi'.pick lo hi st) ?_) hs ht ?_
  · rw [Array.toArray_toList]; exact N'
  · have := slicePick_size_le vs.toArray lo hi st
    simpa using this
  · rw [List.size_toArray, sizeLine_eq]; omega
end
def turnPre (n : Nat) (ns : List Int) : Nat → List Int
  | 0 => []
  | i + 1 => turnPre n ns i ++ pickNums ns (some (0 + (i : Int) * 1)) none (some (n : Int))
abbrev turnI (n : Nat) (ns : List Int) : List Int := turnPre n ns n
theorem c_turned8 (w : World) (news : List (Addr × Obj)) (l : Addr) (k : Nat) (vs : List Value) (ns : List Int) (t : Tok) (hl : (l, listOf vs.toArray k) ∈ news) (hi : IntsAre vs ns) (hn : vs.length ≤ 64) :
    Owes 3 w 42 [.ref l, .int 8 t] news (fun h₀ L m s Q => LRet h₀ L m news s Q (turnI 8 ns)) := by
  unfold Owes
  w_top off
  k_with_none
  k_with "my off" => (first | assumption | exact off1_lt (by tbn_lt) | exact (by assumption : _ ∧ LCg.Off1 _ _).2 | exact (by assumption : _ ∧ _ ∧ LCg.Off1 _ _).2.2 | exact (by assumption : _ ∧ _ ∧ _ ∧ LCg.Off1 _ _).2.2.2 | exact (by assumption : _ ∧ _ ∧ _ ∧ _ ∧ LCg.Off1 _ _).2.2.2.2 | exact (by assumption : _ ∧ _ ∧ _ ∧ _ ∧ _ ∧ LCg.Off1 _ _).2.2.2.2.2 | exact (by assumption : _ ∧ _ ∧ _ ∧ _ ∧ _ ∧ _ ∧ LCg.Off1 _ _).2.2.2.2.2.2 | exact (by assumption : _ ∧ _ ∧ _ ∧ _ ∧ _ ∧ _ ∧ _ ∧ LCg.Off1 _ _).2.2.2.2.2.2.2 | exact (by assumption : _ ∧ _ ∧ _ ∧ _ ∧ _ ∧ _ ∧ _ ∧ _ ∧ LCg.Off1 _ _).2.2.2.2.2.2.2.2 | exact (by assumption : _ ∧ _ ∧ _ ∧ _ ∧ _ ∧ _ ∧ _ ∧ _ ∧ _ ∧ LCg.Off1 _ _).2.2.2.2.2.2.2.2.2 | exact (by assumption : _ ∧ _ ∧ _ ∧ _ ∧ _ ∧ _ ∧ _ ∧ _ ∧ _ ∧ _ ∧ LCg.Off1 _ _).2.2.2.2.2.2.2.2.2.2 | exact (by assumption : _ ∧ _ ∧ _ ∧ _ ∧ _ ∧ _ ∧ _ ∧ _ ∧ _ ∧ _ ∧ _ ∧ LCg.Off1 _ _).2.2.2.2.2.2.2.2.2.2.2 | exact (by assumption : _ ∧ _ ∧ _ ∧ _ ∧ _ ∧ _ ∧ _ ∧ _ ∧ _ ∧ _ ∧ _ ∧ _ ∧ LCg.Off1 _ _).2.2.2.2.2.2.2.2.2.2.2.2 | exact (by assumption : _ ∧ _ ∧ _ ∧ _ ∧ _ ∧ _ ∧ _ ∧ _ ∧ _ ∧ _ ∧ _ ∧ _ ∧ _ ∧ LCg.Off1 _ _).2.2.2.2.2.2.2.2.2.2.2.2.2 | exact (by assumption : _ ∧ _ ∧ _ ∧ _ ∧ _ ∧ _ ∧ _ ∧ _ ∧ _ ∧ _ ∧ _ ∧ _ ∧ _ ∧ _ ∧ LCg.Off1 _ _).2.2.2.2.2.2.2.2.2.2.2.2.2.2 | exact (by assumption : _ ∧ _ ∧ _ ∧ _ ∧ _ ∧ _ ∧ _ ∧ _ ∧ _ ∧ _ ∧ _ ∧ _ ∧ _ ∧ _ ∧ _ ∧ LCg.Off1 _ _).2.2.2.2.2.2.2.2.2.2.2.2.2.2.2 | exact (by assumption : _ ∧ _ ∧ _ ∧ _ ∧ _ ∧ _ ∧ _ ∧ _ ∧ _ ∧ _ ∧ _ ∧ _ ∧ _ ∧ _ ∧ _ ∧ _ ∧ LCg.Off1 _ _).2.2.2.2.2.2.2.2.2.2.2.2.2.2.2.2 | exact (by assumption : _ ∧ _ ∧ _ ∧ _ ∧ _ ∧ _ ∧ _ ∧ _ ∧ _ ∧ _ ∧ _ ∧ _ ∧ _ ∧ _ ∧ _ ∧ _ ∧ _ ∧ LCg.Off1 _ _).2.2.2.2.2.2.2.2.2.2.2.2.2.2.2.2.2 | exact (by assumption : _ ∧ _ ∧ _ ∧ _ ∧ _ ∧ _ ∧ _ ∧ _ ∧ _ ∧ _ ∧ _ ∧ _ ∧ _ ∧ _ ∧ _ ∧ _ ∧ _ ∧ _ ∧ LCg.Off1 _ _).2.2.2.2.2.2.2.2.2.2.2.2.2.2.2.2.2.2 | exact (by assumption : _ ∧ _ ∧ _ ∧ _ ∧ _ ∧ _ ∧ _ ∧ _ ∧ _ ∧ _ ∧ _ ∧ _ ∧ _ ∧ _ ∧ _ ∧ _ ∧ _ ∧ _ ∧ _ ∧ LCg.Off1 _ _).2.2.2.2.2.2.2.2.2.2.2.2.2.2.2.2.2.2.2 | exact (by assumption : _ ∧ _ ∧ _ ∧ _ ∧ _ ∧ _ ∧ _ ∧ _ ∧ _ ∧ _ ∧ _ ∧ _ ∧ _ ∧ _ ∧ _ ∧ _ ∧ _ ∧ _ ∧ _ ∧ _ ∧ LCg.Off1 _ _).2.2.2.2.2.2.2.2.2.2.2.2.2.2.2.2.2.2.2.2)
  k_with "lcg_off" => (first | assumption | exact (by assumption : _ ∧ LCg.Off3 _ _ _ _).2 | exact (by assumption : _ ∧ _ ∧ LCg.Off3 _ _ _ _).2.2 | exact (by assumption : _ ∧ _ ∧ _ ∧ LCg.Off3 _ _ _ _).2.2.2 | exact (by assumption : _ ∧ _ ∧ _ ∧ _ ∧ LCg.Off3 _ _ _ _).2.2.2.2 | exact (by assumption : _ ∧ _ ∧ _ ∧ _ ∧ _ ∧ LCg.Off3 _ _ _ _).2.2.2.2.2 | exact (by assumption : _ ∧ _ ∧ _ ∧ _ ∧ _ ∧ _ ∧ LCg.Off3 _ _ _ _).2.2.2.2.2.2 | exact (by assumption : _ ∧ _ ∧ _ ∧ _ ∧ _ ∧ _ ∧ _ ∧ LCg.Off3 _ _ _ _).2.2.2.2.2.2.2 | exact (by assumption : _ ∧ _ ∧ _ ∧ _ ∧ _ ∧ _ ∧ _ ∧ _ ∧ LCg.Off3 _ _ _ _).2.2.2.2.2.2.2.2 | exact (by assumption : _ ∧ _ ∧ _ ∧ _ ∧ _ ∧ _ ∧ _ ∧ _ ∧ _ ∧ LCg.Off3 _ _ _ _).2.2.2.2.2.2.2.2.2 | exact (by assumption : _ ∧ _ ∧ _ ∧ _ ∧ _ ∧ _ ∧ _ ∧ _ ∧ _ ∧ _ ∧ LCg.Off3 _ _ _ _).2.2.2.2.2.2.2.2.2.2 | exact (by assumption : _ ∧ _ ∧ _ ∧ _ ∧ _ ∧ _ ∧ _ ∧ _ ∧ _ ∧ _ ∧ _ ∧ LCg.Off3 _ _ _ _).2.2.2.2.2.2.2.2.2.2.2 | exact (by assumption : _ ∧ _ ∧ _ ∧ _ ∧ _ ∧ _ ∧ _ ∧ _ ∧ _ ∧ _ ∧ _ ∧ _ ∧ LCg.Off3 _ _ _ _).2.2.2.2.2.2.2.2.2.2.2.2 | exact (by assumption : _ ∧ _ ∧ _ ∧ _ ∧ _ ∧ _ ∧ _ ∧ _ ∧ _ ∧ _ ∧ _ ∧ _ ∧ _ ∧ LCg.Off3 _ _ _ _).2.2.2.2.2.2.2.2.2.2.2.2.2 | exact (by assumption : _ ∧ _ ∧ _ ∧ _ ∧ _ ∧ _ ∧ _ ∧ _ ∧ _ ∧ _ ∧ _ ∧ _ ∧ _ ∧ _ ∧ LCg.Off3 _ _ _ _).2.2.2.2.2.2.2.2.2.2.2.2.2.2 | exact (by assumption : _ ∧ _ ∧ _ ∧ _ ∧ _ ∧ _ ∧ _ ∧ _ ∧ _ ∧ _ ∧ _ ∧ _ ∧ _ ∧ _ ∧ _ ∧ LCg.Off3 _ _ _ _).2.2.2.2.2.2.2.2.2.2.2.2.2.2.2 | exact (by assumption : _ ∧ _ ∧ _ ∧ _ ∧ _ ∧ _ ∧ _ ∧ _ ∧ _ ∧ _ ∧ _ ∧ _ ∧ _ ∧ _ ∧ _ ∧ _ ∧ LCg.Off3 _ _ _ _).2.2.2.2.2.2.2.2.2.2.2.2.2.2.2.2 | exact (by assumption : _ ∧ _ ∧ _ ∧ _ ∧ _ ∧ _ ∧ _ ∧ _ ∧ _ ∧ _ ∧ _ ∧ _ ∧ _ ∧ _ ∧ _ ∧ _ ∧ _ ∧ LCg.Off3 _ _ _ _).2.2.2.2.2.2.2.2.2.2.2.2.2.2.2.2.2 | exact (by assumption : _ ∧ _ ∧ _ ∧ _ ∧ _ ∧ _ ∧ _ ∧ _ ∧ _ ∧ _ ∧ _ ∧ _ ∧ _ ∧ _ ∧ _ ∧ _ ∧ _ ∧ _ ∧ LCg.Off3 _ _ _ _).2.2.2.2.2.2.2.2.2.2.2.2.2.2.2.2.2.2 | exact (by assumption : _ ∧ _ ∧ _ ∧ _ ∧ _ ∧ _ ∧ _ ∧ _ ∧ _ ∧ _ ∧ _ ∧ _ ∧ _ ∧ _ ∧ _ ∧ _ ∧ _ ∧ _ ∧ _ ∧ LCg.Off3 _ _ _ _).2.2.2.2.2.2.2.2.2.2.2.2.2.2.2.2.2.2.2 | exact (by assumption : _ ∧ _ ∧ _ ∧ _ ∧ _ ∧ _ ∧ _ ∧ _ ∧ _ ∧ _ ∧ _ ∧ _ ∧ _ ∧ _ ∧ _ ∧ _ ∧ _ ∧ _ ∧ _ ∧ _ ∧ LCg.Off3 _ _ _ _).2.2.2.2.2.2.2.2.2.2.2.2.2.2.2.2.2.2.2.2)
  k_with "subscriptTail Name Slice ref ref" => ((k_here; (with_reducible show wpAny _ _ (subscriptTail _ (PySem.Expr.Slice _ _ _ _) (Value.ref _) (Value.ref _)) _ _ _); k_dflt (refine slice_ints3 (by k_asm) (by k_asm) (by k_mem) (by first | assumption | exact IntsAre.nil) (by kmk_part) (by kmk_part) (by kmk_part) (by first | decide | (intro hz; injection hz with hz; omega)) (by walk_at "my size") ?_ (by with_unfolding_all rfl) (by kmk_pure)); intro D' ws' h' F' N' l1 hI' hC'; (try k_lt l1); (try k_sweep)))
  k_with "call builtin:list.extend" => ((k_here; (with_reducible show wpAny _ _ (call (Value.builtin _) [Value.ref _, Value.ref _]) _ _ _); k_dflt (refine ext_ints (by k_asm) (by k_asm) (by k_mem) (by (intro n'; k_upd)) (by first | assumption | exact IntsAre.nil) (by first | assumption | exact IntsAre.pick (by assumption) _ _ _ | exact IntsAre.cons _ _ (IntsAre.cons _ _ IntsAre.nil) | exact IntsAre.cons _ _ (IntsAre.cons _ _ (IntsAre.cons _ _ (IntsAre.cons _ _ IntsAre.nil)))) (by walk_at "my size") ?_); intro n' h' F' N' hI'; (try k_sweep)))
  k_with "my size" => (omega)
  k_fill
  intro mean mg mb dp un gd cn cs av ccd cl outer A₀ base h₀ L m s Q E B F X N T hk hd hu hret
  replace N := news_dup N hl
  clear hl
  refine wpAny_call ?_
  k_dflt (walk_at "my enter")
  repeat' ((fail_if_success (with_reducible show wpAny _ _ (pyIter _) _ _ _)); first | (k_unfold; (try dsimp only)) | (k_end; wrow_close) | walk1 | (dsimp only; walk1) | (leave1; walk_say "STEP leave1"; try dsimp only) | fail "no step")
  rename IsRange _ _ _ _ _ _ _ _ => RG
  rename Fr _ _ _ _ => FF
  rename News _ _ _ _ => NN
  obtain ⟨lf, elf⟩ := news_at0 NN
  subst elf
  refine loopK 8 [] (fun i nw => ∃ us c, nw = (lf, listOf us.toArray c) :: (l, listOf vs.toArray k) :: news ∧ IntsAre us (turnPre 8 ns i) ∧ us.length ≤ 64 * i) (by rfl) RG (by decide) (by decide) FF NN ⟨[], 0, rfl, .nil, by simp⟩ ?_ ?_
  · intro I i tI uI hI tkI o nw hiI hJ hoff F1 N1
    obtain ⟨us, c, e, hus, hlen⟩ := hJ
    subst e
    clear FF NN RG
    have hoff2 := hoff
    simp only [LCg.Off1] at hoff2
    repeat' ((fail_if_success (with_reducible show Q _ _)); (fail_if_success (with_reducible show TurnK _ _ _ _ _ _ _ _ _ _ _ _)); first | (k_unfold; (try dsimp only)) | (k_end; wrow_close) | walk1 | (dsimp only; walk1) | (leave1; walk_say "STEP leave1"; try dsimp only) | fail "no step")
    refine turnK_end (by assumption) (by assumption) ((lf, listOf (us ++ _).toArray _) :: (l, listOf vs.toArray k) :: news) (by k_sub) (off1_all hoff) (by intro y h1 h2; (try dsimp only); rw [if_neg h1]; rfl) ⟨_, _, rfl, by assumption, ?_⟩
    rw [List.length_append]; omega
  · intro uI hI tkI nw hJ F1 N1
    obtain ⟨us, c, e, hus, hlen⟩ := hJ
    subst e
    clear FF NN RG
    repeat' ((fail_if_success (with_reducible show Q _ _)); (fail_if_success (with_reducible show TurnK _ _ _ _ _ _ _ _ _ _ _ _)); first | (k_unfold; (try dsimp only)) | (k_end; wrow_close) | walk1 | (dsimp only; walk1) | (leave1; walk_say "STEP leave1"; try dsimp only) | fail "no step")
    all_goals exact hret _ _ _ _ _ (by assumption) (cb_drop (by assumption) (List.forall_mem_cons.mpr ⟨by k_dflt k_mem, by (intro p9 h9; repeat (first | exact h9 | refine List.Mem.tail _ ?_))⟩)) (by walk_at "my off") hus
theorem c_turned4 (w : World) (news : List (Addr × Obj)) (l : Addr) (k : Nat) (vs : List Value) (ns : List Int) (t : Tok) (hl : (l, listOf vs.toArray k) ∈ news) (hi : IntsAre vs ns) (hn : vs.length ≤ 64) :
    Owes 3 w 42 [.ref l, .int 4 t] news (fun h₀ L m s Q => LRet h₀ L m news s Q (turnI 4 ns)) := by
  unfold Owes
  w_top off
  k_fill
  intro mean mg mb dp un gd cn cs av ccd cl outer A₀ base h₀ L m s Q E B F X N T hk hd hu hret
  replace N := news_dup N hl
  clear hl
  refine wpAny_call ?_
  k_dflt (walk_at "my enter")
  repeat' ((fail_if_success (with_reducible show wpAny _ _ (pyIter _) _ _ _)); first | (k_unfold; (try dsimp only)) | (k_end; wrow_close) | walk1 | (dsimp only; walk1) | (leave1; walk_say "STEP leave1"; try dsimp only) | fail "no step")
  rename IsRange _ _ _ _ _ _ _ _ => RG
  rename Fr _ _ _ _ => FF
  rename News _ _ _ _ => NN
  obtain ⟨lf, elf⟩ := news_at0 NN
  subst elf
  refine loopK 4 [] (fun i nw => ∃ us c, nw = (lf, listOf us.toArray c) :: (l, listOf vs.toArray k) :: news ∧ IntsAre us (turnPre 4 ns i) ∧ us.length ≤ 64 * i) (by rfl) RG (by decide) (by decide) FF NN ⟨[], 0, rfl, .nil, by simp⟩ ?_ ?_
  · intro I i tI uI hI tkI o nw hiI hJ hoff F1 N1
    obtain ⟨us, c, e, hus, hlen⟩ := hJ
    subst e
    clear FF NN RG
    have hoff2 := hoff
    simp only [LCg.Off1] at hoff2
    repeat' ((fail_if_success (with_reducible show Q _ _)); (fail_if_success (with_reducible show TurnK _ _ _ _ _ _ _ _ _ _ _ _)); first | (k_unfold; (try dsimp only)) | (k_end; wrow_close) | walk1 | (dsimp only; walk1) | (leave1; walk_say "STEP leave1"; try dsimp only) | fail "no step")
    refine turnK_end (by assumption) (by assumption) ((lf, listOf (us ++ _).toArray _) :: (l, listOf vs.toArray k) :: news) (by k_sub) (off1_all hoff) (by intro y h1 h2; (try dsimp only); rw [if_neg h1]; rfl) ⟨_, _, rfl, by assumption, ?_⟩
    rw [List.length_append]; omega
  · intro uI hI tkI nw hJ F1 N1
    obtain ⟨us, c, e, hus, hlen⟩ := hJ
    subst e
    clear FF NN RG
    repeat' ((fail_if_success (with_reducible show Q _ _)); (fail_if_success (with_reducible show TurnK _ _ _ _ _ _ _ _ _ _ _ _)); first | (k_unfold; (try dsimp only)) | (k_end; wrow_close) | walk1 | (dsimp only; walk1) | (leave1; walk_say "STEP leave1"; try dsimp only) | fail "no step")
    all_goals exact hret _ _ _ _ _ (by assumption) (cb_drop (by assumption) (List.forall_mem_cons.mpr ⟨by k_dflt k_mem, by (intro p9 h9; repeat (first | exact h9 | refine List.Mem.tail _ ?_))⟩)) (by walk_at "my off") hus
def AllB (B : Int) (ns : List Int) : Prop := ∀ x ∈ ns, -B ≤ x ∧ x ≤ B
theorem AllB.mono {B C : Int} {ns : List Int} (h : AllB B ns) (hb : B ≤ C) : AllB C ns := fun x hx => by have := h x hx; omega
theorem AllB.append {B : Int} {ns ms : List Int} (h : AllB B ns) (k : AllB B ms) : AllB B (ns ++ ms) := fun x hx => (List.mem_append.mp hx).elim (h x) (k x)
theorem AllB.getD {B : Int} {ns : List Int} (h : AllB B ns) (hB : 0 ≤ B) (i : Nat) : -B ≤ ns.getD i 0 ∧ ns.getD i 0 ≤ B := by
  rw [List.getD_eq_getElem?_getD]
  cases e : ns[i]? with
  | none => simp; omega
  | some x => exact h x (List.mem_of_getElem? e)

theorem filterMap_get (ns : List Int) : ∀ js : List Nat, (∀ j ∈ js, j < ns.length) → js.filterMap (ns[·]?) = js.map (ns.getD · 0)
  | [], _ => rfl
  | j :: js, h => by
    have hj : j < ns.length := h j (.head _)
    rw [List.filterMap_cons, List.map_cons, ← filterMap_get ns js fun i hi => h i (.tail _ hi)]
    simp [List.getD_eq_getElem?_getD, hj]
theorem pick_of {ns : List Int} {lo hi st : Option Int} {n : Nat} (hn : ns.length = n) (js : List Nat) (e : sliceRange (sliceBounds lo hi st n).1 (sliceBounds lo hi st n).2.1 (sliceBounds lo hi st n).2.2 = js) (h : ∀ j ∈ js, j < n) :
    pickNums ns lo hi st = js.map (ns.getD · 0) := by
  unfold pickNums
  rw [hn, e]
  exact filterMap_get ns js fun j hj => hn ▸ h j hj
theorem pick_mem {ns : List Int} {lo hi st : Option Int} {x : Int} (h : x ∈ pickNums ns lo hi st) : x ∈ ns := by
  unfold pickNums at h
  obtain ⟨j, _, hj⟩ := List.mem_filterMap.mp h
  exact List.mem_of_getElem? hj
theorem AllB.pick {B : Int} {ns : List Int} (h : AllB B ns) (lo hi st : Option Int) : AllB B (pickNums ns lo hi st) := fun _ hx => h _ (pick_mem hx)

/-- row i of a block of rows of 8 -/
abbrev row8 (ns : List Int) (i : Nat) : List Int := pickNums ns (some (0 + (i : Int) * 8)) (some (0 + (i : Int) * 8 + 8)) none
def idx8 (i : Nat) : List Nat := [8 * i, 8 * i + 1, 8 * i + 2, 8 * i + 3, 8 * i + 4, 8 * i + 5, 8 * i + 6, 8 * i + 7]
theorem lt8 {P : Nat → Prop} (h0 : P 0) (h1 : P 1) (h2 : P 2) (h3 : P 3) (h4 : P 4) (h5 : P 5) (h6 : P 6) (h7 : P 7) : ∀ i, i < 8 → P i := by
  intro i hi
  match i, hi with
  | 0, _ => exact h0
  | 1, _ => exact h1
  | 2, _ => exact h2
  | 3, _ => exact h3
  | 4, _ => exact h4
  | 5, _ => exact h5
  | 6, _ => exact h6
  | 7, _ => exact h7
theorem lt4 {P : Nat → Prop} (h0 : P 0) (h1 : P 1) (h2 : P 2) (h3 : P 3) : ∀ i, i < 4 → P i := by
  intro i hi
  match i, hi with
  | 0, _ => exact h0
  | 1, _ => exact h1
  | 2, _ => exact h2
  | 3, _ => exact h3
theorem row8_eq {ns : List Int} (hn : ns.length = 64) : ∀ i, i < 8 → row8 ns i = (idx8 i).map (ns.getD · 0) := by
  apply lt8 <;> exact pick_of hn _ (by decide) (by decide)
theorem row8_len {ns : List Int} (hn : ns.length = 64) {i : Nat} (hi : i < 8) : (row8 ns i).length = 8 := by rw [row8_eq hn i hi]; rfl

theorem turn8_col {ns : List Int} (hn : ns.length = 64) : ∀ i : Nat, i < 8 → pickNums ns (some (0 + (i : Int) * 1)) none (some ((8 : Nat) : Int)) = [ns.getD i 0, ns.getD (i + 8) 0, ns.getD (i + 16) 0, ns.getD (i + 24) 0, ns.getD (i + 32) 0, ns.getD (i + 40) 0, ns.getD (i + 48) 0, ns.getD (i + 56) 0] := by
  apply lt8
  · exact pick_of hn [0, 8, 16, 24, 32, 40, 48, 56] (by decide) (by decide)
  · exact pick_of hn [1, 9, 17, 25, 33, 41, 49, 57] (by decide) (by decide)
  · exact pick_of hn [2, 10, 18, 26, 34, 42, 50, 58] (by decide) (by decide)
  · exact pick_of hn [3, 11, 19, 27, 35, 43, 51, 59] (by decide) (by decide)
  · exact pick_of hn [4, 12, 20, 28, 36, 44, 52, 60] (by decide) (by decide)
  · exact pick_of hn [5, 13, 21, 29, 37, 45, 53, 61] (by decide) (by decide)
  · exact pick_of hn [6, 14, 22, 30, 38, 46, 54, 62] (by decide) (by decide)
  · exact pick_of hn [7, 15, 23, 31, 39, 47, 55, 63] (by decide) (by decide)
theorem turn4_col {ns : List Int} (hn : ns.length = 16) : ∀ i : Nat, i < 4 → pickNums ns (some (0 + (i : Int) * 1)) none (some ((4 : Nat) : Int)) = [ns.getD i 0, ns.getD (i + 4) 0, ns.getD (i + 8) 0, ns.getD (i + 12) 0] := by
  apply lt4
  · exact pick_of hn [0, 4, 8, 12] (by decide) (by decide)
  · exact pick_of hn [1, 5, 9, 13] (by decide) (by decide)
  · exact pick_of hn [2, 6, 10, 14] (by decide) (by decide)
  · exact pick_of hn [3, 7, 11, 15] (by decide) (by decide)
theorem turn8_len {ns : List Int} (hn : ns.length = 64) : (turnI 8 ns).length = 64 := by
  have c := turn8_col hn
  simp only [turnI, turnPre, List.length_append, List.length_nil]
  rw [c 0 (by decide), c 1 (by decide), c 2 (by decide), c 3 (by decide), c 4 (by decide), c 5 (by decide), c 6 (by decide), c 7 (by decide)]
  rfl
theorem turn4_len {ns : List Int} (hn : ns.length = 16) : (turnI 4 ns).length = 16 := by
  have c := turn4_col hn
  simp only [turnI, turnPre, List.length_append, List.length_nil]
  rw [c 0 (by decide), c 1 (by decide), c 2 (by decide), c 3 (by decide)]
  rfl
theorem AllB.turn {B : Int} {n : Nat} {ns : List Int} (h : AllB B ns) : ∀ k, AllB B (turnPre n ns k)
  | 0 => fun _ hx => nomatch hx
  | k + 1 => (AllB.turn h k).append (h.pick _ _ _)

/-- row by row -/
def passF (f : List Int → List Int) (ns : List Int) : Nat → List Int
  | 0 => []
  | i + 1 => passF f ns i ++ f (row8 ns i)
theorem passF_len {f : List Int → List Int} (hf : ∀ ms, (f ms).length = 8) (ns : List Int) : ∀ k, (passF f ns k).length = 8 * k
  | 0 => rfl
  | k + 1 => by rw [passF, List.length_append, passF_len hf ns k, hf]; omega
theorem passF_all {f : List Int → List Int} {B C : Int} (hf : ∀ ms, AllB B ms → AllB C (f ms)) {ns : List Int} (h : AllB B ns) : ∀ k, AllB C (passF f ns k)
  | 0 => fun _ hx => nomatch hx
  | k + 1 => (passF_all hf h k).append (hf _ (h.pick _ _ _))

theorem dsc_lo (n : Int) (b : Nat) : dsc n ((b : Int) + 1) * 2 ^ (b + 1) ≤ n + 2 ^ b := by
  unfold dsc
  rw [Int.add_sub_cancel, Int.toNat_natCast, show ((b : Int) + 1).toNat = b + 1 by omega, Int.one_mul, Int.fdiv_eq_ediv_of_nonneg _ (by exact Int.le_of_lt (Int.pow_pos (by decide)))]
  exact Int.ediv_mul_le _ (Int.ne_of_gt (Int.pow_pos (by decide)))
theorem dsc_hi (n : Int) (b : Nat) : n + 2 ^ b < dsc n ((b : Int) + 1) * 2 ^ (b + 1) + 2 ^ (b + 1) := by
  unfold dsc
  rw [Int.add_sub_cancel, Int.toNat_natCast, show ((b : Int) + 1).toNat = b + 1 by omega, Int.one_mul, Int.fdiv_eq_ediv_of_nonneg _ (by exact Int.le_of_lt (Int.pow_pos (by decide)))]
  have := Int.lt_ediv_add_one_mul_self (n + 2 ^ b) (b := 2 ^ (b + 1)) (Int.pow_pos (by decide))
  rw [Int.add_mul, Int.one_mul] at this
  exact this
theorem dsc11 (n : Int) : dsc n 11 * 2048 ≤ n + 1024 ∧ n + 1024 < dsc n 11 * 2048 + 2048 := ⟨dsc_lo n 10, dsc_hi n 10⟩
theorem dsc15 (n : Int) : dsc n 15 * 32768 ≤ n + 16384 ∧ n + 16384 < dsc n 15 * 32768 + 32768 := ⟨dsc_lo n 14, dsc_hi n 14⟩
theorem dsc2 (n : Int) : dsc n 2 * 4 ≤ n + 2 ∧ n + 2 < dsc n 2 * 4 + 4 := ⟨dsc_lo n 1, dsc_hi n 1⟩
theorem dsc18 (n : Int) : dsc n 18 * 262144 ≤ n + 131072 ∧ n + 131072 < dsc n 18 * 262144 + 262144 := ⟨dsc_lo n 17, dsc_hi n 17⟩
theorem dsc1 (n : Int) : dsc n 1 * 2 ≤ n + 1 ∧ n + 1 < dsc n 1 * 2 + 2 := ⟨dsc_lo n 0, dsc_hi n 0⟩
theorem dsc14 (n : Int) : dsc n 14 * 16384 ≤ n + 8192 ∧ n + 8192 < dsc n 14 * 16384 + 16384 := ⟨dsc_lo n 13, dsc_hi n 13⟩
theorem dsc17 (n : Int) : dsc n 17 * 131072 ≤ n + 65536 ∧ n + 65536 < dsc n 17 * 131072 + 131072 := ⟨dsc_lo n 16, dsc_hi n 16⟩

def rowFL1 (ms : List Int) : List Int := rowF1 (ms.getD 0 0) (ms.getD 1 0) (ms.getD 2 0) (ms.getD 3 0) (ms.getD 4 0) (ms.getD 5 0) (ms.getD 6 0) (ms.getD 7 0)
def rowFL2 (ms : List Int) : List Int := rowF2 (ms.getD 0 0) (ms.getD 1 0) (ms.getD 2 0) (ms.getD 3 0) (ms.getD 4 0) (ms.getD 5 0) (ms.getD 6 0) (ms.getD 7 0)
def rowIL (dn : Int) (ms : List Int) : List Int := rowI dn (ms.getD 0 0) (ms.getD 1 0) (ms.getD 2 0) (ms.getD 3 0) (ms.getD 4 0) (ms.getD 5 0) (ms.getD 6 0) (ms.getD 7 0)
theorem rowFL1_len (ms : List Int) : (rowFL1 ms).length = 8 := rfl
theorem rowFL2_len (ms : List Int) : (rowFL2 ms).length = 8 := rfl
theorem rowIL_len (dn : Int) (ms : List Int) : (rowIL dn ms).length = 8 := rfl
abbrev Bd (B x : Int) : Prop := -B ≤ x ∧ x ≤ B
theorem all8 {B : Int} {a b c d e f g h : Int} (ha : Bd B a) (hb : Bd B b) (hc : Bd B c) (hd : Bd B d) (he : Bd B e) (hf : Bd B f) (hg : Bd B g) (hh : Bd B h) : AllB B [a, b, c, d, e, f, g, h] := by
  intro x hx
  simp only [List.mem_cons, List.not_mem_nil, or_false] at hx
  rcases hx with rfl | rfl | rfl | rfl | rfl | rfl | rfl | rfl <;> assumption
theorem bd_dsc11 {n C : Int} (h : Bd (2048 * C) n) : Bd (C + 1) (dsc n 11) := by have := dsc11 n; unfold Bd at *; omega
theorem bd_dsc15 {n C : Int} (h : Bd (32768 * C) n) : Bd (C + 1) (dsc n 15) := by have := dsc15 n; unfold Bd at *; omega
theorem bd_dsc18 {n C : Int} (h : Bd (262144 * C) n) : Bd (C + 1) (dsc n 18) := by have := dsc18 n; unfold Bd at *; omega
theorem bd_dsc2 {n C : Int} (h : Bd (4 * C) n) : Bd (C + 1) (dsc n 2) := by have := dsc2 n; unfold Bd at *; omega
theorem bd_dsc14 {n C : Int} (h : Bd (16384 * C) n) : Bd (C + 1) (dsc n 14) := by have := dsc14 n; unfold Bd at *; omega
theorem bd_dsc17 {n C : Int} (h : Bd (131072 * C) n) : Bd (C + 1) (dsc n 17) := by have := dsc17 n; unfold Bd at *; omega
theorem bd_dsc1 {n C : Int} (h : Bd (2 * C) n) : Bd (C + 1) (dsc n 1) := by have := dsc1 n; unfold Bd at *; omega
theorem Bd.mono {B C x : Int} (h : Bd B x) (hb : B ≤ C) : Bd C x := by unfold Bd at *; omega
theorem Bd.add {B C x y : Int} (h : Bd B x) (k : Bd C y) : Bd (B + C) (x + y) := by unfold Bd at *; omega
theorem Bd.sub {B C x y : Int} (h : Bd B x) (k : Bd C y) : Bd (B + C) (x - y) := by unfold Bd at *; omega
theorem Bd.shl2 {B x : Int} (h : Bd B x) : Bd (4 * B) (x * 2 ^ 2) := by unfold Bd at *; omega
/-- coarse bounds, enough for the walk -/
theorem evenF_bd {B a b c d : Int} (ha : Bd B a) (hb : Bd B b) (hc : Bd B c) (hd : Bd B d) : Bd (4 * B) (evenF a b c d).1 ∧ Bd (4 * B) (evenF a b c d).2.1 ∧ Bd (100000 * B) (evenF a b c d).2.2.1 ∧ Bd (100000 * B) (evenF a b c d).2.2.2 := by
  unfold evenF Bd at *; dsimp only; omega
theorem oddF_bd {B a b c d : Int} (ha : Bd B a) (hb : Bd B b) (hc : Bd B c) (hd : Bd B d) : Bd (300000 * B) (oddF a b c d).1 ∧ Bd (300000 * B) (oddF a b c d).2.1 ∧ Bd (300000 * B) (oddF a b c d).2.2.1 ∧ Bd (300000 * B) (oddF a b c d).2.2.2 := by
  unfold oddF Bd at *; dsimp only; omega
theorem evenI_bd {B a b c d : Int} (ha : Bd B a) (hb : Bd B b) (hc : Bd B c) (hd : Bd B d) : Bd (100000 * B) (evenI a b c d).1 ∧ Bd (100000 * B) (evenI a b c d).2.1 ∧ Bd (100000 * B) (evenI a b c d).2.2.1 ∧ Bd (100000 * B) (evenI a b c d).2.2.2 := by
  unfold evenI Bd at *; dsimp only; omega
theorem rowF1_all {B a b c d e f g h : Int} (hB : 1 ≤ B) (ha : Bd B a) (hb : Bd B b) (hc : Bd B c) (hd : Bd B d) (he : Bd B e) (hf : Bd B f) (hg : Bd B g) (hh : Bd B h) : AllB (300 * B) (rowF1 a b c d e f g h) := by
  have E := evenF_bd (ha.add hh) (hb.add hg) (hc.add hf) (hd.add he)
  have O := oddF_bd (hd.sub he) (hc.sub hf) (hb.sub hg) (ha.sub hh)
  unfold rowF1
  dsimp only
  refine all8 (E.1.shl2.mono (by omega)) ?_ ?_ ?_ (E.2.1.shl2.mono (by omega)) ?_ ?_ ?_
  · exact (bd_dsc11 (C := 298 * B) (O.2.2.2.mono (by omega))).mono (by omega)
  · exact (bd_dsc11 (C := 298 * B) (E.2.2.1.mono (by omega))).mono (by omega)
  · exact (bd_dsc11 (C := 298 * B) (O.2.2.1.mono (by omega))).mono (by omega)
  · exact (bd_dsc11 (C := 298 * B) (O.2.1.mono (by omega))).mono (by omega)
  · exact (bd_dsc11 (C := 298 * B) (E.2.2.2.mono (by omega))).mono (by omega)
  · exact (bd_dsc11 (C := 298 * B) (O.1.mono (by omega))).mono (by omega)
theorem rowF2_all {B a b c d e f g h : Int} (hB : 1 ≤ B) (ha : Bd B a) (hb : Bd B b) (hc : Bd B c) (hd : Bd B d) (he : Bd B e) (hf : Bd B f) (hg : Bd B g) (hh : Bd B h) : AllB (20 * B) (rowF2 a b c d e f g h) := by
  have E := evenF_bd (ha.add hh) (hb.add hg) (hc.add hf) (hd.add he)
  have O := oddF_bd (hd.sub he) (hc.sub hf) (hb.sub hg) (ha.sub hh)
  unfold rowF2
  dsimp only
  refine all8 ?_ ?_ ?_ ?_ ?_ ?_ ?_ ?_
  · exact (bd_dsc2 (C := 19 * B) (E.1.mono (by omega))).mono (by omega)
  · exact (bd_dsc15 (C := 19 * B) (O.2.2.2.mono (by omega))).mono (by omega)
  · exact (bd_dsc15 (C := 19 * B) (E.2.2.1.mono (by omega))).mono (by omega)
  · exact (bd_dsc15 (C := 19 * B) (O.2.2.1.mono (by omega))).mono (by omega)
  · exact (bd_dsc2 (C := 19 * B) (E.2.1.mono (by omega))).mono (by omega)
  · exact (bd_dsc15 (C := 19 * B) (O.2.1.mono (by omega))).mono (by omega)
  · exact (bd_dsc15 (C := 19 * B) (E.2.2.2.mono (by omega))).mono (by omega)
  · exact (bd_dsc15 (C := 19 * B) (O.1.mono (by omega))).mono (by omega)
theorem rowI11_all {B a b c d e f g h : Int} (hB : 1 ≤ B) (ha : Bd B a) (hb : Bd B b) (hc : Bd B c) (hd : Bd B d) (he : Bd B e) (hf : Bd B f) (hg : Bd B g) (hh : Bd B h) : AllB (300 * B) (rowI 11 a b c d e f g h) := by
  have E := evenI_bd ha he hc hg
  have O := oddF_bd hh hf hd hb
  unfold rowI
  dsimp only
  refine all8 ?_ ?_ ?_ ?_ ?_ ?_ ?_ ?_
  · exact (bd_dsc11 (C := 298 * B) ((E.1.add O.2.2.2).mono (by omega))).mono (by omega)
  · exact (bd_dsc11 (C := 298 * B) ((E.2.1.add O.2.2.1).mono (by omega))).mono (by omega)
  · exact (bd_dsc11 (C := 298 * B) ((E.2.2.1.add O.2.1).mono (by omega))).mono (by omega)
  · exact (bd_dsc11 (C := 298 * B) ((E.2.2.2.add O.1).mono (by omega))).mono (by omega)
  · exact (bd_dsc11 (C := 298 * B) ((E.2.2.2.sub O.1).mono (by omega))).mono (by omega)
  · exact (bd_dsc11 (C := 298 * B) ((E.2.2.1.sub O.2.1).mono (by omega))).mono (by omega)
  · exact (bd_dsc11 (C := 298 * B) ((E.2.1.sub O.2.2.1).mono (by omega))).mono (by omega)
  · exact (bd_dsc11 (C := 298 * B) ((E.1.sub O.2.2.2).mono (by omega))).mono (by omega)
theorem rowFL1_all {B : Int} (hB : 1 ≤ B) (ms : List Int) (h : AllB B ms) : AllB (300 * B) (rowFL1 ms) := by
  have g := h.getD (by omega)
  exact rowF1_all hB (g 0) (g 1) (g 2) (g 3) (g 4) (g 5) (g 6) (g 7)
theorem rowFL2_all {B : Int} (hB : 1 ≤ B) (ms : List Int) (h : AllB B ms) : AllB (20 * B) (rowFL2 ms) := by
  have g := h.getD (by omega)
  exact rowF2_all hB (g 0) (g 1) (g 2) (g 3) (g 4) (g 5) (g 6) (g 7)
theorem rowIL11_all {B : Int} (hB : 1 ≤ B) (ms : List Int) (h : AllB B ms) : AllB (300 * B) (rowIL 11 ms) := by
  have g := h.getD (by omega)
  exact rowI11_all hB (g 0) (g 1) (g 2) (g 3) (g 4) (g 5) (g 6) (g 7)

/-- the eight-sided transform -/
def fwd8a (ns : List Int) : List Int := turnI 8 (passF rowFL1 ns 8)
def fwd8 (ns : List Int) : List Int := turnI 8 (passF rowFL2 (fwd8a ns) 8)
def inv8a (ns : List Int) : List Int := turnI 8 (passF (rowIL 11) (turnI 8 ns) 8)
def inv8 (ns : List Int) : List Int := passF (rowIL 18) (inv8a ns) 8
theorem fwd8a_len (ns : List Int) : (fwd8a ns).length = 64 := turn8_len (passF_len rowFL1_len ns 8)
theorem fwd8_len (ns : List Int) : (fwd8 ns).length = 64 := turn8_len (passF_len rowFL2_len _ 8)
theorem inv8a_len (ns : List Int) : (inv8a ns).length = 64 := turn8_len (passF_len (rowIL_len 11) _ 8)
theorem inv8_len (ns : List Int) : (inv8 ns).length = 64 := passF_len (rowIL_len 18) _ 8
theorem fwd8a_all {B : Int} (hB : 1 ≤ B) {ns : List Int} (h : AllB B ns) : AllB (300 * B) (fwd8a ns) := (passF_all (rowFL1_all hB) h 8).turn 8
theorem fwd8_all {B : Int} (hB : 1 ≤ B) {ns : List Int} (h : AllB B ns) : AllB (6000 * B) (fwd8 ns) := ((passF_all (rowFL2_all (by omega)) (fwd8a_all hB h) 8).turn 8).mono (by omega)
theorem inv8a_all {B : Int} (hB : 1 ≤ B) {ns : List Int} (h : AllB B ns) : AllB (300 * B) (inv8a ns) := (passF_all (rowIL11_all hB) (h.turn 8) 8).turn 8
theorem ints8 {vs : List Value} {ms : List Int} (h : IntsAre vs ms) (hl : vs.length = 8) : ∃ (a b c d e f g i : Int) (t1 t2 t3 t4 t5 t6 t7 t8 : Tok),
    vs = [.int a t1, .int b t2, .int c t3, .int d t4, .int e t5, .int f t6, .int g t7, .int i t8] ∧ ms = [a, b, c, d, e, f, g, i] := by
  cases h with
  | nil => simp at hl
  | cons a t1 h => cases h with
    | nil => simp at hl
    | cons b t2 h => cases h with
      | nil => simp at hl
      | cons c t3 h => cases h with
        | nil => simp at hl
        | cons d t4 h => cases h with
          | nil => simp at hl
          | cons e t5 h => cases h with
            | nil => simp at hl
            | cons f t6 h => cases h with
              | nil => simp at hl
              | cons g t7 h => cases h with
                | nil => simp at hl
                | cons i t8 h => cases h with
                  | nil => exact ⟨a, b, c, d, e, f, g, i, t1, t2, t3, t4, t5, t6, t7, t8, rfl, rfl⟩
                  | cons _ _ h => simp at hl
theorem bd_nat {B x : Int} (h : Bd B x) (hB : B ≤ 2 ^ 38) : x.natAbs < 2 ^ 40 := by unfold Bd at h; omega
abbrev big : Int := 2 ^ 38
theorem even_nat {a b c d : Int} (ha : Bd (2 ^ 39) a) (hb : Bd (2 ^ 39) b) (hc : Bd (2 ^ 39) c) (hd : Bd (2 ^ 39) d) : (evenF a b c d).1.natAbs < 2 ^ 64 ∧ (evenF a b c d).2.1.natAbs < 2 ^ 64 := by
  have E := evenF_bd ha hb hc hd
  have k : ∀ x : Int, Bd (4 * 2 ^ 39) x → x.natAbs < 2 ^ 64 := fun x h => by unfold Bd at h; omega
  exact ⟨k _ E.1, k _ E.2.1⟩
theorem c_fr1 (w : World) (news : List (Addr × Obj)) (l : Addr) (k : Nat) (vs : List Value) (ms : List Int) (u1 u2 u3 : Tok) (hl : (l, listOf vs.toArray k) ∈ news) (hi : IntsAre vs ms) (hn : vs.length = 8) (hb : AllB big ms) :
    Owes 5 w 54 [.ref l, .int 2 u1, .int 0 u2, .int 11 u3] news (fun h₀ L m s Q => LRet h₀ L m news s Q (rowFL1 ms)) := by
  obtain ⟨a, b, c, d, e, f, g, i, t1, t2, t3, t4, t5, t6, t7, t8, rfl, rfl⟩ := ints8 hi hn
  have q : ∀ j, Bd big ([a, b, c, d, e, f, g, i].getD j 0) := fun j => hb.getD (by decide) j
  have E := even_nat (((q 0).add (q 7)).mono (by decide)) (((q 1).add (q 6)).mono (by decide)) (((q 2).add (q 5)).mono (by decide)) (((q 3).add (q 4)).mono (by decide))
  have C := c_forward_row w news l k a b c d e f g i 2 0 11 t1 t2 t3 t4 t5 t6 t7 t8 u1 u2 u3 hl E.1 E.2 (by decide) (by decide) (by decide) (by decide) (by decide)
  rw [rowFG1] at C
  exact C
theorem c_fr2 (w : World) (news : List (Addr × Obj)) (l : Addr) (k : Nat) (vs : List Value) (ms : List Int) (u1 u2 u3 : Tok) (hl : (l, listOf vs.toArray k) ∈ news) (hi : IntsAre vs ms) (hn : vs.length = 8) (hb : AllB big ms) :
    Owes 5 w 54 [.ref l, .int 0 u1, .int 2 u2, .int 15 u3] news (fun h₀ L m s Q => LRet h₀ L m news s Q (rowFL2 ms)) := by
  obtain ⟨a, b, c, d, e, f, g, i, t1, t2, t3, t4, t5, t6, t7, t8, rfl, rfl⟩ := ints8 hi hn
  have q : ∀ j, Bd big ([a, b, c, d, e, f, g, i].getD j 0) := fun j => hb.getD (by decide) j
  have E := even_nat (((q 0).add (q 7)).mono (by decide)) (((q 1).add (q 6)).mono (by decide)) (((q 2).add (q 5)).mono (by decide)) (((q 3).add (q 4)).mono (by decide))
  have C := c_forward_row w news l k a b c d e f g i 0 2 15 t1 t2 t3 t4 t5 t6 t7 t8 u1 u2 u3 hl E.1 E.2 (by decide) (by decide) (by decide) (by decide) (by decide)
  rw [rowFG2] at C
  exact C
theorem c_ir (w : World) (news : List (Addr × Obj)) (l : Addr) (k : Nat) (vs : List Value) (ms : List Int) (dn : Int) (u : Tok) (hn1 : 1 ≤ dn) (hn2 : dn ≤ 20) (hl : (l, listOf vs.toArray k) ∈ news) (hi : IntsAre vs ms) (hn : vs.length = 8) (hb : AllB big ms) :
    Owes 5 w 59 [.ref l, .int dn u] news (fun h₀ L m s Q => LRet h₀ L m news s Q (rowIL dn ms)) := by
  obtain ⟨a, b, c, d, e, f, g, i, t1, t2, t3, t4, t5, t6, t7, t8, rfl, rfl⟩ := ints8 hi hn
  have q := fun j => bd_nat (hb.getD (by decide) j) (Int.le_refl _)
  exact c_inverse_row w news l k a b c d e f g i dn t1 t2 t3 t4 t5 t6 t7 t8 u hn1 hn2 hl (q 0) (q 4)
theorem c_islow_forward (w : World) (news : List (Addr × Obj)) (sv : Value) (l : Addr) (k : Nat) (vs : List Value) (ns : List Int) (hl : (l, listOf vs.toArray k) ∈ news) (hi : IntsAre vs ns) (hn : ns.length = 64) (hb : AllB 65536 ns) :
    Owes 8 w 73 [sv, .ref l] news (fun h₀ L m s Q => LRet h₀ L m news s Q (fwd8 ns)) := by
  unfold Owes
  w_top off
  k_with_none
  k_with "my off" => (first | assumption | exact off1_lt (by tbn_lt) | exact (by assumption : _ ∧ LCg.Off1 _ _).2 | exact (by assumption : _ ∧ _ ∧ LCg.Off1 _ _).2.2 | exact (by assumption : _ ∧ _ ∧ _ ∧ LCg.Off1 _ _).2.2.2 | exact (by assumption : _ ∧ _ ∧ _ ∧ _ ∧ LCg.Off1 _ _).2.2.2.2 | exact (by assumption : _ ∧ _ ∧ _ ∧ _ ∧ _ ∧ LCg.Off1 _ _).2.2.2.2.2 | exact (by assumption : _ ∧ _ ∧ _ ∧ _ ∧ _ ∧ _ ∧ LCg.Off1 _ _).2.2.2.2.2.2 | exact (by assumption : _ ∧ _ ∧ _ ∧ _ ∧ _ ∧ _ ∧ _ ∧ LCg.Off1 _ _).2.2.2.2.2.2.2 | exact (by assumption : _ ∧ _ ∧ _ ∧ _ ∧ _ ∧ _ ∧ _ ∧ _ ∧ LCg.Off1 _ _).2.2.2.2.2.2.2.2 | exact (by assumption : _ ∧ _ ∧ _ ∧ _ ∧ _ ∧ _ ∧ _ ∧ _ ∧ _ ∧ LCg.Off1 _ _).2.2.2.2.2.2.2.2.2 | exact (by assumption : _ ∧ _ ∧ _ ∧ _ ∧ _ ∧ _ ∧ _ ∧ _ ∧ _ ∧ _ ∧ LCg.Off1 _ _).2.2.2.2.2.2.2.2.2.2 | exact (by assumption : _ ∧ _ ∧ _ ∧ _ ∧ _ ∧ _ ∧ _ ∧ _ ∧ _ ∧ _ ∧ _ ∧ LCg.Off1 _ _).2.2.2.2.2.2.2.2.2.2.2 | exact (by assumption : _ ∧ _ ∧ _ ∧ _ ∧ _ ∧ _ ∧ _ ∧ _ ∧ _ ∧ _ ∧ _ ∧ _ ∧ LCg.Off1 _ _).2.2.2.2.2.2.2.2.2.2.2.2 | exact (by assumption : _ ∧ _ ∧ _ ∧ _ ∧ _ ∧ _ ∧ _ ∧ _ ∧ _ ∧ _ ∧ _ ∧ _ ∧ _ ∧ LCg.Off1 _ _).2.2.2.2.2.2.2.2.2.2.2.2.2 | exact (by assumption : _ ∧ _ ∧ _ ∧ _ ∧ _ ∧ _ ∧ _ ∧ _ ∧ _ ∧ _ ∧ _ ∧ _ ∧ _ ∧ _ ∧ LCg.Off1 _ _).2.2.2.2.2.2.2.2.2.2.2.2.2.2 | exact (by assumption : _ ∧ _ ∧ _ ∧ _ ∧ _ ∧ _ ∧ _ ∧ _ ∧ _ ∧ _ ∧ _ ∧ _ ∧ _ ∧ _ ∧ _ ∧ LCg.Off1 _ _).2.2.2.2.2.2.2.2.2.2.2.2.2.2.2 | exact (by assumption : _ ∧ _ ∧ _ ∧ _ ∧ _ ∧ _ ∧ _ ∧ _ ∧ _ ∧ _ ∧ _ ∧ _ ∧ _ ∧ _ ∧ _ ∧ _ ∧ LCg.Off1 _ _).2.2.2.2.2.2.2.2.2.2.2.2.2.2.2.2 | exact (by assumption : _ ∧ _ ∧ _ ∧ _ ∧ _ ∧ _ ∧ _ ∧ _ ∧ _ ∧ _ ∧ _ ∧ _ ∧ _ ∧ _ ∧ _ ∧ _ ∧ _ ∧ LCg.Off1 _ _).2.2.2.2.2.2.2.2.2.2.2.2.2.2.2.2.2 | exact (by assumption : _ ∧ _ ∧ _ ∧ _ ∧ _ ∧ _ ∧ _ ∧ _ ∧ _ ∧ _ ∧ _ ∧ _ ∧ _ ∧ _ ∧ _ ∧ _ ∧ _ ∧ _ ∧ LCg.Off1 _ _).2.2.2.2.2.2.2.2.2.2.2.2.2.2.2.2.2.2 | exact (by assumption : _ ∧ _ ∧ _ ∧ _ ∧ _ ∧ _ ∧ _ ∧ _ ∧ _ ∧ _ ∧ _ ∧ _ ∧ _ ∧ _ ∧ _ ∧ _ ∧ _ ∧ _ ∧ _ ∧ LCg.Off1 _ _).2.2.2.2.2.2.2.2.2.2.2.2.2.2.2.2.2.2.2 | exact (by assumption : _ ∧ _ ∧ _ ∧ _ ∧ _ ∧ _ ∧ _ ∧ _ ∧ _ ∧ _ ∧ _ ∧ _ ∧ _ ∧ _ ∧ _ ∧ _ ∧ _ ∧ _ ∧ _ ∧ _ ∧ LCg.Off1 _ _).2.2.2.2.2.2.2.2.2.2.2.2.2.2.2.2.2.2.2.2)
  k_with "lcg_off" => (first | assumption | exact (by assumption : _ ∧ LCg.Off3 _ _ _ _).2 | exact (by assumption : _ ∧ _ ∧ LCg.Off3 _ _ _ _).2.2 | exact (by assumption : _ ∧ _ ∧ _ ∧ LCg.Off3 _ _ _ _).2.2.2 | exact (by assumption : _ ∧ _ ∧ _ ∧ _ ∧ LCg.Off3 _ _ _ _).2.2.2.2 | exact (by assumption : _ ∧ _ ∧ _ ∧ _ ∧ _ ∧ LCg.Off3 _ _ _ _).2.2.2.2.2 | exact (by assumption : _ ∧ _ ∧ _ ∧ _ ∧ _ ∧ _ ∧ LCg.Off3 _ _ _ _).2.2.2.2.2.2 | exact (by assumption : _ ∧ _ ∧ _ ∧ _ ∧ _ ∧ _ ∧ _ ∧ LCg.Off3 _ _ _ _).2.2.2.2.2.2.2 | exact (by assumption : _ ∧ _ ∧ _ ∧ _ ∧ _ ∧ _ ∧ _ ∧ _ ∧ LCg.Off3 _ _ _ _).2.2.2.2.2.2.2.2 | exact (by assumption : _ ∧ _ ∧ _ ∧ _ ∧ _ ∧ _ ∧ _ ∧ _ ∧ _ ∧ LCg.Off3 _ _ _ _).2.2.2.2.2.2.2.2.2 | exact (by assumption : _ ∧ _ ∧ _ ∧ _ ∧ _ ∧ _ ∧ _ ∧ _ ∧ _ ∧ _ ∧ LCg.Off3 _ _ _ _).2.2.2.2.2.2.2.2.2.2 | exact (by assumption : _ ∧ _ ∧ _ ∧ _ ∧ _ ∧ _ ∧ _ ∧ _ ∧ _ ∧ _ ∧ _ ∧ LCg.Off3 _ _ _ _).2.2.2.2.2.2.2.2.2.2.2 | exact (by assumption : _ ∧ _ ∧ _ ∧ _ ∧ _ ∧ _ ∧ _ ∧ _ ∧ _ ∧ _ ∧ _ ∧ _ ∧ LCg.Off3 _ _ _ _).2.2.2.2.2.2.2.2.2.2.2.2 | exact (by assumption : _ ∧ _ ∧ _ ∧ _ ∧ _ ∧ _ ∧ _ ∧ _ ∧ _ ∧ _ ∧ _ ∧ _ ∧ _ ∧ LCg.Off3 _ _ _ _).2.2.2.2.2.2.2.2.2.2.2.2.2 | exact (by assumption : _ ∧ _ ∧ _ ∧ _ ∧ _ ∧ _ ∧ _ ∧ _ ∧ _ ∧ _ ∧ _ ∧ _ ∧ _ ∧ _ ∧ LCg.Off3 _ _ _ _).2.2.2.2.2.2.2.2.2.2.2.2.2.2 | exact (by assumption : _ ∧ _ ∧ _ ∧ _ ∧ _ ∧ _ ∧ _ ∧ _ ∧ _ ∧ _ ∧ _ ∧ _ ∧ _ ∧ _ ∧ _ ∧ LCg.Off3 _ _ _ _).2.2.2.2.2.2.2.2.2.2.2.2.2.2.2 | exact (by assumption : _ ∧ _ ∧ _ ∧ _ ∧ _ ∧ _ ∧ _ ∧ _ ∧ _ ∧ _ ∧ _ ∧ _ ∧ _ ∧ _ ∧ _ ∧ _ ∧ LCg.Off3 _ _ _ _).2.2.2.2.2.2.2.2.2.2.2.2.2.2.2.2 | exact (by assumption : _ ∧ _ ∧ _ ∧ _ ∧ _ ∧ _ ∧ _ ∧ _ ∧ _ ∧ _ ∧ _ ∧ _ ∧ _ ∧ _ ∧ _ ∧ _ ∧ _ ∧ LCg.Off3 _ _ _ _).2.2.2.2.2.2.2.2.2.2.2.2.2.2.2.2.2 | exact (by assumption : _ ∧ _ ∧ _ ∧ _ ∧ _ ∧ _ ∧ _ ∧ _ ∧ _ ∧ _ ∧ _ ∧ _ ∧ _ ∧ _ ∧ _ ∧ _ ∧ _ ∧ _ ∧ LCg.Off3 _ _ _ _).2.2.2.2.2.2.2.2.2.2.2.2.2.2.2.2.2.2 | exact (by assumption : _ ∧ _ ∧ _ ∧ _ ∧ _ ∧ _ ∧ _ ∧ _ ∧ _ ∧ _ ∧ _ ∧ _ ∧ _ ∧ _ ∧ _ ∧ _ ∧ _ ∧ _ ∧ _ ∧ LCg.Off3 _ _ _ _).2.2.2.2.2.2.2.2.2.2.2.2.2.2.2.2.2.2.2 | exact (by assumption : _ ∧ _ ∧ _ ∧ _ ∧ _ ∧ _ ∧ _ ∧ _ ∧ _ ∧ _ ∧ _ ∧ _ ∧ _ ∧ _ ∧ _ ∧ _ ∧ _ ∧ _ ∧ _ ∧ _ ∧ LCg.Off3 _ _ _ _).2.2.2.2.2.2.2.2.2.2.2.2.2.2.2.2.2.2.2.2)
  k_with "subscriptTail Name Slice ref ref" => ((k_here; (with_reducible show wpAny _ _ (subscriptTail _ (PySem.Expr.Slice _ _ _ _) (Value.ref _) (Value.ref _)) _ _ _); k_dflt (refine slice_ints3 (by k_asm) (by k_asm) (by k_mem) (by first | assumption | exact IntsAre.nil) (by kmk_part) (by kmk_part) (by kmk_part) (by first | decide | (intro hz; injection hz with hz; omega)) (by walk_at "my size") ?_ (by with_unfolding_all rfl) (by kmk_pure)); intro D' ws' h' F' N' l1 hI' hC'; (try k_lt l1); (try k_sweep)))
  k_with "call builtin:list.extend" => ((k_here; (with_reducible show wpAny _ _ (call (Value.builtin _) [Value.ref _, Value.ref _]) _ _ _); k_dflt (refine ext_ints (by k_asm) (by k_asm) (by k_mem) (by (intro n'; k_upd)) (by first | assumption | exact IntsAre.nil) (by first | assumption | exact IntsAre.pick (by assumption) _ _ _ | exact IntsAre.cons _ _ (IntsAre.cons _ _ IntsAre.nil) | exact IntsAre.cons _ _ (IntsAre.cons _ _ (IntsAre.cons _ _ (IntsAre.cons _ _ IntsAre.nil)))) (by walk_at "my size") ?_); intro n' h' F' N' hI'; (try k_sweep)))
  k_with "call ref" => ((k_here; (with_reducible show wpAny _ _ (call (Value.ref 54) [Value.ref _, Value.int _ _, Value.int _ _, Value.int _ _]) _ _ _); k_dflt (refine owes_use' (by k_asm) (by k_asm) (by k_asm) (by k_asm) (by k_asm) (by first | exact rfl | assumption) (c_fr1 _ _ _ _ _ _ _ _ _ (by k_mem) (by first | assumption | exact IntsAre.pick (by assumption) _ _ _) (by (first | assumption | exact (IntsAre.length (by assumption)).trans (row8_len (by assumption) (by assumption)))) (by exact AllB.pick (by assumption) _ _ _)) (by ktr_room) (by ktr_units) ?_); intro r' ws' c' h' tk' F' N' o1' hI'; (try k_sweep); (try simp only [LCg.Off1, and_true] at o1'); (try dsimp only); (try k_fold)))
  k_with "call ref" => ((k_here; (with_reducible show wpAny _ _ (call (Value.ref 54) [Value.ref _, Value.int _ _, Value.int _ _, Value.int _ _]) _ _ _); k_dflt (refine owes_use' (by k_asm) (by k_asm) (by k_asm) (by k_asm) (by k_asm) (by first | exact rfl | assumption) (c_fr2 _ _ _ _ _ _ _ _ _ (by k_mem) (by first | assumption | exact IntsAre.pick (by assumption) _ _ _) (by (first | assumption | exact (IntsAre.length (by assumption)).trans (row8_len (by assumption) (by assumption)))) (by exact AllB.pick (by assumption) _ _ _)) (by ktr_room) (by ktr_units) ?_); intro r' ws' c' h' tk' F' N' o1' hI'; (try k_sweep); (try simp only [LCg.Off1, and_true] at o1'); (try dsimp only); (try k_fold)))
  k_with "call ref" => ((k_here; (with_reducible show wpAny _ _ (call (Value.ref 42) [Value.ref _, Value.int _ _]) _ _ _); k_dflt (refine owes_use' (by k_asm) (by k_asm) (by k_asm) (by k_asm) (by k_asm) (by first | exact rfl | assumption) (c_turned8 _ _ _ _ _ _ _ (by k_mem) (by assumption) (by omega)) (by ktr_room) (by ktr_units) ?_); intro r' ws' c' h' tk' F' N' o1' hI'; (try k_sweep); (try simp only [LCg.Off1, and_true] at o1'); (try dsimp only); (try k_fold)))
  k_with "my size" => (((try (have hq' := IntsAre.length (by with_reducible assumption : IntsAre _ (rowFL1 _)); rw [rowFL1_len] at hq')); (try (have hq' := IntsAre.length (by with_reducible assumption : IntsAre _ (rowFL2 _)); rw [rowFL2_len] at hq')); omega))
  k_fill
  intro mean mg mb dp un gd cn cs av ccd cl outer A₀ base h₀ L m s Q E B F X N T hk hd hu hret
  have hbb : AllB big ns := hb.mono (by decide)
  have hvl : vs.length = 64 := hi.length.trans hn
  replace N := news_dup N hl
  clear hl
  refine wpAny_call ?_
  k_dflt (walk_at "my enter")
  repeat' ((fail_if_success (with_reducible show wpAny _ _ (pyIter _) _ _ _)); first | (k_unfold; (try dsimp only)) | (k_end; wrow_close) | walk1 | (dsimp only; walk1) | (leave1; walk_say "STEP leave1"; try dsimp only) | fail "no step")
  rename IsRange _ _ _ _ _ _ _ _ => RG
  rename Fr _ _ _ _ => FF
  rename News _ _ _ _ => NN
  obtain ⟨lf, elf⟩ := news_at0 NN
  subst elf
  refine loopK 8 [] (fun i nw => ∃ us c, nw = (lf, listOf us.toArray c) :: (l, listOf vs.toArray k) :: news ∧ IntsAre us (passF rowFL1 ns i) ∧ us.length = 8 * i) (by rfl) RG (by decide) (by decide) FF NN ⟨[], 0, rfl, .nil, by simp⟩ ?_ ?_
  · intro I i tI uI hI tkI o nw hiI hJ hoff F1 N1
    obtain ⟨us, c, e, hus, hlen⟩ := hJ
    subst e
    clear FF NN RG
    have hoff2 := hoff
    simp only [LCg.Off1] at hoff2
    repeat' ((fail_if_success (with_reducible show Q _ _)); (fail_if_success (with_reducible show TurnK _ _ _ _ _ _ _ _ _ _ _ _)); first | (k_unfold; (try dsimp only)) | (k_end; wrow_close) | walk1 | (dsimp only; walk1) | (leave1; walk_say "STEP leave1"; try dsimp only) | fail "no step")
    refine turnK_end (by assumption) (by assumption) ((lf, listOf (us ++ _).toArray _) :: (l, listOf vs.toArray k) :: news) (by k_sub) (off1_all hoff) (by intro y h1 h2; (try dsimp only); rw [if_neg h1]; rfl) ⟨_, _, rfl, by assumption, ?_⟩
    rw [List.length_append]
    have hq' := IntsAre.length (by with_reducible assumption : IntsAre _ (rowFL1 _)); rw [rowFL1_len] at hq'
    omega
  · intro uI hI tkI nw hJ F1 N1
    obtain ⟨us, c, e, hus, hlen⟩ := hJ
    subst e
    clear FF NN RG
    repeat' ((fail_if_success (with_reducible show wpAny _ _ (pyIter _) _ _ _)); first | (k_unfold; (try dsimp only)) | (k_end; wrow_close) | walk1 | (dsimp only; walk1) | (leave1; walk_say "STEP leave1"; try dsimp only) | fail "no step")
    rename IsRange _ _ _ _ _ _ _ _ => RG
    rename Fr _ _ _ _ => FF
    rename News _ _ _ _ => NN
    obtain ⟨l2, e2⟩ := news_at0 NN
    subst e2
    obtain ⟨la, wa, ca, e3, e4, e5⟩ := news_at1 NN
    subst e3 e4 e5
    obtain ⟨xs, hia, hna, hba, hfx⟩ : ∃ xs, IntsAre wa xs ∧ xs.length = 64 ∧ AllB big xs ∧ fwd8 ns = turnI 8 (passF rowFL2 xs 8) := ⟨fwd8a ns, by unfold fwd8a; with_reducible assumption, fwd8a_len ns, (fwd8a_all (by decide) hb).mono (by decide), rfl⟩
    rw [hfx] at hret
    clear hfx
    have hwl : wa.length = 64 := hia.length.trans hna
    rename IntsAre wa (turnPre _ _ _) => hol
    clear hol
    refine loopK 8 [] (fun i nw => ∃ us' c', nw = (l2, listOf us'.toArray c') :: (la, listOf wa.toArray ca) :: (lf, listOf us.toArray c) :: (l, listOf vs.toArray k) :: news ∧ IntsAre us' (passF rowFL2 xs i) ∧ us'.length = 8 * i) (by rfl) RG (by decide) (by decide) FF NN ⟨[], 0, rfl, .nil, by simp⟩ ?_ ?_
    · intro I i tI uJ hJ' tkJ o nw hiI hJ hoff F1' N1'
      obtain ⟨us', c', e, hus', hlen'⟩ := hJ
      subst e
      clear FF NN RG F1 N1 hus hi hn hvl hbb hb
      have hoff2 := hoff
      simp only [LCg.Off1] at hoff2
      repeat' ((fail_if_success (with_reducible show Q _ _)); (fail_if_success (with_reducible show TurnK _ _ _ _ _ _ _ _ _ _ _ _)); first | (k_unfold; (try dsimp only)) | (k_end; wrow_close) | walk1 | (dsimp only; walk1) | (leave1; walk_say "STEP leave1"; try dsimp only) | fail "no step")
      refine turnK_end (by assumption) (by assumption) ((l2, listOf (us' ++ _).toArray _) :: (la, listOf wa.toArray ca) :: (lf, listOf us.toArray c) :: (l, listOf vs.toArray k) :: news) (by k_sub) (off1_all hoff) (by intro y h1 h2; (try dsimp only); rw [if_neg h1]; rfl) ⟨_, _, rfl, by assumption, ?_⟩
      rw [List.length_append]
      have hq' := IntsAre.length (by with_reducible assumption : IntsAre _ (rowFL2 _)); rw [rowFL2_len] at hq'
      omega
    · intro uJ hJ' tkJ nw hJ F1' N1'
      obtain ⟨us', c', e, hus', hlen'⟩ := hJ
      subst e
      clear FF NN RG F1 N1 hus
      repeat' ((fail_if_success (with_reducible show Q _ _)); (fail_if_success (with_reducible show TurnK _ _ _ _ _ _ _ _ _ _ _ _)); first | (k_unfold; (try dsimp only)) | (k_end; wrow_close) | walk1 | (dsimp only; walk1) | (leave1; walk_say "STEP leave1"; try dsimp only) | fail "no step")
      all_goals exact hret _ _ _ _ _ (by assumption) (cb_drop (by assumption) (List.forall_mem_cons.mpr ⟨by k_dflt k_mem, by (intro p9 h9; repeat (first | exact h9 | refine List.Mem.tail _ ?_))⟩)) (by walk_at "my off") (by k_dflt assumption)
theorem c_islow_inverse (w : World) (news : List (Addr × Obj)) (sv : Value) (l : Addr) (k : Nat) (vs : List Value) (ns : List Int) (hl : (l, listOf vs.toArray k) ∈ news) (hi : IntsAre vs ns) (hn : ns.length = 64) (hb : AllB (2 ^ 28) ns) :
    Owes 8 w 80 [sv, .ref l] news (fun h₀ L m s Q => LRet h₀ L m news s Q (inv8 ns)) := by
  unfold Owes
  w_top off
  k_with_none
  k_with "my off" => (first | assumption | exact off1_lt (by tbn_lt) | exact (by assumption : _ ∧ LCg.Off1 _ _).2 | exact (by assumption : _ ∧ _ ∧ LCg.Off1 _ _).2.2 | exact (by assumption : _ ∧ _ ∧ _ ∧ LCg.Off1 _ _).2.2.2 | exact (by assumption : _ ∧ _ ∧ _ ∧ _ ∧ LCg.Off1 _ _).2.2.2.2 | exact (by assumption : _ ∧ _ ∧ _ ∧ _ ∧ _ ∧ LCg.Off1 _ _).2.2.2.2.2 | exact (by assumption : _ ∧ _ ∧ _ ∧ _ ∧ _ ∧ _ ∧ LCg.Off1 _ _).2.2.2.2.2.2 | exact (by assumption : _ ∧ _ ∧ _ ∧ _ ∧ _ ∧ _ ∧ _ ∧ LCg.Off1 _ _).2.2.2.2.2.2.2 | exact (by assumption : _ ∧ _ ∧ _ ∧ _ ∧ _ ∧ _ ∧ _ ∧ _ ∧ LCg.Off1 _ _).2.2.2.2.2.2.2.2 | exact (by assumption : _ ∧ _ ∧ _ ∧ _ ∧ _ ∧ _ ∧ _ ∧ _ ∧ _ ∧ LCg.Off1 _ _).2.2.2.2.2.2.2.2.2 | exact (by assumption : _ ∧ _ ∧ _ ∧ _ ∧ _ ∧ _ ∧ _ ∧ _ ∧ _ ∧ _ ∧ LCg.Off1 _ _).2.2.2.2.2.2.2.2.2.2 | exact (by assumption : _ ∧ _ ∧ _ ∧ _ ∧ _ ∧ _ ∧ _ ∧ _ ∧ _ ∧ _ ∧ _ ∧ LCg.Off1 _ _).2.2.2.2.2.2.2.2.2.2.2 | exact (by assumption : _ ∧ _ ∧ _ ∧ _ ∧ _ ∧ _ ∧ _ ∧ _ ∧ _ ∧ _ ∧ _ ∧ _ ∧ LCg.Off1 _ _).2.2.2.2.2.2.2.2.2.2.2.2 | exact (by assumption : _ ∧ _ ∧ _ ∧ _ ∧ _ ∧ _ ∧ _ ∧ _ ∧ _ ∧ _ ∧ _ ∧ _ ∧ _ ∧ LCg.Off1 _ _).2.2.2.2.2.2.2.2.2.2.2.2.2 | exact (by assumption : _ ∧ _ ∧ _ ∧ _ ∧ _ ∧ _ ∧ _ ∧ _ ∧ _ ∧ _ ∧ _ ∧ _ ∧ _ ∧ _ ∧ LCg.Off1 _ _).2.2.2.2.2.2.2.2.2.2.2.2.2.2 | exact (by assumption : _ ∧ _ ∧ _ ∧ _ ∧ _ ∧ _ ∧ _ ∧ _ ∧ _ ∧ _ ∧ _ ∧ _ ∧ _ ∧ _ ∧ _ ∧ LCg.Off1 _ _).2.2.2.2.2.2.2.2.2.2.2.2.2.2.2 | exact (by assumption : _ ∧ _ ∧ _ ∧ _ ∧ _ ∧ _ ∧ _ ∧ _ ∧ _ ∧ _ ∧ _ ∧ _ ∧ _ ∧ _ ∧ _ ∧ _ ∧ LCg.Off1 _ _).2.2.2.2.2.2.2.2.2.2.2.2.2.2.2.2 | exact (by assumption : _ ∧ _ ∧ _ ∧ _ ∧ _ ∧ _ ∧ _ ∧ _ ∧ _ ∧ _ ∧ _ ∧ _ ∧ _ ∧ _ ∧ _ ∧ _ ∧ _ ∧ LCg.Off1 _ _).2.2.2.2.2.2.2.2.2.2.2.2.2.2.2.2.2 | exact (by assumption : _ ∧ _ ∧ _ ∧ _ ∧ _ ∧ _ ∧ _ ∧ _ ∧ _ ∧ _ ∧ _ ∧ _ ∧ _ ∧ _ ∧ _ ∧ _ ∧ _ ∧ _ ∧ LCg.Off1 _ _).2.2.2.2.2.2.2.2.2.2.2.2.2.2.2.2.2.2 | exact (by assumption : _ ∧ _ ∧ _ ∧ _ ∧ _ ∧ _ ∧ _ ∧ _ ∧ _ ∧ _ ∧ _ ∧ _ ∧ _ ∧ _ ∧ _ ∧ _ ∧ _ ∧ _ ∧ _ ∧ LCg.Off1 _ _).2.2.2.2.2.2.2.2.2.2.2.2.2.2.2.2.2.2.2 | exact (by assumption : _ ∧ _ ∧ _ ∧ _ ∧ _ ∧ _ ∧ _ ∧ _ ∧ _ ∧ _ ∧ _ ∧ _ ∧ _ ∧ _ ∧ _ ∧ _ ∧ _ ∧ _ ∧ _ ∧ _ ∧ LCg.Off1 _ _).2.2.2.2.2.2.2.2.2.2.2.2.2.2.2.2.2.2.2.2)
  k_with "lcg_off" => (first | assumption | exact (by assumption : _ ∧ LCg.Off3 _ _ _ _).2 | exact (by assumption : _ ∧ _ ∧ LCg.Off3 _ _ _ _).2.2 | exact (by assumption : _ ∧ _ ∧ _ ∧ LCg.Off3 _ _ _ _).2.2.2 | exact (by assumption : _ ∧ _ ∧ _ ∧ _ ∧ LCg.Off3 _ _ _ _).2.2.2.2 | exact (by assumption : _ ∧ _ ∧ _ ∧ _ ∧ _ ∧ LCg.Off3 _ _ _ _).2.2.2.2.2 | exact (by assumption : _ ∧ _ ∧ _ ∧ _ ∧ _ ∧ _ ∧ LCg.Off3 _ _ _ _).2.2.2.2.2.2 | exact (by assumption : _ ∧ _ ∧ _ ∧ _ ∧ _ ∧ _ ∧ _ ∧ LCg.Off3 _ _ _ _).2.2.2.2.2.2.2 | exact (by assumption : _ ∧ _ ∧ _ ∧ _ ∧ _ ∧ _ ∧ _ ∧ _ ∧ LCg.Off3 _ _ _ _).2.2.2.2.2.2.2.2 | exact (by assumption : _ ∧ _ ∧ _ ∧ _ ∧ _ ∧ _ ∧ _ ∧ _ ∧ _ ∧ LCg.Off3 _ _ _ _).2.2.2.2.2.2.2.2.2 | exact (by assumption : _ ∧ _ ∧ _ ∧ _ ∧ _ ∧ _ ∧ _ ∧ _ ∧ _ ∧ _ ∧ LCg.Off3 _ _ _ _).2.2.2.2.2.2.2.2.2.2 | exact (by assumption : _ ∧ _ ∧ _ ∧ _ ∧ _ ∧ _ ∧ _ ∧ _ ∧ _ ∧ _ ∧ _ ∧ LCg.Off3 _ _ _ _).2.2.2.2.2.2.2.2.2.2.2 | exact (by assumption : _ ∧ _ ∧ _ ∧ _ ∧ _ ∧ _ ∧ _ ∧ _ ∧ _ ∧ _ ∧ _ ∧ _ ∧ LCg.Off3 _ _ _ _).2.2.2.2.2.2.2.2.2.2.2.2 | exact (by assumption : _ ∧ _ ∧ _ ∧ _ ∧ _ ∧ _ ∧ _ ∧ _ ∧ _ ∧ _ ∧ _ ∧ _ ∧ _ ∧ LCg.Off3 _ _ _ _).2.2.2.2.2.2.2.2.2.2.2.2.2 | exact (by assumption : _ ∧ _ ∧ _ ∧ _ ∧ _ ∧ _ ∧ _ ∧ _ ∧ _ ∧ _ ∧ _ ∧ _ ∧ _ ∧ _ ∧ LCg.Off3 _ _ _ _).2.2.2.2.2.2.2.2.2.2.2.2.2.2 | exact (by assumption : _ ∧ _ ∧ _ ∧ _ ∧ _ ∧ _ ∧ _ ∧ _ ∧ _ ∧ _ ∧ _ ∧ _ ∧ _ ∧ _ ∧ _ ∧ LCg.Off3 _ _ _ _).2.2.2.2.2.2.2.2.2.2.2.2.2.2.2 | exact (by assumption : _ ∧ _ ∧ _ ∧ _ ∧ _ ∧ _ ∧ _ ∧ _ ∧ _ ∧ _ ∧ _ ∧ _ ∧ _ ∧ _ ∧ _ ∧ _ ∧ LCg.Off3 _ _ _ _).2.2.2.2.2.2.2.2.2.2.2.2.2.2.2.2 | exact (by assumption : _ ∧ _ ∧ _ ∧ _ ∧ _ ∧ _ ∧ _ ∧ _ ∧ _ ∧ _ ∧ _ ∧ _ ∧ _ ∧ _ ∧ _ ∧ _ ∧ _ ∧ LCg.Off3 _ _ _ _).2.2.2.2.2.2.2.2.2.2.2.2.2.2.2.2.2 | exact (by assumption : _ ∧ _ ∧ _ ∧ _ ∧ _ ∧ _ ∧ _ ∧ _ ∧ _ ∧ _ ∧ _ ∧ _ ∧ _ ∧ _ ∧ _ ∧ _ ∧ _ ∧ _ ∧ LCg.Off3 _ _ _ _).2.2.2.2.2.2.2.2.2.2.2.2.2.2.2.2.2.2 | exact (by assumption : _ ∧ _ ∧ _ ∧ _ ∧ _ ∧ _ ∧ _ ∧ _ ∧ _ ∧ _ ∧ _ ∧ _ ∧ _ ∧ _ ∧ _ ∧ _ ∧ _ ∧ _ ∧ _ ∧ LCg.Off3 _ _ _ _).2.2.2.2.2.2.2.2.2.2.2.2.2.2.2.2.2.2.2 | exact (by assumption : _ ∧ _ ∧ _ ∧ _ ∧ _ ∧ _ ∧ _ ∧ _ ∧ _ ∧ _ ∧ _ ∧ _ ∧ _ ∧ _ ∧ _ ∧ _ ∧ _ ∧ _ ∧ _ ∧ _ ∧ LCg.Off3 _ _ _ _).2.2.2.2.2.2.2.2.2.2.2.2.2.2.2.2.2.2.2.2)
  k_with "subscriptTail Name Slice ref ref" => ((k_here; (with_reducible show wpAny _ _ (subscriptTail _ (PySem.Expr.Slice _ _ _ _) (Value.ref _) (Value.ref _)) _ _ _); k_dflt (refine slice_ints3 (by k_asm) (by k_asm) (by k_mem) (by first | assumption | exact IntsAre.nil) (by kmk_part) (by kmk_part) (by kmk_part) (by first | decide | (intro hz; injection hz with hz; omega)) (by walk_at "my size") ?_ (by with_unfolding_all rfl) (by kmk_pure)); intro D' ws' h' F' N' l1 hI' hC'; (try k_lt l1); (try k_sweep)))
  k_with "call builtin:list.extend" => ((k_here; (with_reducible show wpAny _ _ (call (Value.builtin _) [Value.ref _, Value.ref _]) _ _ _); k_dflt (refine ext_ints (by k_asm) (by k_asm) (by k_mem) (by (intro n'; k_upd)) (by first | assumption | exact IntsAre.nil) (by first | assumption | exact IntsAre.pick (by assumption) _ _ _ | exact IntsAre.cons _ _ (IntsAre.cons _ _ IntsAre.nil) | exact IntsAre.cons _ _ (IntsAre.cons _ _ (IntsAre.cons _ _ (IntsAre.cons _ _ IntsAre.nil)))) (by walk_at "my size") ?_); intro n' h' F' N' hI'; (try k_sweep)))
  k_with "call ref" => ((k_here; (with_reducible show wpAny _ _ (call (Value.ref 59) [Value.ref _, Value.int _ _]) _ _ _); k_dflt (refine owes_use' (by k_asm) (by k_asm) (by k_asm) (by k_asm) (by k_asm) (by first | exact rfl | assumption) (c_ir _ _ _ _ _ _ _ _ (by decide) (by decide) (by k_mem) (by first | assumption | exact IntsAre.pick (by assumption) _ _ _) (by (first | assumption | exact (IntsAre.length (by assumption)).trans (row8_len (by assumption) (by assumption)))) (by exact AllB.pick (by assumption) _ _ _)) (by ktr_room) (by ktr_units) ?_); intro r' ws' c' h' tk' F' N' o1' hI'; (try k_sweep); (try simp only [LCg.Off1, and_true] at o1'); (try dsimp only); (try k_fold)))
  k_with "call ref" => ((k_here; (with_reducible show wpAny _ _ (call (Value.ref 42) [Value.ref _, Value.int _ _]) _ _ _); k_dflt (refine owes_use' (by k_asm) (by k_asm) (by k_asm) (by k_asm) (by k_asm) (by first | exact rfl | assumption) (c_turned8 _ _ _ _ _ _ _ (by k_mem) (by assumption) (by omega)) (by ktr_room) (by ktr_units) ?_); intro r' ws' c' h' tk' F' N' o1' hI'; (try k_sweep); (try simp only [LCg.Off1, and_true] at o1'); (try dsimp only); (try k_fold)))
  k_with "my size" => (((try (have hq' := IntsAre.length (by with_reducible assumption : IntsAre _ (rowIL _ _)); rw [rowIL_len] at hq')); omega))
  k_fill
  intro mean mg mb dp un gd cn cs av ccd cl outer A₀ base h₀ L m s Q E B F X N T hk hd hu hret
  have hvl : vs.length = 64 := hi.length.trans hn
  replace N := news_dup N hl
  clear hl
  refine wpAny_call ?_
  k_dflt (walk_at "my enter")
  repeat' ((fail_if_success (with_reducible show wpAny _ _ (pyIter _) _ _ _)); first | (k_unfold; (try dsimp only)) | (k_end; wrow_close) | walk1 | (dsimp only; walk1) | (leave1; walk_say "STEP leave1"; try dsimp only) | fail "no step")
  rename IsRange _ _ _ _ _ _ _ _ => RG
  rename Fr _ _ _ _ => FF
  rename News _ _ _ _ => NN
  obtain ⟨lf, elf⟩ := news_at0 NN
  subst elf
  obtain ⟨la, wa, ca, e3, e4, e5⟩ := news_at1 NN
  subst e3 e4 e5
  obtain ⟨xs, hia, hna, hba, hfx⟩ : ∃ xs, IntsAre wa xs ∧ xs.length = 64 ∧ AllB (2 ^ 28) xs ∧ LRet h₀ L m news s Q (passF (rowIL 18) (turnI 8 (passF (rowIL 11) xs 8)) 8) := ⟨turnI 8 ns, by with_reducible assumption, turn8_len hn, hb.turn 8, hret⟩
  clear hret
  have hbb : AllB big xs := hba.mono (by decide)
  have hwl : wa.length = 64 := hia.length.trans hna
  rename IntsAre wa (turnPre _ _ _) => hol
  clear hol
  refine loopK 8 [] (fun i nw => ∃ us c, nw = (lf, listOf us.toArray c) :: (la, listOf wa.toArray ca) :: (l, listOf vs.toArray k) :: news ∧ IntsAre us (passF (rowIL 11) xs i) ∧ us.length = 8 * i) (by rfl) RG (by decide) (by decide) FF NN ⟨[], 0, rfl, .nil, by simp⟩ ?_ ?_
  · intro I i tI uI hI tkI o nw hiI hJ hoff F1 N1
    obtain ⟨us, c, e, hus, hlen⟩ := hJ
    subst e
    clear FF NN RG hb hba hn hi hvl
    have hoff2 := hoff
    simp only [LCg.Off1] at hoff2
    repeat' ((fail_if_success (with_reducible show Q _ _)); (fail_if_success (with_reducible show TurnK _ _ _ _ _ _ _ _ _ _ _ _)); first | (k_unfold; (try dsimp only)) | (k_end; wrow_close) | walk1 | (dsimp only; walk1) | (leave1; walk_say "STEP leave1"; try dsimp only) | fail "no step")
    refine turnK_end (by assumption) (by assumption) ((lf, listOf (us ++ _).toArray _) :: (la, listOf wa.toArray ca) :: (l, listOf vs.toArray k) :: news) (by k_sub) (off1_all hoff) (by intro y h1 h2; (try dsimp only); rw [if_neg h1]; rfl) ⟨_, _, rfl, by assumption, ?_⟩
    rw [List.length_append]
    have hq' := IntsAre.length (by with_reducible assumption : IntsAre _ (rowIL _ _)); rw [rowIL_len] at hq'
    omega
  · intro uI hI tkI nw hJ F1 N1
    obtain ⟨us, c, e, hus, hlen⟩ := hJ
    subst e
    clear FF NN RG
    repeat' ((fail_if_success (with_reducible show wpAny _ _ (pyIter _) _ _ _)); first | (k_unfold; (try dsimp only)) | (k_end; wrow_close) | walk1 | (dsimp only; walk1) | (leave1; walk_say "STEP leave1"; try dsimp only) | fail "no step")
    rename IsRange _ _ _ _ _ _ _ _ => RG
    rename Fr _ _ _ _ => FF
    rename News _ _ _ _ => NN
    obtain ⟨l2, e2⟩ := news_at0 NN
    subst e2
    obtain ⟨lb, wb, cb, e3, e4, e5⟩ := news_at1 NN
    subst e3 e4 e5
    obtain ⟨ys, hib, hnb, hbb', hfy⟩ : ∃ ys, IntsAre wb ys ∧ ys.length = 64 ∧ AllB big ys ∧ LRet h₀ L m news s Q (passF (rowIL 18) ys 8) := ⟨turnI 8 (passF (rowIL 11) xs 8), by with_reducible assumption, turn8_len (passF_len (rowIL_len 11) xs 8), ((passF_all (rowIL11_all (by decide)) hba 8).turn 8).mono (by decide), hfx⟩
    clear hfx
    have hwl' : wb.length = 64 := hib.length.trans hnb
    rename IntsAre wb (turnPre _ _ _) => hol
    clear hol
    refine loopK 8 [] (fun i nw => ∃ us' c', nw = (l2, listOf us'.toArray c') :: (lb, listOf wb.toArray cb) :: (lf, listOf us.toArray c) :: (la, listOf wa.toArray ca) :: (l, listOf vs.toArray k) :: news ∧ IntsAre us' (passF (rowIL 18) ys i) ∧ us'.length = 8 * i) (by rfl) RG (by decide) (by decide) FF NN ⟨[], 0, rfl, .nil, by simp⟩ ?_ ?_
    · intro I i tI uJ hJ' tkJ o nw hiI hJ hoff F1' N1'
      obtain ⟨us', c', e, hus', hlen'⟩ := hJ
      subst e
      clear FF NN RG F1 N1 hus hi hn hvl hbb hb hba hia hna hwl
      have hoff2 := hoff
      simp only [LCg.Off1] at hoff2
      repeat' ((fail_if_success (with_reducible show Q _ _)); (fail_if_success (with_reducible show TurnK _ _ _ _ _ _ _ _ _ _ _ _)); first | (k_unfold; (try dsimp only)) | (k_end; wrow_close) | walk1 | (dsimp only; walk1) | (leave1; walk_say "STEP leave1"; try dsimp only) | fail "no step")
      refine turnK_end (by assumption) (by assumption) ((l2, listOf (us' ++ _).toArray _) :: (lb, listOf wb.toArray cb) :: (lf, listOf us.toArray c) :: (la, listOf wa.toArray ca) :: (l, listOf vs.toArray k) :: news) (by k_sub) (off1_all hoff) (by intro y h1 h2; (try dsimp only); rw [if_neg h1]; rfl) ⟨_, _, rfl, by assumption, ?_⟩
      rw [List.length_append]
      have hq' := IntsAre.length (by with_reducible assumption : IntsAre _ (rowIL _ _)); rw [rowIL_len] at hq'
      omega
    · intro uJ hJ' tkJ nw hJ F1' N1'
      obtain ⟨us', c', e, hus', hlen'⟩ := hJ
      subst e
      clear FF NN RG F1 N1 hus
      repeat' ((fail_if_success (with_reducible show Q _ _)); (fail_if_success (with_reducible show TurnK _ _ _ _ _ _ _ _ _ _ _ _)); first | (k_unfold; (try dsimp only)) | (k_end; wrow_close) | walk1 | (dsimp only; walk1) | (leave1; walk_say "STEP leave1"; try dsimp only) | fail "no step")
      all_goals exact hfy _ _ _ _ _ (by assumption) (cb_drop (by assumption) (List.forall_mem_cons.mpr ⟨by k_dflt k_mem, by (intro p9 h9; repeat (first | exact h9 | refine List.Mem.tail _ ?_))⟩)) (by walk_at "my off") hus'
/-- a row of four -/
def r4F1a (a b c d : Int) : List Int := [(evenF a b c d).1 * 2 ^ 2, dsc (evenF a b c d).2.2.1 11]
def r4F1b (a b c d : Int) : List Int := [(evenF a b c d).2.1 * 2 ^ 2, dsc (evenF a b c d).2.2.2 11]
def r4F2a (a b c d : Int) : List Int := [dsc (evenF a b c d).1 1, dsc (evenF a b c d).2.2.1 14]
def r4F2b (a b c d : Int) : List Int := [dsc (evenF a b c d).2.1 1, dsc (evenF a b c d).2.2.2 14]
def r4I (dn a b c d : Int) : List Int := [dsc (evenI a c b d).1 dn, dsc (evenI a c b d).2.1 dn, dsc (evenI a c b d).2.2.1 dn, dsc (evenI a c b d).2.2.2 dn]
abbrev at40 (ns : List Int) (i : Nat) : Int := ns.getD (Int.toNat (0 + (i : Int) * 4)) 0
abbrev at41 (ns : List Int) (i : Nat) : Int := ns.getD (Int.toNat (0 + (i : Int) * 4 + 1)) 0
abbrev at42 (ns : List Int) (i : Nat) : Int := ns.getD (Int.toNat (0 + (i : Int) * 4 + 2)) 0
abbrev at43 (ns : List Int) (i : Nat) : Int := ns.getD (Int.toNat (0 + (i : Int) * 4 + 3)) 0
def pass4F1 (ns : List Int) : Nat → List Int
  | 0 => []
  | i + 1 => (pass4F1 ns i ++ r4F1a (at40 ns i) (at41 ns i) (at42 ns i) (at43 ns i)) ++ r4F1b (at40 ns i) (at41 ns i) (at42 ns i) (at43 ns i)
def pass4F2 (ns : List Int) : Nat → List Int
  | 0 => []
  | i + 1 => (pass4F2 ns i ++ r4F2a (at40 ns i) (at41 ns i) (at42 ns i) (at43 ns i)) ++ r4F2b (at40 ns i) (at41 ns i) (at42 ns i) (at43 ns i)
def pass4I (dn : Int) (ns : List Int) : Nat → List Int
  | 0 => []
  | i + 1 => pass4I dn ns i ++ r4I dn (at40 ns i) (at41 ns i) (at42 ns i) (at43 ns i)
theorem pass4F1_len (ns : List Int) : ∀ k, (pass4F1 ns k).length = 4 * k
  | 0 => rfl
  | k + 1 => by rw [pass4F1, List.length_append, List.length_append, pass4F1_len ns k]; show 4 * k + 2 + 2 = _; omega
theorem pass4F2_len (ns : List Int) : ∀ k, (pass4F2 ns k).length = 4 * k
  | 0 => rfl
  | k + 1 => by rw [pass4F2, List.length_append, List.length_append, pass4F2_len ns k]; show 4 * k + 2 + 2 = _; omega
theorem pass4I_len (dn : Int) (ns : List Int) : ∀ k, (pass4I dn ns k).length = 4 * k
  | 0 => rfl
  | k + 1 => by rw [pass4I, List.length_append, pass4I_len dn ns k]; show 4 * k + 4 = _; omega
theorem all2 {B a b : Int} (ha : Bd B a) (hb : Bd B b) : AllB B [a, b] := by
  intro x hx
  simp only [List.mem_cons, List.not_mem_nil, or_false] at hx
  rcases hx with rfl | rfl <;> assumption
theorem all4 {B a b c d : Int} (ha : Bd B a) (hb : Bd B b) (hc : Bd B c) (hd : Bd B d) : AllB B [a, b, c, d] := by
  intro x hx
  simp only [List.mem_cons, List.not_mem_nil, or_false] at hx
  rcases hx with rfl | rfl | rfl | rfl <;> assumption
theorem pass4F1_all {B : Int} (hB : 1 ≤ B) {ns : List Int} (h : AllB B ns) : ∀ k, AllB (300 * B) (pass4F1 ns k)
  | 0 => fun _ hx => nomatch hx
  | k + 1 => by
    have g := h.getD (show 0 ≤ B by omega)
    have E := evenF_bd (g (Int.toNat (0 + (k : Int) * 4))) (g (Int.toNat (0 + (k : Int) * 4 + 1))) (g (Int.toNat (0 + (k : Int) * 4 + 2))) (g (Int.toNat (0 + (k : Int) * 4 + 3)))
    exact ((pass4F1_all hB h k).append (all2 (E.1.shl2.mono (by omega)) ((bd_dsc11 (C := 298 * B) (E.2.2.1.mono (by omega))).mono (by omega)))).append
      (all2 (E.2.1.shl2.mono (by omega)) ((bd_dsc11 (C := 298 * B) (E.2.2.2.mono (by omega))).mono (by omega)))
theorem pass4F2_all {B : Int} (hB : 1 ≤ B) {ns : List Int} (h : AllB B ns) : ∀ k, AllB (20 * B) (pass4F2 ns k)
  | 0 => fun _ hx => nomatch hx
  | k + 1 => by
    have g := h.getD (show 0 ≤ B by omega)
    have E := evenF_bd (g (Int.toNat (0 + (k : Int) * 4))) (g (Int.toNat (0 + (k : Int) * 4 + 1))) (g (Int.toNat (0 + (k : Int) * 4 + 2))) (g (Int.toNat (0 + (k : Int) * 4 + 3)))
    exact ((pass4F2_all hB h k).append (all2 ((bd_dsc1 (C := 19 * B) (E.1.mono (by omega))).mono (by omega)) ((bd_dsc14 (C := 19 * B) (E.2.2.1.mono (by omega))).mono (by omega)))).append
      (all2 ((bd_dsc1 (C := 19 * B) (E.2.1.mono (by omega))).mono (by omega)) ((bd_dsc14 (C := 19 * B) (E.2.2.2.mono (by omega))).mono (by omega)))
theorem pass4I11_all {B : Int} (hB : 1 ≤ B) {ns : List Int} (h : AllB B ns) : ∀ k, AllB (300 * B) (pass4I 11 ns k)
  | 0 => fun _ hx => nomatch hx
  | k + 1 => by
    have g := h.getD (show 0 ≤ B by omega)
    have E := evenI_bd (g (Int.toNat (0 + (k : Int) * 4))) (g (Int.toNat (0 + (k : Int) * 4 + 2))) (g (Int.toNat (0 + (k : Int) * 4 + 1))) (g (Int.toNat (0 + (k : Int) * 4 + 3)))
    exact (pass4I11_all hB h k).append (all4 ((bd_dsc11 (C := 298 * B) (E.1.mono (by omega))).mono (by omega)) ((bd_dsc11 (C := 298 * B) (E.2.1.mono (by omega))).mono (by omega)) ((bd_dsc11 (C := 298 * B) (E.2.2.1.mono (by omega))).mono (by omega)) ((bd_dsc11 (C := 298 * B) (E.2.2.2.mono (by omega))).mono (by omega)))
def fwd4 (ns : List Int) : List Int := turnI 4 (pass4F2 (turnI 4 (pass4F1 ns 4)) 4)
def inv4 (ns : List Int) : List Int := pass4I 17 (turnI 4 (pass4I 11 (turnI 4 ns) 4)) 4
theorem fwd4_len (ns : List Int) : (fwd4 ns).length = 16 := turn4_len (pass4F2_len _ 4)
theorem inv4_len (ns : List Int) : (inv4 ns).length = 16 := pass4I_len 17 _ 4
theorem fwd4_all {B : Int} (hB : 1 ≤ B) {ns : List Int} (h : AllB B ns) : AllB (6000 * B) (fwd4 ns) := ((pass4F2_all (show 1 ≤ 300 * B by omega) ((pass4F1_all hB h 4).turn 4) 4).turn 4).mono (by omega)
theorem c_four_forward (w : World) (news : List (Addr × Obj)) (sv : Value) (l : Addr) (k : Nat) (vs : List Value) (ns : List Int) (hl : (l, listOf vs.toArray k) ∈ news) (hi : IntsAre vs ns) (hn : ns.length = 16) (hb : AllB 65536 ns) :
    Owes 8 w 101 [sv, .ref l] news (fun h₀ L m s Q => LRet h₀ L m news s Q (fwd4 ns)) := by
  unfold Owes
  w_top off
  k_with_none
  k_with "my off" => (first | assumption | exact off1_lt (by tbn_lt) | exact (by assumption : _ ∧ LCg.Off1 _ _).2 | exact (by assumption : _ ∧ _ ∧ LCg.Off1 _ _).2.2 | exact (by assumption : _ ∧ _ ∧ _ ∧ LCg.Off1 _ _).2.2.2 | exact (by assumption : _ ∧ _ ∧ _ ∧ _ ∧ LCg.Off1 _ _).2.2.2.2 | exact (by assumption : _ ∧ _ ∧ _ ∧ _ ∧ _ ∧ LCg.Off1 _ _).2.2.2.2.2 | exact (by assumption : _ ∧ _ ∧ _ ∧ _ ∧ _ ∧ _ ∧ LCg.Off1 _ _).2.2.2.2.2.2 | exact (by assumption : _ ∧ _ ∧ _ ∧ _ ∧ _ ∧ _ ∧ _ ∧ LCg.Off1 _ _).2.2.2.2.2.2.2 | exact (by assumption : _ ∧ _ ∧ _ ∧ _ ∧ _ ∧ _ ∧ _ ∧ _ ∧ LCg.Off1 _ _).2.2.2.2.2.2.2.2 | exact (by assumption : _ ∧ _ ∧ _ ∧ _ ∧ _ ∧ _ ∧ _ ∧ _ ∧ _ ∧ LCg.Off1 _ _).2.2.2.2.2.2.2.2.2 | exact (by assumption : _ ∧ _ ∧ _ ∧ _ ∧ _ ∧ _ ∧ _ ∧ _ ∧ _ ∧ _ ∧ LCg.Off1 _ _).2.2.2.2.2.2.2.2.2.2 | exact (by assumption : _ ∧ _ ∧ _ ∧ _ ∧ _ ∧ _ ∧ _ ∧ _ ∧ _ ∧ _ ∧ _ ∧ LCg.Off1 _ _).2.2.2.2.2.2.2.2.2.2.2 | exact (by assumption : _ ∧ _ ∧ _ ∧ _ ∧ _ ∧ _ ∧ _ ∧ _ ∧ _ ∧ _ ∧ _ ∧ _ ∧ LCg.Off1 _ _).2.2.2.2.2.2.2.2.2.2.2.2 | exact (by assumption : _ ∧ _ ∧ _ ∧ _ ∧ _ ∧ _ ∧ _ ∧ _ ∧ _ ∧ _ ∧ _ ∧ _ ∧ _ ∧ LCg.Off1 _ _).2.2.2.2.2.2.2.2.2.2.2.2.2 | exact (by assumption : _ ∧ _ ∧ _ ∧ _ ∧ _ ∧ _ ∧ _ ∧ _ ∧ _ ∧ _ ∧ _ ∧ _ ∧ _ ∧ _ ∧ LCg.Off1 _ _).2.2.2.2.2.2.2.2.2.2.2.2.2.2 | exact (by assumption : _ ∧ _ ∧ _ ∧ _ ∧ _ ∧ _ ∧ _ ∧ _ ∧ _ ∧ _ ∧ _ ∧ _ ∧ _ ∧ _ ∧ _ ∧ LCg.Off1 _ _).2.2.2.2.2.2.2.2.2.2.2.2.2.2.2 | exact (by assumption : _ ∧ _ ∧ _ ∧ _ ∧ _ ∧ _ ∧ _ ∧ _ ∧ _ ∧ _ ∧ _ ∧ _ ∧ _ ∧ _ ∧ _ ∧ _ ∧ LCg.Off1 _ _).2.2.2.2.2.2.2.2.2.2.2.2.2.2.2.2 | exact (by assumption : _ ∧ _ ∧ _ ∧ _ ∧ _ ∧ _ ∧ _ ∧ _ ∧ _ ∧ _ ∧ _ ∧ _ ∧ _ ∧ _ ∧ _ ∧ _ ∧ _ ∧ LCg.Off1 _ _).2.2.2.2.2.2.2.2.2.2.2.2.2.2.2.2.2 | exact (by assumption : _ ∧ _ ∧ _ ∧ _ ∧ _ ∧ _ ∧ _ ∧ _ ∧ _ ∧ _ ∧ _ ∧ _ ∧ _ ∧ _ ∧ _ ∧ _ ∧ _ ∧ _ ∧ LCg.Off1 _ _).2.2.2.2.2.2.2.2.2.2.2.2.2.2.2.2.2.2 | exact (by assumption : _ ∧ _ ∧ _ ∧ _ ∧ _ ∧ _ ∧ _ ∧ _ ∧ _ ∧ _ ∧ _ ∧ _ ∧ _ ∧ _ ∧ _ ∧ _ ∧ _ ∧ _ ∧ _ ∧ LCg.Off1 _ _).2.2.2.2.2.2.2.2.2.2.2.2.2.2.2.2.2.2.2 | exact (by assumption : _ ∧ _ ∧ _ ∧ _ ∧ _ ∧ _ ∧ _ ∧ _ ∧ _ ∧ _ ∧ _ ∧ _ ∧ _ ∧ _ ∧ _ ∧ _ ∧ _ ∧ _ ∧ _ ∧ _ ∧ LCg.Off1 _ _).2.2.2.2.2.2.2.2.2.2.2.2.2.2.2.2.2.2.2.2)
  k_with "lcg_off" => (first | assumption | exact (by assumption : _ ∧ LCg.Off3 _ _ _ _).2 | exact (by assumption : _ ∧ _ ∧ LCg.Off3 _ _ _ _).2.2 | exact (by assumption : _ ∧ _ ∧ _ ∧ LCg.Off3 _ _ _ _).2.2.2 | exact (by assumption : _ ∧ _ ∧ _ ∧ _ ∧ LCg.Off3 _ _ _ _).2.2.2.2 | exact (by assumption : _ ∧ _ ∧ _ ∧ _ ∧ _ ∧ LCg.Off3 _ _ _ _).2.2.2.2.2 | exact (by assumption : _ ∧ _ ∧ _ ∧ _ ∧ _ ∧ _ ∧ LCg.Off3 _ _ _ _).2.2.2.2.2.2 | exact (by assumption : _ ∧ _ ∧ _ ∧ _ ∧ _ ∧ _ ∧ _ ∧ LCg.Off3 _ _ _ _).2.2.2.2.2.2.2 | exact (by assumption : _ ∧ _ ∧ _ ∧ _ ∧ _ ∧ _ ∧ _ ∧ _ ∧ LCg.Off3 _ _ _ _).2.2.2.2.2.2.2.2 | exact (by assumption : _ ∧ _ ∧ _ ∧ _ ∧ _ ∧ _ ∧ _ ∧ _ ∧ _ ∧ LCg.Off3 _ _ _ _).2.2.2.2.2.2.2.2.2 | exact (by assumption : _ ∧ _ ∧ _ ∧ _ ∧ _ ∧ _ ∧ _ ∧ _ ∧ _ ∧ _ ∧ LCg.Off3 _ _ _ _).2.2.2.2.2.2.2.2.2.2 | exact (by assumption : _ ∧ _ ∧ _ ∧ _ ∧ _ ∧ _ ∧ _ ∧ _ ∧ _ ∧ _ ∧ _ ∧ LCg.Off3 _ _ _ _).2.2.2.2.2.2.2.2.2.2.2 | exact (by assumption : _ ∧ _ ∧ _ ∧ _ ∧ _ ∧ _ ∧ _ ∧ _ ∧ _ ∧ _ ∧ _ ∧ _ ∧ LCg.Off3 _ _ _ _).2.2.2.2.2.2.2.2.2.2.2.2 | exact (by assumption : _ ∧ _ ∧ _ ∧ _ ∧ _ ∧ _ ∧ _ ∧ _ ∧ _ ∧ _ ∧ _ ∧ _ ∧ _ ∧ LCg.Off3 _ _ _ _).2.2.2.2.2.2.2.2.2.2.2.2.2 | exact (by assumption : _ ∧ _ ∧ _ ∧ _ ∧ _ ∧ _ ∧ _ ∧ _ ∧ _ ∧ _ ∧ _ ∧ _ ∧ _ ∧ _ ∧ LCg.Off3 _ _ _ _).2.2.2.2.2.2.2.2.2.2.2.2.2.2 | exact (by assumption : _ ∧ _ ∧ _ ∧ _ ∧ _ ∧ _ ∧ _ ∧ _ ∧ _ ∧ _ ∧ _ ∧ _ ∧ _ ∧ _ ∧ _ ∧ LCg.Off3 _ _ _ _).2.2.2.2.2.2.2.2.2.2.2.2.2.2.2 | exact (by assumption : _ ∧ _ ∧ _ ∧ _ ∧ _ ∧ _ ∧ _ ∧ _ ∧ _ ∧ _ ∧ _ ∧ _ ∧ _ ∧ _ ∧ _ ∧ _ ∧ LCg.Off3 _ _ _ _).2.2.2.2.2.2.2.2.2.2.2.2.2.2.2.2 | exact (by assumption : _ ∧ _ ∧ _ ∧ _ ∧ _ ∧ _ ∧ _ ∧ _ ∧ _ ∧ _ ∧ _ ∧ _ ∧ _ ∧ _ ∧ _ ∧ _ ∧ _ ∧ LCg.Off3 _ _ _ _).2.2.2.2.2.2.2.2.2.2.2.2.2.2.2.2.2 | exact (by assumption : _ ∧ _ ∧ _ ∧ _ ∧ _ ∧ _ ∧ _ ∧ _ ∧ _ ∧ _ ∧ _ ∧ _ ∧ _ ∧ _ ∧ _ ∧ _ ∧ _ ∧ _ ∧ LCg.Off3 _ _ _ _).2.2.2.2.2.2.2.2.2.2.2.2.2.2.2.2.2.2 | exact (by assumption : _ ∧ _ ∧ _ ∧ _ ∧ _ ∧ _ ∧ _ ∧ _ ∧ _ ∧ _ ∧ _ ∧ _ ∧ _ ∧ _ ∧ _ ∧ _ ∧ _ ∧ _ ∧ _ ∧ LCg.Off3 _ _ _ _).2.2.2.2.2.2.2.2.2.2.2.2.2.2.2.2.2.2.2 | exact (by assumption : _ ∧ _ ∧ _ ∧ _ ∧ _ ∧ _ ∧ _ ∧ _ ∧ _ ∧ _ ∧ _ ∧ _ ∧ _ ∧ _ ∧ _ ∧ _ ∧ _ ∧ _ ∧ _ ∧ _ ∧ LCg.Off3 _ _ _ _).2.2.2.2.2.2.2.2.2.2.2.2.2.2.2.2.2.2.2.2)
  k_with "subscriptTail Name Slice ref ref" => ((k_here; (with_reducible show wpAny _ _ (subscriptTail _ (PySem.Expr.Slice _ _ _ _) (Value.ref _) (Value.ref _)) _ _ _); k_dflt (refine slice_ints3 (by k_asm) (by k_asm) (by k_mem) (by first | assumption | exact IntsAre.nil) (by kmk_part) (by kmk_part) (by kmk_part) (by first | decide | (intro hz; injection hz with hz; omega)) (by walk_at "my size") ?_ (by with_unfolding_all rfl) (by kmk_pure)); intro D' ws' h' F' N' l1 hI' hC'; (try k_lt l1); (try k_sweep)))
  k_with "call builtin:list.extend" => ((k_here; (with_reducible show wpAny _ _ (call (Value.builtin _) [Value.ref _, Value.ref _]) _ _ _); k_dflt (refine ext_ints (by k_asm) (by k_asm) (by k_mem) (by (intro n'; k_upd)) (by first | assumption | exact IntsAre.nil) (by first | assumption | exact IntsAre.pick (by assumption) _ _ _ | exact IntsAre.cons _ _ (IntsAre.cons _ _ IntsAre.nil) | exact IntsAre.cons _ _ (IntsAre.cons _ _ (IntsAre.cons _ _ (IntsAre.cons _ _ IntsAre.nil)))) (by walk_at "my size") ?_); intro n' h' F' N' hI'; (try k_sweep)))
  k_with "call ref" => ((k_here; (with_reducible show wpAny _ _ (call (Value.ref 21) [Value.int _ _, Value.int _ _]) _ _ _); k_dflt (refine owes_use' (by k_asm) (by k_asm) (by k_asm) (by k_asm) (by k_asm) (by first | exact rfl | assumption) (c_descaled _ _ _ _ _ _ (by first | decide | assumption | omega) (by first | decide | assumption | omega)) (by ktr_room) (by ktr_units) ?_); intro t' h' tk' F' N'; (try k_sweep); (try dsimp only); (try k_fold)))
  k_with "call ref" => ((k_here; (with_reducible show wpAny _ _ (call (Value.ref 28) [Value.int _ _, Value.int _ _, Value.int _ _, Value.int _ _]) _ _ _); k_dflt (refine owes_use' (by k_asm) (by k_asm) (by k_asm) (by k_asm) (by k_asm) (by first | exact rfl | assumption) (c_even_forward _ _ _ _ _ _ _ _ _ _) (by ktr_room) (by ktr_units) ?_); intro r' t1' t2' t3' t4' c' h' tk' F' N' l1; (try k_sweep); (try k_lt l1); (try dsimp only); (try k_fold)))
  k_with "call ref" => ((k_here; (with_reducible show wpAny _ _ (call (Value.ref 42) [Value.ref _, Value.int _ _]) _ _ _); k_dflt (refine owes_use' (by k_asm) (by k_asm) (by k_asm) (by k_asm) (by k_asm) (by first | exact rfl | assumption) (c_turned4 _ _ _ _ _ _ _ (by k_mem) (by assumption) (by omega)) (by ktr_room) (by ktr_units) ?_); intro r' ws' c' h' tk' F' N' o1' hI'; (try k_sweep); (try simp only [LCg.Off1, and_true] at o1'); (try dsimp only); (try k_fold)))
  k_with "my size" => ((simp only [List.length_append, List.length_cons, List.length_nil]; omega))
  k_with "binaryOp LShift int int" => ((k_here; (with_reducible refine lshift_int_small (by decide) (by decide) (by (simp only [evenF]; omega)) ?_)))
  k_fill
  intro mean mg mb dp un gd cn cs av ccd cl outer A₀ base h₀ L m s Q E B F X N T hk hd hu hret
  have hvl : vs.length = 16 := hi.length.trans hn
  replace N := news_dup N hl
  clear hl
  refine wpAny_call ?_
  k_dflt (walk_at "my enter")
  repeat' ((fail_if_success (with_reducible show wpAny _ _ (pyIter _) _ _ _)); first | (k_unfold; (try dsimp only)) | (k_end; wrow_close) | walk1 | (dsimp only; walk1) | (leave1; walk_say "STEP leave1"; try dsimp only) | fail "no step")
  rename IsRange _ _ _ _ _ _ _ _ => RG
  rename Fr _ _ _ _ => FF
  rename News _ _ _ _ => NN
  obtain ⟨lf, elf⟩ := news_at0 NN
  subst elf
  refine loopK 4 ["zero", "two", "one", "three"] (fun i nw => ∃ us c, nw = (lf, listOf us.toArray c) :: (l, listOf vs.toArray k) :: news ∧ IntsAre us (pass4F1 ns i) ∧ us.length = 4 * i) (by rfl) RG (by decide) (by decide) FF NN ⟨[], 0, rfl, .nil, by simp⟩ ?_ ?_
  · intro I i tI uI hI tkI o nw hiI hJ hoff F1 N1
    obtain ⟨us, c, e, hus, hlen⟩ := hJ
    subst e
    clear FF NN RG
    have hoff2 := hoff
    simp only [LCg.Off1] at hoff2
    have q0 := hb.getD (by decide) (Int.toNat (0 + (i : Int) * 4))
    have q1 := hb.getD (by decide) (Int.toNat (0 + (i : Int) * 4 + 1))
    have q2 := hb.getD (by decide) (Int.toNat (0 + (i : Int) * 4 + 2))
    have q3 := hb.getD (by decide) (Int.toNat (0 + (i : Int) * 4 + 3))
    repeat' ((fail_if_success (with_reducible show Q _ _)); (fail_if_success (with_reducible show TurnK _ _ _ _ _ _ _ _ _ _ _ _)); first | (k_unfold; (try dsimp only)) | (k_end; wrow_close) | walk1 | (dsimp only; walk1) | (leave1; walk_say "STEP leave1"; try dsimp only) | fail "no step")
    refine turnK_end (by assumption) (by assumption) ((lf, listOf ((us ++ [_, _]) ++ [_, _]).toArray _) :: (l, listOf vs.toArray k) :: news) (by k_sub) (off1_all hoff) (by intro y h1 h2; obtain ⟨a1, a2, a3, a4⟩ := not4 h2; (try dsimp only); rw [if_neg a4, if_neg a3, if_neg a2, if_neg a1, if_neg h1, h2]; rfl) ⟨_, _, rfl, by assumption, ?_⟩
    simp only [List.length_append, List.length_cons, List.length_nil]; omega
  · intro uI hI tkI nw hJ F1 N1
    obtain ⟨us, c, e, hus, hlen⟩ := hJ
    subst e
    clear FF NN RG
    repeat' ((fail_if_success (with_reducible show wpAny _ _ (pyIter _) _ _ _)); first | (k_unfold; (try dsimp only)) | (k_end; wrow_close) | walk1 | (dsimp only; walk1) | (leave1; walk_say "STEP leave1"; try dsimp only) | fail "no step")
    rename IsRange _ _ _ _ _ _ _ _ => RG
    rename Fr _ _ _ _ => FF
    rename News _ _ _ _ => NN
    obtain ⟨l2, e2⟩ := news_at0 NN
    subst e2
    obtain ⟨la, wa, ca, e3, e4, e5⟩ := news_at1 NN
    subst e3 e4 e5
    obtain ⟨xs, hia, hna, hba, hfx⟩ : ∃ xs, IntsAre wa xs ∧ xs.length = 16 ∧ AllB (2 ^ 30) xs ∧ LRet h₀ L m news s Q (turnI 4 (pass4F2 xs 4)) := ⟨turnI 4 (pass4F1 ns 4), by with_reducible assumption, turn4_len (pass4F1_len ns 4), ((pass4F1_all (by decide) hb 4).turn 4).mono (by decide), hret⟩
    clear hret
    have hwl : wa.length = 16 := hia.length.trans hna
    rename IntsAre wa (turnPre _ _ _) => hol
    clear hol
    refine loopK 4 ["zero", "two", "one", "three"] (fun i nw => ∃ us' c', nw = (l2, listOf us'.toArray c') :: (la, listOf wa.toArray ca) :: (lf, listOf us.toArray c) :: (l, listOf vs.toArray k) :: news ∧ IntsAre us' (pass4F2 xs i) ∧ us'.length = 4 * i) (by rfl) RG (by decide) (by decide) FF NN ⟨[], 0, rfl, .nil, by simp⟩ ?_ ?_
    · intro I i tI uJ hJ' tkJ o nw hiI hJ hoff F1' N1'
      obtain ⟨us', c', e, hus', hlen'⟩ := hJ
      subst e
      clear FF NN RG F1 N1 hus hi hn hvl hb
      have hoff2 := hoff
      simp only [LCg.Off1] at hoff2
      repeat' ((fail_if_success (with_reducible show Q _ _)); (fail_if_success (with_reducible show TurnK _ _ _ _ _ _ _ _ _ _ _ _)); first | (k_unfold; (try dsimp only)) | (k_end; wrow_close) | walk1 | (dsimp only; walk1) | (leave1; walk_say "STEP leave1"; try dsimp only) | fail "no step")
      refine turnK_end (by assumption) (by assumption) ((l2, listOf ((us' ++ [_, _]) ++ [_, _]).toArray _) :: (la, listOf wa.toArray ca) :: (lf, listOf us.toArray c) :: (l, listOf vs.toArray k) :: news) (by k_sub) (off1_all hoff) (by intro y h1 h2; obtain ⟨a1, a2, a3, a4⟩ := not4 h2; (try dsimp only); rw [if_neg a4, if_neg a3, if_neg a2, if_neg a1, if_neg h1, h2]; rfl) ⟨_, _, rfl, by assumption, ?_⟩
      simp only [List.length_append, List.length_cons, List.length_nil]; omega
    · intro uJ hJ' tkJ nw hJ F1' N1'
      obtain ⟨us', c', e, hus', hlen'⟩ := hJ
      subst e
      clear FF NN RG F1 N1 hus
      repeat' ((fail_if_success (with_reducible show Q _ _)); (fail_if_success (with_reducible show TurnK _ _ _ _ _ _ _ _ _ _ _ _)); first | (k_unfold; (try dsimp only)) | (k_end; wrow_close) | walk1 | (dsimp only; walk1) | (leave1; walk_say "STEP leave1"; try dsimp only) | fail "no step")
      all_goals exact hfx _ _ _ _ _ (by assumption) (cb_drop (by assumption) (List.forall_mem_cons.mpr ⟨by k_dflt k_mem, by (intro p9 h9; repeat (first | exact h9 | refine List.Mem.tail _ ?_))⟩)) (by walk_at "my off") (by assumption)
theorem c_four_inverse (w : World) (news : List (Addr × Obj)) (sv : Value) (l : Addr) (k : Nat) (vs : List Value) (ns : List Int) (hl : (l, listOf vs.toArray k) ∈ news) (hi : IntsAre vs ns) (hn : ns.length = 16) (hb : AllB (2 ^ 28) ns) :
    Owes 8 w 106 [sv, .ref l] news (fun h₀ L m s Q => LRet h₀ L m news s Q (inv4 ns)) := by
  unfold Owes
  w_top off
  k_with_none
  k_with "my off" => (first | assumption | exact off1_lt (by tbn_lt) | exact (by assumption : _ ∧ LCg.Off1 _ _).2 | exact (by assumption : _ ∧ _ ∧ LCg.Off1 _ _).2.2 | exact (by assumption : _ ∧ _ ∧ _ ∧ LCg.Off1 _ _).2.2.2 | exact (by assumption : _ ∧ _ ∧ _ ∧ _ ∧ LCg.Off1 _ _).2.2.2.2 | exact (by assumption : _ ∧ _ ∧ _ ∧ _ ∧ _ ∧ LCg.Off1 _ _).2.2.2.2.2 | exact (by assumption : _ ∧ _ ∧ _ ∧ _ ∧ _ ∧ _ ∧ LCg.Off1 _ _).2.2.2.2.2.2 | exact (by assumption : _ ∧ _ ∧ _ ∧ _ ∧ _ ∧ _ ∧ _ ∧ LCg.Off1 _ _).2.2.2.2.2.2.2 | exact (by assumption : _ ∧ _ ∧ _ ∧ _ ∧ _ ∧ _ ∧ _ ∧ _ ∧ LCg.Off1 _ _).2.2.2.2.2.2.2.2 | exact (by assumption : _ ∧ _ ∧ _ ∧ _ ∧ _ ∧ _ ∧ _ ∧ _ ∧ _ ∧ LCg.Off1 _ _).2.2.2.2.2.2.2.2.2 | exact (by assumption : _ ∧ _ ∧ _ ∧ _ ∧ _ ∧ _ ∧ _ ∧ _ ∧ _ ∧ _ ∧ LCg.Off1 _ _).2.2.2.2.2.2.2.2.2.2 | exact (by assumption : _ ∧ _ ∧ _ ∧ _ ∧ _ ∧ _ ∧ _ ∧ _ ∧ _ ∧ _ ∧ _ ∧ LCg.Off1 _ _).2.2.2.2.2.2.2.2.2.2.2 | exact (by assumption : _ ∧ _ ∧ _ ∧ _ ∧ _ ∧ _ ∧ _ ∧ _ ∧ _ ∧ _ ∧ _ ∧ _ ∧ LCg.Off1 _ _).2.2.2.2.2.2.2.2.2.2.2.2 | exact (by assumption : _ ∧ _ ∧ _ ∧ _ ∧ _ ∧ _ ∧ _ ∧ _ ∧ _ ∧ _ ∧ _ ∧ _ ∧ _ ∧ LCg.Off1 _ _).2.2.2.2.2.2.2.2.2.2.2.2.2 | exact (by assumption : _ ∧ _ ∧ _ ∧ _ ∧ _ ∧ _ ∧ _ ∧ _ ∧ _ ∧ _ ∧ _ ∧ _ ∧ _ ∧ _ ∧ LCg.Off1 _ _).2.2.2.2.2.2.2.2.2.2.2.2.2.2 | exact (by assumption : _ ∧ _ ∧ _ ∧ _ ∧ _ ∧ _ ∧ _ ∧ _ ∧ _ ∧ _ ∧ _ ∧ _ ∧ _ ∧ _ ∧ _ ∧ LCg.Off1 _ _).2.2.2.2.2.2.2.2.2.2.2.2.2.2.2 | exact (by assumption : _ ∧ _ ∧ _ ∧ _ ∧ _ ∧ _ ∧ _ ∧ _ ∧ _ ∧ _ ∧ _ ∧ _ ∧ _ ∧ _ ∧ _ ∧ _ ∧ LCg.Off1 _ _).2.2.2.2.2.2.2.2.2.2.2.2.2.2.2.2 | exact (by assumption : _ ∧ _ ∧ _ ∧ _ ∧ _ ∧ _ ∧ _ ∧ _ ∧ _ ∧ _ ∧ _ ∧ _ ∧ _ ∧ _ ∧ _ ∧ _ ∧ _ ∧ LCg.Off1 _ _).2.2.2.2.2.2.2.2.2.2.2.2.2.2.2.2.2 | exact (by assumption : _ ∧ _ ∧ _ ∧ _ ∧ _ ∧ _ ∧ _ ∧ _ ∧ _ ∧ _ ∧ _ ∧ _ ∧ _ ∧ _ ∧ _ ∧ _ ∧ _ ∧ _ ∧ LCg.Off1 _ _).2.2.2.2.2.2.2.2.2.2.2.2.2.2.2.2.2.2 | exact (by assumption : _ ∧ _ ∧ _ ∧ _ ∧ _ ∧ _ ∧ _ ∧ _ ∧ _ ∧ _ ∧ _ ∧ _ ∧ _ ∧ _ ∧ _ ∧ _ ∧ _ ∧ _ ∧ _ ∧ LCg.Off1 _ _).2.2.2.2.2.2.2.2.2.2.2.2.2.2.2.2.2.2.2 | exact (by assumption : _ ∧ _ ∧ _ ∧ _ ∧ _ ∧ _ ∧ _ ∧ _ ∧ _ ∧ _ ∧ _ ∧ _ ∧ _ ∧ _ ∧ _ ∧ _ ∧ _ ∧ _ ∧ _ ∧ _ ∧ LCg.Off1 _ _).2.2.2.2.2.2.2.2.2.2.2.2.2.2.2.2.2.2.2.2)
  k_with "lcg_off" => (first | assumption | exact (by assumption : _ ∧ LCg.Off3 _ _ _ _).2 | exact (by assumption : _ ∧ _ ∧ LCg.Off3 _ _ _ _).2.2 | exact (by assumption : _ ∧ _ ∧ _ ∧ LCg.Off3 _ _ _ _).2.2.2 | exact (by assumption : _ ∧ _ ∧ _ ∧ _ ∧ LCg.Off3 _ _ _ _).2.2.2.2 | exact (by assumption : _ ∧ _ ∧ _ ∧ _ ∧ _ ∧ LCg.Off3 _ _ _ _).2.2.2.2.2 | exact (by assumption : _ ∧ _ ∧ _ ∧ _ ∧ _ ∧ _ ∧ LCg.Off3 _ _ _ _).2.2.2.2.2.2 | exact (by assumption : _ ∧ _ ∧ _ ∧ _ ∧ _ ∧ _ ∧ _ ∧ LCg.Off3 _ _ _ _).2.2.2.2.2.2.2 | exact (by assumption : _ ∧ _ ∧ _ ∧ _ ∧ _ ∧ _ ∧ _ ∧ _ ∧ LCg.Off3 _ _ _ _).2.2.2.2.2.2.2.2 | exact (by assumption : _ ∧ _ ∧ _ ∧ _ ∧ _ ∧ _ ∧ _ ∧ _ ∧ _ ∧ LCg.Off3 _ _ _ _).2.2.2.2.2.2.2.2.2 | exact (by assumption : _ ∧ _ ∧ _ ∧ _ ∧ _ ∧ _ ∧ _ ∧ _ ∧ _ ∧ _ ∧ LCg.Off3 _ _ _ _).2.2.2.2.2.2.2.2.2.2 | exact (by assumption : _ ∧ _ ∧ _ ∧ _ ∧ _ ∧ _ ∧ _ ∧ _ ∧ _ ∧ _ ∧ _ ∧ LCg.Off3 _ _ _ _).2.2.2.2.2.2.2.2.2.2.2 | exact (by assumption : _ ∧ _ ∧ _ ∧ _ ∧ _ ∧ _ ∧ _ ∧ _ ∧ _ ∧ _ ∧ _ ∧ _ ∧ LCg.Off3 _ _ _ _).2.2.2.2.2.2.2.2.2.2.2.2 | exact (by assumption : _ ∧ _ ∧ _ ∧ _ ∧ _ ∧ _ ∧ _ ∧ _ ∧ _ ∧ _ ∧ _ ∧ _ ∧ _ ∧ LCg.Off3 _ _ _ _).2.2.2.2.2.2.2.2.2.2.2.2.2 | exact (by assumption : _ ∧ _ ∧ _ ∧ _ ∧ _ ∧ _ ∧ _ ∧ _ ∧ _ ∧ _ ∧ _ ∧ _ ∧ _ ∧ _ ∧ LCg.Off3 _ _ _ _).2.2.2.2.2.2.2.2.2.2.2.2.2.2 | exact (by assumption : _ ∧ _ ∧ _ ∧ _ ∧ _ ∧ _ ∧ _ ∧ _ ∧ _ ∧ _ ∧ _ ∧ _ ∧ _ ∧ _ ∧ _ ∧ LCg.Off3 _ _ _ _).2.2.2.2.2.2.2.2.2.2.2.2.2.2.2 | exact (by assumption : _ ∧ _ ∧ _ ∧ _ ∧ _ ∧ _ ∧ _ ∧ _ ∧ _ ∧ _ ∧ _ ∧ _ ∧ _ ∧ _ ∧ _ ∧ _ ∧ LCg.Off3 _ _ _ _).2.2.2.2.2.2.2.2.2.2.2.2.2.2.2.2 | exact (by assumption : _ ∧ _ ∧ _ ∧ _ ∧ _ ∧ _ ∧ _ ∧ _ ∧ _ ∧ _ ∧ _ ∧ _ ∧ _ ∧ _ ∧ _ ∧ _ ∧ _ ∧ LCg.Off3 _ _ _ _).2.2.2.2.2.2.2.2.2.2.2.2.2.2.2.2.2 | exact (by assumption : _ ∧ _ ∧ _ ∧ _ ∧ _ ∧ _ ∧ _ ∧ _ ∧ _ ∧ _ ∧ _ ∧ _ ∧ _ ∧ _ ∧ _ ∧ _ ∧ _ ∧ _ ∧ LCg.Off3 _ _ _ _).2.2.2.2.2.2.2.2.2.2.2.2.2.2.2.2.2.2 | exact (by assumption : _ ∧ _ ∧ _ ∧ _ ∧ _ ∧ _ ∧ _ ∧ _ ∧ _ ∧ _ ∧ _ ∧ _ ∧ _ ∧ _ ∧ _ ∧ _ ∧ _ ∧ _ ∧ _ ∧ LCg.Off3 _ _ _ _).2.2.2.2.2.2.2.2.2.2.2.2.2.2.2.2.2.2.2 | exact (by assumption : _ ∧ _ ∧ _ ∧ _ ∧ _ ∧ _ ∧ _ ∧ _ ∧ _ ∧ _ ∧ _ ∧ _ ∧ _ ∧ _ ∧ _ ∧ _ ∧ _ ∧ _ ∧ _ ∧ _ ∧ LCg.Off3 _ _ _ _).2.2.2.2.2.2.2.2.2.2.2.2.2.2.2.2.2.2.2.2)
  k_with "subscriptTail Name Slice ref ref" => ((k_here; (with_reducible show wpAny _ _ (subscriptTail _ (PySem.Expr.Slice _ _ _ _) (Value.ref _) (Value.ref _)) _ _ _); k_dflt (refine slice_ints3 (by k_asm) (by k_asm) (by k_mem) (by first | assumption | exact IntsAre.nil) (by kmk_part) (by kmk_part) (by kmk_part) (by first | decide | (intro hz; injection hz with hz; omega)) (by walk_at "my size") ?_ (by with_unfolding_all rfl) (by kmk_pure)); intro D' ws' h' F' N' l1 hI' hC'; (try k_lt l1); (try k_sweep)))
  k_with "call builtin:list.extend" => ((k_here; (with_reducible show wpAny _ _ (call (Value.builtin _) [Value.ref _, Value.ref _]) _ _ _); k_dflt (refine ext_ints (by k_asm) (by k_asm) (by k_mem) (by (intro n'; k_upd)) (by first | assumption | exact IntsAre.nil) (by first | assumption | exact IntsAre.pick (by assumption) _ _ _ | exact IntsAre.cons _ _ (IntsAre.cons _ _ IntsAre.nil) | exact IntsAre.cons _ _ (IntsAre.cons _ _ (IntsAre.cons _ _ (IntsAre.cons _ _ IntsAre.nil)))) (by walk_at "my size") ?_); intro n' h' F' N' hI'; (try k_sweep)))
  k_with "call ref" => ((k_here; (with_reducible show wpAny _ _ (call (Value.ref 21) [Value.int _ _, Value.int _ _]) _ _ _); k_dflt (refine owes_use' (by k_asm) (by k_asm) (by k_asm) (by k_asm) (by k_asm) (by first | exact rfl | assumption) (c_descaled _ _ _ _ _ _ (by first | decide | assumption | omega) (by first | decide | assumption | omega)) (by ktr_room) (by ktr_units) ?_); intro t' h' tk' F' N'; (try k_sweep); (try dsimp only); (try k_fold)))
  k_with "call ref" => ((k_here; (with_reducible show wpAny _ _ (call (Value.ref 35) [Value.int _ _, Value.int _ _, Value.int _ _, Value.int _ _]) _ _ _); k_dflt (refine owes_use' (by k_asm) (by k_asm) (by k_asm) (by k_asm) (by k_asm) (by first | exact rfl | assumption) (c_even_inverse _ _ _ _ _ _ _ _ _ _ (by exact bd_nat (AllB.getD (by assumption) (by decide) _) (Int.le_refl _)) (by exact bd_nat (AllB.getD (by assumption) (by decide) _) (Int.le_refl _))) (by ktr_room) (by ktr_units) ?_); intro r' t1' t2' t3' t4' c' h' tk' F' N' l1; (try k_sweep); (try k_lt l1); (try dsimp only); (try k_fold)))
  k_with "call ref" => ((k_here; (with_reducible show wpAny _ _ (call (Value.ref 42) [Value.ref _, Value.int _ _]) _ _ _); k_dflt (refine owes_use' (by k_asm) (by k_asm) (by k_asm) (by k_asm) (by k_asm) (by first | exact rfl | assumption) (c_turned4 _ _ _ _ _ _ _ (by k_mem) (by assumption) (by omega)) (by ktr_room) (by ktr_units) ?_); intro r' ws' c' h' tk' F' N' o1' hI'; (try k_sweep); (try simp only [LCg.Off1, and_true] at o1'); (try dsimp only); (try k_fold)))
  k_with "CompEnd" => ((k_here; k_dflt (refine LCg.CompEnd.intro (by assumption) (by assumption) _ (fun _ hp => hp) (by lcg_off) (by lcg_src) ?_)))
  k_with "FinE" => (((repeat ((rename ((@Ne Nat _ _ ∧ _ ∧ _) ∧ _) => hx9); clear hx9)); (repeat ((rename (@Ne Nat _ _ ∧ @Ne Nat _ _ ∧ @Ne Nat _ _) => hx9); clear hx9)); (unfold LCg.FinE); intro D' h' tk' F' N' o1'; (try simp only [LCg.Off1, and_true] at o1'); (try simp only [List.nil_append, List.cons_append] at N'); (try dsimp only)))
  k_with "FinA" => (((repeat ((rename ((@Ne Nat _ _ ∧ _ ∧ _) ∧ _) => hx9); clear hx9)); (repeat ((rename (@Ne Nat _ _ ∧ @Ne Nat _ _ ∧ @Ne Nat _ _) => hx9); clear hx9)); (unfold LCg.FinA); intro D' h' tk' F' N' o1'; (try simp only [LCg.Off1, and_true] at o1'); (try simp only [List.nil_append, List.cons_append] at N'); (try dsimp only)))
  k_with "lcg_src" => (exact ⟨_, by k_mem, rfl, _, rfl⟩)
  k_with "exec Assign cons ListComp" => ((k_here; k_dflt (refine assign_comp_tup (by k_asm) (by rfl) (by with_unfolding_all rfl) (by with_unfolding_all rfl) (by decide) (by rfl) (by decide) (by rfl) (by rfl) (by rfl) ?_)))
  k_with "eval ListComp" => ((k_here; k_dflt (refine comp_tup (by k_asm) (by with_unfolding_all rfl) (by decide) (by rfl) (by decide) (by rfl) ?_)))
  k_with "SrcTup" => ((k_here; k_dflt (refine SrcTup.mk' (by rfl) (by k_asm) (by k_asm) (by k_mem) (by first | size_fits | exact Nat.le_of_ble_eq_true rfl) ?_; intro g'; lcg_lit)))
  k_with "my size" => ((simp only [List.length_append, List.length_cons, List.length_nil]; omega))
  k_fill
  intro mean mg mb dp un gd cn cs av ccd cl outer A₀ base h₀ L m s Q E B F X N T hk hd hu hret
  have hvl : vs.length = 16 := hi.length.trans hn
  replace N := news_dup N hl
  clear hl
  refine wpAny_call ?_
  k_dflt (walk_at "my enter")
  repeat' ((fail_if_success (with_reducible show wpAny _ _ (pyIter _) _ _ _)); first | (k_unfold; (try dsimp only)) | (k_end; wrow_close) | walk1 | (dsimp only; walk1) | (leave1; walk_say "STEP leave1"; try dsimp only) | fail "no step")
  rename IsRange _ _ _ _ _ _ _ _ => RG
  rename Fr _ _ _ _ => FF
  rename News _ _ _ _ => NN
  obtain ⟨lf, elf⟩ := news_at0 NN
  subst elf
  obtain ⟨la, wa, ca, e3, e4, e5⟩ := news_at1 NN
  subst e3 e4 e5
  obtain ⟨xs, hia, hna, hba, hfx⟩ : ∃ xs, IntsAre wa xs ∧ xs.length = 16 ∧ AllB (2 ^ 28) xs ∧ LRet h₀ L m news s Q (pass4I 17 (turnI 4 (pass4I 11 xs 4)) 4) := ⟨turnI 4 ns, by with_reducible assumption, turn4_len hn, hb.turn 4, hret⟩
  clear hret
  have hbb : AllB big xs := hba.mono (by decide)
  have hwl : wa.length = 16 := hia.length.trans hna
  rename IntsAre wa (turnPre _ _ _) => hol
  clear hol
  refine loopK 4 ["told"] (fun i nw => ∃ us c, nw = (lf, listOf us.toArray c) :: (la, listOf wa.toArray ca) :: (l, listOf vs.toArray k) :: news ∧ IntsAre us (pass4I 11 xs i) ∧ us.length = 4 * i) (by rfl) RG (by decide) (by decide) FF NN ⟨[], 0, rfl, .nil, by simp⟩ ?_ ?_
  · intro I i tI uI hI tkI o nw hiI hJ hoff F1 N1
    obtain ⟨us, c, e, hus, hlen⟩ := hJ
    subst e
    clear FF NN RG hb hba hn hi hvl
    have hoff2 := hoff
    simp only [LCg.Off1] at hoff2
    repeat' ((fail_if_success (with_reducible show Q _ _)); (fail_if_success (with_reducible show TurnK _ _ _ _ _ _ _ _ _ _ _ _)); first | (k_unfold; (try dsimp only)) | (k_end; wrow_close) | walk1 | (dsimp only; walk1) | (leave1; walk_say "STEP leave1"; try dsimp only) | fail "no step")
    refine turnK_end (by assumption) (by assumption) ((lf, listOf (us ++ [_, _, _, _]).toArray _) :: (la, listOf wa.toArray ca) :: (l, listOf vs.toArray k) :: news) (by k_sub) (off1_all hoff) (by intro y h1 h2; have a1 := not1 h2; (try dsimp only); rw [if_neg a1, if_neg h1, h2]; rfl) ⟨_, _, rfl, by assumption, ?_⟩
    simp only [List.length_append, List.length_cons, List.length_nil]; omega
  · intro uI hI tkI nw hJ F1 N1
    obtain ⟨us, c, e, hus, hlen⟩ := hJ
    subst e
    clear FF NN RG
    repeat' ((fail_if_success (with_reducible show wpAny _ _ (pyIter _) _ _ _)); first | (k_unfold; (try dsimp only)) | (k_end; wrow_close) | walk1 | (dsimp only; walk1) | (leave1; walk_say "STEP leave1"; try dsimp only) | fail "no step")
    rename IsRange _ _ _ _ _ _ _ _ => RG
    rename Fr _ _ _ _ => FF
    rename News _ _ _ _ => NN
    obtain ⟨l2, e2⟩ := news_at0 NN
    subst e2
    obtain ⟨lb, wb, cb, e3, e4, e5⟩ := news_at1 NN
    subst e3 e4 e5
    obtain ⟨ys, hib, hnb, hbb', hfy⟩ : ∃ ys, IntsAre wb ys ∧ ys.length = 16 ∧ AllB big ys ∧ LRet h₀ L m news s Q (pass4I 17 ys 4) := ⟨turnI 4 (pass4I 11 xs 4), by with_reducible assumption, turn4_len (pass4I_len 11 xs 4), ((pass4I11_all (by decide) hba 4).turn 4).mono (by decide), hfx⟩
    clear hfx
    have hwl' : wb.length = 16 := hib.length.trans hnb
    rename IntsAre wb (turnPre _ _ _) => hol
    clear hol
    refine loopK 4 ["told"] (fun i nw => ∃ us' c', nw = (l2, listOf us'.toArray c') :: (lb, listOf wb.toArray cb) :: (lf, listOf us.toArray c) :: (la, listOf wa.toArray ca) :: (l, listOf vs.toArray k) :: news ∧ IntsAre us' (pass4I 17 ys i) ∧ us'.length = 4 * i) (by rfl) RG (by decide) (by decide) FF NN ⟨[], 0, rfl, .nil, by simp⟩ ?_ ?_
    · intro I i tI uJ hJ' tkJ o nw hiI hJ hoff F1' N1'
      obtain ⟨us', c', e, hus', hlen'⟩ := hJ
      subst e
      clear FF NN RG F1 N1 hus hi hn hvl hbb hb hba hia hna hwl
      have hoff2 := hoff
      simp only [LCg.Off1] at hoff2
      repeat' ((fail_if_success (with_reducible show Q _ _)); (fail_if_success (with_reducible show TurnK _ _ _ _ _ _ _ _ _ _ _ _)); first | (k_unfold; (try dsimp only)) | (k_end; wrow_close) | walk1 | (dsimp only; walk1) | (leave1; walk_say "STEP leave1"; try dsimp only) | fail "no step")
      refine turnK_end (by assumption) (by assumption) ((l2, listOf (us' ++ [_, _, _, _]).toArray _) :: (lb, listOf wb.toArray cb) :: (lf, listOf us.toArray c) :: (la, listOf wa.toArray ca) :: (l, listOf vs.toArray k) :: news) (by k_sub) (off1_all hoff) (by intro y h1 h2; have a1 := not1 h2; (try dsimp only); rw [if_neg a1, if_neg h1, h2]; rfl) ⟨_, _, rfl, by assumption, ?_⟩
      simp only [List.length_append, List.length_cons, List.length_nil]; omega
    · intro uJ hJ' tkJ nw hJ F1' N1'
      obtain ⟨us', c', e, hus', hlen'⟩ := hJ
      subst e
      clear FF NN RG F1 N1 hus
      repeat' ((fail_if_success (with_reducible show Q _ _)); (fail_if_success (with_reducible show TurnK _ _ _ _ _ _ _ _ _ _ _ _)); first | (k_unfold; (try dsimp only)) | (k_end; wrow_close) | walk1 | (dsimp only; walk1) | (leave1; walk_say "STEP leave1"; try dsimp only) | fail "no step")
      all_goals exact hfy _ _ _ _ _ (by assumption) (cb_drop (by assumption) (List.forall_mem_cons.mpr ⟨by k_dflt k_mem, by (intro p9 h9; repeat (first | exact h9 | refine List.Mem.tail _ ?_))⟩)) (by walk_at "my off") hus'
theorem c_two_sums (w : World) (news : List (Addr × Obj)) (sv : Value) (l : Addr) (k : Nat) (a b c d : Int) (t1 t2 t3 t4 : Tok) (hl : (l, listOf [Value.int a t1, .int b t2, .int c t3, .int d t4].toArray k) ∈ news) :
    Owes 3 w 137 [sv, .ref l] news (fun h₀ L m s Q => LRet h₀ L m news s Q [a + b + c + d, a - b + c - d, a + b - c - d, a - b - c + d]) := by
  unfold Owes
  w_top off
  k_with_none
  k_with "my off" => (first | assumption | exact off1_lt (by tbn_lt) | exact (by assumption : _ ∧ LCg.Off1 _ _).2 | exact (by assumption : _ ∧ _ ∧ LCg.Off1 _ _).2.2 | exact (by assumption : _ ∧ _ ∧ _ ∧ LCg.Off1 _ _).2.2.2 | exact (by assumption : _ ∧ _ ∧ _ ∧ _ ∧ LCg.Off1 _ _).2.2.2.2 | exact (by assumption : _ ∧ _ ∧ _ ∧ _ ∧ _ ∧ LCg.Off1 _ _).2.2.2.2.2 | exact (by assumption : _ ∧ _ ∧ _ ∧ _ ∧ _ ∧ _ ∧ LCg.Off1 _ _).2.2.2.2.2.2 | exact (by assumption : _ ∧ _ ∧ _ ∧ _ ∧ _ ∧ _ ∧ _ ∧ LCg.Off1 _ _).2.2.2.2.2.2.2 | exact (by assumption : _ ∧ _ ∧ _ ∧ _ ∧ _ ∧ _ ∧ _ ∧ _ ∧ LCg.Off1 _ _).2.2.2.2.2.2.2.2 | exact (by assumption : _ ∧ _ ∧ _ ∧ _ ∧ _ ∧ _ ∧ _ ∧ _ ∧ _ ∧ LCg.Off1 _ _).2.2.2.2.2.2.2.2.2 | exact (by assumption : _ ∧ _ ∧ _ ∧ _ ∧ _ ∧ _ ∧ _ ∧ _ ∧ _ ∧ _ ∧ LCg.Off1 _ _).2.2.2.2.2.2.2.2.2.2 | exact (by assumption : _ ∧ _ ∧ _ ∧ _ ∧ _ ∧ _ ∧ _ ∧ _ ∧ _ ∧ _ ∧ _ ∧ LCg.Off1 _ _).2.2.2.2.2.2.2.2.2.2.2 | exact (by assumption : _ ∧ _ ∧ _ ∧ _ ∧ _ ∧ _ ∧ _ ∧ _ ∧ _ ∧ _ ∧ _ ∧ _ ∧ LCg.Off1 _ _).2.2.2.2.2.2.2.2.2.2.2.2 | exact (by assumption : _ ∧ _ ∧ _ ∧ _ ∧ _ ∧ _ ∧ _ ∧ _ ∧ _ ∧ _ ∧ _ ∧ _ ∧ _ ∧ LCg.Off1 _ _).2.2.2.2.2.2.2.2.2.2.2.2.2 | exact (by assumption : _ ∧ _ ∧ _ ∧ _ ∧ _ ∧ _ ∧ _ ∧ _ ∧ _ ∧ _ ∧ _ ∧ _ ∧ _ ∧ _ ∧ LCg.Off1 _ _).2.2.2.2.2.2.2.2.2.2.2.2.2.2 | exact (by assumption : _ ∧ _ ∧ _ ∧ _ ∧ _ ∧ _ ∧ _ ∧ _ ∧ _ ∧ _ ∧ _ ∧ _ ∧ _ ∧ _ ∧ _ ∧ LCg.Off1 _ _).2.2.2.2.2.2.2.2.2.2.2.2.2.2.2 | exact (by assumption : _ ∧ _ ∧ _ ∧ _ ∧ _ ∧ _ ∧ _ ∧ _ ∧ _ ∧ _ ∧ _ ∧ _ ∧ _ ∧ _ ∧ _ ∧ _ ∧ LCg.Off1 _ _).2.2.2.2.2.2.2.2.2.2.2.2.2.2.2.2 | exact (by assumption : _ ∧ _ ∧ _ ∧ _ ∧ _ ∧ _ ∧ _ ∧ _ ∧ _ ∧ _ ∧ _ ∧ _ ∧ _ ∧ _ ∧ _ ∧ _ ∧ _ ∧ LCg.Off1 _ _).2.2.2.2.2.2.2.2.2.2.2.2.2.2.2.2.2 | exact (by assumption : _ ∧ _ ∧ _ ∧ _ ∧ _ ∧ _ ∧ _ ∧ _ ∧ _ ∧ _ ∧ _ ∧ _ ∧ _ ∧ _ ∧ _ ∧ _ ∧ _ ∧ _ ∧ LCg.Off1 _ _).2.2.2.2.2.2.2.2.2.2.2.2.2.2.2.2.2.2 | exact (by assumption : _ ∧ _ ∧ _ ∧ _ ∧ _ ∧ _ ∧ _ ∧ _ ∧ _ ∧ _ ∧ _ ∧ _ ∧ _ ∧ _ ∧ _ ∧ _ ∧ _ ∧ _ ∧ _ ∧ LCg.Off1 _ _).2.2.2.2.2.2.2.2.2.2.2.2.2.2.2.2.2.2.2 | exact (by assumption : _ ∧ _ ∧ _ ∧ _ ∧ _ ∧ _ ∧ _ ∧ _ ∧ _ ∧ _ ∧ _ ∧ _ ∧ _ ∧ _ ∧ _ ∧ _ ∧ _ ∧ _ ∧ _ ∧ _ ∧ LCg.Off1 _ _).2.2.2.2.2.2.2.2.2.2.2.2.2.2.2.2.2.2.2.2)
  k_with "lcg_off" => (first | assumption | exact (by assumption : _ ∧ LCg.Off3 _ _ _ _).2 | exact (by assumption : _ ∧ _ ∧ LCg.Off3 _ _ _ _).2.2 | exact (by assumption : _ ∧ _ ∧ _ ∧ LCg.Off3 _ _ _ _).2.2.2 | exact (by assumption : _ ∧ _ ∧ _ ∧ _ ∧ LCg.Off3 _ _ _ _).2.2.2.2 | exact (by assumption : _ ∧ _ ∧ _ ∧ _ ∧ _ ∧ LCg.Off3 _ _ _ _).2.2.2.2.2 | exact (by assumption : _ ∧ _ ∧ _ ∧ _ ∧ _ ∧ _ ∧ LCg.Off3 _ _ _ _).2.2.2.2.2.2 | exact (by assumption : _ ∧ _ ∧ _ ∧ _ ∧ _ ∧ _ ∧ _ ∧ LCg.Off3 _ _ _ _).2.2.2.2.2.2.2 | exact (by assumption : _ ∧ _ ∧ _ ∧ _ ∧ _ ∧ _ ∧ _ ∧ _ ∧ LCg.Off3 _ _ _ _).2.2.2.2.2.2.2.2 | exact (by assumption : _ ∧ _ ∧ _ ∧ _ ∧ _ ∧ _ ∧ _ ∧ _ ∧ _ ∧ LCg.Off3 _ _ _ _).2.2.2.2.2.2.2.2.2 | exact (by assumption : _ ∧ _ ∧ _ ∧ _ ∧ _ ∧ _ ∧ _ ∧ _ ∧ _ ∧ _ ∧ LCg.Off3 _ _ _ _).2.2.2.2.2.2.2.2.2.2 | exact (by assumption : _ ∧ _ ∧ _ ∧ _ ∧ _ ∧ _ ∧ _ ∧ _ ∧ _ ∧ _ ∧ _ ∧ LCg.Off3 _ _ _ _).2.2.2.2.2.2.2.2.2.2.2 | exact (by assumption : _ ∧ _ ∧ _ ∧ _ ∧ _ ∧ _ ∧ _ ∧ _ ∧ _ ∧ _ ∧ _ ∧ _ ∧ LCg.Off3 _ _ _ _).2.2.2.2.2.2.2.2.2.2.2.2 | exact (by assumption : _ ∧ _ ∧ _ ∧ _ ∧ _ ∧ _ ∧ _ ∧ _ ∧ _ ∧ _ ∧ _ ∧ _ ∧ _ ∧ LCg.Off3 _ _ _ _).2.2.2.2.2.2.2.2.2.2.2.2.2 | exact (by assumption : _ ∧ _ ∧ _ ∧ _ ∧ _ ∧ _ ∧ _ ∧ _ ∧ _ ∧ _ ∧ _ ∧ _ ∧ _ ∧ _ ∧ LCg.Off3 _ _ _ _).2.2.2.2.2.2.2.2.2.2.2.2.2.2 | exact (by assumption : _ ∧ _ ∧ _ ∧ _ ∧ _ ∧ _ ∧ _ ∧ _ ∧ _ ∧ _ ∧ _ ∧ _ ∧ _ ∧ _ ∧ _ ∧ LCg.Off3 _ _ _ _).2.2.2.2.2.2.2.2.2.2.2.2.2.2.2 | exact (by assumption : _ ∧ _ ∧ _ ∧ _ ∧ _ ∧ _ ∧ _ ∧ _ ∧ _ ∧ _ ∧ _ ∧ _ ∧ _ ∧ _ ∧ _ ∧ _ ∧ LCg.Off3 _ _ _ _).2.2.2.2.2.2.2.2.2.2.2.2.2.2.2.2 | exact (by assumption : _ ∧ _ ∧ _ ∧ _ ∧ _ ∧ _ ∧ _ ∧ _ ∧ _ ∧ _ ∧ _ ∧ _ ∧ _ ∧ _ ∧ _ ∧ _ ∧ _ ∧ LCg.Off3 _ _ _ _).2.2.2.2.2.2.2.2.2.2.2.2.2.2.2.2.2 | exact (by assumption : _ ∧ _ ∧ _ ∧ _ ∧ _ ∧ _ ∧ _ ∧ _ ∧ _ ∧ _ ∧ _ ∧ _ ∧ _ ∧ _ ∧ _ ∧ _ ∧ _ ∧ _ ∧ LCg.Off3 _ _ _ _).2.2.2.2.2.2.2.2.2.2.2.2.2.2.2.2.2.2 | exact (by assumption : _ ∧ _ ∧ _ ∧ _ ∧ _ ∧ _ ∧ _ ∧ _ ∧ _ ∧ _ ∧ _ ∧ _ ∧ _ ∧ _ ∧ _ ∧ _ ∧ _ ∧ _ ∧ _ ∧ LCg.Off3 _ _ _ _).2.2.2.2.2.2.2.2.2.2.2.2.2.2.2.2.2.2.2 | exact (by assumption : _ ∧ _ ∧ _ ∧ _ ∧ _ ∧ _ ∧ _ ∧ _ ∧ _ ∧ _ ∧ _ ∧ _ ∧ _ ∧ _ ∧ _ ∧ _ ∧ _ ∧ _ ∧ _ ∧ _ ∧ LCg.Off3 _ _ _ _).2.2.2.2.2.2.2.2.2.2.2.2.2.2.2.2.2.2.2.2)
  k_fill
  intro mean mg mb dp un gd cn cs av ccd cl outer A₀ base h₀ L m s Q E B F X N T hk hd hu hret
  replace N := news_dup N hl
  clear hl
  refine wpAny_call ?_
  k_dflt (walk_at "my enter")
  repeat' ((fail_if_success (with_reducible show Q _ _)); (fail_if_success (with_reducible show TurnK _ _ _ _ _ _ _ _ _ _ _ _)); first | (k_unfold; (try dsimp only)) | (k_end; wrow_close) | walk1 | (dsimp only; walk1) | (leave1; walk_say "STEP leave1"; try dsimp only) | fail "no step")
  all_goals exact hret _ _ _ _ _ (by assumption) (cb_drop (by assumption) (List.forall_mem_cons.mpr ⟨by k_dflt k_mem, by (intro p9 h9; repeat (first | exact h9 | refine List.Mem.tail _ ?_))⟩)) (by walk_at "my off") (by k_dflt (repeat' (first | exact IntsAre.nil | refine IntsAre.cons _ _ ?_)))
theorem c_one_forward (w : World) (news : List (Addr × Obj)) (sv : Value) (l : Addr) (k : Nat) (a : Int) (t1 : Tok) (hl : (l, listOf [Value.int a t1].toArray k) ∈ news) :
    Owes 3 w 158 [sv, .ref l] news (fun h₀ L m s Q => LRet h₀ L m news s Q [a * 8]) := by
  unfold Owes
  w_top off
  k_fill
  intro mean mg mb dp un gd cn cs av ccd cl outer A₀ base h₀ L m s Q E B F X N T hk hd hu hret
  replace N := news_dup N hl
  clear hl
  refine wpAny_call ?_
  k_dflt (walk_at "my enter")
  repeat' ((fail_if_success (with_reducible show Q _ _)); (fail_if_success (with_reducible show TurnK _ _ _ _ _ _ _ _ _ _ _ _)); first | (k_unfold; (try dsimp only)) | (k_end; wrow_close) | walk1 | (dsimp only; walk1) | (leave1; walk_say "STEP leave1"; try dsimp only) | fail "no step")
  all_goals exact hret _ _ _ _ _ (by assumption) (cb_drop (by assumption) (List.forall_mem_cons.mpr ⟨by k_dflt k_mem, by (intro p9 h9; repeat (first | exact h9 | refine List.Mem.tail _ ?_))⟩)) (by walk_at "my off") (by k_dflt (repeat' (first | exact IntsAre.nil | refine IntsAre.cons _ _ ?_)))
theorem c_one_inverse (w : World) (news : List (Addr × Obj)) (sv : Value) (l : Addr) (k : Nat) (a : Int) (t1 : Tok) (hl : (l, listOf [Value.int a t1].toArray k) ∈ news) :
    Owes 3 w 165 [sv, .ref l] news (fun h₀ L m s Q => LRet h₀ L m news s Q [a]) := by
  unfold Owes
  w_top off
  k_fill
  intro mean mg mb dp un gd cn cs av ccd cl outer A₀ base h₀ L m s Q E B F X N T hk hd hu hret
  replace N := news_dup N hl
  clear hl
  refine wpAny_call ?_
  k_dflt (walk_at "my enter")
  repeat' ((fail_if_success (with_reducible show Q _ _)); (fail_if_success (with_reducible show TurnK _ _ _ _ _ _ _ _ _ _ _ _)); first | (k_unfold; (try dsimp only)) | (k_end; wrow_close) | walk1 | (dsimp only; walk1) | (leave1; walk_say "STEP leave1"; try dsimp only) | fail "no step")
  all_goals exact hret _ _ _ _ _ (by assumption) (cb_drop (by assumption) (List.forall_mem_cons.mpr ⟨by k_dflt k_mem, by (intro p9 h9; repeat (first | exact h9 | refine List.Mem.tail _ ?_))⟩)) (by walk_at "my off") (by k_dflt (repeat' (first | exact IntsAre.nil | refine IntsAre.cons _ _ ?_)))
def two (a b c d : Int) : List Int := [a + b + c + d, a - b + c - d, a + b - c - d, a - b - c + d]
theorem c_two_forward (w : World) (news : List (Addr × Obj)) (x dx l : Addr) (k : Nat) (a b c d : Int) (t1 t2 t3 t4 : Tok) (hx : (x, instObj 140 dx) ∈ news) (hdx : (dx, dictOf [] 0) ∈ news) (hl : (l, listOf [Value.int a t1, .int b t2, .int c t3, .int d t4].toArray k) ∈ news) :
    Owes 6 w 125 [.ref x, .ref l] news (fun h₀ L m s Q => LRet h₀ L m news s Q ((two a b c d).map (· * 4))) := by
  unfold Owes
  w_top off
  k_with_none
  k_with "my off" => (first | assumption | exact off1_lt (by tbn_lt) | exact (by assumption : _ ∧ LCg.Off1 _ _).2 | exact (by assumption : _ ∧ _ ∧ LCg.Off1 _ _).2.2 | exact (by assumption : _ ∧ _ ∧ _ ∧ LCg.Off1 _ _).2.2.2 | exact (by assumption : _ ∧ _ ∧ _ ∧ _ ∧ LCg.Off1 _ _).2.2.2.2 | exact (by assumption : _ ∧ _ ∧ _ ∧ _ ∧ _ ∧ LCg.Off1 _ _).2.2.2.2.2 | exact (by assumption : _ ∧ _ ∧ _ ∧ _ ∧ _ ∧ _ ∧ LCg.Off1 _ _).2.2.2.2.2.2 | exact (by assumption : _ ∧ _ ∧ _ ∧ _ ∧ _ ∧ _ ∧ _ ∧ LCg.Off1 _ _).2.2.2.2.2.2.2 | exact (by assumption : _ ∧ _ ∧ _ ∧ _ ∧ _ ∧ _ ∧ _ ∧ _ ∧ LCg.Off1 _ _).2.2.2.2.2.2.2.2 | exact (by assumption : _ ∧ _ ∧ _ ∧ _ ∧ _ ∧ _ ∧ _ ∧ _ ∧ _ ∧ LCg.Off1 _ _).2.2.2.2.2.2.2.2.2 | exact (by assumption : _ ∧ _ ∧ _ ∧ _ ∧ _ ∧ _ ∧ _ ∧ _ ∧ _ ∧ _ ∧ LCg.Off1 _ _).2.2.2.2.2.2.2.2.2.2 | exact (by assumption : _ ∧ _ ∧ _ ∧ _ ∧ _ ∧ _ ∧ _ ∧ _ ∧ _ ∧ _ ∧ _ ∧ LCg.Off1 _ _).2.2.2.2.2.2.2.2.2.2.2 | exact (by assumption : _ ∧ _ ∧ _ ∧ _ ∧ _ ∧ _ ∧ _ ∧ _ ∧ _ ∧ _ ∧ _ ∧ _ ∧ LCg.Off1 _ _).2.2.2.2.2.2.2.2.2.2.2.2 | exact (by assumption : _ ∧ _ ∧ _ ∧ _ ∧ _ ∧ _ ∧ _ ∧ _ ∧ _ ∧ _ ∧ _ ∧ _ ∧ _ ∧ LCg.Off1 _ _).2.2.2.2.2.2.2.2.2.2.2.2.2 | exact (by assumption : _ ∧ _ ∧ _ ∧ _ ∧ _ ∧ _ ∧ _ ∧ _ ∧ _ ∧ _ ∧ _ ∧ _ ∧ _ ∧ _ ∧ LCg.Off1 _ _).2.2.2.2.2.2.2.2.2.2.2.2.2.2 | exact (by assumption : _ ∧ _ ∧ _ ∧ _ ∧ _ ∧ _ ∧ _ ∧ _ ∧ _ ∧ _ ∧ _ ∧ _ ∧ _ ∧ _ ∧ _ ∧ LCg.Off1 _ _).2.2.2.2.2.2.2.2.2.2.2.2.2.2.2 | exact (by assumption : _ ∧ _ ∧ _ ∧ _ ∧ _ ∧ _ ∧ _ ∧ _ ∧ _ ∧ _ ∧ _ ∧ _ ∧ _ ∧ _ ∧ _ ∧ _ ∧ LCg.Off1 _ _).2.2.2.2.2.2.2.2.2.2.2.2.2.2.2.2 | exact (by assumption : _ ∧ _ ∧ _ ∧ _ ∧ _ ∧ _ ∧ _ ∧ _ ∧ _ ∧ _ ∧ _ ∧ _ ∧ _ ∧ _ ∧ _ ∧ _ ∧ _ ∧ LCg.Off1 _ _).2.2.2.2.2.2.2.2.2.2.2.2.2.2.2.2.2 | exact (by assumption : _ ∧ _ ∧ _ ∧ _ ∧ _ ∧ _ ∧ _ ∧ _ ∧ _ ∧ _ ∧ _ ∧ _ ∧ _ ∧ _ ∧ _ ∧ _ ∧ _ ∧ _ ∧ LCg.Off1 _ _).2.2.2.2.2.2.2.2.2.2.2.2.2.2.2.2.2.2 | exact (by assumption : _ ∧ _ ∧ _ ∧ _ ∧ _ ∧ _ ∧ _ ∧ _ ∧ _ ∧ _ ∧ _ ∧ _ ∧ _ ∧ _ ∧ _ ∧ _ ∧ _ ∧ _ ∧ _ ∧ LCg.Off1 _ _).2.2.2.2.2.2.2.2.2.2.2.2.2.2.2.2.2.2.2 | exact (by assumption : _ ∧ _ ∧ _ ∧ _ ∧ _ ∧ _ ∧ _ ∧ _ ∧ _ ∧ _ ∧ _ ∧ _ ∧ _ ∧ _ ∧ _ ∧ _ ∧ _ ∧ _ ∧ _ ∧ _ ∧ LCg.Off1 _ _).2.2.2.2.2.2.2.2.2.2.2.2.2.2.2.2.2.2.2.2)
  k_with "lcg_off" => (first | assumption | exact (by assumption : _ ∧ LCg.Off3 _ _ _ _).2 | exact (by assumption : _ ∧ _ ∧ LCg.Off3 _ _ _ _).2.2 | exact (by assumption : _ ∧ _ ∧ _ ∧ LCg.Off3 _ _ _ _).2.2.2 | exact (by assumption : _ ∧ _ ∧ _ ∧ _ ∧ LCg.Off3 _ _ _ _).2.2.2.2 | exact (by assumption : _ ∧ _ ∧ _ ∧ _ ∧ _ ∧ LCg.Off3 _ _ _ _).2.2.2.2.2 | exact (by assumption : _ ∧ _ ∧ _ ∧ _ ∧ _ ∧ _ ∧ LCg.Off3 _ _ _ _).2.2.2.2.2.2 | exact (by assumption : _ ∧ _ ∧ _ ∧ _ ∧ _ ∧ _ ∧ _ ∧ LCg.Off3 _ _ _ _).2.2.2.2.2.2.2 | exact (by assumption : _ ∧ _ ∧ _ ∧ _ ∧ _ ∧ _ ∧ _ ∧ _ ∧ LCg.Off3 _ _ _ _).2.2.2.2.2.2.2.2 | exact (by assumption : _ ∧ _ ∧ _ ∧ _ ∧ _ ∧ _ ∧ _ ∧ _ ∧ _ ∧ LCg.Off3 _ _ _ _).2.2.2.2.2.2.2.2.2 | exact (by assumption : _ ∧ _ ∧ _ ∧ _ ∧ _ ∧ _ ∧ _ ∧ _ ∧ _ ∧ _ ∧ LCg.Off3 _ _ _ _).2.2.2.2.2.2.2.2.2.2 | exact (by assumption : _ ∧ _ ∧ _ ∧ _ ∧ _ ∧ _ ∧ _ ∧ _ ∧ _ ∧ _ ∧ _ ∧ LCg.Off3 _ _ _ _).2.2.2.2.2.2.2.2.2.2.2 | exact (by assumption : _ ∧ _ ∧ _ ∧ _ ∧ _ ∧ _ ∧ _ ∧ _ ∧ _ ∧ _ ∧ _ ∧ _ ∧ LCg.Off3 _ _ _ _).2.2.2.2.2.2.2.2.2.2.2.2 | exact (by assumption : _ ∧ _ ∧ _ ∧ _ ∧ _ ∧ _ ∧ _ ∧ _ ∧ _ ∧ _ ∧ _ ∧ _ ∧ _ ∧ LCg.Off3 _ _ _ _).2.2.2.2.2.2.2.2.2.2.2.2.2 | exact (by assumption : _ ∧ _ ∧ _ ∧ _ ∧ _ ∧ _ ∧ _ ∧ _ ∧ _ ∧ _ ∧ _ ∧ _ ∧ _ ∧ _ ∧ LCg.Off3 _ _ _ _).2.2.2.2.2.2.2.2.2.2.2.2.2.2 | exact (by assumption : _ ∧ _ ∧ _ ∧ _ ∧ _ ∧ _ ∧ _ ∧ _ ∧ _ ∧ _ ∧ _ ∧ _ ∧ _ ∧ _ ∧ _ ∧ LCg.Off3 _ _ _ _).2.2.2.2.2.2.2.2.2.2.2.2.2.2.2 | exact (by assumption : _ ∧ _ ∧ _ ∧ _ ∧ _ ∧ _ ∧ _ ∧ _ ∧ _ ∧ _ ∧ _ ∧ _ ∧ _ ∧ _ ∧ _ ∧ _ ∧ LCg.Off3 _ _ _ _).2.2.2.2.2.2.2.2.2.2.2.2.2.2.2.2 | exact (by assumption : _ ∧ _ ∧ _ ∧ _ ∧ _ ∧ _ ∧ _ ∧ _ ∧ _ ∧ _ ∧ _ ∧ _ ∧ _ ∧ _ ∧ _ ∧ _ ∧ _ ∧ LCg.Off3 _ _ _ _).2.2.2.2.2.2.2.2.2.2.2.2.2.2.2.2.2 | exact (by assumption : _ ∧ _ ∧ _ ∧ _ ∧ _ ∧ _ ∧ _ ∧ _ ∧ _ ∧ _ ∧ _ ∧ _ ∧ _ ∧ _ ∧ _ ∧ _ ∧ _ ∧ _ ∧ LCg.Off3 _ _ _ _).2.2.2.2.2.2.2.2.2.2.2.2.2.2.2.2.2.2 | exact (by assumption : _ ∧ _ ∧ _ ∧ _ ∧ _ ∧ _ ∧ _ ∧ _ ∧ _ ∧ _ ∧ _ ∧ _ ∧ _ ∧ _ ∧ _ ∧ _ ∧ _ ∧ _ ∧ _ ∧ LCg.Off3 _ _ _ _).2.2.2.2.2.2.2.2.2.2.2.2.2.2.2.2.2.2.2 | exact (by assumption : _ ∧ _ ∧ _ ∧ _ ∧ _ ∧ _ ∧ _ ∧ _ ∧ _ ∧ _ ∧ _ ∧ _ ∧ _ ∧ _ ∧ _ ∧ _ ∧ _ ∧ _ ∧ _ ∧ _ ∧ LCg.Off3 _ _ _ _).2.2.2.2.2.2.2.2.2.2.2.2.2.2.2.2.2.2.2.2)
  k_with "call ref" => ((k_here; (with_reducible show wpAny _ _ (call (Value.ref 137) [Value.ref _, Value.ref _]) _ _ _); k_dflt (refine owes_use' (by k_asm) (by k_asm) (by k_asm) (by k_asm) (by k_asm) (by first | exact rfl | assumption) (c_two_sums _ _ _ _ _ _ _ _ _ _ _ _ _ (by k_mem)) (by ktr_room) (by ktr_units) ?_); intro r' ws' c' h' tk' F' N' o1' hI'; (try k_sweep); (try simp only [LCg.Off1, and_true] at o1'); (try dsimp only); (try k_fold)))
  k_with "eval ListComp" => ((k_here; k_dflt (refine LCg.ListComp_U (F₀ := by k_asm) (by with_unfolding_all rfl) (by decide) (by rfl) (by decide) (by rfl) ?_)))
  k_with "CompSrc" => ((k_here; k_dflt (refine LCg.CompSrc.ledger (by rfl) (by k_asm) (by k_asm) (by k_mem) (by kcf_size) ?_; intro g'; (refine' kcf_list _ (by first | assumption | l_ints) (fun k' t' I' oI' C' oC' D' m' ys' h' tk' E' hk' hC' hx' F' N' off' ne' hMark' => ?_) ?_); (all_goals (try (simp only [LCg.Off3, and_true] at off'))); kcf_last)))
  k_with "CompEnd" => ((k_here; k_dflt (refine LCg.CompEnd.intro (by assumption) (by assumption) _ (fun _ hp => hp) (by lcg_off) (by lcg_src) ?_)))
  k_fill
  intro mean mg mb dp un gd cn cs av ccd cl outer A₀ base h₀ L m s Q E B F X N T hk hd hu hret
  replace N := news_dup (news_dup (news_dup N hl) (.tail _ hdx)) (.tail _ (.tail _ hx))
  clear hl hx hdx
  refine wpAny_call ?_
  k_dflt (walk_at "my enter")
  repeat' ((fail_if_success (with_reducible show Q _ _)); (fail_if_success (with_reducible show TurnK _ _ _ _ _ _ _ _ _ _ _ _)); first | (k_unfold; (try dsimp only)) | (k_end; wrow_close) | walk1 | (dsimp only; walk1) | (leave1; walk_say "STEP leave1"; try dsimp only) | fail "no step")
  all_goals exact hret _ _ _ _ _ (by assumption) (cb_drop (by assumption) (List.forall_mem_cons.mpr ⟨by k_dflt k_mem, by (intro p9 h9; repeat (first | exact h9 | refine List.Mem.tail _ ?_))⟩)) (by walk_at "my off") (by k_dflt assumption)
theorem c_two_inverse (w : World) (news : List (Addr × Obj)) (x dx l : Addr) (k : Nat) (a b c d : Int) (t1 t2 t3 t4 : Tok) (hx : (x, instObj 140 dx) ∈ news) (hdx : (dx, dictOf [] 0) ∈ news) (hl : (l, listOf [Value.int a t1, .int b t2, .int c t3, .int d t4].toArray k) ∈ news) :
    Owes 6 w 130 [.ref x, .ref l] news (fun h₀ L m s Q => LRet h₀ L m news s Q ((two a b c d).map (dsc · 1))) := by
  unfold Owes
  w_top off
  k_with "call ref" => ((k_here; (with_reducible show wpAny _ _ (call (Value.ref 21) [Value.int _ _, Value.int _ _]) _ _ _); k_dflt (refine owes_use' (by k_asm) (by k_asm) (by k_asm) (by k_asm) (by k_asm) (by first | exact rfl | assumption) (c_descaled _ _ _ _ _ _ (by first | decide | assumption | omega) (by first | decide | assumption | omega)) (by ktr_room) (by ktr_units) ?_); intro t' h' tk' F' N'; (try k_sweep); (try dsimp only); (try k_fold)))
  k_fill
  intro mean mg mb dp un gd cn cs av ccd cl outer A₀ base h₀ L m s Q E B F X N T hk hd hu hret
  replace N := news_dup (news_dup (news_dup N hl) (.tail _ hdx)) (.tail _ (.tail _ hx))
  clear hl hx hdx
  refine wpAny_call ?_
  k_dflt (walk_at "my enter")
  repeat' ((fail_if_success (with_reducible show Q _ _)); (fail_if_success (with_reducible show TurnK _ _ _ _ _ _ _ _ _ _ _ _)); first | (k_unfold; (try dsimp only)) | (k_end; wrow_close) | walk1 | (dsimp only; walk1) | (leave1; walk_say "STEP leave1"; try dsimp only) | fail "no step")
  all_goals exact hret _ _ _ _ _ (by assumption) (cb_drop (by assumption) (List.forall_mem_cons.mpr ⟨by k_dflt k_mem, by (intro p9 h9; repeat (first | exact h9 | refine List.Mem.tail _ ?_))⟩)) (by walk_at "my off") (by k_dflt assumption)
theorem c_forward8 (w : World) (news : List (Addr × Obj)) (l : Addr) (k : Nat) (vs : List Value) (ns : List Int) (u : Tok) (hl : (l, listOf vs.toArray k) ∈ news) (hi : IntsAre vs ns) (hn : ns.length = 64) (hb : AllB 65536 ns) :
    Owes 10 w 218 [.ref l, .int 8 u] news (fun h₀ L m s Q => LRet h₀ L m news s Q (fwd8 ns)) := by
  unfold Owes
  w_top off
  k_with_none
  k_with "my off" => (first | assumption | exact off1_lt (by tbn_lt) | exact (by assumption : _ ∧ LCg.Off1 _ _).2 | exact (by assumption : _ ∧ _ ∧ LCg.Off1 _ _).2.2 | exact (by assumption : _ ∧ _ ∧ _ ∧ LCg.Off1 _ _).2.2.2 | exact (by assumption : _ ∧ _ ∧ _ ∧ _ ∧ LCg.Off1 _ _).2.2.2.2 | exact (by assumption : _ ∧ _ ∧ _ ∧ _ ∧ _ ∧ LCg.Off1 _ _).2.2.2.2.2 | exact (by assumption : _ ∧ _ ∧ _ ∧ _ ∧ _ ∧ _ ∧ LCg.Off1 _ _).2.2.2.2.2.2 | exact (by assumption : _ ∧ _ ∧ _ ∧ _ ∧ _ ∧ _ ∧ _ ∧ LCg.Off1 _ _).2.2.2.2.2.2.2 | exact (by assumption : _ ∧ _ ∧ _ ∧ _ ∧ _ ∧ _ ∧ _ ∧ _ ∧ LCg.Off1 _ _).2.2.2.2.2.2.2.2 | exact (by assumption : _ ∧ _ ∧ _ ∧ _ ∧ _ ∧ _ ∧ _ ∧ _ ∧ _ ∧ LCg.Off1 _ _).2.2.2.2.2.2.2.2.2 | exact (by assumption : _ ∧ _ ∧ _ ∧ _ ∧ _ ∧ _ ∧ _ ∧ _ ∧ _ ∧ _ ∧ LCg.Off1 _ _).2.2.2.2.2.2.2.2.2.2 | exact (by assumption : _ ∧ _ ∧ _ ∧ _ ∧ _ ∧ _ ∧ _ ∧ _ ∧ _ ∧ _ ∧ _ ∧ LCg.Off1 _ _).2.2.2.2.2.2.2.2.2.2.2 | exact (by assumption : _ ∧ _ ∧ _ ∧ _ ∧ _ ∧ _ ∧ _ ∧ _ ∧ _ ∧ _ ∧ _ ∧ _ ∧ LCg.Off1 _ _).2.2.2.2.2.2.2.2.2.2.2.2 | exact (by assumption : _ ∧ _ ∧ _ ∧ _ ∧ _ ∧ _ ∧ _ ∧ _ ∧ _ ∧ _ ∧ _ ∧ _ ∧ _ ∧ LCg.Off1 _ _).2.2.2.2.2.2.2.2.2.2.2.2.2 | exact (by assumption : _ ∧ _ ∧ _ ∧ _ ∧ _ ∧ _ ∧ _ ∧ _ ∧ _ ∧ _ ∧ _ ∧ _ ∧ _ ∧ _ ∧ LCg.Off1 _ _).2.2.2.2.2.2.2.2.2.2.2.2.2.2 | exact (by assumption : _ ∧ _ ∧ _ ∧ _ ∧ _ ∧ _ ∧ _ ∧ _ ∧ _ ∧ _ ∧ _ ∧ _ ∧ _ ∧ _ ∧ _ ∧ LCg.Off1 _ _).2.2.2.2.2.2.2.2.2.2.2.2.2.2.2 | exact (by assumption : _ ∧ _ ∧ _ ∧ _ ∧ _ ∧ _ ∧ _ ∧ _ ∧ _ ∧ _ ∧ _ ∧ _ ∧ _ ∧ _ ∧ _ ∧ _ ∧ LCg.Off1 _ _).2.2.2.2.2.2.2.2.2.2.2.2.2.2.2.2 | exact (by assumption : _ ∧ _ ∧ _ ∧ _ ∧ _ ∧ _ ∧ _ ∧ _ ∧ _ ∧ _ ∧ _ ∧ _ ∧ _ ∧ _ ∧ _ ∧ _ ∧ _ ∧ LCg.Off1 _ _).2.2.2.2.2.2.2.2.2.2.2.2.2.2.2.2.2 | exact (by assumption : _ ∧ _ ∧ _ ∧ _ ∧ _ ∧ _ ∧ _ ∧ _ ∧ _ ∧ _ ∧ _ ∧ _ ∧ _ ∧ _ ∧ _ ∧ _ ∧ _ ∧ _ ∧ LCg.Off1 _ _).2.2.2.2.2.2.2.2.2.2.2.2.2.2.2.2.2.2 | exact (by assumption : _ ∧ _ ∧ _ ∧ _ ∧ _ ∧ _ ∧ _ ∧ _ ∧ _ ∧ _ ∧ _ ∧ _ ∧ _ ∧ _ ∧ _ ∧ _ ∧ _ ∧ _ ∧ _ ∧ LCg.Off1 _ _).2.2.2.2.2.2.2.2.2.2.2.2.2.2.2.2.2.2.2 | exact (by assumption : _ ∧ _ ∧ _ ∧ _ ∧ _ ∧ _ ∧ _ ∧ _ ∧ _ ∧ _ ∧ _ ∧ _ ∧ _ ∧ _ ∧ _ ∧ _ ∧ _ ∧ _ ∧ _ ∧ _ ∧ LCg.Off1 _ _).2.2.2.2.2.2.2.2.2.2.2.2.2.2.2.2.2.2.2.2)
  k_with "lcg_off" => (first | assumption | exact (by assumption : _ ∧ LCg.Off3 _ _ _ _).2 | exact (by assumption : _ ∧ _ ∧ LCg.Off3 _ _ _ _).2.2 | exact (by assumption : _ ∧ _ ∧ _ ∧ LCg.Off3 _ _ _ _).2.2.2 | exact (by assumption : _ ∧ _ ∧ _ ∧ _ ∧ LCg.Off3 _ _ _ _).2.2.2.2 | exact (by assumption : _ ∧ _ ∧ _ ∧ _ ∧ _ ∧ LCg.Off3 _ _ _ _).2.2.2.2.2 | exact (by assumption : _ ∧ _ ∧ _ ∧ _ ∧ _ ∧ _ ∧ LCg.Off3 _ _ _ _).2.2.2.2.2.2 | exact (by assumption : _ ∧ _ ∧ _ ∧ _ ∧ _ ∧ _ ∧ _ ∧ LCg.Off3 _ _ _ _).2.2.2.2.2.2.2 | exact (by assumption : _ ∧ _ ∧ _ ∧ _ ∧ _ ∧ _ ∧ _ ∧ _ ∧ LCg.Off3 _ _ _ _).2.2.2.2.2.2.2.2 | exact (by assumption : _ ∧ _ ∧ _ ∧ _ ∧ _ ∧ _ ∧ _ ∧ _ ∧ _ ∧ LCg.Off3 _ _ _ _).2.2.2.2.2.2.2.2.2 | exact (by assumption : _ ∧ _ ∧ _ ∧ _ ∧ _ ∧ _ ∧ _ ∧ _ ∧ _ ∧ _ ∧ LCg.Off3 _ _ _ _).2.2.2.2.2.2.2.2.2.2 | exact (by assumption : _ ∧ _ ∧ _ ∧ _ ∧ _ ∧ _ ∧ _ ∧ _ ∧ _ ∧ _ ∧ _ ∧ LCg.Off3 _ _ _ _).2.2.2.2.2.2.2.2.2.2.2 | exact (by assumption : _ ∧ _ ∧ _ ∧ _ ∧ _ ∧ _ ∧ _ ∧ _ ∧ _ ∧ _ ∧ _ ∧ _ ∧ LCg.Off3 _ _ _ _).2.2.2.2.2.2.2.2.2.2.2.2 | exact (by assumption : _ ∧ _ ∧ _ ∧ _ ∧ _ ∧ _ ∧ _ ∧ _ ∧ _ ∧ _ ∧ _ ∧ _ ∧ _ ∧ LCg.Off3 _ _ _ _).2.2.2.2.2.2.2.2.2.2.2.2.2 | exact (by assumption : _ ∧ _ ∧ _ ∧ _ ∧ _ ∧ _ ∧ _ ∧ _ ∧ _ ∧ _ ∧ _ ∧ _ ∧ _ ∧ _ ∧ LCg.Off3 _ _ _ _).2.2.2.2.2.2.2.2.2.2.2.2.2.2 | exact (by assumption : _ ∧ _ ∧ _ ∧ _ ∧ _ ∧ _ ∧ _ ∧ _ ∧ _ ∧ _ ∧ _ ∧ _ ∧ _ ∧ _ ∧ _ ∧ LCg.Off3 _ _ _ _).2.2.2.2.2.2.2.2.2.2.2.2.2.2.2 | exact (by assumption : _ ∧ _ ∧ _ ∧ _ ∧ _ ∧ _ ∧ _ ∧ _ ∧ _ ∧ _ ∧ _ ∧ _ ∧ _ ∧ _ ∧ _ ∧ _ ∧ LCg.Off3 _ _ _ _).2.2.2.2.2.2.2.2.2.2.2.2.2.2.2.2 | exact (by assumption : _ ∧ _ ∧ _ ∧ _ ∧ _ ∧ _ ∧ _ ∧ _ ∧ _ ∧ _ ∧ _ ∧ _ ∧ _ ∧ _ ∧ _ ∧ _ ∧ _ ∧ LCg.Off3 _ _ _ _).2.2.2.2.2.2.2.2.2.2.2.2.2.2.2.2.2 | exact (by assumption : _ ∧ _ ∧ _ ∧ _ ∧ _ ∧ _ ∧ _ ∧ _ ∧ _ ∧ _ ∧ _ ∧ _ ∧ _ ∧ _ ∧ _ ∧ _ ∧ _ ∧ _ ∧ LCg.Off3 _ _ _ _).2.2.2.2.2.2.2.2.2.2.2.2.2.2.2.2.2.2 | exact (by assumption : _ ∧ _ ∧ _ ∧ _ ∧ _ ∧ _ ∧ _ ∧ _ ∧ _ ∧ _ ∧ _ ∧ _ ∧ _ ∧ _ ∧ _ ∧ _ ∧ _ ∧ _ ∧ _ ∧ LCg.Off3 _ _ _ _).2.2.2.2.2.2.2.2.2.2.2.2.2.2.2.2.2.2.2 | exact (by assumption : _ ∧ _ ∧ _ ∧ _ ∧ _ ∧ _ ∧ _ ∧ _ ∧ _ ∧ _ ∧ _ ∧ _ ∧ _ ∧ _ ∧ _ ∧ _ ∧ _ ∧ _ ∧ _ ∧ _ ∧ LCg.Off3 _ _ _ _).2.2.2.2.2.2.2.2.2.2.2.2.2.2.2.2.2.2.2.2)
  k_with "call ref" => ((k_here; (with_reducible show wpAny _ _ (call (Value.ref 73) [Value.ref _, Value.ref _]) _ _ _); k_dflt (refine owes_use' (by k_asm) (by k_asm) (by k_asm) (by k_asm) (by k_asm) (by first | exact rfl | assumption) (c_islow_forward _ _ _ _ _ _ _ (by k_mem) (by assumption) (by assumption) (by assumption)) (by ktr_room) (by ktr_units) ?_); intro r' ws' c' h' tk' F' N' o1' hI'; (try k_sweep); (try simp only [LCg.Off1, and_true] at o1'); (try dsimp only); (try k_fold)))
  k_with "call ref" => ((k_here; (with_reducible show wpAny _ _ (call (Value.ref 80) [Value.ref _, Value.ref _]) _ _ _); k_dflt (refine owes_use' (by k_asm) (by k_asm) (by k_asm) (by k_asm) (by k_asm) (by first | exact rfl | assumption) (c_islow_inverse _ _ _ _ _ _ _ (by k_mem) (by assumption) (by assumption) (by assumption)) (by ktr_room) (by ktr_units) ?_); intro r' ws' c' h' tk' F' N' o1' hI'; (try k_sweep); (try simp only [LCg.Off1, and_true] at o1'); (try dsimp only); (try k_fold)))
  k_with "call ref" => ((k_here; (with_reducible show wpAny _ _ (call (Value.ref 101) [Value.ref _, Value.ref _]) _ _ _); k_dflt (refine owes_use' (by k_asm) (by k_asm) (by k_asm) (by k_asm) (by k_asm) (by first | exact rfl | assumption) (c_four_forward _ _ _ _ _ _ _ (by k_mem) (by assumption) (by assumption) (by assumption)) (by ktr_room) (by ktr_units) ?_); intro r' ws' c' h' tk' F' N' o1' hI'; (try k_sweep); (try simp only [LCg.Off1, and_true] at o1'); (try dsimp only); (try k_fold)))
  k_with "call ref" => ((k_here; (with_reducible show wpAny _ _ (call (Value.ref 106) [Value.ref _, Value.ref _]) _ _ _); k_dflt (refine owes_use' (by k_asm) (by k_asm) (by k_asm) (by k_asm) (by k_asm) (by first | exact rfl | assumption) (c_four_inverse _ _ _ _ _ _ _ (by k_mem) (by assumption) (by assumption) (by assumption)) (by ktr_room) (by ktr_units) ?_); intro r' ws' c' h' tk' F' N' o1' hI'; (try k_sweep); (try simp only [LCg.Off1, and_true] at o1'); (try dsimp only); (try k_fold)))
  k_with "call ref" => ((k_here; (with_reducible show wpAny _ _ (call (Value.ref 125) [Value.ref _, Value.ref _]) _ _ _); k_dflt (refine owes_use' (by k_asm) (by k_asm) (by k_asm) (by k_asm) (by k_asm) (by first | exact rfl | assumption) (c_two_forward _ _ _ _ _ _ _ _ _ _ _ _ _ _ (by k_mem) (by k_mem) (by k_mem)) (by ktr_room) (by ktr_units) ?_); intro r' ws' c' h' tk' F' N' o1' hI'; (try k_sweep); (try simp only [LCg.Off1, and_true] at o1'); (try dsimp only); (try k_fold)))
  k_with "call ref" => ((k_here; (with_reducible show wpAny _ _ (call (Value.ref 130) [Value.ref _, Value.ref _]) _ _ _); k_dflt (refine owes_use' (by k_asm) (by k_asm) (by k_asm) (by k_asm) (by k_asm) (by first | exact rfl | assumption) (c_two_inverse _ _ _ _ _ _ _ _ _ _ _ _ _ _ (by k_mem) (by k_mem) (by k_mem)) (by ktr_room) (by ktr_units) ?_); intro r' ws' c' h' tk' F' N' o1' hI'; (try k_sweep); (try simp only [LCg.Off1, and_true] at o1'); (try dsimp only); (try k_fold)))
  k_with "call ref" => ((k_here; (with_reducible show wpAny _ _ (call (Value.ref 158) [Value.ref _, Value.ref _]) _ _ _); k_dflt (refine owes_use' (by k_asm) (by k_asm) (by k_asm) (by k_asm) (by k_asm) (by first | exact rfl | assumption) (c_one_forward _ _ _ _ _ _ _ (by k_mem)) (by ktr_room) (by ktr_units) ?_); intro r' ws' c' h' tk' F' N' o1' hI'; (try k_sweep); (try simp only [LCg.Off1, and_true] at o1'); (try dsimp only); (try k_fold)))
  k_with "call ref" => ((k_here; (with_reducible show wpAny _ _ (call (Value.ref 165) [Value.ref _, Value.ref _]) _ _ _); k_dflt (refine owes_use' (by k_asm) (by k_asm) (by k_asm) (by k_asm) (by k_asm) (by first | exact rfl | assumption) (c_one_inverse _ _ _ _ _ _ _ (by k_mem)) (by ktr_room) (by ktr_units) ?_); intro r' ws' c' h' tk' F' N' o1' hI'; (try k_sweep); (try simp only [LCg.Off1, and_true] at o1'); (try dsimp only); (try k_fold)))
  k_with "call ref" => ((k_here; (with_reducible show wpAny _ _ (call (Value.ref 211) [Value.int _ _]) _ _ _); k_dflt (refine wpAny_call ?_; walk_at "my enter")))
  k_fill
  intro mean mg mb dp un gd cn cs av ccd cl outer A₀ base h₀ L m s Q E B F X N T hk hd hu hret
  replace N := news_dup N hl
  clear hl
  refine wpAny_call ?_
  k_dflt (walk_at "my enter")
  repeat' ((fail_if_success (with_reducible show Q _ _)); (fail_if_success (with_reducible show TurnK _ _ _ _ _ _ _ _ _ _ _ _)); first | (k_unfold; (try dsimp only)) | (k_end; wrow_close) | walk1 | (dsimp only; walk1) | (leave1; walk_say "STEP leave1"; try dsimp only) | fail "no step")
  all_goals exact hret _ _ _ _ _ (by assumption) (cb_drop (by assumption) (List.forall_mem_cons.mpr ⟨by k_dflt k_mem, by (intro p9 h9; repeat (first | exact h9 | refine List.Mem.tail _ ?_))⟩)) (by walk_at "my off") (by assumption)
theorem c_inverse8 (w : World) (news : List (Addr × Obj)) (l : Addr) (k : Nat) (vs : List Value) (ns : List Int) (u : Tok) (hl : (l, listOf vs.toArray k) ∈ news) (hi : IntsAre vs ns) (hn : ns.length = 64) (hb : AllB (2 ^ 28) ns) :
    Owes 10 w 225 [.ref l, .int 8 u] news (fun h₀ L m s Q => LRet h₀ L m news s Q (inv8 ns)) := by
  unfold Owes
  w_top off
  k_fill
  intro mean mg mb dp un gd cn cs av ccd cl outer A₀ base h₀ L m s Q E B F X N T hk hd hu hret
  replace N := news_dup N hl
  clear hl
  refine wpAny_call ?_
  k_dflt (walk_at "my enter")
  repeat' ((fail_if_success (with_reducible show Q _ _)); (fail_if_success (with_reducible show TurnK _ _ _ _ _ _ _ _ _ _ _ _)); first | (k_unfold; (try dsimp only)) | (k_end; wrow_close) | walk1 | (dsimp only; walk1) | (leave1; walk_say "STEP leave1"; try dsimp only) | fail "no step")
  all_goals exact hret _ _ _ _ _ (by assumption) (cb_drop (by assumption) (List.forall_mem_cons.mpr ⟨by k_dflt k_mem, by (intro p9 h9; repeat (first | exact h9 | refine List.Mem.tail _ ?_))⟩)) (by walk_at "my off") (by assumption)
theorem c_forward4 (w : World) (news : List (Addr × Obj)) (l : Addr) (k : Nat) (vs : List Value) (ns : List Int) (u : Tok) (hl : (l, listOf vs.toArray k) ∈ news) (hi : IntsAre vs ns) (hn : ns.length = 16) (hb : AllB 65536 ns) :
    Owes 10 w 218 [.ref l, .int 4 u] news (fun h₀ L m s Q => LRet h₀ L m news s Q (fwd4 ns)) := by
  unfold Owes
  w_top off
  k_fill
  intro mean mg mb dp un gd cn cs av ccd cl outer A₀ base h₀ L m s Q E B F X N T hk hd hu hret
  replace N := news_dup N hl
  clear hl
  refine wpAny_call ?_
  k_dflt (walk_at "my enter")
  repeat' ((fail_if_success (with_reducible show Q _ _)); (fail_if_success (with_reducible show TurnK _ _ _ _ _ _ _ _ _ _ _ _)); first | (k_unfold; (try dsimp only)) | (k_end; wrow_close) | walk1 | (dsimp only; walk1) | (leave1; walk_say "STEP leave1"; try dsimp only) | fail "no step")
  all_goals exact hret _ _ _ _ _ (by assumption) (cb_drop (by assumption) (List.forall_mem_cons.mpr ⟨by k_dflt k_mem, by (intro p9 h9; repeat (first | exact h9 | refine List.Mem.tail _ ?_))⟩)) (by walk_at "my off") (by assumption)
theorem c_inverse4 (w : World) (news : List (Addr × Obj)) (l : Addr) (k : Nat) (vs : List Value) (ns : List Int) (u : Tok) (hl : (l, listOf vs.toArray k) ∈ news) (hi : IntsAre vs ns) (hn : ns.length = 16) (hb : AllB (2 ^ 28) ns) :
    Owes 10 w 225 [.ref l, .int 4 u] news (fun h₀ L m s Q => LRet h₀ L m news s Q (inv4 ns)) := by
  unfold Owes
  w_top off
  k_fill
  intro mean mg mb dp un gd cn cs av ccd cl outer A₀ base h₀ L m s Q E B F X N T hk hd hu hret
  replace N := news_dup N hl
  clear hl
  refine wpAny_call ?_
  k_dflt (walk_at "my enter")
  repeat' ((fail_if_success (with_reducible show Q _ _)); (fail_if_success (with_reducible show TurnK _ _ _ _ _ _ _ _ _ _ _ _)); first | (k_unfold; (try dsimp only)) | (k_end; wrow_close) | walk1 | (dsimp only; walk1) | (leave1; walk_say "STEP leave1"; try dsimp only) | fail "no step")
  all_goals exact hret _ _ _ _ _ (by assumption) (cb_drop (by assumption) (List.forall_mem_cons.mpr ⟨by k_dflt k_mem, by (intro p9 h9; repeat (first | exact h9 | refine List.Mem.tail _ ?_))⟩)) (by walk_at "my off") (by assumption)
theorem c_forward2 (w : World) (news : List (Addr × Obj)) (l : Addr) (k : Nat) (a b c d : Int) (t1 t2 t3 t4 : Tok) (u : Tok) (hl : (l, listOf [Value.int a t1, .int b t2, .int c t3, .int d t4].toArray k) ∈ news) :
    Owes 10 w 218 [.ref l, .int 2 u] news (fun h₀ L m s Q => LRet h₀ L m news s Q ((two a b c d).map (· * 4))) := by
  unfold Owes
  w_top off
  k_fill
  intro mean mg mb dp un gd cn cs av ccd cl outer A₀ base h₀ L m s Q E B F X N T hk hd hu hret
  replace N := news_dup N hl
  clear hl
  refine wpAny_call ?_
  k_dflt (walk_at "my enter")
  repeat' ((fail_if_success (with_reducible show Q _ _)); (fail_if_success (with_reducible show TurnK _ _ _ _ _ _ _ _ _ _ _ _)); first | (k_unfold; (try dsimp only)) | (k_end; wrow_close) | walk1 | (dsimp only; walk1) | (leave1; walk_say "STEP leave1"; try dsimp only) | fail "no step")
  all_goals exact hret _ _ _ _ _ (by assumption) (cb_drop (by assumption) (List.forall_mem_cons.mpr ⟨by k_dflt k_mem, by (intro p9 h9; repeat (first | exact h9 | refine List.Mem.tail _ ?_))⟩)) (by walk_at "my off") (by assumption)
theorem c_inverse2 (w : World) (news : List (Addr × Obj)) (l : Addr) (k : Nat) (a b c d : Int) (t1 t2 t3 t4 : Tok) (u : Tok) (hl : (l, listOf [Value.int a t1, .int b t2, .int c t3, .int d t4].toArray k) ∈ news) :
    Owes 10 w 225 [.ref l, .int 2 u] news (fun h₀ L m s Q => LRet h₀ L m news s Q ((two a b c d).map (dsc · 1))) := by
  unfold Owes
  w_top off
  k_fill
  intro mean mg mb dp un gd cn cs av ccd cl outer A₀ base h₀ L m s Q E B F X N T hk hd hu hret
  replace N := news_dup N hl
  clear hl
  refine wpAny_call ?_
  k_dflt (walk_at "my enter")
  repeat' ((fail_if_success (with_reducible show Q _ _)); (fail_if_success (with_reducible show TurnK _ _ _ _ _ _ _ _ _ _ _ _)); first | (k_unfold; (try dsimp only)) | (k_end; wrow_close) | walk1 | (dsimp only; walk1) | (leave1; walk_say "STEP leave1"; try dsimp only) | fail "no step")
  all_goals exact hret _ _ _ _ _ (by assumption) (cb_drop (by assumption) (List.forall_mem_cons.mpr ⟨by k_dflt k_mem, by (intro p9 h9; repeat (first | exact h9 | refine List.Mem.tail _ ?_))⟩)) (by walk_at "my off") (by assumption)
theorem c_forward1 (w : World) (news : List (Addr × Obj)) (l : Addr) (k : Nat) (a : Int) (t1 : Tok) (u : Tok) (hl : (l, listOf [Value.int a t1].toArray k) ∈ news) :
    Owes 10 w 218 [.ref l, .int 1 u] news (fun h₀ L m s Q => LRet h₀ L m news s Q ([a * 8])) := by
  unfold Owes
  w_top off
  k_fill
  intro mean mg mb dp un gd cn cs av ccd cl outer A₀ base h₀ L m s Q E B F X N T hk hd hu hret
  replace N := news_dup N hl
  clear hl
  refine wpAny_call ?_
  k_dflt (walk_at "my enter")
  repeat' ((fail_if_success (with_reducible show Q _ _)); (fail_if_success (with_reducible show TurnK _ _ _ _ _ _ _ _ _ _ _ _)); first | (k_unfold; (try dsimp only)) | (k_end; wrow_close) | walk1 | (dsimp only; walk1) | (leave1; walk_say "STEP leave1"; try dsimp only) | fail "no step")
  all_goals exact hret _ _ _ _ _ (by assumption) (cb_drop (by assumption) (List.forall_mem_cons.mpr ⟨by k_dflt k_mem, by (intro p9 h9; repeat (first | exact h9 | refine List.Mem.tail _ ?_))⟩)) (by walk_at "my off") (by assumption)
theorem c_inverse1 (w : World) (news : List (Addr × Obj)) (l : Addr) (k : Nat) (a : Int) (t1 : Tok) (u : Tok) (hl : (l, listOf [Value.int a t1].toArray k) ∈ news) :
    Owes 10 w 225 [.ref l, .int 1 u] news (fun h₀ L m s Q => LRet h₀ L m news s Q ([a])) := by
  unfold Owes
  w_top off
  k_fill
  intro mean mg mb dp un gd cn cs av ccd cl outer A₀ base h₀ L m s Q E B F X N T hk hd hu hret
  replace N := news_dup N hl
  clear hl
  refine wpAny_call ?_
  k_dflt (walk_at "my enter")
  repeat' ((fail_if_success (with_reducible show Q _ _)); (fail_if_success (with_reducible show TurnK _ _ _ _ _ _ _ _ _ _ _ _)); first | (k_unfold; (try dsimp only)) | (k_end; wrow_close) | walk1 | (dsimp only; walk1) | (leave1; walk_say "STEP leave1"; try dsimp only) | fail "no step")
  all_goals exact hret _ _ _ _ _ (by assumption) (cb_drop (by assumption) (List.forall_mem_cons.mpr ⟨by k_dflt k_mem, by (intro p9 h9; repeat (first | exact h9 | refine List.Mem.tail _ ?_))⟩)) (by walk_at "my off") (by assumption)
theorem upd_mem {d : Addr} {o o' : Obj} : ∀ {l l' : List (Addr × Obj)}, Upd d o o' l l' → ∀ p ∈ l', p = (d, o') ∨ (p ∈ l ∧ p.1 ≠ d)
  | _, _, .head h, p, hp => (List.mem_cons.mp hp).elim .inl fun hp => .inr ⟨.tail _ hp, h p hp⟩
  | _, _, .tail h r, p, hp => (List.mem_cons.mp hp).elim (fun e => .inr ⟨e ▸ .head _, e ▸ h⟩) fun hp => (upd_mem r p hp).imp id fun q => ⟨.tail _ q.1, q.2⟩
theorem upd_has {d : Addr} {o o' : Obj} : ∀ {l l' : List (Addr × Obj)}, Upd d o o' l l' → (d, o) ∈ l
  | _, _, .head _ => .head _
  | _, _, .tail _ r => .tail _ (upd_has r)
/-- the rest of a ledger beside d -/
def besides (d : Addr) (l : List (Addr × Obj)) : List (Addr × Obj) := l.filter fun p => p.1 != d
theorem besides_off (d : Addr) (l : List (Addr × Obj)) : LCg.Off1 d (besides d l) := off1_of fun p hp => by
  have := (List.mem_filter.mp hp).2
  simpa using this
theorem news_besides {h₀ h : Heap} {L d : Addr} {o : Obj} {l : List (Addr × Obj)} (N : News h₀ L h l) (hd : (d, o) ∈ l) : News h₀ L h ((d, o) :: besides d l) := fun p hp => (List.mem_cons.mp hp).elim (fun e => e ▸ N _ hd) fun hp => N p (List.mem_filter.mp hp).1
theorem news_upd' {h₀ h : Heap} {L d : Addr} {o o' : Obj} {l l' : List (Addr × Obj)} (N : News h₀ L h ((d, o') :: besides d l)) (U : Upd d o o' l l') : News h₀ L h l' := fun p hp => (upd_mem U p hp).elim (fun e => e ▸ N _ (.head _)) fun q => N p (.tail _ (List.mem_filter.mpr ⟨q.1, by simpa using q.2⟩))

/-- what a draw owes: a number below top; the source is a source again -/
abbrev SRet (h₀ : Heap) (L : Addr) (m : Str → Option Value) (nf : Obj → List (Addr × Obj)) (s : Shared) (Q : Value → Shared → Prop) (P : Int → Prop) : Prop :=
  ∀ (r : Int) (tr : Tok) (a' b' : Int) (ta' tb' : Tok) (c' : Nat) (h' : Heap) (tk' : Nat), P r → 0 ≤ a' → 0 ≤ b' → b' < 2147483647 → Fr h₀ L h' m → News h₀ L h' (nf (listOf [Value.int a' ta', .int b' tb'].toArray c')) → Q (.int r tr) { s with heap := h', toks := tk' }
theorem sq_fit (x : Int) : Builtin.Int.intBits (x.fmod 2147483647) ≤ 64 := by
  have h1 := fmod_lo x (n := 2147483647) (by decide)
  have h2 := fmod_hi x (n := 2147483647) (by decide)
  exact intBits_le_64 (by omega) (by omega)
theorem c_take (w : World) (news : List (Addr × Obj)) (nf : Obj → List (Addr × Obj)) (ls : Addr) (c : Nat) (a b top : Int) (ta tb t : Tok) (U : ∀ o', Upd ls (listOf [Value.int a ta, .int b tb].toArray c) o' news (nf o')) (ht : 1 ≤ top) (ht2 : top ≤ 4096) (ha : 0 ≤ a) (hb : 0 ≤ b) (hb2 : b < 2147483647) :
    Owes 3 w 239 [.ref ls, .int top t] news (fun h₀ L m s Q => SRet h₀ L m nf s Q (fun r => 0 ≤ r ∧ r < top)) := by
  unfold Owes
  w_top off
  k_with_none
  k_with "my off" => (first | assumption | exact off1_lt (by tbn_lt) | exact (by assumption : _ ∧ LCg.Off1 _ _).2 | exact (by assumption : _ ∧ _ ∧ LCg.Off1 _ _).2.2 | exact (by assumption : _ ∧ _ ∧ _ ∧ LCg.Off1 _ _).2.2.2 | exact (by assumption : _ ∧ _ ∧ _ ∧ _ ∧ LCg.Off1 _ _).2.2.2.2 | exact (by assumption : _ ∧ _ ∧ _ ∧ _ ∧ _ ∧ LCg.Off1 _ _).2.2.2.2.2 | exact (by assumption : _ ∧ _ ∧ _ ∧ _ ∧ _ ∧ _ ∧ LCg.Off1 _ _).2.2.2.2.2.2 | exact (by assumption : _ ∧ _ ∧ _ ∧ _ ∧ _ ∧ _ ∧ _ ∧ LCg.Off1 _ _).2.2.2.2.2.2.2 | exact (by assumption : _ ∧ _ ∧ _ ∧ _ ∧ _ ∧ _ ∧ _ ∧ _ ∧ LCg.Off1 _ _).2.2.2.2.2.2.2.2 | exact (by assumption : _ ∧ _ ∧ _ ∧ _ ∧ _ ∧ _ ∧ _ ∧ _ ∧ _ ∧ LCg.Off1 _ _).2.2.2.2.2.2.2.2.2 | exact (by assumption : _ ∧ _ ∧ _ ∧ _ ∧ _ ∧ _ ∧ _ ∧ _ ∧ _ ∧ _ ∧ LCg.Off1 _ _).2.2.2.2.2.2.2.2.2.2 | exact (by assumption : _ ∧ _ ∧ _ ∧ _ ∧ _ ∧ _ ∧ _ ∧ _ ∧ _ ∧ _ ∧ _ ∧ LCg.Off1 _ _).2.2.2.2.2.2.2.2.2.2.2 | exact (by assumption : _ ∧ _ ∧ _ ∧ _ ∧ _ ∧ _ ∧ _ ∧ _ ∧ _ ∧ _ ∧ _ ∧ _ ∧ LCg.Off1 _ _).2.2.2.2.2.2.2.2.2.2.2.2 | exact (by assumption : _ ∧ _ ∧ _ ∧ _ ∧ _ ∧ _ ∧ _ ∧ _ ∧ _ ∧ _ ∧ _ ∧ _ ∧ _ ∧ LCg.Off1 _ _).2.2.2.2.2.2.2.2.2.2.2.2.2 | exact (by assumption : _ ∧ _ ∧ _ ∧ _ ∧ _ ∧ _ ∧ _ ∧ _ ∧ _ ∧ _ ∧ _ ∧ _ ∧ _ ∧ _ ∧ LCg.Off1 _ _).2.2.2.2.2.2.2.2.2.2.2.2.2.2 | exact (by assumption : _ ∧ _ ∧ _ ∧ _ ∧ _ ∧ _ ∧ _ ∧ _ ∧ _ ∧ _ ∧ _ ∧ _ ∧ _ ∧ _ ∧ _ ∧ LCg.Off1 _ _).2.2.2.2.2.2.2.2.2.2.2.2.2.2.2 | exact (by assumption : _ ∧ _ ∧ _ ∧ _ ∧ _ ∧ _ ∧ _ ∧ _ ∧ _ ∧ _ ∧ _ ∧ _ ∧ _ ∧ _ ∧ _ ∧ _ ∧ LCg.Off1 _ _).2.2.2.2.2.2.2.2.2.2.2.2.2.2.2.2 | exact (by assumption : _ ∧ _ ∧ _ ∧ _ ∧ _ ∧ _ ∧ _ ∧ _ ∧ _ ∧ _ ∧ _ ∧ _ ∧ _ ∧ _ ∧ _ ∧ _ ∧ _ ∧ LCg.Off1 _ _).2.2.2.2.2.2.2.2.2.2.2.2.2.2.2.2.2 | exact (by assumption : _ ∧ _ ∧ _ ∧ _ ∧ _ ∧ _ ∧ _ ∧ _ ∧ _ ∧ _ ∧ _ ∧ _ ∧ _ ∧ _ ∧ _ ∧ _ ∧ _ ∧ _ ∧ LCg.Off1 _ _).2.2.2.2.2.2.2.2.2.2.2.2.2.2.2.2.2.2 | exact (by assumption : _ ∧ _ ∧ _ ∧ _ ∧ _ ∧ _ ∧ _ ∧ _ ∧ _ ∧ _ ∧ _ ∧ _ ∧ _ ∧ _ ∧ _ ∧ _ ∧ _ ∧ _ ∧ _ ∧ LCg.Off1 _ _).2.2.2.2.2.2.2.2.2.2.2.2.2.2.2.2.2.2.2 | exact (by assumption : _ ∧ _ ∧ _ ∧ _ ∧ _ ∧ _ ∧ _ ∧ _ ∧ _ ∧ _ ∧ _ ∧ _ ∧ _ ∧ _ ∧ _ ∧ _ ∧ _ ∧ _ ∧ _ ∧ _ ∧ LCg.Off1 _ _).2.2.2.2.2.2.2.2.2.2.2.2.2.2.2.2.2.2.2.2)
  k_with "lcg_off" => (first | assumption | exact (by assumption : _ ∧ LCg.Off3 _ _ _ _).2 | exact (by assumption : _ ∧ _ ∧ LCg.Off3 _ _ _ _).2.2 | exact (by assumption : _ ∧ _ ∧ _ ∧ LCg.Off3 _ _ _ _).2.2.2 | exact (by assumption : _ ∧ _ ∧ _ ∧ _ ∧ LCg.Off3 _ _ _ _).2.2.2.2 | exact (by assumption : _ ∧ _ ∧ _ ∧ _ ∧ _ ∧ LCg.Off3 _ _ _ _).2.2.2.2.2 | exact (by assumption : _ ∧ _ ∧ _ ∧ _ ∧ _ ∧ _ ∧ LCg.Off3 _ _ _ _).2.2.2.2.2.2 | exact (by assumption : _ ∧ _ ∧ _ ∧ _ ∧ _ ∧ _ ∧ _ ∧ LCg.Off3 _ _ _ _).2.2.2.2.2.2.2 | exact (by assumption : _ ∧ _ ∧ _ ∧ _ ∧ _ ∧ _ ∧ _ ∧ _ ∧ LCg.Off3 _ _ _ _).2.2.2.2.2.2.2.2 | exact (by assumption : _ ∧ _ ∧ _ ∧ _ ∧ _ ∧ _ ∧ _ ∧ _ ∧ _ ∧ LCg.Off3 _ _ _ _).2.2.2.2.2.2.2.2.2 | exact (by assumption : _ ∧ _ ∧ _ ∧ _ ∧ _ ∧ _ ∧ _ ∧ _ ∧ _ ∧ _ ∧ LCg.Off3 _ _ _ _).2.2.2.2.2.2.2.2.2.2 | exact (by assumption : _ ∧ _ ∧ _ ∧ _ ∧ _ ∧ _ ∧ _ ∧ _ ∧ _ ∧ _ ∧ _ ∧ LCg.Off3 _ _ _ _).2.2.2.2.2.2.2.2.2.2.2 | exact (by assumption : _ ∧ _ ∧ _ ∧ _ ∧ _ ∧ _ ∧ _ ∧ _ ∧ _ ∧ _ ∧ _ ∧ _ ∧ LCg.Off3 _ _ _ _).2.2.2.2.2.2.2.2.2.2.2.2 | exact (by assumption : _ ∧ _ ∧ _ ∧ _ ∧ _ ∧ _ ∧ _ ∧ _ ∧ _ ∧ _ ∧ _ ∧ _ ∧ _ ∧ LCg.Off3 _ _ _ _).2.2.2.2.2.2.2.2.2.2.2.2.2 | exact (by assumption : _ ∧ _ ∧ _ ∧ _ ∧ _ ∧ _ ∧ _ ∧ _ ∧ _ ∧ _ ∧ _ ∧ _ ∧ _ ∧ _ ∧ LCg.Off3 _ _ _ _).2.2.2.2.2.2.2.2.2.2.2.2.2.2 | exact (by assumption : _ ∧ _ ∧ _ ∧ _ ∧ _ ∧ _ ∧ _ ∧ _ ∧ _ ∧ _ ∧ _ ∧ _ ∧ _ ∧ _ ∧ _ ∧ LCg.Off3 _ _ _ _).2.2.2.2.2.2.2.2.2.2.2.2.2.2.2 | exact (by assumption : _ ∧ _ ∧ _ ∧ _ ∧ _ ∧ _ ∧ _ ∧ _ ∧ _ ∧ _ ∧ _ ∧ _ ∧ _ ∧ _ ∧ _ ∧ _ ∧ LCg.Off3 _ _ _ _).2.2.2.2.2.2.2.2.2.2.2.2.2.2.2.2 | exact (by assumption : _ ∧ _ ∧ _ ∧ _ ∧ _ ∧ _ ∧ _ ∧ _ ∧ _ ∧ _ ∧ _ ∧ _ ∧ _ ∧ _ ∧ _ ∧ _ ∧ _ ∧ LCg.Off3 _ _ _ _).2.2.2.2.2.2.2.2.2.2.2.2.2.2.2.2.2 | exact (by assumption : _ ∧ _ ∧ _ ∧ _ ∧ _ ∧ _ ∧ _ ∧ _ ∧ _ ∧ _ ∧ _ ∧ _ ∧ _ ∧ _ ∧ _ ∧ _ ∧ _ ∧ _ ∧ LCg.Off3 _ _ _ _).2.2.2.2.2.2.2.2.2.2.2.2.2.2.2.2.2.2 | exact (by assumption : _ ∧ _ ∧ _ ∧ _ ∧ _ ∧ _ ∧ _ ∧ _ ∧ _ ∧ _ ∧ _ ∧ _ ∧ _ ∧ _ ∧ _ ∧ _ ∧ _ ∧ _ ∧ _ ∧ LCg.Off3 _ _ _ _).2.2.2.2.2.2.2.2.2.2.2.2.2.2.2.2.2.2.2 | exact (by assumption : _ ∧ _ ∧ _ ∧ _ ∧ _ ∧ _ ∧ _ ∧ _ ∧ _ ∧ _ ∧ _ ∧ _ ∧ _ ∧ _ ∧ _ ∧ _ ∧ _ ∧ _ ∧ _ ∧ _ ∧ LCg.Off3 _ _ _ _).2.2.2.2.2.2.2.2.2.2.2.2.2.2.2.2.2.2.2.2)
  k_with "binaryOp FloorDiv int int" => ((k_here; (with_reducible refine floordiv_int (by omega) ?_)))
  k_with "mul_fits" => (with_unfolding_all exact IntMulOk.of_right (sq_fit _))
  k_with "k_all" => (exact off1_all (by assumption))
  k_fill
  intro mean mg mb dp un gd cn cs av ccd cl outer A₀ base h₀ L m s Q E B F X N T hk hd hu hret
  replace N := news_besides N (upd_has (U (listOf #[] 0)))
  have hoff := besides_off ls news
  generalize hr : besides ls news = rest at N hoff
  refine wpAny_call ?_
  k_dflt (walk_at "my enter")
  repeat' ((fail_if_success (with_reducible show Q _ _)); (fail_if_success (with_reducible show TurnK _ _ _ _ _ _ _ _ _ _ _ _)); first | (k_unfold; (try dsimp only)) | (k_end; wrow_close) | walk1 | (dsimp only; walk1) | (leave1; walk_say "STEP leave1"; try dsimp only) | fail "no step")
  · refine hret _ _ _ _ _ _ _ _ _ ?_ ?_ ?_ ?_ (by assumption) (news_upd' (by subst hr; assumption) (U _))
    · exact ⟨fmod_lo _ (by omega), fmod_hi _ (by omega)⟩
    · exact Int.fdiv_nonneg ha (by omega)
    · exact hb
    · exact hb2
  · refine hret _ _ _ _ _ _ _ _ _ ?_ ?_ ?_ ?_ (by assumption) (news_upd' (by subst hr; assumption) (U _))
    · exact ⟨fmod_lo _ (by omega), fmod_hi _ (by omega)⟩
    · exact ha
    · exact fmod_lo _ (by decide)
    · exact fmod_hi _ (by decide)
theorem getD_mem {ms : List Int} {r : Int} (h : 0 ≤ r ∧ r < ms.length) : ms.getD r.toNat 0 ∈ ms := by
  have hk : r.toNat < ms.length := by omega
  rw [List.getD_eq_getElem?_getD, List.getElem?_eq_getElem hk]
  exact List.getElem_mem hk
theorem news_drop1 {h₀ h : Heap} {L : Addr} {p q : Addr × Obj} {l : List (Addr × Obj)} (N : News h₀ L h (p :: q :: l)) : News h₀ L h (p :: l) := fun x hx => N x ((List.mem_cons.mp hx).elim (fun e => e ▸ .head _) fun hx => .tail _ (.tail _ hx))
theorem c_one (w : World) (news : List (Addr × Obj)) (nf : Obj → List (Addr × Obj)) (ls lt : Addr) (c k : Nat) (a b : Int) (ta tb : Tok) (vs : List Value) (ms : List Int) (U : ∀ o', Upd ls (listOf [Value.int a ta, .int b tb].toArray c) o' news (nf o')) (ha : 0 ≤ a) (hb : 0 ≤ b) (hb2 : b < 2147483647)
    (hlt : (lt, listOf vs.toArray k) ∈ news) (hne : lt ≠ ls) (hi : IntsAre vs ms) (h1 : 1 ≤ ms.length) (h2 : ms.length ≤ 4096) :
    Owes 6 w 246 [.ref ls, .ref lt] news (fun h₀ L m s Q => SRet h₀ L m nf s Q (fun r => r ∈ ms)) := by
  unfold Owes
  w_top off
  k_with_none
  k_with "my off" => (first | assumption | exact off1_lt (by tbn_lt) | exact (by assumption : _ ∧ LCg.Off1 _ _).2 | exact (by assumption : _ ∧ _ ∧ LCg.Off1 _ _).2.2 | exact (by assumption : _ ∧ _ ∧ _ ∧ LCg.Off1 _ _).2.2.2 | exact (by assumption : _ ∧ _ ∧ _ ∧ _ ∧ LCg.Off1 _ _).2.2.2.2 | exact (by assumption : _ ∧ _ ∧ _ ∧ _ ∧ _ ∧ LCg.Off1 _ _).2.2.2.2.2 | exact (by assumption : _ ∧ _ ∧ _ ∧ _ ∧ _ ∧ _ ∧ LCg.Off1 _ _).2.2.2.2.2.2 | exact (by assumption : _ ∧ _ ∧ _ ∧ _ ∧ _ ∧ _ ∧ _ ∧ LCg.Off1 _ _).2.2.2.2.2.2.2 | exact (by assumption : _ ∧ _ ∧ _ ∧ _ ∧ _ ∧ _ ∧ _ ∧ _ ∧ LCg.Off1 _ _).2.2.2.2.2.2.2.2 | exact (by assumption : _ ∧ _ ∧ _ ∧ _ ∧ _ ∧ _ ∧ _ ∧ _ ∧ _ ∧ LCg.Off1 _ _).2.2.2.2.2.2.2.2.2 | exact (by assumption : _ ∧ _ ∧ _ ∧ _ ∧ _ ∧ _ ∧ _ ∧ _ ∧ _ ∧ _ ∧ LCg.Off1 _ _).2.2.2.2.2.2.2.2.2.2 | exact (by assumption : _ ∧ _ ∧ _ ∧ _ ∧ _ ∧ _ ∧ _ ∧ _ ∧ _ ∧ _ ∧ _ ∧ LCg.Off1 _ _).2.2.2.2.2.2.2.2.2.2.2 | exact (by assumption : _ ∧ _ ∧ _ ∧ _ ∧ _ ∧ _ ∧ _ ∧ _ ∧ _ ∧ _ ∧ _ ∧ _ ∧ LCg.Off1 _ _).2.2.2.2.2.2.2.2.2.2.2.2 | exact (by assumption : _ ∧ _ ∧ _ ∧ _ ∧ _ ∧ _ ∧ _ ∧ _ ∧ _ ∧ _ ∧ _ ∧ _ ∧ _ ∧ LCg.Off1 _ _).2.2.2.2.2.2.2.2.2.2.2.2.2 | exact (by assumption : _ ∧ _ ∧ _ ∧ _ ∧ _ ∧ _ ∧ _ ∧ _ ∧ _ ∧ _ ∧ _ ∧ _ ∧ _ ∧ _ ∧ LCg.Off1 _ _).2.2.2.2.2.2.2.2.2.2.2.2.2.2 | exact (by assumption : _ ∧ _ ∧ _ ∧ _ ∧ _ ∧ _ ∧ _ ∧ _ ∧ _ ∧ _ ∧ _ ∧ _ ∧ _ ∧ _ ∧ _ ∧ LCg.Off1 _ _).2.2.2.2.2.2.2.2.2.2.2.2.2.2.2 | exact (by assumption : _ ∧ _ ∧ _ ∧ _ ∧ _ ∧ _ ∧ _ ∧ _ ∧ _ ∧ _ ∧ _ ∧ _ ∧ _ ∧ _ ∧ _ ∧ _ ∧ LCg.Off1 _ _).2.2.2.2.2.2.2.2.2.2.2.2.2.2.2.2 | exact (by assumption : _ ∧ _ ∧ _ ∧ _ ∧ _ ∧ _ ∧ _ ∧ _ ∧ _ ∧ _ ∧ _ ∧ _ ∧ _ ∧ _ ∧ _ ∧ _ ∧ _ ∧ LCg.Off1 _ _).2.2.2.2.2.2.2.2.2.2.2.2.2.2.2.2.2 | exact (by assumption : _ ∧ _ ∧ _ ∧ _ ∧ _ ∧ _ ∧ _ ∧ _ ∧ _ ∧ _ ∧ _ ∧ _ ∧ _ ∧ _ ∧ _ ∧ _ ∧ _ ∧ _ ∧ LCg.Off1 _ _).2.2.2.2.2.2.2.2.2.2.2.2.2.2.2.2.2.2 | exact (by assumption : _ ∧ _ ∧ _ ∧ _ ∧ _ ∧ _ ∧ _ ∧ _ ∧ _ ∧ _ ∧ _ ∧ _ ∧ _ ∧ _ ∧ _ ∧ _ ∧ _ ∧ _ ∧ _ ∧ LCg.Off1 _ _).2.2.2.2.2.2.2.2.2.2.2.2.2.2.2.2.2.2.2 | exact (by assumption : _ ∧ _ ∧ _ ∧ _ ∧ _ ∧ _ ∧ _ ∧ _ ∧ _ ∧ _ ∧ _ ∧ _ ∧ _ ∧ _ ∧ _ ∧ _ ∧ _ ∧ _ ∧ _ ∧ _ ∧ LCg.Off1 _ _).2.2.2.2.2.2.2.2.2.2.2.2.2.2.2.2.2.2.2.2)
  k_with "lcg_off" => (first | assumption | exact (by assumption : _ ∧ LCg.Off3 _ _ _ _).2 | exact (by assumption : _ ∧ _ ∧ LCg.Off3 _ _ _ _).2.2 | exact (by assumption : _ ∧ _ ∧ _ ∧ LCg.Off3 _ _ _ _).2.2.2 | exact (by assumption : _ ∧ _ ∧ _ ∧ _ ∧ LCg.Off3 _ _ _ _).2.2.2.2 | exact (by assumption : _ ∧ _ ∧ _ ∧ _ ∧ _ ∧ LCg.Off3 _ _ _ _).2.2.2.2.2 | exact (by assumption : _ ∧ _ ∧ _ ∧ _ ∧ _ ∧ _ ∧ LCg.Off3 _ _ _ _).2.2.2.2.2.2 | exact (by assumption : _ ∧ _ ∧ _ ∧ _ ∧ _ ∧ _ ∧ _ ∧ LCg.Off3 _ _ _ _).2.2.2.2.2.2.2 | exact (by assumption : _ ∧ _ ∧ _ ∧ _ ∧ _ ∧ _ ∧ _ ∧ _ ∧ LCg.Off3 _ _ _ _).2.2.2.2.2.2.2.2 | exact (by assumption : _ ∧ _ ∧ _ ∧ _ ∧ _ ∧ _ ∧ _ ∧ _ ∧ _ ∧ LCg.Off3 _ _ _ _).2.2.2.2.2.2.2.2.2 | exact (by assumption : _ ∧ _ ∧ _ ∧ _ ∧ _ ∧ _ ∧ _ ∧ _ ∧ _ ∧ _ ∧ LCg.Off3 _ _ _ _).2.2.2.2.2.2.2.2.2.2 | exact (by assumption : _ ∧ _ ∧ _ ∧ _ ∧ _ ∧ _ ∧ _ ∧ _ ∧ _ ∧ _ ∧ _ ∧ LCg.Off3 _ _ _ _).2.2.2.2.2.2.2.2.2.2.2 | exact (by assumption : _ ∧ _ ∧ _ ∧ _ ∧ _ ∧ _ ∧ _ ∧ _ ∧ _ ∧ _ ∧ _ ∧ _ ∧ LCg.Off3 _ _ _ _).2.2.2.2.2.2.2.2.2.2.2.2 | exact (by assumption : _ ∧ _ ∧ _ ∧ _ ∧ _ ∧ _ ∧ _ ∧ _ ∧ _ ∧ _ ∧ _ ∧ _ ∧ _ ∧ LCg.Off3 _ _ _ _).2.2.2.2.2.2.2.2.2.2.2.2.2 | exact (by assumption : _ ∧ _ ∧ _ ∧ _ ∧ _ ∧ _ ∧ _ ∧ _ ∧ _ ∧ _ ∧ _ ∧ _ ∧ _ ∧ _ ∧ LCg.Off3 _ _ _ _).2.2.2.2.2.2.2.2.2.2.2.2.2.2 | exact (by assumption : _ ∧ _ ∧ _ ∧ _ ∧ _ ∧ _ ∧ _ ∧ _ ∧ _ ∧ _ ∧ _ ∧ _ ∧ _ ∧ _ ∧ _ ∧ LCg.Off3 _ _ _ _).2.2.2.2.2.2.2.2.2.2.2.2.2.2.2 | exact (by assumption : _ ∧ _ ∧ _ ∧ _ ∧ _ ∧ _ ∧ _ ∧ _ ∧ _ ∧ _ ∧ _ ∧ _ ∧ _ ∧ _ ∧ _ ∧ _ ∧ LCg.Off3 _ _ _ _).2.2.2.2.2.2.2.2.2.2.2.2.2.2.2.2 | exact (by assumption : _ ∧ _ ∧ _ ∧ _ ∧ _ ∧ _ ∧ _ ∧ _ ∧ _ ∧ _ ∧ _ ∧ _ ∧ _ ∧ _ ∧ _ ∧ _ ∧ _ ∧ LCg.Off3 _ _ _ _).2.2.2.2.2.2.2.2.2.2.2.2.2.2.2.2.2 | exact (by assumption : _ ∧ _ ∧ _ ∧ _ ∧ _ ∧ _ ∧ _ ∧ _ ∧ _ ∧ _ ∧ _ ∧ _ ∧ _ ∧ _ ∧ _ ∧ _ ∧ _ ∧ _ ∧ LCg.Off3 _ _ _ _).2.2.2.2.2.2.2.2.2.2.2.2.2.2.2.2.2.2 | exact (by assumption : _ ∧ _ ∧ _ ∧ _ ∧ _ ∧ _ ∧ _ ∧ _ ∧ _ ∧ _ ∧ _ ∧ _ ∧ _ ∧ _ ∧ _ ∧ _ ∧ _ ∧ _ ∧ _ ∧ LCg.Off3 _ _ _ _).2.2.2.2.2.2.2.2.2.2.2.2.2.2.2.2.2.2.2 | exact (by assumption : _ ∧ _ ∧ _ ∧ _ ∧ _ ∧ _ ∧ _ ∧ _ ∧ _ ∧ _ ∧ _ ∧ _ ∧ _ ∧ _ ∧ _ ∧ _ ∧ _ ∧ _ ∧ _ ∧ _ ∧ LCg.Off3 _ _ _ _).2.2.2.2.2.2.2.2.2.2.2.2.2.2.2.2.2.2.2.2)
  k_with "call ref" => ((k_here; (with_reducible show wpAny _ _ (call (Value.ref 239) [Value.ref _, Value.int _ _]) _ _ _); k_dflt (refine owes_use' (by k_asm) (by k_asm) (by k_asm) (by k_asm) (by k_asm) (by first | exact rfl | assumption) (c_take _ _ _ _ _ _ _ _ _ _ _ (by (intro o'; k_upd)) (by first | assumption | omega | decide) (by first | assumption | omega | decide) (by first | assumption | omega | decide) (by first | assumption | omega | decide) (by first | assumption | omega | decide)) (by ktr_room) (by ktr_units) ?_); intro r' tr' a' b' ta' tb' c' h' tk' hP' ha' hb' hb2' F' N'; (try k_sweep); (try dsimp only at N'); (try dsimp only at hP'); (try dsimp only); (try k_fold)))
  k_with "k_all" => (exact off1_all (by assumption))
  k_fill
  intro mean mg mb dp un gd cn cs av ccd cl outer A₀ base h₀ L m s Q E B F X N T hk hd hu hret
  replace N := news_besides N (upd_has (U (listOf #[] 0)))
  have hoff := besides_off ls news
  have hlt' : (lt, listOf vs.toArray k) ∈ besides ls news := List.mem_filter.mpr ⟨hlt, by simpa using hne⟩
  generalize hr : besides ls news = rest at N hoff hlt'
  replace N : News h₀ L s.heap ((ls, listOf [Value.int a ta, .int b tb].toArray c) :: (lt, listOf vs.toArray k) :: rest) := fun p hp => N p (by
    rcases List.mem_cons.mp hp with rfl | hp
    · exact .head _
    · rcases List.mem_cons.mp hp with rfl | hp
      · exact .tail _ hlt'
      · exact .tail _ hp)
  replace hne : @Ne Nat lt ls := hne
  refine wpAny_call ?_
  k_dflt (walk_at "my enter")
  repeat' ((fail_if_success (with_reducible show Q _ _)); (fail_if_success (with_reducible show TurnK _ _ _ _ _ _ _ _ _ _ _ _)); first | (k_unfold; (try dsimp only)) | (k_end; wrow_close) | walk1 | (dsimp only; walk1) | (leave1; walk_say "STEP leave1"; try dsimp only) | fail "no step")
  subst hr
  refine hret _ _ _ _ _ _ _ _ _ (getD_mem (by assumption)) ?_ ?_ ?_ (by assumption) (news_upd' (news_drop1 (by assumption)) (U _))
  all_goals assumption
section
variable {prog : Program} {w : World} {A : Around} {E : Value → Shared → Prop} {s : Shared} {h₀ : Heap} {L : Addr} {m : Str → Option Value} {env : Env}
/-- a comprehension whose element turns what the ledger bears: J holds between the turns, R of each int -/
theorem comp_inv {elt : Expr} {x : Str} {scope : Scope} {cl : List (Str × Addr)} {S : List (Addr × Obj) → Prop} {P : Nat → Value → Prop} {Fin : List Value → List (Addr × Obj) → Prop} (J : List (Addr × Obj) → Prop) (R : Int → Prop) (n : Nat)
    (turn : ∀ i v I oI C oC D m₂ ys h tk nw (E' : Value → Shared → Prop), i < n → J nw → P i v → LCg.NsObj oC m₂ → m₂ x = some v → Fr h₀ L h m → News h₀ L h ((I, oI) :: (C, oC) :: (D, LCg.lst ys) :: nw) → LCg.Off3 I C D nw → ((@Ne Nat I C) ∧ (@Ne Nat I D) ∧ (@Ne Nat C D)) →
      wpAny (model prog w) A (eval elt (compEnvC scope cl C env)) (LCg.CompEnd h₀ L m { s with heap := h, toks := tk } I oI C oC D (LCg.lst ys) S (fun y nw' => J nw' ∧ ∃ k t, y = .int k t ∧ R k)) E' { s with heap := h, toks := tk })
    (fin : ∀ ys ms nw, J nw → IntsAre ys ms → ms.length = n → (∀ k ∈ ms, R k) → Fin ys nw) {nw : List (Addr × Obj)} (hJ : J nw) : LCg.CompRest prog w A h₀ L m env elt x scope cl s S P Fin n 0 [] nw := by
  have key : ∀ (j i : Nat) (ys : List Value) (ms : List Int) nw, i + j = n → J nw → IntsAre ys ms → ms.length = i → (∀ k ∈ ms, R k) → LCg.CompRest prog w A h₀ L m env elt x scope cl s S P Fin j i ys nw := by
    intro j
    induction j with
    | zero =>
      intro i ys ms nw hi hJ hy hl hR
      exact LCg.CompRest.zero (fin ys ms nw hJ hy (by omega) hR)
    | succ j ih =>
      intro i ys ms nw hi hJ hy hl hR
      refine LCg.CompRest.succ ?_
      intro v I oI C oC D m₂ h tk E' hv hC hx F N off ne
      refine wpAny_mono (turn i v I oI C oC D m₂ ys h tk nw E' (by omega) hJ hv hC hx F N off ne) (fun y s₂ hq => ?_) fun _ _ e => e
      obtain ⟨h', tk', nw', e, F', N', off', hS, hJ', k, t, rfl, hk⟩ := hq
      refine ⟨h', tk', nw', e, F', N', off', hS, ih (i + 1) _ (ms ++ [k]) nw' (by omega) hJ' (hy.append (.cons k t .nil)) (by rw [List.length_append, hl]; rfl) ?_⟩
      intro z hz
      rcases List.mem_append.mp hz with hz | hz
      · exact hR z hz
      · rw [List.mem_singleton.mp hz]; exact hk
  exact key n 0 [] [] nw (Nat.zero_add _) hJ .nil rfl (fun _ h => nomatch h)
end
theorem off1_upd {r d : Addr} {o o' : Obj} {l l' : List (Addr × Obj)} (U : Upd d o o' l l') (h : d ≠ r) (k : LCg.Off1 r (besides d l)) : LCg.Off1 r l' := off1_of fun p hp => (upd_mem U p hp).elim (fun e => e ▸ h) fun q => off1_all k p (List.mem_filter.mpr ⟨q.1, by simpa using q.2⟩)
theorem news_upd2 {h₀ h : Heap} {L d : Addr} {o o' : Obj} {x y : Addr × Obj} {l l' : List (Addr × Obj)} (N : News h₀ L h (x :: y :: (d, o') :: besides d l)) (U : Upd d o o' l l') : News h₀ L h (x :: l') := fun p hp => (List.mem_cons.mp hp).elim (fun e => e ▸ N _ (.head _)) fun hp => news_upd' (news_tail (news_tail N)) U p hp
theorem bd_pm {r : Int} (h : r ∈ [(-128 : Int), 127]) : Bd 128 r := by
  simp only [List.mem_cons, List.not_mem_nil, or_false] at h
  rcases h with rfl | rfl <;> decide
theorem bd_draw {r : Int} (h : 0 ≤ r ∧ r < 256) : Bd 128 (r - 128) := by unfold Bd; omega
theorem news_pair {h₀ h : Heap} {L a : Addr} {o : Obj} {news : List (Addr × Obj)} (_N : News h₀ L h ((a, o) :: news)) : ∃ (b : Addr) (p : Obj), b = L ∧ p = o := ⟨L, o, rfl, rfl⟩
abbrev BRet (h₀ : Heap) (L : Addr) (m : Str → Option Value) (nf : Obj → List (Addr × Obj)) (s : Shared) (Q : Value → Shared → Prop) (n : Nat) : Prop :=
  ∀ (r : Addr) (ws : List Value) (ms : List Int) (k : Nat) (o' : Obj) (h' : Heap) (tk' : Nat), IntsAre ws ms → ms.length = n → AllB 128 ms → Fr h₀ L h' m → News h₀ L h' ((r, listOf ws.toArray k) :: nf o') → LCg.Off1 r (nf o') → Q (.ref r) { s with heap := h', toks := tk' }
theorem c_block8 (w : World) (news : List (Addr × Obj)) (nf : Obj → List (Addr × Obj)) (ls : Addr) (c : Nat) (a b : Int) (ta tb t : Tok) (U : ∀ o', Upd ls (listOf [Value.int a ta, .int b tb].toArray c) o' news (nf o')) (ha : 0 ≤ a) (hb : 0 ≤ b) (hb2 : b < 2147483647) :
    Owes 9 w 251 [.ref ls, .int 8 t] news (fun h₀ L m s Q => BRet h₀ L m nf s Q 64) := by
  unfold Owes
  w_top off
  k_with_none
  k_with "my off" => (first | assumption | exact off1_lt (by tbn_lt) | exact (by assumption : _ ∧ LCg.Off1 _ _).2 | exact (by assumption : _ ∧ _ ∧ LCg.Off1 _ _).2.2 | exact (by assumption : _ ∧ _ ∧ _ ∧ LCg.Off1 _ _).2.2.2 | exact (by assumption : _ ∧ _ ∧ _ ∧ _ ∧ LCg.Off1 _ _).2.2.2.2 | exact (by assumption : _ ∧ _ ∧ _ ∧ _ ∧ _ ∧ LCg.Off1 _ _).2.2.2.2.2 | exact (by assumption : _ ∧ _ ∧ _ ∧ _ ∧ _ ∧ _ ∧ LCg.Off1 _ _).2.2.2.2.2.2 | exact (by assumption : _ ∧ _ ∧ _ ∧ _ ∧ _ ∧ _ ∧ _ ∧ LCg.Off1 _ _).2.2.2.2.2.2.2 | exact (by assumption : _ ∧ _ ∧ _ ∧ _ ∧ _ ∧ _ ∧ _ ∧ _ ∧ LCg.Off1 _ _).2.2.2.2.2.2.2.2 | exact (by assumption : _ ∧ _ ∧ _ ∧ _ ∧ _ ∧ _ ∧ _ ∧ _ ∧ _ ∧ LCg.Off1 _ _).2.2.2.2.2.2.2.2.2 | exact (by assumption : _ ∧ _ ∧ _ ∧ _ ∧ _ ∧ _ ∧ _ ∧ _ ∧ _ ∧ _ ∧ LCg.Off1 _ _).2.2.2.2.2.2.2.2.2.2 | exact (by assumption : _ ∧ _ ∧ _ ∧ _ ∧ _ ∧ _ ∧ _ ∧ _ ∧ _ ∧ _ ∧ _ ∧ LCg.Off1 _ _).2.2.2.2.2.2.2.2.2.2.2 | exact (by assumption : _ ∧ _ ∧ _ ∧ _ ∧ _ ∧ _ ∧ _ ∧ _ ∧ _ ∧ _ ∧ _ ∧ _ ∧ LCg.Off1 _ _).2.2.2.2.2.2.2.2.2.2.2.2 | exact (by assumption : _ ∧ _ ∧ _ ∧ _ ∧ _ ∧ _ ∧ _ ∧ _ ∧ _ ∧ _ ∧ _ ∧ _ ∧ _ ∧ LCg.Off1 _ _).2.2.2.2.2.2.2.2.2.2.2.2.2 | exact (by assumption : _ ∧ _ ∧ _ ∧ _ ∧ _ ∧ _ ∧ _ ∧ _ ∧ _ ∧ _ ∧ _ ∧ _ ∧ _ ∧ _ ∧ LCg.Off1 _ _).2.2.2.2.2.2.2.2.2.2.2.2.2.2 | exact (by assumption : _ ∧ _ ∧ _ ∧ _ ∧ _ ∧ _ ∧ _ ∧ _ ∧ _ ∧ _ ∧ _ ∧ _ ∧ _ ∧ _ ∧ _ ∧ LCg.Off1 _ _).2.2.2.2.2.2.2.2.2.2.2.2.2.2.2 | exact (by assumption : _ ∧ _ ∧ _ ∧ _ ∧ _ ∧ _ ∧ _ ∧ _ ∧ _ ∧ _ ∧ _ ∧ _ ∧ _ ∧ _ ∧ _ ∧ _ ∧ LCg.Off1 _ _).2.2.2.2.2.2.2.2.2.2.2.2.2.2.2.2 | exact (by assumption : _ ∧ _ ∧ _ ∧ _ ∧ _ ∧ _ ∧ _ ∧ _ ∧ _ ∧ _ ∧ _ ∧ _ ∧ _ ∧ _ ∧ _ ∧ _ ∧ _ ∧ LCg.Off1 _ _).2.2.2.2.2.2.2.2.2.2.2.2.2.2.2.2.2 | exact (by assumption : _ ∧ _ ∧ _ ∧ _ ∧ _ ∧ _ ∧ _ ∧ _ ∧ _ ∧ _ ∧ _ ∧ _ ∧ _ ∧ _ ∧ _ ∧ _ ∧ _ ∧ _ ∧ LCg.Off1 _ _).2.2.2.2.2.2.2.2.2.2.2.2.2.2.2.2.2.2 | exact (by assumption : _ ∧ _ ∧ _ ∧ _ ∧ _ ∧ _ ∧ _ ∧ _ ∧ _ ∧ _ ∧ _ ∧ _ ∧ _ ∧ _ ∧ _ ∧ _ ∧ _ ∧ _ ∧ _ ∧ LCg.Off1 _ _).2.2.2.2.2.2.2.2.2.2.2.2.2.2.2.2.2.2.2 | exact (by assumption : _ ∧ _ ∧ _ ∧ _ ∧ _ ∧ _ ∧ _ ∧ _ ∧ _ ∧ _ ∧ _ ∧ _ ∧ _ ∧ _ ∧ _ ∧ _ ∧ _ ∧ _ ∧ _ ∧ _ ∧ LCg.Off1 _ _).2.2.2.2.2.2.2.2.2.2.2.2.2.2.2.2.2.2.2.2)
  k_with "lcg_off" => (first | assumption | exact (by assumption : _ ∧ LCg.Off3 _ _ _ _).2 | exact (by assumption : _ ∧ _ ∧ LCg.Off3 _ _ _ _).2.2 | exact (by assumption : _ ∧ _ ∧ _ ∧ LCg.Off3 _ _ _ _).2.2.2 | exact (by assumption : _ ∧ _ ∧ _ ∧ _ ∧ LCg.Off3 _ _ _ _).2.2.2.2 | exact (by assumption : _ ∧ _ ∧ _ ∧ _ ∧ _ ∧ LCg.Off3 _ _ _ _).2.2.2.2.2 | exact (by assumption : _ ∧ _ ∧ _ ∧ _ ∧ _ ∧ _ ∧ LCg.Off3 _ _ _ _).2.2.2.2.2.2 | exact (by assumption : _ ∧ _ ∧ _ ∧ _ ∧ _ ∧ _ ∧ _ ∧ LCg.Off3 _ _ _ _).2.2.2.2.2.2.2 | exact (by assumption : _ ∧ _ ∧ _ ∧ _ ∧ _ ∧ _ ∧ _ ∧ _ ∧ LCg.Off3 _ _ _ _).2.2.2.2.2.2.2.2 | exact (by assumption : _ ∧ _ ∧ _ ∧ _ ∧ _ ∧ _ ∧ _ ∧ _ ∧ _ ∧ LCg.Off3 _ _ _ _).2.2.2.2.2.2.2.2.2 | exact (by assumption : _ ∧ _ ∧ _ ∧ _ ∧ _ ∧ _ ∧ _ ∧ _ ∧ _ ∧ _ ∧ LCg.Off3 _ _ _ _).2.2.2.2.2.2.2.2.2.2 | exact (by assumption : _ ∧ _ ∧ _ ∧ _ ∧ _ ∧ _ ∧ _ ∧ _ ∧ _ ∧ _ ∧ _ ∧ LCg.Off3 _ _ _ _).2.2.2.2.2.2.2.2.2.2.2 | exact (by assumption : _ ∧ _ ∧ _ ∧ _ ∧ _ ∧ _ ∧ _ ∧ _ ∧ _ ∧ _ ∧ _ ∧ _ ∧ LCg.Off3 _ _ _ _).2.2.2.2.2.2.2.2.2.2.2.2 | exact (by assumption : _ ∧ _ ∧ _ ∧ _ ∧ _ ∧ _ ∧ _ ∧ _ ∧ _ ∧ _ ∧ _ ∧ _ ∧ _ ∧ LCg.Off3 _ _ _ _).2.2.2.2.2.2.2.2.2.2.2.2.2 | exact (by assumption : _ ∧ _ ∧ _ ∧ _ ∧ _ ∧ _ ∧ _ ∧ _ ∧ _ ∧ _ ∧ _ ∧ _ ∧ _ ∧ _ ∧ LCg.Off3 _ _ _ _).2.2.2.2.2.2.2.2.2.2.2.2.2.2 | exact (by assumption : _ ∧ _ ∧ _ ∧ _ ∧ _ ∧ _ ∧ _ ∧ _ ∧ _ ∧ _ ∧ _ ∧ _ ∧ _ ∧ _ ∧ _ ∧ LCg.Off3 _ _ _ _).2.2.2.2.2.2.2.2.2.2.2.2.2.2.2 | exact (by assumption : _ ∧ _ ∧ _ ∧ _ ∧ _ ∧ _ ∧ _ ∧ _ ∧ _ ∧ _ ∧ _ ∧ _ ∧ _ ∧ _ ∧ _ ∧ _ ∧ LCg.Off3 _ _ _ _).2.2.2.2.2.2.2.2.2.2.2.2.2.2.2.2 | exact (by assumption : _ ∧ _ ∧ _ ∧ _ ∧ _ ∧ _ ∧ _ ∧ _ ∧ _ ∧ _ ∧ _ ∧ _ ∧ _ ∧ _ ∧ _ ∧ _ ∧ _ ∧ LCg.Off3 _ _ _ _).2.2.2.2.2.2.2.2.2.2.2.2.2.2.2.2.2 | exact (by assumption : _ ∧ _ ∧ _ ∧ _ ∧ _ ∧ _ ∧ _ ∧ _ ∧ _ ∧ _ ∧ _ ∧ _ ∧ _ ∧ _ ∧ _ ∧ _ ∧ _ ∧ _ ∧ LCg.Off3 _ _ _ _).2.2.2.2.2.2.2.2.2.2.2.2.2.2.2.2.2.2 | exact (by assumption : _ ∧ _ ∧ _ ∧ _ ∧ _ ∧ _ ∧ _ ∧ _ ∧ _ ∧ _ ∧ _ ∧ _ ∧ _ ∧ _ ∧ _ ∧ _ ∧ _ ∧ _ ∧ _ ∧ LCg.Off3 _ _ _ _).2.2.2.2.2.2.2.2.2.2.2.2.2.2.2.2.2.2.2 | exact (by assumption : _ ∧ _ ∧ _ ∧ _ ∧ _ ∧ _ ∧ _ ∧ _ ∧ _ ∧ _ ∧ _ ∧ _ ∧ _ ∧ _ ∧ _ ∧ _ ∧ _ ∧ _ ∧ _ ∧ _ ∧ LCg.Off3 _ _ _ _).2.2.2.2.2.2.2.2.2.2.2.2.2.2.2.2.2.2.2.2)
  k_with "call ref" => ((k_here; (with_reducible show wpAny _ _ (call (Value.ref 239) [Value.ref _, Value.int _ _]) _ _ _); k_dflt (refine owes_use' (by k_asm) (by k_asm) (by k_asm) (by k_asm) (by k_asm) (by first | exact rfl | assumption) (c_take _ _ _ _ _ _ _ _ _ _ _ (by (intro o'; k_upd)) (by first | assumption | omega | decide) (by first | assumption | omega | decide) (by first | assumption | omega | decide) (by first | assumption | omega | decide) (by first | assumption | omega | decide)) (by ktr_room) (by ktr_units) ?_); intro r' tr' a' b' ta' tb' c' h' tk' hP' ha' hb' hb2' F' N'; (try k_sweep); (try dsimp only at N'); (try dsimp only at hP'); (try dsimp only); (try k_fold)))
  k_with "call ref" => ((k_here; (with_reducible show wpAny _ _ (call (Value.ref 246) [Value.ref _, Value.ref _]) _ _ _); k_dflt (refine owes_use' (by k_asm) (by k_asm) (by k_asm) (by k_asm) (by k_asm) (by first | exact rfl | assumption) (c_one _ _ _ _ _ _ _ _ _ _ _ _ _ (by (intro o'; k_upd)) (by first | assumption | omega | decide) (by first | assumption | omega | decide) (by first | assumption | omega | decide) (by k_mem) (by k_ne) (by first | assumption | exact IntsAre.cons _ _ (IntsAre.cons _ _ IntsAre.nil) | exact IntsAre.cons _ _ (IntsAre.cons _ _ (IntsAre.cons _ _ (IntsAre.cons _ _ IntsAre.nil)))) (by first | assumption | omega | decide) (by first | assumption | omega | decide)) (by ktr_room) (by ktr_units) ?_); intro r' tr' a' b' ta' tb' c' h' tk' hP' ha' hb' hb2' F' N'; (try k_sweep); (try dsimp only at N'); (try dsimp only at hP'); (try dsimp only); (try k_fold)))
  k_with "CompSrc" => ((k_here; k_dflt (first
  | (refine LCg.CompSrc.range (n := 64) (by rfl) (by k_asm) (by k_asm) (by assumption) (by decide) (by decide) (by decide) ?_; intro g')
  | (refine LCg.CompSrc.range (n := 16) (by rfl) (by k_asm) (by k_asm) (by assumption) (by decide) (by decide) (by decide) ?_; intro g')
  | (refine LCg.CompSrc.range (n := 4) (by rfl) (by k_asm) (by k_asm) (by assumption) (by decide) (by decide) (by decide) ?_; intro g')
  | (refine LCg.CompSrc.range (n := 1) (by rfl) (by k_asm) (by k_asm) (by assumption) (by decide) (by decide) (by decide) ?_; intro g'))))
  k_with "eval ListComp" => ((k_here; k_dflt (refine LCg.ListComp_U (F₀ := by k_asm) (by with_unfolding_all rfl) (by decide) (by rfl) (by decide) (by rfl) ?_)))
  k_with "k_all" => (exact off1_all (by assumption))
  k_fill
  intro mean mg mb dp un gd cn cs av ccd cl outer A₀ base h₀ L m s Q E B F X N T hk hd hu hret
  replace N := news_besides N (upd_has (U (listOf #[] 0)))
  have hoff := besides_off ls news
  generalize hr : besides ls news = rest at N hoff
  refine wpAny_call ?_
  k_dflt (walk_at "my enter")
  repeat' ((fail_if_success (with_reducible show LCg.CompRest _ _ _ _ _ _ _ _ _ _ _ _ _ _ _ _ _ _ _)); first | (k_unfold; (try dsimp only)) | (k_end; wrow_close) | walk1 | (dsimp only; walk1) | (leave1; walk_say "STEP leave1"; try dsimp only) | fail "no step")
  all_goals (
    rename Fr _ _ _ _ => FF
    rename News _ _ _ _ => NN
    obtain ⟨lc, oc, e1, e2⟩ := news_pair NN
    subst e1 e2
    refine comp_inv (fun nw => ∃ (a b : Int) (ta tb : Tok) (c : Nat), 0 ≤ a ∧ 0 ≤ b ∧ b < 2147483647 ∧ nw = (lc + 1, oc) :: (ls, listOf [Value.int a ta, .int b tb].toArray c) :: rest) (Bd 128) 64 ?_ ?_ ⟨_, _, _, _, _, by assumption, by assumption, by assumption, rfl⟩)
  · intro i v I oI C oC D m₂ ys hI tkI nw E' hiI hJ hP hC hx F1 N1 off ne
    obtain ⟨a1, b1, ta1, tb1, c1, p1, p2, p3, rfl⟩ := hJ
    have off0 := off
    simp only [LCg.Off3] at off
    clear FF NN
    repeat' ((fail_if_success (with_reducible show Q _ _)); (fail_if_success (with_reducible show TurnK _ _ _ _ _ _ _ _ _ _ _ _)); first | (k_unfold; (try dsimp only)) | (k_end; wrow_close) | walk1 | (dsimp only; walk1) | (leave1; walk_say "STEP leave1"; try dsimp only) | fail "no step")
    refine LCg.CompEnd.intro (by assumption) (by assumption) ((lc + 1, oc) :: (ls, listOf [Value.int _ _, .int _ _].toArray _) :: rest) (by first | exact fun _ hp => hp | exact fun _ hp => .tail _ hp) (by exact off0) trivial ⟨⟨_, _, _, _, _, by assumption, by assumption, by assumption, rfl⟩, _, _, rfl, ?_⟩
    exact bd_pm (by assumption)
  · intro ys ms nw hJ hys hlen hR
    obtain ⟨a1, b1, ta1, tb1, c1, p1, p2, p3, rfl⟩ := hJ
    clear FF NN
    repeat' ((fail_if_success (with_reducible show Q _ _)); (fail_if_success (with_reducible show TurnK _ _ _ _ _ _ _ _ _ _ _ _)); first | (k_unfold; (try dsimp only)) | (k_end; wrow_close) | walk1 | (dsimp only; walk1) | (leave1; walk_say "STEP leave1"; try dsimp only) | fail "no step")
    subst hr
    exact hret _ _ _ _ _ _ _ hys hlen hR (by assumption) (news_upd2 (by assumption) (U _)) (off1_upd (U _) (by k_ne) (by walk_at "my off"))
  · intro i v I oI C oC D m₂ ys hI tkI nw E' hiI hJ hP hC hx F1 N1 off ne
    obtain ⟨a1, b1, ta1, tb1, c1, p1, p2, p3, rfl⟩ := hJ
    have off0 := off
    simp only [LCg.Off3] at off
    clear FF NN
    repeat' ((fail_if_success (with_reducible show Q _ _)); (fail_if_success (with_reducible show TurnK _ _ _ _ _ _ _ _ _ _ _ _)); first | (k_unfold; (try dsimp only)) | (k_end; wrow_close) | walk1 | (dsimp only; walk1) | (leave1; walk_say "STEP leave1"; try dsimp only) | fail "no step")
    refine LCg.CompEnd.intro (by assumption) (by assumption) ((lc + 1, oc) :: (ls, listOf [Value.int _ _, .int _ _].toArray _) :: rest) (by first | exact fun _ hp => hp | exact fun _ hp => .tail _ hp) (by exact off0) trivial ⟨⟨_, _, _, _, _, by assumption, by assumption, by assumption, rfl⟩, _, _, rfl, ?_⟩
    exact bd_draw (by assumption)
  · intro ys ms nw hJ hys hlen hR
    obtain ⟨a1, b1, ta1, tb1, c1, p1, p2, p3, rfl⟩ := hJ
    clear FF NN
    repeat' ((fail_if_success (with_reducible show Q _ _)); (fail_if_success (with_reducible show TurnK _ _ _ _ _ _ _ _ _ _ _ _)); first | (k_unfold; (try dsimp only)) | (k_end; wrow_close) | walk1 | (dsimp only; walk1) | (leave1; walk_say "STEP leave1"; try dsimp only) | fail "no step")
    subst hr
    exact hret _ _ _ _ _ _ _ hys hlen hR (by assumption) (news_upd2 (by assumption) (U _)) (off1_upd (U _) (by k_ne) (by walk_at "my off"))
theorem c_block4 (w : World) (news : List (Addr × Obj)) (nf : Obj → List (Addr × Obj)) (ls : Addr) (c : Nat) (a b : Int) (ta tb t : Tok) (U : ∀ o', Upd ls (listOf [Value.int a ta, .int b tb].toArray c) o' news (nf o')) (ha : 0 ≤ a) (hb : 0 ≤ b) (hb2 : b < 2147483647) :
    Owes 9 w 251 [.ref ls, .int 4 t] news (fun h₀ L m s Q => BRet h₀ L m nf s Q 16) := by
  unfold Owes
  w_top off
  k_fill
  intro mean mg mb dp un gd cn cs av ccd cl outer A₀ base h₀ L m s Q E B F X N T hk hd hu hret
  replace N := news_besides N (upd_has (U (listOf #[] 0)))
  have hoff := besides_off ls news
  generalize hr : besides ls news = rest at N hoff
  refine wpAny_call ?_
  k_dflt (walk_at "my enter")
  repeat' ((fail_if_success (with_reducible show LCg.CompRest _ _ _ _ _ _ _ _ _ _ _ _ _ _ _ _ _ _ _)); first | (k_unfold; (try dsimp only)) | (k_end; wrow_close) | walk1 | (dsimp only; walk1) | (leave1; walk_say "STEP leave1"; try dsimp only) | fail "no step")
  all_goals (
    rename Fr _ _ _ _ => FF
    rename News _ _ _ _ => NN
    obtain ⟨lc, oc, e1, e2⟩ := news_pair NN
    subst e1 e2
    refine comp_inv (fun nw => ∃ (a b : Int) (ta tb : Tok) (c : Nat), 0 ≤ a ∧ 0 ≤ b ∧ b < 2147483647 ∧ nw = (lc + 1, oc) :: (ls, listOf [Value.int a ta, .int b tb].toArray c) :: rest) (Bd 128) 16 ?_ ?_ ⟨_, _, _, _, _, by assumption, by assumption, by assumption, rfl⟩)
  · intro i v I oI C oC D m₂ ys hI tkI nw E' hiI hJ hP hC hx F1 N1 off ne
    obtain ⟨a1, b1, ta1, tb1, c1, p1, p2, p3, rfl⟩ := hJ
    have off0 := off
    simp only [LCg.Off3] at off
    clear FF NN
    repeat' ((fail_if_success (with_reducible show Q _ _)); (fail_if_success (with_reducible show TurnK _ _ _ _ _ _ _ _ _ _ _ _)); first | (k_unfold; (try dsimp only)) | (k_end; wrow_close) | walk1 | (dsimp only; walk1) | (leave1; walk_say "STEP leave1"; try dsimp only) | fail "no step")
    refine LCg.CompEnd.intro (by assumption) (by assumption) ((lc + 1, oc) :: (ls, listOf [Value.int _ _, .int _ _].toArray _) :: rest) (by first | exact fun _ hp => hp | exact fun _ hp => .tail _ hp) (by exact off0) trivial ⟨⟨_, _, _, _, _, by assumption, by assumption, by assumption, rfl⟩, _, _, rfl, ?_⟩
    exact bd_pm (by assumption)
  · intro ys ms nw hJ hys hlen hR
    obtain ⟨a1, b1, ta1, tb1, c1, p1, p2, p3, rfl⟩ := hJ
    clear FF NN
    repeat' ((fail_if_success (with_reducible show Q _ _)); (fail_if_success (with_reducible show TurnK _ _ _ _ _ _ _ _ _ _ _ _)); first | (k_unfold; (try dsimp only)) | (k_end; wrow_close) | walk1 | (dsimp only; walk1) | (leave1; walk_say "STEP leave1"; try dsimp only) | fail "no step")
    subst hr
    exact hret _ _ _ _ _ _ _ hys hlen hR (by assumption) (news_upd2 (by assumption) (U _)) (off1_upd (U _) (by k_ne) (by walk_at "my off"))
  · intro i v I oI C oC D m₂ ys hI tkI nw E' hiI hJ hP hC hx F1 N1 off ne
    obtain ⟨a1, b1, ta1, tb1, c1, p1, p2, p3, rfl⟩ := hJ
    have off0 := off
    simp only [LCg.Off3] at off
    clear FF NN
    repeat' ((fail_if_success (with_reducible show Q _ _)); (fail_if_success (with_reducible show TurnK _ _ _ _ _ _ _ _ _ _ _ _)); first | (k_unfold; (try dsimp only)) | (k_end; wrow_close) | walk1 | (dsimp only; walk1) | (leave1; walk_say "STEP leave1"; try dsimp only) | fail "no step")
    refine LCg.CompEnd.intro (by assumption) (by assumption) ((lc + 1, oc) :: (ls, listOf [Value.int _ _, .int _ _].toArray _) :: rest) (by first | exact fun _ hp => hp | exact fun _ hp => .tail _ hp) (by exact off0) trivial ⟨⟨_, _, _, _, _, by assumption, by assumption, by assumption, rfl⟩, _, _, rfl, ?_⟩
    exact bd_draw (by assumption)
  · intro ys ms nw hJ hys hlen hR
    obtain ⟨a1, b1, ta1, tb1, c1, p1, p2, p3, rfl⟩ := hJ
    clear FF NN
    repeat' ((fail_if_success (with_reducible show Q _ _)); (fail_if_success (with_reducible show TurnK _ _ _ _ _ _ _ _ _ _ _ _)); first | (k_unfold; (try dsimp only)) | (k_end; wrow_close) | walk1 | (dsimp only; walk1) | (leave1; walk_say "STEP leave1"; try dsimp only) | fail "no step")
    subst hr
    exact hret _ _ _ _ _ _ _ hys hlen hR (by assumption) (news_upd2 (by assumption) (U _)) (off1_upd (U _) (by k_ne) (by walk_at "my off"))
theorem c_block2 (w : World) (news : List (Addr × Obj)) (nf : Obj → List (Addr × Obj)) (ls : Addr) (c : Nat) (a b : Int) (ta tb t : Tok) (U : ∀ o', Upd ls (listOf [Value.int a ta, .int b tb].toArray c) o' news (nf o')) (ha : 0 ≤ a) (hb : 0 ≤ b) (hb2 : b < 2147483647) :
    Owes 9 w 251 [.ref ls, .int 2 t] news (fun h₀ L m s Q => BRet h₀ L m nf s Q 4) := by
  unfold Owes
  w_top off
  k_fill
  intro mean mg mb dp un gd cn cs av ccd cl outer A₀ base h₀ L m s Q E B F X N T hk hd hu hret
  replace N := news_besides N (upd_has (U (listOf #[] 0)))
  have hoff := besides_off ls news
  generalize hr : besides ls news = rest at N hoff
  refine wpAny_call ?_
  k_dflt (walk_at "my enter")
  repeat' ((fail_if_success (with_reducible show LCg.CompRest _ _ _ _ _ _ _ _ _ _ _ _ _ _ _ _ _ _ _)); first | (k_unfold; (try dsimp only)) | (k_end; wrow_close) | walk1 | (dsimp only; walk1) | (leave1; walk_say "STEP leave1"; try dsimp only) | fail "no step")
  all_goals (
    rename Fr _ _ _ _ => FF
    rename News _ _ _ _ => NN
    obtain ⟨lc, oc, e1, e2⟩ := news_pair NN
    subst e1 e2
    refine comp_inv (fun nw => ∃ (a b : Int) (ta tb : Tok) (c : Nat), 0 ≤ a ∧ 0 ≤ b ∧ b < 2147483647 ∧ nw = (lc + 1, oc) :: (ls, listOf [Value.int a ta, .int b tb].toArray c) :: rest) (Bd 128) 4 ?_ ?_ ⟨_, _, _, _, _, by assumption, by assumption, by assumption, rfl⟩)
  · intro i v I oI C oC D m₂ ys hI tkI nw E' hiI hJ hP hC hx F1 N1 off ne
    obtain ⟨a1, b1, ta1, tb1, c1, p1, p2, p3, rfl⟩ := hJ
    have off0 := off
    simp only [LCg.Off3] at off
    clear FF NN
    repeat' ((fail_if_success (with_reducible show Q _ _)); (fail_if_success (with_reducible show TurnK _ _ _ _ _ _ _ _ _ _ _ _)); first | (k_unfold; (try dsimp only)) | (k_end; wrow_close) | walk1 | (dsimp only; walk1) | (leave1; walk_say "STEP leave1"; try dsimp only) | fail "no step")
    refine LCg.CompEnd.intro (by assumption) (by assumption) ((lc + 1, oc) :: (ls, listOf [Value.int _ _, .int _ _].toArray _) :: rest) (by first | exact fun _ hp => hp | exact fun _ hp => .tail _ hp) (by exact off0) trivial ⟨⟨_, _, _, _, _, by assumption, by assumption, by assumption, rfl⟩, _, _, rfl, ?_⟩
    exact bd_pm (by assumption)
  · intro ys ms nw hJ hys hlen hR
    obtain ⟨a1, b1, ta1, tb1, c1, p1, p2, p3, rfl⟩ := hJ
    clear FF NN
    repeat' ((fail_if_success (with_reducible show Q _ _)); (fail_if_success (with_reducible show TurnK _ _ _ _ _ _ _ _ _ _ _ _)); first | (k_unfold; (try dsimp only)) | (k_end; wrow_close) | walk1 | (dsimp only; walk1) | (leave1; walk_say "STEP leave1"; try dsimp only) | fail "no step")
    subst hr
    exact hret _ _ _ _ _ _ _ hys hlen hR (by assumption) (news_upd2 (by assumption) (U _)) (off1_upd (U _) (by k_ne) (by walk_at "my off"))
  · intro i v I oI C oC D m₂ ys hI tkI nw E' hiI hJ hP hC hx F1 N1 off ne
    obtain ⟨a1, b1, ta1, tb1, c1, p1, p2, p3, rfl⟩ := hJ
    have off0 := off
    simp only [LCg.Off3] at off
    clear FF NN
    repeat' ((fail_if_success (with_reducible show Q _ _)); (fail_if_success (with_reducible show TurnK _ _ _ _ _ _ _ _ _ _ _ _)); first | (k_unfold; (try dsimp only)) | (k_end; wrow_close) | walk1 | (dsimp only; walk1) | (leave1; walk_say "STEP leave1"; try dsimp only) | fail "no step")
    refine LCg.CompEnd.intro (by assumption) (by assumption) ((lc + 1, oc) :: (ls, listOf [Value.int _ _, .int _ _].toArray _) :: rest) (by first | exact fun _ hp => hp | exact fun _ hp => .tail _ hp) (by exact off0) trivial ⟨⟨_, _, _, _, _, by assumption, by assumption, by assumption, rfl⟩, _, _, rfl, ?_⟩
    exact bd_draw (by assumption)
  · intro ys ms nw hJ hys hlen hR
    obtain ⟨a1, b1, ta1, tb1, c1, p1, p2, p3, rfl⟩ := hJ
    clear FF NN
    repeat' ((fail_if_success (with_reducible show Q _ _)); (fail_if_success (with_reducible show TurnK _ _ _ _ _ _ _ _ _ _ _ _)); first | (k_unfold; (try dsimp only)) | (k_end; wrow_close) | walk1 | (dsimp only; walk1) | (leave1; walk_say "STEP leave1"; try dsimp only) | fail "no step")
    subst hr
    exact hret _ _ _ _ _ _ _ hys hlen hR (by assumption) (news_upd2 (by assumption) (U _)) (off1_upd (U _) (by k_ne) (by walk_at "my off"))
theorem c_block1 (w : World) (news : List (Addr × Obj)) (nf : Obj → List (Addr × Obj)) (ls : Addr) (c : Nat) (a b : Int) (ta tb t : Tok) (U : ∀ o', Upd ls (listOf [Value.int a ta, .int b tb].toArray c) o' news (nf o')) (ha : 0 ≤ a) (hb : 0 ≤ b) (hb2 : b < 2147483647) :
    Owes 9 w 251 [.ref ls, .int 1 t] news (fun h₀ L m s Q => BRet h₀ L m nf s Q 1) := by
  unfold Owes
  w_top off
  k_fill
  intro mean mg mb dp un gd cn cs av ccd cl outer A₀ base h₀ L m s Q E B F X N T hk hd hu hret
  replace N := news_besides N (upd_has (U (listOf #[] 0)))
  have hoff := besides_off ls news
  generalize hr : besides ls news = rest at N hoff
  refine wpAny_call ?_
  k_dflt (walk_at "my enter")
  repeat' ((fail_if_success (with_reducible show LCg.CompRest _ _ _ _ _ _ _ _ _ _ _ _ _ _ _ _ _ _ _)); first | (k_unfold; (try dsimp only)) | (k_end; wrow_close) | walk1 | (dsimp only; walk1) | (leave1; walk_say "STEP leave1"; try dsimp only) | fail "no step")
  all_goals (
    rename Fr _ _ _ _ => FF
    rename News _ _ _ _ => NN
    obtain ⟨lc, oc, e1, e2⟩ := news_pair NN
    subst e1 e2
    refine comp_inv (fun nw => ∃ (a b : Int) (ta tb : Tok) (c : Nat), 0 ≤ a ∧ 0 ≤ b ∧ b < 2147483647 ∧ nw = (lc + 1, oc) :: (ls, listOf [Value.int a ta, .int b tb].toArray c) :: rest) (Bd 128) 1 ?_ ?_ ⟨_, _, _, _, _, by assumption, by assumption, by assumption, rfl⟩)
  · intro i v I oI C oC D m₂ ys hI tkI nw E' hiI hJ hP hC hx F1 N1 off ne
    obtain ⟨a1, b1, ta1, tb1, c1, p1, p2, p3, rfl⟩ := hJ
    have off0 := off
    simp only [LCg.Off3] at off
    clear FF NN
    repeat' ((fail_if_success (with_reducible show Q _ _)); (fail_if_success (with_reducible show TurnK _ _ _ _ _ _ _ _ _ _ _ _)); first | (k_unfold; (try dsimp only)) | (k_end; wrow_close) | walk1 | (dsimp only; walk1) | (leave1; walk_say "STEP leave1"; try dsimp only) | fail "no step")
    refine LCg.CompEnd.intro (by assumption) (by assumption) ((lc + 1, oc) :: (ls, listOf [Value.int _ _, .int _ _].toArray _) :: rest) (by first | exact fun _ hp => hp | exact fun _ hp => .tail _ hp) (by exact off0) trivial ⟨⟨_, _, _, _, _, by assumption, by assumption, by assumption, rfl⟩, _, _, rfl, ?_⟩
    exact bd_pm (by assumption)
  · intro ys ms nw hJ hys hlen hR
    obtain ⟨a1, b1, ta1, tb1, c1, p1, p2, p3, rfl⟩ := hJ
    clear FF NN
    repeat' ((fail_if_success (with_reducible show Q _ _)); (fail_if_success (with_reducible show TurnK _ _ _ _ _ _ _ _ _ _ _ _)); first | (k_unfold; (try dsimp only)) | (k_end; wrow_close) | walk1 | (dsimp only; walk1) | (leave1; walk_say "STEP leave1"; try dsimp only) | fail "no step")
    subst hr
    exact hret _ _ _ _ _ _ _ hys hlen hR (by assumption) (news_upd2 (by assumption) (U _)) (off1_upd (U _) (by k_ne) (by walk_at "my off"))
  · intro i v I oI C oC D m₂ ys hI tkI nw E' hiI hJ hP hC hx F1 N1 off ne
    obtain ⟨a1, b1, ta1, tb1, c1, p1, p2, p3, rfl⟩ := hJ
    have off0 := off
    simp only [LCg.Off3] at off
    clear FF NN
    repeat' ((fail_if_success (with_reducible show Q _ _)); (fail_if_success (with_reducible show TurnK _ _ _ _ _ _ _ _ _ _ _ _)); first | (k_unfold; (try dsimp only)) | (k_end; wrow_close) | walk1 | (dsimp only; walk1) | (leave1; walk_say "STEP leave1"; try dsimp only) | fail "no step")
    refine LCg.CompEnd.intro (by assumption) (by assumption) ((lc + 1, oc) :: (ls, listOf [Value.int _ _, .int _ _].toArray _) :: rest) (by first | exact fun _ hp => hp | exact fun _ hp => .tail _ hp) (by exact off0) trivial ⟨⟨_, _, _, _, _, by assumption, by assumption, by assumption, rfl⟩, _, _, rfl, ?_⟩
    exact bd_draw (by assumption)
  · intro ys ms nw hJ hys hlen hR
    obtain ⟨a1, b1, ta1, tb1, c1, p1, p2, p3, rfl⟩ := hJ
    clear FF NN
    repeat' ((fail_if_success (with_reducible show Q _ _)); (fail_if_success (with_reducible show TurnK _ _ _ _ _ _ _ _ _ _ _ _)); first | (k_unfold; (try dsimp only)) | (k_end; wrow_close) | walk1 | (dsimp only; walk1) | (leave1; walk_say "STEP leave1"; try dsimp only) | fail "no step")
    subst hr
    exact hret _ _ _ _ _ _ _ hys hlen hR (by assumption) (news_upd2 (by assumption) (U _)) (off1_upd (U _) (by k_ne) (by walk_at "my off"))
section
variable {prog : Program} {w : World} {A : Around} {R : Result → Shared → Prop} {s : Shared}
theorem compTurn_two0 (elt t0 i0 t1 i1 : Expr) (scope : Scope) (pos : Pos) (it acc : Value) (env : Env) :
    compTurn (.ListComp elt [⟨t0, i0, [], 0⟩, ⟨t1, i1, [], 0⟩] scope pos) 0 it acc env = (standAt i0.pos >>= fun _ => pyNext it >>= fun r => match r with
      | none => pure (.done .next)
      | some v => letOwnedTupleGo t0 it v >>= fun _ => assign t0 env v >>= fun _ => (eval i1 env >>= fun x => standAt i1.pos >>= fun _ => foldedSetIterable i1 env x >>= fun x => holding [x] (pyIter x) >>= fun j =>
          runOwn (.compStart (.ListComp elt [⟨t0, i0, [], 0⟩, ⟨t1, i1, [], 0⟩] scope pos) 1 j acc env) env >>= fun _ =>
          again (.compLoop (.ListComp elt [⟨t0, i0, [], 0⟩, ⟨t1, i1, [], 0⟩] scope pos) 0 it acc env))) := by rfl
theorem compTurn_two1 (elt t0 i0 t1 i1 : Expr) (scope : Scope) (pos : Pos) (it acc : Value) (env : Env) :
    compTurn (.ListComp elt [⟨t0, i0, [], 0⟩, ⟨t1, i1, [], 0⟩] scope pos) 1 it acc env = (standAt i1.pos >>= fun _ => pyNext it >>= fun r => match r with
      | none => pure (.done .next)
      | some v => letOwnedTupleGo t1 it v >>= fun _ => assign t1 env v >>= fun _ => (eval elt env >>= fun x => call (.builtin "list.append") [acc, x] >>= fun _ => pure ()) >>= fun _ =>
          again (.compLoop (.ListComp elt [⟨t0, i0, [], 0⟩, ⟨t1, i1, [], 0⟩] scope pos) 1 it acc env)) := by rfl
/-- the outer clause of two -/
theorem comp2_outer {elt t0 i0 t1 i1 : Expr} {scope : Scope} {pos : Pos} {it acc : Value} {env : Env} (I : Nat → Shared → Prop)
    (turn : ∀ n s (E' : Value → Shared → Prop), I n s → wpAny (model prog w) A (pyNext it) (fun r s₁ => match r with
      | none => R (.ok .next) s₁
      | some v => wpAny (model prog w) A (assign t0 env v) (fun _ s₂ => wpAny (model prog w) A (eval i1 env) (fun x s₃ => wpAny (model prog w) A (pyIter x) (fun j s₄ =>
          codeAny (model prog w) A (.compStart (.ListComp elt [⟨t0, i0, [], 0⟩, ⟨t1, i1, [], 0⟩] scope pos) 1 j acc env) (fun r s₅ => match r with
            | .ok _ => ∃ m, m < n ∧ I m s₅
            | .error _ => False) s₄) E' s₃) E' s₂) E' s₁) E' s)
    (n : Nat) (h : I n s) (ht : ∀ v, letOwnedTupleGo t0 it v = pure ()) (hf : ∀ x, foldedSetIterable i1 env x = pure x) :
    codeAny (model prog w) A (.compLoop (.ListComp elt [⟨t0, i0, [], 0⟩, ⟨t1, i1, [], 0⟩] scope pos) 0 it acc env) R s := by
  refine codeAny_loop rfl I (fun n s hI => ?_) n h
  show wpAny _ A ((compTurn (.ListComp elt [⟨t0, i0, [], 0⟩, ⟨t1, i1, [], 0⟩] scope pos) 0 it acc env).onRaise (fun x => do noteFrame x env; theTreesLotGoes x)) _ _ s
  refine wpAny_noted ?_
  rw [compTurn_two0]
  refine wpAny_bind (wpAny_standAt (wpAny_bind (wpAny_mono (turn n s _ hI) (fun r s₁ h₁ => ?_) fun _ _ h' => h')))
  cases r with
  | none => exact wpAny_pure h₁
  | some v =>
    refine wpAny_bind (wpAny_of_eq (ht v) (wpAny_bind (wpAny_mono h₁ (fun _ s₂ h₂ => wpAny_bind (wpAny_mono h₂ (fun x s₃ h₃ => wpAny_bind (wpAny_standAt (wpAny_bind (wpAny_of_eq (hf x) (wpAny_bind (wpAny_holding (wpAny_mono h₃ (fun j s₄ h₄ => ?_) fun _ _ h' => h'))))))) fun _ _ h' => h')) fun _ _ h' => h')))
    refine wpAny_bind (wpAny_runOwn (codeAny_mono h₄ fun r s₅ h₅ => ?_))
    cases r with
    | ok f => exact wpAny_pure ⟨rfl, h₅⟩
    | error e => exact h₅.elim
/-- the inner clause of two -/
theorem comp2_inner {elt t0 i0 t1 i1 : Expr} {scope : Scope} {pos : Pos} {it acc : Value} {env : Env} (I : Nat → Shared → Prop)
    (turn : ∀ n s (E' : Value → Shared → Prop), I n s → wpAny (model prog w) A (pyNext it) (fun r s₁ => match r with
      | none => R (.ok .next) s₁
      | some v => wpAny (model prog w) A (assign t1 env v) (fun _ s₂ => wpAny (model prog w) A (eval elt env) (fun x s₃ =>
          wpAny (model prog w) A (call (.builtin "list.append") [acc, x]) (fun _ s₄ => ∃ m, m < n ∧ I m s₄) E' s₃) E' s₂) E' s₁) E' s)
    (n : Nat) (h : I n s) (ht : ∀ v, letOwnedTupleGo t1 it v = pure ()) :
    codeAny (model prog w) A (.compLoop (.ListComp elt [⟨t0, i0, [], 0⟩, ⟨t1, i1, [], 0⟩] scope pos) 1 it acc env) R s := by
  refine codeAny_loop rfl I (fun n s hI => ?_) n h
  show wpAny _ A ((compTurn (.ListComp elt [⟨t0, i0, [], 0⟩, ⟨t1, i1, [], 0⟩] scope pos) 1 it acc env).onRaise (fun x => do noteFrame x env; theTreesLotGoes x)) _ _ s
  refine wpAny_noted ?_
  rw [compTurn_two1]
  refine wpAny_bind (wpAny_standAt (wpAny_bind (wpAny_mono (turn n s _ hI) (fun r s₁ h₁ => ?_) fun _ _ h' => h')))
  cases r with
  | none => exact wpAny_pure h₁
  | some v =>
    refine wpAny_bind (wpAny_of_eq (ht v) (wpAny_bind (wpAny_mono h₁ (fun _ s₂ h₂ => wpAny_bind (wpAny_bind (wpAny_mono h₂ (fun x s₃ h₃ => wpAny_bind (wpAny_mono h₃ (fun _ s₄ h₄ => wpAny_pure (wpAny_pure ⟨rfl, h₄⟩)) fun _ _ h' => h')) fun _ _ h' => h'))) fun _ _ h' => h')))
theorem comp2_start {elt t0 i0 t1 i1 : Expr} {scope : Scope} {pos : Pos} {it acc : Value} {env : Env}
    (h0 : codeAny (model prog w) A (.compLoop (.ListComp elt [⟨t0, i0, [], 0⟩, ⟨t1, i1, [], 0⟩] scope pos) 1 it acc env) R s)
    (h : wpAny (model prog w) A (pyIter it) (fun it' s' => codeAny (model prog w) A (.compLoop (.ListComp elt [⟨t0, i0, [], 0⟩, ⟨t1, i1, [], 0⟩] scope pos) 1 it' acc env) R s')
      (notedBy (model prog w) A env fun x s' => R (.error x) s') s) :
    codeAny (model prog w) A (.compStart (.ListComp elt [⟨t0, i0, [], 0⟩, ⟨t1, i1, [], 0⟩] scope pos) 1 it acc env) R s := by
  refine codeAny_of_tree ?_
  show wpAny _ _ ((compStart (.ListComp elt [⟨t0, i0, [], 0⟩, ⟨t1, i1, [], 0⟩] scope pos) 1 it acc env).onRaise (fun x => do noteFrame x env; standAt theWindowsPlace)) _ _ s
  refine wpAny_notedAt ?_
  unfold compStart
  show wpAny _ _ (ask >>= _) _ _ s
  refine wpAny_bind (wpAny_askSetting (wpAny_ite ?_))
  split
  · exact wpAny_pure (And.intro rfl h0)
  · refine wpAny_bind (wpAny_rule ?_)
    show wpAny _ _ (standAt i1.pos >>= _) _ _ s
    exact wpAny_bind (wpAny_standAt (wpAny_bind (wpAny_mono h (fun it' s' h' => wpAny_pure (And.intro rfl h')) fun _ _ x => x)))
end
section
variable {prog : Program} {w : World} {A : Around} {E : Value → Shared → Prop} {s : Shared} {h₀ : Heap} {L : Addr} {m : Str → Option Value} {env : Env}
def rowG (g : Int → Int → Int) (j : Nat) : Nat → List Int
  | 0 => []
  | k + 1 => rowG g j k ++ [g (j : Int) (k : Int)]
def gridG (g : Int → Int → Int) (n : Nat) : Nat → List Int
  | 0 => []
  | j + 1 => gridG g n j ++ rowG g j n
def In2End (h₀ : Heap) (L : Addr) (m : Str → Option Value) (n : Nat) (led : List (Addr × Obj)) (s : Shared) (xv : Value) (s' : Shared) : Prop := ∃ r h' tk' t u v, xv = .ref r ∧ s' = { s with heap := h', toks := tk' } ∧ Fr h₀ L h' m ∧ News h₀ L h' led ∧ IsRange h' r 0 (n : Int) 1 t u v
def El2End (h₀ : Heap) (L : Addr) (m : Str → Option Value) (r : Int) (led : List (Addr × Obj)) (s : Shared) (v : Value) (s' : Shared) : Prop := ∃ t h' tk', v = .int r t ∧ s' = { s with heap := h', toks := tk' } ∧ Fr h₀ L h' m ∧ News h₀ L h' led
/-- what the walk of the inner range's making owes -/
def In2 (prog : Program) (w : World) (A : Around) (h₀ : Heap) (L : Addr) (m : Str → Option Value) (env : Env) (i1 : Expr) (y : Str) (scope : Scope) (cl : List (Str × Addr)) (n : Nat) (news : List (Addr × Obj)) (s : Shared) : Prop :=
  ∀ (j : Int) tj I oI C oC D m₂ ys h tk (E' : Value → Shared → Prop), 0 ≤ j → j < (n : Int) → LCg.NsObj oC m₂ → m₂ y = some (.int j tj) → Fr h₀ L h m → News h₀ L h ((I, oI) :: (C, oC) :: (D, LCg.lst ys) :: news) → LCg.Off3 I C D news → ((@Ne Nat I C) ∧ (@Ne Nat I D) ∧ (@Ne Nat C D)) →
    wpAny (model prog w) A (eval i1 (compEnvC scope cl C env)) (In2End h₀ L m n ((I, oI) :: (C, oC) :: (D, LCg.lst ys) :: news) s) E' { s with heap := h, toks := tk }
/-- and that of the element -/
def El2 (prog : Program) (w : World) (A : Around) (h₀ : Heap) (L : Addr) (m : Str → Option Value) (env : Env) (elt : Expr) (x y : Str) (scope : Scope) (cl : List (Str × Addr)) (n : Nat) (g : Int → Int → Int) (news : List (Addr × Obj)) (s : Shared) : Prop :=
  ∀ (j k : Int) tj tk' J oJ I oI C oC D m₂ ys h tk (E' : Value → Shared → Prop), 0 ≤ j → j < (n : Int) → 0 ≤ k → k < (n : Int) → LCg.NsObj oC m₂ → m₂ y = some (.int j tj) → m₂ x = some (.int k tk') → Fr h₀ L h m → News h₀ L h ((J, oJ) :: (I, oI) :: (C, oC) :: (D, LCg.lst ys) :: news) → LCg.Off3 I C D news → ((@Ne Nat I C) ∧ (@Ne Nat I D) ∧ (@Ne Nat C D)) →
    wpAny (model prog w) A (eval elt (compEnvC scope cl C env)) (El2End h₀ L m (g j k) ((J, oJ) :: (I, oI) :: (C, oC) :: (D, LCg.lst ys) :: news) s) E' { s with heap := h, toks := tk }

theorem range_small (n : Nat) (hn : n ≤ 64) : Builtin.Range.small 0 (n : Int) 1 = true := small_one (by omega) (by omega) (by omega) (by omega)
theorem range_size (n : Nat) : Builtin.Range.rangeSize 0 (n : Int) 1 = (n : Int) := by
  have := rangeSize_nat 0 n
  simpa using this

theorem LCg_append {D : Addr} {zs : List Value} {y : Value} {Q : Value → Shared → Prop} (ho : s.heap.get? D = some (LCg.lst zs)) (hz : zs.length ≤ 1000000)
    (h : ∀ h', Heap.SameBut D s.heap h' → h'.get? D = some (LCg.lst (zs ++ [y])) → Q .none { s with heap := h' }) : wpAny (model prog w) A (call (.builtin "list.append") [.ref D, y]) Q E s :=
  append_at (hsz := by rw [List.size_toArray, sizeLine_eq]; omega) ho fun h' hs hD => h h' hs (hD.trans (congrArg some (LCg.lst_snoc zs y)))
theorem comp2_inner_walk {elt i0 i1 : Expr} {x y : Str} {px py : Pos} {scope : Scope} {cl : List (Str × Addr)} {pos : Pos} {n : Nat} {g : Int → Int → Int} {news : List (Addr × Obj)} {C D I r : Addr} {oI : Obj} {j : Nat} {tj : Tok} {pre : List Int} {R : Result → Shared → Prop}
    (hh : A.handled = none) (hn : n ≤ 64) (hxy : y ≠ x) (hkind : scope.kind = .function) (hx : scope.names.lookup x = some .local) (hj : j < n) (H : El2 prog w A h₀ L m env elt x y scope cl n g news s)
    {t u v : Tok} {ys : List Value} {h : Heap} {tk : Nat} {m₂ : Str → Option Value} (hr : IsRange h r 0 (n : Int) 1 t u v) (F : Fr h₀ L h m) (N : News h₀ L h ((I, oI) :: (D, LCg.lst ys) :: news)) (hC : h.Ns C m₂) (hCL : C ≠ L) (hC0 : h₀.get? C = none) (hy : m₂ y = some (.int (j : Int) tj)) (hys : IntsAre ys pre) (hlen : pre.length ≤ 64 * j)
    (off : LCg.Off3 I C D news) (ne : (@Ne Nat I C) ∧ (@Ne Nat I D) ∧ (@Ne Nat C D))
    (hR : ∀ h' tk' m' zs, Fr h₀ L h' m → News h₀ L h' ((I, oI) :: (D, LCg.lst zs) :: news) → h'.Ns C m' → IntsAre zs (pre ++ rowG g j n) → R (.ok .next) { s with heap := h', toks := tk' }) :
    wpAny (model prog w) A (pyIter (.ref r)) (fun it s' => codeAny (model prog w) A (.compStart (.ListComp elt [⟨.Name y py, i0, [], 0⟩, ⟨.Name x px, i1, [], 0⟩] scope pos) 1 it (.ref D) (compEnvC scope cl C env)) R s') E { s with heap := h, toks := tk } := by
  refine wpAny_pyIter_range hr (range_small n hn) ?_
  dsimp only
  rw [range_size n]
  generalize hJ : h.objs.size = J
  have below : ∀ b o, h.get? b = some o → b ≠ J := fun b o e => hJ ▸ Nat.ne_of_lt (Heap.lt_size e)
  obtain ⟨oC0, heC0, _⟩ := LCg.ns_obj hC
  have hCJ : C ≠ J := below C _ heC0
  have hIJ : I ≠ J := below I _ (N (I, oI) (.head _)).1
  have hDJ : D ≠ J := below D _ (N (D, LCg.lst ys) (.tail _ (.head _))).1
  have hLJ : L ≠ J := hJ ▸ Nat.ne_of_lt F.ns.lt
  have hJ0 : h₀.get? J = none := by
    cases e : h₀.get? J with
    | none => rfl
    | some o => exact absurd rfl (below J o (F.keep J o e))
  have offJ : ∀ p ∈ news, p.1 ≠ J := fun p hp => below p.1 _ (N p (.tail _ (.tail _ hp))).1
  have W := LCg.range_walks (prog := prog) (w := w) (A := A) (I := J) hh 0 n
  generalize hh1 : h.push { cls := .type "range_iterator", data := .fields #[rawInt 0, rawInt (n : Int), rawInt 1] } = h₁
  have up : ∀ b o, h.get? b = some o → h₁.get? b = some o := fun b o e => hh1 ▸ Heap.get?_push_of_some _ e
  have hit : IsRangeIter h₁ J (0 + ((0 : Nat) : Int) * 1) ((n : Int) - ((0 : Nat) : Int)) 1 := by
    show h₁.get? J = some _
    rw [← hh1, ← hJ]
    simpa using Heap.get?_push_size (h := h) (o := { cls := .type "range_iterator", data := .fields #[rawInt 0, rawInt (n : Int), rawInt 1] }) rfl
  have loop : ∀ s₃ : Shared, s₃ = { s with heap := h₁, toks := tk } → codeAny (model prog w) A (.compLoop (.ListComp elt [⟨.Name y py, i0, [], 0⟩, ⟨.Name x px, i1, [], 0⟩] scope pos) 1 (.ref J) (.ref D) (compEnvC scope cl C env)) R s₃ := by
    rintro s₃ rfl
    refine comp2_inner (fun q s' => ∃ h' tk' k zs m', s' = { s with heap := h', toks := tk' } ∧ k ≤ n ∧ q = n + 1 - k ∧ IntsAre zs (pre ++ rowG g j k) ∧ (pre ++ rowG g j k).length ≤ 64 * j + k ∧ IsRangeIter h' J (0 + (k : Nat) * 1) ((n : Int) - (k : Nat)) 1 ∧ Fr h₀ L h' m ∧ News h₀ L h' ((I, oI) :: (D, LCg.lst zs) :: news) ∧ h'.Ns C m' ∧ m' y = some (.int (j : Int) tj))
      ?_ (n + 1) ⟨h₁, tk, 0, ys, m₂, rfl, Nat.zero_le _, rfl, (by simpa [rowG] using hys), (by simpa [rowG] using hlen), hit, F.keeps up, fun p hp => ⟨up _ _ (N p hp).1, (N p hp).2⟩, hC.at' (up C), hy⟩ (fun _ => rfl)
    rintro q s' E' ⟨h', tk', k, zs, m', rfl, hk, rfl, hzs, hzl, st, F', N', hC', hy'⟩
    by_cases hlt : k < n
    · refine W.item k _ _ _ hlt st fun v h₂ tk₂ hv st₂ hk₂ => ?_
      obtain ⟨tx, rfl⟩ := hv
      have F₂ : Fr h₀ L h₂ m := LCg.fr_but F' hk₂ hLJ hJ0
      have N₂ : News h₀ L h₂ ((I, oI) :: (D, LCg.lst zs) :: news) := LCg.news_but N' hk₂ fun p hp => by
        refine (List.mem_cons.mp hp).elim (fun e9 => ?_) fun hp => ?_
        · rw [e9]; exact hIJ
        · refine (List.mem_cons.mp hp).elim (fun e9 => ?_) fun hp => ?_
          · rw [e9]; exact hDJ
          · exact offJ p hp
      have hC₂ : h₂.Ns C m' := hC'.at' fun o e => hk₂ _ o (by simpa using hCJ) e
      dsimp only
      refine wpAny_assign_Name (wpAny_storeName_local (lookup_relabel_local hx) hC₂ (fun h₃ hn₃ hs₃ => ?_) (by simp [compEnvC, relabel, hkind]))
      obtain ⟨oC, heC, hoC⟩ := LCg.ns_obj hn₃
      have F₃ : Fr h₀ L h₃ m := F₂.change hs₃ hCL hC0
      have hsJ : h₃.get? J = some (itR (0 + ((k + 1 : Nat) : Int) * 1) ((n : Int) - ((k + 1 : Nat) : Int))) := hs₃.extBut J _ (Ne.symm hCJ) st₂
      have off3 := off.mem
      have N₃ : News h₀ L h₃ ((J, itR (0 + ((k + 1 : Nat) : Int) * 1) ((n : Int) - ((k + 1 : Nat) : Int))) :: (I, oI) :: (C, oC) :: (D, LCg.lst zs) :: news) := fun p hp => by
        refine (List.mem_cons.mp hp).elim (fun e9 => ?_) fun hp => ?_
        · rw [e9]; exact ⟨hsJ, Ne.symm hLJ, hJ0⟩
        · refine (List.mem_cons.mp hp).elim (fun e9 => ?_) fun hp => ?_
          · rw [e9]; have z := N₂ (I, oI) (.head _)
            exact ⟨hs₃.extBut _ _ ne.1 z.1, z.2⟩
          · refine (List.mem_cons.mp hp).elim (fun e9 => ?_) fun hp => ?_
            · rw [e9]; exact ⟨heC, hCL, hC0⟩
            · refine (List.mem_cons.mp hp).elim (fun e9 => ?_) fun hp => ?_
              · rw [e9]; have z := N₂ (D, LCg.lst zs) (.tail _ (.head _))
                exact ⟨hs₃.extBut _ _ (Ne.symm ne.2.2) z.1, z.2⟩
              · have z := N₂ p (.tail _ (.tail _ hp))
                exact ⟨hs₃.extBut _ _ (off3 p hp).2.1 z.1, z.2⟩
      refine wpAny_mono (H (j : Int) (0 + (k : Int)) tj tx J _ I oI C oC D _ zs h₃ _ E' (by omega) (by omega) (by omega) (by omega) hoC (by simp only [if_neg hxy]; exact hy') (by simp) F₃ N₃ off ne) (fun v s₄ h₄ => ?_) fun _ _ e => e
      obtain ⟨t4, h₄, tk₄, rfl, rfl, F₄, N₄⟩ := h₄
      have zD := (N₄ (D, LCg.lst zs) (.tail _ (.tail _ (.tail _ (.head _))))).1
      have zC := (N₄ (C, oC) (.tail _ (.tail _ (.head _)))).1
      have hDL := (N₄ (D, LCg.lst zs) (.tail _ (.tail _ (.tail _ (.head _))))).2
      refine LCg_append zD (by rw [hzs.length]; omega) fun h₅ hs₅ hD₅ => ?_
      refine ⟨n + 1 - (k + 1), by omega, h₅, tk₄, k + 1, zs ++ [.int (g (j : Int) (0 + (k : Int))) t4], _, rfl, hlt, rfl, ?_, ?_, ?_, F₄.change hs₅ hDL.1 hDL.2, fun p hp => ?_, (hoC.ns zC).sameBut hs₅ ne.2.2, by simp only [if_neg hxy]; exact hy'⟩
      · rw [rowG, ← List.append_assoc, Int.zero_add]
        exact hzs.append (.cons _ _ .nil)
      · rw [rowG, ← List.append_assoc, List.length_append]
        show _ + 1 ≤ _
        omega
      · exact hs₅.extBut J _ (Ne.symm hDJ) (N₄ (J, _) (.head _)).1
      · refine (List.mem_cons.mp hp).elim (fun e9 => ?_) fun hp => ?_
        · rw [e9]; have z := N₄ (I, oI) (.tail _ (.head _))
          exact ⟨hs₅.extBut _ _ ne.2.1 z.1, z.2⟩
        · refine (List.mem_cons.mp hp).elim (fun e9 => ?_) fun hp => ?_
          · rw [e9]; exact ⟨hD₅, hDL⟩
          · have z := N₄ p (.tail _ (.tail _ (.tail _ (.tail _ hp))))
            exact ⟨hs₅.extBut _ _ (off3 p hp).2.2 z.1, z.2⟩
    · obtain rfl : k = n := Nat.le_antisymm hk (Nat.not_lt.mp hlt)
      refine W.done _ _ _ st fun h₂ tk₂ hk₂ => ?_
      exact hR h₂ tk₂ m' zs (LCg.fr_but F' hk₂ hLJ hJ0) (LCg.news_but N' hk₂ fun p hp => by
        refine (List.mem_cons.mp hp).elim (fun e9 => ?_) fun hp => ?_
        · rw [e9]; exact hIJ
        · refine (List.mem_cons.mp hp).elim (fun e9 => ?_) fun hp => ?_
          · rw [e9]; exact hDJ
          · exact offJ p hp) (hC'.at' fun o e => hk₂ _ o (by simpa using hCJ) e) hzs
  exact comp2_start (loop _ rfl) (W.self 0 _ _ _ hit (loop _ rfl))
theorem gridG_len (g : Int → Int → Int) (n : Nat) : ∀ j, (gridG g n j).length ≤ n * j
  | 0 => Nat.le_refl _
  | j + 1 => by
    have h := gridG_len g n j
    have r : ∀ k, (rowG g j k).length = k := fun k => by
      induction k with
      | zero => rfl
      | succ k ih => rw [rowG, List.length_append, ih]; rfl
    rw [gridG, List.length_append, r, Nat.mul_succ]
    omega
def Src2 (prog : Program) (w : World) (A : Around) (h₀ : Heap) (L : Addr) (m : Str → Option Value) (env : Env) (i1 elt : Expr) (x y : Str) (scope : Scope) (cl : List (Str × Addr)) (n : Nat) (g : Int → Int → Int) (Q : Value → Shared → Prop) (xv : Value) (s₁ : Shared) : Prop :=
  ∃ r t u v news, xv = .ref r ∧ A.handled = none ∧ Fr h₀ L s₁.heap m ∧ News h₀ L s₁.heap news ∧ IsRange s₁.heap r 0 (n : Int) 1 t u v ∧
      In2 prog w A h₀ L m env i1 y scope cl n news s₁ ∧ El2 prog w A h₀ L m env elt x y scope cl n g news s₁ ∧
      ∀ ys D h tk, IntsAre ys (gridG g n n) → Fr h₀ L h m → News h₀ L h ((D, LCg.lst ys) :: news) → LCg.Off1 D news → Q (.ref D) { s₁ with heap := h, toks := tk }
/-- [elt for y in range(n) for x in range(n)] -/
theorem comp2_range {elt i0 i1 : Expr} {x y : Str} {px py : Pos} {scope : Scope} {cl : List (Str × Addr)} {pos : Pos} {n : Nat} (g : Int → Int → Int) {Q : Value → Shared → Prop} (_F₀ : Fr h₀ L s.heap m) (hn : n ≤ 64) (hxy : y ≠ x)
    (hclos : closureFor scope env = pure cl) (hcell : ∀ z ∈ scope.names, z.2 ≠ .cell) (hkind : scope.kind = .function)
    (hnames : ∀ z ∈ scope.names, z.2 = .local → scope.names.lookup z.1 = some .local) (hx : scope.names.lookup x = some .local) (hy : scope.names.lookup y = some .local)
    (h : wpAny (model prog w) A (eval i0 env) (Src2 prog w A h₀ L m env i1 elt x y scope cl n g Q) E s)
    (hs0 : ∀ x, foldedSetIterable i0 env x = pure x) (hs1 : ∀ C x, foldedSetIterable i1 (compEnvC scope cl C env) x = pure x) :
    wpAny (model prog w) A (eval (.ListComp elt [⟨.Name y py, i0, [], 0⟩, ⟨.Name x px, i1, [], 0⟩] scope pos) env) Q E s := by
  rw [eval_ListComp]
  refine wpAny_comprehension_free (use := none) rfl hs0 hclos hkind hnames (wpAny_mono h (fun xv s₁ h₁ => ?_) fun _ _ e => e)
  obtain ⟨r, t, u, v, news, rfl, hh, F, N, hr, HI, HE, HF⟩ := h₁
  refine wpAny_pyIter_range hr (range_small n hn) ?_
  rw [range_size n]
  generalize hI : s₁.heap.objs.size = I
  have below : ∀ b o, s₁.heap.get? b = some o → b ≠ I := fun b o e => hI ▸ Nat.ne_of_lt (Heap.lt_size e)
  have hLI : L ≠ I := hI ▸ Nat.ne_of_lt F.ns.lt
  have hI0 : h₀.get? I = none := by
    cases e : h₀.get? I with
    | none => rfl
    | some o => exact absurd rfl (below I o (F.keep I o e))
  have offI : ∀ p ∈ news, p.1 ≠ I := fun p hp => below p.1 _ (N p hp).1
  have W := LCg.range_walks (prog := prog) (w := w) (A := A) (I := I) hh 0 n
  generalize hh1 : s₁.heap.push { cls := .type "range_iterator", data := .fields #[rawInt 0, rawInt (n : Int), rawInt 1] } = H1
  have up1 : ∀ b o, s₁.heap.get? b = some o → H1.get? b = some o := fun b o e => hh1 ▸ Heap.get?_push_of_some _ e
  have hit1 : IsRangeIter H1 I (0 + ((0 : Nat) : Int) * 1) ((n : Int) - ((0 : Nat) : Int)) 1 := by
    show H1.get? I = some _
    rw [← hh1, ← hI]
    simpa using Heap.get?_push_size (h := s₁.heap) (o := { cls := .type "range_iterator", data := .fields #[rawInt 0, rawInt (n : Int), rawInt 1] }) rfl
  refine wpAny_newObj_type (wpAny_newFunctionEnv hcell (by intro y hy; simp at hy) (fun h₁ hns₁ hsb₁ => ?_) hkind)
  dsimp only at hns₁ hsb₁ ⊢
  generalize hD : H1.objs.size = D at *
  generalize hH2 : H1.push { cls := .type "list", dict := none, data := .seq ([] : List Value).toArray } = H2 at hns₁ hsb₁ ⊢
  have hCv : H2.objs.size = D + 1 := by rw [← hH2, Heap.size_push, hD]
  generalize hC : H2.objs.size = C at *
  have bel1 : ∀ b o, H1.get? b = some o → b ≠ D ∧ b ≠ C := fun b o e => by
    have := Heap.lt_size e
    rw [hD] at this
    exact ⟨Nat.ne_of_lt this, hCv ▸ Nat.ne_of_lt (Nat.lt_succ_of_lt this)⟩
  have hDC : D ≠ C := hCv ▸ Nat.ne_of_lt (Nat.lt_succ_self _)
  have old : ∀ b o, H1.get? b = some o → h₁.get? b = some o := fun b o e => hsb₁.extBut b o (bel1 b o e).2 (Heap.get?_push_of_some _ (hH2 ▸ Heap.get?_push_of_some _ e))
  have hacc : h₁.get? D = some (LCg.lst []) := hsb₁.extBut _ _ hDC (Heap.get?_push_of_some _ (by rw [← hH2, ← hD]; exact Heap.get?_push_size _ rfl))
  have hID := (bel1 I _ hit1).1
  have hIC := (bel1 I _ hit1).2
  have hF1 : Fr h₀ L H1 m := F.keeps up1
  obtain ⟨oL, _, _, hoL, _⟩ := hF1.ns
  have hDL : D ≠ L := Ne.symm (bel1 L _ hoL).1
  have hCL : C ≠ L := Ne.symm (bel1 L _ hoL).2
  have fresh₀ : ∀ a, (∀ b o, H1.get? b = some o → b ≠ a) → h₀.get? a = none := fun a ha => by
    cases e : h₀.get? a with
    | none => rfl
    | some o' => exact absurd rfl (ha a o' (hF1.keep a o' e))
  have hD0 : h₀.get? D = none := fresh₀ D fun b o e => (bel1 b o e).1
  have hC0 : h₀.get? C = none := fresh₀ C fun b o e => (bel1 b o e).2
  have off₀ : LCg.Off3 I C D news := LCg.Off3.of fun p hp => ⟨offI p hp, (bel1 _ _ (up1 _ _ (N p hp).1)).2, (bel1 _ _ (up1 _ _ (N p hp).1)).1⟩
  have off3 := off₀.mem
  have ne : (@Ne Nat I C) ∧ (@Ne Nat I D) ∧ (@Ne Nat C D) := ⟨hIC, hID, Ne.symm hDC⟩
  have loop : ∀ s₃ : Shared, s₃ = { s₁ with heap := h₁, toks := s₁.toks + ([] : List (Str × Value)).length } →
      codeAny (model prog w) A (.compLoop (.ListComp elt [⟨.Name y py, i0, [], 0⟩, ⟨.Name x px, i1, [], 0⟩] scope pos) 0 (.ref I) (.ref D) (compEnvC scope cl C env)) (compPost (model prog w) A E none Q (.ref D) C) s₃ := by
    rintro s₃ rfl
    refine comp2_outer (fun q s' => ∃ h' tk' j zs m', s' = { s₁ with heap := h', toks := tk' } ∧ j ≤ n ∧ q = n + 1 - j ∧ IntsAre zs (gridG g n j) ∧ IsRangeIter h' I (0 + (j : Nat) * 1) ((n : Int) - (j : Nat)) 1 ∧ Fr h₀ L h' m ∧ News h₀ L h' ((D, LCg.lst zs) :: news) ∧ h'.Ns C m')
      ?_ (n + 1) ⟨h₁, _, 0, [], _, rfl, Nat.zero_le _, rfl, .nil, old I _ hit1, hF1.keeps old, fun p hp => ?_, hns₁⟩ (fun _ => rfl) (hs1 C)
    · rintro q s' E' ⟨h', tk', j, zs, m', rfl, hj, rfl, hzs, st, F', N', hC'⟩
      by_cases hlt : j < n
      · refine W.item j _ _ _ hlt st fun v h₂ tk₂ hv st₂ hk₂ => ?_
        obtain ⟨ty, rfl⟩ := hv
        have F₂ : Fr h₀ L h₂ m := LCg.fr_but F' hk₂ hLI hI0
        have N₂ : News h₀ L h₂ ((D, LCg.lst zs) :: news) := LCg.news_but N' hk₂ fun p hp => by
          refine (List.mem_cons.mp hp).elim (fun e9 => ?_) fun hp => ?_
          · rw [e9]; exact Ne.symm hID
          · exact offI p hp
        have hC₂ : h₂.Ns C m' := hC'.at' fun o e => hk₂ _ o (by simpa using Ne.symm hIC) e
        dsimp only
        refine wpAny_assign_Name (wpAny_storeName_local (lookup_relabel_local hy) hC₂ (fun h₃ hn₃ hs₃ => ?_) (by simp [compEnvC, relabel, hkind]))
        obtain ⟨oC, heC, hoC⟩ := LCg.ns_obj hn₃
        have F₃ : Fr h₀ L h₃ m := F₂.change hs₃ hCL hC0
        have hsI : h₃.get? I = some (itR (0 + ((j + 1 : Nat) : Int) * 1) ((n : Int) - ((j + 1 : Nat) : Int))) := hs₃.extBut I _ hIC st₂
        have N₃ : News h₀ L h₃ ((I, itR (0 + ((j + 1 : Nat) : Int) * 1) ((n : Int) - ((j + 1 : Nat) : Int))) :: (C, oC) :: (D, LCg.lst zs) :: news) := fun p hp => by
          refine (List.mem_cons.mp hp).elim (fun e9 => ?_) fun hp => ?_
          · rw [e9]; exact ⟨hsI, Ne.symm hLI, hI0⟩
          · refine (List.mem_cons.mp hp).elim (fun e9 => ?_) fun hp => ?_
            · rw [e9]; exact ⟨heC, hCL, hC0⟩
            · have z := N₂ p hp
              refine ⟨hs₃.extBut _ _ ?_ z.1, z.2⟩
              refine (List.mem_cons.mp hp).elim (fun e9 => ?_) fun hp => ?_
              · rw [e9]; exact hDC
              · exact (off3 p hp).2.1
        refine wpAny_mono (HI (0 + (j : Int)) ty I _ C oC D _ zs h₃ _ E' (by omega) (by omega) hoC (by simp) F₃ N₃ off₀ ne) (fun xv s₄ h₄ => ?_) fun _ _ e => e
        obtain ⟨r', h₄, tk₄, t', u', v', rfl, rfl, F₄, N₄, hr'⟩ := h₄
        have N₄' : News h₀ L h₄ ((I, itR (0 + ((j + 1 : Nat) : Int) * 1) ((n : Int) - ((j + 1 : Nat) : Int))) :: (D, LCg.lst zs) :: news) := fun p hp => by
          refine (List.mem_cons.mp hp).elim (fun e9 => ?_) fun hp => ?_
          · rw [e9]; exact N₄ _ (.head _)
          · exact N₄ p (.tail _ (.tail _ hp))
        have hC₄ : h₄.Ns C _ := hoC.ns (N₄ (C, oC) (.tail _ (.head _))).1
        have hgl := gridG_len g n j
        refine comp2_inner_walk (s := s₁) (j := j) (tj := ty) (pre := gridG g n j) hh hn hxy hkind hx hlt HE hr' F₄ N₄' hC₄ hCL hC0 (by simp) hzs (Nat.le_trans hgl (Nat.mul_le_mul_right _ hn)) off₀ ne ?_
        intro h₅ tk₅ m₅ ws F₅ N₅ hC₅ hws
        refine ⟨n + 1 - (j + 1), by omega, h₅, tk₅, j + 1, ws, m₅, rfl, hlt, rfl, hws, (N₅ (I, _) (.head _)).1, F₅, fun p hp => N₅ p (.tail _ hp), hC₅⟩
      · obtain rfl : j = n := Nat.le_antisymm hj (Nat.not_lt.mp hlt)
        refine W.done _ _ _ st fun h₂ tk₂ hk₂ => ?_
        have N₂ : News h₀ L h₂ ((D, LCg.lst zs) :: news) := LCg.news_but N' hk₂ fun p hp => by
          refine (List.mem_cons.mp hp).elim (fun e9 => ?_) fun hp => ?_
          · rw [e9]; exact Ne.symm hID
          · exact offI p hp
        refine ⟨m', hC'.at' fun o e => hk₂ _ o (by simpa using Ne.symm hIC) e, fun h'' hs'' => HF zs D h'' tk₂ hzs ((LCg.fr_but F' hk₂ hLI hI0).change hs'' hCL hC0) (fun p hp => ?_) off₀.one⟩
        refine ⟨hs''.extBut _ _ ?_ (N₂ p hp).1, (N₂ p hp).2⟩
        refine (List.mem_cons.mp hp).elim (fun e9 => ?_) fun hp => ?_
        · rw [e9]; exact hDC
        · exact (off3 p hp).2.1
    · refine (List.mem_cons.mp hp).elim (fun e9 => ?_) fun hp => ?_
      · rw [e9]; exact ⟨hacc, hDL, hD0⟩
      · exact ⟨old _ _ (up1 _ _ (N p hp).1), (N p hp).2⟩
  exact codeAny_compStart_list (loop _ rfl) (W.self 0 _ _ _ (old I _ hit1) (loop _ rfl))
end
/-- a block told the other way about, as the law does it -/
def gridT (ns : List Int) (n : Nat) : List Int := gridG (fun y x => ns.getD (Int.toNat (x * (n : Int) + y)) 0) n n
theorem c_lturned8 (w : World) (news : List (Addr × Obj)) (l : Addr) (k : Nat) (vs : List Value) (ns : List Int) (t : Tok) (hl : (l, listOf vs.toArray k) ∈ news) (hi : IntsAre vs ns) (hn : ns.length = 64) :
    Owes 5 w 256 [.ref l, .int 8 t] news (fun h₀ L m s Q => LRet h₀ L m news s Q (gridT ns 8)) := by
  unfold Owes
  w_top off
  k_with_none
  k_with "my off" => (first | assumption | exact off1_lt (by tbn_lt) | exact (by assumption : _ ∧ LCg.Off1 _ _).2 | exact (by assumption : _ ∧ _ ∧ LCg.Off1 _ _).2.2 | exact (by assumption : _ ∧ _ ∧ _ ∧ LCg.Off1 _ _).2.2.2 | exact (by assumption : _ ∧ _ ∧ _ ∧ _ ∧ LCg.Off1 _ _).2.2.2.2 | exact (by assumption : _ ∧ _ ∧ _ ∧ _ ∧ _ ∧ LCg.Off1 _ _).2.2.2.2.2 | exact (by assumption : _ ∧ _ ∧ _ ∧ _ ∧ _ ∧ _ ∧ LCg.Off1 _ _).2.2.2.2.2.2 | exact (by assumption : _ ∧ _ ∧ _ ∧ _ ∧ _ ∧ _ ∧ _ ∧ LCg.Off1 _ _).2.2.2.2.2.2.2 | exact (by assumption : _ ∧ _ ∧ _ ∧ _ ∧ _ ∧ _ ∧ _ ∧ _ ∧ LCg.Off1 _ _).2.2.2.2.2.2.2.2 | exact (by assumption : _ ∧ _ ∧ _ ∧ _ ∧ _ ∧ _ ∧ _ ∧ _ ∧ _ ∧ LCg.Off1 _ _).2.2.2.2.2.2.2.2.2 | exact (by assumption : _ ∧ _ ∧ _ ∧ _ ∧ _ ∧ _ ∧ _ ∧ _ ∧ _ ∧ _ ∧ LCg.Off1 _ _).2.2.2.2.2.2.2.2.2.2 | exact (by assumption : _ ∧ _ ∧ _ ∧ _ ∧ _ ∧ _ ∧ _ ∧ _ ∧ _ ∧ _ ∧ _ ∧ LCg.Off1 _ _).2.2.2.2.2.2.2.2.2.2.2 | exact (by assumption : _ ∧ _ ∧ _ ∧ _ ∧ _ ∧ _ ∧ _ ∧ _ ∧ _ ∧ _ ∧ _ ∧ _ ∧ LCg.Off1 _ _).2.2.2.2.2.2.2.2.2.2.2.2 | exact (by assumption : _ ∧ _ ∧ _ ∧ _ ∧ _ ∧ _ ∧ _ ∧ _ ∧ _ ∧ _ ∧ _ ∧ _ ∧ _ ∧ LCg.Off1 _ _).2.2.2.2.2.2.2.2.2.2.2.2.2 | exact (by assumption : _ ∧ _ ∧ _ ∧ _ ∧ _ ∧ _ ∧ _ ∧ _ ∧ _ ∧ _ ∧ _ ∧ _ ∧ _ ∧ _ ∧ LCg.Off1 _ _).2.2.2.2.2.2.2.2.2.2.2.2.2.2 | exact (by assumption : _ ∧ _ ∧ _ ∧ _ ∧ _ ∧ _ ∧ _ ∧ _ ∧ _ ∧ _ ∧ _ ∧ _ ∧ _ ∧ _ ∧ _ ∧ LCg.Off1 _ _).2.2.2.2.2.2.2.2.2.2.2.2.2.2.2 | exact (by assumption : _ ∧ _ ∧ _ ∧ _ ∧ _ ∧ _ ∧ _ ∧ _ ∧ _ ∧ _ ∧ _ ∧ _ ∧ _ ∧ _ ∧ _ ∧ _ ∧ LCg.Off1 _ _).2.2.2.2.2.2.2.2.2.2.2.2.2.2.2.2 | exact (by assumption : _ ∧ _ ∧ _ ∧ _ ∧ _ ∧ _ ∧ _ ∧ _ ∧ _ ∧ _ ∧ _ ∧ _ ∧ _ ∧ _ ∧ _ ∧ _ ∧ _ ∧ LCg.Off1 _ _).2.2.2.2.2.2.2.2.2.2.2.2.2.2.2.2.2 | exact (by assumption : _ ∧ _ ∧ _ ∧ _ ∧ _ ∧ _ ∧ _ ∧ _ ∧ _ ∧ _ ∧ _ ∧ _ ∧ _ ∧ _ ∧ _ ∧ _ ∧ _ ∧ _ ∧ LCg.Off1 _ _).2.2.2.2.2.2.2.2.2.2.2.2.2.2.2.2.2.2 | exact (by assumption : _ ∧ _ ∧ _ ∧ _ ∧ _ ∧ _ ∧ _ ∧ _ ∧ _ ∧ _ ∧ _ ∧ _ ∧ _ ∧ _ ∧ _ ∧ _ ∧ _ ∧ _ ∧ _ ∧ LCg.Off1 _ _).2.2.2.2.2.2.2.2.2.2.2.2.2.2.2.2.2.2.2 | exact (by assumption : _ ∧ _ ∧ _ ∧ _ ∧ _ ∧ _ ∧ _ ∧ _ ∧ _ ∧ _ ∧ _ ∧ _ ∧ _ ∧ _ ∧ _ ∧ _ ∧ _ ∧ _ ∧ _ ∧ _ ∧ LCg.Off1 _ _).2.2.2.2.2.2.2.2.2.2.2.2.2.2.2.2.2.2.2.2)
  k_with "lcg_off" => (first | assumption | exact (by assumption : _ ∧ LCg.Off3 _ _ _ _).2 | exact (by assumption : _ ∧ _ ∧ LCg.Off3 _ _ _ _).2.2 | exact (by assumption : _ ∧ _ ∧ _ ∧ LCg.Off3 _ _ _ _).2.2.2 | exact (by assumption : _ ∧ _ ∧ _ ∧ _ ∧ LCg.Off3 _ _ _ _).2.2.2.2 | exact (by assumption : _ ∧ _ ∧ _ ∧ _ ∧ _ ∧ LCg.Off3 _ _ _ _).2.2.2.2.2 | exact (by assumption : _ ∧ _ ∧ _ ∧ _ ∧ _ ∧ _ ∧ LCg.Off3 _ _ _ _).2.2.2.2.2.2 | exact (by assumption : _ ∧ _ ∧ _ ∧ _ ∧ _ ∧ _ ∧ _ ∧ LCg.Off3 _ _ _ _).2.2.2.2.2.2.2 | exact (by assumption : _ ∧ _ ∧ _ ∧ _ ∧ _ ∧ _ ∧ _ ∧ _ ∧ LCg.Off3 _ _ _ _).2.2.2.2.2.2.2.2 | exact (by assumption : _ ∧ _ ∧ _ ∧ _ ∧ _ ∧ _ ∧ _ ∧ _ ∧ _ ∧ LCg.Off3 _ _ _ _).2.2.2.2.2.2.2.2.2 | exact (by assumption : _ ∧ _ ∧ _ ∧ _ ∧ _ ∧ _ ∧ _ ∧ _ ∧ _ ∧ _ ∧ LCg.Off3 _ _ _ _).2.2.2.2.2.2.2.2.2.2 | exact (by assumption : _ ∧ _ ∧ _ ∧ _ ∧ _ ∧ _ ∧ _ ∧ _ ∧ _ ∧ _ ∧ _ ∧ LCg.Off3 _ _ _ _).2.2.2.2.2.2.2.2.2.2.2 | exact (by assumption : _ ∧ _ ∧ _ ∧ _ ∧ _ ∧ _ ∧ _ ∧ _ ∧ _ ∧ _ ∧ _ ∧ _ ∧ LCg.Off3 _ _ _ _).2.2.2.2.2.2.2.2.2.2.2.2 | exact (by assumption : _ ∧ _ ∧ _ ∧ _ ∧ _ ∧ _ ∧ _ ∧ _ ∧ _ ∧ _ ∧ _ ∧ _ ∧ _ ∧ LCg.Off3 _ _ _ _).2.2.2.2.2.2.2.2.2.2.2.2.2 | exact (by assumption : _ ∧ _ ∧ _ ∧ _ ∧ _ ∧ _ ∧ _ ∧ _ ∧ _ ∧ _ ∧ _ ∧ _ ∧ _ ∧ _ ∧ LCg.Off3 _ _ _ _).2.2.2.2.2.2.2.2.2.2.2.2.2.2 | exact (by assumption : _ ∧ _ ∧ _ ∧ _ ∧ _ ∧ _ ∧ _ ∧ _ ∧ _ ∧ _ ∧ _ ∧ _ ∧ _ ∧ _ ∧ _ ∧ LCg.Off3 _ _ _ _).2.2.2.2.2.2.2.2.2.2.2.2.2.2.2 | exact (by assumption : _ ∧ _ ∧ _ ∧ _ ∧ _ ∧ _ ∧ _ ∧ _ ∧ _ ∧ _ ∧ _ ∧ _ ∧ _ ∧ _ ∧ _ ∧ _ ∧ LCg.Off3 _ _ _ _).2.2.2.2.2.2.2.2.2.2.2.2.2.2.2.2 | exact (by assumption : _ ∧ _ ∧ _ ∧ _ ∧ _ ∧ _ ∧ _ ∧ _ ∧ _ ∧ _ ∧ _ ∧ _ ∧ _ ∧ _ ∧ _ ∧ _ ∧ _ ∧ LCg.Off3 _ _ _ _).2.2.2.2.2.2.2.2.2.2.2.2.2.2.2.2.2 | exact (by assumption : _ ∧ _ ∧ _ ∧ _ ∧ _ ∧ _ ∧ _ ∧ _ ∧ _ ∧ _ ∧ _ ∧ _ ∧ _ ∧ _ ∧ _ ∧ _ ∧ _ ∧ _ ∧ LCg.Off3 _ _ _ _).2.2.2.2.2.2.2.2.2.2.2.2.2.2.2.2.2.2 | exact (by assumption : _ ∧ _ ∧ _ ∧ _ ∧ _ ∧ _ ∧ _ ∧ _ ∧ _ ∧ _ ∧ _ ∧ _ ∧ _ ∧ _ ∧ _ ∧ _ ∧ _ ∧ _ ∧ _ ∧ LCg.Off3 _ _ _ _).2.2.2.2.2.2.2.2.2.2.2.2.2.2.2.2.2.2.2 | exact (by assumption : _ ∧ _ ∧ _ ∧ _ ∧ _ ∧ _ ∧ _ ∧ _ ∧ _ ∧ _ ∧ _ ∧ _ ∧ _ ∧ _ ∧ _ ∧ _ ∧ _ ∧ _ ∧ _ ∧ _ ∧ LCg.Off3 _ _ _ _).2.2.2.2.2.2.2.2.2.2.2.2.2.2.2.2.2.2.2.2)
  k_fill
  intro mean mg mb dp un gd cn cs av ccd cl outer A₀ base h₀ L m s Q E B F X N T hk hd hu hret
  have hvl : vs.length = 64 := hi.length.trans hn
  replace N := news_dup N hl
  clear hl
  refine wpAny_call ?_
  k_dflt (walk_at "my enter")
  repeat' ((fail_if_success (with_reducible show wpAny _ _ (eval (Expr.ListComp _ _ _ _) _) _ _ _)); first | (k_unfold; (try dsimp only)) | (k_end; wrow_close) | walk1 | (dsimp only; walk1) | (leave1; walk_say "STEP leave1"; try dsimp only) | fail "no step")
  refine comp2_range (n := 8) (fun y x => ns.getD (Int.toNat (x * 8 + y)) 0) (by k_asm) (by decide) (by decide) (by with_unfolding_all rfl) (by decide) (by rfl) (by decide) (by rfl) (by rfl) ?_ (fun _ => rfl) (fun _ _ => rfl)
  repeat' ((fail_if_success (with_reducible show Q _ _)); (fail_if_success (with_reducible show TurnK _ _ _ _ _ _ _ _ _ _ _ _)); first | (k_unfold; (try dsimp only)) | (k_end; wrow_close) | walk1 | (dsimp only; walk1) | (leave1; walk_say "STEP leave1"; try dsimp only) | fail "no step")
  refine ⟨_, _, _, _, _, rfl, rfl, by assumption, by assumption, by assumption, ?_, ?_, ?_⟩
  · intro j tj I oI C oC D m₂ ys hI tkI E' hj0 hj1 hC hx F1 N1 off ne
    repeat' ((fail_if_success (with_reducible show Q _ _)); (fail_if_success (with_reducible show TurnK _ _ _ _ _ _ _ _ _ _ _ _)); first | (k_unfold; (try dsimp only)) | (k_end; wrow_close) | walk1 | (dsimp only; walk1) | (leave1; walk_say "STEP leave1"; try dsimp only) | fail "no step")
    exact ⟨_, _, _, _, _, _, rfl, rfl, by assumption, by assumption, by assumption⟩
  · intro j k' tj tk' J oJ I oI C oC D m₂ ys hI tkI E' hj0 hj1 hk0 hk1 hC hy hx F1 N1 off ne
    replace hj1 : j < 8 := hj1
    replace hk1 : k' < 8 := hk1
    repeat' ((fail_if_success (with_reducible show Q _ _)); (fail_if_success (with_reducible show TurnK _ _ _ _ _ _ _ _ _ _ _ _)); first | (k_unfold; (try dsimp only)) | (k_end; wrow_close) | walk1 | (dsimp only; walk1) | (leave1; walk_say "STEP leave1"; try dsimp only) | fail "no step")
    exact ⟨_, _, _, rfl, rfl, F1, N1⟩
  · intro ys D hI tkI hys F1 N1 off
    repeat' ((fail_if_success (with_reducible show Q _ _)); (fail_if_success (with_reducible show TurnK _ _ _ _ _ _ _ _ _ _ _ _)); first | (k_unfold; (try dsimp only)) | (k_end; wrow_close) | walk1 | (dsimp only; walk1) | (leave1; walk_say "STEP leave1"; try dsimp only) | fail "no step")
    simp only [LCg.Off1] at off
    exact hret _ _ _ _ _ (by assumption) (cb_drop (by assumption) (List.forall_mem_cons.mpr ⟨by k_dflt k_mem, by (intro p9 h9; repeat (first | exact h9 | refine List.Mem.tail _ ?_))⟩)) (by walk_at "my off") hys
theorem c_lturned4 (w : World) (news : List (Addr × Obj)) (l : Addr) (k : Nat) (vs : List Value) (ns : List Int) (t : Tok) (hl : (l, listOf vs.toArray k) ∈ news) (hi : IntsAre vs ns) (hn : ns.length = 16) :
    Owes 5 w 256 [.ref l, .int 4 t] news (fun h₀ L m s Q => LRet h₀ L m news s Q (gridT ns 4)) := by
  unfold Owes
  w_top off
  k_fill
  intro mean mg mb dp un gd cn cs av ccd cl outer A₀ base h₀ L m s Q E B F X N T hk hd hu hret
  have hvl : vs.length = 16 := hi.length.trans hn
  replace N := news_dup N hl
  clear hl
  refine wpAny_call ?_
  k_dflt (walk_at "my enter")
  repeat' ((fail_if_success (with_reducible show wpAny _ _ (eval (Expr.ListComp _ _ _ _) _) _ _ _)); first | (k_unfold; (try dsimp only)) | (k_end; wrow_close) | walk1 | (dsimp only; walk1) | (leave1; walk_say "STEP leave1"; try dsimp only) | fail "no step")
  refine comp2_range (n := 4) (fun y x => ns.getD (Int.toNat (x * 4 + y)) 0) (by k_asm) (by decide) (by decide) (by with_unfolding_all rfl) (by decide) (by rfl) (by decide) (by rfl) (by rfl) ?_ (fun _ => rfl) (fun _ _ => rfl)
  repeat' ((fail_if_success (with_reducible show Q _ _)); (fail_if_success (with_reducible show TurnK _ _ _ _ _ _ _ _ _ _ _ _)); first | (k_unfold; (try dsimp only)) | (k_end; wrow_close) | walk1 | (dsimp only; walk1) | (leave1; walk_say "STEP leave1"; try dsimp only) | fail "no step")
  refine ⟨_, _, _, _, _, rfl, rfl, by assumption, by assumption, by assumption, ?_, ?_, ?_⟩
  · intro j tj I oI C oC D m₂ ys hI tkI E' hj0 hj1 hC hx F1 N1 off ne
    repeat' ((fail_if_success (with_reducible show Q _ _)); (fail_if_success (with_reducible show TurnK _ _ _ _ _ _ _ _ _ _ _ _)); first | (k_unfold; (try dsimp only)) | (k_end; wrow_close) | walk1 | (dsimp only; walk1) | (leave1; walk_say "STEP leave1"; try dsimp only) | fail "no step")
    exact ⟨_, _, _, _, _, _, rfl, rfl, by assumption, by assumption, by assumption⟩
  · intro j k' tj tk' J oJ I oI C oC D m₂ ys hI tkI E' hj0 hj1 hk0 hk1 hC hy hx F1 N1 off ne
    replace hj1 : j < 4 := hj1
    replace hk1 : k' < 4 := hk1
    repeat' ((fail_if_success (with_reducible show Q _ _)); (fail_if_success (with_reducible show TurnK _ _ _ _ _ _ _ _ _ _ _ _)); first | (k_unfold; (try dsimp only)) | (k_end; wrow_close) | walk1 | (dsimp only; walk1) | (leave1; walk_say "STEP leave1"; try dsimp only) | fail "no step")
    exact ⟨_, _, _, rfl, rfl, F1, N1⟩
  · intro ys D hI tkI hys F1 N1 off
    repeat' ((fail_if_success (with_reducible show Q _ _)); (fail_if_success (with_reducible show TurnK _ _ _ _ _ _ _ _ _ _ _ _)); first | (k_unfold; (try dsimp only)) | (k_end; wrow_close) | walk1 | (dsimp only; walk1) | (leave1; walk_say "STEP leave1"; try dsimp only) | fail "no step")
    simp only [LCg.Off1] at off
    exact hret _ _ _ _ _ (by assumption) (cb_drop (by assumption) (List.forall_mem_cons.mpr ⟨by k_dflt k_mem, by (intro p9 h9; repeat (first | exact h9 | refine List.Mem.tail _ ?_))⟩)) (by walk_at "my off") hys
theorem c_lturned2 (w : World) (news : List (Addr × Obj)) (l : Addr) (k : Nat) (vs : List Value) (ns : List Int) (t : Tok) (hl : (l, listOf vs.toArray k) ∈ news) (hi : IntsAre vs ns) (hn : ns.length = 4) :
    Owes 5 w 256 [.ref l, .int 2 t] news (fun h₀ L m s Q => LRet h₀ L m news s Q (gridT ns 2)) := by
  unfold Owes
  w_top off
  k_fill
  intro mean mg mb dp un gd cn cs av ccd cl outer A₀ base h₀ L m s Q E B F X N T hk hd hu hret
  have hvl : vs.length = 4 := hi.length.trans hn
  replace N := news_dup N hl
  clear hl
  refine wpAny_call ?_
  k_dflt (walk_at "my enter")
  repeat' ((fail_if_success (with_reducible show wpAny _ _ (eval (Expr.ListComp _ _ _ _) _) _ _ _)); first | (k_unfold; (try dsimp only)) | (k_end; wrow_close) | walk1 | (dsimp only; walk1) | (leave1; walk_say "STEP leave1"; try dsimp only) | fail "no step")
  refine comp2_range (n := 2) (fun y x => ns.getD (Int.toNat (x * 2 + y)) 0) (by k_asm) (by decide) (by decide) (by with_unfolding_all rfl) (by decide) (by rfl) (by decide) (by rfl) (by rfl) ?_ (fun _ => rfl) (fun _ _ => rfl)
  repeat' ((fail_if_success (with_reducible show Q _ _)); (fail_if_success (with_reducible show TurnK _ _ _ _ _ _ _ _ _ _ _ _)); first | (k_unfold; (try dsimp only)) | (k_end; wrow_close) | walk1 | (dsimp only; walk1) | (leave1; walk_say "STEP leave1"; try dsimp only) | fail "no step")
  refine ⟨_, _, _, _, _, rfl, rfl, by assumption, by assumption, by assumption, ?_, ?_, ?_⟩
  · intro j tj I oI C oC D m₂ ys hI tkI E' hj0 hj1 hC hx F1 N1 off ne
    repeat' ((fail_if_success (with_reducible show Q _ _)); (fail_if_success (with_reducible show TurnK _ _ _ _ _ _ _ _ _ _ _ _)); first | (k_unfold; (try dsimp only)) | (k_end; wrow_close) | walk1 | (dsimp only; walk1) | (leave1; walk_say "STEP leave1"; try dsimp only) | fail "no step")
    exact ⟨_, _, _, _, _, _, rfl, rfl, by assumption, by assumption, by assumption⟩
  · intro j k' tj tk' J oJ I oI C oC D m₂ ys hI tkI E' hj0 hj1 hk0 hk1 hC hy hx F1 N1 off ne
    replace hj1 : j < 2 := hj1
    replace hk1 : k' < 2 := hk1
    repeat' ((fail_if_success (with_reducible show Q _ _)); (fail_if_success (with_reducible show TurnK _ _ _ _ _ _ _ _ _ _ _ _)); first | (k_unfold; (try dsimp only)) | (k_end; wrow_close) | walk1 | (dsimp only; walk1) | (leave1; walk_say "STEP leave1"; try dsimp only) | fail "no step")
    exact ⟨_, _, _, rfl, rfl, F1, N1⟩
  · intro ys D hI tkI hys F1 N1 off
    repeat' ((fail_if_success (with_reducible show Q _ _)); (fail_if_success (with_reducible show TurnK _ _ _ _ _ _ _ _ _ _ _ _)); first | (k_unfold; (try dsimp only)) | (k_end; wrow_close) | walk1 | (dsimp only; walk1) | (leave1; walk_say "STEP leave1"; try dsimp only) | fail "no step")
    simp only [LCg.Off1] at off
    exact hret _ _ _ _ _ (by assumption) (cb_drop (by assumption) (List.forall_mem_cons.mpr ⟨by k_dflt k_mem, by (intro p9 h9; repeat (first | exact h9 | refine List.Mem.tail _ ?_))⟩)) (by walk_at "my off") hys
theorem c_lturned1 (w : World) (news : List (Addr × Obj)) (l : Addr) (k : Nat) (vs : List Value) (ns : List Int) (t : Tok) (hl : (l, listOf vs.toArray k) ∈ news) (hi : IntsAre vs ns) (hn : ns.length = 1) :
    Owes 5 w 256 [.ref l, .int 1 t] news (fun h₀ L m s Q => LRet h₀ L m news s Q (gridT ns 1)) := by
  unfold Owes
  w_top off
  k_fill
  intro mean mg mb dp un gd cn cs av ccd cl outer A₀ base h₀ L m s Q E B F X N T hk hd hu hret
  have hvl : vs.length = 1 := hi.length.trans hn
  replace N := news_dup N hl
  clear hl
  refine wpAny_call ?_
  k_dflt (walk_at "my enter")
  repeat' ((fail_if_success (with_reducible show wpAny _ _ (eval (Expr.ListComp _ _ _ _) _) _ _ _)); first | (k_unfold; (try dsimp only)) | (k_end; wrow_close) | walk1 | (dsimp only; walk1) | (leave1; walk_say "STEP leave1"; try dsimp only) | fail "no step")
  refine comp2_range (n := 1) (fun y x => ns.getD (Int.toNat (x * 1 + y)) 0) (by k_asm) (by decide) (by decide) (by with_unfolding_all rfl) (by decide) (by rfl) (by decide) (by rfl) (by rfl) ?_ (fun _ => rfl) (fun _ _ => rfl)
  repeat' ((fail_if_success (with_reducible show Q _ _)); (fail_if_success (with_reducible show TurnK _ _ _ _ _ _ _ _ _ _ _ _)); first | (k_unfold; (try dsimp only)) | (k_end; wrow_close) | walk1 | (dsimp only; walk1) | (leave1; walk_say "STEP leave1"; try dsimp only) | fail "no step")
  refine ⟨_, _, _, _, _, rfl, rfl, by assumption, by assumption, by assumption, ?_, ?_, ?_⟩
  · intro j tj I oI C oC D m₂ ys hI tkI E' hj0 hj1 hC hx F1 N1 off ne
    repeat' ((fail_if_success (with_reducible show Q _ _)); (fail_if_success (with_reducible show TurnK _ _ _ _ _ _ _ _ _ _ _ _)); first | (k_unfold; (try dsimp only)) | (k_end; wrow_close) | walk1 | (dsimp only; walk1) | (leave1; walk_say "STEP leave1"; try dsimp only) | fail "no step")
    exact ⟨_, _, _, _, _, _, rfl, rfl, by assumption, by assumption, by assumption⟩
  · intro j k' tj tk' J oJ I oI C oC D m₂ ys hI tkI E' hj0 hj1 hk0 hk1 hC hy hx F1 N1 off ne
    replace hj1 : j < 1 := hj1
    replace hk1 : k' < 1 := hk1
    repeat' ((fail_if_success (with_reducible show Q _ _)); (fail_if_success (with_reducible show TurnK _ _ _ _ _ _ _ _ _ _ _ _)); first | (k_unfold; (try dsimp only)) | (k_end; wrow_close) | walk1 | (dsimp only; walk1) | (leave1; walk_say "STEP leave1"; try dsimp only) | fail "no step")
    exact ⟨_, _, _, rfl, rfl, F1, N1⟩
  · intro ys D hI tkI hys F1 N1 off
    repeat' ((fail_if_success (with_reducible show Q _ _)); (fail_if_success (with_reducible show TurnK _ _ _ _ _ _ _ _ _ _ _ _)); first | (k_unfold; (try dsimp only)) | (k_end; wrow_close) | walk1 | (dsimp only; walk1) | (leave1; walk_say "STEP leave1"; try dsimp only) | fail "no step")
    simp only [LCg.Off1] at off
    exact hret _ _ _ _ _ (by assumption) (cb_drop (by assumption) (List.forall_mem_cons.mpr ⟨by k_dflt k_mem, by (intro p9 h9; repeat (first | exact h9 | refine List.Mem.tail _ ?_))⟩)) (by walk_at "my off") hys
section
variable {prog : Program} {w : World} {A : Around} {E : Value → Shared → Prop} {s : Shared} {h₀ : Heap} {L : Addr} {m : Str → Option Value} {env : Env}
theorem fr_wr {h h' : Heap} {wr : List Addr} (F : Fr h₀ L h m) (hk : ∀ b o, b ∉ wr → h.get? b = some o → h'.get? b = some o) (hL : L ∉ wr) (h0 : ∀ b ∈ wr, h₀.get? b = none) : Fr h₀ L h' m :=
  ⟨F.ns.at' fun o e => hk L o hL e, fun b o e => hk b o (fun q => by rw [h0 b q] at e; cases e) (F.keep b o e), F.above⟩
theorem news_wr {h h' : Heap} {wr : List Addr} {news : List (Addr × Obj)} (N : News h₀ L h news) (hk : ∀ b o, b ∉ wr → h.get? b = some o → h'.get? b = some o) (off : ∀ p ∈ news, p.1 ∉ wr) : News h₀ L h' news :=
  fun p hp => ⟨hk _ _ (off p hp) (N p hp).1, (N p hp).2⟩
/-- the state of a zip of two lists -/
def ZipSt (z TI TO i1 i2 l1 l2 : Addr) (xs ys : Array Value) (i : Nat) (h : Heap) : Prop :=
  IsZip h z TI TO .none ∧ IsPair h TI (.ref i1) (.ref i2) ∧ (∃ a b, IsPair h TO a b) ∧ h.IsListIter i1 l1 i ∧ h.IsListIter i2 l2 i ∧ h.IsList l1 xs ∧ h.IsList l2 ys
/-- what the walk of the element owes -/
def ElZ (prog : Program) (w : World) (A : Around) (h₀ : Heap) (L : Addr) (m : Str → Option Value) (env : Env) (elt : Expr) (xa xb : Str) (scope : Scope) (cl : List (Str × Addr)) (g : Int → Int → Int) (news : List (Addr × Obj)) (s : Shared) : Prop :=
  ∀ (a b : Int) ta tb C oC D m₂ ys z oz TI oT TO oO i1 o1 i2 o2 h tk (E' : Value → Shared → Prop), LCg.NsObj oC m₂ → m₂ xa = some (.int a ta) → m₂ xb = some (.int b tb) → Fr h₀ L h m → News h₀ L h ((C, oC) :: (D, LCg.lst ys) :: (z, oz) :: (TI, oT) :: (TO, oO) :: (i1, o1) :: (i2, o2) :: news) → LCg.Off1 C news → LCg.Off1 D news → (@Ne Nat C D) →
    wpAny (model prog w) A (eval elt (compEnvC scope cl C env)) (El2End h₀ L m (g a b) ((C, oC) :: (D, LCg.lst ys) :: (z, oz) :: (TI, oT) :: (TO, oO) :: (i1, o1) :: (i2, o2) :: news) s) E' { s with heap := h, toks := tk }
def SrcZ (prog : Program) (w : World) (A : Around) (h₀ : Heap) (L : Addr) (m : Str → Option Value) (env : Env) (elt : Expr) (xa xb : Str) (scope : Scope) (cl : List (Str × Addr)) (g : Int → Int → Int) (Q : Value → Shared → Prop) (xv : Value) (s₁ : Shared) : Prop :=
  ∃ z TI TO i1 i2 l1 l2 vs₁ vs₂ ns₁ ns₂ c1 c2 news, xv = .ref z ∧ A.handled = none ∧ ZipApart z TI TO i1 i2 l1 l2 ∧ ZipSt z TI TO i1 i2 l1 l2 (List.toArray vs₁) (List.toArray vs₂) 0 s₁.heap ∧ Fr h₀ L s₁.heap m ∧ News h₀ L s₁.heap news ∧
    IntsAre vs₁ ns₁ ∧ IntsAre vs₂ ns₂ ∧ ns₁.length = ns₂.length ∧ ns₁.length ≤ 4096 ∧ (l1, listOf (List.toArray vs₁) c1) ∈ news ∧ (l2, listOf (List.toArray vs₂) c2) ∈ news ∧ L ∉ [z, TI, TO, i1, i2] ∧ (∀ b ∈ [z, TI, TO, i1, i2], h₀.get? b = none) ∧ (∀ p ∈ news, p.1 ∉ [z, TO, i1, i2]) ∧
    ElZ prog w A h₀ L m env elt xa xb scope cl g news s₁ ∧
    ∀ ys D h tk, IntsAre ys (List.zipWith g ns₁ ns₂) → Fr h₀ L h m → News h₀ L h ((D, LCg.lst ys) :: news) → LCg.Off1 D news → Q (.ref D) { s₁ with heap := h, toks := tk }
theorem zip_take (g : Int → Int → Int) (as bs : List Int) (i : Nat) (a b : Int) (ha : as[i]? = some a) (hb : bs[i]? = some b) : (List.zipWith g as bs).take (i + 1) = (List.zipWith g as bs).take i ++ [g a b] := by
  rw [List.take_add_one]
  have : (List.zipWith g as bs)[i]? = some (g a b) := by rw [List.getElem?_zipWith, ha, hb]
  rw [this]; rfl
/-- [elt for left, right in zip(one, other)] -/
theorem comp_zip {elt iter : Expr} {xa xb : Str} {pa pb pt : Pos} {kt : Nat} {scope : Scope} {cl : List (Str × Addr)} {pos : Pos} (g : Int → Int → Int) {Q : Value → Shared → Prop} (_F₀ : Fr h₀ L s.heap m) (hab : xa ≠ xb)
    (hclos : closureFor scope env = pure cl) (hcell : ∀ z ∈ scope.names, z.2 ≠ .cell) (hkind : scope.kind = .function)
    (hnames : ∀ z ∈ scope.names, z.2 = .local → scope.names.lookup z.1 = some .local) (hxa : scope.names.lookup xa = some .local) (hxb : scope.names.lookup xb = some .local)
    (h : wpAny (model prog w) A (eval iter env) (SrcZ prog w A h₀ L m env elt xa xb scope cl g Q) E s)
    (hs0 : ∀ x, foldedSetIterable iter env x = pure x) :
    wpAny (model prog w) A (eval (.ListComp elt [⟨.Tuple [.Name xa pa, .Name xb pb] kt pt, iter, [], 0⟩] scope pos) env) Q E s := by
  rw [eval_ListComp]
  refine wpAny_comprehension_free (use := none) rfl hs0 hclos hkind hnames (wpAny_mono h (fun xv s₁ h₁ => ?_) fun _ _ e => e)
  obtain ⟨z, TI, TO, i1, i2, l1, l2, vs₁, vs₂, ns₁, ns₂, c1, c2, news, rfl, hh, DA, st0, F, N, hi1, hi2, hl, hle, hm1, hm2, hL5, h50, offw, HE, HF⟩ := h₁
  have sub5 : ∀ b ∈ [z, TO, i1, i2], b ∈ [z, TI, TO, i1, i2] := fun b hb => by
    simp only [List.mem_cons, List.not_mem_nil, or_false] at hb ⊢
    rcases hb with rfl | rfl | rfl | rfl <;> simp
  have hLw : L ∉ [z, TO, i1, i2] := fun q => hL5 (sub5 _ q)
  have hw0 : ∀ b ∈ [z, TO, i1, i2], h₀.get? b = none := fun b hb => h50 b (sub5 b hb)
  have W := WalksT.zip2 (prog := prog) (w := w) (A := A) hh z TI TO i1 i2 l1 l2 DA (List.toArray vs₁) (List.toArray vs₂)
  have hmin : min (List.toArray vs₁).size (List.toArray vs₂).size = ns₁.length := by rw [List.size_toArray, List.size_toArray, hi1.length, hi2.length]; omega
  rw [hmin] at W
  refine wpAny_pyIter_zip st0.1 ?_
  refine wpAny_newObj_type (wpAny_newFunctionEnv hcell (by intro y hy; simp at hy) (fun h₁ hns₁ hsb₁ => ?_) hkind)
  dsimp only at hns₁ hsb₁ ⊢
  generalize hD : s₁.heap.objs.size = D at *
  generalize hH2 : s₁.heap.push { cls := .type "list", dict := none, data := .seq ([] : List Value).toArray } = H2 at hns₁ hsb₁ ⊢
  have hCv : H2.objs.size = D + 1 := by rw [← hH2, Heap.size_push, hD]
  generalize hC : H2.objs.size = C at *
  have bel1 : ∀ b o, s₁.heap.get? b = some o → b ≠ D ∧ b ≠ C := fun b o e => by
    have := Heap.lt_size e
    rw [hD] at this
    exact ⟨Nat.ne_of_lt this, hCv ▸ Nat.ne_of_lt (Nat.lt_succ_of_lt this)⟩
  have hDC : D ≠ C := hCv ▸ Nat.ne_of_lt (Nat.lt_succ_self _)
  have old : ∀ b o, s₁.heap.get? b = some o → h₁.get? b = some o := fun b o e => hsb₁.extBut b o (bel1 b o e).2 (Heap.get?_push_of_some _ (hH2 ▸ Heap.get?_push_of_some _ e))
  have hacc : h₁.get? D = some (LCg.lst []) := hsb₁.extBut _ _ hDC (Heap.get?_push_of_some _ (by rw [← hH2, ← hD]; exact Heap.get?_push_size _ rfl))
  have fpb : ∀ b ∈ [z, TI, TO, i1, i2, l1, l2], b ≠ D ∧ b ≠ C := by
    obtain ⟨a1, a2, ⟨_, _, a3⟩, ⟨_, a4, _⟩, ⟨_, a5, _⟩, ⟨_, a6, _⟩, ⟨_, a7, _⟩⟩ := st0
    refine List.forall_mem_cons.mpr ⟨bel1 _ _ a1, ?_⟩
    refine List.forall_mem_cons.mpr ⟨bel1 _ _ a2, ?_⟩
    refine List.forall_mem_cons.mpr ⟨bel1 _ _ a3, ?_⟩
    refine List.forall_mem_cons.mpr ⟨bel1 _ _ a4, ?_⟩
    refine List.forall_mem_cons.mpr ⟨bel1 _ _ a5, ?_⟩
    refine List.forall_mem_cons.mpr ⟨bel1 _ _ a6, ?_⟩
    refine List.forall_mem_cons.mpr ⟨bel1 _ _ a7, ?_⟩
    exact fun _ h => nomatch h
  have wrb : ∀ b ∈ [z, TO, i1, i2], b ≠ D ∧ b ≠ C := fun b hb => fpb b (W.sub b hb)
  have hDw : D ∉ [z, TO, i1, i2] := fun q => (wrb D q).1 rfl
  have hCw : C ∉ [z, TO, i1, i2] := fun q => (wrb C q).2 rfl
  obtain ⟨oL, _, _, hoL, _⟩ := F.ns
  have hDL : D ≠ L := Ne.symm (bel1 L _ hoL).1
  have hCL : C ≠ L := Ne.symm (bel1 L _ hoL).2
  have fresh₀ : ∀ a, (∀ b o, s₁.heap.get? b = some o → b ≠ a) → h₀.get? a = none := fun a ha => by
    cases e : h₀.get? a with
    | none => rfl
    | some o' => exact absurd rfl (ha a o' (F.keep a o' e))
  have hD0 : h₀.get? D = none := fresh₀ D fun b o e => (bel1 b o e).1
  have hC0 : h₀.get? C = none := fresh₀ C fun b o e => (bel1 b o e).2
  have offD : LCg.Off1 D news := off1_of fun p hp => (bel1 _ _ (N p hp).1).1
  have offC : LCg.Off1 C news := off1_of fun p hp => (bel1 _ _ (N p hp).1).2
  have loop : ∀ s₃ : Shared, s₃ = { s₁ with heap := h₁, toks := s₁.toks + ([] : List (Str × Value)).length } →
      codeAny (model prog w) A (.compLoop (.ListComp elt [⟨.Tuple [.Name xa pa, .Name xb pb] kt pt, iter, [], 0⟩] scope pos) 0 (.ref z) (.ref D) (compEnvC scope cl C env)) (compPost (model prog w) A E none Q (.ref D) C) s₃ := by
    rintro s₃ rfl
    refine LCp.codeAny_compLoop_pair (fun q s' => ∃ h' tk' i zs m', s' = { s₁ with heap := h', toks := tk' } ∧ i ≤ ns₁.length ∧ q = ns₁.length + 1 - i ∧ IntsAre zs ((List.zipWith g ns₁ ns₂).take i) ∧ ZipSt z TI TO i1 i2 l1 l2 (List.toArray vs₁) (List.toArray vs₂) i h' ∧ Fr h₀ L h' m ∧ News h₀ L h' ((D, LCg.lst zs) :: news) ∧ h'.Ns C m')
      ?_ (ns₁.length + 1) ⟨h₁, _, 0, [], _, rfl, Nat.zero_le _, rfl, (by simpa using IntsAre.nil), W.frame _ _ _ st0 fun b _ o e => old b o e, F.keeps old, fun p hp => ?_, hns₁⟩
    · rintro q s' ⟨h', tk', i, zs, m', rfl, hi, rfl, hzs, st, F', N', hC'⟩
      by_cases hlt : i < ns₁.length
      · refine W.item i _ _ _ hlt st fun T vals h₂ tk₂ hP hTs hT hM hk₂ => ?_
        obtain ⟨x, y, hx, hy, rfl⟩ := hP
        have hT₂ := hT
        have hoffN : ∀ p ∈ (D, LCg.lst zs) :: news, p.1 ∉ [z, TO, i1, i2] := fun p hp => by
          refine (List.mem_cons.mp hp).elim (fun e9 => ?_) fun hp => ?_
          · rw [e9]; exact hDw
          · exact offw p hp
        refine W.go _ _ _ i T _ _ _ hM fun h₃ st₃ hk₃ => ?_
        have F₃ : Fr h₀ L h₃ m := fr_wr (fr_wr F' hk₂ hLw hw0) hk₃ hLw hw0
        have N₃ : News h₀ L h₃ ((D, LCg.lst zs) :: news) := news_wr (news_wr N' hk₂ hoffN) hk₃ hoffN
        have hC₃ : h₃.Ns C m' := (hC'.at' fun o e => hk₂ _ o hCw e).at' fun o e => hk₃ _ o hCw e
        have hT₃ : h₃.IsTuple T #[x, y] := hT.at fun o e => hk₃ _ o (W.apart _ _ _ hM) e
        refine assign_Tuple_tuple hh hT₃ rfl rfl fun h₅ he => ?_
        have he' : ∀ b o, h₃.get? b = some o → h₅.get? b = some o := fun b o e => he b o (Nat.ne_of_lt (Heap.lt_size e)) e
        refine assignInOrder_cons (wpAny_assign_Name (wpAny_storeName_local (lookup_relabel_local hxa) (hC₃.at' fun o e => he' _ o e) (fun h₆ hn₆ hs₆ => ?_) (by simp [compEnvC, relabel, hkind])))
        refine assignInOrder_cons (wpAny_assign_Name (wpAny_storeName_local (lookup_relabel_local hxb) hn₆ (fun h₇ hn₇ hs₇ => ?_) (by simp [compEnvC, relabel, hkind])))
        refine assignInOrder_nil ?_
        obtain ⟨oC, heC, hoC⟩ := LCg.ns_obj hn₇
        have old7 : ∀ b o, b ≠ C → h₃.get? b = some o → h₇.get? b = some o := fun b o hb e => hs₇.extBut b o hb (hs₆.extBut b o hb (he' b o e))
        have F₇ : Fr h₀ L h₇ m := ((F₃.keeps he').change hs₆ hCL hC0).change hs₇ hCL hC0
        have st₇ : ZipSt z TI TO i1 i2 l1 l2 (List.toArray vs₁) (List.toArray vs₂) (i + 1) h₇ := W.frame _ _ _ st₃ fun b hb o e => old7 b o (fpb b hb).2 e
        have N₇ : News h₀ L h₇ ((C, oC) :: (D, LCg.lst zs) :: news) := fun p hp => by
          refine (List.mem_cons.mp hp).elim (fun e9 => ?_) fun hp => ?_
          · rw [e9]; exact ⟨heC, hCL, hC0⟩
          · have zz := N₃ p hp
            refine ⟨old7 _ _ ?_ zz.1, zz.2⟩
            refine (List.mem_cons.mp hp).elim (fun e9 => ?_) fun hp => ?_
            · rw [e9]; exact hDC
            · exact off1_all offC p hp
        obtain ⟨ka, ta, hxv, hka⟩ := IntsAre.at hi1 i x (by simpa using hx)
        obtain ⟨kb, tb, hyv, hkb⟩ := IntsAre.at hi2 i y (by simpa using hy)
        obtain ⟨b1, b2, ⟨b3a, b3b, b3⟩, ⟨o1, b4, b4'⟩, ⟨o2, b5, b5'⟩, b6, b7⟩ := id st₇
        have N₇' : News h₀ L h₇ ((C, oC) :: (D, LCg.lst zs) :: (z, _) :: (TI, _) :: (TO, _) :: (i1, o1) :: (i2, o2) :: news) := fun p hp => by
          refine (List.mem_cons.mp hp).elim (fun e9 => ?_) fun hp => ?_
          · rw [e9]; exact N₇ _ (.head _)
          · refine (List.mem_cons.mp hp).elim (fun e9 => ?_) fun hp => ?_
            · rw [e9]; exact N₇ _ (.tail _ (.head _))
            · refine (List.mem_cons.mp hp).elim (fun e9 => ?_) fun hp => ?_
              · rw [e9]; exact ⟨b1, fun q => hL5 (by rw [← q]; simp), h50 z (by simp)⟩
              · refine (List.mem_cons.mp hp).elim (fun e9 => ?_) fun hp => ?_
                · rw [e9]; exact ⟨b2, fun q => hL5 (by rw [← q]; simp), h50 TI (by simp)⟩
                · refine (List.mem_cons.mp hp).elim (fun e9 => ?_) fun hp => ?_
                  · rw [e9]; exact ⟨b3, fun q => hL5 (by rw [← q]; simp), h50 TO (by simp)⟩
                  · refine (List.mem_cons.mp hp).elim (fun e9 => ?_) fun hp => ?_
                    · rw [e9]; exact ⟨b4, fun q => hL5 (by rw [← q]; simp), h50 i1 (by simp)⟩
                    · refine (List.mem_cons.mp hp).elim (fun e9 => ?_) fun hp => ?_
                      · rw [e9]; exact ⟨b5, fun q => hL5 (by rw [← q]; simp), h50 i2 (by simp)⟩
                      · exact N₇ p (.tail _ (.tail _ hp))
        refine wpAny_mono (HE ka kb ta tb C oC D _ zs z _ TI _ TO _ i1 o1 i2 o2 h₇ _ _ hoC (by simp only [if_neg hab, if_true]; rw [hxv]) (by simp only [if_true]; rw [hyv]) F₇ N₇' offC offD (Ne.symm hDC)) (fun v s₄ h₄ => ?_) fun _ _ e => e
        obtain ⟨t4, h₈, tk₈, rfl, rfl, F₈, N₈⟩ := h₄
        have zD := (N₈ (D, LCg.lst zs) (.tail _ (.head _))).1
        have zC := (N₈ (C, oC) (.head _)).1
        have zDL := (N₈ (D, LCg.lst zs) (.tail _ (.head _))).2
        have hnw : ∀ p ∈ news, h₈.get? p.1 = some p.2 := fun p hp => (N₈ p (.tail _ (.tail _ (.tail _ (.tail _ (.tail _ (.tail _ (.tail _ hp)))))))).1
        have st₈ : ZipSt z TI TO i1 i2 l1 l2 (List.toArray vs₁) (List.toArray vs₂) (i + 1) h₈ :=
          ⟨(N₈ (z, _) (.tail _ (.tail _ (.head _)))).1, (N₈ (TI, _) (.tail _ (.tail _ (.tail _ (.head _))))).1, ⟨b3a, b3b, (N₈ (TO, _) (.tail _ (.tail _ (.tail _ (.tail _ (.head _)))))).1⟩, ⟨o1, (N₈ (i1, _) (.tail _ (.tail _ (.tail _ (.tail _ (.tail _ (.head _))))))).1, b4'⟩, ⟨o2, (N₈ (i2, _) (.tail _ (.tail _ (.tail _ (.tail _ (.tail _ (.tail _ (.head _)))))))).1, b5'⟩,
            ⟨_, hnw _ hm1, rfl, c1, rfl⟩, ⟨_, hnw _ hm2, rfl, c2, rfl⟩⟩
        have hzl : zs.length ≤ 4096 := by rw [hzs.length, List.length_take]; omega
        refine LCg_append zD (by omega) fun h₉ hs₉ hD₉ => ?_
        refine ⟨ns₁.length + 1 - (i + 1), by omega, h₉, tk₈, i + 1, zs ++ [.int (g ka kb) t4], _, rfl, hlt, rfl, ?_, W.frame _ _ _ st₈ fun b hb o e => hs₉.extBut b o (fpb b hb).1 e, F₈.change hs₉ zDL.1 zDL.2, fun p hp => ?_, (hoC.ns zC).sameBut hs₉ (Ne.symm hDC)⟩
        · rw [zip_take g ns₁ ns₂ i ka kb hka hkb]
          exact hzs.append (.cons _ _ .nil)
        · refine (List.mem_cons.mp hp).elim (fun e9 => ?_) fun hp => ?_
          · rw [e9]; exact ⟨hD₉, zDL⟩
          · exact ⟨hs₉.extBut _ _ (off1_all offD p hp) (hnw p hp), (N₃ p (.tail _ hp)).2⟩
      · obtain rfl : i = ns₁.length := Nat.le_antisymm hi (Nat.not_lt.mp hlt)
        refine W.done _ _ _ st fun h₂ tk₂ hk₂ => ?_
        have hoffN : ∀ p ∈ (D, LCg.lst zs) :: news, p.1 ∉ [z, TO, i1, i2] := fun p hp => by
          refine (List.mem_cons.mp hp).elim (fun e9 => ?_) fun hp => ?_
          · rw [e9]; exact hDw
          · exact offw p hp
        have N₂ : News h₀ L h₂ ((D, LCg.lst zs) :: news) := news_wr N' hk₂ hoffN
        have hfull : IntsAre zs (List.zipWith g ns₁ ns₂) := by
          rw [List.take_of_length_le (by rw [List.length_zipWith]; omega)] at hzs
          exact hzs
        refine ⟨m', hC'.at' fun o e => hk₂ _ o hCw e, fun h'' hs'' => HF zs D h'' tk₂ hfull ((fr_wr F' hk₂ hLw hw0).change hs'' hCL hC0) (fun p hp => ?_) offD⟩
        refine ⟨hs''.extBut _ _ ?_ (N₂ p hp).1, (N₂ p hp).2⟩
        refine (List.mem_cons.mp hp).elim (fun e9 => ?_) fun hp => ?_
        · rw [e9]; exact hDC
        · exact off1_all offC p hp
    · refine (List.mem_cons.mp hp).elim (fun e9 => ?_) fun hp => ?_
      · rw [e9]; exact ⟨hacc, hDL, hD0⟩
      · exact ⟨old _ _ (N p hp).1, (N p hp).2⟩
  exact codeAny_compStart_list (loop _ rfl) (W.self 0 _ _ _ (W.frame _ _ _ st0 fun b _ o e => old b o e) (loop _ rfl))
end
section
variable {prog : Program} {w : World} {A : Around} {E : Value → Shared → Prop} {s : Shared} {h₀ : Heap} {L : Addr} {m : Str → Option Value} {env : Env}
theorem srcZ_of {elt : Expr} {xa xb : Str} {scope : Scope} {cl : List (Str × Addr)} {g : Int → Int → Int} {Q : Value → Shared → Prop} {l1 l2 : Addr} {vs₁ vs₂ : List Value} {ns₁ ns₂ : List Int} {c1 c2 : Nat} {news : List (Addr × Obj)}
    (hh : A.handled = none) (F : Fr h₀ L s.heap m) (N : News h₀ L s.heap news) (hm1 : (l1, listOf vs₁.toArray c1) ∈ news) (hm2 : (l2, listOf vs₂.toArray c2) ∈ news) (hi1 : IntsAre vs₁ ns₁) (hi2 : IntsAre vs₂ ns₂) (hl : ns₁.length = ns₂.length) (hle : ns₁.length ≤ 4096)
    (HE : ∀ h', ElZ prog w A h₀ L m env elt xa xb scope cl g news { s with heap := h' })
    (HF : ∀ ys D h tk, IntsAre ys (List.zipWith g ns₁ ns₂) → Fr h₀ L h m → News h₀ L h ((D, LCg.lst ys) :: news) → LCg.Off1 D news → Q (.ref D) { s with heap := h, toks := tk }) :
    wpAny (model prog w) A (call (.type "zip") [.ref l1, .ref l2]) (SrcZ prog w A h₀ L m env elt xa xb scope cl g Q) E s := by
  have hL1 : s.heap.IsList l1 vs₁.toArray := ⟨_, (N _ hm1).1, rfl, c1, rfl⟩
  have hL2 : s.heap.IsList l2 vs₂.toArray := ⟨_, (N _ hm2).1, rfl, c2, rfl⟩
  have a1 : l1 < s.heap.objs.size := Heap.lt_size (N _ hm1).1
  have a2 : l2 < s.heap.objs.size := Heap.lt_size (N _ hm2).1
  refine call_zip_2 hL1 hL2 fun h' hz hTI hTO hi1' hi2' hsz hk => ?_
  have hLs : L < s.heap.objs.size := F.ns.lt
  have fresh : ∀ b, s.heap.objs.size ≤ b → h₀.get? b = none := fun b hb => by
    cases e : h₀.get? b with
    | none => rfl
    | some o => exact absurd (Heap.lt_size (F.keep b o e)) (Nat.not_lt.mpr hb)
  have ge5 : ∀ b ∈ [s.heap.objs.size + 4, s.heap.objs.size + 2, s.heap.objs.size + 3, s.heap.objs.size, s.heap.objs.size + 1], s.heap.objs.size ≤ b := fun b hb => by
    simp only [List.mem_cons, List.not_mem_nil, or_false] at hb
    rcases hb with rfl | rfl | rfl | rfl | rfl <;> first | exact Nat.le_refl _ | exact Nat.le_add_right _ _
  refine ⟨_, _, _, _, _, l1, l2, vs₁, vs₂, ns₁, ns₂, c1, c2, news, rfl, hh, zipApart_new a1 a2, ⟨hz, hTI, ⟨_, _, hTO⟩, hi1', hi2', hL1.at fun o e => hk _ o e, hL2.at fun o e => hk _ o e⟩, F.keeps hk, fun p hp => ⟨hk _ _ (N p hp).1, (N p hp).2⟩, hi1, hi2, hl, hle, hm1, hm2,
    fun q => Nat.lt_irrefl _ (Nat.lt_of_lt_of_le hLs (ge5 L q)), fun b hb => fresh b (ge5 b hb), fun p hp q => ?_, HE h', fun ys D h tk b1 b2 b3 b4 => HF ys D h tk b1 b2 b3 b4⟩
  have hp' : p.1 < s.heap.objs.size := Heap.lt_size (N p hp).1
  simp only [List.mem_cons, List.not_mem_nil, or_false] at q
  rcases q with q | q | q | q <;> (rw [q] at hp'; exact absurd hp' (Nat.not_lt.mpr (by first | exact Nat.le_refl _ | exact Nat.le_add_right _ _)))
end
def dist (a b : Int) : Int := if a - b < 0 then -(a - b) else a - b
theorem c_farthest (w : World) (news : List (Addr × Obj)) (l1 l2 : Addr) (c1 c2 : Nat) (vs₁ vs₂ : List Value) (ns₁ ns₂ : List Int) (hm1 : (l1, listOf vs₁.toArray c1) ∈ news) (hm2 : (l2, listOf vs₂.toArray c2) ∈ news) (hi1 : IntsAre vs₁ ns₁) (hi2 : IntsAre vs₂ ns₂) (hl : ns₁.length = ns₂.length) (h1 : 1 ≤ ns₁.length) (h2 : ns₁.length ≤ 64) :
    Owes 4 w 261 [.ref l1, .ref l2] news (fun h₀ L m s Q => ∀ (r : Int) (t : Tok) (h' : Heap) (tk' : Nat), r ∈ List.zipWith dist ns₁ ns₂ → Fr h₀ L h' m → News h₀ L h' news → Q (.int r t) { s with heap := h', toks := tk' }) := by
  unfold Owes
  w_top off
  k_with_none
  k_with "my off" => (first | assumption | exact off1_lt (by tbn_lt) | exact (by assumption : _ ∧ LCg.Off1 _ _).2 | exact (by assumption : _ ∧ _ ∧ LCg.Off1 _ _).2.2 | exact (by assumption : _ ∧ _ ∧ _ ∧ LCg.Off1 _ _).2.2.2 | exact (by assumption : _ ∧ _ ∧ _ ∧ _ ∧ LCg.Off1 _ _).2.2.2.2 | exact (by assumption : _ ∧ _ ∧ _ ∧ _ ∧ _ ∧ LCg.Off1 _ _).2.2.2.2.2 | exact (by assumption : _ ∧ _ ∧ _ ∧ _ ∧ _ ∧ _ ∧ LCg.Off1 _ _).2.2.2.2.2.2 | exact (by assumption : _ ∧ _ ∧ _ ∧ _ ∧ _ ∧ _ ∧ _ ∧ LCg.Off1 _ _).2.2.2.2.2.2.2 | exact (by assumption : _ ∧ _ ∧ _ ∧ _ ∧ _ ∧ _ ∧ _ ∧ _ ∧ LCg.Off1 _ _).2.2.2.2.2.2.2.2 | exact (by assumption : _ ∧ _ ∧ _ ∧ _ ∧ _ ∧ _ ∧ _ ∧ _ ∧ _ ∧ LCg.Off1 _ _).2.2.2.2.2.2.2.2.2 | exact (by assumption : _ ∧ _ ∧ _ ∧ _ ∧ _ ∧ _ ∧ _ ∧ _ ∧ _ ∧ _ ∧ LCg.Off1 _ _).2.2.2.2.2.2.2.2.2.2 | exact (by assumption : _ ∧ _ ∧ _ ∧ _ ∧ _ ∧ _ ∧ _ ∧ _ ∧ _ ∧ _ ∧ _ ∧ LCg.Off1 _ _).2.2.2.2.2.2.2.2.2.2.2 | exact (by assumption : _ ∧ _ ∧ _ ∧ _ ∧ _ ∧ _ ∧ _ ∧ _ ∧ _ ∧ _ ∧ _ ∧ _ ∧ LCg.Off1 _ _).2.2.2.2.2.2.2.2.2.2.2.2 | exact (by assumption : _ ∧ _ ∧ _ ∧ _ ∧ _ ∧ _ ∧ _ ∧ _ ∧ _ ∧ _ ∧ _ ∧ _ ∧ _ ∧ LCg.Off1 _ _).2.2.2.2.2.2.2.2.2.2.2.2.2 | exact (by assumption : _ ∧ _ ∧ _ ∧ _ ∧ _ ∧ _ ∧ _ ∧ _ ∧ _ ∧ _ ∧ _ ∧ _ ∧ _ ∧ _ ∧ LCg.Off1 _ _).2.2.2.2.2.2.2.2.2.2.2.2.2.2 | exact (by assumption : _ ∧ _ ∧ _ ∧ _ ∧ _ ∧ _ ∧ _ ∧ _ ∧ _ ∧ _ ∧ _ ∧ _ ∧ _ ∧ _ ∧ _ ∧ LCg.Off1 _ _).2.2.2.2.2.2.2.2.2.2.2.2.2.2.2 | exact (by assumption : _ ∧ _ ∧ _ ∧ _ ∧ _ ∧ _ ∧ _ ∧ _ ∧ _ ∧ _ ∧ _ ∧ _ ∧ _ ∧ _ ∧ _ ∧ _ ∧ LCg.Off1 _ _).2.2.2.2.2.2.2.2.2.2.2.2.2.2.2.2 | exact (by assumption : _ ∧ _ ∧ _ ∧ _ ∧ _ ∧ _ ∧ _ ∧ _ ∧ _ ∧ _ ∧ _ ∧ _ ∧ _ ∧ _ ∧ _ ∧ _ ∧ _ ∧ LCg.Off1 _ _).2.2.2.2.2.2.2.2.2.2.2.2.2.2.2.2.2 | exact (by assumption : _ ∧ _ ∧ _ ∧ _ ∧ _ ∧ _ ∧ _ ∧ _ ∧ _ ∧ _ ∧ _ ∧ _ ∧ _ ∧ _ ∧ _ ∧ _ ∧ _ ∧ _ ∧ LCg.Off1 _ _).2.2.2.2.2.2.2.2.2.2.2.2.2.2.2.2.2.2 | exact (by assumption : _ ∧ _ ∧ _ ∧ _ ∧ _ ∧ _ ∧ _ ∧ _ ∧ _ ∧ _ ∧ _ ∧ _ ∧ _ ∧ _ ∧ _ ∧ _ ∧ _ ∧ _ ∧ _ ∧ LCg.Off1 _ _).2.2.2.2.2.2.2.2.2.2.2.2.2.2.2.2.2.2.2 | exact (by assumption : _ ∧ _ ∧ _ ∧ _ ∧ _ ∧ _ ∧ _ ∧ _ ∧ _ ∧ _ ∧ _ ∧ _ ∧ _ ∧ _ ∧ _ ∧ _ ∧ _ ∧ _ ∧ _ ∧ _ ∧ LCg.Off1 _ _).2.2.2.2.2.2.2.2.2.2.2.2.2.2.2.2.2.2.2.2)
  k_with "lcg_off" => (first | assumption | exact (by assumption : _ ∧ LCg.Off3 _ _ _ _).2 | exact (by assumption : _ ∧ _ ∧ LCg.Off3 _ _ _ _).2.2 | exact (by assumption : _ ∧ _ ∧ _ ∧ LCg.Off3 _ _ _ _).2.2.2 | exact (by assumption : _ ∧ _ ∧ _ ∧ _ ∧ LCg.Off3 _ _ _ _).2.2.2.2 | exact (by assumption : _ ∧ _ ∧ _ ∧ _ ∧ _ ∧ LCg.Off3 _ _ _ _).2.2.2.2.2 | exact (by assumption : _ ∧ _ ∧ _ ∧ _ ∧ _ ∧ _ ∧ LCg.Off3 _ _ _ _).2.2.2.2.2.2 | exact (by assumption : _ ∧ _ ∧ _ ∧ _ ∧ _ ∧ _ ∧ _ ∧ LCg.Off3 _ _ _ _).2.2.2.2.2.2.2 | exact (by assumption : _ ∧ _ ∧ _ ∧ _ ∧ _ ∧ _ ∧ _ ∧ _ ∧ LCg.Off3 _ _ _ _).2.2.2.2.2.2.2.2 | exact (by assumption : _ ∧ _ ∧ _ ∧ _ ∧ _ ∧ _ ∧ _ ∧ _ ∧ _ ∧ LCg.Off3 _ _ _ _).2.2.2.2.2.2.2.2.2 | exact (by assumption : _ ∧ _ ∧ _ ∧ _ ∧ _ ∧ _ ∧ _ ∧ _ ∧ _ ∧ _ ∧ LCg.Off3 _ _ _ _).2.2.2.2.2.2.2.2.2.2 | exact (by assumption : _ ∧ _ ∧ _ ∧ _ ∧ _ ∧ _ ∧ _ ∧ _ ∧ _ ∧ _ ∧ _ ∧ LCg.Off3 _ _ _ _).2.2.2.2.2.2.2.2.2.2.2 | exact (by assumption : _ ∧ _ ∧ _ ∧ _ ∧ _ ∧ _ ∧ _ ∧ _ ∧ _ ∧ _ ∧ _ ∧ _ ∧ LCg.Off3 _ _ _ _).2.2.2.2.2.2.2.2.2.2.2.2 | exact (by assumption : _ ∧ _ ∧ _ ∧ _ ∧ _ ∧ _ ∧ _ ∧ _ ∧ _ ∧ _ ∧ _ ∧ _ ∧ _ ∧ LCg.Off3 _ _ _ _).2.2.2.2.2.2.2.2.2.2.2.2.2 | exact (by assumption : _ ∧ _ ∧ _ ∧ _ ∧ _ ∧ _ ∧ _ ∧ _ ∧ _ ∧ _ ∧ _ ∧ _ ∧ _ ∧ _ ∧ LCg.Off3 _ _ _ _).2.2.2.2.2.2.2.2.2.2.2.2.2.2 | exact (by assumption : _ ∧ _ ∧ _ ∧ _ ∧ _ ∧ _ ∧ _ ∧ _ ∧ _ ∧ _ ∧ _ ∧ _ ∧ _ ∧ _ ∧ _ ∧ LCg.Off3 _ _ _ _).2.2.2.2.2.2.2.2.2.2.2.2.2.2.2 | exact (by assumption : _ ∧ _ ∧ _ ∧ _ ∧ _ ∧ _ ∧ _ ∧ _ ∧ _ ∧ _ ∧ _ ∧ _ ∧ _ ∧ _ ∧ _ ∧ _ ∧ LCg.Off3 _ _ _ _).2.2.2.2.2.2.2.2.2.2.2.2.2.2.2.2 | exact (by assumption : _ ∧ _ ∧ _ ∧ _ ∧ _ ∧ _ ∧ _ ∧ _ ∧ _ ∧ _ ∧ _ ∧ _ ∧ _ ∧ _ ∧ _ ∧ _ ∧ _ ∧ LCg.Off3 _ _ _ _).2.2.2.2.2.2.2.2.2.2.2.2.2.2.2.2.2 | exact (by assumption : _ ∧ _ ∧ _ ∧ _ ∧ _ ∧ _ ∧ _ ∧ _ ∧ _ ∧ _ ∧ _ ∧ _ ∧ _ ∧ _ ∧ _ ∧ _ ∧ _ ∧ _ ∧ LCg.Off3 _ _ _ _).2.2.2.2.2.2.2.2.2.2.2.2.2.2.2.2.2.2 | exact (by assumption : _ ∧ _ ∧ _ ∧ _ ∧ _ ∧ _ ∧ _ ∧ _ ∧ _ ∧ _ ∧ _ ∧ _ ∧ _ ∧ _ ∧ _ ∧ _ ∧ _ ∧ _ ∧ _ ∧ LCg.Off3 _ _ _ _).2.2.2.2.2.2.2.2.2.2.2.2.2.2.2.2.2.2.2 | exact (by assumption : _ ∧ _ ∧ _ ∧ _ ∧ _ ∧ _ ∧ _ ∧ _ ∧ _ ∧ _ ∧ _ ∧ _ ∧ _ ∧ _ ∧ _ ∧ _ ∧ _ ∧ _ ∧ _ ∧ _ ∧ LCg.Off3 _ _ _ _).2.2.2.2.2.2.2.2.2.2.2.2.2.2.2.2.2.2.2.2)
  k_with "call builtin:max" => ((k_here; (with_reducible show wpAny _ _ (call (Value.builtin _) [Value.ref _]) _ _ _); (with_unfolding_all refine kso_max (by k_asm) (by k_asm) (by exact News.isList (by k_asm) (by k_mem)) (by assumption) (by (rw [List.length_zipWith]; omega)) (by with_unfolding_all rfl) ?_); intro h' M' t' k' F' N' a' b'; (try k_sweep)))
  k_fill
  intro mean mg mb dp un gd cn cs av ccd cl outer A₀ base h₀ L m s Q E B F X N T hk hd hu hret
  have hv1 : vs₁.length = ns₁.length := hi1.length
  have hv2 : vs₂.length = ns₂.length := hi2.length
  replace N := news_dup (news_dup N hm2) (.tail _ hm1)
  clear hm1 hm2
  refine wpAny_call ?_
  k_dflt (walk_at "my enter")
  repeat' ((fail_if_success (with_reducible show wpAny _ _ (eval (Expr.ListComp _ _ _ _) _) _ _ _)); first | (k_unfold; (try dsimp only)) | (k_end; wrow_close) | walk1 | (dsimp only; walk1) | (leave1; walk_say "STEP leave1"; try dsimp only) | fail "no step")
  · exfalso; omega
  refine comp_zip dist (by k_asm) (by decide) (by with_unfolding_all rfl) (by decide) (by rfl) (by decide) (by rfl) (by rfl) ?_ (fun _ => rfl)
  repeat' ((fail_if_success (with_reducible show wpAny _ _ (call (Value.type _) _) _ _ _)); first | (k_unfold; (try dsimp only)) | (k_end; wrow_close) | walk1 | (dsimp only; walk1) | (leave1; walk_say "STEP leave1"; try dsimp only) | fail "no step")
  refine srcZ_of (by rfl) (by k_asm) (by k_asm) (by k_mem) (by k_mem) hi1 hi2 hl (by omega) ?_ ?_
  · intro hZ a b ta tb C oC D m₂ ys z oz TI oT TO oO i1 o1 i2 o2 hI tkI E' hC hxa hxb F1 N1 off1 off2 ne
    repeat' ((fail_if_success (with_reducible show Q _ _)); (fail_if_success (with_reducible show TurnK _ _ _ _ _ _ _ _ _ _ _ _)); first | (k_unfold; (try dsimp only)) | (k_end; wrow_close) | walk1 | (dsimp only; walk1) | (leave1; walk_say "STEP leave1"; try dsimp only) | fail "no step")
    exact ⟨_, _, _, rfl, rfl, F1, N1⟩
  · intro ys D hI tkI hys F1 N1 off
    repeat' ((fail_if_success (with_reducible show Q _ _)); (fail_if_success (with_reducible show TurnK _ _ _ _ _ _ _ _ _ _ _ _)); first | (k_unfold; (try dsimp only)) | (k_end; wrow_close) | walk1 | (dsimp only; walk1) | (leave1; walk_say "STEP leave1"; try dsimp only) | fail "no step")
    exact hret _ _ _ _ (by assumption) (by assumption) (cb_drop (by assumption) (by (intro p9 h9; repeat (first | exact h9 | refine List.Mem.tail _ ?_))))
@[irreducible] def FF (n : Nat) (ns : List Int) : List Int :=
  if n = 8 then fwd8 ns else if n = 4 then fwd4 ns else if n = 2 then (two (ns.getD 0 0) (ns.getD 1 0) (ns.getD 2 0) (ns.getD 3 0)).map (· * 4) else [ns.getD 0 0 * 8]
@[irreducible] def II (n : Nat) (ns : List Int) : List Int :=
  if n = 8 then inv8 ns else if n = 4 then inv4 ns else if n = 2 then (two (ns.getD 0 0) (ns.getD 1 0) (ns.getD 2 0) (ns.getD 3 0)).map (dsc · 1) else [ns.getD 0 0]
@[irreducible] def TT (n : Nat) (ns : List Int) : List Int := gridT ns n
theorem FF8 (ns : List Int) : FF 8 ns = fwd8 ns := by unfold FF; rw [if_pos rfl]
theorem FF4 (ns : List Int) : FF 4 ns = fwd4 ns := by unfold FF; rw [if_neg (by decide), if_pos rfl]
theorem FF2 (ns : List Int) : FF 2 ns = (two (ns.getD 0 0) (ns.getD 1 0) (ns.getD 2 0) (ns.getD 3 0)).map (· * 4) := by unfold FF; rw [if_neg (by decide), if_neg (by decide), if_pos rfl]
theorem FF1 (ns : List Int) : FF 1 ns = [ns.getD 0 0 * 8] := by unfold FF; rw [if_neg (by decide), if_neg (by decide), if_neg (by decide)]
theorem II8 (ns : List Int) : II 8 ns = inv8 ns := by unfold II; rw [if_pos rfl]
theorem II4 (ns : List Int) : II 4 ns = inv4 ns := by unfold II; rw [if_neg (by decide), if_pos rfl]
theorem II2 (ns : List Int) : II 2 ns = (two (ns.getD 0 0) (ns.getD 1 0) (ns.getD 2 0) (ns.getD 3 0)).map (dsc · 1) := by unfold II; rw [if_neg (by decide), if_neg (by decide), if_pos rfl]
theorem II1 (ns : List Int) : II 1 ns = [ns.getD 0 0] := by unfold II; rw [if_neg (by decide), if_neg (by decide), if_neg (by decide)]
theorem TTn (n : Nat) (ns : List Int) : TT n ns = gridT ns n := by unfold TT; rfl
theorem ints4 {vs : List Value} {ms : List Int} (h : IntsAre vs ms) (hl : ms.length = 4) : ∃ (a b c d : Int) (t1 t2 t3 t4 : Tok), vs = [.int a t1, .int b t2, .int c t3, .int d t4] ∧ ms = [a, b, c, d] := by
  cases h with
  | nil => simp at hl
  | cons a t1 h => cases h with
    | nil => simp at hl
    | cons b t2 h => cases h with
      | nil => simp at hl
      | cons c t3 h => cases h with
        | nil => simp at hl
        | cons d t4 h => cases h with
          | nil => exact ⟨a, b, c, d, t1, t2, t3, t4, rfl, rfl⟩
          | cons _ _ h => simp at hl
theorem ints1 {vs : List Value} {ms : List Int} (h : IntsAre vs ms) (hl : ms.length = 1) : ∃ (a : Int) (t1 : Tok), vs = [.int a t1] ∧ ms = [a] := by
  cases h with
  | nil => simp at hl
  | cons a t1 h => cases h with
    | nil => exact ⟨a, t1, rfl, rfl⟩
    | cons _ _ h => simp at hl
section
variable (w : World) (news : List (Addr × Obj)) (l : Addr) (k : Nat) (vs : List Value) (ns : List Int) (u : Tok)
theorem c_F8 (hl : (l, listOf vs.toArray k) ∈ news) (hi : IntsAre vs ns) (hn : ns.length = 64) (hb : AllB 65536 ns) : Owes 10 w 218 [.ref l, .int 8 u] news (fun h₀ L m s Q => LRet h₀ L m news s Q (FF 8 ns)) := by
  rw [FF8]; exact c_forward8 w news l k vs ns u hl hi hn hb
theorem c_F4 (hl : (l, listOf vs.toArray k) ∈ news) (hi : IntsAre vs ns) (hn : ns.length = 16) (hb : AllB 65536 ns) : Owes 10 w 218 [.ref l, .int 4 u] news (fun h₀ L m s Q => LRet h₀ L m news s Q (FF 4 ns)) := by
  rw [FF4]; exact c_forward4 w news l k vs ns u hl hi hn hb
theorem c_F2 (hl : (l, listOf vs.toArray k) ∈ news) (hi : IntsAre vs ns) (hn : ns.length = 4) (_hb : AllB 65536 ns) : Owes 10 w 218 [.ref l, .int 2 u] news (fun h₀ L m s Q => LRet h₀ L m news s Q (FF 2 ns)) := by
  obtain ⟨a, b, c, d, t1, t2, t3, t4, rfl, rfl⟩ := ints4 hi hn
  rw [FF2]; exact c_forward2 w news l k a b c d t1 t2 t3 t4 u hl
theorem c_F1 (hl : (l, listOf vs.toArray k) ∈ news) (hi : IntsAre vs ns) (hn : ns.length = 1) (_hb : AllB 65536 ns) : Owes 10 w 218 [.ref l, .int 1 u] news (fun h₀ L m s Q => LRet h₀ L m news s Q (FF 1 ns)) := by
  obtain ⟨a, t1, rfl, rfl⟩ := ints1 hi hn
  rw [FF1]; exact c_forward1 w news l k a t1 u hl
theorem c_I8 (hl : (l, listOf vs.toArray k) ∈ news) (hi : IntsAre vs ns) (hn : ns.length = 64) (hb : AllB (2 ^ 28) ns) : Owes 10 w 225 [.ref l, .int 8 u] news (fun h₀ L m s Q => LRet h₀ L m news s Q (II 8 ns)) := by
  rw [II8]; exact c_inverse8 w news l k vs ns u hl hi hn hb
theorem c_I4 (hl : (l, listOf vs.toArray k) ∈ news) (hi : IntsAre vs ns) (hn : ns.length = 16) (hb : AllB (2 ^ 28) ns) : Owes 10 w 225 [.ref l, .int 4 u] news (fun h₀ L m s Q => LRet h₀ L m news s Q (II 4 ns)) := by
  rw [II4]; exact c_inverse4 w news l k vs ns u hl hi hn hb
theorem c_I2 (hl : (l, listOf vs.toArray k) ∈ news) (hi : IntsAre vs ns) (hn : ns.length = 4) (_hb : AllB (2 ^ 28) ns) : Owes 10 w 225 [.ref l, .int 2 u] news (fun h₀ L m s Q => LRet h₀ L m news s Q (II 2 ns)) := by
  obtain ⟨a, b, c, d, t1, t2, t3, t4, rfl, rfl⟩ := ints4 hi hn
  rw [II2]; exact c_inverse2 w news l k a b c d t1 t2 t3 t4 u hl
theorem c_I1 (hl : (l, listOf vs.toArray k) ∈ news) (hi : IntsAre vs ns) (hn : ns.length = 1) (_hb : AllB (2 ^ 28) ns) : Owes 10 w 225 [.ref l, .int 1 u] news (fun h₀ L m s Q => LRet h₀ L m news s Q (II 1 ns)) := by
  obtain ⟨a, t1, rfl, rfl⟩ := ints1 hi hn
  rw [II1]; exact c_inverse1 w news l k a t1 u hl
theorem c_T8 (hl : (l, listOf vs.toArray k) ∈ news) (hi : IntsAre vs ns) (hn : ns.length = 64) : Owes 5 w 256 [.ref l, .int 8 u] news (fun h₀ L m s Q => LRet h₀ L m news s Q (TT 8 ns)) := by
  rw [TTn]; exact c_lturned8 w news l k vs ns u hl hi hn
theorem c_T4 (hl : (l, listOf vs.toArray k) ∈ news) (hi : IntsAre vs ns) (hn : ns.length = 16) : Owes 5 w 256 [.ref l, .int 4 u] news (fun h₀ L m s Q => LRet h₀ L m news s Q (TT 4 ns)) := by
  rw [TTn]; exact c_lturned4 w news l k vs ns u hl hi hn
theorem c_T2 (hl : (l, listOf vs.toArray k) ∈ news) (hi : IntsAre vs ns) (hn : ns.length = 4) : Owes 5 w 256 [.ref l, .int 2 u] news (fun h₀ L m s Q => LRet h₀ L m news s Q (TT 2 ns)) := by
  rw [TTn]; exact c_lturned2 w news l k vs ns u hl hi hn
theorem c_T1 (hl : (l, listOf vs.toArray k) ∈ news) (hi : IntsAre vs ns) (hn : ns.length = 1) : Owes 5 w 256 [.ref l, .int 1 u] news (fun h₀ L m s Q => LRet h₀ L m news s Q (TT 1 ns)) := by
  rw [TTn]; exact c_lturned1 w news l k vs ns u hl hi hn
end
theorem FF_len (n : Nat) (hn : n = 8 ∨ n = 4 ∨ n = 2 ∨ n = 1) (ns : List Int) : (FF n ns).length = n * n := by
  rcases hn with rfl | rfl | rfl | rfl
  · rw [FF8, fwd8_len]
  · rw [FF4, fwd4_len]
  · rw [FF2]; rfl
  · rw [FF1]; rfl
theorem II_len (n : Nat) (hn : n = 8 ∨ n = 4 ∨ n = 2 ∨ n = 1) (ns : List Int) : (II n ns).length = n * n := by
  rcases hn with rfl | rfl | rfl | rfl
  · rw [II8, inv8_len]
  · rw [II4, inv4_len]
  · rw [II2]; rfl
  · rw [II1]; rfl
theorem rowG_len (g : Int → Int → Int) (j : Nat) : ∀ k, (rowG g j k).length = k
  | 0 => rfl
  | k + 1 => by rw [rowG, List.length_append, rowG_len g j k]; rfl
theorem gridG_length (g : Int → Int → Int) (n : Nat) : ∀ j, (gridG g n j).length = n * j
  | 0 => rfl
  | j + 1 => by rw [gridG, List.length_append, gridG_length g n j, rowG_len, Nat.mul_succ]
theorem TT_len (n : Nat) (ns : List Int) : (TT n ns).length = n * n := by rw [TTn, gridT, gridG_length]
theorem rowG_all {B : Int} {g : Int → Int → Int} (hg : ∀ y x, Bd B (g y x)) (j : Nat) : ∀ k, AllB B (rowG g j k)
  | 0 => fun _ h => nomatch h
  | k + 1 => (rowG_all hg j k).append fun x hx => by rw [List.mem_singleton.mp hx]; exact hg _ _
theorem gridG_all {B : Int} {g : Int → Int → Int} (hg : ∀ y x, Bd B (g y x)) (n : Nat) : ∀ j, AllB B (gridG g n j)
  | 0 => fun _ h => nomatch h
  | j + 1 => (gridG_all hg n j).append (rowG_all hg j n)
theorem TT_all {B : Int} (hB : 0 ≤ B) (n : Nat) {ns : List Int} (h : AllB B ns) : AllB B (TT n ns) := by
  rw [TTn]; exact gridG_all (fun y x => h.getD hB _) n n
theorem FF_all (n : Nat) (hn : n = 8 ∨ n = 4 ∨ n = 2 ∨ n = 1) {ns : List Int} (h : AllB 128 ns) : AllB (2 ^ 28) (FF n ns) := by
  have g := h.getD (by decide)
  rcases hn with rfl | rfl | rfl | rfl
  · rw [FF8]; exact (fwd8_all (by decide) h).mono (by decide)
  · rw [FF4]; exact (fwd4_all (by decide) h).mono (by decide)
  · rw [FF2]
    have g0 := g 0; have g1 := g 1; have g2 := g 2; have g3 := g 3
    generalize ns.getD 0 0 = a at *; generalize ns.getD 1 0 = b at *; generalize ns.getD 2 0 = c at *; generalize ns.getD 3 0 = d at *
    simp only [two, List.map_cons, List.map_nil]
    refine all4 ?_ ?_ ?_ ?_ <;> (unfold Bd; omega)
  · rw [FF1]
    have g0 := g 0
    generalize ns.getD 0 0 = a at *
    intro x hx
    rw [List.mem_singleton.mp hx]; omega
/-- a call that answers True -/
abbrev ORet (h₀ : Heap) (L : Addr) (m : Str → Option Value) (news : List (Addr × Obj)) (s : Shared) (Q : Value → Shared → Prop) : Prop :=
  ∀ (h' : Heap) (tk' : Nat), Fr h₀ L h' m → News h₀ L h' news → Q (.bool true) { s with heap := h', toks := tk' }
/-- plain sums -/
def sm : Nat → (Nat → Int) → Int
  | 0, _ => 0
  | k + 1, f => sm k f + f k
theorem sm_congr {f g : Nat → Int} : ∀ {n : Nat}, (∀ i, i < n → f i = g i) → sm n f = sm n g
  | 0, _ => rfl
  | n + 1, h => by rw [sm, sm, sm_congr fun i hi => h i (Nat.lt_succ_of_lt hi), h n (Nat.lt_succ_self n)]
theorem sm_add (f g : Nat → Int) : ∀ n, sm n (fun i => f i + g i) = sm n f + sm n g
  | 0 => rfl
  | n + 1 => by rw [sm, sm, sm, sm_add f g n]; omega
theorem sm_sub (f g : Nat → Int) : ∀ n, sm n (fun i => f i - g i) = sm n f - sm n g
  | 0 => rfl
  | n + 1 => by rw [sm, sm, sm, sm_sub f g n]; omega
theorem sm_mul (c : Int) (f : Nat → Int) : ∀ n, sm n (fun i => c * f i) = c * sm n f
  | 0 => (Int.mul_zero c).symm
  | n + 1 => by rw [sm, sm, sm_mul c f n, Int.mul_add]
theorem sm_zero : ∀ n, sm n (fun _ => 0) = 0
  | 0 => rfl
  | n + 1 => by rw [sm, sm_zero n]; rfl
theorem sm_comm (f : Nat → Nat → Int) (k : Nat) : ∀ n, sm n (fun i => sm k (fun j => f i j)) = sm k (fun j => sm n (fun i => f i j))
  | 0 => by simp only [sm, sm_zero]
  | n + 1 => by simp only [sm]; rw [sm_comm f k n, sm_add]
theorem mul_bd {c e B : Int} (h : Bd B e) : Bd ((c.natAbs : Int) * B) (c * e) := by
  have h0 : 0 ≤ B := by unfold Bd at h; omega
  have h1 : (e.natAbs : Int) ≤ B := by unfold Bd at h; omega
  have h2 : ((c * e).natAbs : Int) ≤ (c.natAbs : Int) * B := by
    rw [Int.natAbs_mul, Int.natCast_mul]
    exact Int.mul_le_mul_of_nonneg_left h1 (by omega)
  unfold Bd; omega
theorem sm_bd {c e : Nat → Int} {B : Int} : ∀ {n : Nat}, (∀ i, i < n → Bd B (e i)) → Bd (sm n (fun i => ((c i).natAbs : Int)) * B) (sm n (fun i => c i * e i))
  | 0, _ => by simp only [sm, Int.zero_mul]; exact ⟨by decide, by decide⟩
  | n + 1, h => by
    have h1 := sm_bd (c := c) fun i (hi : i < n) => h i (Nat.lt_succ_of_lt hi)
    have h2 := mul_bd (c := c n) (h n (Nat.lt_succ_self n))
    simp only [sm, Int.add_mul]
    exact h1.add h2
theorem sm_bd_le {c e : Nat → Int} {B S : Int} {n : Nat} (hS : sm n (fun i => ((c i).natAbs : Int)) ≤ S) (hB : 0 ≤ B) (h : ∀ i, i < n → Bd B (e i)) : Bd (S * B) (sm n (fun i => c i * e i)) :=
  (sm_bd h).mono (Int.mul_le_mul_of_nonneg_right hS hB)
/-- a close sum of close things -/
theorem sm_near {c e f : Nat → Int} {B S : Int} {n : Nat} (hS : sm n (fun i => ((c i).natAbs : Int)) ≤ S) (hB : 0 ≤ B) (h : ∀ i, i < n → Bd B (e i - f i)) : Bd (S * B) (sm n (fun i => c i * e i) - sm n (fun i => c i * f i)) := by
  rw [← sm_sub]
  have e : (fun i => c i * e i - c i * f i) = fun i => c i * (e i - f i) := funext fun i => (Int.mul_sub _ _ _).symm
  rw [e]; exact sm_bd_le hS hB h
/-- m by row, then m's other way about -/
theorem sm_twice (m : Nat → Nat → Int) (a : Nat → Int) (n x : Nat) : sm n (fun v => m v x * sm n (fun z => m v z * a z)) = sm n (fun z => sm n (fun v => m v x * m v z) * a z) := by
  have e1 : (fun v => m v x * sm n (fun z => m v z * a z)) = fun v => sm n (fun z => m v x * m v z * a z) := funext fun v => by
    rw [← sm_mul]; exact sm_congr fun z _ => (Int.mul_assoc _ _ _).symm
  rw [e1, sm_comm]
  refine sm_congr fun z _ => ?_
  rw [Int.mul_comm, ← sm_mul]
  exact sm_congr fun v _ => Int.mul_comm _ _
theorem sm_unit (c : Int) (a : Nat → Int) (y : Nat) : ∀ n, sm n (fun z => (if y = z then c else 0) * a z) = if y < n then c * a y else 0
  | 0 => rfl
  | n + 1 => by
    rw [sm, sm_unit c a y n]
    by_cases h : y = n
    · subst h; rw [if_neg (Nat.lt_irrefl _), if_pos rfl, if_pos (Nat.lt_succ_self _), Int.zero_add]
    · by_cases h2 : y < n
      · rw [if_pos h2, if_neg h, if_pos (by omega), Int.zero_mul, Int.add_zero]
      · rw [if_neg h2, if_neg h, if_neg (by omega), Int.zero_mul]; rfl
/-- m and its other way about are nearly c -/
theorem sm_gram {m : Nat → Nat → Int} {a : Nat → Int} {n x : Nat} {c T B : Int} (hx : x < n) (hT : sm n (fun z => ((sm n (fun v => m v x * m v z) - if x = z then c else 0).natAbs : Int)) ≤ T) (hB : 0 ≤ B) (h : ∀ z, z < n → Bd B (a z)) :
    Bd (T * B) (sm n (fun v => m v x * sm n (fun z => m v z * a z)) - c * a x) := by
  have e := sm_unit c a x n
  rw [if_pos hx] at e
  rw [sm_twice, ← e, ← sm_sub]
  have e2 : (fun z => sm n (fun v => m v x * m v z) * a z - (if x = z then c else 0) * a z) = fun z => (sm n (fun v => m v x * m v z) - if x = z then c else 0) * a z := funext fun z => (Int.sub_mul _ _ _).symm
  rw [e2]; exact sm_bd_le hT hB h
def m8 (v x : Nat) : Int := (([[8192, 8192, 8192, 8192, 8192, 8192, 8192, 8192], [11363, 9633, 6437, 2260, -2260, -6437, -9633, -11363], [10703, 4433, -4433, -10703, -10703, -4433, 4433, 10703], [9633, -2259, -11362, -6436, 6436, 11362, 2259, -9633], [8192, -8192, -8192, 8192, 8192, -8192, -8192, 8192], [6437, -11362, 2261, 9633, -9633, -2261, 11362, -6437], [4433, -10704, 10704, -4433, -4433, 10704, -10704, 4433], [2260, -6436, 9633, -11363, 11363, -9633, 6436, -2260]] : List (List Int)).getD v []).getD x 0
def m4 (v x : Nat) : Int := (([[8192, 8192, 8192, 8192], [10703, 4433, -4433, -10703], [8192, -8192, -8192, 8192], [4433, -10704, 10704, -4433]] : List (List Int)).getD v []).getD x 0
theorem m8_row : ∀ v, v < 8 → sm 8 (fun x => ((m8 v x).natAbs : Int)) ≤ 65536 := by decide +kernel
theorem m8_col : ∀ x, x < 8 → sm 8 (fun v => ((m8 v x).natAbs : Int)) ≤ 65536 := by decide +kernel
theorem m8_gram : ∀ x, x < 8 → sm 8 (fun z => ((sm 8 (fun v => m8 v x * m8 v z) - if x = z then 536870912 else 0).natAbs : Int)) ≤ 132002 := by decide +kernel
/-- forward, entry by entry -/
theorem near8 {X A F : Nat → Nat → Int} (hA : ∀ y v, y < 8 → v < 8 → Bd 1024 (2048 * A y v - sm 8 (fun x => m8 v x * X y x))) (hF : ∀ u v, u < 8 → v < 8 → Bd 16384 (32768 * F u v - sm 8 (fun y => m8 u y * A y v)))
    {u v : Nat} (hu : u < 8) (hv : v < 8) : Bd 100663296 (67108864 * F u v - sm 8 (fun y => m8 u y * sm 8 (fun x => m8 v x * X y x))) := by
  have h1 := hF u v hu hv
  have h2 := sm_near (c := m8 u) (e := fun y => 2048 * A y v) (f := fun y => sm 8 (fun x => m8 v x * X y x)) (m8_row u hu) (by decide) (fun y hy => hA y v hy hv)
  have h3 : sm 8 (fun y => m8 u y * (2048 * A y v)) = 2048 * sm 8 (fun y => m8 u y * A y v) := by
    rw [← sm_mul]; exact sm_congr fun y _ => Int.mul_left_comm _ _ _
  simp only [h3] at h2
  generalize sm 8 (fun y => m8 u y * A y v) = p at *
  generalize sm 8 (fun y => m8 u y * sm 8 (fun x => m8 v x * X y x)) = q at *
  unfold Bd at *; omega
/-- told the other way about -/
theorem turn8 {X A F A' F' : Nat → Nat → Int} (hA : ∀ y v, y < 8 → v < 8 → Bd 1024 (2048 * A y v - sm 8 (fun x => m8 v x * X y x))) (hF : ∀ u v, u < 8 → v < 8 → Bd 16384 (32768 * F u v - sm 8 (fun y => m8 u y * A y v)))
    (hA' : ∀ y v, y < 8 → v < 8 → Bd 1024 (2048 * A' y v - sm 8 (fun x => m8 v x * X x y))) (hF' : ∀ u v, u < 8 → v < 8 → Bd 16384 (32768 * F' u v - sm 8 (fun y => m8 u y * A' y v)))
    {u v : Nat} (hu : u < 8) (hv : v < 8) : Bd 3 (F' u v - F v u) := by
  have h1 := near8 hA hF hv hu
  have h2 := near8 (X := fun y x => X x y) hA' hF' hu hv
  have h3 : sm 8 (fun y => m8 u y * sm 8 (fun x => m8 v x * X x y)) = sm 8 (fun y => m8 v y * sm 8 (fun x => m8 u x * X y x)) := by
    have e1 : ∀ (f : Nat → Nat → Int) (u v : Nat), sm 8 (fun y => m8 u y * sm 8 (fun x => m8 v x * f y x)) = sm 8 (fun y => sm 8 (fun x => m8 u y * (m8 v x * f y x))) := fun f u v => sm_congr fun y _ => (sm_mul _ _ _).symm
    rw [e1, e1, sm_comm]
    exact sm_congr fun y _ => sm_congr fun x _ => Int.mul_left_comm _ _ _
  simp only [h3] at h2
  generalize sm 8 (fun y => m8 v y * sm 8 (fun x => m8 u x * X y x)) = q at *
  unfold Bd at *; omega
/-- there and back -/
theorem back8 {X A F H R : Nat → Nat → Int} (hX : ∀ y x, y < 8 → x < 8 → Bd 128 (X y x))
    (hA : ∀ y v, y < 8 → v < 8 → Bd 1024 (2048 * A y v - sm 8 (fun x => m8 v x * X y x))) (hF : ∀ u v, u < 8 → v < 8 → Bd 16384 (32768 * F u v - sm 8 (fun y => m8 u y * A y v)))
    (hH : ∀ v y, v < 8 → y < 8 → Bd 1024 (2048 * H v y - sm 8 (fun u => m8 u y * F u v))) (hR : ∀ y x, y < 8 → x < 8 → Bd 131072 (262144 * R y x - sm 8 (fun v => m8 v x * H v y)))
    {y x : Nat} (hy : y < 8) (hx : x < 8) : Bd 8 (R y x - 8 * X y x) := by
  have bA : ∀ y v, y < 8 → v < 8 → Bd 4096 (A y v) := fun y v hy hv => by
    have h1 := hA y v hy hv
    have h2 := sm_bd_le (c := m8 v) (e := X y) (m8_row v hv) (by decide) (fun x hx => hX y x hy hx)
    generalize sm 8 (fun x => m8 v x * X y x) = q at *
    unfold Bd at *; omega
  have bH : ∀ v, v < 8 → Bd 1647976448 (67108864 * H v y - 536870912 * A y v) := fun v hv => by
    have h1 := hH v y hv hy
    have h2 := sm_near (c := fun u => m8 u y) (e := fun u => 32768 * F u v) (f := fun u => sm 8 (fun z => m8 u z * A z v)) (m8_col y hy) (by decide) (fun u hu => hF u v hu hv)
    have h3 : sm 8 (fun u => m8 u y * (32768 * F u v)) = 32768 * sm 8 (fun u => m8 u y * F u v) := by
      rw [← sm_mul]; exact sm_congr fun y _ => Int.mul_left_comm _ _ _
    have h4 := sm_gram (m := m8) (a := fun z => A z v) hy (m8_gram y hy) (by decide) (fun z hz => bA z v hz hv)
    simp only [h3] at h2
    generalize sm 8 (fun u => m8 u y * F u v) = p at *
    generalize sm 8 (fun u => m8 u y * sm 8 (fun z => m8 u z * A z v)) = q at *
    unfold Bd at *; omega
  have h1 := hR y x hy hx
  have h2 := sm_near (c := fun v => m8 v x) (e := fun v => 67108864 * H v y) (f := fun v => 536870912 * A y v) (m8_col x hx) (by decide) bH
  have h3 : sm 8 (fun v => m8 v x * (67108864 * H v y)) = 67108864 * sm 8 (fun v => m8 v x * H v y) := by
    rw [← sm_mul]; exact sm_congr fun y _ => Int.mul_left_comm _ _ _
  have h4 : sm 8 (fun v => m8 v x * (536870912 * A y v)) = 536870912 * sm 8 (fun v => m8 v x * A y v) := by
    rw [← sm_mul]; exact sm_congr fun y _ => Int.mul_left_comm _ _ _
  have h5 := sm_near (c := fun v => m8 v x) (e := fun v => 2048 * A y v) (f := fun v => sm 8 (fun z => m8 v z * X y z)) (m8_col x hx) (by decide) (fun v hv => hA y v hy hv)
  have h6 : sm 8 (fun v => m8 v x * (2048 * A y v)) = 2048 * sm 8 (fun v => m8 v x * A y v) := by
    rw [← sm_mul]; exact sm_congr fun y _ => Int.mul_left_comm _ _ _
  have h7 := sm_gram (m := m8) (a := X y) hx (m8_gram x hx) (by decide) (fun z hz => hX y z hy hz)
  simp only [h3, h4] at h2
  simp only [h6] at h5
  generalize sm 8 (fun v => m8 v x * H v y) = p at *
  generalize sm 8 (fun v => m8 v x * A y v) = q at *
  generalize sm 8 (fun v => m8 v x * sm 8 (fun z => m8 v z * X y z)) = r at *
  unfold Bd at *; omega
theorem m4_row : ∀ v, v < 4 → sm 4 (fun x => ((m4 v x).natAbs : Int)) ≤ 32768 := by decide +kernel
theorem m4_col : ∀ x, x < 4 → sm 4 (fun v => ((m4 v x).natAbs : Int)) ≤ 32768 := by decide +kernel
theorem m4_gram : ∀ x, x < 4 → sm 4 (fun z => ((sm 4 (fun v => m4 v x * m4 v z) - if x = z then 268435456 else 0).natAbs : Int)) ≤ 32926 := by decide +kernel
/-- forward, entry by entry -/
theorem near4 {X A F : Nat → Nat → Int} (hA : ∀ y v, y < 4 → v < 4 → Bd 1024 (2048 * A y v - sm 4 (fun x => m4 v x * X y x))) (hF : ∀ u v, u < 4 → v < 4 → Bd 8192 (16384 * F u v - sm 4 (fun y => m4 u y * A y v)))
    {u v : Nat} (hu : u < 4) (hv : v < 4) : Bd 50331648 (33554432 * F u v - sm 4 (fun y => m4 u y * sm 4 (fun x => m4 v x * X y x))) := by
  have h1 := hF u v hu hv
  have h2 := sm_near (c := m4 u) (e := fun y => 2048 * A y v) (f := fun y => sm 4 (fun x => m4 v x * X y x)) (m4_row u hu) (by decide) (fun y hy => hA y v hy hv)
  have h3 : sm 4 (fun y => m4 u y * (2048 * A y v)) = 2048 * sm 4 (fun y => m4 u y * A y v) := by
    rw [← sm_mul]; exact sm_congr fun y _ => Int.mul_left_comm _ _ _
  simp only [h3] at h2
  generalize sm 4 (fun y => m4 u y * A y v) = p at *
  generalize sm 4 (fun y => m4 u y * sm 4 (fun x => m4 v x * X y x)) = q at *
  unfold Bd at *; omega
/-- told the other way about -/
theorem turn4 {X A F A' F' : Nat → Nat → Int} (hA : ∀ y v, y < 4 → v < 4 → Bd 1024 (2048 * A y v - sm 4 (fun x => m4 v x * X y x))) (hF : ∀ u v, u < 4 → v < 4 → Bd 8192 (16384 * F u v - sm 4 (fun y => m4 u y * A y v)))
    (hA' : ∀ y v, y < 4 → v < 4 → Bd 1024 (2048 * A' y v - sm 4 (fun x => m4 v x * X x y))) (hF' : ∀ u v, u < 4 → v < 4 → Bd 8192 (16384 * F' u v - sm 4 (fun y => m4 u y * A' y v)))
    {u v : Nat} (hu : u < 4) (hv : v < 4) : Bd 3 (F' u v - F v u) := by
  have h1 := near4 hA hF hv hu
  have h2 := near4 (X := fun y x => X x y) hA' hF' hu hv
  have h3 : sm 4 (fun y => m4 u y * sm 4 (fun x => m4 v x * X x y)) = sm 4 (fun y => m4 v y * sm 4 (fun x => m4 u x * X y x)) := by
    have e1 : ∀ (f : Nat → Nat → Int) (u v : Nat), sm 4 (fun y => m4 u y * sm 4 (fun x => m4 v x * f y x)) = sm 4 (fun y => sm 4 (fun x => m4 u y * (m4 v x * f y x))) := fun f u v => sm_congr fun y _ => (sm_mul _ _ _).symm
    rw [e1, e1, sm_comm]
    exact sm_congr fun y _ => sm_congr fun x _ => Int.mul_left_comm _ _ _
  simp only [h3] at h2
  generalize sm 4 (fun y => m4 v y * sm 4 (fun x => m4 u x * X y x)) = q at *
  unfold Bd at *; omega
/-- there and back -/
theorem back4 {X A F H R : Nat → Nat → Int} (hX : ∀ y x, y < 4 → x < 4 → Bd 128 (X y x))
    (hA : ∀ y v, y < 4 → v < 4 → Bd 1024 (2048 * A y v - sm 4 (fun x => m4 v x * X y x))) (hF : ∀ u v, u < 4 → v < 4 → Bd 8192 (16384 * F u v - sm 4 (fun y => m4 u y * A y v)))
    (hH : ∀ v y, v < 4 → y < 4 → Bd 1024 (2048 * H v y - sm 4 (fun u => m4 u y * F u v))) (hR : ∀ y x, y < 4 → x < 4 → Bd 65536 (131072 * R y x - sm 4 (fun v => m4 v x * H v y)))
    {y x : Nat} (hy : y < 4) (hx : x < 4) : Bd 8 (R y x - 8 * X y x) := by
  have bA : ∀ y v, y < 4 → v < 4 → Bd 2048 (A y v) := fun y v hy hv => by
    have h1 := hA y v hy hv
    have h2 := sm_bd_le (c := m4 v) (e := X y) (m4_row v hv) (by decide) (fun x hx => hX y x hy hx)
    generalize sm 4 (fun x => m4 v x * X y x) = q at *
    unfold Bd at *; omega
  have bH : ∀ v, v < 4 → Bd 352645120 (33554432 * H v y - 268435456 * A y v) := fun v hv => by
    have h1 := hH v y hv hy
    have h2 := sm_near (c := fun u => m4 u y) (e := fun u => 16384 * F u v) (f := fun u => sm 4 (fun z => m4 u z * A z v)) (m4_col y hy) (by decide) (fun u hu => hF u v hu hv)
    have h3 : sm 4 (fun u => m4 u y * (16384 * F u v)) = 16384 * sm 4 (fun u => m4 u y * F u v) := by
      rw [← sm_mul]; exact sm_congr fun y _ => Int.mul_left_comm _ _ _
    have h4 := sm_gram (m := m4) (a := fun z => A z v) hy (m4_gram y hy) (by decide) (fun z hz => bA z v hz hv)
    simp only [h3] at h2
    generalize sm 4 (fun u => m4 u y * F u v) = p at *
    generalize sm 4 (fun u => m4 u y * sm 4 (fun z => m4 u z * A z v)) = q at *
    unfold Bd at *; omega
  have h1 := hR y x hy hx
  have h2 := sm_near (c := fun v => m4 v x) (e := fun v => 33554432 * H v y) (f := fun v => 268435456 * A y v) (m4_col x hx) (by decide) bH
  have h3 : sm 4 (fun v => m4 v x * (33554432 * H v y)) = 33554432 * sm 4 (fun v => m4 v x * H v y) := by
    rw [← sm_mul]; exact sm_congr fun y _ => Int.mul_left_comm _ _ _
  have h4 : sm 4 (fun v => m4 v x * (268435456 * A y v)) = 268435456 * sm 4 (fun v => m4 v x * A y v) := by
    rw [← sm_mul]; exact sm_congr fun y _ => Int.mul_left_comm _ _ _
  have h5 := sm_near (c := fun v => m4 v x) (e := fun v => 2048 * A y v) (f := fun v => sm 4 (fun z => m4 v z * X y z)) (m4_col x hx) (by decide) (fun v hv => hA y v hy hv)
  have h6 : sm 4 (fun v => m4 v x * (2048 * A y v)) = 2048 * sm 4 (fun v => m4 v x * A y v) := by
    rw [← sm_mul]; exact sm_congr fun y _ => Int.mul_left_comm _ _ _
  have h7 := sm_gram (m := m4) (a := X y) hx (m4_gram x hx) (by decide) (fun z hz => hX y z hy hz)
  simp only [h3, h4] at h2
  simp only [h6] at h5
  generalize sm 4 (fun v => m4 v x * H v y) = p at *
  generalize sm 4 (fun v => m4 v x * A y v) = q at *
  generalize sm 4 (fun v => m4 v x * sm 4 (fun z => m4 v z * X y z)) = r at *
  unfold Bd at *; omega
theorem getD_app_lt {a b : List Int} {i : Nat} (h : i < a.length) : (a ++ b).getD i 0 = a.getD i 0 := by
  rw [List.getD_eq_getElem?_getD, List.getD_eq_getElem?_getD, List.getElem?_append_left h]
theorem getD_app_ge {a b : List Int} {n i j : Nat} (hn : a.length = n) (h : i = n + j) : (a ++ b).getD i 0 = b.getD j 0 := by
  subst hn h
  rw [List.getD_eq_getElem?_getD, List.getD_eq_getElem?_getD, List.getElem?_append_right (Nat.le_add_right _ _), Nat.add_sub_cancel_left]
theorem getD_range (f : Nat → Int) {n k : Nat} (h : k < n) : ((List.range n).map f).getD k 0 = f k := by
  rw [List.getD_eq_getElem?_getD, List.getElem?_map, List.getElem?_range h]; rfl
theorem turn8_eq {ns : List Int} (hn : ns.length = 64) : turnI 8 ns = (List.range 64).map (fun k => ns.getD (8 * (k % 8) + k / 8) 0) := by
  have c := turn8_col hn
  simp only [turnI, turnPre]
  rw [c 0 (by decide), c 1 (by decide), c 2 (by decide), c 3 (by decide), c 4 (by decide), c 5 (by decide), c 6 (by decide), c 7 (by decide)]
  rfl
theorem turn8_at {ns : List Int} (hn : ns.length = 64) {i j : Nat} (hi : i < 8) (hj : j < 8) : (turnI 8 ns).getD (8 * i + j) 0 = ns.getD (8 * j + i) 0 := by
  rw [turn8_eq hn, getD_range _ (by omega), show (8 * i + j) % 8 = j by omega, show (8 * i + j) / 8 = i by omega]
theorem turn4_eq {ns : List Int} (hn : ns.length = 16) : turnI 4 ns = (List.range 16).map (fun k => ns.getD (4 * (k % 4) + k / 4) 0) := by
  have c := turn4_col hn
  simp only [turnI, turnPre]
  rw [c 0 (by decide), c 1 (by decide), c 2 (by decide), c 3 (by decide)]
  rfl
theorem turn4_at {ns : List Int} (hn : ns.length = 16) {i j : Nat} (hi : i < 4) (hj : j < 4) : (turnI 4 ns).getD (4 * i + j) 0 = ns.getD (4 * j + i) 0 := by
  rw [turn4_eq hn, getD_range _ (by omega), show (4 * i + j) % 4 = j by omega, show (4 * i + j) / 4 = i by omega]
theorem passF_at {f : List Int → List Int} (hf : ∀ ms, (f ms).length = 8) (ns : List Int) {i j : Nat} (hj : j < 8) : ∀ {k : Nat}, i < k → (passF f ns k).getD (8 * i + j) 0 = (f (row8 ns i)).getD j 0
  | 0, h => absurd h (Nat.not_lt_zero _)
  | k + 1, h => by
    rw [passF]
    by_cases e : i < k
    · rw [getD_app_lt (by rw [passF_len hf]; omega), passF_at hf ns hj e]
    · obtain rfl : i = k := by omega
      exact getD_app_ge (passF_len hf ns i) rfl
theorem row8_at {ns : List Int} (hn : ns.length = 64) {i : Nat} (hi : i < 8) : ∀ j, j < 8 → (row8 ns i).getD j 0 = ns.getD (8 * i + j) 0 := by
  rw [row8_eq hn i hi]
  apply lt8 <;> rfl
/-- a sum of eight products, told over a list -/
def eight (m : Nat → Int) (ms : List Int) : Int := m 0 * ms.getD 0 0 + m 1 * ms.getD 1 0 + m 2 * ms.getD 2 0 + m 3 * ms.getD 3 0 + m 4 * ms.getD 4 0 + m 5 * ms.getD 5 0 + m 6 * ms.getD 6 0 + m 7 * ms.getD 7 0
theorem eight_sm (m : Nat → Int) (ms : List Int) : sm 8 (fun x => m x * ms.getD x 0) = eight m ms := by simp only [sm, eight, Int.zero_add]
theorem row1_law (ms : List Int) : ∀ v, v < 8 → Bd 1024 (2048 * (rowFL1 ms).getD v 0 - eight (m8 v) ms) := by
  unfold eight rowFL1
  generalize ms.getD 0 0 = x0
  generalize ms.getD 1 0 = x1
  generalize ms.getD 2 0 = x2
  generalize ms.getD 3 0 = x3
  generalize ms.getD 4 0 = x4
  generalize ms.getD 5 0 = x5
  generalize ms.getD 6 0 = x6
  generalize ms.getD 7 0 = x7
  unfold rowF1
  apply lt8
  · show Bd 1024 (2048 * ((evenF (x0 + x7) (x1 + x6) (x2 + x5) (x3 + x4)).1 * 2 ^ 2) - (8192 * x0 + 8192 * x1 + 8192 * x2 + 8192 * x3 + 8192 * x4 + 8192 * x5 + 8192 * x6 + 8192 * x7))
    simp only [evenF, oddF]
    unfold Bd; omega
  · show Bd 1024 (2048 * dsc (oddF (x3 - x4) (x2 - x5) (x1 - x6) (x0 - x7)).2.2.2 11 - (11363 * x0 + 9633 * x1 + 6437 * x2 + 2260 * x3 + (-2260) * x4 + (-6437) * x5 + (-9633) * x6 + (-11363) * x7))
    have h := dsc11 ((oddF (x3 - x4) (x2 - x5) (x1 - x6) (x0 - x7)).2.2.2)
    simp only [evenF, oddF] at h ⊢
    generalize dsc _ _ = r at *
    unfold Bd; omega
  · show Bd 1024 (2048 * dsc (evenF (x0 + x7) (x1 + x6) (x2 + x5) (x3 + x4)).2.2.1 11 - (10703 * x0 + 4433 * x1 + (-4433) * x2 + (-10703) * x3 + (-10703) * x4 + (-4433) * x5 + 4433 * x6 + 10703 * x7))
    have h := dsc11 ((evenF (x0 + x7) (x1 + x6) (x2 + x5) (x3 + x4)).2.2.1)
    simp only [evenF, oddF] at h ⊢
    generalize dsc _ _ = r at *
    unfold Bd; omega
  · show Bd 1024 (2048 * dsc (oddF (x3 - x4) (x2 - x5) (x1 - x6) (x0 - x7)).2.2.1 11 - (9633 * x0 + (-2259) * x1 + (-11362) * x2 + (-6436) * x3 + 6436 * x4 + 11362 * x5 + 2259 * x6 + (-9633) * x7))
    have h := dsc11 ((oddF (x3 - x4) (x2 - x5) (x1 - x6) (x0 - x7)).2.2.1)
    simp only [evenF, oddF] at h ⊢
    generalize dsc _ _ = r at *
    unfold Bd; omega
  · show Bd 1024 (2048 * ((evenF (x0 + x7) (x1 + x6) (x2 + x5) (x3 + x4)).2.1 * 2 ^ 2) - (8192 * x0 + (-8192) * x1 + (-8192) * x2 + 8192 * x3 + 8192 * x4 + (-8192) * x5 + (-8192) * x6 + 8192 * x7))
    simp only [evenF, oddF]
    unfold Bd; omega
  · show Bd 1024 (2048 * dsc (oddF (x3 - x4) (x2 - x5) (x1 - x6) (x0 - x7)).2.1 11 - (6437 * x0 + (-11362) * x1 + 2261 * x2 + 9633 * x3 + (-9633) * x4 + (-2261) * x5 + 11362 * x6 + (-6437) * x7))
    have h := dsc11 ((oddF (x3 - x4) (x2 - x5) (x1 - x6) (x0 - x7)).2.1)
    simp only [evenF, oddF] at h ⊢
    generalize dsc _ _ = r at *
    unfold Bd; omega
  · show Bd 1024 (2048 * dsc (evenF (x0 + x7) (x1 + x6) (x2 + x5) (x3 + x4)).2.2.2 11 - (4433 * x0 + (-10704) * x1 + 10704 * x2 + (-4433) * x3 + (-4433) * x4 + 10704 * x5 + (-10704) * x6 + 4433 * x7))
    have h := dsc11 ((evenF (x0 + x7) (x1 + x6) (x2 + x5) (x3 + x4)).2.2.2)
    simp only [evenF, oddF] at h ⊢
    generalize dsc _ _ = r at *
    unfold Bd; omega
  · show Bd 1024 (2048 * dsc (oddF (x3 - x4) (x2 - x5) (x1 - x6) (x0 - x7)).1 11 - (2260 * x0 + (-6436) * x1 + 9633 * x2 + (-11363) * x3 + 11363 * x4 + (-9633) * x5 + 6436 * x6 + (-2260) * x7))
    have h := dsc11 ((oddF (x3 - x4) (x2 - x5) (x1 - x6) (x0 - x7)).1)
    simp only [evenF, oddF] at h ⊢
    generalize dsc _ _ = r at *
    unfold Bd; omega
theorem row2_law (ms : List Int) : ∀ v, v < 8 → Bd 16384 (32768 * (rowFL2 ms).getD v 0 - eight (m8 v) ms) := by
  unfold eight rowFL2
  generalize ms.getD 0 0 = x0
  generalize ms.getD 1 0 = x1
  generalize ms.getD 2 0 = x2
  generalize ms.getD 3 0 = x3
  generalize ms.getD 4 0 = x4
  generalize ms.getD 5 0 = x5
  generalize ms.getD 6 0 = x6
  generalize ms.getD 7 0 = x7
  unfold rowF2
  apply lt8
  · show Bd 16384 (32768 * dsc (evenF (x0 + x7) (x1 + x6) (x2 + x5) (x3 + x4)).1 2 - (8192 * x0 + 8192 * x1 + 8192 * x2 + 8192 * x3 + 8192 * x4 + 8192 * x5 + 8192 * x6 + 8192 * x7))
    have h := dsc2 ((evenF (x0 + x7) (x1 + x6) (x2 + x5) (x3 + x4)).1)
    simp only [evenF, oddF] at h ⊢
    generalize dsc _ _ = r at *
    unfold Bd; omega
  · show Bd 16384 (32768 * dsc (oddF (x3 - x4) (x2 - x5) (x1 - x6) (x0 - x7)).2.2.2 15 - (11363 * x0 + 9633 * x1 + 6437 * x2 + 2260 * x3 + (-2260) * x4 + (-6437) * x5 + (-9633) * x6 + (-11363) * x7))
    have h := dsc15 ((oddF (x3 - x4) (x2 - x5) (x1 - x6) (x0 - x7)).2.2.2)
    simp only [evenF, oddF] at h ⊢
    generalize dsc _ _ = r at *
    unfold Bd; omega
  · show Bd 16384 (32768 * dsc (evenF (x0 + x7) (x1 + x6) (x2 + x5) (x3 + x4)).2.2.1 15 - (10703 * x0 + 4433 * x1 + (-4433) * x2 + (-10703) * x3 + (-10703) * x4 + (-4433) * x5 + 4433 * x6 + 10703 * x7))
    have h := dsc15 ((evenF (x0 + x7) (x1 + x6) (x2 + x5) (x3 + x4)).2.2.1)
    simp only [evenF, oddF] at h ⊢
    generalize dsc _ _ = r at *
    unfold Bd; omega
  · show Bd 16384 (32768 * dsc (oddF (x3 - x4) (x2 - x5) (x1 - x6) (x0 - x7)).2.2.1 15 - (9633 * x0 + (-2259) * x1 + (-11362) * x2 + (-6436) * x3 + 6436 * x4 + 11362 * x5 + 2259 * x6 + (-9633) * x7))
    have h := dsc15 ((oddF (x3 - x4) (x2 - x5) (x1 - x6) (x0 - x7)).2.2.1)
    simp only [evenF, oddF] at h ⊢
    generalize dsc _ _ = r at *
    unfold Bd; omega
  · show Bd 16384 (32768 * dsc (evenF (x0 + x7) (x1 + x6) (x2 + x5) (x3 + x4)).2.1 2 - (8192 * x0 + (-8192) * x1 + (-8192) * x2 + 8192 * x3 + 8192 * x4 + (-8192) * x5 + (-8192) * x6 + 8192 * x7))
    have h := dsc2 ((evenF (x0 + x7) (x1 + x6) (x2 + x5) (x3 + x4)).2.1)
    simp only [evenF, oddF] at h ⊢
    generalize dsc _ _ = r at *
    unfold Bd; omega
  · show Bd 16384 (32768 * dsc (oddF (x3 - x4) (x2 - x5) (x1 - x6) (x0 - x7)).2.1 15 - (6437 * x0 + (-11362) * x1 + 2261 * x2 + 9633 * x3 + (-9633) * x4 + (-2261) * x5 + 11362 * x6 + (-6437) * x7))
    have h := dsc15 ((oddF (x3 - x4) (x2 - x5) (x1 - x6) (x0 - x7)).2.1)
    simp only [evenF, oddF] at h ⊢
    generalize dsc _ _ = r at *
    unfold Bd; omega
  · show Bd 16384 (32768 * dsc (evenF (x0 + x7) (x1 + x6) (x2 + x5) (x3 + x4)).2.2.2 15 - (4433 * x0 + (-10704) * x1 + 10704 * x2 + (-4433) * x3 + (-4433) * x4 + 10704 * x5 + (-10704) * x6 + 4433 * x7))
    have h := dsc15 ((evenF (x0 + x7) (x1 + x6) (x2 + x5) (x3 + x4)).2.2.2)
    simp only [evenF, oddF] at h ⊢
    generalize dsc _ _ = r at *
    unfold Bd; omega
  · show Bd 16384 (32768 * dsc (oddF (x3 - x4) (x2 - x5) (x1 - x6) (x0 - x7)).1 15 - (2260 * x0 + (-6436) * x1 + 9633 * x2 + (-11363) * x3 + 11363 * x4 + (-9633) * x5 + 6436 * x6 + (-2260) * x7))
    have h := dsc15 ((oddF (x3 - x4) (x2 - x5) (x1 - x6) (x0 - x7)).1)
    simp only [evenF, oddF] at h ⊢
    generalize dsc _ _ = r at *
    unfold Bd; omega
theorem row3_law (ms : List Int) : ∀ v, v < 8 → Bd 1024 (2048 * (rowIL 11 ms).getD v 0 - eight (fun x => m8 x v) ms) := by
  unfold eight rowIL
  generalize ms.getD 0 0 = x0
  generalize ms.getD 1 0 = x1
  generalize ms.getD 2 0 = x2
  generalize ms.getD 3 0 = x3
  generalize ms.getD 4 0 = x4
  generalize ms.getD 5 0 = x5
  generalize ms.getD 6 0 = x6
  generalize ms.getD 7 0 = x7
  unfold rowI
  apply lt8
  · show Bd 1024 (2048 * dsc ((evenI x0 x4 x2 x6).1 + (oddF x7 x5 x3 x1).2.2.2) 11 - (8192 * x0 + 11363 * x1 + 10703 * x2 + 9633 * x3 + 8192 * x4 + 6437 * x5 + 4433 * x6 + 2260 * x7))
    have h := dsc11 ((evenI x0 x4 x2 x6).1 + (oddF x7 x5 x3 x1).2.2.2)
    simp only [evenI, oddF] at h ⊢
    generalize dsc _ _ = r at *
    unfold Bd; omega
  · show Bd 1024 (2048 * dsc ((evenI x0 x4 x2 x6).2.1 + (oddF x7 x5 x3 x1).2.2.1) 11 - (8192 * x0 + 9633 * x1 + 4433 * x2 + (-2259) * x3 + (-8192) * x4 + (-11362) * x5 + (-10704) * x6 + (-6436) * x7))
    have h := dsc11 ((evenI x0 x4 x2 x6).2.1 + (oddF x7 x5 x3 x1).2.2.1)
    simp only [evenI, oddF] at h ⊢
    generalize dsc _ _ = r at *
    unfold Bd; omega
  · show Bd 1024 (2048 * dsc ((evenI x0 x4 x2 x6).2.2.1 + (oddF x7 x5 x3 x1).2.1) 11 - (8192 * x0 + 6437 * x1 + (-4433) * x2 + (-11362) * x3 + (-8192) * x4 + 2261 * x5 + 10704 * x6 + 9633 * x7))
    have h := dsc11 ((evenI x0 x4 x2 x6).2.2.1 + (oddF x7 x5 x3 x1).2.1)
    simp only [evenI, oddF] at h ⊢
    generalize dsc _ _ = r at *
    unfold Bd; omega
  · show Bd 1024 (2048 * dsc ((evenI x0 x4 x2 x6).2.2.2 + (oddF x7 x5 x3 x1).1) 11 - (8192 * x0 + 2260 * x1 + (-10703) * x2 + (-6436) * x3 + 8192 * x4 + 9633 * x5 + (-4433) * x6 + (-11363) * x7))
    have h := dsc11 ((evenI x0 x4 x2 x6).2.2.2 + (oddF x7 x5 x3 x1).1)
    simp only [evenI, oddF] at h ⊢
    generalize dsc _ _ = r at *
    unfold Bd; omega
  · show Bd 1024 (2048 * dsc ((evenI x0 x4 x2 x6).2.2.2 - (oddF x7 x5 x3 x1).1) 11 - (8192 * x0 + (-2260) * x1 + (-10703) * x2 + 6436 * x3 + 8192 * x4 + (-9633) * x5 + (-4433) * x6 + 11363 * x7))
    have h := dsc11 ((evenI x0 x4 x2 x6).2.2.2 - (oddF x7 x5 x3 x1).1)
    simp only [evenI, oddF] at h ⊢
    generalize dsc _ _ = r at *
    unfold Bd; omega
  · show Bd 1024 (2048 * dsc ((evenI x0 x4 x2 x6).2.2.1 - (oddF x7 x5 x3 x1).2.1) 11 - (8192 * x0 + (-6437) * x1 + (-4433) * x2 + 11362 * x3 + (-8192) * x4 + (-2261) * x5 + 10704 * x6 + (-9633) * x7))
    have h := dsc11 ((evenI x0 x4 x2 x6).2.2.1 - (oddF x7 x5 x3 x1).2.1)
    simp only [evenI, oddF] at h ⊢
    generalize dsc _ _ = r at *
    unfold Bd; omega
  · show Bd 1024 (2048 * dsc ((evenI x0 x4 x2 x6).2.1 - (oddF x7 x5 x3 x1).2.2.1) 11 - (8192 * x0 + (-9633) * x1 + 4433 * x2 + 2259 * x3 + (-8192) * x4 + 11362 * x5 + (-10704) * x6 + 6436 * x7))
    have h := dsc11 ((evenI x0 x4 x2 x6).2.1 - (oddF x7 x5 x3 x1).2.2.1)
    simp only [evenI, oddF] at h ⊢
    generalize dsc _ _ = r at *
    unfold Bd; omega
  · show Bd 1024 (2048 * dsc ((evenI x0 x4 x2 x6).1 - (oddF x7 x5 x3 x1).2.2.2) 11 - (8192 * x0 + (-11363) * x1 + 10703 * x2 + (-9633) * x3 + 8192 * x4 + (-6437) * x5 + 4433 * x6 + (-2260) * x7))
    have h := dsc11 ((evenI x0 x4 x2 x6).1 - (oddF x7 x5 x3 x1).2.2.2)
    simp only [evenI, oddF] at h ⊢
    generalize dsc _ _ = r at *
    unfold Bd; omega
theorem row4_law (ms : List Int) : ∀ v, v < 8 → Bd 131072 (262144 * (rowIL 18 ms).getD v 0 - eight (fun x => m8 x v) ms) := by
  unfold eight rowIL
  generalize ms.getD 0 0 = x0
  generalize ms.getD 1 0 = x1
  generalize ms.getD 2 0 = x2
  generalize ms.getD 3 0 = x3
  generalize ms.getD 4 0 = x4
  generalize ms.getD 5 0 = x5
  generalize ms.getD 6 0 = x6
  generalize ms.getD 7 0 = x7
  unfold rowI
  apply lt8
  · show Bd 131072 (262144 * dsc ((evenI x0 x4 x2 x6).1 + (oddF x7 x5 x3 x1).2.2.2) 18 - (8192 * x0 + 11363 * x1 + 10703 * x2 + 9633 * x3 + 8192 * x4 + 6437 * x5 + 4433 * x6 + 2260 * x7))
    have h := dsc18 ((evenI x0 x4 x2 x6).1 + (oddF x7 x5 x3 x1).2.2.2)
    simp only [evenI, oddF] at h ⊢
    generalize dsc _ _ = r at *
    unfold Bd; omega
  · show Bd 131072 (262144 * dsc ((evenI x0 x4 x2 x6).2.1 + (oddF x7 x5 x3 x1).2.2.1) 18 - (8192 * x0 + 9633 * x1 + 4433 * x2 + (-2259) * x3 + (-8192) * x4 + (-11362) * x5 + (-10704) * x6 + (-6436) * x7))
    have h := dsc18 ((evenI x0 x4 x2 x6).2.1 + (oddF x7 x5 x3 x1).2.2.1)
    simp only [evenI, oddF] at h ⊢
    generalize dsc _ _ = r at *
    unfold Bd; omega
  · show Bd 131072 (262144 * dsc ((evenI x0 x4 x2 x6).2.2.1 + (oddF x7 x5 x3 x1).2.1) 18 - (8192 * x0 + 6437 * x1 + (-4433) * x2 + (-11362) * x3 + (-8192) * x4 + 2261 * x5 + 10704 * x6 + 9633 * x7))
    have h := dsc18 ((evenI x0 x4 x2 x6).2.2.1 + (oddF x7 x5 x3 x1).2.1)
    simp only [evenI, oddF] at h ⊢
    generalize dsc _ _ = r at *
    unfold Bd; omega
  · show Bd 131072 (262144 * dsc ((evenI x0 x4 x2 x6).2.2.2 + (oddF x7 x5 x3 x1).1) 18 - (8192 * x0 + 2260 * x1 + (-10703) * x2 + (-6436) * x3 + 8192 * x4 + 9633 * x5 + (-4433) * x6 + (-11363) * x7))
    have h := dsc18 ((evenI x0 x4 x2 x6).2.2.2 + (oddF x7 x5 x3 x1).1)
    simp only [evenI, oddF] at h ⊢
    generalize dsc _ _ = r at *
    unfold Bd; omega
  · show Bd 131072 (262144 * dsc ((evenI x0 x4 x2 x6).2.2.2 - (oddF x7 x5 x3 x1).1) 18 - (8192 * x0 + (-2260) * x1 + (-10703) * x2 + 6436 * x3 + 8192 * x4 + (-9633) * x5 + (-4433) * x6 + 11363 * x7))
    have h := dsc18 ((evenI x0 x4 x2 x6).2.2.2 - (oddF x7 x5 x3 x1).1)
    simp only [evenI, oddF] at h ⊢
    generalize dsc _ _ = r at *
    unfold Bd; omega
  · show Bd 131072 (262144 * dsc ((evenI x0 x4 x2 x6).2.2.1 - (oddF x7 x5 x3 x1).2.1) 18 - (8192 * x0 + (-6437) * x1 + (-4433) * x2 + 11362 * x3 + (-8192) * x4 + (-2261) * x5 + 10704 * x6 + (-9633) * x7))
    have h := dsc18 ((evenI x0 x4 x2 x6).2.2.1 - (oddF x7 x5 x3 x1).2.1)
    simp only [evenI, oddF] at h ⊢
    generalize dsc _ _ = r at *
    unfold Bd; omega
  · show Bd 131072 (262144 * dsc ((evenI x0 x4 x2 x6).2.1 - (oddF x7 x5 x3 x1).2.2.1) 18 - (8192 * x0 + (-9633) * x1 + 4433 * x2 + 2259 * x3 + (-8192) * x4 + 11362 * x5 + (-10704) * x6 + 6436 * x7))
    have h := dsc18 ((evenI x0 x4 x2 x6).2.1 - (oddF x7 x5 x3 x1).2.2.1)
    simp only [evenI, oddF] at h ⊢
    generalize dsc _ _ = r at *
    unfold Bd; omega
  · show Bd 131072 (262144 * dsc ((evenI x0 x4 x2 x6).1 - (oddF x7 x5 x3 x1).2.2.2) 18 - (8192 * x0 + (-11363) * x1 + 10703 * x2 + (-9633) * x3 + 8192 * x4 + (-6437) * x5 + 4433 * x6 + (-2260) * x7))
    have h := dsc18 ((evenI x0 x4 x2 x6).1 - (oddF x7 x5 x3 x1).2.2.2)
    simp only [evenI, oddF] at h ⊢
    generalize dsc _ _ = r at *
    unfold Bd; omega
def four (m : Nat → Int) (x0 x1 x2 x3 : Int) : Int := m 0 * x0 + m 1 * x1 + m 2 * x2 + m 3 * x3
theorem four_sm (m : Nat → Int) (f : Nat → Int) : sm 4 (fun x => m x * f x) = four m (f 0) (f 1) (f 2) (f 3) := by simp only [sm, four, Int.zero_add]
theorem row1_law4 (x0 x1 x2 x3 : Int) : ∀ v, v < 4 → Bd 1024 (2048 * (r4F1a x0 x1 x2 x3 ++ r4F1b x0 x1 x2 x3).getD v 0 - four (m4 v) x0 x1 x2 x3) := by
  unfold four
  apply lt4
  · show Bd 1024 (2048 * ((evenF x0 x1 x2 x3).1 * 2 ^ 2) - (8192 * x0 + 8192 * x1 + 8192 * x2 + 8192 * x3))
    simp only [evenF]
    unfold Bd; omega
  · show Bd 1024 (2048 * dsc (evenF x0 x1 x2 x3).2.2.1 11 - (10703 * x0 + 4433 * x1 + (-4433) * x2 + (-10703) * x3))
    have h := dsc11 (evenF x0 x1 x2 x3).2.2.1
    simp only [evenF] at h ⊢
    generalize dsc _ _ = r at *
    unfold Bd; omega
  · show Bd 1024 (2048 * ((evenF x0 x1 x2 x3).2.1 * 2 ^ 2) - (8192 * x0 + (-8192) * x1 + (-8192) * x2 + 8192 * x3))
    simp only [evenF]
    unfold Bd; omega
  · show Bd 1024 (2048 * dsc (evenF x0 x1 x2 x3).2.2.2 11 - (4433 * x0 + (-10704) * x1 + 10704 * x2 + (-4433) * x3))
    have h := dsc11 (evenF x0 x1 x2 x3).2.2.2
    simp only [evenF] at h ⊢
    generalize dsc _ _ = r at *
    unfold Bd; omega
theorem row2_law4 (x0 x1 x2 x3 : Int) : ∀ v, v < 4 → Bd 8192 (16384 * (r4F2a x0 x1 x2 x3 ++ r4F2b x0 x1 x2 x3).getD v 0 - four (m4 v) x0 x1 x2 x3) := by
  unfold four
  apply lt4
  · show Bd 8192 (16384 * dsc (evenF x0 x1 x2 x3).1 1 - (8192 * x0 + 8192 * x1 + 8192 * x2 + 8192 * x3))
    have h := dsc1 (evenF x0 x1 x2 x3).1
    simp only [evenF] at h ⊢
    generalize dsc _ _ = r at *
    unfold Bd; omega
  · show Bd 8192 (16384 * dsc (evenF x0 x1 x2 x3).2.2.1 14 - (10703 * x0 + 4433 * x1 + (-4433) * x2 + (-10703) * x3))
    have h := dsc14 (evenF x0 x1 x2 x3).2.2.1
    simp only [evenF] at h ⊢
    generalize dsc _ _ = r at *
    unfold Bd; omega
  · show Bd 8192 (16384 * dsc (evenF x0 x1 x2 x3).2.1 1 - (8192 * x0 + (-8192) * x1 + (-8192) * x2 + 8192 * x3))
    have h := dsc1 (evenF x0 x1 x2 x3).2.1
    simp only [evenF] at h ⊢
    generalize dsc _ _ = r at *
    unfold Bd; omega
  · show Bd 8192 (16384 * dsc (evenF x0 x1 x2 x3).2.2.2 14 - (4433 * x0 + (-10704) * x1 + 10704 * x2 + (-4433) * x3))
    have h := dsc14 (evenF x0 x1 x2 x3).2.2.2
    simp only [evenF] at h ⊢
    generalize dsc _ _ = r at *
    unfold Bd; omega
theorem row3_law4 (x0 x1 x2 x3 : Int) : ∀ v, v < 4 → Bd 1024 (2048 * (r4I 11 x0 x1 x2 x3).getD v 0 - four (fun x => m4 x v) x0 x1 x2 x3) := by
  unfold four
  apply lt4
  · show Bd 1024 (2048 * dsc (evenI x0 x2 x1 x3).1 11 - (8192 * x0 + 10703 * x1 + 8192 * x2 + 4433 * x3))
    have h := dsc11 (evenI x0 x2 x1 x3).1
    simp only [evenI] at h ⊢
    generalize dsc _ _ = r at *
    unfold Bd; omega
  · show Bd 1024 (2048 * dsc (evenI x0 x2 x1 x3).2.1 11 - (8192 * x0 + 4433 * x1 + (-8192) * x2 + (-10704) * x3))
    have h := dsc11 (evenI x0 x2 x1 x3).2.1
    simp only [evenI] at h ⊢
    generalize dsc _ _ = r at *
    unfold Bd; omega
  · show Bd 1024 (2048 * dsc (evenI x0 x2 x1 x3).2.2.1 11 - (8192 * x0 + (-4433) * x1 + (-8192) * x2 + 10704 * x3))
    have h := dsc11 (evenI x0 x2 x1 x3).2.2.1
    simp only [evenI] at h ⊢
    generalize dsc _ _ = r at *
    unfold Bd; omega
  · show Bd 1024 (2048 * dsc (evenI x0 x2 x1 x3).2.2.2 11 - (8192 * x0 + (-10703) * x1 + 8192 * x2 + (-4433) * x3))
    have h := dsc11 (evenI x0 x2 x1 x3).2.2.2
    simp only [evenI] at h ⊢
    generalize dsc _ _ = r at *
    unfold Bd; omega
theorem row4_law4 (x0 x1 x2 x3 : Int) : ∀ v, v < 4 → Bd 65536 (131072 * (r4I 17 x0 x1 x2 x3).getD v 0 - four (fun x => m4 x v) x0 x1 x2 x3) := by
  unfold four
  apply lt4
  · show Bd 65536 (131072 * dsc (evenI x0 x2 x1 x3).1 17 - (8192 * x0 + 10703 * x1 + 8192 * x2 + 4433 * x3))
    have h := dsc17 (evenI x0 x2 x1 x3).1
    simp only [evenI] at h ⊢
    generalize dsc _ _ = r at *
    unfold Bd; omega
  · show Bd 65536 (131072 * dsc (evenI x0 x2 x1 x3).2.1 17 - (8192 * x0 + 4433 * x1 + (-8192) * x2 + (-10704) * x3))
    have h := dsc17 (evenI x0 x2 x1 x3).2.1
    simp only [evenI] at h ⊢
    generalize dsc _ _ = r at *
    unfold Bd; omega
  · show Bd 65536 (131072 * dsc (evenI x0 x2 x1 x3).2.2.1 17 - (8192 * x0 + (-4433) * x1 + (-8192) * x2 + 10704 * x3))
    have h := dsc17 (evenI x0 x2 x1 x3).2.2.1
    simp only [evenI] at h ⊢
    generalize dsc _ _ = r at *
    unfold Bd; omega
  · show Bd 65536 (131072 * dsc (evenI x0 x2 x1 x3).2.2.2 17 - (8192 * x0 + (-10703) * x1 + 8192 * x2 + (-4433) * x3))
    have h := dsc17 (evenI x0 x2 x1 x3).2.2.2
    simp only [evenI] at h ⊢
    generalize dsc _ _ = r at *
    unfold Bd; omega
theorem pass4F1_at (ns : List Int) {i j : Nat} (hj : j < 4) : ∀ {k : Nat}, i < k → (pass4F1 ns k).getD (4 * i + j) 0 = (r4F1a (ns.getD (4 * i + 0) 0) (ns.getD (4 * i + 1) 0) (ns.getD (4 * i + 2) 0) (ns.getD (4 * i + 3) 0) ++ r4F1b (ns.getD (4 * i + 0) 0) (ns.getD (4 * i + 1) 0) (ns.getD (4 * i + 2) 0) (ns.getD (4 * i + 3) 0)).getD j 0
  | 0, h => absurd h (Nat.not_lt_zero _)
  | k + 1, h => by
    rw [pass4F1, List.append_assoc]
    by_cases e : i < k
    · rw [getD_app_lt (by rw [pass4F1_len]; omega), pass4F1_at ns hj e]
    · obtain rfl : i = k := by omega
      rw [getD_app_ge (pass4F1_len ns i) rfl]
      have e0 : Int.toNat (0 + (i : Int) * 4) = 4 * i + 0 := by omega
      have e1 : Int.toNat (0 + (i : Int) * 4 + 1) = 4 * i + 1 := by omega
      have e2 : Int.toNat (0 + (i : Int) * 4 + 2) = 4 * i + 2 := by omega
      have e3 : Int.toNat (0 + (i : Int) * 4 + 3) = 4 * i + 3 := by omega
      simp only [at40, at41, at42, at43, e0, e1, e2, e3]
theorem pass4F2_at (ns : List Int) {i j : Nat} (hj : j < 4) : ∀ {k : Nat}, i < k → (pass4F2 ns k).getD (4 * i + j) 0 = (r4F2a (ns.getD (4 * i + 0) 0) (ns.getD (4 * i + 1) 0) (ns.getD (4 * i + 2) 0) (ns.getD (4 * i + 3) 0) ++ r4F2b (ns.getD (4 * i + 0) 0) (ns.getD (4 * i + 1) 0) (ns.getD (4 * i + 2) 0) (ns.getD (4 * i + 3) 0)).getD j 0
  | 0, h => absurd h (Nat.not_lt_zero _)
  | k + 1, h => by
    rw [pass4F2, List.append_assoc]
    by_cases e : i < k
    · rw [getD_app_lt (by rw [pass4F2_len]; omega), pass4F2_at ns hj e]
    · obtain rfl : i = k := by omega
      rw [getD_app_ge (pass4F2_len ns i) rfl]
      have e0 : Int.toNat (0 + (i : Int) * 4) = 4 * i + 0 := by omega
      have e1 : Int.toNat (0 + (i : Int) * 4 + 1) = 4 * i + 1 := by omega
      have e2 : Int.toNat (0 + (i : Int) * 4 + 2) = 4 * i + 2 := by omega
      have e3 : Int.toNat (0 + (i : Int) * 4 + 3) = 4 * i + 3 := by omega
      simp only [at40, at41, at42, at43, e0, e1, e2, e3]
theorem pass4I_at (dn : Int) (ns : List Int) {i j : Nat} (hj : j < 4) : ∀ {k : Nat}, i < k → (pass4I dn ns k).getD (4 * i + j) 0 = (r4I dn (ns.getD (4 * i + 0) 0) (ns.getD (4 * i + 1) 0) (ns.getD (4 * i + 2) 0) (ns.getD (4 * i + 3) 0)).getD j 0
  | 0, h => absurd h (Nat.not_lt_zero _)
  | k + 1, h => by
    rw [pass4I]
    by_cases e : i < k
    · rw [getD_app_lt (by rw [pass4I_len]; omega), pass4I_at dn ns hj e]
    · obtain rfl : i = k := by omega
      rw [getD_app_ge (pass4I_len dn ns i) rfl]
      have e0 : Int.toNat (0 + (i : Int) * 4) = 4 * i + 0 := by omega
      have e1 : Int.toNat (0 + (i : Int) * 4 + 1) = 4 * i + 1 := by omega
      have e2 : Int.toNat (0 + (i : Int) * 4 + 2) = 4 * i + 2 := by omega
      have e3 : Int.toNat (0 + (i : Int) * 4 + 3) = 4 * i + 3 := by omega
      simp only [at40, at41, at42, at43, e0, e1, e2, e3]
section
variable {ns : List Int}
theorem fA8 (hn : ns.length = 64) : ∀ y v, y < 8 → v < 8 → Bd 1024 (2048 * (passF rowFL1 ns 8).getD (8 * y + v) 0 - sm 8 (fun x => m8 v x * ns.getD (8 * y + x) 0)) := fun y v hy hv => by
  have h := row1_law (row8 ns y) v hv
  rw [← eight_sm, sm_congr fun x hx => by rw [row8_at hn hy x hx]] at h
  rw [passF_at rowFL1_len ns hv hy]; exact h
theorem fF8 : ∀ u v, u < 8 → v < 8 → Bd 16384 (32768 * (fwd8 ns).getD (8 * u + v) 0 - sm 8 (fun y => m8 u y * (passF rowFL1 ns 8).getD (8 * y + v) 0)) := fun u v hu hv => by
  have h := row2_law (row8 (fwd8a ns) v) u hu
  rw [← eight_sm, sm_congr fun y hy => by rw [row8_at (fwd8a_len ns) hv y hy, show (fwd8a ns).getD (8 * v + y) 0 = (passF rowFL1 ns 8).getD (8 * y + v) 0 from turn8_at (passF_len rowFL1_len ns 8) hv hy]] at h
  rw [show (fwd8 ns).getD (8 * u + v) 0 = _ from turn8_at (passF_len rowFL2_len _ 8) hu hv, passF_at rowFL2_len _ hu hv]; exact h
theorem fH8 (hn : ns.length = 64) : ∀ v y, v < 8 → y < 8 → Bd 1024 (2048 * (passF (rowIL 11) (turnI 8 ns) 8).getD (8 * v + y) 0 - sm 8 (fun u => m8 u y * ns.getD (8 * u + v) 0)) := fun v y hv hy => by
  have h := row3_law (row8 (turnI 8 ns) v) y hy
  rw [← eight_sm, sm_congr fun x hx => by rw [row8_at (turn8_len hn) hv x hx, turn8_at hn hv hx]] at h
  rw [passF_at (rowIL_len 11) _ hy hv]; exact h
theorem fR8 : ∀ y x, y < 8 → x < 8 → Bd 131072 (262144 * (inv8 ns).getD (8 * y + x) 0 - sm 8 (fun v => m8 v x * (passF (rowIL 11) (turnI 8 ns) 8).getD (8 * v + y) 0)) := fun y x hy hx => by
  have h := row4_law (row8 (inv8a ns) y) x hx
  rw [← eight_sm, sm_congr fun v hv => by rw [row8_at (inv8a_len ns) hy v hv, show (inv8a ns).getD (8 * y + v) 0 = _ from turn8_at (passF_len (rowIL_len 11) _ 8) hy hv]] at h
  rw [inv8, passF_at (rowIL_len 18) _ hx hy]; exact h
theorem fA4 : ∀ y v, y < 4 → v < 4 → Bd 1024 (2048 * (pass4F1 ns 4).getD (4 * y + v) 0 - sm 4 (fun x => m4 v x * ns.getD (4 * y + x) 0)) := fun y v hy hv => by
  rw [four_sm, pass4F1_at ns hv hy]; exact row1_law4 _ _ _ _ v hv
theorem fF4 (hn : ns.length = 16) : ∀ u v, u < 4 → v < 4 → Bd 8192 (16384 * (fwd4 ns).getD (4 * u + v) 0 - sm 4 (fun y => m4 u y * (pass4F1 ns 4).getD (4 * y + v) 0)) := fun u v hu hv => by
  rw [show (fwd4 ns).getD (4 * u + v) 0 = _ from turn4_at (pass4F2_len _ 4) hu hv, pass4F2_at _ hu hv,
    sm_congr fun y hy => by rw [← turn4_at (pass4F1_len ns 4) hv hy], four_sm _ (fun y => (turnI 4 (pass4F1 ns 4)).getD (4 * v + y) 0)]
  exact row2_law4 _ _ _ _ u hu
theorem fH4 (hn : ns.length = 16) : ∀ v y, v < 4 → y < 4 → Bd 1024 (2048 * (pass4I 11 (turnI 4 ns) 4).getD (4 * v + y) 0 - sm 4 (fun u => m4 u y * ns.getD (4 * u + v) 0)) := fun v y hv hy => by
  rw [pass4I_at 11 _ hy hv, sm_congr fun u hu => by rw [← turn4_at hn hv hu], four_sm (fun u => m4 u y) (fun u => (turnI 4 ns).getD (4 * v + u) 0)]
  exact row3_law4 _ _ _ _ y hy
theorem fR4 : ∀ y x, y < 4 → x < 4 → Bd 65536 (131072 * (inv4 ns).getD (4 * y + x) 0 - sm 4 (fun v => m4 v x * (pass4I 11 (turnI 4 ns) 4).getD (4 * v + y) 0)) := fun y x hy hx => by
  rw [inv4, pass4I_at 17 _ hx hy, sm_congr fun v hv => by rw [← turn4_at (pass4I_len 11 _ 4) hy hv], four_sm (fun v => m4 v x) (fun v => (turnI 4 (pass4I 11 (turnI 4 ns) 4)).getD (4 * y + v) 0)]
  exact row4_law4 _ _ _ _ x hx
end
theorem rowG_at (g : Int → Int → Int) (j : Nat) {i : Nat} : ∀ {k : Nat}, i < k → (rowG g j k).getD i 0 = g j i
  | 0, h => absurd h (Nat.not_lt_zero _)
  | k + 1, h => by
    rw [rowG]
    by_cases e : i < k
    · rw [getD_app_lt (by rw [rowG_len]; exact e), rowG_at g j e]
    · obtain rfl : i = k := by omega
      rw [getD_app_ge (rowG_len g j i) (j := 0) (by omega)]; rfl
theorem gridG_at (g : Int → Int → Int) (n : Nat) {i j : Nat} (hj : j < n) : ∀ {k : Nat}, i < k → (gridG g n k).getD (n * i + j) 0 = g i j
  | 0, h => absurd h (Nat.not_lt_zero _)
  | k + 1, h => by
    rw [gridG]
    by_cases e : i < k
    · rw [getD_app_lt (by rw [gridG_length]; have := Nat.mul_le_mul_left n e; rw [Nat.mul_succ] at this; omega), gridG_at g n hj e]
    · obtain rfl : i = k := by omega
      rw [getD_app_ge (gridG_length g n i) rfl, rowG_at g i hj]
theorem TT8_at (ns : List Int) {i j : Nat} (hi : i < 8) (hj : j < 8) : (TT 8 ns).getD (8 * i + j) 0 = ns.getD (8 * j + i) 0 := by
  rw [TTn, gridT, gridG_at _ 8 hj hi]
  exact congrArg (ns.getD · 0) (by omega)
theorem TT4_at (ns : List Int) {i j : Nat} (hi : i < 4) (hj : j < 4) : (TT 4 ns).getD (4 * i + j) 0 = ns.getD (4 * j + i) 0 := by
  rw [TTn, gridT, gridG_at _ 4 hj hi]
  exact congrArg (ns.getD · 0) (by omega)
theorem zip_all {c : Int} : ∀ {as bs : List Int} {N : Nat}, as.length = N → bs.length = N → (∀ i, i < N → dist (as.getD i 0) (bs.getD i 0) ≤ c) → ∀ d ∈ List.zipWith dist as bs, d ≤ c
  | [], _, _, _, _, _ => fun _ h => by simp at h
  | _ :: _, [], _, _, _, _ => fun _ h => by simp at h
  | a :: as, b :: bs, 0, h, _, _ => by simp at h
  | a :: as, b :: bs, N + 1, h1, h2, h => fun d hd => by
    rw [List.zipWith_cons_cons] at hd
    rcases List.mem_cons.mp hd with rfl | hd
    · exact h 0 (Nat.succ_pos _)
    · exact zip_all (N := N) (Nat.succ.inj h1) (Nat.succ.inj h2) (fun i hi => h (i + 1) (Nat.succ_lt_succ hi)) d hd
theorem dist_le {a b c : Int} (h : Bd c (a - b)) : dist a b ≤ c := by unfold dist; unfold Bd at h; split <;> omega
theorem map_at (f : Int → Int) {as : List Int} {i : Nat} (h : i < as.length) : (as.map f).getD i 0 = f (as.getD i 0) := by
  rw [List.getD_eq_getElem?_getD, List.getD_eq_getElem?_getD, List.getElem?_map, List.getElem?_eq_getElem h]; rfl
theorem eighth {r x : Int} (h : Bd 8 (r - 8 * x)) : Bd 1 ((r + 4).fdiv 8 - x) := by
  rw [Int.fdiv_eq_ediv_of_nonneg _ (by decide)]
  unfold Bd at *; omega
theorem law_turn8 {ns : List Int} (hn : ns.length = 64) : ∀ d ∈ List.zipWith dist (FF 8 (TT 8 ns)) (TT 8 (FF 8 ns)), d ≤ 8 := by
  refine zip_all (N := 64) (FF_len 8 (by decide) _) (TT_len 8 _) fun i hi => ?_
  have e : i = 8 * (i / 8) + i % 8 := by omega
  have h1 : i / 8 < 8 := by omega
  have h2 : i % 8 < 8 := by omega
  generalize i / 8 = u at *
  generalize i % 8 = v at *
  subst e
  rw [TT8_at _ h1 h2, FF8, FF8]
  refine dist_le (Bd.mono (B := 3) ?_ (by decide))
  have hX : ∀ y v, y < 8 → v < 8 → Bd 1024 (2048 * (passF rowFL1 (TT 8 ns) 8).getD (8 * y + v) 0 - sm 8 (fun x => m8 v x * ns.getD (8 * x + y) 0)) := fun y v hy hv => by
    rw [sm_congr fun x hx => by rw [← TT8_at ns hy hx]]; exact fA8 (TT_len 8 ns) y v hy hv
  exact turn8 (X := fun y x => ns.getD (8 * y + x) 0) (A := fun y v => (passF rowFL1 ns 8).getD (8 * y + v) 0) (F := fun u v => (fwd8 ns).getD (8 * u + v) 0)
    (A' := fun y v => (passF rowFL1 (TT 8 ns) 8).getD (8 * y + v) 0) (F' := fun u v => (fwd8 (TT 8 ns)).getD (8 * u + v) 0) (fA8 hn) (fF8) hX (fF8) h1 h2
theorem law_back8 {ns : List Int} (hn : ns.length = 64) (hb : AllB 128 ns) : ∀ d ∈ List.zipWith dist ((II 8 (FF 8 ns)).map (fun x => (x + 4).fdiv 8)) ns, d ≤ 1 := by
  have hl := II_len 8 (by decide) (FF 8 ns)
  refine zip_all (N := 64) (by rw [List.length_map]; exact hl) hn fun i hi => ?_
  rw [map_at _ (by rw [hl]; exact hi)]
  have e : i = 8 * (i / 8) + i % 8 := by omega
  have h1 : i / 8 < 8 := by omega
  have h2 : i % 8 < 8 := by omega
  generalize i / 8 = u at *
  generalize i % 8 = v at *
  subst e
  rw [FF8, II8]
  refine dist_le (eighth ?_)
  exact back8 (X := fun y x => ns.getD (8 * y + x) 0) (A := fun y v => (passF rowFL1 ns 8).getD (8 * y + v) 0) (F := fun u v => (fwd8 ns).getD (8 * u + v) 0)
    (H := fun v y => (passF (rowIL 11) (turnI 8 (fwd8 ns)) 8).getD (8 * v + y) 0) (R := fun y x => (inv8 (fwd8 ns)).getD (8 * y + x) 0) (fun y x _ _ => hb.getD (by decide) _) (fA8 hn) (fF8) (fH8 (fwd8_len ns)) fR8 h1 h2
theorem law_turn4 {ns : List Int} (hn : ns.length = 16) : ∀ d ∈ List.zipWith dist (FF 4 (TT 4 ns)) (TT 4 (FF 4 ns)), d ≤ 6 := by
  refine zip_all (N := 16) (FF_len 4 (by decide) _) (TT_len 4 _) fun i hi => ?_
  have e : i = 4 * (i / 4) + i % 4 := by omega
  have h1 : i / 4 < 4 := by omega
  have h2 : i % 4 < 4 := by omega
  generalize i / 4 = u at *
  generalize i % 4 = v at *
  subst e
  rw [TT4_at _ h1 h2, FF4, FF4]
  refine dist_le (Bd.mono (B := 3) ?_ (by decide))
  have hX : ∀ y v, y < 4 → v < 4 → Bd 1024 (2048 * (pass4F1 (TT 4 ns) 4).getD (4 * y + v) 0 - sm 4 (fun x => m4 v x * ns.getD (4 * x + y) 0)) := fun y v hy hv => by
    rw [sm_congr fun x hx => by rw [← TT4_at ns hy hx]]; exact fA4 y v hy hv
  exact turn4 (X := fun y x => ns.getD (4 * y + x) 0) (A := fun y v => (pass4F1 ns 4).getD (4 * y + v) 0) (F := fun u v => (fwd4 ns).getD (4 * u + v) 0)
    (A' := fun y v => (pass4F1 (TT 4 ns) 4).getD (4 * y + v) 0) (F' := fun u v => (fwd4 (TT 4 ns)).getD (4 * u + v) 0) (fA4) (fF4 hn) hX (fF4 (TT_len 4 ns)) h1 h2
theorem law_back4 {ns : List Int} (hn : ns.length = 16) (hb : AllB 128 ns) : ∀ d ∈ List.zipWith dist ((II 4 (FF 4 ns)).map (fun x => (x + 4).fdiv 8)) ns, d ≤ 1 := by
  have hl := II_len 4 (by decide) (FF 4 ns)
  refine zip_all (N := 16) (by rw [List.length_map]; exact hl) hn fun i hi => ?_
  rw [map_at _ (by rw [hl]; exact hi)]
  have e : i = 4 * (i / 4) + i % 4 := by omega
  have h1 : i / 4 < 4 := by omega
  have h2 : i % 4 < 4 := by omega
  generalize i / 4 = u at *
  generalize i % 4 = v at *
  subst e
  rw [FF4, II4]
  refine dist_le (eighth ?_)
  exact back4 (X := fun y x => ns.getD (4 * y + x) 0) (A := fun y v => (pass4F1 ns 4).getD (4 * y + v) 0) (F := fun u v => (fwd4 ns).getD (4 * u + v) 0)
    (H := fun v y => (pass4I 11 (turnI 4 (fwd4 ns)) 4).getD (4 * v + y) 0) (R := fun y x => (inv4 (fwd4 ns)).getD (4 * y + x) 0) (fun y x _ _ => hb.getD (by decide) _) (fA4) (fF4 hn) (fH4 (fwd4_len ns)) fR4 h1 h2
theorem ints_four {ns : List Int} (hn : ns.length = 4) : ∃ a b c d, ns = [a, b, c, d] := by
  match ns, hn with
  | [a, b, c, d], _ => exact ⟨a, b, c, d, rfl⟩
theorem ints_one {ns : List Int} (hn : ns.length = 1) : ∃ a, ns = [a] := by
  match ns, hn with
  | [a], _ => exact ⟨a, rfl⟩
theorem law_turn2 {ns : List Int} (hn : ns.length = 4) : ∀ d ∈ List.zipWith dist (FF 2 (TT 2 ns)) (TT 2 (FF 2 ns)), d ≤ 0 := by
  obtain ⟨a, b, c, d, rfl⟩ := ints_four hn
  rw [FF2, FF2, TTn, TTn]
  intro x hx
  have e : ∀ a b c d : Int, gridT [a, b, c, d] 2 = [a, c, b, d] := fun _ _ _ _ => rfl
  simp only [e, List.getD_cons_zero, List.getD_cons_succ, two, List.map_cons, List.map_nil, List.zipWith_cons_cons, List.zipWith_nil_left, List.mem_cons, List.not_mem_nil, or_false, dist] at hx
  rcases hx with rfl | rfl | rfl | rfl <;> split <;> omega
theorem law_turn1 {ns : List Int} (hn : ns.length = 1) : ∀ d ∈ List.zipWith dist (FF 1 (TT 1 ns)) (TT 1 (FF 1 ns)), d ≤ 0 := by
  obtain ⟨a, rfl⟩ := ints_one hn
  rw [FF1, FF1, TTn, TTn]
  intro x hx
  have e : ∀ a : Int, gridT [a] 1 = [a] := fun _ => rfl
  rw [e, e] at hx
  simp only [List.getD_cons_zero, List.zipWith_cons_cons, List.zipWith_nil_left, List.mem_singleton, dist] at hx
  subst hx; split <;> omega
theorem law_back2 {ns : List Int} (hn : ns.length = 4) : II 2 (FF 2 ns) = ns.map (fun x => 8 * x) := by
  obtain ⟨a, b, c, d, rfl⟩ := ints_four hn
  rw [FF2, II2]
  simp only [List.getD_cons_zero, List.getD_cons_succ, two, List.map_cons, List.map_nil]
  have k : ∀ n x : Int, n = 16 * x → dsc n 1 = 8 * x := fun n x h => by have := dsc1 n; omega
  rw [k _ a (by omega), k _ b (by omega), k _ c (by omega), k _ d (by omega)]
theorem law_back1 {ns : List Int} (hn : ns.length = 1) : II 1 (FF 1 ns) = ns.map (fun x => 8 * x) := by
  obtain ⟨a, rfl⟩ := ints_one hn
  rw [FF1, II1]
  simp only [List.getD_cons_zero, List.map_cons, List.map_nil, Int.mul_comm]
theorem getD_rep {c : Int} {n i : Nat} (h : i < n) : (List.replicate n c).getD i 0 = c := by
  rw [List.getD_eq_getElem?_getD, List.getElem?_replicate, if_pos h]; rfl
theorem getD_zeros (n i : Nat) : (List.replicate n (0 : Int)).getD i 0 = 0 := by
  rw [List.getD_eq_getElem?_getD, List.getElem?_replicate]; split <;> rfl
theorem ext_at : ∀ {as bs : List Int} {N : Nat}, as.length = N → bs.length = N → (∀ i, i < N → as.getD i 0 = bs.getD i 0) → as = bs
  | [], [], _, _, _, _ => rfl
  | [], _ :: _, _, h1, h2, _ => by subst h1; simp at h2
  | _ :: _, [], _, h1, h2, _ => by subst h1; simp at h2
  | a :: as, b :: bs, 0, h1, _, _ => by simp at h1
  | a :: as, b :: bs, N + 1, h1, h2, h => by
    have h0 : a = b := h 0 (Nat.succ_pos _)
    rw [h0, ext_at (N := N) (Nat.succ.inj h1) (Nat.succ.inj h2) fun i hi => h (i + 1) (Nat.succ_lt_succ hi)]
theorem dc_at (x : Int) (n i : Nat) : ([x] ++ List.replicate n (0 : Int)).getD i 0 = if i = 0 then x else 0 := by
  cases i with
  | zero => rfl
  | succ i => rw [if_neg (Nat.succ_ne_zero i)]; exact getD_zeros n i
theorem sm_const (f : Nat → Int) (c : Int) (n : Nat) : sm n (fun x => f x * c) = c * sm n f := by
  rw [← sm_mul]; exact sm_congr fun x _ => Int.mul_comm _ _
theorem m8_dc : ∀ v, v < 8 → sm 8 (m8 v) = if v = 0 then 65536 else 0 := by decide +kernel
theorem const8_row (c : Int) : ∀ y v, y < 8 → v < 8 → (passF rowFL1 (List.replicate 64 c) 8).getD (8 * y + v) 0 = if v = 0 then 32 * c else 0 := fun y v hy hv => by
  have h := fA8 List.length_replicate y v hy hv (ns := List.replicate 64 c)
  rw [sm_congr (g := fun x => m8 v x * c) fun x hx => by rw [getD_rep (by omega)], sm_const, m8_dc v hv] at h
  generalize (passF rowFL1 (List.replicate 64 c) 8).getD (8 * y + v) 0 = a at *
  unfold Bd at h
  by_cases e : v = 0
  · rw [if_pos e] at h ⊢; omega
  · rw [if_neg e] at h ⊢; omega
theorem const8 (c : Int) : ∀ u v, u < 8 → v < 8 → (fwd8 (List.replicate 64 c)).getD (8 * u + v) 0 = if 8 * u + v = 0 then 64 * c else 0 := fun u v hu hv => by
  have h := fF8 u v hu hv (ns := List.replicate 64 c)
  rw [sm_congr (g := fun y => m8 u y * if v = 0 then 32 * c else 0) fun y hy => by rw [const8_row c y v hy hv], sm_const, m8_dc u hu] at h
  generalize (fwd8 (List.replicate 64 c)).getD (8 * u + v) 0 = a at *
  unfold Bd at h
  by_cases e : v = 0
  · rw [if_pos e] at h
    by_cases e2 : u = 0
    · rw [if_pos e2] at h; rw [if_pos (by omega)]; omega
    · rw [if_neg e2] at h; rw [if_neg (by omega)]; omega
  · rw [if_neg e, Int.zero_mul] at h; rw [if_neg (by omega)]; omega
theorem law_const8 (c : Int) : FF 8 (List.replicate 64 c) = [8 * 8 * c] ++ List.replicate 63 0 := by
  refine ext_at (N := 64) (FF_len 8 (by decide) _) (by rw [List.length_append, List.length_replicate]; rfl) fun i hi => ?_
  rw [FF8, dc_at]
  have h := const8 c (i / 8) (i % 8) (by omega) (by omega)
  rw [show 8 * (i / 8) + i % 8 = i by omega] at h
  rw [h]
  split <;> omega
theorem m4_dc : ∀ v, v < 4 → sm 4 (m4 v) = if v = 0 then 32768 else 0 := by decide +kernel
theorem const4_row (c : Int) : ∀ y v, y < 4 → v < 4 → (pass4F1 (List.replicate 16 c) 4).getD (4 * y + v) 0 = if v = 0 then 16 * c else 0 := fun y v hy hv => by
  have h := fA4 y v hy hv (ns := List.replicate 16 c)
  rw [sm_congr (g := fun x => m4 v x * c) fun x hx => by rw [getD_rep (by omega)], sm_const, m4_dc v hv] at h
  generalize (pass4F1 (List.replicate 16 c) 4).getD (4 * y + v) 0 = a at *
  unfold Bd at h
  by_cases e : v = 0
  · rw [if_pos e] at h ⊢; omega
  · rw [if_neg e] at h ⊢; omega
theorem const4 (c : Int) : ∀ u v, u < 4 → v < 4 → (fwd4 (List.replicate 16 c)).getD (4 * u + v) 0 = if 4 * u + v = 0 then 32 * c else 0 := fun u v hu hv => by
  have h := fF4 List.length_replicate u v hu hv (ns := List.replicate 16 c)
  rw [sm_congr (g := fun y => m4 u y * if v = 0 then 16 * c else 0) fun y hy => by rw [const4_row c y v hy hv], sm_const, m4_dc u hu] at h
  generalize (fwd4 (List.replicate 16 c)).getD (4 * u + v) 0 = a at *
  unfold Bd at h
  by_cases e : v = 0
  · rw [if_pos e] at h
    by_cases e2 : u = 0
    · rw [if_pos e2] at h; rw [if_pos (by omega)]; omega
    · rw [if_neg e2] at h; rw [if_neg (by omega)]; omega
  · rw [if_neg e, Int.zero_mul] at h; rw [if_neg (by omega)]; omega
theorem law_const4 (c : Int) : FF 4 (List.replicate 16 c) = [8 * 4 * c] ++ List.replicate 15 0 := by
  refine ext_at (N := 16) (FF_len 4 (by decide) _) (by rw [List.length_append, List.length_replicate]; rfl) fun i hi => ?_
  rw [FF4, dc_at]
  have h := const4 c (i / 4) (i % 4) (by omega) (by omega)
  rw [show 4 * (i / 4) + i % 4 = i by omega] at h
  rw [h]
  split <;> omega
theorem law_const2 (c : Int) : FF 2 (List.replicate 4 c) = [8 * 2 * c] ++ List.replicate 3 0 := by
  rw [FF2]
  show [(c + c + c + c) * 4, (c - c + c - c) * 4, (c + c - c - c) * 4, (c - c - c + c) * 4] = [8 * 2 * c, 0, 0, 0]
  rw [show (c + c + c + c) * 4 = 8 * 2 * c by omega, show (c - c + c - c) * 4 = 0 by omega, show (c + c - c - c) * 4 = 0 by omega, show (c - c - c + c) * 4 = 0 by omega]
theorem law_const1 (c : Int) : FF 1 (List.replicate 1 c) = [8 * 1 * c] ++ List.replicate 0 0 := by
  rw [FF1]
  show [c * 8] = [8 * 1 * c]
  rw [show c * 8 = 8 * 1 * c by omega]
section
variable {prog : Program} {w : World} {A : Around} {E : Value → Shared → Prop} {s : Shared} {h₀ : Heap} {L l : Addr} {m : Str → Option Value} {news : List (Addr × Obj)} {c x : Int} {t u : Tok} {k : Nat} {Q : Value → Shared → Prop}
/-- [c] * n, the items not written out -/
theorem rep_ints (n : Nat) (hn : n ≤ 64) (hx : x = (n : Int)) (F : Fr h₀ L s.heap m) (N : News h₀ L s.heap news) (hl : (l, listOf [Value.int c t].toArray k) ∈ news) (hc : Bd 65536 c)
    (h : ∀ D ws h', Fr h₀ L h' m → News h₀ L h' ((D, listOf (List.toArray ws) 0) :: news) → (∀ p ∈ news, p.1 < D) → IntsAre ws (List.replicate n c) → ws.length = n → (List.replicate n c).length = n → AllB 65536 (List.replicate n c) → Q (.ref D) { s with heap := h' }) :
    wpAny (model prog w) A (binaryOp .Mult (.ref l) (.int x u)) Q E s := by
  subst hx
  refine KM.mul F N (News.isList N hl) (IntsAre.cons c t .nil) (by omega) (by omega) (by simp; omega) fun D h' F' N' l1 i1 _ _ _ _ _ => h D _ h' F' N' l1 ?_ ?_ List.length_replicate ?_
  · rw [Int.toNat_natCast, List.flatten_replicate_singleton, List.flatten_replicate_singleton] at i1
    rw [Int.toNat_natCast, List.flatten_replicate_singleton]; exact i1
  · rw [Int.toNat_natCast, List.flatten_replicate_singleton, List.length_replicate]
  · exact fun y hy => (List.mem_replicate.mp hy).2 ▸ hc
end
theorem c_tr8 (w : World) (news : List (Addr × Obj)) (l : Addr) (k : Nat) (vs : List Value) (ns : List Int) (t : Tok) (hl : (l, listOf vs.toArray k) ∈ news) (hi : IntsAre vs ns) (hn : ns.length = 64) (hb : AllB 128 ns) :
    Owes 13 w 273 [.ref l, .int 8 t] news (fun h₀ L m s Q => ORet h₀ L m news s Q) := by
  unfold Owes
  w_top off
  k_with_none
  k_with "my off" => (first | assumption | exact off1_lt (by tbn_lt) | exact (by assumption : _ ∧ LCg.Off1 _ _).2 | exact (by assumption : _ ∧ _ ∧ LCg.Off1 _ _).2.2 | exact (by assumption : _ ∧ _ ∧ _ ∧ LCg.Off1 _ _).2.2.2 | exact (by assumption : _ ∧ _ ∧ _ ∧ _ ∧ LCg.Off1 _ _).2.2.2.2 | exact (by assumption : _ ∧ _ ∧ _ ∧ _ ∧ _ ∧ LCg.Off1 _ _).2.2.2.2.2 | exact (by assumption : _ ∧ _ ∧ _ ∧ _ ∧ _ ∧ _ ∧ LCg.Off1 _ _).2.2.2.2.2.2 | exact (by assumption : _ ∧ _ ∧ _ ∧ _ ∧ _ ∧ _ ∧ _ ∧ LCg.Off1 _ _).2.2.2.2.2.2.2 | exact (by assumption : _ ∧ _ ∧ _ ∧ _ ∧ _ ∧ _ ∧ _ ∧ _ ∧ LCg.Off1 _ _).2.2.2.2.2.2.2.2 | exact (by assumption : _ ∧ _ ∧ _ ∧ _ ∧ _ ∧ _ ∧ _ ∧ _ ∧ _ ∧ LCg.Off1 _ _).2.2.2.2.2.2.2.2.2 | exact (by assumption : _ ∧ _ ∧ _ ∧ _ ∧ _ ∧ _ ∧ _ ∧ _ ∧ _ ∧ _ ∧ LCg.Off1 _ _).2.2.2.2.2.2.2.2.2.2 | exact (by assumption : _ ∧ _ ∧ _ ∧ _ ∧ _ ∧ _ ∧ _ ∧ _ ∧ _ ∧ _ ∧ _ ∧ LCg.Off1 _ _).2.2.2.2.2.2.2.2.2.2.2 | exact (by assumption : _ ∧ _ ∧ _ ∧ _ ∧ _ ∧ _ ∧ _ ∧ _ ∧ _ ∧ _ ∧ _ ∧ _ ∧ LCg.Off1 _ _).2.2.2.2.2.2.2.2.2.2.2.2 | exact (by assumption : _ ∧ _ ∧ _ ∧ _ ∧ _ ∧ _ ∧ _ ∧ _ ∧ _ ∧ _ ∧ _ ∧ _ ∧ _ ∧ LCg.Off1 _ _).2.2.2.2.2.2.2.2.2.2.2.2.2 | exact (by assumption : _ ∧ _ ∧ _ ∧ _ ∧ _ ∧ _ ∧ _ ∧ _ ∧ _ ∧ _ ∧ _ ∧ _ ∧ _ ∧ _ ∧ LCg.Off1 _ _).2.2.2.2.2.2.2.2.2.2.2.2.2.2 | exact (by assumption : _ ∧ _ ∧ _ ∧ _ ∧ _ ∧ _ ∧ _ ∧ _ ∧ _ ∧ _ ∧ _ ∧ _ ∧ _ ∧ _ ∧ _ ∧ LCg.Off1 _ _).2.2.2.2.2.2.2.2.2.2.2.2.2.2.2 | exact (by assumption : _ ∧ _ ∧ _ ∧ _ ∧ _ ∧ _ ∧ _ ∧ _ ∧ _ ∧ _ ∧ _ ∧ _ ∧ _ ∧ _ ∧ _ ∧ _ ∧ LCg.Off1 _ _).2.2.2.2.2.2.2.2.2.2.2.2.2.2.2.2 | exact (by assumption : _ ∧ _ ∧ _ ∧ _ ∧ _ ∧ _ ∧ _ ∧ _ ∧ _ ∧ _ ∧ _ ∧ _ ∧ _ ∧ _ ∧ _ ∧ _ ∧ _ ∧ LCg.Off1 _ _).2.2.2.2.2.2.2.2.2.2.2.2.2.2.2.2.2 | exact (by assumption : _ ∧ _ ∧ _ ∧ _ ∧ _ ∧ _ ∧ _ ∧ _ ∧ _ ∧ _ ∧ _ ∧ _ ∧ _ ∧ _ ∧ _ ∧ _ ∧ _ ∧ _ ∧ LCg.Off1 _ _).2.2.2.2.2.2.2.2.2.2.2.2.2.2.2.2.2.2 | exact (by assumption : _ ∧ _ ∧ _ ∧ _ ∧ _ ∧ _ ∧ _ ∧ _ ∧ _ ∧ _ ∧ _ ∧ _ ∧ _ ∧ _ ∧ _ ∧ _ ∧ _ ∧ _ ∧ _ ∧ LCg.Off1 _ _).2.2.2.2.2.2.2.2.2.2.2.2.2.2.2.2.2.2.2 | exact (by assumption : _ ∧ _ ∧ _ ∧ _ ∧ _ ∧ _ ∧ _ ∧ _ ∧ _ ∧ _ ∧ _ ∧ _ ∧ _ ∧ _ ∧ _ ∧ _ ∧ _ ∧ _ ∧ _ ∧ _ ∧ LCg.Off1 _ _).2.2.2.2.2.2.2.2.2.2.2.2.2.2.2.2.2.2.2.2)
  k_with "lcg_off" => (first | assumption | exact (by assumption : _ ∧ LCg.Off3 _ _ _ _).2 | exact (by assumption : _ ∧ _ ∧ LCg.Off3 _ _ _ _).2.2 | exact (by assumption : _ ∧ _ ∧ _ ∧ LCg.Off3 _ _ _ _).2.2.2 | exact (by assumption : _ ∧ _ ∧ _ ∧ _ ∧ LCg.Off3 _ _ _ _).2.2.2.2 | exact (by assumption : _ ∧ _ ∧ _ ∧ _ ∧ _ ∧ LCg.Off3 _ _ _ _).2.2.2.2.2 | exact (by assumption : _ ∧ _ ∧ _ ∧ _ ∧ _ ∧ _ ∧ LCg.Off3 _ _ _ _).2.2.2.2.2.2 | exact (by assumption : _ ∧ _ ∧ _ ∧ _ ∧ _ ∧ _ ∧ _ ∧ LCg.Off3 _ _ _ _).2.2.2.2.2.2.2 | exact (by assumption : _ ∧ _ ∧ _ ∧ _ ∧ _ ∧ _ ∧ _ ∧ _ ∧ LCg.Off3 _ _ _ _).2.2.2.2.2.2.2.2 | exact (by assumption : _ ∧ _ ∧ _ ∧ _ ∧ _ ∧ _ ∧ _ ∧ _ ∧ _ ∧ LCg.Off3 _ _ _ _).2.2.2.2.2.2.2.2.2 | exact (by assumption : _ ∧ _ ∧ _ ∧ _ ∧ _ ∧ _ ∧ _ ∧ _ ∧ _ ∧ _ ∧ LCg.Off3 _ _ _ _).2.2.2.2.2.2.2.2.2.2 | exact (by assumption : _ ∧ _ ∧ _ ∧ _ ∧ _ ∧ _ ∧ _ ∧ _ ∧ _ ∧ _ ∧ _ ∧ LCg.Off3 _ _ _ _).2.2.2.2.2.2.2.2.2.2.2 | exact (by assumption : _ ∧ _ ∧ _ ∧ _ ∧ _ ∧ _ ∧ _ ∧ _ ∧ _ ∧ _ ∧ _ ∧ _ ∧ LCg.Off3 _ _ _ _).2.2.2.2.2.2.2.2.2.2.2.2 | exact (by assumption : _ ∧ _ ∧ _ ∧ _ ∧ _ ∧ _ ∧ _ ∧ _ ∧ _ ∧ _ ∧ _ ∧ _ ∧ _ ∧ LCg.Off3 _ _ _ _).2.2.2.2.2.2.2.2.2.2.2.2.2 | exact (by assumption : _ ∧ _ ∧ _ ∧ _ ∧ _ ∧ _ ∧ _ ∧ _ ∧ _ ∧ _ ∧ _ ∧ _ ∧ _ ∧ _ ∧ LCg.Off3 _ _ _ _).2.2.2.2.2.2.2.2.2.2.2.2.2.2 | exact (by assumption : _ ∧ _ ∧ _ ∧ _ ∧ _ ∧ _ ∧ _ ∧ _ ∧ _ ∧ _ ∧ _ ∧ _ ∧ _ ∧ _ ∧ _ ∧ LCg.Off3 _ _ _ _).2.2.2.2.2.2.2.2.2.2.2.2.2.2.2 | exact (by assumption : _ ∧ _ ∧ _ ∧ _ ∧ _ ∧ _ ∧ _ ∧ _ ∧ _ ∧ _ ∧ _ ∧ _ ∧ _ ∧ _ ∧ _ ∧ _ ∧ LCg.Off3 _ _ _ _).2.2.2.2.2.2.2.2.2.2.2.2.2.2.2.2 | exact (by assumption : _ ∧ _ ∧ _ ∧ _ ∧ _ ∧ _ ∧ _ ∧ _ ∧ _ ∧ _ ∧ _ ∧ _ ∧ _ ∧ _ ∧ _ ∧ _ ∧ _ ∧ LCg.Off3 _ _ _ _).2.2.2.2.2.2.2.2.2.2.2.2.2.2.2.2.2 | exact (by assumption : _ ∧ _ ∧ _ ∧ _ ∧ _ ∧ _ ∧ _ ∧ _ ∧ _ ∧ _ ∧ _ ∧ _ ∧ _ ∧ _ ∧ _ ∧ _ ∧ _ ∧ _ ∧ LCg.Off3 _ _ _ _).2.2.2.2.2.2.2.2.2.2.2.2.2.2.2.2.2.2 | exact (by assumption : _ ∧ _ ∧ _ ∧ _ ∧ _ ∧ _ ∧ _ ∧ _ ∧ _ ∧ _ ∧ _ ∧ _ ∧ _ ∧ _ ∧ _ ∧ _ ∧ _ ∧ _ ∧ _ ∧ LCg.Off3 _ _ _ _).2.2.2.2.2.2.2.2.2.2.2.2.2.2.2.2.2.2.2 | exact (by assumption : _ ∧ _ ∧ _ ∧ _ ∧ _ ∧ _ ∧ _ ∧ _ ∧ _ ∧ _ ∧ _ ∧ _ ∧ _ ∧ _ ∧ _ ∧ _ ∧ _ ∧ _ ∧ _ ∧ _ ∧ LCg.Off3 _ _ _ _).2.2.2.2.2.2.2.2.2.2.2.2.2.2.2.2.2.2.2.2)
  k_with "call ref" => ((k_here; (with_reducible show wpAny _ _ (call (Value.ref 261) [Value.ref _, Value.ref _]) _ _ _); k_dflt (refine owes_use' (by k_asm) (by k_asm) (by k_asm) (by k_asm) (by k_asm) (by first | exact rfl | assumption) (c_farthest _ _ _ _ _ _ _ _ _ _ (by k_mem) (by k_mem) (by with_reducible assumption) (by with_reducible assumption) (by walk_at "my len") (by walk_at "my len") (by walk_at "my len")) (by ktr_room) (by ktr_units) ?_); intro r' t' h' tk' hM' F' N'; (try k_sweep); (try dsimp only); (try k_fold)))
  k_with "subscriptTail" => ((k_here; (with_reducible show wpAny _ _ (subscriptTail _ _ (Value.ref _) (Value.int _ _)) _ _ _); k_dflt (refine kdt_tail (knd := PySem.intKind _ _) (by k_asm) (by k_mem) (by k_asm) ?_; refine kdt_getItem (knd := PySem.intKind _ _) (by k_asm) (by k_mem) (by k_asm) (intKind_is _ _ _ _) (by rfl) ?_)))
  k_with "call ref" => ((k_here; (with_reducible show wpAny _ _ (call (Value.ref 218) [Value.ref _, Value.int _ _]) _ _ _); k_dflt (refine owes_use' (by k_asm) (by k_asm) (by k_asm) (by k_asm) (by k_asm) (by first | exact rfl | assumption) (c_F8 _ _ _ _ _ _ _ (by k_mem) (by with_reducible assumption) (by with_reducible assumption) (by with_reducible assumption)) (by ktr_room) (by ktr_units) ?_); intro r' ws' c' h' tk' F' N' o1' hI'; (try k_sweep); (try simp only [LCg.Off1, and_true] at o1'); (try dsimp only); (try k_fold)))
  k_with "call ref" => ((k_here; (with_reducible show wpAny _ _ (call (Value.ref 256) [Value.ref _, Value.int _ _]) _ _ _); k_dflt (refine owes_use' (by k_asm) (by k_asm) (by k_asm) (by k_asm) (by k_asm) (by first | exact rfl | assumption) (c_T8 _ _ _ _ _ _ _ (by k_mem) (by with_reducible assumption) (by with_reducible assumption)) (by ktr_room) (by ktr_units) ?_); intro r' ws' c' h' tk' F' N' o1' hI'; (try k_sweep); (try simp only [LCg.Off1, and_true] at o1'); (try dsimp only); (try k_fold)))
  k_with "my len" => (((try simp only [FF_len 8 (by decide), II_len 8 (by decide), TT_len 8, List.length_map]); first | done | decide | omega))
  k_fill
  intro mean mg mb dp un gd cn cs av ccd cl outer A₀ base h₀ L m s Q E B F X N T hk hd hu hret
  have f1 : (TT 8 ns).length = 64 := TT_len 8 ns
  have f2 : (FF 8 ns).length = 64 := FF_len 8 (by decide) ns
  have f3 : AllB 65536 ns := hb.mono (by decide)
  have f4 : AllB 65536 (TT 8 ns) := TT_all (by decide) 8 f3
  have f5 := law_turn8 hn
  replace N := news_dup N hl
  clear hl
  refine wpAny_call ?_
  k_dflt (walk_at "my enter")
  repeat' ((fail_if_success (with_reducible show Q _ _)); (fail_if_success (with_reducible show TurnK _ _ _ _ _ _ _ _ _ _ _ _)); first | (k_unfold; (try dsimp only)) | (k_end; wrow_close) | walk1 | (dsimp only; walk1) | (leave1; walk_say "STEP leave1"; try dsimp only) | fail "no step")
  rw [decide_eq_true (f5 _ (by assumption))]
  exact hret _ _ (by assumption) (cb_drop (by assumption) (by (intro p9 h9; repeat (first | exact h9 | refine List.Mem.tail _ ?_))))
theorem c_tr4 (w : World) (news : List (Addr × Obj)) (l : Addr) (k : Nat) (vs : List Value) (ns : List Int) (t : Tok) (hl : (l, listOf vs.toArray k) ∈ news) (hi : IntsAre vs ns) (hn : ns.length = 16) (hb : AllB 128 ns) :
    Owes 13 w 273 [.ref l, .int 4 t] news (fun h₀ L m s Q => ORet h₀ L m news s Q) := by
  unfold Owes
  w_top off
  k_with "call ref" => ((k_here; (with_reducible show wpAny _ _ (call (Value.ref 218) [Value.ref _, Value.int _ _]) _ _ _); k_dflt (refine owes_use' (by k_asm) (by k_asm) (by k_asm) (by k_asm) (by k_asm) (by first | exact rfl | assumption) (c_F4 _ _ _ _ _ _ _ (by k_mem) (by with_reducible assumption) (by with_reducible assumption) (by with_reducible assumption)) (by ktr_room) (by ktr_units) ?_); intro r' ws' c' h' tk' F' N' o1' hI'; (try k_sweep); (try simp only [LCg.Off1, and_true] at o1'); (try dsimp only); (try k_fold)))
  k_with "call ref" => ((k_here; (with_reducible show wpAny _ _ (call (Value.ref 256) [Value.ref _, Value.int _ _]) _ _ _); k_dflt (refine owes_use' (by k_asm) (by k_asm) (by k_asm) (by k_asm) (by k_asm) (by first | exact rfl | assumption) (c_T4 _ _ _ _ _ _ _ (by k_mem) (by with_reducible assumption) (by with_reducible assumption)) (by ktr_room) (by ktr_units) ?_); intro r' ws' c' h' tk' F' N' o1' hI'; (try k_sweep); (try simp only [LCg.Off1, and_true] at o1'); (try dsimp only); (try k_fold)))
  k_with "my len" => (((try simp only [FF_len 4 (by decide), II_len 4 (by decide), TT_len 4, List.length_map]); first | done | decide | omega))
  k_fill
  intro mean mg mb dp un gd cn cs av ccd cl outer A₀ base h₀ L m s Q E B F X N T hk hd hu hret
  have f1 : (TT 4 ns).length = 16 := TT_len 4 ns
  have f2 : (FF 4 ns).length = 16 := FF_len 4 (by decide) ns
  have f3 : AllB 65536 ns := hb.mono (by decide)
  have f4 : AllB 65536 (TT 4 ns) := TT_all (by decide) 4 f3
  have f5 := law_turn4 hn
  replace N := news_dup N hl
  clear hl
  refine wpAny_call ?_
  k_dflt (walk_at "my enter")
  repeat' ((fail_if_success (with_reducible show Q _ _)); (fail_if_success (with_reducible show TurnK _ _ _ _ _ _ _ _ _ _ _ _)); first | (k_unfold; (try dsimp only)) | (k_end; wrow_close) | walk1 | (dsimp only; walk1) | (leave1; walk_say "STEP leave1"; try dsimp only) | fail "no step")
  rw [decide_eq_true (f5 _ (by assumption))]
  exact hret _ _ (by assumption) (cb_drop (by assumption) (by (intro p9 h9; repeat (first | exact h9 | refine List.Mem.tail _ ?_))))
theorem c_tr2 (w : World) (news : List (Addr × Obj)) (l : Addr) (k : Nat) (vs : List Value) (ns : List Int) (t : Tok) (hl : (l, listOf vs.toArray k) ∈ news) (hi : IntsAre vs ns) (hn : ns.length = 4) (hb : AllB 128 ns) :
    Owes 13 w 273 [.ref l, .int 2 t] news (fun h₀ L m s Q => ORet h₀ L m news s Q) := by
  unfold Owes
  w_top off
  k_with_none
  k_with "my off" => (first | assumption | exact off1_lt (by tbn_lt) | exact (by assumption : _ ∧ LCg.Off1 _ _).2 | exact (by assumption : _ ∧ _ ∧ LCg.Off1 _ _).2.2 | exact (by assumption : _ ∧ _ ∧ _ ∧ LCg.Off1 _ _).2.2.2 | exact (by assumption : _ ∧ _ ∧ _ ∧ _ ∧ LCg.Off1 _ _).2.2.2.2 | exact (by assumption : _ ∧ _ ∧ _ ∧ _ ∧ _ ∧ LCg.Off1 _ _).2.2.2.2.2 | exact (by assumption : _ ∧ _ ∧ _ ∧ _ ∧ _ ∧ _ ∧ LCg.Off1 _ _).2.2.2.2.2.2 | exact (by assumption : _ ∧ _ ∧ _ ∧ _ ∧ _ ∧ _ ∧ _ ∧ LCg.Off1 _ _).2.2.2.2.2.2.2 | exact (by assumption : _ ∧ _ ∧ _ ∧ _ ∧ _ ∧ _ ∧ _ ∧ _ ∧ LCg.Off1 _ _).2.2.2.2.2.2.2.2 | exact (by assumption : _ ∧ _ ∧ _ ∧ _ ∧ _ ∧ _ ∧ _ ∧ _ ∧ _ ∧ LCg.Off1 _ _).2.2.2.2.2.2.2.2.2 | exact (by assumption : _ ∧ _ ∧ _ ∧ _ ∧ _ ∧ _ ∧ _ ∧ _ ∧ _ ∧ _ ∧ LCg.Off1 _ _).2.2.2.2.2.2.2.2.2.2 | exact (by assumption : _ ∧ _ ∧ _ ∧ _ ∧ _ ∧ _ ∧ _ ∧ _ ∧ _ ∧ _ ∧ _ ∧ LCg.Off1 _ _).2.2.2.2.2.2.2.2.2.2.2 | exact (by assumption : _ ∧ _ ∧ _ ∧ _ ∧ _ ∧ _ ∧ _ ∧ _ ∧ _ ∧ _ ∧ _ ∧ _ ∧ LCg.Off1 _ _).2.2.2.2.2.2.2.2.2.2.2.2 | exact (by assumption : _ ∧ _ ∧ _ ∧ _ ∧ _ ∧ _ ∧ _ ∧ _ ∧ _ ∧ _ ∧ _ ∧ _ ∧ _ ∧ LCg.Off1 _ _).2.2.2.2.2.2.2.2.2.2.2.2.2 | exact (by assumption : _ ∧ _ ∧ _ ∧ _ ∧ _ ∧ _ ∧ _ ∧ _ ∧ _ ∧ _ ∧ _ ∧ _ ∧ _ ∧ _ ∧ LCg.Off1 _ _).2.2.2.2.2.2.2.2.2.2.2.2.2.2 | exact (by assumption : _ ∧ _ ∧ _ ∧ _ ∧ _ ∧ _ ∧ _ ∧ _ ∧ _ ∧ _ ∧ _ ∧ _ ∧ _ ∧ _ ∧ _ ∧ LCg.Off1 _ _).2.2.2.2.2.2.2.2.2.2.2.2.2.2.2 | exact (by assumption : _ ∧ _ ∧ _ ∧ _ ∧ _ ∧ _ ∧ _ ∧ _ ∧ _ ∧ _ ∧ _ ∧ _ ∧ _ ∧ _ ∧ _ ∧ _ ∧ LCg.Off1 _ _).2.2.2.2.2.2.2.2.2.2.2.2.2.2.2.2 | exact (by assumption : _ ∧ _ ∧ _ ∧ _ ∧ _ ∧ _ ∧ _ ∧ _ ∧ _ ∧ _ ∧ _ ∧ _ ∧ _ ∧ _ ∧ _ ∧ _ ∧ _ ∧ LCg.Off1 _ _).2.2.2.2.2.2.2.2.2.2.2.2.2.2.2.2.2 | exact (by assumption : _ ∧ _ ∧ _ ∧ _ ∧ _ ∧ _ ∧ _ ∧ _ ∧ _ ∧ _ ∧ _ ∧ _ ∧ _ ∧ _ ∧ _ ∧ _ ∧ _ ∧ _ ∧ LCg.Off1 _ _).2.2.2.2.2.2.2.2.2.2.2.2.2.2.2.2.2.2 | exact (by assumption : _ ∧ _ ∧ _ ∧ _ ∧ _ ∧ _ ∧ _ ∧ _ ∧ _ ∧ _ ∧ _ ∧ _ ∧ _ ∧ _ ∧ _ ∧ _ ∧ _ ∧ _ ∧ _ ∧ LCg.Off1 _ _).2.2.2.2.2.2.2.2.2.2.2.2.2.2.2.2.2.2.2 | exact (by assumption : _ ∧ _ ∧ _ ∧ _ ∧ _ ∧ _ ∧ _ ∧ _ ∧ _ ∧ _ ∧ _ ∧ _ ∧ _ ∧ _ ∧ _ ∧ _ ∧ _ ∧ _ ∧ _ ∧ _ ∧ LCg.Off1 _ _).2.2.2.2.2.2.2.2.2.2.2.2.2.2.2.2.2.2.2.2)
  k_with "lcg_off" => (first | assumption | exact (by assumption : _ ∧ LCg.Off3 _ _ _ _).2 | exact (by assumption : _ ∧ _ ∧ LCg.Off3 _ _ _ _).2.2 | exact (by assumption : _ ∧ _ ∧ _ ∧ LCg.Off3 _ _ _ _).2.2.2 | exact (by assumption : _ ∧ _ ∧ _ ∧ _ ∧ LCg.Off3 _ _ _ _).2.2.2.2 | exact (by assumption : _ ∧ _ ∧ _ ∧ _ ∧ _ ∧ LCg.Off3 _ _ _ _).2.2.2.2.2 | exact (by assumption : _ ∧ _ ∧ _ ∧ _ ∧ _ ∧ _ ∧ LCg.Off3 _ _ _ _).2.2.2.2.2.2 | exact (by assumption : _ ∧ _ ∧ _ ∧ _ ∧ _ ∧ _ ∧ _ ∧ LCg.Off3 _ _ _ _).2.2.2.2.2.2.2 | exact (by assumption : _ ∧ _ ∧ _ ∧ _ ∧ _ ∧ _ ∧ _ ∧ _ ∧ LCg.Off3 _ _ _ _).2.2.2.2.2.2.2.2 | exact (by assumption : _ ∧ _ ∧ _ ∧ _ ∧ _ ∧ _ ∧ _ ∧ _ ∧ _ ∧ LCg.Off3 _ _ _ _).2.2.2.2.2.2.2.2.2 | exact (by assumption : _ ∧ _ ∧ _ ∧ _ ∧ _ ∧ _ ∧ _ ∧ _ ∧ _ ∧ _ ∧ LCg.Off3 _ _ _ _).2.2.2.2.2.2.2.2.2.2 | exact (by assumption : _ ∧ _ ∧ _ ∧ _ ∧ _ ∧ _ ∧ _ ∧ _ ∧ _ ∧ _ ∧ _ ∧ LCg.Off3 _ _ _ _).2.2.2.2.2.2.2.2.2.2.2 | exact (by assumption : _ ∧ _ ∧ _ ∧ _ ∧ _ ∧ _ ∧ _ ∧ _ ∧ _ ∧ _ ∧ _ ∧ _ ∧ LCg.Off3 _ _ _ _).2.2.2.2.2.2.2.2.2.2.2.2 | exact (by assumption : _ ∧ _ ∧ _ ∧ _ ∧ _ ∧ _ ∧ _ ∧ _ ∧ _ ∧ _ ∧ _ ∧ _ ∧ _ ∧ LCg.Off3 _ _ _ _).2.2.2.2.2.2.2.2.2.2.2.2.2 | exact (by assumption : _ ∧ _ ∧ _ ∧ _ ∧ _ ∧ _ ∧ _ ∧ _ ∧ _ ∧ _ ∧ _ ∧ _ ∧ _ ∧ _ ∧ LCg.Off3 _ _ _ _).2.2.2.2.2.2.2.2.2.2.2.2.2.2 | exact (by assumption : _ ∧ _ ∧ _ ∧ _ ∧ _ ∧ _ ∧ _ ∧ _ ∧ _ ∧ _ ∧ _ ∧ _ ∧ _ ∧ _ ∧ _ ∧ LCg.Off3 _ _ _ _).2.2.2.2.2.2.2.2.2.2.2.2.2.2.2 | exact (by assumption : _ ∧ _ ∧ _ ∧ _ ∧ _ ∧ _ ∧ _ ∧ _ ∧ _ ∧ _ ∧ _ ∧ _ ∧ _ ∧ _ ∧ _ ∧ _ ∧ LCg.Off3 _ _ _ _).2.2.2.2.2.2.2.2.2.2.2.2.2.2.2.2 | exact (by assumption : _ ∧ _ ∧ _ ∧ _ ∧ _ ∧ _ ∧ _ ∧ _ ∧ _ ∧ _ ∧ _ ∧ _ ∧ _ ∧ _ ∧ _ ∧ _ ∧ _ ∧ LCg.Off3 _ _ _ _).2.2.2.2.2.2.2.2.2.2.2.2.2.2.2.2.2 | exact (by assumption : _ ∧ _ ∧ _ ∧ _ ∧ _ ∧ _ ∧ _ ∧ _ ∧ _ ∧ _ ∧ _ ∧ _ ∧ _ ∧ _ ∧ _ ∧ _ ∧ _ ∧ _ ∧ LCg.Off3 _ _ _ _).2.2.2.2.2.2.2.2.2.2.2.2.2.2.2.2.2.2 | exact (by assumption : _ ∧ _ ∧ _ ∧ _ ∧ _ ∧ _ ∧ _ ∧ _ ∧ _ ∧ _ ∧ _ ∧ _ ∧ _ ∧ _ ∧ _ ∧ _ ∧ _ ∧ _ ∧ _ ∧ LCg.Off3 _ _ _ _).2.2.2.2.2.2.2.2.2.2.2.2.2.2.2.2.2.2.2 | exact (by assumption : _ ∧ _ ∧ _ ∧ _ ∧ _ ∧ _ ∧ _ ∧ _ ∧ _ ∧ _ ∧ _ ∧ _ ∧ _ ∧ _ ∧ _ ∧ _ ∧ _ ∧ _ ∧ _ ∧ _ ∧ LCg.Off3 _ _ _ _).2.2.2.2.2.2.2.2.2.2.2.2.2.2.2.2.2.2.2.2)
  k_with "call ref" => ((k_here; (with_reducible show wpAny _ _ (call (Value.ref 261) [Value.ref _, Value.ref _]) _ _ _); k_dflt (refine owes_use' (by k_asm) (by k_asm) (by k_asm) (by k_asm) (by k_asm) (by first | exact rfl | assumption) (c_farthest _ _ _ _ _ _ _ _ _ _ (by k_mem) (by k_mem) (by with_reducible assumption) (by with_reducible assumption) (by walk_at "my len") (by walk_at "my len") (by walk_at "my len")) (by ktr_room) (by ktr_units) ?_); intro r' t' h' tk' hM' F' N'; (try k_sweep); (try dsimp only); (try k_fold)))
  k_with "subscriptTail" => ((k_here; (with_reducible show wpAny _ _ (subscriptTail _ _ (Value.ref _) (Value.int _ _)) _ _ _); k_dflt (refine kdt_tail (knd := PySem.intKind _ _) (by k_asm) (by k_mem) (by k_asm) ?_; refine kdt_getItem (knd := PySem.intKind _ _) (by k_asm) (by k_mem) (by k_asm) (intKind_is _ _ _ _) (by rfl) ?_)))
  k_with "call ref" => ((k_here; (with_reducible show wpAny _ _ (call (Value.ref 218) [Value.ref _, Value.int _ _]) _ _ _); k_dflt (refine owes_use' (by k_asm) (by k_asm) (by k_asm) (by k_asm) (by k_asm) (by first | exact rfl | assumption) (c_F2 _ _ _ _ _ _ _ (by k_mem) (by with_reducible assumption) (by with_reducible assumption) (by with_reducible assumption)) (by ktr_room) (by ktr_units) ?_); intro r' ws' c' h' tk' F' N' o1' hI'; (try k_sweep); (try simp only [LCg.Off1, and_true] at o1'); (try dsimp only); (try k_fold)))
  k_with "call ref" => ((k_here; (with_reducible show wpAny _ _ (call (Value.ref 256) [Value.ref _, Value.int _ _]) _ _ _); k_dflt (refine owes_use' (by k_asm) (by k_asm) (by k_asm) (by k_asm) (by k_asm) (by first | exact rfl | assumption) (c_T2 _ _ _ _ _ _ _ (by k_mem) (by with_reducible assumption) (by with_reducible assumption)) (by ktr_room) (by ktr_units) ?_); intro r' ws' c' h' tk' F' N' o1' hI'; (try k_sweep); (try simp only [LCg.Off1, and_true] at o1'); (try dsimp only); (try k_fold)))
  k_with "my len" => (((try simp only [FF_len 2 (by decide), II_len 2 (by decide), TT_len 2, List.length_map]); first | done | decide | omega))
  k_fill
  intro mean mg mb dp un gd cn cs av ccd cl outer A₀ base h₀ L m s Q E B F X N T hk hd hu hret
  have f1 : (TT 2 ns).length = 4 := TT_len 2 ns
  have f2 : (FF 2 ns).length = 4 := FF_len 2 (by decide) ns
  have f3 : AllB 65536 ns := hb.mono (by decide)
  have f4 : AllB 65536 (TT 2 ns) := TT_all (by decide) 2 f3
  have f5 := law_turn2 hn
  replace N := news_dup N hl
  clear hl
  refine wpAny_call ?_
  k_dflt (walk_at "my enter")
  repeat' ((fail_if_success (with_reducible show Q _ _)); (fail_if_success (with_reducible show TurnK _ _ _ _ _ _ _ _ _ _ _ _)); first | (k_unfold; (try dsimp only)) | (k_end; wrow_close) | walk1 | (dsimp only; walk1) | (leave1; walk_say "STEP leave1"; try dsimp only) | fail "no step")
  rw [decide_eq_true (f5 _ (by assumption))]
  exact hret _ _ (by assumption) (cb_drop (by assumption) (by (intro p9 h9; repeat (first | exact h9 | refine List.Mem.tail _ ?_))))
theorem c_tr1 (w : World) (news : List (Addr × Obj)) (l : Addr) (k : Nat) (vs : List Value) (ns : List Int) (t : Tok) (hl : (l, listOf vs.toArray k) ∈ news) (hi : IntsAre vs ns) (hn : ns.length = 1) (hb : AllB 128 ns) :
    Owes 13 w 273 [.ref l, .int 1 t] news (fun h₀ L m s Q => ORet h₀ L m news s Q) := by
  unfold Owes
  w_top off
  k_with "call ref" => ((k_here; (with_reducible show wpAny _ _ (call (Value.ref 218) [Value.ref _, Value.int _ _]) _ _ _); k_dflt (refine owes_use' (by k_asm) (by k_asm) (by k_asm) (by k_asm) (by k_asm) (by first | exact rfl | assumption) (c_F1 _ _ _ _ _ _ _ (by k_mem) (by with_reducible assumption) (by with_reducible assumption) (by with_reducible assumption)) (by ktr_room) (by ktr_units) ?_); intro r' ws' c' h' tk' F' N' o1' hI'; (try k_sweep); (try simp only [LCg.Off1, and_true] at o1'); (try dsimp only); (try k_fold)))
  k_with "call ref" => ((k_here; (with_reducible show wpAny _ _ (call (Value.ref 256) [Value.ref _, Value.int _ _]) _ _ _); k_dflt (refine owes_use' (by k_asm) (by k_asm) (by k_asm) (by k_asm) (by k_asm) (by first | exact rfl | assumption) (c_T1 _ _ _ _ _ _ _ (by k_mem) (by with_reducible assumption) (by with_reducible assumption)) (by ktr_room) (by ktr_units) ?_); intro r' ws' c' h' tk' F' N' o1' hI'; (try k_sweep); (try simp only [LCg.Off1, and_true] at o1'); (try dsimp only); (try k_fold)))
  k_with "my len" => (((try simp only [FF_len 1 (by decide), II_len 1 (by decide), TT_len 1, List.length_map]); first | done | decide | omega))
  k_fill
  intro mean mg mb dp un gd cn cs av ccd cl outer A₀ base h₀ L m s Q E B F X N T hk hd hu hret
  have f1 : (TT 1 ns).length = 1 := TT_len 1 ns
  have f2 : (FF 1 ns).length = 1 := FF_len 1 (by decide) ns
  have f3 : AllB 65536 ns := hb.mono (by decide)
  have f4 : AllB 65536 (TT 1 ns) := TT_all (by decide) 1 f3
  have f5 := law_turn1 hn
  replace N := news_dup N hl
  clear hl
  refine wpAny_call ?_
  k_dflt (walk_at "my enter")
  repeat' ((fail_if_success (with_reducible show Q _ _)); (fail_if_success (with_reducible show TurnK _ _ _ _ _ _ _ _ _ _ _ _)); first | (k_unfold; (try dsimp only)) | (k_end; wrow_close) | walk1 | (dsimp only; walk1) | (leave1; walk_say "STEP leave1"; try dsimp only) | fail "no step")
  rw [decide_eq_true (f5 _ (by assumption))]
  exact hret _ _ (by assumption) (cb_drop (by assumption) (by (intro p9 h9; repeat (first | exact h9 | refine List.Mem.tail _ ?_))))
theorem c_br8 (w : World) (news : List (Addr × Obj)) (l : Addr) (k : Nat) (vs : List Value) (ns : List Int) (t : Tok) (hl : (l, listOf vs.toArray k) ∈ news) (hi : IntsAre vs ns) (hn : ns.length = 64) (hb : AllB 128 ns) :
    Owes 13 w 266 [.ref l, .int 8 t] news (fun h₀ L m s Q => ORet h₀ L m news s Q) := by
  unfold Owes
  w_top off
  k_with_none
  k_with "my off" => (first | assumption | exact off1_lt (by tbn_lt) | exact (by assumption : _ ∧ LCg.Off1 _ _).2 | exact (by assumption : _ ∧ _ ∧ LCg.Off1 _ _).2.2 | exact (by assumption : _ ∧ _ ∧ _ ∧ LCg.Off1 _ _).2.2.2 | exact (by assumption : _ ∧ _ ∧ _ ∧ _ ∧ LCg.Off1 _ _).2.2.2.2 | exact (by assumption : _ ∧ _ ∧ _ ∧ _ ∧ _ ∧ LCg.Off1 _ _).2.2.2.2.2 | exact (by assumption : _ ∧ _ ∧ _ ∧ _ ∧ _ ∧ _ ∧ LCg.Off1 _ _).2.2.2.2.2.2 | exact (by assumption : _ ∧ _ ∧ _ ∧ _ ∧ _ ∧ _ ∧ _ ∧ LCg.Off1 _ _).2.2.2.2.2.2.2 | exact (by assumption : _ ∧ _ ∧ _ ∧ _ ∧ _ ∧ _ ∧ _ ∧ _ ∧ LCg.Off1 _ _).2.2.2.2.2.2.2.2 | exact (by assumption : _ ∧ _ ∧ _ ∧ _ ∧ _ ∧ _ ∧ _ ∧ _ ∧ _ ∧ LCg.Off1 _ _).2.2.2.2.2.2.2.2.2 | exact (by assumption : _ ∧ _ ∧ _ ∧ _ ∧ _ ∧ _ ∧ _ ∧ _ ∧ _ ∧ _ ∧ LCg.Off1 _ _).2.2.2.2.2.2.2.2.2.2 | exact (by assumption : _ ∧ _ ∧ _ ∧ _ ∧ _ ∧ _ ∧ _ ∧ _ ∧ _ ∧ _ ∧ _ ∧ LCg.Off1 _ _).2.2.2.2.2.2.2.2.2.2.2 | exact (by assumption : _ ∧ _ ∧ _ ∧ _ ∧ _ ∧ _ ∧ _ ∧ _ ∧ _ ∧ _ ∧ _ ∧ _ ∧ LCg.Off1 _ _).2.2.2.2.2.2.2.2.2.2.2.2 | exact (by assumption : _ ∧ _ ∧ _ ∧ _ ∧ _ ∧ _ ∧ _ ∧ _ ∧ _ ∧ _ ∧ _ ∧ _ ∧ _ ∧ LCg.Off1 _ _).2.2.2.2.2.2.2.2.2.2.2.2.2 | exact (by assumption : _ ∧ _ ∧ _ ∧ _ ∧ _ ∧ _ ∧ _ ∧ _ ∧ _ ∧ _ ∧ _ ∧ _ ∧ _ ∧ _ ∧ LCg.Off1 _ _).2.2.2.2.2.2.2.2.2.2.2.2.2.2 | exact (by assumption : _ ∧ _ ∧ _ ∧ _ ∧ _ ∧ _ ∧ _ ∧ _ ∧ _ ∧ _ ∧ _ ∧ _ ∧ _ ∧ _ ∧ _ ∧ LCg.Off1 _ _).2.2.2.2.2.2.2.2.2.2.2.2.2.2.2 | exact (by assumption : _ ∧ _ ∧ _ ∧ _ ∧ _ ∧ _ ∧ _ ∧ _ ∧ _ ∧ _ ∧ _ ∧ _ ∧ _ ∧ _ ∧ _ ∧ _ ∧ LCg.Off1 _ _).2.2.2.2.2.2.2.2.2.2.2.2.2.2.2.2 | exact (by assumption : _ ∧ _ ∧ _ ∧ _ ∧ _ ∧ _ ∧ _ ∧ _ ∧ _ ∧ _ ∧ _ ∧ _ ∧ _ ∧ _ ∧ _ ∧ _ ∧ _ ∧ LCg.Off1 _ _).2.2.2.2.2.2.2.2.2.2.2.2.2.2.2.2.2 | exact (by assumption : _ ∧ _ ∧ _ ∧ _ ∧ _ ∧ _ ∧ _ ∧ _ ∧ _ ∧ _ ∧ _ ∧ _ ∧ _ ∧ _ ∧ _ ∧ _ ∧ _ ∧ _ ∧ LCg.Off1 _ _).2.2.2.2.2.2.2.2.2.2.2.2.2.2.2.2.2.2 | exact (by assumption : _ ∧ _ ∧ _ ∧ _ ∧ _ ∧ _ ∧ _ ∧ _ ∧ _ ∧ _ ∧ _ ∧ _ ∧ _ ∧ _ ∧ _ ∧ _ ∧ _ ∧ _ ∧ _ ∧ LCg.Off1 _ _).2.2.2.2.2.2.2.2.2.2.2.2.2.2.2.2.2.2.2 | exact (by assumption : _ ∧ _ ∧ _ ∧ _ ∧ _ ∧ _ ∧ _ ∧ _ ∧ _ ∧ _ ∧ _ ∧ _ ∧ _ ∧ _ ∧ _ ∧ _ ∧ _ ∧ _ ∧ _ ∧ _ ∧ LCg.Off1 _ _).2.2.2.2.2.2.2.2.2.2.2.2.2.2.2.2.2.2.2.2)
  k_with "lcg_off" => (first | assumption | exact (by assumption : _ ∧ LCg.Off3 _ _ _ _).2 | exact (by assumption : _ ∧ _ ∧ LCg.Off3 _ _ _ _).2.2 | exact (by assumption : _ ∧ _ ∧ _ ∧ LCg.Off3 _ _ _ _).2.2.2 | exact (by assumption : _ ∧ _ ∧ _ ∧ _ ∧ LCg.Off3 _ _ _ _).2.2.2.2 | exact (by assumption : _ ∧ _ ∧ _ ∧ _ ∧ _ ∧ LCg.Off3 _ _ _ _).2.2.2.2.2 | exact (by assumption : _ ∧ _ ∧ _ ∧ _ ∧ _ ∧ _ ∧ LCg.Off3 _ _ _ _).2.2.2.2.2.2 | exact (by assumption : _ ∧ _ ∧ _ ∧ _ ∧ _ ∧ _ ∧ _ ∧ LCg.Off3 _ _ _ _).2.2.2.2.2.2.2 | exact (by assumption : _ ∧ _ ∧ _ ∧ _ ∧ _ ∧ _ ∧ _ ∧ _ ∧ LCg.Off3 _ _ _ _).2.2.2.2.2.2.2.2 | exact (by assumption : _ ∧ _ ∧ _ ∧ _ ∧ _ ∧ _ ∧ _ ∧ _ ∧ _ ∧ LCg.Off3 _ _ _ _).2.2.2.2.2.2.2.2.2 | exact (by assumption : _ ∧ _ ∧ _ ∧ _ ∧ _ ∧ _ ∧ _ ∧ _ ∧ _ ∧ _ ∧ LCg.Off3 _ _ _ _).2.2.2.2.2.2.2.2.2.2 | exact (by assumption : _ ∧ _ ∧ _ ∧ _ ∧ _ ∧ _ ∧ _ ∧ _ ∧ _ ∧ _ ∧ _ ∧ LCg.Off3 _ _ _ _).2.2.2.2.2.2.2.2.2.2.2 | exact (by assumption : _ ∧ _ ∧ _ ∧ _ ∧ _ ∧ _ ∧ _ ∧ _ ∧ _ ∧ _ ∧ _ ∧ _ ∧ LCg.Off3 _ _ _ _).2.2.2.2.2.2.2.2.2.2.2.2 | exact (by assumption : _ ∧ _ ∧ _ ∧ _ ∧ _ ∧ _ ∧ _ ∧ _ ∧ _ ∧ _ ∧ _ ∧ _ ∧ _ ∧ LCg.Off3 _ _ _ _).2.2.2.2.2.2.2.2.2.2.2.2.2 | exact (by assumption : _ ∧ _ ∧ _ ∧ _ ∧ _ ∧ _ ∧ _ ∧ _ ∧ _ ∧ _ ∧ _ ∧ _ ∧ _ ∧ _ ∧ LCg.Off3 _ _ _ _).2.2.2.2.2.2.2.2.2.2.2.2.2.2 | exact (by assumption : _ ∧ _ ∧ _ ∧ _ ∧ _ ∧ _ ∧ _ ∧ _ ∧ _ ∧ _ ∧ _ ∧ _ ∧ _ ∧ _ ∧ _ ∧ LCg.Off3 _ _ _ _).2.2.2.2.2.2.2.2.2.2.2.2.2.2.2 | exact (by assumption : _ ∧ _ ∧ _ ∧ _ ∧ _ ∧ _ ∧ _ ∧ _ ∧ _ ∧ _ ∧ _ ∧ _ ∧ _ ∧ _ ∧ _ ∧ _ ∧ LCg.Off3 _ _ _ _).2.2.2.2.2.2.2.2.2.2.2.2.2.2.2.2 | exact (by assumption : _ ∧ _ ∧ _ ∧ _ ∧ _ ∧ _ ∧ _ ∧ _ ∧ _ ∧ _ ∧ _ ∧ _ ∧ _ ∧ _ ∧ _ ∧ _ ∧ _ ∧ LCg.Off3 _ _ _ _).2.2.2.2.2.2.2.2.2.2.2.2.2.2.2.2.2 | exact (by assumption : _ ∧ _ ∧ _ ∧ _ ∧ _ ∧ _ ∧ _ ∧ _ ∧ _ ∧ _ ∧ _ ∧ _ ∧ _ ∧ _ ∧ _ ∧ _ ∧ _ ∧ _ ∧ LCg.Off3 _ _ _ _).2.2.2.2.2.2.2.2.2.2.2.2.2.2.2.2.2.2 | exact (by assumption : _ ∧ _ ∧ _ ∧ _ ∧ _ ∧ _ ∧ _ ∧ _ ∧ _ ∧ _ ∧ _ ∧ _ ∧ _ ∧ _ ∧ _ ∧ _ ∧ _ ∧ _ ∧ _ ∧ LCg.Off3 _ _ _ _).2.2.2.2.2.2.2.2.2.2.2.2.2.2.2.2.2.2.2 | exact (by assumption : _ ∧ _ ∧ _ ∧ _ ∧ _ ∧ _ ∧ _ ∧ _ ∧ _ ∧ _ ∧ _ ∧ _ ∧ _ ∧ _ ∧ _ ∧ _ ∧ _ ∧ _ ∧ _ ∧ _ ∧ LCg.Off3 _ _ _ _).2.2.2.2.2.2.2.2.2.2.2.2.2.2.2.2.2.2.2.2)
  k_with "call ref" => ((k_here; (with_reducible show wpAny _ _ (call (Value.ref 261) [Value.ref _, Value.ref _]) _ _ _); k_dflt (refine owes_use' (by k_asm) (by k_asm) (by k_asm) (by k_asm) (by k_asm) (by first | exact rfl | assumption) (c_farthest _ _ _ _ _ _ _ _ _ _ (by k_mem) (by k_mem) (by with_reducible assumption) (by with_reducible assumption) (by walk_at "my len") (by walk_at "my len") (by walk_at "my len")) (by ktr_room) (by ktr_units) ?_); intro r' t' h' tk' hM' F' N'; (try k_sweep); (try dsimp only); (try k_fold)))
  k_with "eval ListComp" => ((k_here; k_dflt (refine LCg.ListComp_U (F₀ := by k_asm) (by with_unfolding_all rfl) (by decide) (by rfl) (by decide) (by rfl) ?_)))
  k_with "CompSrc" => ((k_here; k_dflt (refine LCg.CompSrc.ledger (by rfl) (by k_asm) (by k_asm) (by k_mem) (by kcf_size) ?_; intro g'; (refine' kcf_list _ (by first | assumption | l_ints) (fun k' t' I' oI' C' oC' D' m' ys' h' tk' E' hk' hC' hx' F' N' off' ne' hMark' => ?_) ?_); (all_goals (try (simp only [LCg.Off3, and_true] at off'))); kcf_last)))
  k_with "CompEnd" => ((k_here; k_dflt (refine LCg.CompEnd.intro (by assumption) (by assumption) _ (fun _ hp => hp) (by lcg_off) (by lcg_src) ?_)))
  k_with "call ref" => ((k_here; (with_reducible show wpAny _ _ (call (Value.ref 218) [Value.ref _, Value.int _ _]) _ _ _); k_dflt (refine owes_use' (by k_asm) (by k_asm) (by k_asm) (by k_asm) (by k_asm) (by first | exact rfl | assumption) (c_F8 _ _ _ _ _ _ _ (by k_mem) (by with_reducible assumption) (by with_reducible assumption) (by with_reducible assumption)) (by ktr_room) (by ktr_units) ?_); intro r' ws' c' h' tk' F' N' o1' hI'; (try k_sweep); (try simp only [LCg.Off1, and_true] at o1'); (try dsimp only); (try k_fold)))
  k_with "call ref" => ((k_here; (with_reducible show wpAny _ _ (call (Value.ref 225) [Value.ref _, Value.int _ _]) _ _ _); k_dflt (refine owes_use' (by k_asm) (by k_asm) (by k_asm) (by k_asm) (by k_asm) (by first | exact rfl | assumption) (c_I8 _ _ _ _ _ _ _ (by k_mem) (by with_reducible assumption) (by with_reducible assumption) (by with_reducible assumption)) (by ktr_room) (by ktr_units) ?_); intro r' ws' c' h' tk' F' N' o1' hI'; (try k_sweep); (try simp only [LCg.Off1, and_true] at o1'); (try dsimp only); (try k_fold)))
  k_with "my len" => (((try simp only [FF_len 8 (by decide), II_len 8 (by decide), TT_len 8, List.length_map]); first | done | decide | omega))
  k_fill
  intro mean mg mb dp un gd cn cs av ccd cl outer A₀ base h₀ L m s Q E B F X N T hk hd hu hret
  have f1 : (II 8 (FF 8 ns)).length = 64 := II_len 8 (by decide) _
  have f2 : (FF 8 ns).length = 64 := FF_len 8 (by decide) ns
  have f3 : AllB 65536 ns := hb.mono (by decide)
  have f4 : AllB (2 ^ 28) (FF 8 ns) := FF_all 8 (by decide) hb
  have f5 := law_back8 hn hb
  replace N := news_dup N hl
  clear hl
  refine wpAny_call ?_
  k_dflt (walk_at "my enter")
  repeat' ((fail_if_success (with_reducible show Q _ _)); (fail_if_success (with_reducible show TurnK _ _ _ _ _ _ _ _ _ _ _ _)); first | (k_unfold; (try dsimp only)) | (k_end; wrow_close) | walk1 | (dsimp only; walk1) | (leave1; walk_say "STEP leave1"; try dsimp only) | fail "no step")
  rw [decide_eq_true (f5 _ (by assumption))]
  exact hret _ _ (by assumption) (cb_drop (by assumption) (by (intro p9 h9; repeat (first | exact h9 | refine List.Mem.tail _ ?_))))
theorem c_br4 (w : World) (news : List (Addr × Obj)) (l : Addr) (k : Nat) (vs : List Value) (ns : List Int) (t : Tok) (hl : (l, listOf vs.toArray k) ∈ news) (hi : IntsAre vs ns) (hn : ns.length = 16) (hb : AllB 128 ns) :
    Owes 13 w 266 [.ref l, .int 4 t] news (fun h₀ L m s Q => ORet h₀ L m news s Q) := by
  unfold Owes
  w_top off
  k_with "call ref" => ((k_here; (with_reducible show wpAny _ _ (call (Value.ref 218) [Value.ref _, Value.int _ _]) _ _ _); k_dflt (refine owes_use' (by k_asm) (by k_asm) (by k_asm) (by k_asm) (by k_asm) (by first | exact rfl | assumption) (c_F4 _ _ _ _ _ _ _ (by k_mem) (by with_reducible assumption) (by with_reducible assumption) (by with_reducible assumption)) (by ktr_room) (by ktr_units) ?_); intro r' ws' c' h' tk' F' N' o1' hI'; (try k_sweep); (try simp only [LCg.Off1, and_true] at o1'); (try dsimp only); (try k_fold)))
  k_with "call ref" => ((k_here; (with_reducible show wpAny _ _ (call (Value.ref 225) [Value.ref _, Value.int _ _]) _ _ _); k_dflt (refine owes_use' (by k_asm) (by k_asm) (by k_asm) (by k_asm) (by k_asm) (by first | exact rfl | assumption) (c_I4 _ _ _ _ _ _ _ (by k_mem) (by with_reducible assumption) (by with_reducible assumption) (by with_reducible assumption)) (by ktr_room) (by ktr_units) ?_); intro r' ws' c' h' tk' F' N' o1' hI'; (try k_sweep); (try simp only [LCg.Off1, and_true] at o1'); (try dsimp only); (try k_fold)))
  k_with "my len" => (((try simp only [FF_len 4 (by decide), II_len 4 (by decide), TT_len 4, List.length_map]); first | done | decide | omega))
  k_fill
  intro mean mg mb dp un gd cn cs av ccd cl outer A₀ base h₀ L m s Q E B F X N T hk hd hu hret
  have f1 : (II 4 (FF 4 ns)).length = 16 := II_len 4 (by decide) _
  have f2 : (FF 4 ns).length = 16 := FF_len 4 (by decide) ns
  have f3 : AllB 65536 ns := hb.mono (by decide)
  have f4 : AllB (2 ^ 28) (FF 4 ns) := FF_all 4 (by decide) hb
  have f5 := law_back4 hn hb
  replace N := news_dup N hl
  clear hl
  refine wpAny_call ?_
  k_dflt (walk_at "my enter")
  repeat' ((fail_if_success (with_reducible show Q _ _)); (fail_if_success (with_reducible show TurnK _ _ _ _ _ _ _ _ _ _ _ _)); first | (k_unfold; (try dsimp only)) | (k_end; wrow_close) | walk1 | (dsimp only; walk1) | (leave1; walk_say "STEP leave1"; try dsimp only) | fail "no step")
  rw [decide_eq_true (f5 _ (by assumption))]
  exact hret _ _ (by assumption) (cb_drop (by assumption) (by (intro p9 h9; repeat (first | exact h9 | refine List.Mem.tail _ ?_))))
theorem c_br2 (w : World) (news : List (Addr × Obj)) (l : Addr) (k : Nat) (vs : List Value) (ns : List Int) (t : Tok) (hl : (l, listOf vs.toArray k) ∈ news) (hi : IntsAre vs ns) (hn : ns.length = 4) (hb : AllB 128 ns) :
    Owes 13 w 266 [.ref l, .int 2 t] news (fun h₀ L m s Q => ORet h₀ L m news s Q) := by
  unfold Owes
  w_top off
  k_with_none
  k_with "my off" => (first | assumption | exact off1_lt (by tbn_lt) | exact (by assumption : _ ∧ LCg.Off1 _ _).2 | exact (by assumption : _ ∧ _ ∧ LCg.Off1 _ _).2.2 | exact (by assumption : _ ∧ _ ∧ _ ∧ LCg.Off1 _ _).2.2.2 | exact (by assumption : _ ∧ _ ∧ _ ∧ _ ∧ LCg.Off1 _ _).2.2.2.2 | exact (by assumption : _ ∧ _ ∧ _ ∧ _ ∧ _ ∧ LCg.Off1 _ _).2.2.2.2.2 | exact (by assumption : _ ∧ _ ∧ _ ∧ _ ∧ _ ∧ _ ∧ LCg.Off1 _ _).2.2.2.2.2.2 | exact (by assumption : _ ∧ _ ∧ _ ∧ _ ∧ _ ∧ _ ∧ _ ∧ LCg.Off1 _ _).2.2.2.2.2.2.2 | exact (by assumption : _ ∧ _ ∧ _ ∧ _ ∧ _ ∧ _ ∧ _ ∧ _ ∧ LCg.Off1 _ _).2.2.2.2.2.2.2.2 | exact (by assumption : _ ∧ _ ∧ _ ∧ _ ∧ _ ∧ _ ∧ _ ∧ _ ∧ _ ∧ LCg.Off1 _ _).2.2.2.2.2.2.2.2.2 | exact (by assumption : _ ∧ _ ∧ _ ∧ _ ∧ _ ∧ _ ∧ _ ∧ _ ∧ _ ∧ _ ∧ LCg.Off1 _ _).2.2.2.2.2.2.2.2.2.2 | exact (by assumption : _ ∧ _ ∧ _ ∧ _ ∧ _ ∧ _ ∧ _ ∧ _ ∧ _ ∧ _ ∧ _ ∧ LCg.Off1 _ _).2.2.2.2.2.2.2.2.2.2.2 | exact (by assumption : _ ∧ _ ∧ _ ∧ _ ∧ _ ∧ _ ∧ _ ∧ _ ∧ _ ∧ _ ∧ _ ∧ _ ∧ LCg.Off1 _ _).2.2.2.2.2.2.2.2.2.2.2.2 | exact (by assumption : _ ∧ _ ∧ _ ∧ _ ∧ _ ∧ _ ∧ _ ∧ _ ∧ _ ∧ _ ∧ _ ∧ _ ∧ _ ∧ LCg.Off1 _ _).2.2.2.2.2.2.2.2.2.2.2.2.2 | exact (by assumption : _ ∧ _ ∧ _ ∧ _ ∧ _ ∧ _ ∧ _ ∧ _ ∧ _ ∧ _ ∧ _ ∧ _ ∧ _ ∧ _ ∧ LCg.Off1 _ _).2.2.2.2.2.2.2.2.2.2.2.2.2.2 | exact (by assumption : _ ∧ _ ∧ _ ∧ _ ∧ _ ∧ _ ∧ _ ∧ _ ∧ _ ∧ _ ∧ _ ∧ _ ∧ _ ∧ _ ∧ _ ∧ LCg.Off1 _ _).2.2.2.2.2.2.2.2.2.2.2.2.2.2.2 | exact (by assumption : _ ∧ _ ∧ _ ∧ _ ∧ _ ∧ _ ∧ _ ∧ _ ∧ _ ∧ _ ∧ _ ∧ _ ∧ _ ∧ _ ∧ _ ∧ _ ∧ LCg.Off1 _ _).2.2.2.2.2.2.2.2.2.2.2.2.2.2.2.2 | exact (by assumption : _ ∧ _ ∧ _ ∧ _ ∧ _ ∧ _ ∧ _ ∧ _ ∧ _ ∧ _ ∧ _ ∧ _ ∧ _ ∧ _ ∧ _ ∧ _ ∧ _ ∧ LCg.Off1 _ _).2.2.2.2.2.2.2.2.2.2.2.2.2.2.2.2.2 | exact (by assumption : _ ∧ _ ∧ _ ∧ _ ∧ _ ∧ _ ∧ _ ∧ _ ∧ _ ∧ _ ∧ _ ∧ _ ∧ _ ∧ _ ∧ _ ∧ _ ∧ _ ∧ _ ∧ LCg.Off1 _ _).2.2.2.2.2.2.2.2.2.2.2.2.2.2.2.2.2.2 | exact (by assumption : _ ∧ _ ∧ _ ∧ _ ∧ _ ∧ _ ∧ _ ∧ _ ∧ _ ∧ _ ∧ _ ∧ _ ∧ _ ∧ _ ∧ _ ∧ _ ∧ _ ∧ _ ∧ _ ∧ LCg.Off1 _ _).2.2.2.2.2.2.2.2.2.2.2.2.2.2.2.2.2.2.2 | exact (by assumption : _ ∧ _ ∧ _ ∧ _ ∧ _ ∧ _ ∧ _ ∧ _ ∧ _ ∧ _ ∧ _ ∧ _ ∧ _ ∧ _ ∧ _ ∧ _ ∧ _ ∧ _ ∧ _ ∧ _ ∧ LCg.Off1 _ _).2.2.2.2.2.2.2.2.2.2.2.2.2.2.2.2.2.2.2.2)
  k_with "lcg_off" => (first | assumption | exact (by assumption : _ ∧ LCg.Off3 _ _ _ _).2 | exact (by assumption : _ ∧ _ ∧ LCg.Off3 _ _ _ _).2.2 | exact (by assumption : _ ∧ _ ∧ _ ∧ LCg.Off3 _ _ _ _).2.2.2 | exact (by assumption : _ ∧ _ ∧ _ ∧ _ ∧ LCg.Off3 _ _ _ _).2.2.2.2 | exact (by assumption : _ ∧ _ ∧ _ ∧ _ ∧ _ ∧ LCg.Off3 _ _ _ _).2.2.2.2.2 | exact (by assumption : _ ∧ _ ∧ _ ∧ _ ∧ _ ∧ _ ∧ LCg.Off3 _ _ _ _).2.2.2.2.2.2 | exact (by assumption : _ ∧ _ ∧ _ ∧ _ ∧ _ ∧ _ ∧ _ ∧ LCg.Off3 _ _ _ _).2.2.2.2.2.2.2 | exact (by assumption : _ ∧ _ ∧ _ ∧ _ ∧ _ ∧ _ ∧ _ ∧ _ ∧ LCg.Off3 _ _ _ _).2.2.2.2.2.2.2.2 | exact (by assumption : _ ∧ _ ∧ _ ∧ _ ∧ _ ∧ _ ∧ _ ∧ _ ∧ _ ∧ LCg.Off3 _ _ _ _).2.2.2.2.2.2.2.2.2 | exact (by assumption : _ ∧ _ ∧ _ ∧ _ ∧ _ ∧ _ ∧ _ ∧ _ ∧ _ ∧ _ ∧ LCg.Off3 _ _ _ _).2.2.2.2.2.2.2.2.2.2 | exact (by assumption : _ ∧ _ ∧ _ ∧ _ ∧ _ ∧ _ ∧ _ ∧ _ ∧ _ ∧ _ ∧ _ ∧ LCg.Off3 _ _ _ _).2.2.2.2.2.2.2.2.2.2.2 | exact (by assumption : _ ∧ _ ∧ _ ∧ _ ∧ _ ∧ _ ∧ _ ∧ _ ∧ _ ∧ _ ∧ _ ∧ _ ∧ LCg.Off3 _ _ _ _).2.2.2.2.2.2.2.2.2.2.2.2 | exact (by assumption : _ ∧ _ ∧ _ ∧ _ ∧ _ ∧ _ ∧ _ ∧ _ ∧ _ ∧ _ ∧ _ ∧ _ ∧ _ ∧ LCg.Off3 _ _ _ _).2.2.2.2.2.2.2.2.2.2.2.2.2 | exact (by assumption : _ ∧ _ ∧ _ ∧ _ ∧ _ ∧ _ ∧ _ ∧ _ ∧ _ ∧ _ ∧ _ ∧ _ ∧ _ ∧ _ ∧ LCg.Off3 _ _ _ _).2.2.2.2.2.2.2.2.2.2.2.2.2.2 | exact (by assumption : _ ∧ _ ∧ _ ∧ _ ∧ _ ∧ _ ∧ _ ∧ _ ∧ _ ∧ _ ∧ _ ∧ _ ∧ _ ∧ _ ∧ _ ∧ LCg.Off3 _ _ _ _).2.2.2.2.2.2.2.2.2.2.2.2.2.2.2 | exact (by assumption : _ ∧ _ ∧ _ ∧ _ ∧ _ ∧ _ ∧ _ ∧ _ ∧ _ ∧ _ ∧ _ ∧ _ ∧ _ ∧ _ ∧ _ ∧ _ ∧ LCg.Off3 _ _ _ _).2.2.2.2.2.2.2.2.2.2.2.2.2.2.2.2 | exact (by assumption : _ ∧ _ ∧ _ ∧ _ ∧ _ ∧ _ ∧ _ ∧ _ ∧ _ ∧ _ ∧ _ ∧ _ ∧ _ ∧ _ ∧ _ ∧ _ ∧ _ ∧ LCg.Off3 _ _ _ _).2.2.2.2.2.2.2.2.2.2.2.2.2.2.2.2.2 | exact (by assumption : _ ∧ _ ∧ _ ∧ _ ∧ _ ∧ _ ∧ _ ∧ _ ∧ _ ∧ _ ∧ _ ∧ _ ∧ _ ∧ _ ∧ _ ∧ _ ∧ _ ∧ _ ∧ LCg.Off3 _ _ _ _).2.2.2.2.2.2.2.2.2.2.2.2.2.2.2.2.2.2 | exact (by assumption : _ ∧ _ ∧ _ ∧ _ ∧ _ ∧ _ ∧ _ ∧ _ ∧ _ ∧ _ ∧ _ ∧ _ ∧ _ ∧ _ ∧ _ ∧ _ ∧ _ ∧ _ ∧ _ ∧ LCg.Off3 _ _ _ _).2.2.2.2.2.2.2.2.2.2.2.2.2.2.2.2.2.2.2 | exact (by assumption : _ ∧ _ ∧ _ ∧ _ ∧ _ ∧ _ ∧ _ ∧ _ ∧ _ ∧ _ ∧ _ ∧ _ ∧ _ ∧ _ ∧ _ ∧ _ ∧ _ ∧ _ ∧ _ ∧ _ ∧ LCg.Off3 _ _ _ _).2.2.2.2.2.2.2.2.2.2.2.2.2.2.2.2.2.2.2.2)
  k_with "eval ListComp" => ((k_here; k_dflt (refine LCg.ListComp_U (F₀ := by k_asm) (by with_unfolding_all rfl) (by decide) (by rfl) (by decide) (by rfl) ?_)))
  k_with "CompSrc" => ((k_here; k_dflt (refine LCg.CompSrc.ledger (by rfl) (by k_asm) (by k_asm) (by k_mem) (by kcf_size) ?_; intro g'; (refine' kcf_list _ (by first | assumption | l_ints) (fun k' t' I' oI' C' oC' D' m' ys' h' tk' E' hk' hC' hx' F' N' off' ne' hMark' => ?_) ?_); (all_goals (try (simp only [LCg.Off3, and_true] at off'))); kcf_last)))
  k_with "CompEnd" => ((k_here; k_dflt (refine LCg.CompEnd.intro (by assumption) (by assumption) _ (fun _ hp => hp) (by lcg_off) (by lcg_src) ?_)))
  k_with "call ref" => ((k_here; (with_reducible show wpAny _ _ (call (Value.ref 218) [Value.ref _, Value.int _ _]) _ _ _); k_dflt (refine owes_use' (by k_asm) (by k_asm) (by k_asm) (by k_asm) (by k_asm) (by first | exact rfl | assumption) (c_F2 _ _ _ _ _ _ _ (by k_mem) (by with_reducible assumption) (by with_reducible assumption) (by with_reducible assumption)) (by ktr_room) (by ktr_units) ?_); intro r' ws' c' h' tk' F' N' o1' hI'; (try k_sweep); (try simp only [LCg.Off1, and_true] at o1'); (try dsimp only); (try k_fold)))
  k_with "call ref" => ((k_here; (with_reducible show wpAny _ _ (call (Value.ref 225) [Value.ref _, Value.int _ _]) _ _ _); k_dflt (refine owes_use' (by k_asm) (by k_asm) (by k_asm) (by k_asm) (by k_asm) (by first | exact rfl | assumption) (c_I2 _ _ _ _ _ _ _ (by k_mem) (by with_reducible assumption) (by with_reducible assumption) (by with_reducible assumption)) (by ktr_room) (by ktr_units) ?_); intro r' ws' c' h' tk' F' N' o1' hI'; (try k_sweep); (try simp only [LCg.Off1, and_true] at o1'); (try dsimp only); (try k_fold)))
  k_fill
  intro mean mg mb dp un gd cn cs av ccd cl outer A₀ base h₀ L m s Q E B F X N T hk hd hu hret
  have f1 : (II 2 (FF 2 ns)).length = 4 := II_len 2 (by decide) _
  have f2 : (FF 2 ns).length = 4 := FF_len 2 (by decide) ns
  have f3 : AllB 65536 ns := hb.mono (by decide)
  have f4 : AllB (2 ^ 28) (FF 2 ns) := FF_all 2 (by decide) hb
  have f5 := law_back2 hn
  replace N := news_dup N hl
  clear hl
  refine wpAny_call ?_
  k_dflt (walk_at "my enter")
  repeat' ((fail_if_success (with_reducible show Q _ _)); (fail_if_success (with_reducible show TurnK _ _ _ _ _ _ _ _ _ _ _ _)); first | (k_unfold; (try dsimp only)) | (k_end; wrow_close) | walk1 | (dsimp only; walk1) | (leave1; walk_say "STEP leave1"; try dsimp only) | fail "no step")
  rw [decide_eq_true f5]
  exact hret _ _ (by assumption) (cb_drop (by assumption) (by (intro p9 h9; repeat (first | exact h9 | refine List.Mem.tail _ ?_))))
theorem c_br1 (w : World) (news : List (Addr × Obj)) (l : Addr) (k : Nat) (vs : List Value) (ns : List Int) (t : Tok) (hl : (l, listOf vs.toArray k) ∈ news) (hi : IntsAre vs ns) (hn : ns.length = 1) (hb : AllB 128 ns) :
    Owes 13 w 266 [.ref l, .int 1 t] news (fun h₀ L m s Q => ORet h₀ L m news s Q) := by
  unfold Owes
  w_top off
  k_with "call ref" => ((k_here; (with_reducible show wpAny _ _ (call (Value.ref 218) [Value.ref _, Value.int _ _]) _ _ _); k_dflt (refine owes_use' (by k_asm) (by k_asm) (by k_asm) (by k_asm) (by k_asm) (by first | exact rfl | assumption) (c_F1 _ _ _ _ _ _ _ (by k_mem) (by with_reducible assumption) (by with_reducible assumption) (by with_reducible assumption)) (by ktr_room) (by ktr_units) ?_); intro r' ws' c' h' tk' F' N' o1' hI'; (try k_sweep); (try simp only [LCg.Off1, and_true] at o1'); (try dsimp only); (try k_fold)))
  k_with "call ref" => ((k_here; (with_reducible show wpAny _ _ (call (Value.ref 225) [Value.ref _, Value.int _ _]) _ _ _); k_dflt (refine owes_use' (by k_asm) (by k_asm) (by k_asm) (by k_asm) (by k_asm) (by first | exact rfl | assumption) (c_I1 _ _ _ _ _ _ _ (by k_mem) (by with_reducible assumption) (by with_reducible assumption) (by with_reducible assumption)) (by ktr_room) (by ktr_units) ?_); intro r' ws' c' h' tk' F' N' o1' hI'; (try k_sweep); (try simp only [LCg.Off1, and_true] at o1'); (try dsimp only); (try k_fold)))
  k_fill
  intro mean mg mb dp un gd cn cs av ccd cl outer A₀ base h₀ L m s Q E B F X N T hk hd hu hret
  have f1 : (II 1 (FF 1 ns)).length = 1 := II_len 1 (by decide) _
  have f2 : (FF 1 ns).length = 1 := FF_len 1 (by decide) ns
  have f3 : AllB 65536 ns := hb.mono (by decide)
  have f4 : AllB (2 ^ 28) (FF 1 ns) := FF_all 1 (by decide) hb
  have f5 := law_back1 hn
  replace N := news_dup N hl
  clear hl
  refine wpAny_call ?_
  k_dflt (walk_at "my enter")
  repeat' ((fail_if_success (with_reducible show Q _ _)); (fail_if_success (with_reducible show TurnK _ _ _ _ _ _ _ _ _ _ _ _)); first | (k_unfold; (try dsimp only)) | (k_end; wrow_close) | walk1 | (dsimp only; walk1) | (leave1; walk_say "STEP leave1"; try dsimp only) | fail "no step")
  rw [decide_eq_true f5]
  exact hret _ _ (by assumption) (cb_drop (by assumption) (by (intro p9 h9; repeat (first | exact h9 | refine List.Mem.tail _ ?_))))
/-- a new source -/
abbrev PRet (h₀ : Heap) (L : Addr) (m : Str → Option Value) (news : List (Addr × Obj)) (s : Shared) (Q : Value → Shared → Prop) : Prop :=
  ∀ (r : Addr) (a b : Int) (ta tb : Tok) (c : Nat) (h' : Heap) (tk' : Nat), 0 ≤ a → 0 ≤ b → b < 2147483647 → Fr h₀ L h' m → News h₀ L h' ((r, listOf [Value.int a ta, .int b tb].toArray c) :: news) → LCg.Off1 r news → Q (.ref r) { s with heap := h', toks := tk' }
theorem big_nn (c : Int) (b : Bool) : 0 ≤ (if -1 - c > c then -1 - c else c) * (if b = true then 1 else 0) := by
  cases b
  · simp
  · simp only [if_true, Int.mul_one]; split <;> omega
theorem c_pool (w : World) (news : List (Addr × Obj)) (l : Addr) (vs : List Value) (ns : List Int) (t : Tok) (hi : IntsAre vs ns) (hlen : ns.length ≤ 63) :
    Owes 3 w 232 [.ref l, .int 0 t] news (fun h₀ L m s Q => h₀.IsList l vs.toArray ∧ PRet h₀ L m news s Q) := by
  unfold Owes
  w_top off
  k_with_none
  k_with "my off" => (first | assumption | exact off1_lt (by tbn_lt) | exact (by assumption : _ ∧ LCg.Off1 _ _).2 | exact (by assumption : _ ∧ _ ∧ LCg.Off1 _ _).2.2 | exact (by assumption : _ ∧ _ ∧ _ ∧ LCg.Off1 _ _).2.2.2 | exact (by assumption : _ ∧ _ ∧ _ ∧ _ ∧ LCg.Off1 _ _).2.2.2.2 | exact (by assumption : _ ∧ _ ∧ _ ∧ _ ∧ _ ∧ LCg.Off1 _ _).2.2.2.2.2 | exact (by assumption : _ ∧ _ ∧ _ ∧ _ ∧ _ ∧ _ ∧ LCg.Off1 _ _).2.2.2.2.2.2 | exact (by assumption : _ ∧ _ ∧ _ ∧ _ ∧ _ ∧ _ ∧ _ ∧ LCg.Off1 _ _).2.2.2.2.2.2.2 | exact (by assumption : _ ∧ _ ∧ _ ∧ _ ∧ _ ∧ _ ∧ _ ∧ _ ∧ LCg.Off1 _ _).2.2.2.2.2.2.2.2 | exact (by assumption : _ ∧ _ ∧ _ ∧ _ ∧ _ ∧ _ ∧ _ ∧ _ ∧ _ ∧ LCg.Off1 _ _).2.2.2.2.2.2.2.2.2 | exact (by assumption : _ ∧ _ ∧ _ ∧ _ ∧ _ ∧ _ ∧ _ ∧ _ ∧ _ ∧ _ ∧ LCg.Off1 _ _).2.2.2.2.2.2.2.2.2.2 | exact (by assumption : _ ∧ _ ∧ _ ∧ _ ∧ _ ∧ _ ∧ _ ∧ _ ∧ _ ∧ _ ∧ _ ∧ LCg.Off1 _ _).2.2.2.2.2.2.2.2.2.2.2 | exact (by assumption : _ ∧ _ ∧ _ ∧ _ ∧ _ ∧ _ ∧ _ ∧ _ ∧ _ ∧ _ ∧ _ ∧ _ ∧ LCg.Off1 _ _).2.2.2.2.2.2.2.2.2.2.2.2 | exact (by assumption : _ ∧ _ ∧ _ ∧ _ ∧ _ ∧ _ ∧ _ ∧ _ ∧ _ ∧ _ ∧ _ ∧ _ ∧ _ ∧ LCg.Off1 _ _).2.2.2.2.2.2.2.2.2.2.2.2.2 | exact (by assumption : _ ∧ _ ∧ _ ∧ _ ∧ _ ∧ _ ∧ _ ∧ _ ∧ _ ∧ _ ∧ _ ∧ _ ∧ _ ∧ _ ∧ LCg.Off1 _ _).2.2.2.2.2.2.2.2.2.2.2.2.2.2 | exact (by assumption : _ ∧ _ ∧ _ ∧ _ ∧ _ ∧ _ ∧ _ ∧ _ ∧ _ ∧ _ ∧ _ ∧ _ ∧ _ ∧ _ ∧ _ ∧ LCg.Off1 _ _).2.2.2.2.2.2.2.2.2.2.2.2.2.2.2 | exact (by assumption : _ ∧ _ ∧ _ ∧ _ ∧ _ ∧ _ ∧ _ ∧ _ ∧ _ ∧ _ ∧ _ ∧ _ ∧ _ ∧ _ ∧ _ ∧ _ ∧ LCg.Off1 _ _).2.2.2.2.2.2.2.2.2.2.2.2.2.2.2.2 | exact (by assumption : _ ∧ _ ∧ _ ∧ _ ∧ _ ∧ _ ∧ _ ∧ _ ∧ _ ∧ _ ∧ _ ∧ _ ∧ _ ∧ _ ∧ _ ∧ _ ∧ _ ∧ LCg.Off1 _ _).2.2.2.2.2.2.2.2.2.2.2.2.2.2.2.2.2 | exact (by assumption : _ ∧ _ ∧ _ ∧ _ ∧ _ ∧ _ ∧ _ ∧ _ ∧ _ ∧ _ ∧ _ ∧ _ ∧ _ ∧ _ ∧ _ ∧ _ ∧ _ ∧ _ ∧ LCg.Off1 _ _).2.2.2.2.2.2.2.2.2.2.2.2.2.2.2.2.2.2 | exact (by assumption : _ ∧ _ ∧ _ ∧ _ ∧ _ ∧ _ ∧ _ ∧ _ ∧ _ ∧ _ ∧ _ ∧ _ ∧ _ ∧ _ ∧ _ ∧ _ ∧ _ ∧ _ ∧ _ ∧ LCg.Off1 _ _).2.2.2.2.2.2.2.2.2.2.2.2.2.2.2.2.2.2.2 | exact (by assumption : _ ∧ _ ∧ _ ∧ _ ∧ _ ∧ _ ∧ _ ∧ _ ∧ _ ∧ _ ∧ _ ∧ _ ∧ _ ∧ _ ∧ _ ∧ _ ∧ _ ∧ _ ∧ _ ∧ _ ∧ LCg.Off1 _ _).2.2.2.2.2.2.2.2.2.2.2.2.2.2.2.2.2.2.2.2)
  k_with "lcg_off" => (first | assumption | exact (by assumption : _ ∧ LCg.Off3 _ _ _ _).2 | exact (by assumption : _ ∧ _ ∧ LCg.Off3 _ _ _ _).2.2 | exact (by assumption : _ ∧ _ ∧ _ ∧ LCg.Off3 _ _ _ _).2.2.2 | exact (by assumption : _ ∧ _ ∧ _ ∧ _ ∧ LCg.Off3 _ _ _ _).2.2.2.2 | exact (by assumption : _ ∧ _ ∧ _ ∧ _ ∧ _ ∧ LCg.Off3 _ _ _ _).2.2.2.2.2 | exact (by assumption : _ ∧ _ ∧ _ ∧ _ ∧ _ ∧ _ ∧ LCg.Off3 _ _ _ _).2.2.2.2.2.2 | exact (by assumption : _ ∧ _ ∧ _ ∧ _ ∧ _ ∧ _ ∧ _ ∧ LCg.Off3 _ _ _ _).2.2.2.2.2.2.2 | exact (by assumption : _ ∧ _ ∧ _ ∧ _ ∧ _ ∧ _ ∧ _ ∧ _ ∧ LCg.Off3 _ _ _ _).2.2.2.2.2.2.2.2 | exact (by assumption : _ ∧ _ ∧ _ ∧ _ ∧ _ ∧ _ ∧ _ ∧ _ ∧ _ ∧ LCg.Off3 _ _ _ _).2.2.2.2.2.2.2.2.2 | exact (by assumption : _ ∧ _ ∧ _ ∧ _ ∧ _ ∧ _ ∧ _ ∧ _ ∧ _ ∧ _ ∧ LCg.Off3 _ _ _ _).2.2.2.2.2.2.2.2.2.2 | exact (by assumption : _ ∧ _ ∧ _ ∧ _ ∧ _ ∧ _ ∧ _ ∧ _ ∧ _ ∧ _ ∧ _ ∧ LCg.Off3 _ _ _ _).2.2.2.2.2.2.2.2.2.2.2 | exact (by assumption : _ ∧ _ ∧ _ ∧ _ ∧ _ ∧ _ ∧ _ ∧ _ ∧ _ ∧ _ ∧ _ ∧ _ ∧ LCg.Off3 _ _ _ _).2.2.2.2.2.2.2.2.2.2.2.2 | exact (by assumption : _ ∧ _ ∧ _ ∧ _ ∧ _ ∧ _ ∧ _ ∧ _ ∧ _ ∧ _ ∧ _ ∧ _ ∧ _ ∧ LCg.Off3 _ _ _ _).2.2.2.2.2.2.2.2.2.2.2.2.2 | exact (by assumption : _ ∧ _ ∧ _ ∧ _ ∧ _ ∧ _ ∧ _ ∧ _ ∧ _ ∧ _ ∧ _ ∧ _ ∧ _ ∧ _ ∧ LCg.Off3 _ _ _ _).2.2.2.2.2.2.2.2.2.2.2.2.2.2 | exact (by assumption : _ ∧ _ ∧ _ ∧ _ ∧ _ ∧ _ ∧ _ ∧ _ ∧ _ ∧ _ ∧ _ ∧ _ ∧ _ ∧ _ ∧ _ ∧ LCg.Off3 _ _ _ _).2.2.2.2.2.2.2.2.2.2.2.2.2.2.2 | exact (by assumption : _ ∧ _ ∧ _ ∧ _ ∧ _ ∧ _ ∧ _ ∧ _ ∧ _ ∧ _ ∧ _ ∧ _ ∧ _ ∧ _ ∧ _ ∧ _ ∧ LCg.Off3 _ _ _ _).2.2.2.2.2.2.2.2.2.2.2.2.2.2.2.2 | exact (by assumption : _ ∧ _ ∧ _ ∧ _ ∧ _ ∧ _ ∧ _ ∧ _ ∧ _ ∧ _ ∧ _ ∧ _ ∧ _ ∧ _ ∧ _ ∧ _ ∧ _ ∧ LCg.Off3 _ _ _ _).2.2.2.2.2.2.2.2.2.2.2.2.2.2.2.2.2 | exact (by assumption : _ ∧ _ ∧ _ ∧ _ ∧ _ ∧ _ ∧ _ ∧ _ ∧ _ ∧ _ ∧ _ ∧ _ ∧ _ ∧ _ ∧ _ ∧ _ ∧ _ ∧ _ ∧ LCg.Off3 _ _ _ _).2.2.2.2.2.2.2.2.2.2.2.2.2.2.2.2.2.2 | exact (by assumption : _ ∧ _ ∧ _ ∧ _ ∧ _ ∧ _ ∧ _ ∧ _ ∧ _ ∧ _ ∧ _ ∧ _ ∧ _ ∧ _ ∧ _ ∧ _ ∧ _ ∧ _ ∧ _ ∧ LCg.Off3 _ _ _ _).2.2.2.2.2.2.2.2.2.2.2.2.2.2.2.2.2.2.2 | exact (by assumption : _ ∧ _ ∧ _ ∧ _ ∧ _ ∧ _ ∧ _ ∧ _ ∧ _ ∧ _ ∧ _ ∧ _ ∧ _ ∧ _ ∧ _ ∧ _ ∧ _ ∧ _ ∧ _ ∧ _ ∧ LCg.Off3 _ _ _ _).2.2.2.2.2.2.2.2.2.2.2.2.2.2.2.2.2.2.2.2)
  k_fill
  intro mean mg mb dp un gd cn cs av ccd cl outer A₀ base h₀ L m s Q E B F X N T hk hd hu hret
  obtain ⟨hL, hret⟩ := hret
  refine wpAny_call ?_
  k_dflt (walk_at "my enter")
  have hL2 := Fr.lst (by assumption : Fr h₀ L _ m) hL
  repeat' ((fail_if_success (with_reducible show Q _ _)); (fail_if_success (with_reducible show TurnK _ _ _ _ _ _ _ _ _ _ _ _)); first | (k_unfold; (try dsimp only)) | (k_end; wrow_close) | walk1 | (dsimp only; walk1) | (leave1; walk_say "STEP leave1"; try dsimp only) | fail "no step")
  all_goals exact hret _ _ _ _ _ _ _ _ (big_nn _ _) (fmod_lo _ (by decide)) (fmod_hi _ (by decide)) (by assumption) (cb_drop (by assumption) (List.forall_mem_cons.mpr ⟨by k_dflt k_mem, by (intro p9 h9; repeat (first | exact h9 | refine List.Mem.tail _ ?_))⟩)) (by walk_at "my off")
local macro_rules | `(tactic| k_qdec) => `(tactic| decide +kernel)
/-- n is drawn -/
def JoinN (h₀ : Heap) (L : Addr) (m : Str → Option Value) (ls : Addr) (s : Shared) (v : Value) (s' : Shared) : Prop :=
  ∃ (r : Int) (tr : Tok) (a b : Int) (ta tb : Tok) (c : Nat) (h' : Heap) (tk' : Nat), v = .int r tr ∧ r ∈ [(4 : Int), 2, 8, 1] ∧ 0 ≤ a ∧ 0 ≤ b ∧ b < 2147483647 ∧ Fr h₀ L h' m ∧ News h₀ L h' [(ls, listOf [Value.int a ta, .int b tb].toArray c)] ∧ s' = { s with heap := h', toks := tk' }
theorem join_n {prog : Program} {w : World} {A : Around} {E : Value → Shared → Prop} {s : Shared} {h₀ : Heap} {L ls : Addr} {m : Str → Option Value} {o : Obj} {tree : Sem Value} {Q : Value → Shared → Prop} (_F : Fr h₀ L s.heap m) (_N : News h₀ L s.heap [(ls, o)])
    (inner : wpAny (model prog w) A tree (JoinN h₀ L m ls s) E s)
    (outer : ∀ (r : Int) (tr : Tok) (a b : Int) (ta tb : Tok) (c : Nat) (h' : Heap) (tk' : Nat), r ∈ [(4 : Int), 2, 8, 1] → 0 ≤ a → 0 ≤ b → b < 2147483647 → Fr h₀ L h' m → News h₀ L h' [(ls, listOf [Value.int a ta, .int b tb].toArray c)] → Q (.int r tr) { s with heap := h', toks := tk' }) :
    wpAny (model prog w) A tree Q E s :=
  wpAny_mono inner (fun v s' h => by
    obtain ⟨r, tr, a, b, ta, tb, c, h', tk', rfl, h1, h2, h3, h4, h5, h6, rfl⟩ := h
    exact outer r tr a b ta tb c h' tk' h1 h2 h3 h4 h5 h6) fun _ _ e => e
theorem eq_intsT {prog : Program} {w : World} {A : Around} {E : Value → Shared → Prop} {s : Shared} {a b : Addr} {vs us : List Value} {ns ms : List Int} {Q : Value → Shared → Prop} (hl : s.heap.IsList a vs.toArray) (hi : IntsAre vs ns) (hl' : s.heap.IsList b us.toArray) (hi' : IntsAre us ms) (hu : A.units + 64 < cLine)
    (e : ns = ms) (h : Q (.bool true) s) : wpAny (model prog w) A (compareOp .Eq (.ref a) (.ref b)) Q E s := eq_intsK hl hi hl' hi' hu (by rw [decide_eq_true e]; exact h)
theorem walk_law : PySem.Challenge.rw_nt0557_01.Holds := hd (by
  k_with_none
  k_with "my off" => (first | assumption | exact off1_lt (by tbn_lt) | exact (by assumption : _ ∧ LCg.Off1 _ _).2 | exact (by assumption : _ ∧ _ ∧ LCg.Off1 _ _).2.2 | exact (by assumption : _ ∧ _ ∧ _ ∧ LCg.Off1 _ _).2.2.2 | exact (by assumption : _ ∧ _ ∧ _ ∧ _ ∧ LCg.Off1 _ _).2.2.2.2 | exact (by assumption : _ ∧ _ ∧ _ ∧ _ ∧ _ ∧ LCg.Off1 _ _).2.2.2.2.2 | exact (by assumption : _ ∧ _ ∧ _ ∧ _ ∧ _ ∧ _ ∧ LCg.Off1 _ _).2.2.2.2.2.2 | exact (by assumption : _ ∧ _ ∧ _ ∧ _ ∧ _ ∧ _ ∧ _ ∧ LCg.Off1 _ _).2.2.2.2.2.2.2 | exact (by assumption : _ ∧ _ ∧ _ ∧ _ ∧ _ ∧ _ ∧ _ ∧ _ ∧ LCg.Off1 _ _).2.2.2.2.2.2.2.2 | exact (by assumption : _ ∧ _ ∧ _ ∧ _ ∧ _ ∧ _ ∧ _ ∧ _ ∧ _ ∧ LCg.Off1 _ _).2.2.2.2.2.2.2.2.2 | exact (by assumption : _ ∧ _ ∧ _ ∧ _ ∧ _ ∧ _ ∧ _ ∧ _ ∧ _ ∧ _ ∧ LCg.Off1 _ _).2.2.2.2.2.2.2.2.2.2 | exact (by assumption : _ ∧ _ ∧ _ ∧ _ ∧ _ ∧ _ ∧ _ ∧ _ ∧ _ ∧ _ ∧ _ ∧ LCg.Off1 _ _).2.2.2.2.2.2.2.2.2.2.2 | exact (by assumption : _ ∧ _ ∧ _ ∧ _ ∧ _ ∧ _ ∧ _ ∧ _ ∧ _ ∧ _ ∧ _ ∧ _ ∧ LCg.Off1 _ _).2.2.2.2.2.2.2.2.2.2.2.2 | exact (by assumption : _ ∧ _ ∧ _ ∧ _ ∧ _ ∧ _ ∧ _ ∧ _ ∧ _ ∧ _ ∧ _ ∧ _ ∧ _ ∧ LCg.Off1 _ _).2.2.2.2.2.2.2.2.2.2.2.2.2 | exact (by assumption : _ ∧ _ ∧ _ ∧ _ ∧ _ ∧ _ ∧ _ ∧ _ ∧ _ ∧ _ ∧ _ ∧ _ ∧ _ ∧ _ ∧ LCg.Off1 _ _).2.2.2.2.2.2.2.2.2.2.2.2.2.2 | exact (by assumption : _ ∧ _ ∧ _ ∧ _ ∧ _ ∧ _ ∧ _ ∧ _ ∧ _ ∧ _ ∧ _ ∧ _ ∧ _ ∧ _ ∧ _ ∧ LCg.Off1 _ _).2.2.2.2.2.2.2.2.2.2.2.2.2.2.2 | exact (by assumption : _ ∧ _ ∧ _ ∧ _ ∧ _ ∧ _ ∧ _ ∧ _ ∧ _ ∧ _ ∧ _ ∧ _ ∧ _ ∧ _ ∧ _ ∧ _ ∧ LCg.Off1 _ _).2.2.2.2.2.2.2.2.2.2.2.2.2.2.2.2 | exact (by assumption : _ ∧ _ ∧ _ ∧ _ ∧ _ ∧ _ ∧ _ ∧ _ ∧ _ ∧ _ ∧ _ ∧ _ ∧ _ ∧ _ ∧ _ ∧ _ ∧ _ ∧ LCg.Off1 _ _).2.2.2.2.2.2.2.2.2.2.2.2.2.2.2.2.2 | exact (by assumption : _ ∧ _ ∧ _ ∧ _ ∧ _ ∧ _ ∧ _ ∧ _ ∧ _ ∧ _ ∧ _ ∧ _ ∧ _ ∧ _ ∧ _ ∧ _ ∧ _ ∧ _ ∧ LCg.Off1 _ _).2.2.2.2.2.2.2.2.2.2.2.2.2.2.2.2.2.2 | exact (by assumption : _ ∧ _ ∧ _ ∧ _ ∧ _ ∧ _ ∧ _ ∧ _ ∧ _ ∧ _ ∧ _ ∧ _ ∧ _ ∧ _ ∧ _ ∧ _ ∧ _ ∧ _ ∧ _ ∧ LCg.Off1 _ _).2.2.2.2.2.2.2.2.2.2.2.2.2.2.2.2.2.2.2 | exact (by assumption : _ ∧ _ ∧ _ ∧ _ ∧ _ ∧ _ ∧ _ ∧ _ ∧ _ ∧ _ ∧ _ ∧ _ ∧ _ ∧ _ ∧ _ ∧ _ ∧ _ ∧ _ ∧ _ ∧ _ ∧ LCg.Off1 _ _).2.2.2.2.2.2.2.2.2.2.2.2.2.2.2.2.2.2.2.2)
  k_with "lcg_off" => (first | assumption | exact (by assumption : _ ∧ LCg.Off3 _ _ _ _).2 | exact (by assumption : _ ∧ _ ∧ LCg.Off3 _ _ _ _).2.2 | exact (by assumption : _ ∧ _ ∧ _ ∧ LCg.Off3 _ _ _ _).2.2.2 | exact (by assumption : _ ∧ _ ∧ _ ∧ _ ∧ LCg.Off3 _ _ _ _).2.2.2.2 | exact (by assumption : _ ∧ _ ∧ _ ∧ _ ∧ _ ∧ LCg.Off3 _ _ _ _).2.2.2.2.2 | exact (by assumption : _ ∧ _ ∧ _ ∧ _ ∧ _ ∧ _ ∧ LCg.Off3 _ _ _ _).2.2.2.2.2.2 | exact (by assumption : _ ∧ _ ∧ _ ∧ _ ∧ _ ∧ _ ∧ _ ∧ LCg.Off3 _ _ _ _).2.2.2.2.2.2.2 | exact (by assumption : _ ∧ _ ∧ _ ∧ _ ∧ _ ∧ _ ∧ _ ∧ _ ∧ LCg.Off3 _ _ _ _).2.2.2.2.2.2.2.2 | exact (by assumption : _ ∧ _ ∧ _ ∧ _ ∧ _ ∧ _ ∧ _ ∧ _ ∧ _ ∧ LCg.Off3 _ _ _ _).2.2.2.2.2.2.2.2.2 | exact (by assumption : _ ∧ _ ∧ _ ∧ _ ∧ _ ∧ _ ∧ _ ∧ _ ∧ _ ∧ _ ∧ LCg.Off3 _ _ _ _).2.2.2.2.2.2.2.2.2.2 | exact (by assumption : _ ∧ _ ∧ _ ∧ _ ∧ _ ∧ _ ∧ _ ∧ _ ∧ _ ∧ _ ∧ _ ∧ LCg.Off3 _ _ _ _).2.2.2.2.2.2.2.2.2.2.2 | exact (by assumption : _ ∧ _ ∧ _ ∧ _ ∧ _ ∧ _ ∧ _ ∧ _ ∧ _ ∧ _ ∧ _ ∧ _ ∧ LCg.Off3 _ _ _ _).2.2.2.2.2.2.2.2.2.2.2.2 | exact (by assumption : _ ∧ _ ∧ _ ∧ _ ∧ _ ∧ _ ∧ _ ∧ _ ∧ _ ∧ _ ∧ _ ∧ _ ∧ _ ∧ LCg.Off3 _ _ _ _).2.2.2.2.2.2.2.2.2.2.2.2.2 | exact (by assumption : _ ∧ _ ∧ _ ∧ _ ∧ _ ∧ _ ∧ _ ∧ _ ∧ _ ∧ _ ∧ _ ∧ _ ∧ _ ∧ _ ∧ LCg.Off3 _ _ _ _).2.2.2.2.2.2.2.2.2.2.2.2.2.2 | exact (by assumption : _ ∧ _ ∧ _ ∧ _ ∧ _ ∧ _ ∧ _ ∧ _ ∧ _ ∧ _ ∧ _ ∧ _ ∧ _ ∧ _ ∧ _ ∧ LCg.Off3 _ _ _ _).2.2.2.2.2.2.2.2.2.2.2.2.2.2.2 | exact (by assumption : _ ∧ _ ∧ _ ∧ _ ∧ _ ∧ _ ∧ _ ∧ _ ∧ _ ∧ _ ∧ _ ∧ _ ∧ _ ∧ _ ∧ _ ∧ _ ∧ LCg.Off3 _ _ _ _).2.2.2.2.2.2.2.2.2.2.2.2.2.2.2.2 | exact (by assumption : _ ∧ _ ∧ _ ∧ _ ∧ _ ∧ _ ∧ _ ∧ _ ∧ _ ∧ _ ∧ _ ∧ _ ∧ _ ∧ _ ∧ _ ∧ _ ∧ _ ∧ LCg.Off3 _ _ _ _).2.2.2.2.2.2.2.2.2.2.2.2.2.2.2.2.2 | exact (by assumption : _ ∧ _ ∧ _ ∧ _ ∧ _ ∧ _ ∧ _ ∧ _ ∧ _ ∧ _ ∧ _ ∧ _ ∧ _ ∧ _ ∧ _ ∧ _ ∧ _ ∧ _ ∧ LCg.Off3 _ _ _ _).2.2.2.2.2.2.2.2.2.2.2.2.2.2.2.2.2.2 | exact (by assumption : _ ∧ _ ∧ _ ∧ _ ∧ _ ∧ _ ∧ _ ∧ _ ∧ _ ∧ _ ∧ _ ∧ _ ∧ _ ∧ _ ∧ _ ∧ _ ∧ _ ∧ _ ∧ _ ∧ LCg.Off3 _ _ _ _).2.2.2.2.2.2.2.2.2.2.2.2.2.2.2.2.2.2.2 | exact (by assumption : _ ∧ _ ∧ _ ∧ _ ∧ _ ∧ _ ∧ _ ∧ _ ∧ _ ∧ _ ∧ _ ∧ _ ∧ _ ∧ _ ∧ _ ∧ _ ∧ _ ∧ _ ∧ _ ∧ _ ∧ LCg.Off3 _ _ _ _).2.2.2.2.2.2.2.2.2.2.2.2.2.2.2.2.2.2.2.2)
  k_with "call ref" => ((k_here; (with_reducible show wpAny _ _ (call (Value.ref 273) [Value.ref _, Value.int _ _]) _ _ _); k_dflt (refine owes_use' (by k_asm) (by k_asm) (by k_asm) (by k_asm) (by k_asm) (by first | exact rfl | assumption) (c_tr8 _ _ _ _ _ _ _ (by k_mem) (by with_reducible assumption) (by with_reducible assumption) (by with_reducible assumption)) (by ktr_room) (by ktr_units) ?_); intro h' tk' F' N'; (try k_sweep); (try dsimp only); (try k_fold)))
  k_with "call ref" => ((k_here; (with_reducible show wpAny _ _ (call (Value.ref 266) [Value.ref _, Value.int _ _]) _ _ _); k_dflt (refine owes_use' (by k_asm) (by k_asm) (by k_asm) (by k_asm) (by k_asm) (by first | exact rfl | assumption) (c_br8 _ _ _ _ _ _ _ (by k_mem) (by with_reducible assumption) (by with_reducible assumption) (by with_reducible assumption)) (by ktr_room) (by ktr_units) ?_); intro h' tk' F' N'; (try k_sweep); (try dsimp only); (try k_fold)))
  k_with "call ref" => ((k_here; (with_reducible show wpAny _ _ (call (Value.ref 218) [Value.ref _, Value.int _ _]) _ _ _); k_dflt (refine owes_use' (by k_asm) (by k_asm) (by k_asm) (by k_asm) (by k_asm) (by first | exact rfl | assumption) (c_F8 _ _ _ _ _ _ _ (by k_mem) (by with_reducible assumption) (by with_reducible assumption) (by with_reducible assumption)) (by ktr_room) (by ktr_units) ?_); intro r' ws' c' h' tk' F' N' o1' hI'; (try k_sweep); (try simp only [LCg.Off1, and_true] at o1'); (try dsimp only); (try k_fold)))
  k_with "call ref" => ((k_here; (with_reducible show wpAny _ _ (call (Value.ref 251) [Value.ref _, Value.int _ _]) _ _ _); k_dflt (refine owes_use' (by k_asm) (by k_asm) (by k_asm) (by k_asm) (by k_asm) (by first | exact rfl | assumption) (c_block8 _ _ _ _ _ _ _ _ _ _ (by (intro o'; k_upd)) (by first | assumption | omega | decide) (by first | assumption | omega | decide) (by first | assumption | omega | decide)) (by ktr_room) (by ktr_units) ?_); intro r' ws' ms' k' o' h' tk' hI' hl' hb' F' N' o1'; (try k_sweep); (try simp only [LCg.Off1, and_true] at o1'); (try dsimp only); (try k_fold)))
  k_with "call ref" => ((k_here; (with_reducible show wpAny _ _ (call (Value.ref 273) [Value.ref _, Value.int _ _]) _ _ _); k_dflt (refine owes_use' (by k_asm) (by k_asm) (by k_asm) (by k_asm) (by k_asm) (by first | exact rfl | assumption) (c_tr4 _ _ _ _ _ _ _ (by k_mem) (by with_reducible assumption) (by with_reducible assumption) (by with_reducible assumption)) (by ktr_room) (by ktr_units) ?_); intro h' tk' F' N'; (try k_sweep); (try dsimp only); (try k_fold)))
  k_with "call ref" => ((k_here; (with_reducible show wpAny _ _ (call (Value.ref 266) [Value.ref _, Value.int _ _]) _ _ _); k_dflt (refine owes_use' (by k_asm) (by k_asm) (by k_asm) (by k_asm) (by k_asm) (by first | exact rfl | assumption) (c_br4 _ _ _ _ _ _ _ (by k_mem) (by with_reducible assumption) (by with_reducible assumption) (by with_reducible assumption)) (by ktr_room) (by ktr_units) ?_); intro h' tk' F' N'; (try k_sweep); (try dsimp only); (try k_fold)))
  k_with "call ref" => ((k_here; (with_reducible show wpAny _ _ (call (Value.ref 218) [Value.ref _, Value.int _ _]) _ _ _); k_dflt (refine owes_use' (by k_asm) (by k_asm) (by k_asm) (by k_asm) (by k_asm) (by first | exact rfl | assumption) (c_F4 _ _ _ _ _ _ _ (by k_mem) (by with_reducible assumption) (by with_reducible assumption) (by with_reducible assumption)) (by ktr_room) (by ktr_units) ?_); intro r' ws' c' h' tk' F' N' o1' hI'; (try k_sweep); (try simp only [LCg.Off1, and_true] at o1'); (try dsimp only); (try k_fold)))
  k_with "call ref" => ((k_here; (with_reducible show wpAny _ _ (call (Value.ref 251) [Value.ref _, Value.int _ _]) _ _ _); k_dflt (refine owes_use' (by k_asm) (by k_asm) (by k_asm) (by k_asm) (by k_asm) (by first | exact rfl | assumption) (c_block4 _ _ _ _ _ _ _ _ _ _ (by (intro o'; k_upd)) (by first | assumption | omega | decide) (by first | assumption | omega | decide) (by first | assumption | omega | decide)) (by ktr_room) (by ktr_units) ?_); intro r' ws' ms' k' o' h' tk' hI' hl' hb' F' N' o1'; (try k_sweep); (try simp only [LCg.Off1, and_true] at o1'); (try dsimp only); (try k_fold)))
  k_with "call ref" => ((k_here; (with_reducible show wpAny _ _ (call (Value.ref 273) [Value.ref _, Value.int _ _]) _ _ _); k_dflt (refine owes_use' (by k_asm) (by k_asm) (by k_asm) (by k_asm) (by k_asm) (by first | exact rfl | assumption) (c_tr2 _ _ _ _ _ _ _ (by k_mem) (by with_reducible assumption) (by with_reducible assumption) (by with_reducible assumption)) (by ktr_room) (by ktr_units) ?_); intro h' tk' F' N'; (try k_sweep); (try dsimp only); (try k_fold)))
  k_with "call ref" => ((k_here; (with_reducible show wpAny _ _ (call (Value.ref 266) [Value.ref _, Value.int _ _]) _ _ _); k_dflt (refine owes_use' (by k_asm) (by k_asm) (by k_asm) (by k_asm) (by k_asm) (by first | exact rfl | assumption) (c_br2 _ _ _ _ _ _ _ (by k_mem) (by with_reducible assumption) (by with_reducible assumption) (by with_reducible assumption)) (by ktr_room) (by ktr_units) ?_); intro h' tk' F' N'; (try k_sweep); (try dsimp only); (try k_fold)))
  k_with "call ref" => ((k_here; (with_reducible show wpAny _ _ (call (Value.ref 218) [Value.ref _, Value.int _ _]) _ _ _); k_dflt (refine owes_use' (by k_asm) (by k_asm) (by k_asm) (by k_asm) (by k_asm) (by first | exact rfl | assumption) (c_F2 _ _ _ _ _ _ _ (by k_mem) (by with_reducible assumption) (by with_reducible assumption) (by with_reducible assumption)) (by ktr_room) (by ktr_units) ?_); intro r' ws' c' h' tk' F' N' o1' hI'; (try k_sweep); (try simp only [LCg.Off1, and_true] at o1'); (try dsimp only); (try k_fold)))
  k_with "call ref" => ((k_here; (with_reducible show wpAny _ _ (call (Value.ref 251) [Value.ref _, Value.int _ _]) _ _ _); k_dflt (refine owes_use' (by k_asm) (by k_asm) (by k_asm) (by k_asm) (by k_asm) (by first | exact rfl | assumption) (c_block2 _ _ _ _ _ _ _ _ _ _ (by (intro o'; k_upd)) (by first | assumption | omega | decide) (by first | assumption | omega | decide) (by first | assumption | omega | decide)) (by ktr_room) (by ktr_units) ?_); intro r' ws' ms' k' o' h' tk' hI' hl' hb' F' N' o1'; (try k_sweep); (try simp only [LCg.Off1, and_true] at o1'); (try dsimp only); (try k_fold)))
  k_with "call ref" => ((k_here; (with_reducible show wpAny _ _ (call (Value.ref 273) [Value.ref _, Value.int _ _]) _ _ _); k_dflt (refine owes_use' (by k_asm) (by k_asm) (by k_asm) (by k_asm) (by k_asm) (by first | exact rfl | assumption) (c_tr1 _ _ _ _ _ _ _ (by k_mem) (by with_reducible assumption) (by with_reducible assumption) (by with_reducible assumption)) (by ktr_room) (by ktr_units) ?_); intro h' tk' F' N'; (try k_sweep); (try dsimp only); (try k_fold)))
  k_with "call ref" => ((k_here; (with_reducible show wpAny _ _ (call (Value.ref 266) [Value.ref _, Value.int _ _]) _ _ _); k_dflt (refine owes_use' (by k_asm) (by k_asm) (by k_asm) (by k_asm) (by k_asm) (by first | exact rfl | assumption) (c_br1 _ _ _ _ _ _ _ (by k_mem) (by with_reducible assumption) (by with_reducible assumption) (by with_reducible assumption)) (by ktr_room) (by ktr_units) ?_); intro h' tk' F' N'; (try k_sweep); (try dsimp only); (try k_fold)))
  k_with "call ref" => ((k_here; (with_reducible show wpAny _ _ (call (Value.ref 218) [Value.ref _, Value.int _ _]) _ _ _); k_dflt (refine owes_use' (by k_asm) (by k_asm) (by k_asm) (by k_asm) (by k_asm) (by first | exact rfl | assumption) (c_F1 _ _ _ _ _ _ _ (by k_mem) (by with_reducible assumption) (by with_reducible assumption) (by with_reducible assumption)) (by ktr_room) (by ktr_units) ?_); intro r' ws' c' h' tk' F' N' o1' hI'; (try k_sweep); (try simp only [LCg.Off1, and_true] at o1'); (try dsimp only); (try k_fold)))
  k_with "call ref" => ((k_here; (with_reducible show wpAny _ _ (call (Value.ref 251) [Value.ref _, Value.int _ _]) _ _ _); k_dflt (refine owes_use' (by k_asm) (by k_asm) (by k_asm) (by k_asm) (by k_asm) (by first | exact rfl | assumption) (c_block1 _ _ _ _ _ _ _ _ _ _ (by (intro o'; k_upd)) (by first | assumption | omega | decide) (by first | assumption | omega | decide) (by first | assumption | omega | decide)) (by ktr_room) (by ktr_units) ?_); intro r' ws' ms' k' o' h' tk' hI' hl' hb' F' N' o1'; (try k_sweep); (try simp only [LCg.Off1, and_true] at o1'); (try dsimp only); (try k_fold)))
  k_with "call ref" => ((k_here; (with_reducible show wpAny _ _ (call (Value.ref 239) [Value.ref _, Value.int _ _]) _ _ _); k_dflt (refine owes_use' (by k_asm) (by k_asm) (by k_asm) (by k_asm) (by k_asm) (by first | exact rfl | assumption) (c_take _ _ _ _ _ _ _ _ _ _ _ (by (intro o'; k_upd)) (by first | assumption | omega | decide) (by first | assumption | omega | decide) (by first | assumption | omega | decide) (by first | assumption | omega | decide) (by first | assumption | omega | decide)) (by ktr_room) (by ktr_units) ?_); intro r' tr' a' b' ta' tb' c' h' tk' hP' ha' hb' hb2' F' N'; (try k_sweep); (try dsimp only at N'); (try dsimp only at hP'); (try dsimp only); (try k_fold)))
  k_with "call ref" => ((k_here; (with_reducible show wpAny _ _ (call (Value.ref 246) [Value.ref _, Value.ref _]) _ _ _); k_dflt (refine owes_use' (by k_asm) (by k_asm) (by k_asm) (by k_asm) (by k_asm) (by first | exact rfl | assumption) (c_one _ _ _ _ _ _ _ _ _ _ _ _ _ (by (intro o'; k_upd)) (by first | assumption | omega | decide) (by first | assumption | omega | decide) (by first | assumption | omega | decide) (by k_mem) (by k_ne) (by first | assumption | exact IntsAre.cons _ _ (IntsAre.cons _ _ IntsAre.nil) | exact IntsAre.cons _ _ (IntsAre.cons _ _ (IntsAre.cons _ _ (IntsAre.cons _ _ IntsAre.nil)))) (by first | assumption | omega | decide) (by first | assumption | omega | decide)) (by ktr_room) (by ktr_units) ?_); intro r' tr' a' b' ta' tb' c' h' tk' hP' ha' hb' hb2' F' N'; (try k_sweep); (try dsimp only at N'); (try dsimp only at hP'); (try dsimp only); (try k_fold)))
  k_with "call ref" => ((k_here; (with_reducible show wpAny _ _ (call (Value.ref 232) [Value.ref _, Value.int _ _]) _ _ _); k_dflt (refine owes_use' (by k_asm) (by k_asm) (by k_asm) (by k_asm) (by k_asm) (by first | exact rfl | assumption) (c_pool _ _ _ _ _ _ (by assumption) (by omega)) (by ktr_room) (by ktr_units) ?_); refine ⟨by first | assumption | is_list, ?_⟩; intro r' a' b' ta' tb' c' h' tk' ha' hb' hb2' F' N' o1'; (try k_sweep); (try dsimp only); (try k_fold)))
  k_with "binaryOp Mult ref int" => ((k_here; (with_reducible show wpAny _ _ (binaryOp Operator.Mult (Value.ref _) (Value.int _ _)) _ _ _); k_dflt (first | (refine rep_ints 64 (by decide) (by decide) (by k_asm) (by k_asm) (by k_mem) (by (unfold Bd; omega)) ?_) | (refine rep_ints 63 (by decide) (by decide) (by k_asm) (by k_asm) (by k_mem) (by (unfold Bd; omega)) ?_) | (refine rep_ints 16 (by decide) (by decide) (by k_asm) (by k_asm) (by k_mem) (by (unfold Bd; omega)) ?_) | (refine rep_ints 15 (by decide) (by decide) (by k_asm) (by k_asm) (by k_mem) (by (unfold Bd; omega)) ?_) | (refine rep_ints 4 (by decide) (by decide) (by k_asm) (by k_asm) (by k_mem) (by (unfold Bd; omega)) ?_) | (refine rep_ints 3 (by decide) (by decide) (by k_asm) (by k_asm) (by k_mem) (by (unfold Bd; omega)) ?_) | (refine rep_ints 1 (by decide) (by decide) (by k_asm) (by k_asm) (by k_mem) (by (unfold Bd; omega)) ?_) | (refine rep_ints 0 (by decide) (by decide) (by k_asm) (by k_asm) (by k_mem) (by (unfold Bd; omega)) ?_)); intro D' ws' h' F' N' l1 hI' hl1' hl2' hA'; (try k_lt l1); (try k_sweep)))
  k_with "compareOp Eq ref ref" => ((k_here; (with_reducible show wpAny _ _ (compareOp CmpOp.Eq (Value.ref _) (Value.ref _)) _ _ _); (with_unfolding_all refine eq_intsT (by is_list) (by with_reducible assumption) (by is_list) (by with_reducible assumption) (by units_room) (by with_reducible first | exact law_const8 _ | exact law_const4 _ | exact law_const2 _ | exact law_const1 _) ?_; k_whole)))
  k_go0
  all_goals (try k_fold)
  have hlen : (by assumption : List Int).length ≤ 63 := by omega
  repeat' ((fail_if_success (with_reducible show wpAny _ _ (eval (Expr.IfExp _ _ _ _) _) _ _ _)); first | (k_unfold; (try dsimp only)) | (k_end; wrow_close) | walk1 | (dsimp only; walk1) | (leave1; walk_say "STEP leave1"; try dsimp only) | fail "no step")
  k_dflt (refine join_n (by k_asm) (by k_asm) ?_ ?_)
  · k_steps
    all_goals (
      refine ⟨_, _, _, _, _, _, _, _, _, rfl, ?_, ?_, ?_, ?_, ?_, cb_drop (by assumption) (List.forall_mem_cons.mpr ⟨by k_dflt k_mem, by (intro p9 h9; repeat (first | exact h9 | refine List.Mem.tail _ ?_))⟩), rfl⟩
      all_goals first | assumption | decide)
  intro r' tr' a' b' ta' tb' c' h' tk' hr' ha' hb' hb2' F' N'
  (try k_sweep)
  simp only [List.mem_cons, List.not_mem_nil, or_false] at hr'
  rcases hr' with rfl | rfl | rfl | rfl
  all_goals k_steps)
end Mine
theorem PySem.Challenge.cw_nt0557_01_holds : PySem.Challenge.rw_nt0557_01.Holds := by
  exact Mine.walk_law
