import PyProof.Rows.All
import Wide.All
import OpenK.AllK
import Wide.FinOn
import PySem.Challenge.RW_qz0047_01
open PySem PySem.W PyProof.Rows
set_option Elab.async false
set_option linter.all false
namespace Mine

set_option maxRecDepth 100000 in
set_option maxHeartbeats 8000000 in
theorem looks : OpenLaw.wellSaid PySem.Challenge.rw_qz0047_01 = true := by
  rw [PySem.W.Fast.te9446332074065402090]
  kernel_rfl
def view : Program := { PySem.Challenge.pw_qz0047_01 with main := { PySem.Challenge.pw_qz0047_01.main with body := PySem.Challenge.pw_qz0047_01.main.body.take 1 ++ ((PySem.Challenge.pw_qz0047_01.main.body.drop 2).take 7 ++ ((PySem.Challenge.pw_qz0047_01.main.body.drop 10).take 16 ++ PySem.Challenge.pw_qz0047_01.main.body.drop 27)) } }
noncomputable def runT (st : SharedT → Thread → Option (SharedT × Thread)) (okT : Thread → Bool) : Nat → SharedT → Thread → Option SharedT
  | 0, _, _ => none
  | n + 1, s, t => match through t with
    | true => some s
    | false => match okT t with
      | false => none
      | true => match st s t with
        | some (s', t') => runT st okT n s' t'
        | none => none
theorem runT_of {p : Program} {w : World} {n₀ : Nat} {ann : Option Value} : ∀ (n : Nat) (s s₁ : SharedT) (t : Thread), runT (stepT (denote treeTable) p w) (stepOk n₀ ann) n s t = some s₁ → topRun treeTable p w n₀ ann n s.abs t = some s₁.abs
  | 0, _, _, _, h => by cases h
  | n + 1, s, s₁, t, h => by
    unfold runT at h
    unfold topRun
    cases ht : through t with
    | true => rw [ht] at h; cases h; rfl
    | false =>
      rw [ht] at h
      cases hk : stepOk n₀ ann t with
      | false => rw [hk] at h; cases h
      | true =>
        rw [hk] at h
        cases hs : stepT (denote treeTable) p w s t with
        | none => rw [hs] at h; cases h
        | some r => obtain ⟨s₂, t₂⟩ := r; rw [hs] at h; rw [stepT_spec hs]; exact runT_of n _ _ _ h
theorem left_of_run {p q : Program} {loose : List Str} {Xt : Shared → Bool} {α : Type} {Yf : Shared → α} {Ya : World → α} {N m₀ : Nat} {H₀ : Params → Heap} {g₀ : Array GenState} {d₀ : Drawn} {k₀ : Nat} {ann : Option Value} {T₀ : Params → BT} {l₀ : Params → Life}
    (opened : ∀ w : World, (fencedOpening treeTable p w N).map (fun s => (s.heap, s.gens, s.drawn, s.toks)) = some (H₀ w.params, g₀, d₀, k₀))
    (sized : ∀ P, ((H₀ P).isNs mainGlobals && g₀.size == 0) = true ∧ (H₀ P).objs.size = m₀ ∧ (H₀ P).nsMap mainGlobals "__annotations__" = ann)
    (treed : ∀ P, absHeap (T₀ P) m₀ (l₀ P) = H₀ P)
    (run : ∀ w os, (runT (stepT (denote treeTable) p w) (stepOk m₀ ann) N ⟨T₀ w.params, m₀, l₀ w.params, g₀, d₀, k₀, os⟩ (topStub p)).map (fun s =>
      (staticsOk (importedModules p.main.body) (H₀ w.params) s.abs.heap && namesBound p s.abs.heap && gensDone s.abs && laidKept (H₀ w.params) s.abs.heap, openSeen q loose (importedModules p.main.body) Xt true s.abs, Yf s.abs)) = some (true, openGood q loose, Ya w)) :
    LeftO p q loose Xt Yf Ya N := fun w => by
  obtain ⟨⟨H, g, d, k, os⟩, h, e⟩ := Option.map_eq_some_iff.mp (opened w)
  simp only [Prod.mk.injEq] at e
  obtain ⟨rfl, rfl, rfl, rfl⟩ := e
  unfold openEnds
  rw [h]
  show (topFrom treeTable p w N _).map _ = _
  unfold topFrom
  obtain ⟨a, b, c⟩ := sized w.params
  obtain ⟨s, hs, e⟩ := Option.map_eq_some_iff.mp (run w os)
  simp only [Prod.mk.injEq] at e
  obtain ⟨e1, e2, e3⟩ := e
  have hr := runT_of _ _ _ _ hs
  rw [show (SharedT.abs ⟨T₀ w.params, m₀, l₀ w.params, g, d, k, os⟩) = ⟨H₀ w.params, g, d, k, os⟩ from congrArg (fun H => Shared.mk H g d k os) (treed w.params)] at hr
  simp only [a, b, c, hr, Option.bind_some, e1, Option.map_some, e2, e3]
theorem opened : ∀ w : World, (fencedOpening treeTable PySem.Challenge.pw_qz0047_01 w 3556).map (fun s => (s.heap, s.gens, s.drawn, s.toks)) = some (boot_heap w.params, Array.mk [], boot_drawn, boot_toks) :=
  boot_open (by kernel_rfl) (by decide) (fun s => by kernel_rfl)
theorem sized : ∀ P : Params, ((boot_heap P).isNs mainGlobals && (Array.mk ([] : List GenState)).size == 0) = true ∧ (boot_heap P).objs.size = 11 ∧ (boot_heap P).nsMap mainGlobals "__annotations__" = some (Value.ref 6) :=
  fun P => ⟨by kernel_rfl, by kernel_rfl, by kernel_rfl⟩
noncomputable def insAll : List Obj → BT → Nat → BT
  | [], t, _ => t
  | o :: l, t, n => insAll l (t.ins n o) (n + 1)
noncomputable def tree0 (P : Params) : BT := insAll (boot_heap P).objs.toList .nil 0
theorem treed : ∀ P : Params, absHeap (tree0 P) 11 (boot_heap P).life = boot_heap P := fun P => by kernel_rfl
local macro_rules | `(tactic| o_law) => `(tactic| refine holds_law looks fun said => ?_)
local macro_rules | `(tactic| o_head $H) => `(tactic| (refine W.holds_open (q := view) (loose := [Str.ofString "MintError"]) (Xt := fun s => xlAt view [] s && recOk (RowW.records (OpenRow.toRowW PySem.Challenge.rw_qz0047_01.row)) s) (XP := XL view []) (Yf := Hook.obs $H) (Ya := Hook.val $H) (YP := Hook.says $H) (N := 3556) ?hl (Hook.of $H) (Hook.keeps $H) (fun s e => xl_of s (Bool.and_eq_true_iff.mp e).1) XL.keeps (by rfl) (by rfl) (by rfl) (fun s e => recFacts_of (Bool.and_eq_true_iff.mp e).2) (by rfl) (by first | assumption | decide +kernel) (by decide +kernel) ⟨rfl, rfl, rfl, rfl, rfl, by decide +kernel⟩ ?hw ?hc; (case hl => refine left_of_run (l₀ := fun P => (boot_heap P).life) opened sized treed ?_; intro w os; rw [PySem.W.Fast.te10156331382660048174, PySem.W.Fast.te11892475500146522536, PySem.W.Fast.te14364793385576792824, PySem.W.Fast.te6613529449190102663, PySem.W.Fast.te4187177175401517315, PySem.W.Fast.te5923862056798008813]; kernel_rfl)))
set_option maxRecDepth 100000 in
set_option maxHeartbeats 8000000 in
open_top hd for PySem.Challenge.rw_qz0047_01
local macro_rules | `(tactic| walk_at $s:str) => `(tactic| k_extra $s)
local macro_rules | `(tactic| k_room) => `(tactic| k_extra "my room")
local macro_rules | `(tactic| k_all) => `(tactic| k_extra "my all")
local macro_rules | `(tactic| k_ne) => `(tactic| k_extra "my ne")
local macro_rules | `(tactic| k_mem) => `(tactic| k_dflt assumption)
local macro_rules | `(tactic| k_lt $h:ident) => `(tactic| (replace $h := allLt_of $h; simp only [AllLt, and_true] at $h:ident; (have hq9 := $h); repeat ((have hp9 := And.left hq9); replace hq9 := And.right hq9)))

def Fn (w : World) (mean : ExcName → Option Value) (mg mb : Str → Option Value) (f : Addr) (d : Nat) (args : List Value) (news : List (Addr × Obj)) (Post : Value → List (Addr × Obj) → Prop) : Prop :=
  ∀ (dp un : Nat) (gd : Option (List Code)) (cn : Str) (cs : Scope) (a : Addr) (ccd : Value) (cl : List (Str × Addr)) (outer : List Env) (A₀ : Around) (base h₀ : Heap) (L : Addr) (m : Str → Option Value) (s : Shared) (Q E : Value → Shared → Prop),
    Below A₀ base outer h₀ → Fr h₀ L s.heap m → (hd.heap_1 w.params).In h₀ → News h₀ L s.heap news → Top view (looseW view [Str.ofString "MintError"]) mean mg mb h₀ → cs.kind = .function →
    dp + d < recursionLimit → un + 8 * d < cLine →
    (∀ (v : Value) (nx : List (Addr × Obj)) (h' : Heap) (tk' : Nat), Post v nx → Fr h₀ L h' m → News h₀ L h' nx → Q v { s with heap := h', toks := tk' }) →
    wpAny (model PySem.Challenge.rw_qz0047_01.row.prog w) (ktrTop dp un gd cn cs L a ccd cl outer) (call (.ref f) args) Q E s

theorem Fn.use {w : World} {mean : ExcName → Option Value} {mg mb : Str → Option Value} {f : Addr} {d : Nat} {args : List Value} {news : List (Addr × Obj)} {Post : Value → List (Addr × Obj) → Prop}
    {dp un : Nat} {gd : Option (List Code)} {cn : Str} {cs : Scope} {a : Addr} {ccd : Value} {cl : List (Str × Addr)} {outer : List Env} {A₀ : Around} {base h₀ : Heap} {L : Addr} {m : Str → Option Value} {s : Shared} {Q E : Value → Shared → Prop}
    (C : Fn w mean mg mb f d args news Post) (B : Below A₀ base outer h₀) (F : Fr h₀ L s.heap m) (X : (hd.heap_1 w.params).In h₀) (N : News h₀ L s.heap news) (T : Top view (looseW view [Str.ofString "MintError"]) mean mg mb h₀) (hk : cs.kind = .function)
    (hd : dp + d < recursionLimit) (hu : un + 8 * d < cLine)
    (h : ∀ (v : Value) (nx : List (Addr × Obj)) (h' : Heap) (tk' : Nat), Post v nx → Fr h₀ L h' m → News h₀ L h' nx → Q v { s with heap := h', toks := tk' }) :
    wpAny (model PySem.Challenge.rw_qz0047_01.row.prog w) (ktrTop dp un gd cn cs L a ccd cl outer) (call (.ref f) args) Q E s :=
  C dp un gd cn cs a ccd cl outer A₀ base h₀ L m s Q E B F X N T hk hd hu h

theorem room0 {a d R : Nat} (h : a + d < R) : a < R := Nat.lt_of_le_of_lt (Nat.le_add_right a d) h
theorem room1 {a b d R : Nat} (h : a + d < R) (e : Nat.ble b d = true) : a + b < R := Nat.lt_of_le_of_lt (Nat.add_le_add_left (Nat.le_of_ble_eq_true e) a) h
theorem room2 {a b c d R : Nat} (h : a + d < R) (e : Nat.ble (b + c) d = true) : a + b + c < R := by rw [Nat.add_assoc]; exact room1 h e
theorem room3 {a b c f d R : Nat} (h : a + d < R) (e : Nat.ble (b + c + f) d = true) : a + b + c + f < R := by rw [Nat.add_assoc, Nat.add_assoc, ← Nat.add_assoc b]; exact room1 h e
theorem gen_toks {M : Model} {A : Around} {t : Sem Flow} {Q : Flow → Shared → Prop} {E : Value → Shared → Prop} {h : Heap} {g : Array GenState} {d : Drawn} {k : Nat} {os : OsState}
    (H : ∀ tk : Nat, wpAny M A t Q E ⟨h, g, d, tk, os⟩) : wpAny M A t Q E ⟨h, g, d, k, os⟩ := H k
theorem my_item {prog : Program} {w : World} {A : Around} {E : Value → Shared → Prop} {s : Shared} {h₀ : Heap} {L l : Addr} {news : List (Addr × Obj)} {value slice : PySem.Expr} {vs : List Value} {n : Nat} {k : Int} {u : Tok} {v : Value} {Q : Value → Shared → Prop}
    (N : News h₀ L s.heap news) (hm : (l, listOf vs.toArray n) ∈ news) (h0 : 0 ≤ k) (hhi : k < 2 ^ 63) (hx : vs[k.toNat]? = some v) (h : Q v s)
    (hs : subscripted slice false (.ref l) (.int k u) = operate [.ref l, .int k u] (getItem (.ref l) (.int k u)) := by with_unfolding_all rfl) :
    wpAny (model prog w) A (subscriptTail value slice (.ref l) (.int k u)) Q E s :=
  have hl : s.heap.IsList l vs.toArray := N.isList hm
  tail_any hl.typeIs slot_list_getitem.lookup (wpAny_getItem_list hl h0 hhi (by simpa using hx) h) hs
theorem bit_nat {c : Int} (h : 0 ≤ c ∧ c ≤ 1) : c.natAbs < 2 ^ 64 := by omega
theorem my_log {x : Int} (h0 : 0 < x) (h1 : x < 2 ^ 128) : x.natAbs.log2 < 9000 := by
  have : x.natAbs < 2 ^ 128 := by omega
  exact Nat.lt_of_lt_of_le ((Nat.log2_lt (by omega)).mpr this) (by decide)

theorem my_ne1 {led : List (Addr × Obj)} {d : Addr} (h : ∀ p ∈ led, p.1 < d) : ∀ p ∈ led, p.1 ≠ d := fun p hp => Nat.ne_of_lt (h p hp)
theorem my_ne2 {led : List (Addr × Obj)} {d : Addr} (h : AllLt d led) : ∀ p ∈ led, p.1 ≠ d := by
  induction led with
  | nil => exact fun _ hp => nomatch hp
  | cons q r ih =>
    intro p hp
    rcases List.mem_cons.mp hp with rfl | hp
    · exact Nat.ne_of_lt h.1
    · exact ih h.2 p hp
def Sz (size W : Int) : Prop := (size = 8 ∧ W = 256) ∨ (size = 16 ∧ W = 65536) ∨ (size = 32 ∧ W = 4294967296) ∨ (size = 64 ∧ W = 18446744073709551616)
theorem Sz.lo {size W : Int} (h : Sz size W) : 8 ≤ size ∧ size ≤ 64 := by unfold Sz at h; omega
theorem Sz.pos {size W : Int} (h : Sz size W) : 256 ≤ W ∧ W ≤ 18446744073709551616 ∧ W % 256 = 0 := by unfold Sz at h; omega
theorem Sz.pow {size W : Int} (h : Sz size W) : (2 : Int) ^ size.toNat = W := by
  rcases h with ⟨rfl, rfl⟩ | ⟨rfl, rfl⟩ | ⟨rfl, rfl⟩ | ⟨rfl, rfl⟩ <;> rfl
theorem Sz.half {size W : Int} (h : Sz size W) : (2 : Int) ^ (size - 1).toNat * 2 = W := by
  rcases h with ⟨rfl, rfl⟩ | ⟨rfl, rfl⟩ | ⟨rfl, rfl⟩ | ⟨rfl, rfl⟩ <;> rfl
theorem Sz.eight : Sz 8 256 := .inl ⟨rfl, rfl⟩
theorem mask_val {size W : Int} (h : Sz size W) : 1 * (2 : Int) ^ size.toNat - 1 = W - 1 := by rw [h.pow, Int.one_mul]
theorem wrap_val {size W : Int} (h : Sz size W) (x : Int) : Builtin.bitAnd x (W - 1) = x % W := by rw [← h.pow, kbt_mask]
theorem bit_val (x : Int) (n : Nat) : Builtin.bitAnd (x.fdiv (2 ^ n)) 1 = x / 2 ^ n % 2 := by
  rw [bitAnd_m1, Int.fdiv_eq_ediv_of_nonneg _ (Int.le_of_lt (kbt_pos n))]
set_option maxRecDepth 100000 in
set_option maxHeartbeats 8000000 in
theorem mask_c (w : World) (mean : ExcName → Option Value) (mg mb : Str → Option Value) (news : List (Addr × Obj)) (size W : Int) (ts : Tok) (hs : Sz size W) :
    Fn w mean mg mb 68 1 [.int size ts] news (fun v nx => ∃ t, v = .int (W - 1) t ∧ nx = news) := by
  unfold Fn
  k_with_none
  k_with "my room" => ((try dsimp only [depth_under_make, depth_under_kw, depth_in1, depth_deeper, depth_caller, ktrTop]); first | ((with_reducible rename _ + _ < recursionLimit => hRoom9); first | exact room2 hRoom9 rfl | exact room3 hRoom9 rfl | exact room1 hRoom9 rfl | exact room0 hRoom9) | decide)
  k_with "my units" => ((try dsimp only [units_in1, units_deeper, units_under_make, units_caller, ktrTop]); first | ((with_reducible rename _ + _ < cLine => hUnits9); first | exact room2 hUnits9 rfl | exact room3 hUnits9 rfl | exact room1 hUnits9 rfl | exact room0 hUnits9) | decide)
  k_with "subscriptTail Name Constant ref int" => (k_here; (with_reducible show wpAny _ _ (subscriptTail _ _ (Value.ref _) (Value.int _ _)) _ _ _); k_dflt (refine' my_item ?k1 ?k2 ?k3 ?k4 ?k5 ?_ ?k6; (case k1 => k_asm); (case k2 => k_mem); (case k3 => decide); (case k4 => decide); (case k5 => rfl); (case k6 => with_unfolding_all rfl); k_whole))
  k_with "binaryOp FloorDiv int int" => (k_here; (with_reducible refine floordiv_int ?kbe ?_ (Or.inl (PyProof.noPylong_of_log2 ?kbp))); (case kbe => first | decide | omega); (case kbp => (first | decide +kernel | exact my_log (by omega) (by omega))))
  k_with "my use" => ((case B => k_asm); (case F => k_asm); (case X => k_asm); (case N => k_asm); (case T => k_asm); (case hk => first | exact rfl | assumption); (case hd => walk_at "my room"); (case hu => walk_at "my units"); k_whole)
  k_with "my use2" => ((case B => k_asm); (case F => k_asm); (case X => k_asm); (case T => k_asm); (case hk => first | exact rfl | assumption); (case hd => walk_at "my room"); (case hu => walk_at "my units"); k_whole)
  k_with "binaryOp LShift int int" => (k_here; (with_reducible refine lshift_int_small ?kb1 ?kb2 ?kb3 ?_); (case kb1 => first | decide | omega); (case kb2 => first | decide | omega); (case kb3 => first | decide | exact bit_nat (by assumption) | omega))
  k_with "my enterC" => (refine' code_defC ?k1 ?k2 ?k3 ?k4 ?k5 ?kA ?kF ?kK ?k6 ?k7 ?k8 ?k9 ?kB ?kD ?_ ?c2 ?c3 ?c4; (case kA => exact rfl); (case kF => exact rfl); (case kK => assumption); (case k1 => k_asm); (case k2 => k_asm); (case k3 => k_asm); (case k4 => k_asm); (case k5 => k_asm); (case k6 => k_is); (case k7 => k_is); (case k8 => walk_at "my room"); (case k9 => exact BindsTo.of_eq rfl); (case kB => exact rfl); (case kD => decide +kernel); (case c2 => exact rfl); (case c3 => exact rfl); (case c4 => exact rfl); k_whole; intro g' L' h' tk' cells' FG' F' N' Y' B' X' T' l1; (try k_lt l1); k_cells Y'; (try simp only [List.cons_append, List.nil_append] at N'); (try dsimp only); (try k_lift B'); (try k_fold))
  k_with "my all" => (first | with_reducible assumption | exact my_ne1 (by with_reducible assumption) | (refine my_ne2 ?_; first | with_reducible assumption | exact And.right (by with_reducible assumption) | exact And.right (And.right (by with_reducible assumption)) | exact And.right (And.right (And.right (by with_reducible assumption)))))
  k_with "my ne" => (refine neN ?_; (try dsimp only); first | assumption | exact Nat.ne_of_lt (by assumption) | exact Nat.ne_of_gt (by assumption) | exact Ne.symm (by assumption))
  k_with "execs cons" => (k_here; (refine gen_toks ?_); intro tk9; (try dsimp only); refine wpAny_execs_cons ?_)
  k_with "eval BinOp" => (k_dflt (k_fold; walk1))
  k_with "eval Call" => (k_dflt (k_fold; walk1))
  k_with "eval Subscript" => (k_dflt (k_fold; walk1))
  k_with "eval List" => (k_dflt (k_fold; walk1))
  k_with "eval Tuple" => (k_dflt (k_fold; walk1))
  k_with "eval IfExp" => (k_dflt (k_fold; walk1))
  k_with "spliced" => (k_dflt (k_fold; walk1))
  k_with "eval Compare" => (k_dflt (k_fold; walk1))
  k_with "eval Call Attribute" => (k_dflt (k_fold; walk1))
  k_fill
  intro dp un gd cn cs ad ccd cl outer A₀ base h₀ L m s Q E B F X N T hk hd hu hret
  have hlo := hs.lo
  refine wpAny_call ?_
  k_dflt cell_enter
  k_steps
  all_goals (
    refine' hret _ _ _ _ ?P ?F ?N
    case F => k_asm
    case N => k_asm
    case P => exact ⟨_, by rw [mask_val hs], rfl⟩)
set_option maxRecDepth 100000 in
set_option maxHeartbeats 8000000 in
theorem wrap_c (w : World) (mean : ExcName → Option Value) (mg mb : Str → Option Value) (news : List (Addr × Obj)) (x size W : Int) (tx ts : Tok) (hs : Sz size W) :
    Fn w mean mg mb 75 2 [.int x tx, .int size ts] news (fun v nx => ∃ t, v = .int (x % W) t ∧ nx = news) := by
  unfold Fn
  k_with_none
  k_with "my room" => ((try dsimp only [depth_under_make, depth_under_kw, depth_in1, depth_deeper, depth_caller, ktrTop]); first | ((with_reducible rename _ + _ < recursionLimit => hRoom9); first | exact room2 hRoom9 rfl | exact room3 hRoom9 rfl | exact room1 hRoom9 rfl | exact room0 hRoom9) | decide)
  k_with "my units" => ((try dsimp only [units_in1, units_deeper, units_under_make, units_caller, ktrTop]); first | ((with_reducible rename _ + _ < cLine => hUnits9); first | exact room2 hUnits9 rfl | exact room3 hUnits9 rfl | exact room1 hUnits9 rfl | exact room0 hUnits9) | decide)
  k_with "subscriptTail Name Constant ref int" => (k_here; (with_reducible show wpAny _ _ (subscriptTail _ _ (Value.ref _) (Value.int _ _)) _ _ _); k_dflt (refine' my_item ?k1 ?k2 ?k3 ?k4 ?k5 ?_ ?k6; (case k1 => k_asm); (case k2 => k_mem); (case k3 => decide); (case k4 => decide); (case k5 => rfl); (case k6 => with_unfolding_all rfl); k_whole))
  k_with "binaryOp FloorDiv int int" => (k_here; (with_reducible refine floordiv_int ?kbe ?_ (Or.inl (PyProof.noPylong_of_log2 ?kbp))); (case kbe => first | decide | omega); (case kbp => (first | decide +kernel | exact my_log (by omega) (by omega))))
  k_with "my use" => ((case B => k_asm); (case F => k_asm); (case X => k_asm); (case N => k_asm); (case T => k_asm); (case hk => first | exact rfl | assumption); (case hd => walk_at "my room"); (case hu => walk_at "my units"); k_whole)
  k_with "my use2" => ((case B => k_asm); (case F => k_asm); (case X => k_asm); (case T => k_asm); (case hk => first | exact rfl | assumption); (case hd => walk_at "my room"); (case hu => walk_at "my units"); k_whole)
  k_with "binaryOp LShift int int" => (k_here; (with_reducible refine lshift_int_small ?kb1 ?kb2 ?kb3 ?_); (case kb1 => first | decide | omega); (case kb2 => first | decide | omega); (case kb3 => first | decide | exact bit_nat (by assumption) | omega))
  k_with "my enterC" => (refine' code_defC ?k1 ?k2 ?k3 ?k4 ?k5 ?kA ?kF ?kK ?k6 ?k7 ?k8 ?k9 ?kB ?kD ?_ ?c2 ?c3 ?c4; (case kA => exact rfl); (case kF => exact rfl); (case kK => assumption); (case k1 => k_asm); (case k2 => k_asm); (case k3 => k_asm); (case k4 => k_asm); (case k5 => k_asm); (case k6 => k_is); (case k7 => k_is); (case k8 => walk_at "my room"); (case k9 => exact BindsTo.of_eq rfl); (case kB => exact rfl); (case kD => decide +kernel); (case c2 => exact rfl); (case c3 => exact rfl); (case c4 => exact rfl); k_whole; intro g' L' h' tk' cells' FG' F' N' Y' B' X' T' l1; (try k_lt l1); k_cells Y'; (try simp only [List.cons_append, List.nil_append] at N'); (try dsimp only); (try k_lift B'); (try k_fold))
  k_with "my all" => (first | with_reducible assumption | exact my_ne1 (by with_reducible assumption) | (refine my_ne2 ?_; first | with_reducible assumption | exact And.right (by with_reducible assumption) | exact And.right (And.right (by with_reducible assumption)) | exact And.right (And.right (And.right (by with_reducible assumption)))))
  k_with "my ne" => (refine neN ?_; (try dsimp only); first | assumption | exact Nat.ne_of_lt (by assumption) | exact Nat.ne_of_gt (by assumption) | exact Ne.symm (by assumption))
  k_with "execs cons" => (k_here; (refine gen_toks ?_); intro tk9; (try dsimp only); refine wpAny_execs_cons ?_)
  k_with "eval BinOp" => (k_dflt (k_fold; walk1))
  k_with "eval Call" => (k_dflt (k_fold; walk1))
  k_with "eval Subscript" => (k_dflt (k_fold; walk1))
  k_with "eval List" => (k_dflt (k_fold; walk1))
  k_with "eval Tuple" => (k_dflt (k_fold; walk1))
  k_with "eval IfExp" => (k_dflt (k_fold; walk1))
  k_with "spliced" => (k_dflt (k_fold; walk1))
  k_with "eval Compare" => (k_dflt (k_fold; walk1))
  k_with "eval Call Attribute" => (k_dflt (k_fold; walk1))
  k_with "call ref" => (k_here; (with_reducible show wpAny _ _ (call (Value.ref 68) [Value.int _ _]) _ _ _); k_dflt (refine' Fn.use (mask_c _ _ _ _ _ _ _ _ ?hs) ?B ?F ?X ?N ?T ?hk ?hd ?hu ?_; (case hs => first | assumption | exact Sz.eight); walk_at "my use"); intro v9 x9 h9 tk9 P9 F9 N9; (obtain ⟨t9, e9, f9⟩ := P9); subst e9; (replace f9 := Eq.symm f9); subst f9; (try k_sweep))
  k_fill
  intro dp un gd cn cs ad ccd cl outer A₀ base h₀ L m s Q E B F X N T hk hd hu hret
  have hlo := hs.lo
  refine wpAny_call ?_
  k_dflt cell_enter
  k_steps
  all_goals (
    refine' hret _ _ _ _ ?P ?F ?N
    case F => k_asm
    case N => k_asm
    case P => exact ⟨_, by rw [wrap_val hs], rfl⟩)
set_option maxRecDepth 100000 in
set_option maxHeartbeats 8000000 in
theorem bit_c (w : World) (mean : ExcName → Option Value) (mg mb : Str → Option Value) (news : List (Addr × Obj)) (x k : Int) (tx tk : Tok) (h0 : 0 ≤ k) (h1 : k ≤ 64) :
    Fn w mean mg mb 82 1 [.int x tx, .int k tk] news (fun v nx => ∃ t, v = .int (x / 2 ^ k.toNat % 2) t ∧ nx = news) := by
  unfold Fn
  k_with_none
  k_with "my room" => ((try dsimp only [depth_under_make, depth_under_kw, depth_in1, depth_deeper, depth_caller, ktrTop]); first | ((with_reducible rename _ + _ < recursionLimit => hRoom9); first | exact room2 hRoom9 rfl | exact room3 hRoom9 rfl | exact room1 hRoom9 rfl | exact room0 hRoom9) | decide)
  k_with "my units" => ((try dsimp only [units_in1, units_deeper, units_under_make, units_caller, ktrTop]); first | ((with_reducible rename _ + _ < cLine => hUnits9); first | exact room2 hUnits9 rfl | exact room3 hUnits9 rfl | exact room1 hUnits9 rfl | exact room0 hUnits9) | decide)
  k_with "subscriptTail Name Constant ref int" => (k_here; (with_reducible show wpAny _ _ (subscriptTail _ _ (Value.ref _) (Value.int _ _)) _ _ _); k_dflt (refine' my_item ?k1 ?k2 ?k3 ?k4 ?k5 ?_ ?k6; (case k1 => k_asm); (case k2 => k_mem); (case k3 => decide); (case k4 => decide); (case k5 => rfl); (case k6 => with_unfolding_all rfl); k_whole))
  k_with "binaryOp FloorDiv int int" => (k_here; (with_reducible refine floordiv_int ?kbe ?_ (Or.inl (PyProof.noPylong_of_log2 ?kbp))); (case kbe => first | decide | omega); (case kbp => (first | decide +kernel | exact my_log (by omega) (by omega))))
  k_with "my use" => ((case B => k_asm); (case F => k_asm); (case X => k_asm); (case N => k_asm); (case T => k_asm); (case hk => first | exact rfl | assumption); (case hd => walk_at "my room"); (case hu => walk_at "my units"); k_whole)
  k_with "my use2" => ((case B => k_asm); (case F => k_asm); (case X => k_asm); (case T => k_asm); (case hk => first | exact rfl | assumption); (case hd => walk_at "my room"); (case hu => walk_at "my units"); k_whole)
  k_with "binaryOp LShift int int" => (k_here; (with_reducible refine lshift_int_small ?kb1 ?kb2 ?kb3 ?_); (case kb1 => first | decide | omega); (case kb2 => first | decide | omega); (case kb3 => first | decide | exact bit_nat (by assumption) | omega))
  k_with "my enterC" => (refine' code_defC ?k1 ?k2 ?k3 ?k4 ?k5 ?kA ?kF ?kK ?k6 ?k7 ?k8 ?k9 ?kB ?kD ?_ ?c2 ?c3 ?c4; (case kA => exact rfl); (case kF => exact rfl); (case kK => assumption); (case k1 => k_asm); (case k2 => k_asm); (case k3 => k_asm); (case k4 => k_asm); (case k5 => k_asm); (case k6 => k_is); (case k7 => k_is); (case k8 => walk_at "my room"); (case k9 => exact BindsTo.of_eq rfl); (case kB => exact rfl); (case kD => decide +kernel); (case c2 => exact rfl); (case c3 => exact rfl); (case c4 => exact rfl); k_whole; intro g' L' h' tk' cells' FG' F' N' Y' B' X' T' l1; (try k_lt l1); k_cells Y'; (try simp only [List.cons_append, List.nil_append] at N'); (try dsimp only); (try k_lift B'); (try k_fold))
  k_with "my all" => (first | with_reducible assumption | exact my_ne1 (by with_reducible assumption) | (refine my_ne2 ?_; first | with_reducible assumption | exact And.right (by with_reducible assumption) | exact And.right (And.right (by with_reducible assumption)) | exact And.right (And.right (And.right (by with_reducible assumption)))))
  k_with "my ne" => (refine neN ?_; (try dsimp only); first | assumption | exact Nat.ne_of_lt (by assumption) | exact Nat.ne_of_gt (by assumption) | exact Ne.symm (by assumption))
  k_with "execs cons" => (k_here; (refine gen_toks ?_); intro tk9; (try dsimp only); refine wpAny_execs_cons ?_)
  k_with "eval BinOp" => (k_dflt (k_fold; walk1))
  k_with "eval Call" => (k_dflt (k_fold; walk1))
  k_with "eval Subscript" => (k_dflt (k_fold; walk1))
  k_with "eval List" => (k_dflt (k_fold; walk1))
  k_with "eval Tuple" => (k_dflt (k_fold; walk1))
  k_with "eval IfExp" => (k_dflt (k_fold; walk1))
  k_with "spliced" => (k_dflt (k_fold; walk1))
  k_with "eval Compare" => (k_dflt (k_fold; walk1))
  k_with "eval Call Attribute" => (k_dflt (k_fold; walk1))
  k_with "call ref" => (k_here; (with_reducible show wpAny _ _ (call (Value.ref 68) [Value.int _ _]) _ _ _); k_dflt (refine' Fn.use (mask_c _ _ _ _ _ _ _ _ ?hs) ?B ?F ?X ?N ?T ?hk ?hd ?hu ?_; (case hs => first | assumption | exact Sz.eight); walk_at "my use"); intro v9 x9 h9 tk9 P9 F9 N9; (obtain ⟨t9, e9, f9⟩ := P9); subst e9; (replace f9 := Eq.symm f9); subst f9; (try k_sweep))
  k_fill
  intro dp un gd cn cs ad ccd cl outer A₀ base h₀ L m s Q E B F X N T hk hd hu hret
  refine wpAny_call ?_
  k_dflt cell_enter
  k_steps
  all_goals (
    refine' hret _ _ _ _ ?P ?F ?N
    case F => k_asm
    case N => k_asm
    case P => exact ⟨_, by rw [bit_val], rfl⟩)

def pc (x : Int) : Int := x % 2 + x / 2 % 2 + x / 4 % 2 + x / 8 % 2 + x / 16 % 2 + x / 32 % 2 + x / 64 % 2 + x / 128 % 2
theorem pc_all : ∀ n : Fin 256, 0 < n.val → pc (Builtin.bitAnd (n.val : Int) ((n.val : Int) - 1)) + 1 = pc (n.val : Int) := by decide +kernel
theorem pc_zero : pc 0 = 0 := by decide
theorem pc_step {r : Int} (h0 : 0 < r) (h1 : r < 256) : pc (Builtin.bitAnd r (r - 1)) + 1 = pc r ∧ 0 ≤ Builtin.bitAnd r (r - 1) ∧ Builtin.bitAnd r (r - 1) < r := by
  have h2 := bitAnd_range r (y := r - 1) (by omega)
  have h3 := pc_all ⟨r.toNat, by omega⟩ (by show 0 < r.toNat; omega)
  have e : ((r.toNat : Nat) : Int) = r := Int.toNat_of_nonneg (by omega)
  simp only [e] at h3
  exact ⟨h3, h2.1, by omega⟩
theorem ones_turn {x r c : Int} (hp : (0 ≤ r ∧ r < 256) ∧ 0 ≤ c ∧ c + pc r = pc (x % 256)) (h : 0 < r) : (0 ≤ Builtin.bitAnd r (r - 1) ∧ Builtin.bitAnd r (r - 1) < 256) ∧ 0 ≤ c + 1 ∧ c + 1 + pc (Builtin.bitAnd r (r - 1)) = pc (x % 256) := by
  have := pc_step h hp.1.2
  omega
theorem ones_done {x r c : Int} (h : c + pc r = pc (x % 256)) (h0 : 0 ≤ r) (h1 : ¬ 0 < r) : c = pc (x % 256) := by
  have : r = 0 := by omega
  subst this
  rw [pc_zero] at h
  omega
theorem ones_less {r : Int} (h : 0 < r) (h1 : r < 256) : (Builtin.bitAnd r (r - 1)).toNat < r.toNat := by
  have := pc_step h h1
  omega
set_option maxRecDepth 100000 in
set_option maxHeartbeats 8000000 in
theorem ones_c (w : World) (mean : ExcName → Option Value) (mg mb : Str → Option Value) (news : List (Addr × Obj)) (x : Int) (tx ts : Tok) :
    Fn w mean mg mb 89 3 [.int x tx, .int 8 ts] news (fun v nx => ∃ t, v = .int (pc (x % 256)) t ∧ nx = news) := by
  unfold Fn
  k_with_none
  k_with "my room" => ((try dsimp only [depth_under_make, depth_under_kw, depth_in1, depth_deeper, depth_caller, ktrTop]); first | ((with_reducible rename _ + _ < recursionLimit => hRoom9); first | exact room2 hRoom9 rfl | exact room3 hRoom9 rfl | exact room1 hRoom9 rfl | exact room0 hRoom9) | decide)
  k_with "my units" => ((try dsimp only [units_in1, units_deeper, units_under_make, units_caller, ktrTop]); first | ((with_reducible rename _ + _ < cLine => hUnits9); first | exact room2 hUnits9 rfl | exact room3 hUnits9 rfl | exact room1 hUnits9 rfl | exact room0 hUnits9) | decide)
  k_with "subscriptTail Name Constant ref int" => (k_here; (with_reducible show wpAny _ _ (subscriptTail _ _ (Value.ref _) (Value.int _ _)) _ _ _); k_dflt (refine' my_item ?k1 ?k2 ?k3 ?k4 ?k5 ?_ ?k6; (case k1 => k_asm); (case k2 => k_mem); (case k3 => decide); (case k4 => decide); (case k5 => rfl); (case k6 => with_unfolding_all rfl); k_whole))
  k_with "binaryOp FloorDiv int int" => (k_here; (with_reducible refine floordiv_int ?kbe ?_ (Or.inl (PyProof.noPylong_of_log2 ?kbp))); (case kbe => first | decide | omega); (case kbp => (first | decide +kernel | exact my_log (by omega) (by omega))))
  k_with "my use" => ((case B => k_asm); (case F => k_asm); (case X => k_asm); (case N => k_asm); (case T => k_asm); (case hk => first | exact rfl | assumption); (case hd => walk_at "my room"); (case hu => walk_at "my units"); k_whole)
  k_with "my use2" => ((case B => k_asm); (case F => k_asm); (case X => k_asm); (case T => k_asm); (case hk => first | exact rfl | assumption); (case hd => walk_at "my room"); (case hu => walk_at "my units"); k_whole)
  k_with "binaryOp LShift int int" => (k_here; (with_reducible refine lshift_int_small ?kb1 ?kb2 ?kb3 ?_); (case kb1 => first | decide | omega); (case kb2 => first | decide | omega); (case kb3 => first | decide | exact bit_nat (by assumption) | omega))
  k_with "my enterC" => (refine' code_defC ?k1 ?k2 ?k3 ?k4 ?k5 ?kA ?kF ?kK ?k6 ?k7 ?k8 ?k9 ?kB ?kD ?_ ?c2 ?c3 ?c4; (case kA => exact rfl); (case kF => exact rfl); (case kK => assumption); (case k1 => k_asm); (case k2 => k_asm); (case k3 => k_asm); (case k4 => k_asm); (case k5 => k_asm); (case k6 => k_is); (case k7 => k_is); (case k8 => walk_at "my room"); (case k9 => exact BindsTo.of_eq rfl); (case kB => exact rfl); (case kD => decide +kernel); (case c2 => exact rfl); (case c3 => exact rfl); (case c4 => exact rfl); k_whole; intro g' L' h' tk' cells' FG' F' N' Y' B' X' T' l1; (try k_lt l1); k_cells Y'; (try simp only [List.cons_append, List.nil_append] at N'); (try dsimp only); (try k_lift B'); (try k_fold))
  k_with "my all" => (first | with_reducible assumption | exact my_ne1 (by with_reducible assumption) | (refine my_ne2 ?_; first | with_reducible assumption | exact And.right (by with_reducible assumption) | exact And.right (And.right (by with_reducible assumption)) | exact And.right (And.right (And.right (by with_reducible assumption)))))
  k_with "my ne" => (refine neN ?_; (try dsimp only); first | assumption | exact Nat.ne_of_lt (by assumption) | exact Nat.ne_of_gt (by assumption) | exact Ne.symm (by assumption))
  k_with "execs cons" => (k_here; (refine gen_toks ?_); intro tk9; (try dsimp only); refine wpAny_execs_cons ?_)
  k_with "eval BinOp" => (k_dflt (k_fold; walk1))
  k_with "eval Call" => (k_dflt (k_fold; walk1))
  k_with "eval Subscript" => (k_dflt (k_fold; walk1))
  k_with "eval List" => (k_dflt (k_fold; walk1))
  k_with "eval Tuple" => (k_dflt (k_fold; walk1))
  k_with "eval IfExp" => (k_dflt (k_fold; walk1))
  k_with "spliced" => (k_dflt (k_fold; walk1))
  k_with "eval Compare" => (k_dflt (k_fold; walk1))
  k_with "eval Call Attribute" => (k_dflt (k_fold; walk1))
  k_with "call ref" => (k_here; (with_reducible show wpAny _ _ (call (Value.ref 68) [Value.int _ _]) _ _ _); k_dflt (refine' Fn.use (mask_c _ _ _ _ _ _ _ _ ?hs) ?B ?F ?X ?N ?T ?hk ?hd ?hu ?_; (case hs => first | assumption | exact Sz.eight); walk_at "my use"); intro v9 x9 h9 tk9 P9 F9 N9; (obtain ⟨t9, e9, f9⟩ := P9); subst e9; (replace f9 := Eq.symm f9); subst f9; (try k_sweep))
  k_with "call ref" => (k_here; (with_reducible show wpAny _ _ (call (Value.ref 75) [Value.int _ _, Value.int _ _]) _ _ _); k_dflt (refine' Fn.use (wrap_c _ _ _ _ _ _ _ _ _ _ ?hs) ?B ?F ?X ?N ?T ?hk ?hd ?hu ?_; (case hs => first | assumption | exact Sz.eight); walk_at "my use"); intro v9 x9 h9 tk9 P9 F9 N9; (obtain ⟨t9, e9, f9⟩ := P9); subst e9; (replace f9 := Eq.symm f9); subst f9; (try k_sweep))
  k_with "call ref" => (k_here; (with_reducible show wpAny _ _ (call (Value.ref 82) [Value.int _ _, Value.int _ _]) _ _ _); k_dflt (refine' Fn.use (bit_c _ _ _ _ _ _ _ _ _ ?h0 ?h1) ?B ?F ?X ?N ?T ?hk ?hd ?hu ?_; (case h0 => omega); (case h1 => omega); walk_at "my use"); intro v9 x9 h9 tk9 P9 F9 N9; (obtain ⟨t9, e9, f9⟩ := P9); subst e9; (replace f9 := Eq.symm f9); subst f9; (try k_sweep))
  k_fill
  intro dp un gd cn cs ad ccd cl outer A₀ base h₀ L m s Q E B F X N T hk hd hu hret
  k_with "exec While Compare cons nil" => k_while (fun (_ : List Int) r c => (0 ≤ r ∧ r < 256) ∧ 0 ≤ c ∧ c + pc r = pc (x % 256)) (fun (_ : List Int) r _ => r.toNat) "rest" "count"
  refine wpAny_call ?_
  k_dflt cell_enter
  k_steps
  · refine ksw_end ⟨_, _, _, _⟩ (by assumption) (by assumption) (fun p hp => hp) trivial (by kst_all) (by ksw_same) ?_ ?_
    · exact ones_turn ⟨⟨by omega, by omega⟩, by omega, by omega⟩ (by omega)
    · exact ones_less (by omega) (by omega)
  · refine' hret _ _ _ _ ?P ?F ?N
    case F => k_asm
    case N => k_asm
    case P => exact ⟨_, by congr 1; exact ones_done (by assumption) (by omega) (by omega), rfl⟩
def evn (x : Int) : Int := 1 - (pc (x % 256)) % 2
set_option maxRecDepth 100000 in
set_option maxHeartbeats 8000000 in
theorem parity_c (w : World) (mean : ExcName → Option Value) (mg mb : Str → Option Value) (news : List (Addr × Obj)) (x : Int) (tx : Tok) :
    Fn w mean mg mb 96 4 [.int x tx] news (fun v nx => ∃ t, v = .int (evn x) t ∧ nx = news) := by
  unfold Fn
  k_with_none
  k_with "my room" => ((try dsimp only [depth_under_make, depth_under_kw, depth_in1, depth_deeper, depth_caller, ktrTop]); first | ((with_reducible rename _ + _ < recursionLimit => hRoom9); first | exact room2 hRoom9 rfl | exact room3 hRoom9 rfl | exact room1 hRoom9 rfl | exact room0 hRoom9) | decide)
  k_with "my units" => ((try dsimp only [units_in1, units_deeper, units_under_make, units_caller, ktrTop]); first | ((with_reducible rename _ + _ < cLine => hUnits9); first | exact room2 hUnits9 rfl | exact room3 hUnits9 rfl | exact room1 hUnits9 rfl | exact room0 hUnits9) | decide)
  k_with "subscriptTail Name Constant ref int" => (k_here; (with_reducible show wpAny _ _ (subscriptTail _ _ (Value.ref _) (Value.int _ _)) _ _ _); k_dflt (refine' my_item ?k1 ?k2 ?k3 ?k4 ?k5 ?_ ?k6; (case k1 => k_asm); (case k2 => k_mem); (case k3 => decide); (case k4 => decide); (case k5 => rfl); (case k6 => with_unfolding_all rfl); k_whole))
  k_with "binaryOp FloorDiv int int" => (k_here; (with_reducible refine floordiv_int ?kbe ?_ (Or.inl (PyProof.noPylong_of_log2 ?kbp))); (case kbe => first | decide | omega); (case kbp => (first | decide +kernel | exact my_log (by omega) (by omega))))
  k_with "my use" => ((case B => k_asm); (case F => k_asm); (case X => k_asm); (case N => k_asm); (case T => k_asm); (case hk => first | exact rfl | assumption); (case hd => walk_at "my room"); (case hu => walk_at "my units"); k_whole)
  k_with "my use2" => ((case B => k_asm); (case F => k_asm); (case X => k_asm); (case T => k_asm); (case hk => first | exact rfl | assumption); (case hd => walk_at "my room"); (case hu => walk_at "my units"); k_whole)
  k_with "binaryOp LShift int int" => (k_here; (with_reducible refine lshift_int_small ?kb1 ?kb2 ?kb3 ?_); (case kb1 => first | decide | omega); (case kb2 => first | decide | omega); (case kb3 => first | decide | exact bit_nat (by assumption) | omega))
  k_with "my enterC" => (refine' code_defC ?k1 ?k2 ?k3 ?k4 ?k5 ?kA ?kF ?kK ?k6 ?k7 ?k8 ?k9 ?kB ?kD ?_ ?c2 ?c3 ?c4; (case kA => exact rfl); (case kF => exact rfl); (case kK => assumption); (case k1 => k_asm); (case k2 => k_asm); (case k3 => k_asm); (case k4 => k_asm); (case k5 => k_asm); (case k6 => k_is); (case k7 => k_is); (case k8 => walk_at "my room"); (case k9 => exact BindsTo.of_eq rfl); (case kB => exact rfl); (case kD => decide +kernel); (case c2 => exact rfl); (case c3 => exact rfl); (case c4 => exact rfl); k_whole; intro g' L' h' tk' cells' FG' F' N' Y' B' X' T' l1; (try k_lt l1); k_cells Y'; (try simp only [List.cons_append, List.nil_append] at N'); (try dsimp only); (try k_lift B'); (try k_fold))
  k_with "my all" => (first | with_reducible assumption | exact my_ne1 (by with_reducible assumption) | (refine my_ne2 ?_; first | with_reducible assumption | exact And.right (by with_reducible assumption) | exact And.right (And.right (by with_reducible assumption)) | exact And.right (And.right (And.right (by with_reducible assumption)))))
  k_with "my ne" => (refine neN ?_; (try dsimp only); first | assumption | exact Nat.ne_of_lt (by assumption) | exact Nat.ne_of_gt (by assumption) | exact Ne.symm (by assumption))
  k_with "execs cons" => (k_here; (refine gen_toks ?_); intro tk9; (try dsimp only); refine wpAny_execs_cons ?_)
  k_with "eval BinOp" => (k_dflt (k_fold; walk1))
  k_with "eval Call" => (k_dflt (k_fold; walk1))
  k_with "eval Subscript" => (k_dflt (k_fold; walk1))
  k_with "eval List" => (k_dflt (k_fold; walk1))
  k_with "eval Tuple" => (k_dflt (k_fold; walk1))
  k_with "eval IfExp" => (k_dflt (k_fold; walk1))
  k_with "spliced" => (k_dflt (k_fold; walk1))
  k_with "eval Compare" => (k_dflt (k_fold; walk1))
  k_with "eval Call Attribute" => (k_dflt (k_fold; walk1))
  k_with "call ref" => (k_here; (with_reducible show wpAny _ _ (call (Value.ref 68) [Value.int _ _]) _ _ _); k_dflt (refine' Fn.use (mask_c _ _ _ _ _ _ _ _ ?hs) ?B ?F ?X ?N ?T ?hk ?hd ?hu ?_; (case hs => first | assumption | exact Sz.eight); walk_at "my use"); intro v9 x9 h9 tk9 P9 F9 N9; (obtain ⟨t9, e9, f9⟩ := P9); subst e9; (replace f9 := Eq.symm f9); subst f9; (try k_sweep))
  k_with "call ref" => (k_here; (with_reducible show wpAny _ _ (call (Value.ref 75) [Value.int _ _, Value.int _ _]) _ _ _); k_dflt (refine' Fn.use (wrap_c _ _ _ _ _ _ _ _ _ _ ?hs) ?B ?F ?X ?N ?T ?hk ?hd ?hu ?_; (case hs => first | assumption | exact Sz.eight); walk_at "my use"); intro v9 x9 h9 tk9 P9 F9 N9; (obtain ⟨t9, e9, f9⟩ := P9); subst e9; (replace f9 := Eq.symm f9); subst f9; (try k_sweep))
  k_with "call ref" => (k_here; (with_reducible show wpAny _ _ (call (Value.ref 82) [Value.int _ _, Value.int _ _]) _ _ _); k_dflt (refine' Fn.use (bit_c _ _ _ _ _ _ _ _ _ ?h0 ?h1) ?B ?F ?X ?N ?T ?hk ?hd ?hu ?_; (case h0 => omega); (case h1 => omega); walk_at "my use"); intro v9 x9 h9 tk9 P9 F9 N9; (obtain ⟨t9, e9, f9⟩ := P9); subst e9; (replace f9 := Eq.symm f9); subst f9; (try k_sweep))
  k_with "call ref" => (k_here; (with_reducible show wpAny _ _ (call (Value.ref 89) [Value.int _ _, Value.int _ _]) _ _ _); k_dflt (refine' Fn.use (ones_c _ _ _ _ _ _ _ _) ?B ?F ?X ?N ?T ?hk ?hd ?hu ?_; walk_at "my use"); intro v9 x9 h9 tk9 P9 F9 N9; (obtain ⟨t9, e9, f9⟩ := P9); subst e9; (replace f9 := Eq.symm f9); subst f9; (try k_sweep))
  k_fill
  intro dp un gd cn cs ad ccd cl outer A₀ base h₀ L m s Q E B F X N T hk hd hu hret
  refine wpAny_call ?_
  k_dflt cell_enter
  k_steps
  all_goals (
    refine' hret _ _ _ _ ?P ?F ?N
    case F => k_asm
    case N => k_asm
    case P => exact ⟨_, by congr 1; (simp only [evn]; first | rfl | (rw [Int.fmod_eq_emod_of_nonneg _ (by decide)])), rfl⟩)


abbrev flX (w : World) (c p a z s f d : Int) (k1 k2 k3 k4 k5 k6 k7 t1 t2 t3 t4 t5 t6 t7 : Tok) : List DictEntry :=
  [⟨PyData.keyHash w.params (Str.ofString "cf"), .str (Str.ofString "cf") k1, .int c t1⟩,
   ⟨PyData.keyHash w.params (Str.ofString "pf"), .str (Str.ofString "pf") k2, .int p t2⟩,
   ⟨PyData.keyHash w.params (Str.ofString "af"), .str (Str.ofString "af") k3, .int a t3⟩,
   ⟨PyData.keyHash w.params (Str.ofString "zf"), .str (Str.ofString "zf") k4, .int z t4⟩,
   ⟨PyData.keyHash w.params (Str.ofString "sf"), .str (Str.ofString "sf") k5, .int s t5⟩,
   ⟨PyData.keyHash w.params (Str.ofString "of"), .str (Str.ofString "of") k6, .int f t6⟩,
   ⟨PyData.keyHash w.params (Str.ofString "df"), .str (Str.ofString "df") k7, .int d t7⟩]
abbrev flE (w : World) (c p a z s f d : Int) (k t : Nat → Tok) : List DictEntry := flX w c p a z s f d (k 0) (k 1) (k 2) (k 3) (k 4) (k 5) (k 6) (t 0) (t 1) (t 2) (t 3) (t 4) (t 5) (t 6)
def IsFl (w : World) (o : Obj) (c p a z s f d : Int) : Prop := ∃ k t : Nat → Tok, o = dictOf (flE w c p a z s f d k t) 7
def zro (x : Int) : Int := if x = 0 then 1 else 0
def sgn (x W : Int) : Int := if W ≤ 2 * x then 1 else 0
theorem sgn_val {size W : Int} (h : Sz size W) (x : Int) : x % W / 2 ^ (size - 1).toNat % 2 = sgn (x % W) W := by
  unfold sgn
  rcases h with ⟨rfl, rfl⟩ | ⟨rfl, rfl⟩ | ⟨rfl, rfl⟩ | ⟨rfl, rfl⟩
  · show x % 256 / 128 % 2 = _
    split <;> omega
  · show x % 65536 / 32768 % 2 = _
    split <;> omega
  · show x % 4294967296 / 2147483648 % 2 = _
    split <;> omega
  · show x % 18446744073709551616 / 9223372036854775808 % 2 = _
    split <;> omega
def tk7 (a b c d e f g : Tok) : Nat → Tok
  | 0 => a
  | 1 => b
  | 2 => c
  | 3 => d
  | 4 => e
  | 5 => f
  | _ => g
theorem isFl_mk {w : World} {c p a z s f d c' p' a' z' s' f' d' : Int} {k1 k2 k3 k4 k5 k6 k7 t1 t2 t3 t4 t5 t6 t7 : Tok} (e1 : c = c') (e2 : p = p') (e3 : a = a') (e4 : z = z') (e5 : s = s') (e6 : f = f') (e7 : d = d') :
    IsFl w (dictOf (flX w c p a z s f d k1 k2 k3 k4 k5 k6 k7 t1 t2 t3 t4 t5 t6 t7) 7) c' p' a' z' s' f' d' := by
  subst e1; subst e2; subst e3; subst e4; subst e5; subst e6; subst e7
  exact ⟨tk7 k1 k2 k3 k4 k5 k6 k7, tk7 t1 t2 t3 t4 t5 t6 t7, rfl⟩
theorem Fn.at {w : World} {mean : ExcName → Option Value} {mg mb : Str → Option Value} {f : Addr} {d : Nat} {args : List Value} {l : Addr} {o : Obj} {led : List (Addr × Obj)} {upd : Obj → List (Addr × Obj)} {Post : Value → Obj → Prop}
    (U : UpdF l o led upd) (C : ∀ rest : List (Addr × Obj), (∀ p ∈ rest, p.1 ≠ l) → (∀ q ∈ led, q.2 ≠ o → q ∈ rest) → Fn w mean mg mb f d args ((l, o) :: rest) (fun v nx => ∃ o', nx = (l, o') :: rest ∧ Post v o')) :
    Fn w mean mg mb f d args led (fun v nx => ∃ o', nx = upd o' ∧ Post v o') := by
  obtain ⟨pre, post, rfl, hg, a, b⟩ := U.split
  intro dp un gd cn cs ad ccd cl outer A₀ base h₀ L m s Q E B F X N T hk hd hu hret
  have hin : ∀ q : Addr × Obj, q ∈ (l, o) :: (pre ++ post) → q ∈ pre ++ (l, o) :: post := by
    intro q hq
    rcases List.mem_cons.mp hq with rfl | hq
    · exact List.mem_append.mpr (.inr (.head _))
    · rcases List.mem_append.mp hq with hq | hq
      · exact List.mem_append.mpr (.inl hq)
      · exact List.mem_append.mpr (.inr (.tail _ hq))
  refine C (pre ++ post) ?_ ?_ dp un gd cn cs ad ccd cl outer A₀ base h₀ L m s Q E B F X (fun q hq => N q (hin q hq)) T hk hd hu ?_
  · intro p hp
    rcases List.mem_append.mp hp with hp | hp
    · exact a p hp
    · exact b p hp
  · intro q hq hne
    rcases List.mem_append.mp hq with hq | hq
    · exact List.mem_append.mpr (.inl hq)
    · rcases List.mem_cons.mp hq with rfl | hq
      · exact absurd rfl hne
      · exact List.mem_append.mpr (.inr hq)
  · rintro v nx h' tk' ⟨o', rfl, P⟩ F' N'
    refine hret v _ h' tk' ⟨o', rfl, P⟩ F' ?_
    rw [hg]
    intro q hq
    refine N' q ?_
    rcases List.mem_append.mp hq with hq | hq
    · exact .tail _ (List.mem_append.mpr (.inl hq))
    · rcases List.mem_cons.mp hq with rfl | hq
      · exact .head _
      · exact .tail _ (List.mem_append.mpr (.inr hq))
theorem IsFl.other {w : World} {o : Obj} {c p a z s f d : Int} (h : IsFl w o c p a z s f d) {C dx : Addr} : instObj C dx ≠ o := by
  obtain ⟨k, t, rfl⟩ := h
  intro e
  have := congrArg Obj.dict e
  cases this
set_option maxRecDepth 100000 in
set_option maxHeartbeats 8000000 in
theorem szp_c (w : World) (mean : ExcName → Option Value) (mg mb : Str → Option Value) (rest : List (Addr × Obj)) (x dx : Addr) (o : Obj) (c p a z s f d r size W : Int) (tr ts : Tok) (hx : (x, instObj 169 dx) ∈ rest) (hap : ∀ q ∈ rest, q.1 ≠ dx) (ho : IsFl w o c p a z s f d) (hs : Sz size W) :
    Fn w mean mg mb 180 5 [.ref x, .int r tr, .int size ts] ((dx, o) :: rest) (fun v nx => ∃ o', nx = (dx, o') :: rest ∧ (∃ t, v = .int (r % W) t) ∧ IsFl w o' c (evn (r % W)) a (zro (r % W)) (sgn (r % W) W) f d) := by
  obtain ⟨kk, tt, rfl⟩ := ho
  unfold Fn
  k_with_none
  k_with "my room" => ((try dsimp only [depth_under_make, depth_under_kw, depth_in1, depth_deeper, depth_caller, ktrTop]); first | ((with_reducible rename _ + _ < recursionLimit => hRoom9); first | exact room2 hRoom9 rfl | exact room3 hRoom9 rfl | exact room1 hRoom9 rfl | exact room0 hRoom9) | decide)
  k_with "my units" => ((try dsimp only [units_in1, units_deeper, units_under_make, units_caller, ktrTop]); first | ((with_reducible rename _ + _ < cLine => hUnits9); first | exact room2 hUnits9 rfl | exact room3 hUnits9 rfl | exact room1 hUnits9 rfl | exact room0 hUnits9) | decide)
  k_with "subscriptTail Name Constant ref int" => (k_here; (with_reducible show wpAny _ _ (subscriptTail _ _ (Value.ref _) (Value.int _ _)) _ _ _); k_dflt (refine' my_item ?k1 ?k2 ?k3 ?k4 ?k5 ?_ ?k6; (case k1 => k_asm); (case k2 => k_mem); (case k3 => decide); (case k4 => decide); (case k5 => rfl); (case k6 => with_unfolding_all rfl); k_whole))
  k_with "binaryOp FloorDiv int int" => (k_here; (with_reducible refine floordiv_int ?kbe ?_ (Or.inl (PyProof.noPylong_of_log2 ?kbp))); (case kbe => first | decide | omega); (case kbp => (first | decide +kernel | exact my_log (by omega) (by omega))))
  k_with "my use" => ((case B => k_asm); (case F => k_asm); (case X => k_asm); (case N => k_asm); (case T => k_asm); (case hk => first | exact rfl | assumption); (case hd => walk_at "my room"); (case hu => walk_at "my units"); k_whole)
  k_with "my use2" => ((case B => k_asm); (case F => k_asm); (case X => k_asm); (case T => k_asm); (case hk => first | exact rfl | assumption); (case hd => walk_at "my room"); (case hu => walk_at "my units"); k_whole)
  k_with "binaryOp LShift int int" => (k_here; (with_reducible refine lshift_int_small ?kb1 ?kb2 ?kb3 ?_); (case kb1 => first | decide | omega); (case kb2 => first | decide | omega); (case kb3 => first | decide | exact bit_nat (by assumption) | omega))
  k_with "my enterC" => (refine' code_defC ?k1 ?k2 ?k3 ?k4 ?k5 ?kA ?kF ?kK ?k6 ?k7 ?k8 ?k9 ?kB ?kD ?_ ?c2 ?c3 ?c4; (case kA => exact rfl); (case kF => exact rfl); (case kK => assumption); (case k1 => k_asm); (case k2 => k_asm); (case k3 => k_asm); (case k4 => k_asm); (case k5 => k_asm); (case k6 => k_is); (case k7 => k_is); (case k8 => walk_at "my room"); (case k9 => exact BindsTo.of_eq rfl); (case kB => exact rfl); (case kD => decide +kernel); (case c2 => exact rfl); (case c3 => exact rfl); (case c4 => exact rfl); k_whole; intro g' L' h' tk' cells' FG' F' N' Y' B' X' T' l1; (try k_lt l1); k_cells Y'; (try simp only [List.cons_append, List.nil_append] at N'); (try dsimp only); (try k_lift B'); (try k_fold))
  k_with "my all" => (first | with_reducible assumption | exact my_ne1 (by with_reducible assumption) | (refine my_ne2 ?_; first | with_reducible assumption | exact And.right (by with_reducible assumption) | exact And.right (And.right (by with_reducible assumption)) | exact And.right (And.right (And.right (by with_reducible assumption)))))
  k_with "my ne" => (refine neN ?_; (try dsimp only); first | assumption | exact Nat.ne_of_lt (by assumption) | exact Nat.ne_of_gt (by assumption) | exact Ne.symm (by assumption))
  k_with "execs cons" => (k_here; (refine gen_toks ?_); intro tk9; (try dsimp only); refine wpAny_execs_cons ?_)
  k_with "eval BinOp" => (k_dflt (k_fold; walk1))
  k_with "eval Call" => (k_dflt (k_fold; walk1))
  k_with "eval Subscript" => (k_dflt (k_fold; walk1))
  k_with "eval List" => (k_dflt (k_fold; walk1))
  k_with "eval Tuple" => (k_dflt (k_fold; walk1))
  k_with "eval IfExp" => (k_dflt (k_fold; walk1))
  k_with "spliced" => (k_dflt (k_fold; walk1))
  k_with "eval Compare" => (k_dflt (k_fold; walk1))
  k_with "eval Call Attribute" => (k_dflt (k_fold; walk1))
  k_with "call ref" => (k_here; (with_reducible show wpAny _ _ (call (Value.ref 68) [Value.int _ _]) _ _ _); k_dflt (refine' Fn.use (mask_c _ _ _ _ _ _ _ _ ?hs) ?B ?F ?X ?N ?T ?hk ?hd ?hu ?_; (case hs => first | assumption | exact Sz.eight); walk_at "my use"); intro v9 x9 h9 tk9 P9 F9 N9; (obtain ⟨t9, e9, f9⟩ := P9); subst e9; (replace f9 := Eq.symm f9); subst f9; (try k_sweep))
  k_with "call ref" => (k_here; (with_reducible show wpAny _ _ (call (Value.ref 75) [Value.int _ _, Value.int _ _]) _ _ _); k_dflt (refine' Fn.use (wrap_c _ _ _ _ _ _ _ _ _ _ ?hs) ?B ?F ?X ?N ?T ?hk ?hd ?hu ?_; (case hs => first | assumption | exact Sz.eight); walk_at "my use"); intro v9 x9 h9 tk9 P9 F9 N9; (obtain ⟨t9, e9, f9⟩ := P9); subst e9; (replace f9 := Eq.symm f9); subst f9; (try k_sweep))
  k_with "call ref" => (k_here; (with_reducible show wpAny _ _ (call (Value.ref 82) [Value.int _ _, Value.int _ _]) _ _ _); k_dflt (refine' Fn.use (bit_c _ _ _ _ _ _ _ _ _ ?h0 ?h1) ?B ?F ?X ?N ?T ?hk ?hd ?hu ?_; (case h0 => omega); (case h1 => omega); walk_at "my use"); intro v9 x9 h9 tk9 P9 F9 N9; (obtain ⟨t9, e9, f9⟩ := P9); subst e9; (replace f9 := Eq.symm f9); subst f9; (try k_sweep))
  k_with "call ref" => (k_here; (with_reducible show wpAny _ _ (call (Value.ref 96) [Value.int _ _]) _ _ _); k_dflt (refine' Fn.use (parity_c _ _ _ _ _ _ _) ?B ?F ?X ?N ?T ?hk ?hd ?hu ?_; walk_at "my use"); intro v9 x9 h9 tk9 P9 F9 N9; (obtain ⟨t9, e9, f9⟩ := P9); subst e9; (replace f9 := Eq.symm f9); subst f9; (try k_sweep))
  k_fill
  intro dp un gd cn cs ad ccd cl outer A₀ base h₀ L m s Q E B F X N T hk hd hu hret
  have hlo := hs.lo
  refine wpAny_call ?_
  k_dflt cell_enter
  k_steps
  all_goals (
    refine' hret _ _ _ _ ?P ?F ?N
    case F => k_asm
    case N => k_asm
    case P =>
      refine ⟨_, rfl, ⟨_, rfl⟩, isFl_mk rfl rfl rfl ?_ (sgn_val hs _) rfl rfl⟩
      unfold zro
      split <;> first | rfl | omega)
theorem szp_u {w : World} {mean : ExcName → Option Value} {mg mb : Str → Option Value} {led : List (Addr × Obj)} {upd : Obj → List (Addr × Obj)} {x dx : Addr} {o : Obj} {c p a z s f d r size W : Int} {tr ts : Tok} (U : UpdF dx o led upd) (hx : (x, instObj 169 dx) ∈ led) (ho : IsFl w o c p a z s f d) (hs : Sz size W) :
    Fn w mean mg mb 180 5 [.ref x, .int r tr, .int size ts] led (fun v nx => ∃ o', nx = upd o' ∧ (∃ t, v = .int (r % W) t) ∧ IsFl w o' c (evn (r % W)) a (zro (r % W)) (sgn (r % W) W) f d) :=
  Fn.at U fun rest hap hin => szp_c w mean mg mb rest x dx o c p a z s f d r size W tr ts (hin _ hx ho.other) hap ho hs

set_option maxRecDepth 100000 in
set_option maxHeartbeats 8000000 in
theorem mk_c (w : World) (mean : ExcName → Option Value) (mg mb : Str → Option Value) (led : List (Addr × Obj)) :
    Fn w mean mg mb 169 3 [] led (fun r nx => ∃ x' dx' o', nx = (x', instObj 169 dx') :: (dx', o') :: led ∧ r = .ref x' ∧ (∀ q ∈ led, q.1 < dx') ∧ dx' < x' ∧ IsFl w o' 0 0 0 0 0 0 0) := by
  unfold Fn
  k_with_none
  k_with "my room" => ((try dsimp only [depth_under_make, depth_under_kw, depth_in1, depth_deeper, depth_caller, ktrTop]); first | ((with_reducible rename _ + _ < recursionLimit => hRoom9); first | exact room2 hRoom9 rfl | exact room3 hRoom9 rfl | exact room1 hRoom9 rfl | exact room0 hRoom9) | decide)
  k_with "my units" => ((try dsimp only [units_in1, units_deeper, units_under_make, units_caller, ktrTop]); first | ((with_reducible rename _ + _ < cLine => hUnits9); first | exact room2 hUnits9 rfl | exact room3 hUnits9 rfl | exact room1 hUnits9 rfl | exact room0 hUnits9) | decide)
  k_with "subscriptTail Name Constant ref int" => (k_here; (with_reducible show wpAny _ _ (subscriptTail _ _ (Value.ref _) (Value.int _ _)) _ _ _); k_dflt (refine' my_item ?k1 ?k2 ?k3 ?k4 ?k5 ?_ ?k6; (case k1 => k_asm); (case k2 => k_mem); (case k3 => decide); (case k4 => decide); (case k5 => rfl); (case k6 => with_unfolding_all rfl); k_whole))
  k_with "binaryOp FloorDiv int int" => (k_here; (with_reducible refine floordiv_int ?kbe ?_ (Or.inl (PyProof.noPylong_of_log2 ?kbp))); (case kbe => first | decide | omega); (case kbp => (first | decide +kernel | exact my_log (by omega) (by omega))))
  k_with "my use" => ((case B => k_asm); (case F => k_asm); (case X => k_asm); (case N => k_asm); (case T => k_asm); (case hk => first | exact rfl | assumption); (case hd => walk_at "my room"); (case hu => walk_at "my units"); k_whole)
  k_with "my use2" => ((case B => k_asm); (case F => k_asm); (case X => k_asm); (case T => k_asm); (case hk => first | exact rfl | assumption); (case hd => walk_at "my room"); (case hu => walk_at "my units"); k_whole)
  k_with "binaryOp LShift int int" => (k_here; (with_reducible refine lshift_int_small ?kb1 ?kb2 ?kb3 ?_); (case kb1 => first | decide | omega); (case kb2 => first | decide | omega); (case kb3 => first | decide | exact bit_nat (by assumption) | omega))
  k_with "my enterC" => (refine' code_defC ?k1 ?k2 ?k3 ?k4 ?k5 ?kA ?kF ?kK ?k6 ?k7 ?k8 ?k9 ?kB ?kD ?_ ?c2 ?c3 ?c4; (case kA => exact rfl); (case kF => exact rfl); (case kK => assumption); (case k1 => k_asm); (case k2 => k_asm); (case k3 => k_asm); (case k4 => k_asm); (case k5 => k_asm); (case k6 => k_is); (case k7 => k_is); (case k8 => walk_at "my room"); (case k9 => exact BindsTo.of_eq rfl); (case kB => exact rfl); (case kD => decide +kernel); (case c2 => exact rfl); (case c3 => exact rfl); (case c4 => exact rfl); k_whole; intro g' L' h' tk' cells' FG' F' N' Y' B' X' T' l1; (try k_lt l1); k_cells Y'; (try simp only [List.cons_append, List.nil_append] at N'); (try dsimp only); (try k_lift B'); (try k_fold))
  k_with "my all" => (first | with_reducible assumption | exact my_ne1 (by with_reducible assumption) | (refine my_ne2 ?_; first | with_reducible assumption | exact And.right (by with_reducible assumption) | exact And.right (And.right (by with_reducible assumption)) | exact And.right (And.right (And.right (by with_reducible assumption)))))
  k_with "my ne" => (refine neN ?_; (try dsimp only); first | assumption | exact Nat.ne_of_lt (by assumption) | exact Nat.ne_of_gt (by assumption) | exact Ne.symm (by assumption))
  k_with "execs cons" => (k_here; (refine gen_toks ?_); intro tk9; (try dsimp only); refine wpAny_execs_cons ?_)
  k_with "eval BinOp" => (k_dflt (k_fold; walk1))
  k_with "eval Call" => (k_dflt (k_fold; walk1))
  k_with "eval Subscript" => (k_dflt (k_fold; walk1))
  k_with "eval List" => (k_dflt (k_fold; walk1))
  k_with "eval Tuple" => (k_dflt (k_fold; walk1))
  k_with "eval IfExp" => (k_dflt (k_fold; walk1))
  k_with "spliced" => (k_dflt (k_fold; walk1))
  k_with "eval Compare" => (k_dflt (k_fold; walk1))
  k_with "eval Call Attribute" => (k_dflt (k_fold; walk1))
  k_fill
  intro dp un gd cn cs ad ccd cl outer A₀ base h₀ L m s Q E B F X N T hk hd hu hret
  k_dflt (refine' call_cls ?k1 ?k2 ?k3 ?k4 ?k5 ?k6 ?_; (case k1 => k_asm); (case k2 => k_asm); (case k3 => k_asm); (case k4 => k_is); (case k5 => k_is); (case k6 => k_is); k_whole; intro x' d' h' F' N' l1 l2; (try k_lt2 l2); (try k_sweep))
  k_dflt cell_enter
  k_steps
  all_goals (
    (rename News _ _ _ _ => nE)
    refine' hret _ ((_, instObj 169 _) :: (_, _) :: led) _ _ ?P ?F ?N
    case N => exact nE
    case F => k_asm
    case P => exact ⟨_, _, _, rfl, rfl, by assumption, by assumption, isFl_mk rfl rfl rfl rfl rfl rfl rfl⟩)

set_option maxRecDepth 100000 in
set_option maxHeartbeats 8000000 in
theorem take_c (w : World) (mean : ExcName → Option Value) (mg mb : Str → Option Value) (rest : List (Addr × Obj)) (l : Addr) (a : Int) (ta : Tok) (b : Int) (tb : Tok) (c : Int) (tc : Tok) (n : Nat) (many : Int) (tm : Tok)
    (hap : ∀ p ∈ rest, p.1 ≠ l) (ha0 : 0 ≤ a) (hb0 : 0 ≤ b) (hb1 : b < 2147483647) (hc0 : 0 ≤ c) (hc1 : c < 1000) (hm0 : 0 < many) (hm1 : many < 2 ^ 65) :
    Fn w mean mg mb 243 1 [.ref l, .int many tm] ((l, listOf [Value.int a ta, Value.int b tb, Value.int c tc].toArray n) :: rest)
      (fun v nx => ∃ r tr a' ta' b' tb' c' tc', v = .int r tr ∧ nx = (l, listOf [Value.int a' ta', Value.int b' tb', Value.int c' tc'].toArray n) :: rest ∧ (0 ≤ r ∧ r < many) ∧ 0 ≤ a' ∧ 0 ≤ b' ∧ b' < 2147483647 ∧ c ≤ c' ∧ c' ≤ c + 1) := by
  unfold Fn
  k_with_none
  k_with "my room" => ((try dsimp only [depth_under_make, depth_under_kw, depth_in1, depth_deeper, depth_caller, ktrTop]); first | ((with_reducible rename _ + _ < recursionLimit => hRoom9); first | exact room2 hRoom9 rfl | exact room3 hRoom9 rfl | exact room1 hRoom9 rfl | exact room0 hRoom9) | decide)
  k_with "my units" => ((try dsimp only [units_in1, units_deeper, units_under_make, units_caller, ktrTop]); first | ((with_reducible rename _ + _ < cLine => hUnits9); first | exact room2 hUnits9 rfl | exact room3 hUnits9 rfl | exact room1 hUnits9 rfl | exact room0 hUnits9) | decide)
  k_with "subscriptTail Name Constant ref int" => (k_here; (with_reducible show wpAny _ _ (subscriptTail _ _ (Value.ref _) (Value.int _ _)) _ _ _); k_dflt (refine' my_item ?k1 ?k2 ?k3 ?k4 ?k5 ?_ ?k6; (case k1 => k_asm); (case k2 => k_mem); (case k3 => decide); (case k4 => decide); (case k5 => rfl); (case k6 => with_unfolding_all rfl); k_whole))
  k_with "binaryOp FloorDiv int int" => (k_here; (with_reducible refine floordiv_int ?kbe ?_ (Or.inl (PyProof.noPylong_of_log2 ?kbp))); (case kbe => first | decide | omega); (case kbp => (first | decide +kernel | exact my_log (by omega) (by omega))))
  k_with "my use" => ((case B => k_asm); (case F => k_asm); (case X => k_asm); (case N => k_asm); (case T => k_asm); (case hk => first | exact rfl | assumption); (case hd => walk_at "my room"); (case hu => walk_at "my units"); k_whole)
  k_with "my use2" => ((case B => k_asm); (case F => k_asm); (case X => k_asm); (case T => k_asm); (case hk => first | exact rfl | assumption); (case hd => walk_at "my room"); (case hu => walk_at "my units"); k_whole)
  k_with "binaryOp LShift int int" => (k_here; (with_reducible refine lshift_int_small ?kb1 ?kb2 ?kb3 ?_); (case kb1 => first | decide | omega); (case kb2 => first | decide | omega); (case kb3 => first | decide | exact bit_nat (by assumption) | omega))
  k_with "my enterC" => (refine' code_defC ?k1 ?k2 ?k3 ?k4 ?k5 ?kA ?kF ?kK ?k6 ?k7 ?k8 ?k9 ?kB ?kD ?_ ?c2 ?c3 ?c4; (case kA => exact rfl); (case kF => exact rfl); (case kK => assumption); (case k1 => k_asm); (case k2 => k_asm); (case k3 => k_asm); (case k4 => k_asm); (case k5 => k_asm); (case k6 => k_is); (case k7 => k_is); (case k8 => walk_at "my room"); (case k9 => exact BindsTo.of_eq rfl); (case kB => exact rfl); (case kD => decide +kernel); (case c2 => exact rfl); (case c3 => exact rfl); (case c4 => exact rfl); k_whole; intro g' L' h' tk' cells' FG' F' N' Y' B' X' T' l1; (try k_lt l1); k_cells Y'; (try simp only [List.cons_append, List.nil_append] at N'); (try dsimp only); (try k_lift B'); (try k_fold))
  k_with "my all" => (first | with_reducible assumption | exact my_ne1 (by with_reducible assumption) | (refine my_ne2 ?_; first | with_reducible assumption | exact And.right (by with_reducible assumption) | exact And.right (And.right (by with_reducible assumption)) | exact And.right (And.right (And.right (by with_reducible assumption)))))
  k_with "my ne" => (refine neN ?_; (try dsimp only); first | assumption | exact Nat.ne_of_lt (by assumption) | exact Nat.ne_of_gt (by assumption) | exact Ne.symm (by assumption))
  k_with "execs cons" => (k_here; (refine gen_toks ?_); intro tk9; (try dsimp only); refine wpAny_execs_cons ?_)
  k_with "eval BinOp" => (k_dflt (k_fold; walk1))
  k_with "eval Call" => (k_dflt (k_fold; walk1))
  k_with "eval Subscript" => (k_dflt (k_fold; walk1))
  k_with "eval List" => (k_dflt (k_fold; walk1))
  k_with "eval Tuple" => (k_dflt (k_fold; walk1))
  k_with "eval IfExp" => (k_dflt (k_fold; walk1))
  k_with "spliced" => (k_dflt (k_fold; walk1))
  k_with "eval Compare" => (k_dflt (k_fold; walk1))
  k_with "eval Call Attribute" => (k_dflt (k_fold; walk1))
  k_fill
  intro dp un gd cn cs ad ccd cl outer A₀ base h₀ L m s Q E B F X N T hk hd hu hret
  refine wpAny_call ?_
  k_dflt cell_enter
  k_steps
  all_goals (
    refine' hret _ _ _ _ ?P ?F ?N
    case F => k_asm
    case N => k_asm
    case P =>
      refine ⟨_, _, _, _, _, _, _, _, rfl, rfl, ⟨Int.fmod_nonneg_of_pos _ hm0, Int.fmod_lt_of_pos _ hm0⟩, ?_, ?_, ?_, ?_, ?_⟩ <;>
      first | omega | exact Int.fdiv_nonneg ha0 (by omega) | exact Int.fmod_nonneg_of_pos _ (by decide) | exact Int.fmod_lt_of_pos _ (by decide))
def IsPen (o : Obj) (k : Int) : Prop := ∃ (a : Int) (ta : Tok) (b : Int) (tb : Tok) (c : Int) (tc : Tok) (n : Nat), o = listOf [Value.int a ta, Value.int b tb, Value.int c tc].toArray n ∧ 0 ≤ a ∧ 0 ≤ b ∧ b < 2147483647 ∧ 0 ≤ c ∧ c ≤ k
theorem take_u {w : World} {mean : ExcName → Option Value} {mg mb : Str → Option Value} {led : List (Addr × Obj)} {upd : Obj → List (Addr × Obj)} {l : Addr} {o : Obj} {k many : Int} {tm : Tok} (U : UpdF l o led upd) (hp : IsPen o k) (hk : k < 900) (hm0 : 0 < many) (hm1 : many < 2 ^ 65) :
    Fn w mean mg mb 243 1 [.ref l, .int many tm] led (fun v nx => ∃ o', nx = upd o' ∧ (∃ r t, v = .int r t ∧ 0 ≤ r ∧ r < many) ∧ IsPen o' (k + 1)) := by
  obtain ⟨a, ta, b, tb, c, tc, n, rfl, h1, h2, h3, h4, h5⟩ := hp
  refine Fn.at U fun rest hap _ => ?_
  intro dp un gd cn cs ad ccd cl outer A₀ base h₀ L m s Q E B F X N T hk hd hu hret
  refine take_c w mean mg mb rest l a ta b tb c tc n many tm hap h1 h2 h3 h4 (by omega) hm0 hm1 dp un gd cn cs ad ccd cl outer A₀ base h₀ L m s Q E B F X N T hk hd hu ?_
  rintro v nx h' tk' ⟨r, tr, a', ta', b', tb', c', tc', rfl, rfl, ⟨q1, q2⟩, q3, q4, q5, q6, q7⟩ F' N'
  exact hret _ _ _ _ ⟨_, rfl, ⟨r, tr, rfl, q1, q2⟩, a', ta', b', tb', c', tc', n, rfl, q3, q4, q5, by omega, by omega⟩ F' N'


def cyS (t W : Int) : Int := if t = t % W then 0 else 1
def axS (low : Int) : Int := if 0 ≤ low ∧ low < 16 then 0 else 1
def ovS (far W : Int) : Int := if 0 - W / 2 ≤ far ∧ far < W / 2 then 0 else 1
def sd (x W : Int) : Int := if 2 * x < W then x else x - W
theorem bit01 (x : Int) : x % 2 = 0 ∨ x % 2 = 1 := by omega
theorem top_succ (x : Int) (k : Nat) : x / 2 ^ (k + 1) % 2 = (x / 2) / 2 ^ k % 2 := by
  rw [Int.pow_succ, Int.mul_comm, ← Int.ediv_ediv_of_nonneg (by decide)]
theorem and_half (x y : Int) : Builtin.bitAnd x y / 2 = Builtin.bitAnd (x / 2) (y / 2) := by
  rw [kbt_halves x y]; split <;> omega
theorem and_odd (x y : Int) : Builtin.bitAnd x y % 2 = (x % 2) * (y % 2) := by
  rw [kbt_halves x y]
  rcases bit01 x with h | h <;> rcases bit01 y with g | g <;> rw [h, g] <;> simp <;> omega
theorem xor_half (x y : Int) : Builtin.bitXor x y / 2 = Builtin.bitXor (x / 2) (y / 2) := by
  rw [bitXor_and, bitXor_and, kbt_halves x y]; split <;> omega
theorem xor_odd (x y : Int) : Builtin.bitXor x y % 2 = (x % 2 + y % 2) % 2 := by
  rw [bitXor_and]; omega
theorem top_and : ∀ (k : Nat) (x y : Int), Builtin.bitAnd x y / 2 ^ k % 2 = (x / 2 ^ k % 2) * (y / 2 ^ k % 2)
  | 0, x, y => by simp only [Int.pow_zero, Int.ediv_one]; exact and_odd x y
  | k + 1, x, y => by rw [top_succ, top_succ x, top_succ y, and_half, top_and k]
theorem top_xor : ∀ (k : Nat) (x y : Int), Builtin.bitXor x y / 2 ^ k % 2 = (x / 2 ^ k % 2 + y / 2 ^ k % 2) % 2
  | 0, x, y => by simp only [Int.pow_zero, Int.ediv_one]; exact xor_odd x y
  | k + 1, x, y => by rw [top_succ, top_succ x, top_succ y, xor_half, top_xor k]
theorem prod_bits {p q : Int} (hp : p = 0 ∨ p = 1) (hq : q = 0 ∨ q = 1) : p * q = if p = 1 ∧ q = 1 then 1 else 0 := by
  rcases hp with rfl | rfl <;> rcases hq with rfl | rfl <;> rfl
theorem xor_bits (p q : Prop) [Decidable p] [Decidable q] : (((if p then (1 : Int) else 0) + (if q then 1 else 0)) % 2 = 1) ↔ ¬ (p ↔ q) := by
  by_cases hp : p <;> by_cases hq : q <;> simp [hp, hq]
theorem top_ge {h x : Int} (h0 : 0 < h) (hx : 0 ≤ x ∧ x < 2 * h) : x / h % 2 = if h ≤ x then 1 else 0 := by
  by_cases g : h ≤ x
  · have e : x / h = 1 := (kbt_unique h0 (q := 1) (r := x - h) (by omega) (by omega) (by omega)).1
    rw [if_pos g, e]; rfl
  · have e : x / h = 0 := Int.ediv_eq_zero_of_lt hx.1 (by omega)
    rw [if_neg g, e]; rfl
theorem mod_up {W t : Int} (h0 : 0 ≤ t) (h1 : t < 2 * W) : t % W = if t < W then t else t - W := by
  split
  · exact Int.emod_eq_of_lt h0 (by omega)
  · exact (kbt_unique (by omega) (q := 1) (r := t - W) (by omega) (by omega) (by omega)).2
theorem mod_dn {W t : Int} (h0 : -W ≤ t) (h1 : t < W) : t % W = if t < 0 then t + W else t := by
  split
  · exact (kbt_unique (by omega) (q := -1) (r := t + W) (by omega) (by omega) (by omega)).2
  · exact Int.emod_eq_of_lt (by omega) (by omega)
theorem ov_bits {h x y u v : Int} (h0 : 0 < h) (hx : 0 ≤ x ∧ x < 2 * h) (hy : 0 ≤ y ∧ y < 2 * h) (hu : 0 ≤ u ∧ u < 2 * h) (hv : 0 ≤ v ∧ v < 2 * h) {k : Nat} (e : (2 : Int) ^ k = h) :
    Builtin.bitAnd (Builtin.bitXor x y) (Builtin.bitXor u v) / 2 ^ k % 2 = if ¬ (h ≤ x ↔ h ≤ y) ∧ ¬ (h ≤ u ↔ h ≤ v) then 1 else 0 := by
  rw [top_and, top_xor, top_xor, e, top_ge h0 hx, top_ge h0 hy, top_ge h0 hu, top_ge h0 hv, prod_bits (bit01 _) (bit01 _)]
  simp only [xor_bits]
theorem add_cy {size W one two c : Int} (h : Sz size W) (h1 : 0 ≤ one ∧ one < W) (h2 : 0 ≤ two ∧ two < W) (hc : 0 ≤ c ∧ c ≤ 1) :
    (one + two + c).fdiv (2 ^ size.toNat) = cyS (one + 1 * (two + c)) W := by
  have hp := h.pos
  rw [Int.fdiv_eq_ediv_of_nonneg _ (Int.le_of_lt (kbt_pos _)), h.pow]
  unfold cyS
  rw [show one + 1 * (two + c) = one + two + c by omega, mod_up (by omega) (by omega)]
  by_cases g : one + two + c < W
  · rw [if_pos g, if_pos rfl]
    exact Int.ediv_eq_zero_of_lt (by omega) g
  · rw [if_neg g, if_neg (by omega)]
    exact (kbt_unique (by omega) (r := one + two + c - W) (by omega) (by omega) (by omega)).1
theorem add_ax {one two c : Int} (hc : 0 ≤ c ∧ c ≤ 1) :
    (Builtin.bitAnd one 15 + Builtin.bitAnd two 15 + c).fdiv (2 ^ (4 : Int).toNat) = axS (one % 16 + 1 * (two % 16 + c)) := by
  rw [Int.fdiv_eq_ediv_of_nonneg _ (Int.le_of_lt (kbt_pos _)), bitAnd_m4, bitAnd_m4]
  unfold axS
  show _ / 16 = _
  split <;> omega
theorem add_ov {size W one two c : Int} (h : Sz size W) (h1 : 0 ≤ one ∧ one < W) (h2 : 0 ≤ two ∧ two < W) (hc : 0 ≤ c ∧ c ≤ 1) :
    Builtin.bitAnd (Builtin.bitXor one ((one + two + c) % W)) (Builtin.bitXor two ((one + two + c) % W)) / 2 ^ (size - 1).toNat % 2 = ovS (sd one W + 1 * (sd two W + c)) W := by
  have hp := h.pos
  have hh := h.half
  generalize he : (2 : Int) ^ (size - 1).toNat = k at hh
  have hr : 0 ≤ (one + two + c) % W ∧ (one + two + c) % W < W := ⟨Int.emod_nonneg _ (by omega), Int.emod_lt_of_pos _ (by omega)⟩
  rw [← he, ov_bits (h := k) (by omega) (by omega) (by omega) (by omega) (by omega) he, mod_up (by omega) (by omega)]
  unfold ovS sd
  have hw : W / 2 = k := by omega
  rw [hw]
  clear hr he h hp
  subst hh
  split <;> split <;> split <;> split <;> omega
theorem sub_ov {size W one two c : Int} (h : Sz size W) (h1 : 0 ≤ one ∧ one < W) (h2 : 0 ≤ two ∧ two < W) (hc : 0 ≤ c ∧ c ≤ 1) :
    Builtin.bitAnd (Builtin.bitXor one two) (Builtin.bitXor one ((one - two - c) % W)) / 2 ^ (size - 1).toNat % 2 = ovS (sd one W + -1 * (sd two W + c)) W := by
  have hp := h.pos
  have hh := h.half
  generalize he : (2 : Int) ^ (size - 1).toNat = k at hh
  have hr : 0 ≤ (one - two - c) % W ∧ (one - two - c) % W < W := ⟨Int.emod_nonneg _ (by omega), Int.emod_lt_of_pos _ (by omega)⟩
  rw [← he, ov_bits (h := k) (by omega) (by omega) (by omega) (by omega) (by omega) he, mod_dn (by omega) (by omega)]
  unfold ovS sd
  have hw : W / 2 = k := by omega
  rw [hw]
  clear hr he h hp
  subst hh
  split <;> split <;> split <;> split <;> omega
theorem sub_cy {size W one two c : Int} (h : Sz size W) (h1 : 0 ≤ one ∧ one < W) (h2 : 0 ≤ two ∧ two < W) (hc : 0 ≤ c ∧ c ≤ 1) :
    (if one - two - c < 0 then (1 : Int) else 0) = cyS (one + -1 * (two + c)) W := by
  have hp := h.pos
  unfold cyS
  rw [show one + -1 * (two + c) = one - two - c by omega, mod_dn (by omega) (by omega)]
  by_cases g : one - two - c < 0
  · rw [if_pos g, if_pos g, if_neg (by omega)]
  · rw [if_neg g, if_neg g, if_pos rfl]
theorem sub_ax {one two c : Int} (hc : 0 ≤ c ∧ c ≤ 1) :
    (if Builtin.bitAnd one 15 - Builtin.bitAnd two 15 - c < 0 then (1 : Int) else 0) = axS (one % 16 + -1 * (two % 16 + c)) := by
  rw [bitAnd_m4, bitAnd_m4]
  unfold axS
  split <;> split <;> omega
def FlSum (w : World) (o : Obj) (one two c way W d : Int) : Prop :=
  IsFl w o (cyS (one + way * (two + c)) W) (evn ((one + way * (two + c)) % W)) (axS (one % 16 + way * (two % 16 + c))) (zro ((one + way * (two + c)) % W)) (sgn ((one + way * (two + c)) % W) W) (ovS (sd one W + way * (sd two W + c)) W) d
theorem mod_in {size W : Int} (h : Sz size W) (x : Int) : 0 ≤ x % W ∧ x % W < W := by
  have := h.pos
  exact ⟨Int.emod_nonneg _ (by omega), Int.emod_lt_of_pos _ (by omega)⟩
set_option maxRecDepth 100000 in
set_option maxHeartbeats 8000000 in
theorem add_c (w : World) (mean : ExcName → Option Value) (mg mb : Str → Option Value) (rest : List (Addr × Obj)) (x dx : Addr) (o : Obj) (c p a z s f d u v y size W : Int) (tu tv ty ts : Tok) (hx : (x, instObj 169 dx) ∈ rest) (hap : ∀ q ∈ rest, q.1 ≠ dx) (ho : IsFl w o c p a z s f d) (hs : Sz size W) (hy : 0 ≤ y ∧ y ≤ 1) :
    Fn w mean mg mb 187 6 [.ref x, .int u tu, .int v tv, .int y ty, .int size ts] ((dx, o) :: rest) (fun r nx => ∃ o', nx = (dx, o') :: rest ∧ (∃ t, r = .int ((u % W + 1 * (v % W + y)) % W) t) ∧ FlSum w o' (u % W) (v % W) y 1 W d) := by
  unfold Fn
  k_with_none
  k_with "my room" => ((try dsimp only [depth_under_make, depth_under_kw, depth_in1, depth_deeper, depth_caller, ktrTop]); first | ((with_reducible rename _ + _ < recursionLimit => hRoom9); first | exact room2 hRoom9 rfl | exact room3 hRoom9 rfl | exact room1 hRoom9 rfl | exact room0 hRoom9) | decide)
  k_with "my units" => ((try dsimp only [units_in1, units_deeper, units_under_make, units_caller, ktrTop]); first | ((with_reducible rename _ + _ < cLine => hUnits9); first | exact room2 hUnits9 rfl | exact room3 hUnits9 rfl | exact room1 hUnits9 rfl | exact room0 hUnits9) | decide)
  k_with "subscriptTail Name Constant ref int" => (k_here; (with_reducible show wpAny _ _ (subscriptTail _ _ (Value.ref _) (Value.int _ _)) _ _ _); k_dflt (refine' my_item ?k1 ?k2 ?k3 ?k4 ?k5 ?_ ?k6; (case k1 => k_asm); (case k2 => k_mem); (case k3 => decide); (case k4 => decide); (case k5 => rfl); (case k6 => with_unfolding_all rfl); k_whole))
  k_with "binaryOp FloorDiv int int" => (k_here; (with_reducible refine floordiv_int ?kbe ?_ (Or.inl (PyProof.noPylong_of_log2 ?kbp))); (case kbe => first | decide | omega); (case kbp => (first | decide +kernel | exact my_log (by omega) (by omega))))
  k_with "my use" => ((case B => k_asm); (case F => k_asm); (case X => k_asm); (case N => k_asm); (case T => k_asm); (case hk => first | exact rfl | assumption); (case hd => walk_at "my room"); (case hu => walk_at "my units"); k_whole)
  k_with "my use2" => ((case B => k_asm); (case F => k_asm); (case X => k_asm); (case T => k_asm); (case hk => first | exact rfl | assumption); (case hd => walk_at "my room"); (case hu => walk_at "my units"); k_whole)
  k_with "binaryOp LShift int int" => (k_here; (with_reducible refine lshift_int_small ?kb1 ?kb2 ?kb3 ?_); (case kb1 => first | decide | omega); (case kb2 => first | decide | omega); (case kb3 => first | decide | exact bit_nat (by assumption) | omega))
  k_with "my enterC" => (refine' code_defC ?k1 ?k2 ?k3 ?k4 ?k5 ?kA ?kF ?kK ?k6 ?k7 ?k8 ?k9 ?kB ?kD ?_ ?c2 ?c3 ?c4; (case kA => exact rfl); (case kF => exact rfl); (case kK => assumption); (case k1 => k_asm); (case k2 => k_asm); (case k3 => k_asm); (case k4 => k_asm); (case k5 => k_asm); (case k6 => k_is); (case k7 => k_is); (case k8 => walk_at "my room"); (case k9 => exact BindsTo.of_eq rfl); (case kB => exact rfl); (case kD => decide +kernel); (case c2 => exact rfl); (case c3 => exact rfl); (case c4 => exact rfl); k_whole; intro g' L' h' tk' cells' FG' F' N' Y' B' X' T' l1; (try k_lt l1); k_cells Y'; (try simp only [List.cons_append, List.nil_append] at N'); (try dsimp only); (try k_lift B'); (try k_fold))
  k_with "my all" => (first | with_reducible assumption | exact my_ne1 (by with_reducible assumption) | (refine my_ne2 ?_; first | with_reducible assumption | exact And.right (by with_reducible assumption) | exact And.right (And.right (by with_reducible assumption)) | exact And.right (And.right (And.right (by with_reducible assumption)))))
  k_with "my ne" => (refine neN ?_; (try dsimp only); first | assumption | exact Nat.ne_of_lt (by assumption) | exact Nat.ne_of_gt (by assumption) | exact Ne.symm (by assumption))
  k_with "execs cons" => (k_here; (refine gen_toks ?_); intro tk9; (try dsimp only); refine wpAny_execs_cons ?_)
  k_with "eval BinOp" => (k_dflt (k_fold; walk1))
  k_with "eval Call" => (k_dflt (k_fold; walk1))
  k_with "eval Subscript" => (k_dflt (k_fold; walk1))
  k_with "eval List" => (k_dflt (k_fold; walk1))
  k_with "eval Tuple" => (k_dflt (k_fold; walk1))
  k_with "eval IfExp" => (k_dflt (k_fold; walk1))
  k_with "spliced" => (k_dflt (k_fold; walk1))
  k_with "eval Compare" => (k_dflt (k_fold; walk1))
  k_with "eval Call Attribute" => (k_dflt (k_fold; walk1))
  k_with "call ref" => (k_here; (with_reducible show wpAny _ _ (call (Value.ref 68) [Value.int _ _]) _ _ _); k_dflt (refine' Fn.use (mask_c _ _ _ _ _ _ _ _ ?hs) ?B ?F ?X ?N ?T ?hk ?hd ?hu ?_; (case hs => first | assumption | exact Sz.eight); walk_at "my use"); intro v9 x9 h9 tk9 P9 F9 N9; (obtain ⟨t9, e9, f9⟩ := P9); subst e9; (replace f9 := Eq.symm f9); subst f9; (try k_sweep))
  k_with "call ref" => (k_here; (with_reducible show wpAny _ _ (call (Value.ref 75) [Value.int _ _, Value.int _ _]) _ _ _); k_dflt (refine' Fn.use (wrap_c _ _ _ _ _ _ _ _ _ _ ?hs) ?B ?F ?X ?N ?T ?hk ?hd ?hu ?_; (case hs => first | assumption | exact Sz.eight); walk_at "my use"); intro v9 x9 h9 tk9 P9 F9 N9; (obtain ⟨t9, e9, f9⟩ := P9); subst e9; (replace f9 := Eq.symm f9); subst f9; (try k_sweep))
  k_with "call ref" => (k_here; (with_reducible show wpAny _ _ (call (Value.ref 82) [Value.int _ _, Value.int _ _]) _ _ _); k_dflt (refine' Fn.use (bit_c _ _ _ _ _ _ _ _ _ ?h0 ?h1) ?B ?F ?X ?N ?T ?hk ?hd ?hu ?_; (case h0 => omega); (case h1 => omega); walk_at "my use"); intro v9 x9 h9 tk9 P9 F9 N9; (obtain ⟨t9, e9, f9⟩ := P9); subst e9; (replace f9 := Eq.symm f9); subst f9; (try k_sweep))
  k_with "call ref" => (k_here; (with_reducible show wpAny _ _ (call (Value.ref 96) [Value.int _ _]) _ _ _); k_dflt (refine' Fn.use (parity_c _ _ _ _ _ _ _) ?B ?F ?X ?N ?T ?hk ?hd ?hu ?_; walk_at "my use"); intro v9 x9 h9 tk9 P9 F9 N9; (obtain ⟨t9, e9, f9⟩ := P9); subst e9; (replace f9 := Eq.symm f9); subst f9; (try k_sweep))
  k_with "call ref" => (k_here; (with_reducible show wpAny _ _ (call (Value.ref 180) [Value.ref _, Value.int _ _, Value.int _ _]) _ _ _); k_dflt (refine' Fn.use (szp_u ?U ?hx ?ho ?hs) ?B ?F ?X ?N ?T ?hk ?hd ?hu ?_; (case N => k_asm); (case hx => k_mem); (case U => k_updF); (case ho => first | assumption | exact isFl_mk rfl rfl rfl rfl rfl rfl rfl); (case hs => assumption); walk_at "my use2"); intro v9 x9 h9 tk9 P9 F9 N9; (obtain ⟨o9, f9, ⟨t9, e9⟩, g9⟩ := P9); subst e9; (replace f9 := Eq.symm f9); subst f9; (try unfold FlSum at g9); (unfold IsFl at g9); (obtain ⟨ka, va, q9⟩ := g9); subst q9; (try dsimp only at N9); (try k_sweep))
  k_fill
  intro dp un gd cn cs ad ccd cl outer A₀ base h₀ L m s Q E B F X N T hk hd hu hret
  have hlo := hs.lo
  refine wpAny_call ?_
  k_dflt cell_enter
  k_steps
  all_goals (
    have e : u % W + 1 * (v % W + y) = u % W + v % W + y := by omega
    (rename News _ _ _ _ => nE)
    have nT := News.tail' nE
    refine' hret _ ((dx, _) :: rest) _ _ ?P ?F ?N
    case N => exact nT
    case F => k_asm
    case P => exact ⟨_, rfl, ⟨_, by rw [e]⟩, isFl_mk (add_cy hs (mod_in hs _) (mod_in hs _) hy) (by rw [e]) (add_ax hy) (by rw [e]) (by rw [e]) (add_ov hs (mod_in hs _) (mod_in hs _) hy) rfl⟩)
theorem add_u {w : World} {mean : ExcName → Option Value} {mg mb : Str → Option Value} {led : List (Addr × Obj)} {upd : Obj → List (Addr × Obj)} {x dx : Addr} {o : Obj} {c p a z s f d u v y size W : Int} {tu tv ty ts : Tok} (U : UpdF dx o led upd) (hx : (x, instObj 169 dx) ∈ led) (ho : IsFl w o c p a z s f d) (hs : Sz size W) (hy : 0 ≤ y ∧ y ≤ 1) :
    Fn w mean mg mb 187 6 [.ref x, .int u tu, .int v tv, .int y ty, .int size ts] led (fun r nx => ∃ o', nx = upd o' ∧ (∃ t, r = .int ((u % W + 1 * (v % W + y)) % W) t) ∧ FlSum w o' (u % W) (v % W) y 1 W d) :=
  Fn.at U fun rest hap hin => add_c w mean mg mb rest x dx o c p a z s f d u v y size W tu tv ty ts (hin _ hx ho.other) hap ho hs hy

set_option maxRecDepth 100000 in
set_option maxHeartbeats 8000000 in
theorem sub_c (w : World) (mean : ExcName → Option Value) (mg mb : Str → Option Value) (rest : List (Addr × Obj)) (x dx : Addr) (o : Obj) (c p a z s f d u v y size W : Int) (tu tv ty ts : Tok) (hx : (x, instObj 169 dx) ∈ rest) (hap : ∀ q ∈ rest, q.1 ≠ dx) (ho : IsFl w o c p a z s f d) (hs : Sz size W) (hy : 0 ≤ y ∧ y ≤ 1) :
    Fn w mean mg mb 194 6 [.ref x, .int u tu, .int v tv, .int y ty, .int size ts] ((dx, o) :: rest) (fun r nx => ∃ o', nx = (dx, o') :: rest ∧ (∃ t, r = .int ((u % W + -1 * (v % W + y)) % W) t) ∧ FlSum w o' (u % W) (v % W) y (-1) W d) := by
  unfold Fn
  k_with_none
  k_with "my room" => ((try dsimp only [depth_under_make, depth_under_kw, depth_in1, depth_deeper, depth_caller, ktrTop]); first | ((with_reducible rename _ + _ < recursionLimit => hRoom9); first | exact room2 hRoom9 rfl | exact room3 hRoom9 rfl | exact room1 hRoom9 rfl | exact room0 hRoom9) | decide)
  k_with "my units" => ((try dsimp only [units_in1, units_deeper, units_under_make, units_caller, ktrTop]); first | ((with_reducible rename _ + _ < cLine => hUnits9); first | exact room2 hUnits9 rfl | exact room3 hUnits9 rfl | exact room1 hUnits9 rfl | exact room0 hUnits9) | decide)
  k_with "subscriptTail Name Constant ref int" => (k_here; (with_reducible show wpAny _ _ (subscriptTail _ _ (Value.ref _) (Value.int _ _)) _ _ _); k_dflt (refine' my_item ?k1 ?k2 ?k3 ?k4 ?k5 ?_ ?k6; (case k1 => k_asm); (case k2 => k_mem); (case k3 => decide); (case k4 => decide); (case k5 => rfl); (case k6 => with_unfolding_all rfl); k_whole))
  k_with "binaryOp FloorDiv int int" => (k_here; (with_reducible refine floordiv_int ?kbe ?_ (Or.inl (PyProof.noPylong_of_log2 ?kbp))); (case kbe => first | decide | omega); (case kbp => (first | decide +kernel | exact my_log (by omega) (by omega))))
  k_with "my use" => ((case B => k_asm); (case F => k_asm); (case X => k_asm); (case N => k_asm); (case T => k_asm); (case hk => first | exact rfl | assumption); (case hd => walk_at "my room"); (case hu => walk_at "my units"); k_whole)
  k_with "my use2" => ((case B => k_asm); (case F => k_asm); (case X => k_asm); (case T => k_asm); (case hk => first | exact rfl | assumption); (case hd => walk_at "my room"); (case hu => walk_at "my units"); k_whole)
  k_with "binaryOp LShift int int" => (k_here; (with_reducible refine lshift_int_small ?kb1 ?kb2 ?kb3 ?_); (case kb1 => first | decide | omega); (case kb2 => first | decide | omega); (case kb3 => first | decide | exact bit_nat (by assumption) | omega))
  k_with "my enterC" => (refine' code_defC ?k1 ?k2 ?k3 ?k4 ?k5 ?kA ?kF ?kK ?k6 ?k7 ?k8 ?k9 ?kB ?kD ?_ ?c2 ?c3 ?c4; (case kA => exact rfl); (case kF => exact rfl); (case kK => assumption); (case k1 => k_asm); (case k2 => k_asm); (case k3 => k_asm); (case k4 => k_asm); (case k5 => k_asm); (case k6 => k_is); (case k7 => k_is); (case k8 => walk_at "my room"); (case k9 => exact BindsTo.of_eq rfl); (case kB => exact rfl); (case kD => decide +kernel); (case c2 => exact rfl); (case c3 => exact rfl); (case c4 => exact rfl); k_whole; intro g' L' h' tk' cells' FG' F' N' Y' B' X' T' l1; (try k_lt l1); k_cells Y'; (try simp only [List.cons_append, List.nil_append] at N'); (try dsimp only); (try k_lift B'); (try k_fold))
  k_with "my all" => (first | with_reducible assumption | exact my_ne1 (by with_reducible assumption) | (refine my_ne2 ?_; first | with_reducible assumption | exact And.right (by with_reducible assumption) | exact And.right (And.right (by with_reducible assumption)) | exact And.right (And.right (And.right (by with_reducible assumption)))))
  k_with "my ne" => (refine neN ?_; (try dsimp only); first | assumption | exact Nat.ne_of_lt (by assumption) | exact Nat.ne_of_gt (by assumption) | exact Ne.symm (by assumption))
  k_with "execs cons" => (k_here; (refine gen_toks ?_); intro tk9; (try dsimp only); refine wpAny_execs_cons ?_)
  k_with "eval BinOp" => (k_dflt (k_fold; walk1))
  k_with "eval Call" => (k_dflt (k_fold; walk1))
  k_with "eval Subscript" => (k_dflt (k_fold; walk1))
  k_with "eval List" => (k_dflt (k_fold; walk1))
  k_with "eval Tuple" => (k_dflt (k_fold; walk1))
  k_with "eval IfExp" => (k_dflt (k_fold; walk1))
  k_with "spliced" => (k_dflt (k_fold; walk1))
  k_with "eval Compare" => (k_dflt (k_fold; walk1))
  k_with "eval Call Attribute" => (k_dflt (k_fold; walk1))
  k_with "call ref" => (k_here; (with_reducible show wpAny _ _ (call (Value.ref 68) [Value.int _ _]) _ _ _); k_dflt (refine' Fn.use (mask_c _ _ _ _ _ _ _ _ ?hs) ?B ?F ?X ?N ?T ?hk ?hd ?hu ?_; (case hs => first | assumption | exact Sz.eight); walk_at "my use"); intro v9 x9 h9 tk9 P9 F9 N9; (obtain ⟨t9, e9, f9⟩ := P9); subst e9; (replace f9 := Eq.symm f9); subst f9; (try k_sweep))
  k_with "call ref" => (k_here; (with_reducible show wpAny _ _ (call (Value.ref 75) [Value.int _ _, Value.int _ _]) _ _ _); k_dflt (refine' Fn.use (wrap_c _ _ _ _ _ _ _ _ _ _ ?hs) ?B ?F ?X ?N ?T ?hk ?hd ?hu ?_; (case hs => first | assumption | exact Sz.eight); walk_at "my use"); intro v9 x9 h9 tk9 P9 F9 N9; (obtain ⟨t9, e9, f9⟩ := P9); subst e9; (replace f9 := Eq.symm f9); subst f9; (try k_sweep))
  k_with "call ref" => (k_here; (with_reducible show wpAny _ _ (call (Value.ref 82) [Value.int _ _, Value.int _ _]) _ _ _); k_dflt (refine' Fn.use (bit_c _ _ _ _ _ _ _ _ _ ?h0 ?h1) ?B ?F ?X ?N ?T ?hk ?hd ?hu ?_; (case h0 => omega); (case h1 => omega); walk_at "my use"); intro v9 x9 h9 tk9 P9 F9 N9; (obtain ⟨t9, e9, f9⟩ := P9); subst e9; (replace f9 := Eq.symm f9); subst f9; (try k_sweep))
  k_with "call ref" => (k_here; (with_reducible show wpAny _ _ (call (Value.ref 96) [Value.int _ _]) _ _ _); k_dflt (refine' Fn.use (parity_c _ _ _ _ _ _ _) ?B ?F ?X ?N ?T ?hk ?hd ?hu ?_; walk_at "my use"); intro v9 x9 h9 tk9 P9 F9 N9; (obtain ⟨t9, e9, f9⟩ := P9); subst e9; (replace f9 := Eq.symm f9); subst f9; (try k_sweep))
  k_with "call ref" => (k_here; (with_reducible show wpAny _ _ (call (Value.ref 180) [Value.ref _, Value.int _ _, Value.int _ _]) _ _ _); k_dflt (refine' Fn.use (szp_u ?U ?hx ?ho ?hs) ?B ?F ?X ?N ?T ?hk ?hd ?hu ?_; (case N => k_asm); (case hx => k_mem); (case U => k_updF); (case ho => first | assumption | exact isFl_mk rfl rfl rfl rfl rfl rfl rfl); (case hs => assumption); walk_at "my use2"); intro v9 x9 h9 tk9 P9 F9 N9; (obtain ⟨o9, f9, ⟨t9, e9⟩, g9⟩ := P9); subst e9; (replace f9 := Eq.symm f9); subst f9; (try unfold FlSum at g9); (unfold IsFl at g9); (obtain ⟨ka, va, q9⟩ := g9); subst q9; (try dsimp only at N9); (try k_sweep))
  k_fill
  intro dp un gd cn cs ad ccd cl outer A₀ base h₀ L m s Q E B F X N T hk hd hu hret
  have hlo := hs.lo
  refine wpAny_call ?_
  k_dflt cell_enter
  k_steps
  all_goals (
    have e : u % W + -1 * (v % W + y) = u % W - v % W - y := by omega
    have ecy := sub_cy hs (mod_in hs u) (mod_in hs v) hy
    have eax := sub_ax (one := u % W) (two := v % W) hy
    (rename News _ _ _ _ => nE)
    have nT := News.tail' nE
    refine' hret _ ((dx, _) :: rest) _ _ ?P ?F ?N
    case N => exact nT
    case F => k_asm
    case P => exact ⟨_, rfl, ⟨_, by rw [e]⟩, isFl_mk (by rw [← ecy]; split <;> first | rfl | omega) (by rw [e]) (by rw [← eax]; split <;> first | rfl | omega) (by rw [e]) (by rw [e]) (sub_ov hs (mod_in hs _) (mod_in hs _) hy) rfl⟩)
theorem sub_u {w : World} {mean : ExcName → Option Value} {mg mb : Str → Option Value} {led : List (Addr × Obj)} {upd : Obj → List (Addr × Obj)} {x dx : Addr} {o : Obj} {c p a z s f d u v y size W : Int} {tu tv ty ts : Tok} (U : UpdF dx o led upd) (hx : (x, instObj 169 dx) ∈ led) (ho : IsFl w o c p a z s f d) (hs : Sz size W) (hy : 0 ≤ y ∧ y ≤ 1) :
    Fn w mean mg mb 194 6 [.ref x, .int u tu, .int v tv, .int y ty, .int size ts] led (fun r nx => ∃ o', nx = upd o' ∧ (∃ t, r = .int ((u % W + -1 * (v % W + y)) % W) t) ∧ FlSum w o' (u % W) (v % W) y (-1) W d) :=
  Fn.at U fun rest hap hin => sub_c w mean mg mb rest x dx o c p a z s f d u v y size W tu tv ty ts (hin _ hx ho.other) hap ho hs hy

def FlSumC (w : World) (o : Obj) (c0 one two c way W d : Int) : Prop :=
  IsFl w o c0 (evn ((one + way * (two + c)) % W)) (axS (one % 16 + way * (two % 16 + c))) (zro ((one + way * (two + c)) % W)) (sgn ((one + way * (two + c)) % W) W) (ovS (sd one W + way * (sd two W + c)) W) d
theorem one_mod {size W : Int} (h : Sz size W) : (1 : Int) % W = 1 := by
  rcases h with ⟨rfl, rfl⟩ | ⟨rfl, rfl⟩ | ⟨rfl, rfl⟩ | ⟨rfl, rfl⟩ <;> rfl
theorem nil_mod {W : Int} : (0 : Int) % W = 0 := Int.zero_emod W
set_option maxRecDepth 100000 in
set_option maxHeartbeats 8000000 in
theorem inc_c (w : World) (mean : ExcName → Option Value) (mg mb : Str → Option Value) (rest : List (Addr × Obj)) (x dx : Addr) (o : Obj) (c p a z s f d u size W : Int) (tu ts : Tok) (hx : (x, instObj 169 dx) ∈ rest) (hap : ∀ q ∈ rest, q.1 ≠ dx) (ho : IsFl w o c p a z s f d) (hs : Sz size W) :
    Fn w mean mg mb 208 7 [.ref x, .int u tu, .int size ts] ((dx, o) :: rest) (fun r nx => ∃ o', nx = (dx, o') :: rest ∧ (∃ t, r = .int ((u % W + 1 * (1 + 0)) % W) t) ∧ FlSumC w o' c (u % W) 1 0 1 W d) := by
  obtain ⟨kk, tt, rfl⟩ := ho
  unfold Fn
  k_with_none
  k_with "my room" => ((try dsimp only [depth_under_make, depth_under_kw, depth_in1, depth_deeper, depth_caller, ktrTop]); first | ((with_reducible rename _ + _ < recursionLimit => hRoom9); first | exact room2 hRoom9 rfl | exact room3 hRoom9 rfl | exact room1 hRoom9 rfl | exact room0 hRoom9) | decide)
  k_with "my units" => ((try dsimp only [units_in1, units_deeper, units_under_make, units_caller, ktrTop]); first | ((with_reducible rename _ + _ < cLine => hUnits9); first | exact room2 hUnits9 rfl | exact room3 hUnits9 rfl | exact room1 hUnits9 rfl | exact room0 hUnits9) | decide)
  k_with "subscriptTail Name Constant ref int" => (k_here; (with_reducible show wpAny _ _ (subscriptTail _ _ (Value.ref _) (Value.int _ _)) _ _ _); k_dflt (refine' my_item ?k1 ?k2 ?k3 ?k4 ?k5 ?_ ?k6; (case k1 => k_asm); (case k2 => k_mem); (case k3 => decide); (case k4 => decide); (case k5 => rfl); (case k6 => with_unfolding_all rfl); k_whole))
  k_with "binaryOp FloorDiv int int" => (k_here; (with_reducible refine floordiv_int ?kbe ?_ (Or.inl (PyProof.noPylong_of_log2 ?kbp))); (case kbe => first | decide | omega); (case kbp => (first | decide +kernel | exact my_log (by omega) (by omega))))
  k_with "my use" => ((case B => k_asm); (case F => k_asm); (case X => k_asm); (case N => k_asm); (case T => k_asm); (case hk => first | exact rfl | assumption); (case hd => walk_at "my room"); (case hu => walk_at "my units"); k_whole)
  k_with "my use2" => ((case B => k_asm); (case F => k_asm); (case X => k_asm); (case T => k_asm); (case hk => first | exact rfl | assumption); (case hd => walk_at "my room"); (case hu => walk_at "my units"); k_whole)
  k_with "binaryOp LShift int int" => (k_here; (with_reducible refine lshift_int_small ?kb1 ?kb2 ?kb3 ?_); (case kb1 => first | decide | omega); (case kb2 => first | decide | omega); (case kb3 => first | decide | exact bit_nat (by assumption) | omega))
  k_with "my enterC" => (refine' code_defC ?k1 ?k2 ?k3 ?k4 ?k5 ?kA ?kF ?kK ?k6 ?k7 ?k8 ?k9 ?kB ?kD ?_ ?c2 ?c3 ?c4; (case kA => exact rfl); (case kF => exact rfl); (case kK => assumption); (case k1 => k_asm); (case k2 => k_asm); (case k3 => k_asm); (case k4 => k_asm); (case k5 => k_asm); (case k6 => k_is); (case k7 => k_is); (case k8 => walk_at "my room"); (case k9 => exact BindsTo.of_eq rfl); (case kB => exact rfl); (case kD => decide +kernel); (case c2 => exact rfl); (case c3 => exact rfl); (case c4 => exact rfl); k_whole; intro g' L' h' tk' cells' FG' F' N' Y' B' X' T' l1; (try k_lt l1); k_cells Y'; (try simp only [List.cons_append, List.nil_append] at N'); (try dsimp only); (try k_lift B'); (try k_fold))
  k_with "my all" => (first | with_reducible assumption | exact my_ne1 (by with_reducible assumption) | (refine my_ne2 ?_; first | with_reducible assumption | exact And.right (by with_reducible assumption) | exact And.right (And.right (by with_reducible assumption)) | exact And.right (And.right (And.right (by with_reducible assumption)))))
  k_with "my ne" => (refine neN ?_; (try dsimp only); first | assumption | exact Nat.ne_of_lt (by assumption) | exact Nat.ne_of_gt (by assumption) | exact Ne.symm (by assumption))
  k_with "execs cons" => (k_here; (refine gen_toks ?_); intro tk9; (try dsimp only); refine wpAny_execs_cons ?_)
  k_with "eval BinOp" => (k_dflt (k_fold; walk1))
  k_with "eval Call" => (k_dflt (k_fold; walk1))
  k_with "eval Subscript" => (k_dflt (k_fold; walk1))
  k_with "eval List" => (k_dflt (k_fold; walk1))
  k_with "eval Tuple" => (k_dflt (k_fold; walk1))
  k_with "eval IfExp" => (k_dflt (k_fold; walk1))
  k_with "spliced" => (k_dflt (k_fold; walk1))
  k_with "eval Compare" => (k_dflt (k_fold; walk1))
  k_with "eval Call Attribute" => (k_dflt (k_fold; walk1))
  k_with "call ref" => (k_here; (with_reducible show wpAny _ _ (call (Value.ref 68) [Value.int _ _]) _ _ _); k_dflt (refine' Fn.use (mask_c _ _ _ _ _ _ _ _ ?hs) ?B ?F ?X ?N ?T ?hk ?hd ?hu ?_; (case hs => first | assumption | exact Sz.eight); walk_at "my use"); intro v9 x9 h9 tk9 P9 F9 N9; (obtain ⟨t9, e9, f9⟩ := P9); subst e9; (replace f9 := Eq.symm f9); subst f9; (try k_sweep))
  k_with "call ref" => (k_here; (with_reducible show wpAny _ _ (call (Value.ref 75) [Value.int _ _, Value.int _ _]) _ _ _); k_dflt (refine' Fn.use (wrap_c _ _ _ _ _ _ _ _ _ _ ?hs) ?B ?F ?X ?N ?T ?hk ?hd ?hu ?_; (case hs => first | assumption | exact Sz.eight); walk_at "my use"); intro v9 x9 h9 tk9 P9 F9 N9; (obtain ⟨t9, e9, f9⟩ := P9); subst e9; (replace f9 := Eq.symm f9); subst f9; (try k_sweep))
  k_with "call ref" => (k_here; (with_reducible show wpAny _ _ (call (Value.ref 82) [Value.int _ _, Value.int _ _]) _ _ _); k_dflt (refine' Fn.use (bit_c _ _ _ _ _ _ _ _ _ ?h0 ?h1) ?B ?F ?X ?N ?T ?hk ?hd ?hu ?_; (case h0 => omega); (case h1 => omega); walk_at "my use"); intro v9 x9 h9 tk9 P9 F9 N9; (obtain ⟨t9, e9, f9⟩ := P9); subst e9; (replace f9 := Eq.symm f9); subst f9; (try k_sweep))
  k_with "call ref" => (k_here; (with_reducible show wpAny _ _ (call (Value.ref 96) [Value.int _ _]) _ _ _); k_dflt (refine' Fn.use (parity_c _ _ _ _ _ _ _) ?B ?F ?X ?N ?T ?hk ?hd ?hu ?_; walk_at "my use"); intro v9 x9 h9 tk9 P9 F9 N9; (obtain ⟨t9, e9, f9⟩ := P9); subst e9; (replace f9 := Eq.symm f9); subst f9; (try k_sweep))
  k_with "call ref" => (k_here; (with_reducible show wpAny _ _ (call (Value.ref 180) [Value.ref _, Value.int _ _, Value.int _ _]) _ _ _); k_dflt (refine' Fn.use (szp_u ?U ?hx ?ho ?hs) ?B ?F ?X ?N ?T ?hk ?hd ?hu ?_; (case N => k_asm); (case hx => k_mem); (case U => k_updF); (case ho => first | assumption | exact isFl_mk rfl rfl rfl rfl rfl rfl rfl); (case hs => assumption); walk_at "my use2"); intro v9 x9 h9 tk9 P9 F9 N9; (obtain ⟨o9, f9, ⟨t9, e9⟩, g9⟩ := P9); subst e9; (replace f9 := Eq.symm f9); subst f9; (try unfold FlSum at g9); (unfold IsFl at g9); (obtain ⟨ka, va, q9⟩ := g9); subst q9; (try dsimp only at N9); (try k_sweep))
  k_with "call ref" => (k_here; (with_reducible show wpAny _ _ (call (Value.ref 187) [Value.ref _, Value.int _ _, Value.int _ _, Value.int _ _, Value.int _ _]) _ _ _); k_dflt (refine' Fn.use (add_u ?U ?hx ?ho ?hs ?hy) ?B ?F ?X ?N ?T ?hk ?hd ?hu ?_; (case N => k_asm); (case hx => k_mem); (case U => k_updF); (case ho => first | assumption | exact isFl_mk rfl rfl rfl rfl rfl rfl rfl); (case hs => assumption); (case hy => omega); walk_at "my use2"); intro v9 x9 h9 tk9 P9 F9 N9; (obtain ⟨o9, f9, ⟨t9, e9⟩, g9⟩ := P9); subst e9; (replace f9 := Eq.symm f9); subst f9; (try unfold FlSum at g9); (unfold IsFl at g9); (obtain ⟨ka, va, q9⟩ := g9); subst q9; (try dsimp only at N9); (try k_sweep))
  k_with "call ref" => (k_here; (with_reducible show wpAny _ _ (call (Value.ref 194) [Value.ref _, Value.int _ _, Value.int _ _, Value.int _ _, Value.int _ _]) _ _ _); k_dflt (refine' Fn.use (sub_u ?U ?hx ?ho ?hs ?hy) ?B ?F ?X ?N ?T ?hk ?hd ?hu ?_; (case N => k_asm); (case hx => k_mem); (case U => k_updF); (case ho => first | assumption | exact isFl_mk rfl rfl rfl rfl rfl rfl rfl); (case hs => assumption); (case hy => omega); walk_at "my use2"); intro v9 x9 h9 tk9 P9 F9 N9; (obtain ⟨o9, f9, ⟨t9, e9⟩, g9⟩ := P9); subst e9; (replace f9 := Eq.symm f9); subst f9; (try unfold FlSum at g9); (unfold IsFl at g9); (obtain ⟨ka, va, q9⟩ := g9); subst q9; (try dsimp only at N9); (try k_sweep))
  k_fill
  intro dp un gd cn cs ad ccd cl outer A₀ base h₀ L m s Q E B F X N T hk hd hu hret
  have hlo := hs.lo
  have e1 := one_mod hs
  refine wpAny_call ?_
  k_dflt cell_enter
  k_steps
  all_goals (
    (rename News _ _ _ _ => nE)
    refine' hret _ ((dx, _) :: rest) _ _ ?P ?F ?N
    case N => exact nE
    case F => k_asm
    case P => exact ⟨_, rfl, ⟨_, by rw [e1]⟩, isFl_mk rfl (by rw [e1]) (by rw [e1]) (by rw [e1]) (by rw [e1]) (by rw [e1]) rfl⟩)
theorem inc_u {w : World} {mean : ExcName → Option Value} {mg mb : Str → Option Value} {led : List (Addr × Obj)} {upd : Obj → List (Addr × Obj)} {x dx : Addr} {o : Obj} {c p a z s f d u size W : Int} {tu ts : Tok} (U : UpdF dx o led upd) (hx : (x, instObj 169 dx) ∈ led) (ho : IsFl w o c p a z s f d) (hs : Sz size W) :
    Fn w mean mg mb 208 7 [.ref x, .int u tu, .int size ts] led (fun r nx => ∃ o', nx = upd o' ∧ (∃ t, r = .int ((u % W + 1 * (1 + 0)) % W) t) ∧ FlSumC w o' c (u % W) 1 0 1 W d) :=
  Fn.at U fun rest hap hin => inc_c w mean mg mb rest x dx o c p a z s f d u size W tu ts (hin _ hx ho.other) hap ho hs
set_option maxRecDepth 100000 in
set_option maxHeartbeats 8000000 in
theorem dec_c (w : World) (mean : ExcName → Option Value) (mg mb : Str → Option Value) (rest : List (Addr × Obj)) (x dx : Addr) (o : Obj) (c p a z s f d u size W : Int) (tu ts : Tok) (hx : (x, instObj 169 dx) ∈ rest) (hap : ∀ q ∈ rest, q.1 ≠ dx) (ho : IsFl w o c p a z s f d) (hs : Sz size W) :
    Fn w mean mg mb 215 7 [.ref x, .int u tu, .int size ts] ((dx, o) :: rest) (fun r nx => ∃ o', nx = (dx, o') :: rest ∧ (∃ t, r = .int ((u % W + -1 * (1 + 0)) % W) t) ∧ FlSumC w o' c (u % W) 1 0 (-1) W d) := by
  obtain ⟨kk, tt, rfl⟩ := ho
  unfold Fn
  k_with_none
  k_with "my room" => ((try dsimp only [depth_under_make, depth_under_kw, depth_in1, depth_deeper, depth_caller, ktrTop]); first | ((with_reducible rename _ + _ < recursionLimit => hRoom9); first | exact room2 hRoom9 rfl | exact room3 hRoom9 rfl | exact room1 hRoom9 rfl | exact room0 hRoom9) | decide)
  k_with "my units" => ((try dsimp only [units_in1, units_deeper, units_under_make, units_caller, ktrTop]); first | ((with_reducible rename _ + _ < cLine => hUnits9); first | exact room2 hUnits9 rfl | exact room3 hUnits9 rfl | exact room1 hUnits9 rfl | exact room0 hUnits9) | decide)
  k_with "subscriptTail Name Constant ref int" => (k_here; (with_reducible show wpAny _ _ (subscriptTail _ _ (Value.ref _) (Value.int _ _)) _ _ _); k_dflt (refine' my_item ?k1 ?k2 ?k3 ?k4 ?k5 ?_ ?k6; (case k1 => k_asm); (case k2 => k_mem); (case k3 => decide); (case k4 => decide); (case k5 => rfl); (case k6 => with_unfolding_all rfl); k_whole))
  k_with "binaryOp FloorDiv int int" => (k_here; (with_reducible refine floordiv_int ?kbe ?_ (Or.inl (PyProof.noPylong_of_log2 ?kbp))); (case kbe => first | decide | omega); (case kbp => (first | decide +kernel | exact my_log (by omega) (by omega))))
  k_with "my use" => ((case B => k_asm); (case F => k_asm); (case X => k_asm); (case N => k_asm); (case T => k_asm); (case hk => first | exact rfl | assumption); (case hd => walk_at "my room"); (case hu => walk_at "my units"); k_whole)
  k_with "my use2" => ((case B => k_asm); (case F => k_asm); (case X => k_asm); (case T => k_asm); (case hk => first | exact rfl | assumption); (case hd => walk_at "my room"); (case hu => walk_at "my units"); k_whole)
  k_with "binaryOp LShift int int" => (k_here; (with_reducible refine lshift_int_small ?kb1 ?kb2 ?kb3 ?_); (case kb1 => first | decide | omega); (case kb2 => first | decide | omega); (case kb3 => first | decide | exact bit_nat (by assumption) | omega))
  k_with "my enterC" => (refine' code_defC ?k1 ?k2 ?k3 ?k4 ?k5 ?kA ?kF ?kK ?k6 ?k7 ?k8 ?k9 ?kB ?kD ?_ ?c2 ?c3 ?c4; (case kA => exact rfl); (case kF => exact rfl); (case kK => assumption); (case k1 => k_asm); (case k2 => k_asm); (case k3 => k_asm); (case k4 => k_asm); (case k5 => k_asm); (case k6 => k_is); (case k7 => k_is); (case k8 => walk_at "my room"); (case k9 => exact BindsTo.of_eq rfl); (case kB => exact rfl); (case kD => decide +kernel); (case c2 => exact rfl); (case c3 => exact rfl); (case c4 => exact rfl); k_whole; intro g' L' h' tk' cells' FG' F' N' Y' B' X' T' l1; (try k_lt l1); k_cells Y'; (try simp only [List.cons_append, List.nil_append] at N'); (try dsimp only); (try k_lift B'); (try k_fold))
  k_with "my all" => (first | with_reducible assumption | exact my_ne1 (by with_reducible assumption) | (refine my_ne2 ?_; first | with_reducible assumption | exact And.right (by with_reducible assumption) | exact And.right (And.right (by with_reducible assumption)) | exact And.right (And.right (And.right (by with_reducible assumption)))))
  k_with "my ne" => (refine neN ?_; (try dsimp only); first | assumption | exact Nat.ne_of_lt (by assumption) | exact Nat.ne_of_gt (by assumption) | exact Ne.symm (by assumption))
  k_with "execs cons" => (k_here; (refine gen_toks ?_); intro tk9; (try dsimp only); refine wpAny_execs_cons ?_)
  k_with "eval BinOp" => (k_dflt (k_fold; walk1))
  k_with "eval Call" => (k_dflt (k_fold; walk1))
  k_with "eval Subscript" => (k_dflt (k_fold; walk1))
  k_with "eval List" => (k_dflt (k_fold; walk1))
  k_with "eval Tuple" => (k_dflt (k_fold; walk1))
  k_with "eval IfExp" => (k_dflt (k_fold; walk1))
  k_with "spliced" => (k_dflt (k_fold; walk1))
  k_with "eval Compare" => (k_dflt (k_fold; walk1))
  k_with "eval Call Attribute" => (k_dflt (k_fold; walk1))
  k_with "call ref" => (k_here; (with_reducible show wpAny _ _ (call (Value.ref 68) [Value.int _ _]) _ _ _); k_dflt (refine' Fn.use (mask_c _ _ _ _ _ _ _ _ ?hs) ?B ?F ?X ?N ?T ?hk ?hd ?hu ?_; (case hs => first | assumption | exact Sz.eight); walk_at "my use"); intro v9 x9 h9 tk9 P9 F9 N9; (obtain ⟨t9, e9, f9⟩ := P9); subst e9; (replace f9 := Eq.symm f9); subst f9; (try k_sweep))
  k_with "call ref" => (k_here; (with_reducible show wpAny _ _ (call (Value.ref 75) [Value.int _ _, Value.int _ _]) _ _ _); k_dflt (refine' Fn.use (wrap_c _ _ _ _ _ _ _ _ _ _ ?hs) ?B ?F ?X ?N ?T ?hk ?hd ?hu ?_; (case hs => first | assumption | exact Sz.eight); walk_at "my use"); intro v9 x9 h9 tk9 P9 F9 N9; (obtain ⟨t9, e9, f9⟩ := P9); subst e9; (replace f9 := Eq.symm f9); subst f9; (try k_sweep))
  k_with "call ref" => (k_here; (with_reducible show wpAny _ _ (call (Value.ref 82) [Value.int _ _, Value.int _ _]) _ _ _); k_dflt (refine' Fn.use (bit_c _ _ _ _ _ _ _ _ _ ?h0 ?h1) ?B ?F ?X ?N ?T ?hk ?hd ?hu ?_; (case h0 => omega); (case h1 => omega); walk_at "my use"); intro v9 x9 h9 tk9 P9 F9 N9; (obtain ⟨t9, e9, f9⟩ := P9); subst e9; (replace f9 := Eq.symm f9); subst f9; (try k_sweep))
  k_with "call ref" => (k_here; (with_reducible show wpAny _ _ (call (Value.ref 96) [Value.int _ _]) _ _ _); k_dflt (refine' Fn.use (parity_c _ _ _ _ _ _ _) ?B ?F ?X ?N ?T ?hk ?hd ?hu ?_; walk_at "my use"); intro v9 x9 h9 tk9 P9 F9 N9; (obtain ⟨t9, e9, f9⟩ := P9); subst e9; (replace f9 := Eq.symm f9); subst f9; (try k_sweep))
  k_with "call ref" => (k_here; (with_reducible show wpAny _ _ (call (Value.ref 180) [Value.ref _, Value.int _ _, Value.int _ _]) _ _ _); k_dflt (refine' Fn.use (szp_u ?U ?hx ?ho ?hs) ?B ?F ?X ?N ?T ?hk ?hd ?hu ?_; (case N => k_asm); (case hx => k_mem); (case U => k_updF); (case ho => first | assumption | exact isFl_mk rfl rfl rfl rfl rfl rfl rfl); (case hs => assumption); walk_at "my use2"); intro v9 x9 h9 tk9 P9 F9 N9; (obtain ⟨o9, f9, ⟨t9, e9⟩, g9⟩ := P9); subst e9; (replace f9 := Eq.symm f9); subst f9; (try unfold FlSum at g9); (unfold IsFl at g9); (obtain ⟨ka, va, q9⟩ := g9); subst q9; (try dsimp only at N9); (try k_sweep))
  k_with "call ref" => (k_here; (with_reducible show wpAny _ _ (call (Value.ref 187) [Value.ref _, Value.int _ _, Value.int _ _, Value.int _ _, Value.int _ _]) _ _ _); k_dflt (refine' Fn.use (add_u ?U ?hx ?ho ?hs ?hy) ?B ?F ?X ?N ?T ?hk ?hd ?hu ?_; (case N => k_asm); (case hx => k_mem); (case U => k_updF); (case ho => first | assumption | exact isFl_mk rfl rfl rfl rfl rfl rfl rfl); (case hs => assumption); (case hy => omega); walk_at "my use2"); intro v9 x9 h9 tk9 P9 F9 N9; (obtain ⟨o9, f9, ⟨t9, e9⟩, g9⟩ := P9); subst e9; (replace f9 := Eq.symm f9); subst f9; (try unfold FlSum at g9); (unfold IsFl at g9); (obtain ⟨ka, va, q9⟩ := g9); subst q9; (try dsimp only at N9); (try k_sweep))
  k_with "call ref" => (k_here; (with_reducible show wpAny _ _ (call (Value.ref 194) [Value.ref _, Value.int _ _, Value.int _ _, Value.int _ _, Value.int _ _]) _ _ _); k_dflt (refine' Fn.use (sub_u ?U ?hx ?ho ?hs ?hy) ?B ?F ?X ?N ?T ?hk ?hd ?hu ?_; (case N => k_asm); (case hx => k_mem); (case U => k_updF); (case ho => first | assumption | exact isFl_mk rfl rfl rfl rfl rfl rfl rfl); (case hs => assumption); (case hy => omega); walk_at "my use2"); intro v9 x9 h9 tk9 P9 F9 N9; (obtain ⟨o9, f9, ⟨t9, e9⟩, g9⟩ := P9); subst e9; (replace f9 := Eq.symm f9); subst f9; (try unfold FlSum at g9); (unfold IsFl at g9); (obtain ⟨ka, va, q9⟩ := g9); subst q9; (try dsimp only at N9); (try k_sweep))
  k_fill
  intro dp un gd cn cs ad ccd cl outer A₀ base h₀ L m s Q E B F X N T hk hd hu hret
  have hlo := hs.lo
  have e1 := one_mod hs
  refine wpAny_call ?_
  k_dflt cell_enter
  k_steps
  all_goals (
    (rename News _ _ _ _ => nE)
    refine' hret _ ((dx, _) :: rest) _ _ ?P ?F ?N
    case N => exact nE
    case F => k_asm
    case P => exact ⟨_, rfl, ⟨_, by rw [e1]⟩, isFl_mk rfl (by rw [e1]) (by rw [e1]) (by rw [e1]) (by rw [e1]) (by rw [e1]) rfl⟩)
theorem dec_u {w : World} {mean : ExcName → Option Value} {mg mb : Str → Option Value} {led : List (Addr × Obj)} {upd : Obj → List (Addr × Obj)} {x dx : Addr} {o : Obj} {c p a z s f d u size W : Int} {tu ts : Tok} (U : UpdF dx o led upd) (hx : (x, instObj 169 dx) ∈ led) (ho : IsFl w o c p a z s f d) (hs : Sz size W) :
    Fn w mean mg mb 215 7 [.ref x, .int u tu, .int size ts] led (fun r nx => ∃ o', nx = upd o' ∧ (∃ t, r = .int ((u % W + -1 * (1 + 0)) % W) t) ∧ FlSumC w o' c (u % W) 1 0 (-1) W d) :=
  Fn.at U fun rest hap hin => dec_c w mean mg mb rest x dx o c p a z s f d u size W tu ts (hin _ hx ho.other) hap ho hs
set_option maxRecDepth 100000 in
set_option maxHeartbeats 8000000 in
theorem neg_c (w : World) (mean : ExcName → Option Value) (mg mb : Str → Option Value) (rest : List (Addr × Obj)) (x dx : Addr) (o : Obj) (c p a z s f d u size W : Int) (tu ts : Tok) (hx : (x, instObj 169 dx) ∈ rest) (hap : ∀ q ∈ rest, q.1 ≠ dx) (ho : IsFl w o c p a z s f d) (hs : Sz size W) :
    Fn w mean mg mb 222 7 [.ref x, .int u tu, .int size ts] ((dx, o) :: rest) (fun r nx => ∃ o', nx = (dx, o') :: rest ∧ (∃ t, r = .int ((0 + -1 * (u % W + 0)) % W) t) ∧ FlSum w o' 0 (u % W) 0 (-1) W d) := by
  obtain ⟨kk, tt, rfl⟩ := ho
  unfold Fn
  k_with_none
  k_with "my room" => ((try dsimp only [depth_under_make, depth_under_kw, depth_in1, depth_deeper, depth_caller, ktrTop]); first | ((with_reducible rename _ + _ < recursionLimit => hRoom9); first | exact room2 hRoom9 rfl | exact room3 hRoom9 rfl | exact room1 hRoom9 rfl | exact room0 hRoom9) | decide)
  k_with "my units" => ((try dsimp only [units_in1, units_deeper, units_under_make, units_caller, ktrTop]); first | ((with_reducible rename _ + _ < cLine => hUnits9); first | exact room2 hUnits9 rfl | exact room3 hUnits9 rfl | exact room1 hUnits9 rfl | exact room0 hUnits9) | decide)
  k_with "subscriptTail Name Constant ref int" => (k_here; (with_reducible show wpAny _ _ (subscriptTail _ _ (Value.ref _) (Value.int _ _)) _ _ _); k_dflt (refine' my_item ?k1 ?k2 ?k3 ?k4 ?k5 ?_ ?k6; (case k1 => k_asm); (case k2 => k_mem); (case k3 => decide); (case k4 => decide); (case k5 => rfl); (case k6 => with_unfolding_all rfl); k_whole))
  k_with "binaryOp FloorDiv int int" => (k_here; (with_reducible refine floordiv_int ?kbe ?_ (Or.inl (PyProof.noPylong_of_log2 ?kbp))); (case kbe => first | decide | omega); (case kbp => (first | decide +kernel | exact my_log (by omega) (by omega))))
  k_with "my use" => ((case B => k_asm); (case F => k_asm); (case X => k_asm); (case N => k_asm); (case T => k_asm); (case hk => first | exact rfl | assumption); (case hd => walk_at "my room"); (case hu => walk_at "my units"); k_whole)
  k_with "my use2" => ((case B => k_asm); (case F => k_asm); (case X => k_asm); (case T => k_asm); (case hk => first | exact rfl | assumption); (case hd => walk_at "my room"); (case hu => walk_at "my units"); k_whole)
  k_with "binaryOp LShift int int" => (k_here; (with_reducible refine lshift_int_small ?kb1 ?kb2 ?kb3 ?_); (case kb1 => first | decide | omega); (case kb2 => first | decide | omega); (case kb3 => first | decide | exact bit_nat (by assumption) | omega))
  k_with "my enterC" => (refine' code_defC ?k1 ?k2 ?k3 ?k4 ?k5 ?kA ?kF ?kK ?k6 ?k7 ?k8 ?k9 ?kB ?kD ?_ ?c2 ?c3 ?c4; (case kA => exact rfl); (case kF => exact rfl); (case kK => assumption); (case k1 => k_asm); (case k2 => k_asm); (case k3 => k_asm); (case k4 => k_asm); (case k5 => k_asm); (case k6 => k_is); (case k7 => k_is); (case k8 => walk_at "my room"); (case k9 => exact BindsTo.of_eq rfl); (case kB => exact rfl); (case kD => decide +kernel); (case c2 => exact rfl); (case c3 => exact rfl); (case c4 => exact rfl); k_whole; intro g' L' h' tk' cells' FG' F' N' Y' B' X' T' l1; (try k_lt l1); k_cells Y'; (try simp only [List.cons_append, List.nil_append] at N'); (try dsimp only); (try k_lift B'); (try k_fold))
  k_with "my all" => (first | with_reducible assumption | exact my_ne1 (by with_reducible assumption) | (refine my_ne2 ?_; first | with_reducible assumption | exact And.right (by with_reducible assumption) | exact And.right (And.right (by with_reducible assumption)) | exact And.right (And.right (And.right (by with_reducible assumption)))))
  k_with "my ne" => (refine neN ?_; (try dsimp only); first | assumption | exact Nat.ne_of_lt (by assumption) | exact Nat.ne_of_gt (by assumption) | exact Ne.symm (by assumption))
  k_with "execs cons" => (k_here; (refine gen_toks ?_); intro tk9; (try dsimp only); refine wpAny_execs_cons ?_)
  k_with "eval BinOp" => (k_dflt (k_fold; walk1))
  k_with "eval Call" => (k_dflt (k_fold; walk1))
  k_with "eval Subscript" => (k_dflt (k_fold; walk1))
  k_with "eval List" => (k_dflt (k_fold; walk1))
  k_with "eval Tuple" => (k_dflt (k_fold; walk1))
  k_with "eval IfExp" => (k_dflt (k_fold; walk1))
  k_with "spliced" => (k_dflt (k_fold; walk1))
  k_with "eval Compare" => (k_dflt (k_fold; walk1))
  k_with "eval Call Attribute" => (k_dflt (k_fold; walk1))
  k_with "call ref" => (k_here; (with_reducible show wpAny _ _ (call (Value.ref 68) [Value.int _ _]) _ _ _); k_dflt (refine' Fn.use (mask_c _ _ _ _ _ _ _ _ ?hs) ?B ?F ?X ?N ?T ?hk ?hd ?hu ?_; (case hs => first | assumption | exact Sz.eight); walk_at "my use"); intro v9 x9 h9 tk9 P9 F9 N9; (obtain ⟨t9, e9, f9⟩ := P9); subst e9; (replace f9 := Eq.symm f9); subst f9; (try k_sweep))
  k_with "call ref" => (k_here; (with_reducible show wpAny _ _ (call (Value.ref 75) [Value.int _ _, Value.int _ _]) _ _ _); k_dflt (refine' Fn.use (wrap_c _ _ _ _ _ _ _ _ _ _ ?hs) ?B ?F ?X ?N ?T ?hk ?hd ?hu ?_; (case hs => first | assumption | exact Sz.eight); walk_at "my use"); intro v9 x9 h9 tk9 P9 F9 N9; (obtain ⟨t9, e9, f9⟩ := P9); subst e9; (replace f9 := Eq.symm f9); subst f9; (try k_sweep))
  k_with "call ref" => (k_here; (with_reducible show wpAny _ _ (call (Value.ref 82) [Value.int _ _, Value.int _ _]) _ _ _); k_dflt (refine' Fn.use (bit_c _ _ _ _ _ _ _ _ _ ?h0 ?h1) ?B ?F ?X ?N ?T ?hk ?hd ?hu ?_; (case h0 => omega); (case h1 => omega); walk_at "my use"); intro v9 x9 h9 tk9 P9 F9 N9; (obtain ⟨t9, e9, f9⟩ := P9); subst e9; (replace f9 := Eq.symm f9); subst f9; (try k_sweep))
  k_with "call ref" => (k_here; (with_reducible show wpAny _ _ (call (Value.ref 96) [Value.int _ _]) _ _ _); k_dflt (refine' Fn.use (parity_c _ _ _ _ _ _ _) ?B ?F ?X ?N ?T ?hk ?hd ?hu ?_; walk_at "my use"); intro v9 x9 h9 tk9 P9 F9 N9; (obtain ⟨t9, e9, f9⟩ := P9); subst e9; (replace f9 := Eq.symm f9); subst f9; (try k_sweep))
  k_with "call ref" => (k_here; (with_reducible show wpAny _ _ (call (Value.ref 180) [Value.ref _, Value.int _ _, Value.int _ _]) _ _ _); k_dflt (refine' Fn.use (szp_u ?U ?hx ?ho ?hs) ?B ?F ?X ?N ?T ?hk ?hd ?hu ?_; (case N => k_asm); (case hx => k_mem); (case U => k_updF); (case ho => first | assumption | exact isFl_mk rfl rfl rfl rfl rfl rfl rfl); (case hs => assumption); walk_at "my use2"); intro v9 x9 h9 tk9 P9 F9 N9; (obtain ⟨o9, f9, ⟨t9, e9⟩, g9⟩ := P9); subst e9; (replace f9 := Eq.symm f9); subst f9; (try unfold FlSum at g9); (unfold IsFl at g9); (obtain ⟨ka, va, q9⟩ := g9); subst q9; (try dsimp only at N9); (try k_sweep))
  k_with "call ref" => (k_here; (with_reducible show wpAny _ _ (call (Value.ref 187) [Value.ref _, Value.int _ _, Value.int _ _, Value.int _ _, Value.int _ _]) _ _ _); k_dflt (refine' Fn.use (add_u ?U ?hx ?ho ?hs ?hy) ?B ?F ?X ?N ?T ?hk ?hd ?hu ?_; (case N => k_asm); (case hx => k_mem); (case U => k_updF); (case ho => first | assumption | exact isFl_mk rfl rfl rfl rfl rfl rfl rfl); (case hs => assumption); (case hy => omega); walk_at "my use2"); intro v9 x9 h9 tk9 P9 F9 N9; (obtain ⟨o9, f9, ⟨t9, e9⟩, g9⟩ := P9); subst e9; (replace f9 := Eq.symm f9); subst f9; (try unfold FlSum at g9); (unfold IsFl at g9); (obtain ⟨ka, va, q9⟩ := g9); subst q9; (try dsimp only at N9); (try k_sweep))
  k_with "call ref" => (k_here; (with_reducible show wpAny _ _ (call (Value.ref 194) [Value.ref _, Value.int _ _, Value.int _ _, Value.int _ _, Value.int _ _]) _ _ _); k_dflt (refine' Fn.use (sub_u ?U ?hx ?ho ?hs ?hy) ?B ?F ?X ?N ?T ?hk ?hd ?hu ?_; (case N => k_asm); (case hx => k_mem); (case U => k_updF); (case ho => first | assumption | exact isFl_mk rfl rfl rfl rfl rfl rfl rfl); (case hs => assumption); (case hy => omega); walk_at "my use2"); intro v9 x9 h9 tk9 P9 F9 N9; (obtain ⟨o9, f9, ⟨t9, e9⟩, g9⟩ := P9); subst e9; (replace f9 := Eq.symm f9); subst f9; (try unfold FlSum at g9); (unfold IsFl at g9); (obtain ⟨ka, va, q9⟩ := g9); subst q9; (try dsimp only at N9); (try k_sweep))
  k_fill
  intro dp un gd cn cs ad ccd cl outer A₀ base h₀ L m s Q E B F X N T hk hd hu hret
  have hlo := hs.lo
  have e1 := nil_mod (W := W)
  refine wpAny_call ?_
  k_dflt cell_enter
  k_steps
  all_goals (
    (rename News _ _ _ _ => nE)
    refine' hret _ ((dx, _) :: rest) _ _ ?P ?F ?N
    case N => exact nE
    case F => k_asm
    case P => exact ⟨_, rfl, ⟨_, by rw [e1]⟩, isFl_mk (by rw [e1]) (by rw [e1]) (by rw [e1]) (by rw [e1]) (by rw [e1]) (by rw [e1]) rfl⟩)
theorem neg_u {w : World} {mean : ExcName → Option Value} {mg mb : Str → Option Value} {led : List (Addr × Obj)} {upd : Obj → List (Addr × Obj)} {x dx : Addr} {o : Obj} {c p a z s f d u size W : Int} {tu ts : Tok} (U : UpdF dx o led upd) (hx : (x, instObj 169 dx) ∈ led) (ho : IsFl w o c p a z s f d) (hs : Sz size W) :
    Fn w mean mg mb 222 7 [.ref x, .int u tu, .int size ts] led (fun r nx => ∃ o', nx = upd o' ∧ (∃ t, r = .int ((0 + -1 * (u % W + 0)) % W) t) ∧ FlSum w o' 0 (u % W) 0 (-1) W d) :=
  Fn.at U fun rest hap hin => neg_c w mean mg mb rest x dx o c p a z s f d u size W tu ts (hin _ hx ho.other) hap ho hs
set_option maxRecDepth 100000 in
set_option maxHeartbeats 8000000 in
theorem logic_c (w : World) (mean : ExcName → Option Value) (mg mb : Str → Option Value) (rest : List (Addr × Obj)) (x dx : Addr) (o : Obj) (c p a z s f d u size W : Int) (tu ts : Tok) (hx : (x, instObj 169 dx) ∈ rest) (hap : ∀ q ∈ rest, q.1 ≠ dx) (ho : IsFl w o c p a z s f d) (hs : Sz size W) :
    Fn w mean mg mb 201 7 [.ref x, .int u tu, .int size ts] ((dx, o) :: rest) (fun r nx => ∃ o', nx = (dx, o') :: rest ∧ (∃ t, r = .int (u % W) t) ∧ IsFl w o' 0 (evn (u % W)) 0 (zro (u % W)) (sgn (u % W) W) 0 d) := by
  obtain ⟨kk, tt, rfl⟩ := ho
  unfold Fn
  k_with_none
  k_with "my room" => ((try dsimp only [depth_under_make, depth_under_kw, depth_in1, depth_deeper, depth_caller, ktrTop]); first | ((with_reducible rename _ + _ < recursionLimit => hRoom9); first | exact room2 hRoom9 rfl | exact room3 hRoom9 rfl | exact room1 hRoom9 rfl | exact room0 hRoom9) | decide)
  k_with "my units" => ((try dsimp only [units_in1, units_deeper, units_under_make, units_caller, ktrTop]); first | ((with_reducible rename _ + _ < cLine => hUnits9); first | exact room2 hUnits9 rfl | exact room3 hUnits9 rfl | exact room1 hUnits9 rfl | exact room0 hUnits9) | decide)
  k_with "subscriptTail Name Constant ref int" => (k_here; (with_reducible show wpAny _ _ (subscriptTail _ _ (Value.ref _) (Value.int _ _)) _ _ _); k_dflt (refine' my_item ?k1 ?k2 ?k3 ?k4 ?k5 ?_ ?k6; (case k1 => k_asm); (case k2 => k_mem); (case k3 => decide); (case k4 => decide); (case k5 => rfl); (case k6 => with_unfolding_all rfl); k_whole))
  k_with "binaryOp FloorDiv int int" => (k_here; (with_reducible refine floordiv_int ?kbe ?_ (Or.inl (PyProof.noPylong_of_log2 ?kbp))); (case kbe => first | decide | omega); (case kbp => (first | decide +kernel | exact my_log (by omega) (by omega))))
  k_with "my use" => ((case B => k_asm); (case F => k_asm); (case X => k_asm); (case N => k_asm); (case T => k_asm); (case hk => first | exact rfl | assumption); (case hd => walk_at "my room"); (case hu => walk_at "my units"); k_whole)
  k_with "my use2" => ((case B => k_asm); (case F => k_asm); (case X => k_asm); (case T => k_asm); (case hk => first | exact rfl | assumption); (case hd => walk_at "my room"); (case hu => walk_at "my units"); k_whole)
  k_with "binaryOp LShift int int" => (k_here; (with_reducible refine lshift_int_small ?kb1 ?kb2 ?kb3 ?_); (case kb1 => first | decide | omega); (case kb2 => first | decide | omega); (case kb3 => first | decide | exact bit_nat (by assumption) | omega))
  k_with "my enterC" => (refine' code_defC ?k1 ?k2 ?k3 ?k4 ?k5 ?kA ?kF ?kK ?k6 ?k7 ?k8 ?k9 ?kB ?kD ?_ ?c2 ?c3 ?c4; (case kA => exact rfl); (case kF => exact rfl); (case kK => assumption); (case k1 => k_asm); (case k2 => k_asm); (case k3 => k_asm); (case k4 => k_asm); (case k5 => k_asm); (case k6 => k_is); (case k7 => k_is); (case k8 => walk_at "my room"); (case k9 => exact BindsTo.of_eq rfl); (case kB => exact rfl); (case kD => decide +kernel); (case c2 => exact rfl); (case c3 => exact rfl); (case c4 => exact rfl); k_whole; intro g' L' h' tk' cells' FG' F' N' Y' B' X' T' l1; (try k_lt l1); k_cells Y'; (try simp only [List.cons_append, List.nil_append] at N'); (try dsimp only); (try k_lift B'); (try k_fold))
  k_with "my all" => (first | with_reducible assumption | exact my_ne1 (by with_reducible assumption) | (refine my_ne2 ?_; first | with_reducible assumption | exact And.right (by with_reducible assumption) | exact And.right (And.right (by with_reducible assumption)) | exact And.right (And.right (And.right (by with_reducible assumption)))))
  k_with "my ne" => (refine neN ?_; (try dsimp only); first | assumption | exact Nat.ne_of_lt (by assumption) | exact Nat.ne_of_gt (by assumption) | exact Ne.symm (by assumption))
  k_with "execs cons" => (k_here; (refine gen_toks ?_); intro tk9; (try dsimp only); refine wpAny_execs_cons ?_)
  k_with "eval BinOp" => (k_dflt (k_fold; walk1))
  k_with "eval Call" => (k_dflt (k_fold; walk1))
  k_with "eval Subscript" => (k_dflt (k_fold; walk1))
  k_with "eval List" => (k_dflt (k_fold; walk1))
  k_with "eval Tuple" => (k_dflt (k_fold; walk1))
  k_with "eval IfExp" => (k_dflt (k_fold; walk1))
  k_with "spliced" => (k_dflt (k_fold; walk1))
  k_with "eval Compare" => (k_dflt (k_fold; walk1))
  k_with "eval Call Attribute" => (k_dflt (k_fold; walk1))
  k_with "call ref" => (k_here; (with_reducible show wpAny _ _ (call (Value.ref 68) [Value.int _ _]) _ _ _); k_dflt (refine' Fn.use (mask_c _ _ _ _ _ _ _ _ ?hs) ?B ?F ?X ?N ?T ?hk ?hd ?hu ?_; (case hs => first | assumption | exact Sz.eight); walk_at "my use"); intro v9 x9 h9 tk9 P9 F9 N9; (obtain ⟨t9, e9, f9⟩ := P9); subst e9; (replace f9 := Eq.symm f9); subst f9; (try k_sweep))
  k_with "call ref" => (k_here; (with_reducible show wpAny _ _ (call (Value.ref 75) [Value.int _ _, Value.int _ _]) _ _ _); k_dflt (refine' Fn.use (wrap_c _ _ _ _ _ _ _ _ _ _ ?hs) ?B ?F ?X ?N ?T ?hk ?hd ?hu ?_; (case hs => first | assumption | exact Sz.eight); walk_at "my use"); intro v9 x9 h9 tk9 P9 F9 N9; (obtain ⟨t9, e9, f9⟩ := P9); subst e9; (replace f9 := Eq.symm f9); subst f9; (try k_sweep))
  k_with "call ref" => (k_here; (with_reducible show wpAny _ _ (call (Value.ref 82) [Value.int _ _, Value.int _ _]) _ _ _); k_dflt (refine' Fn.use (bit_c _ _ _ _ _ _ _ _ _ ?h0 ?h1) ?B ?F ?X ?N ?T ?hk ?hd ?hu ?_; (case h0 => omega); (case h1 => omega); walk_at "my use"); intro v9 x9 h9 tk9 P9 F9 N9; (obtain ⟨t9, e9, f9⟩ := P9); subst e9; (replace f9 := Eq.symm f9); subst f9; (try k_sweep))
  k_with "call ref" => (k_here; (with_reducible show wpAny _ _ (call (Value.ref 96) [Value.int _ _]) _ _ _); k_dflt (refine' Fn.use (parity_c _ _ _ _ _ _ _) ?B ?F ?X ?N ?T ?hk ?hd ?hu ?_; walk_at "my use"); intro v9 x9 h9 tk9 P9 F9 N9; (obtain ⟨t9, e9, f9⟩ := P9); subst e9; (replace f9 := Eq.symm f9); subst f9; (try k_sweep))
  k_with "call ref" => (k_here; (with_reducible show wpAny _ _ (call (Value.ref 180) [Value.ref _, Value.int _ _, Value.int _ _]) _ _ _); k_dflt (refine' Fn.use (szp_u ?U ?hx ?ho ?hs) ?B ?F ?X ?N ?T ?hk ?hd ?hu ?_; (case N => k_asm); (case hx => k_mem); (case U => k_updF); (case ho => first | assumption | exact isFl_mk rfl rfl rfl rfl rfl rfl rfl); (case hs => assumption); walk_at "my use2"); intro v9 x9 h9 tk9 P9 F9 N9; (obtain ⟨o9, f9, ⟨t9, e9⟩, g9⟩ := P9); subst e9; (replace f9 := Eq.symm f9); subst f9; (try unfold FlSum at g9); (unfold IsFl at g9); (obtain ⟨ka, va, q9⟩ := g9); subst q9; (try dsimp only at N9); (try k_sweep))
  k_with "call ref" => (k_here; (with_reducible show wpAny _ _ (call (Value.ref 187) [Value.ref _, Value.int _ _, Value.int _ _, Value.int _ _, Value.int _ _]) _ _ _); k_dflt (refine' Fn.use (add_u ?U ?hx ?ho ?hs ?hy) ?B ?F ?X ?N ?T ?hk ?hd ?hu ?_; (case N => k_asm); (case hx => k_mem); (case U => k_updF); (case ho => first | assumption | exact isFl_mk rfl rfl rfl rfl rfl rfl rfl); (case hs => assumption); (case hy => omega); walk_at "my use2"); intro v9 x9 h9 tk9 P9 F9 N9; (obtain ⟨o9, f9, ⟨t9, e9⟩, g9⟩ := P9); subst e9; (replace f9 := Eq.symm f9); subst f9; (try unfold FlSum at g9); (unfold IsFl at g9); (obtain ⟨ka, va, q9⟩ := g9); subst q9; (try dsimp only at N9); (try k_sweep))
  k_with "call ref" => (k_here; (with_reducible show wpAny _ _ (call (Value.ref 194) [Value.ref _, Value.int _ _, Value.int _ _, Value.int _ _, Value.int _ _]) _ _ _); k_dflt (refine' Fn.use (sub_u ?U ?hx ?ho ?hs ?hy) ?B ?F ?X ?N ?T ?hk ?hd ?hu ?_; (case N => k_asm); (case hx => k_mem); (case U => k_updF); (case ho => first | assumption | exact isFl_mk rfl rfl rfl rfl rfl rfl rfl); (case hs => assumption); (case hy => omega); walk_at "my use2"); intro v9 x9 h9 tk9 P9 F9 N9; (obtain ⟨o9, f9, ⟨t9, e9⟩, g9⟩ := P9); subst e9; (replace f9 := Eq.symm f9); subst f9; (try unfold FlSum at g9); (unfold IsFl at g9); (obtain ⟨ka, va, q9⟩ := g9); subst q9; (try dsimp only at N9); (try k_sweep))
  k_fill
  intro dp un gd cn cs ad ccd cl outer A₀ base h₀ L m s Q E B F X N T hk hd hu hret
  have hlo := hs.lo
  refine wpAny_call ?_
  k_dflt cell_enter
  k_steps
  all_goals (
    (rename News _ _ _ _ => nE)
    refine' hret _ ((dx, _) :: rest) _ _ ?P ?F ?N
    case N => exact nE
    case F => k_asm
    case P => exact ⟨_, rfl, ⟨_, rfl⟩, isFl_mk rfl rfl rfl rfl rfl rfl rfl⟩)
theorem logic_u {w : World} {mean : ExcName → Option Value} {mg mb : Str → Option Value} {led : List (Addr × Obj)} {upd : Obj → List (Addr × Obj)} {x dx : Addr} {o : Obj} {c p a z s f d u size W : Int} {tu ts : Tok} (U : UpdF dx o led upd) (hx : (x, instObj 169 dx) ∈ led) (ho : IsFl w o c p a z s f d) (hs : Sz size W) :
    Fn w mean mg mb 201 7 [.ref x, .int u tu, .int size ts] led (fun r nx => ∃ o', nx = upd o' ∧ (∃ t, r = .int (u % W) t) ∧ IsFl w o' 0 (evn (u % W)) 0 (zro (u % W)) (sgn (u % W) W) 0 d) :=
  Fn.at U fun rest hap hin => logic_c w mean mg mb rest x dx o c p a z s f d u size W tu ts (hin _ hx ho.other) hap ho hs

def packN (c p a z s f d : Int) : Int := Builtin.bitOr (Builtin.bitOr (Builtin.bitOr (Builtin.bitOr (Builtin.bitOr (Builtin.bitOr (Builtin.bitOr 2 (c * 2 ^ Int.toNat 0)) (p * 2 ^ Int.toNat 2)) (a * 2 ^ Int.toNat 4)) (z * 2 ^ Int.toNat 6)) (s * 2 ^ Int.toNat 7)) (d * 2 ^ Int.toNat 10)) (f * 2 ^ Int.toNat 11)
theorem pack_fin : ∀ c p a z s f d : Fin 2, packN c.val p.val a.val z.val s.val f.val d.val / 2 ^ Int.toNat 0 % 2 = (c.val : Int) ∧ packN c.val p.val a.val z.val s.val f.val d.val / 2 ^ Int.toNat 2 % 2 = (p.val : Int) ∧ packN c.val p.val a.val z.val s.val f.val d.val / 2 ^ Int.toNat 4 % 2 = (a.val : Int) ∧ packN c.val p.val a.val z.val s.val f.val d.val / 2 ^ Int.toNat 6 % 2 = (z.val : Int) ∧ packN c.val p.val a.val z.val s.val f.val d.val / 2 ^ Int.toNat 7 % 2 = (s.val : Int) ∧ packN c.val p.val a.val z.val s.val f.val d.val / 2 ^ Int.toNat 11 % 2 = (f.val : Int) ∧ packN c.val p.val a.val z.val s.val f.val d.val / 2 ^ Int.toNat 10 % 2 = (d.val : Int) := by decide +kernel
theorem fin_of {c : Int} (h : 0 ≤ c ∧ c ≤ 1) : ∃ k : Fin 2, c = (k.val : Int) := ⟨⟨c.toNat, by omega⟩, by show c = (c.toNat : Int); omega⟩
theorem pack_val {c p a z s f d : Int} (bc : 0 ≤ c ∧ c ≤ 1) (bp : 0 ≤ p ∧ p ≤ 1) (ba : 0 ≤ a ∧ a ≤ 1) (bz : 0 ≤ z ∧ z ≤ 1) (bs : 0 ≤ s ∧ s ≤ 1) (bf : 0 ≤ f ∧ f ≤ 1) (bd : 0 ≤ d ∧ d ≤ 1) :
    packN c p a z s f d / 2 ^ Int.toNat 0 % 2 = c ∧ packN c p a z s f d / 2 ^ Int.toNat 2 % 2 = p ∧ packN c p a z s f d / 2 ^ Int.toNat 4 % 2 = a ∧ packN c p a z s f d / 2 ^ Int.toNat 6 % 2 = z ∧ packN c p a z s f d / 2 ^ Int.toNat 7 % 2 = s ∧ packN c p a z s f d / 2 ^ Int.toNat 11 % 2 = f ∧ packN c p a z s f d / 2 ^ Int.toNat 10 % 2 = d := by
  obtain ⟨c, rfl⟩ := fin_of bc
  obtain ⟨p, rfl⟩ := fin_of bp
  obtain ⟨a, rfl⟩ := fin_of ba
  obtain ⟨z, rfl⟩ := fin_of bz
  obtain ⟨s, rfl⟩ := fin_of bs
  obtain ⟨f, rfl⟩ := fin_of bf
  obtain ⟨d, rfl⟩ := fin_of bd
  exact pack_fin c p a z s f d
set_option maxRecDepth 100000 in
set_option maxHeartbeats 8000000 in
theorem copy_c (w : World) (mean : ExcName → Option Value) (mg mb : Str → Option Value) (led : List (Addr × Obj)) (x dx : Addr) (c p a z s f d : Int) (kk tt : Nat → Tok) (bc : 0 ≤ c ∧ c ≤ 1) (bp : 0 ≤ p ∧ p ≤ 1) (ba : 0 ≤ a ∧ a ≤ 1) (bz : 0 ≤ z ∧ z ≤ 1) (bs : 0 ≤ s ∧ s ≤ 1) (bf : 0 ≤ f ∧ f ≤ 1) (bd : 0 ≤ d ∧ d ≤ 1) (hx : (x, instObj 169 dx) ∈ led) (hdx : (dx, dictOf (flE w c p a z s f d kk tt) 7) ∈ led) :
    Fn w mean mg mb 145 7 [.ref x] led (fun r nx => ∃ x' dx' o', nx = (x', instObj 169 dx') :: (dx', o') :: led ∧ r = .ref x' ∧ (∀ q ∈ led, q.1 < dx') ∧ dx' < x' ∧ IsFl w o' c p a z s f d) := by
  unfold Fn
  k_with_none
  k_with "my room" => ((try dsimp only [depth_under_make, depth_under_kw, depth_in1, depth_deeper, depth_caller, ktrTop]); first | ((with_reducible rename _ + _ < recursionLimit => hRoom9); first | exact room2 hRoom9 rfl | exact room3 hRoom9 rfl | exact room1 hRoom9 rfl | exact room0 hRoom9) | decide)
  k_with "my units" => ((try dsimp only [units_in1, units_deeper, units_under_make, units_caller, ktrTop]); first | ((with_reducible rename _ + _ < cLine => hUnits9); first | exact room2 hUnits9 rfl | exact room3 hUnits9 rfl | exact room1 hUnits9 rfl | exact room0 hUnits9) | decide)
  k_with "subscriptTail Name Constant ref int" => (k_here; (with_reducible show wpAny _ _ (subscriptTail _ _ (Value.ref _) (Value.int _ _)) _ _ _); k_dflt (refine' my_item ?k1 ?k2 ?k3 ?k4 ?k5 ?_ ?k6; (case k1 => k_asm); (case k2 => k_mem); (case k3 => decide); (case k4 => decide); (case k5 => rfl); (case k6 => with_unfolding_all rfl); k_whole))
  k_with "binaryOp FloorDiv int int" => (k_here; (with_reducible refine floordiv_int ?kbe ?_ (Or.inl (PyProof.noPylong_of_log2 ?kbp))); (case kbe => first | decide | omega); (case kbp => (first | decide +kernel | exact my_log (by omega) (by omega))))
  k_with "my use" => ((case B => k_asm); (case F => k_asm); (case X => k_asm); (case N => k_asm); (case T => k_asm); (case hk => first | exact rfl | assumption); (case hd => walk_at "my room"); (case hu => walk_at "my units"); k_whole)
  k_with "my use2" => ((case B => k_asm); (case F => k_asm); (case X => k_asm); (case T => k_asm); (case hk => first | exact rfl | assumption); (case hd => walk_at "my room"); (case hu => walk_at "my units"); k_whole)
  k_with "binaryOp LShift int int" => (k_here; (with_reducible refine lshift_int_small ?kb1 ?kb2 ?kb3 ?_); (case kb1 => first | decide | omega); (case kb2 => first | decide | omega); (case kb3 => first | decide | exact bit_nat (by assumption) | omega))
  k_with "my enterC" => (refine' code_defC ?k1 ?k2 ?k3 ?k4 ?k5 ?kA ?kF ?kK ?k6 ?k7 ?k8 ?k9 ?kB ?kD ?_ ?c2 ?c3 ?c4; (case kA => exact rfl); (case kF => exact rfl); (case kK => assumption); (case k1 => k_asm); (case k2 => k_asm); (case k3 => k_asm); (case k4 => k_asm); (case k5 => k_asm); (case k6 => k_is); (case k7 => k_is); (case k8 => walk_at "my room"); (case k9 => exact BindsTo.of_eq rfl); (case kB => exact rfl); (case kD => decide +kernel); (case c2 => exact rfl); (case c3 => exact rfl); (case c4 => exact rfl); k_whole; intro g' L' h' tk' cells' FG' F' N' Y' B' X' T' l1; (try k_lt l1); k_cells Y'; (try simp only [List.cons_append, List.nil_append] at N'); (try dsimp only); (try k_lift B'); (try k_fold))
  k_with "my all" => (first | with_reducible assumption | exact my_ne1 (by with_reducible assumption) | (refine my_ne2 ?_; first | with_reducible assumption | exact And.right (by with_reducible assumption) | exact And.right (And.right (by with_reducible assumption)) | exact And.right (And.right (And.right (by with_reducible assumption)))))
  k_with "my ne" => (refine neN ?_; (try dsimp only); first | assumption | exact Nat.ne_of_lt (by assumption) | exact Nat.ne_of_gt (by assumption) | exact Ne.symm (by assumption))
  k_with "execs cons" => (k_here; (refine gen_toks ?_); intro tk9; (try dsimp only); refine wpAny_execs_cons ?_)
  k_with "eval BinOp" => (k_dflt (k_fold; walk1))
  k_with "eval Call" => (k_dflt (k_fold; walk1))
  k_with "eval Subscript" => (k_dflt (k_fold; walk1))
  k_with "eval List" => (k_dflt (k_fold; walk1))
  k_with "eval Tuple" => (k_dflt (k_fold; walk1))
  k_with "eval IfExp" => (k_dflt (k_fold; walk1))
  k_with "spliced" => (k_dflt (k_fold; walk1))
  k_with "eval Compare" => (k_dflt (k_fold; walk1))
  k_with "eval Call Attribute" => (k_dflt (k_fold; walk1))
  k_with "call ref" => (k_here; (with_reducible show wpAny _ _ (call (Value.ref 68) [Value.int _ _]) _ _ _); k_dflt (refine' Fn.use (mask_c _ _ _ _ _ _ _ _ ?hs) ?B ?F ?X ?N ?T ?hk ?hd ?hu ?_; (case hs => first | assumption | exact Sz.eight); walk_at "my use"); intro v9 x9 h9 tk9 P9 F9 N9; (obtain ⟨t9, e9, f9⟩ := P9); subst e9; (replace f9 := Eq.symm f9); subst f9; (try k_sweep))
  k_with "call ref" => (k_here; (with_reducible show wpAny _ _ (call (Value.ref 75) [Value.int _ _, Value.int _ _]) _ _ _); k_dflt (refine' Fn.use (wrap_c _ _ _ _ _ _ _ _ _ _ ?hs) ?B ?F ?X ?N ?T ?hk ?hd ?hu ?_; (case hs => first | assumption | exact Sz.eight); walk_at "my use"); intro v9 x9 h9 tk9 P9 F9 N9; (obtain ⟨t9, e9, f9⟩ := P9); subst e9; (replace f9 := Eq.symm f9); subst f9; (try k_sweep))
  k_with "call ref" => (k_here; (with_reducible show wpAny _ _ (call (Value.ref 82) [Value.int _ _, Value.int _ _]) _ _ _); k_dflt (refine' Fn.use (bit_c _ _ _ _ _ _ _ _ _ ?h0 ?h1) ?B ?F ?X ?N ?T ?hk ?hd ?hu ?_; (case h0 => omega); (case h1 => omega); walk_at "my use"); intro v9 x9 h9 tk9 P9 F9 N9; (obtain ⟨t9, e9, f9⟩ := P9); subst e9; (replace f9 := Eq.symm f9); subst f9; (try k_sweep))
  k_with "call ref" => (k_here; (with_reducible show wpAny _ _ (call (Value.ref 169) _) _ _ _); k_dflt (refine' Fn.use (mk_c _ _ _ _ _) ?B ?F ?X ?N ?T ?hk ?hd ?hu ?_; walk_at "my use"); intro v9 x9 h9 tk9 P9 F9 N9; (obtain ⟨xa9, da9, oa9, f9, e9, lta9, ltb9, g9⟩ := P9); subst e9; (replace f9 := Eq.symm f9); subst f9; (try k_lt lta9); (try k_lt2 ltb9); (unfold IsFl at g9); (obtain ⟨ka, va, q9⟩ := g9); subst q9; (try k_sweep))
  k_fill
  intro dp un gd cn cs ad ccd cl outer A₀ base h₀ L m s Q E B F X N T hk hd hu hret
  refine wpAny_call ?_
  k_dflt cell_enter
  k_steps
  all_goals (
    obtain ⟨e1, e2, e3, e4, e5, e6, e7⟩ := pack_val bc bp ba bz bs bf bd
    (rename News _ _ _ _ => nE)
    refine' hret _ ((_, instObj 169 _) :: (_, _) :: led) _ _ ?P ?F ?N
    case N => exact nE
    case F => k_asm
    case P => exact ⟨_, _, _, rfl, rfl, by assumption, by assumption, isFl_mk e1 e2 e3 e4 e5 e6 e7⟩)
theorem copy_u {w : World} {mean : ExcName → Option Value} {mg mb : Str → Option Value} {led : List (Addr × Obj)} {x dx : Addr} {o : Obj} {c p a z s f d : Int} (hx : (x, instObj 169 dx) ∈ led) (hdx : (dx, o) ∈ led) (ho : IsFl w o c p a z s f d) (bc : 0 ≤ c ∧ c ≤ 1) (bp : 0 ≤ p ∧ p ≤ 1) (ba : 0 ≤ a ∧ a ≤ 1) (bz : 0 ≤ z ∧ z ≤ 1) (bs : 0 ≤ s ∧ s ≤ 1) (bf : 0 ≤ f ∧ f ≤ 1) (bd : 0 ≤ d ∧ d ≤ 1) :
    Fn w mean mg mb 145 7 [.ref x] led (fun r nx => ∃ x' dx' o', nx = (x', instObj 169 dx') :: (dx', o') :: led ∧ r = .ref x' ∧ (∀ q ∈ led, q.1 < dx') ∧ dx' < x' ∧ IsFl w o' c p a z s f d) := by
  obtain ⟨kk, tt, rfl⟩ := ho
  exact copy_c w mean mg mb led x dx c p a z s f d _ _ bc bp ba bz bs bf bd hx hdx
set_option maxRecDepth 100000 in
set_option maxHeartbeats 8000000 in
theorem told_u {w : World} {mean : ExcName → Option Value} {mg mb : Str → Option Value} {led : List (Addr × Obj)} {x dx : Addr} {o : Obj} {c p a z s f d : Int} (hx : (x, instObj 169 dx) ∈ led) (hdx : (dx, o) ∈ led) (ho : IsFl w o c p a z s f d) :
    Fn w mean mg mb 117 2 [.ref x] led (fun r nx => ∃ l t1 t2 t3 t4 t5 t6 t7, nx = (l, ({ cls := .type "tuple", data := .seq [Value.int c t1, Value.int p t2, Value.int a t3, Value.int z t4, Value.int s t5, Value.int f t6, Value.int d t7].toArray } : Obj)) :: led ∧ r = .ref l ∧ (∀ q ∈ led, q.1 < l)) := by
  obtain ⟨kk, tt, rfl⟩ := ho
  unfold Fn
  k_with_none
  k_with "my room" => ((try dsimp only [depth_under_make, depth_under_kw, depth_in1, depth_deeper, depth_caller, ktrTop]); first | ((with_reducible rename _ + _ < recursionLimit => hRoom9); first | exact room2 hRoom9 rfl | exact room3 hRoom9 rfl | exact room1 hRoom9 rfl | exact room0 hRoom9) | decide)
  k_with "my units" => ((try dsimp only [units_in1, units_deeper, units_under_make, units_caller, ktrTop]); first | ((with_reducible rename _ + _ < cLine => hUnits9); first | exact room2 hUnits9 rfl | exact room3 hUnits9 rfl | exact room1 hUnits9 rfl | exact room0 hUnits9) | decide)
  k_with "subscriptTail Name Constant ref int" => (k_here; (with_reducible show wpAny _ _ (subscriptTail _ _ (Value.ref _) (Value.int _ _)) _ _ _); k_dflt (refine' my_item ?k1 ?k2 ?k3 ?k4 ?k5 ?_ ?k6; (case k1 => k_asm); (case k2 => k_mem); (case k3 => decide); (case k4 => decide); (case k5 => rfl); (case k6 => with_unfolding_all rfl); k_whole))
  k_with "binaryOp FloorDiv int int" => (k_here; (with_reducible refine floordiv_int ?kbe ?_ (Or.inl (PyProof.noPylong_of_log2 ?kbp))); (case kbe => first | decide | omega); (case kbp => (first | decide +kernel | exact my_log (by omega) (by omega))))
  k_with "my use" => ((case B => k_asm); (case F => k_asm); (case X => k_asm); (case N => k_asm); (case T => k_asm); (case hk => first | exact rfl | assumption); (case hd => walk_at "my room"); (case hu => walk_at "my units"); k_whole)
  k_with "my use2" => ((case B => k_asm); (case F => k_asm); (case X => k_asm); (case T => k_asm); (case hk => first | exact rfl | assumption); (case hd => walk_at "my room"); (case hu => walk_at "my units"); k_whole)
  k_with "binaryOp LShift int int" => (k_here; (with_reducible refine lshift_int_small ?kb1 ?kb2 ?kb3 ?_); (case kb1 => first | decide | omega); (case kb2 => first | decide | omega); (case kb3 => first | decide | exact bit_nat (by assumption) | omega))
  k_with "my enterC" => (refine' code_defC ?k1 ?k2 ?k3 ?k4 ?k5 ?kA ?kF ?kK ?k6 ?k7 ?k8 ?k9 ?kB ?kD ?_ ?c2 ?c3 ?c4; (case kA => exact rfl); (case kF => exact rfl); (case kK => assumption); (case k1 => k_asm); (case k2 => k_asm); (case k3 => k_asm); (case k4 => k_asm); (case k5 => k_asm); (case k6 => k_is); (case k7 => k_is); (case k8 => walk_at "my room"); (case k9 => exact BindsTo.of_eq rfl); (case kB => exact rfl); (case kD => decide +kernel); (case c2 => exact rfl); (case c3 => exact rfl); (case c4 => exact rfl); k_whole; intro g' L' h' tk' cells' FG' F' N' Y' B' X' T' l1; (try k_lt l1); k_cells Y'; (try simp only [List.cons_append, List.nil_append] at N'); (try dsimp only); (try k_lift B'); (try k_fold))
  k_with "my all" => (first | with_reducible assumption | exact my_ne1 (by with_reducible assumption) | (refine my_ne2 ?_; first | with_reducible assumption | exact And.right (by with_reducible assumption) | exact And.right (And.right (by with_reducible assumption)) | exact And.right (And.right (And.right (by with_reducible assumption)))))
  k_with "my ne" => (refine neN ?_; (try dsimp only); first | assumption | exact Nat.ne_of_lt (by assumption) | exact Nat.ne_of_gt (by assumption) | exact Ne.symm (by assumption))
  k_with "execs cons" => (k_here; (refine gen_toks ?_); intro tk9; (try dsimp only); refine wpAny_execs_cons ?_)
  k_with "eval BinOp" => (k_dflt (k_fold; walk1))
  k_with "eval Call" => (k_dflt (k_fold; walk1))
  k_with "eval Subscript" => (k_dflt (k_fold; walk1))
  k_with "eval List" => (k_dflt (k_fold; walk1))
  k_with "eval Tuple" => (k_dflt (k_fold; walk1))
  k_with "eval IfExp" => (k_dflt (k_fold; walk1))
  k_with "spliced" => (k_dflt (k_fold; walk1))
  k_with "eval Compare" => (k_dflt (k_fold; walk1))
  k_with "eval Call Attribute" => (k_dflt (k_fold; walk1))
  k_with "call ref" => (k_here; (with_reducible show wpAny _ _ (call (Value.ref 68) [Value.int _ _]) _ _ _); k_dflt (refine' Fn.use (mask_c _ _ _ _ _ _ _ _ ?hs) ?B ?F ?X ?N ?T ?hk ?hd ?hu ?_; (case hs => first | assumption | exact Sz.eight); walk_at "my use"); intro v9 x9 h9 tk9 P9 F9 N9; (obtain ⟨t9, e9, f9⟩ := P9); subst e9; (replace f9 := Eq.symm f9); subst f9; (try k_sweep))
  k_with "call ref" => (k_here; (with_reducible show wpAny _ _ (call (Value.ref 75) [Value.int _ _, Value.int _ _]) _ _ _); k_dflt (refine' Fn.use (wrap_c _ _ _ _ _ _ _ _ _ _ ?hs) ?B ?F ?X ?N ?T ?hk ?hd ?hu ?_; (case hs => first | assumption | exact Sz.eight); walk_at "my use"); intro v9 x9 h9 tk9 P9 F9 N9; (obtain ⟨t9, e9, f9⟩ := P9); subst e9; (replace f9 := Eq.symm f9); subst f9; (try k_sweep))
  k_with "call ref" => (k_here; (with_reducible show wpAny _ _ (call (Value.ref 82) [Value.int _ _, Value.int _ _]) _ _ _); k_dflt (refine' Fn.use (bit_c _ _ _ _ _ _ _ _ _ ?h0 ?h1) ?B ?F ?X ?N ?T ?hk ?hd ?hu ?_; (case h0 => omega); (case h1 => omega); walk_at "my use"); intro v9 x9 h9 tk9 P9 F9 N9; (obtain ⟨t9, e9, f9⟩ := P9); subst e9; (replace f9 := Eq.symm f9); subst f9; (try k_sweep))
  k_with "call ref" => (k_here; (with_reducible show wpAny _ _ (call (Value.ref 169) _) _ _ _); k_dflt (refine' Fn.use (mk_c _ _ _ _ _) ?B ?F ?X ?N ?T ?hk ?hd ?hu ?_; walk_at "my use"); intro v9 x9 h9 tk9 P9 F9 N9; (obtain ⟨xa9, da9, oa9, f9, e9, lta9, ltb9, g9⟩ := P9); subst e9; (replace f9 := Eq.symm f9); subst f9; (try k_lt lta9); (try k_lt2 ltb9); (unfold IsFl at g9); (obtain ⟨ka, va, q9⟩ := g9); subst q9; (try k_sweep))
  k_fill
  intro dp un gd cn cs ad ccd cl outer A₀ base h₀ L m s Q E B F X N T hk hd hu hret
  refine wpAny_call ?_
  k_dflt cell_enter
  k_steps
  all_goals (
    (rename News _ _ _ _ => nE)
    refine' hret _ ((_, _) :: led) _ _ ?P ?F ?N
    case N => exact nE
    case F => k_asm
    case P => exact ⟨_, _, _, _, _, _, _, _, rfl, rfl, by assumption⟩)

theorem my_pick {prog : Program} {w : World} {A : Around} {E : Value → Shared → Prop} {s : Shared} {h₀ : Heap} {L l : Addr} {news : List (Addr × Obj)} {value slice : PySem.Expr} {vs : List Value} {ns : List Int} {n : Nat} {k : Int} {u : Tok} {Q : Value → Shared → Prop}
    (N : News h₀ L s.heap news) (hm : (l, listOf vs.toArray n) ∈ news) (hi : IntsAre vs ns) (h0 : 0 ≤ k) (h1 : k < ns.length) (hfit : k < 2 ^ 63) (h : ∀ x t, x ∈ ns → Q (.int x t) s)
    (hs : subscripted slice false (.ref l) (.int k u) = operate [.ref l, .int k u] (getItem (.ref l) (.int k u)) := by with_unfolding_all rfl) :
    wpAny (model prog w) A (subscriptTail value slice (.ref l) (.int k u)) Q E s := by
  refine ksa_sub N hm hi h0 h1 hfit (fun t => h _ t ?_) hs
  have : k.toNat < ns.length := by omega
  rw [List.getD_eq_getElem?_getD, List.getElem?_eq_getElem this]
  exact List.getElem_mem this
set_option maxRecDepth 100000 in
set_option maxHeartbeats 8000000 in
theorem number_c (w : World) (mean : ExcName → Option Value) (mg mb : Str → Option Value) (rest : List (Addr × Obj)) (l : Addr) (o : Obj) (k size W : Int) (ts : Tok) (hap : ∀ p ∈ rest, p.1 ≠ l) (hp : IsPen o k) (hk9 : k < 800) (hs : Sz size W) :
    Fn w mean mg mb 250 2 [.ref l, .int size ts] ((l, o) :: rest) (fun v nx => ∃ o', nx = (l, o') :: rest ∧ (∃ r t, v = .int r t) ∧ IsPen o' (k + 4)) := by
  unfold Fn
  k_with_none
  k_with "my room" => ((try dsimp only [depth_under_make, depth_under_kw, depth_in1, depth_deeper, depth_caller, ktrTop]); first | ((with_reducible rename _ + _ < recursionLimit => hRoom9); first | exact room2 hRoom9 rfl | exact room3 hRoom9 rfl | exact room1 hRoom9 rfl | exact room0 hRoom9) | decide)
  k_with "my units" => ((try dsimp only [units_in1, units_deeper, units_under_make, units_caller, ktrTop]); first | ((with_reducible rename _ + _ < cLine => hUnits9); first | exact room2 hUnits9 rfl | exact room3 hUnits9 rfl | exact room1 hUnits9 rfl | exact room0 hUnits9) | decide)
  k_with "subscriptTail Name Constant ref int" => (k_here; (with_reducible show wpAny _ _ (subscriptTail _ _ (Value.ref _) (Value.int _ _)) _ _ _); k_dflt (refine' my_item ?k1 ?k2 ?k3 ?k4 ?k5 ?_ ?k6; (case k1 => k_asm); (case k2 => k_mem); (case k3 => decide); (case k4 => decide); (case k5 => rfl); (case k6 => with_unfolding_all rfl); k_whole))
  k_with "binaryOp FloorDiv int int" => (k_here; (with_reducible refine floordiv_int ?kbe ?_ (Or.inl (PyProof.noPylong_of_log2 ?kbp))); (case kbe => first | decide | omega); (case kbp => (first | decide +kernel | exact my_log (by omega) (by omega))))
  k_with "my use" => ((case B => k_asm); (case F => k_asm); (case X => k_asm); (case N => k_asm); (case T => k_asm); (case hk => first | exact rfl | assumption); (case hd => walk_at "my room"); (case hu => walk_at "my units"); k_whole)
  k_with "my use2" => ((case B => k_asm); (case F => k_asm); (case X => k_asm); (case T => k_asm); (case hk => first | exact rfl | assumption); (case hd => walk_at "my room"); (case hu => walk_at "my units"); k_whole)
  k_with "binaryOp LShift int int" => (k_here; (with_reducible refine lshift_int_small ?kb1 ?kb2 ?kb3 ?_); (case kb1 => first | decide | omega); (case kb2 => first | decide | omega); (case kb3 => first | decide | exact bit_nat (by assumption) | omega))
  k_with "my enterC" => (refine' code_defC ?k1 ?k2 ?k3 ?k4 ?k5 ?kA ?kF ?kK ?k6 ?k7 ?k8 ?k9 ?kB ?kD ?_ ?c2 ?c3 ?c4; (case kA => exact rfl); (case kF => exact rfl); (case kK => assumption); (case k1 => k_asm); (case k2 => k_asm); (case k3 => k_asm); (case k4 => k_asm); (case k5 => k_asm); (case k6 => k_is); (case k7 => k_is); (case k8 => walk_at "my room"); (case k9 => exact BindsTo.of_eq rfl); (case kB => exact rfl); (case kD => decide +kernel); (case c2 => exact rfl); (case c3 => exact rfl); (case c4 => exact rfl); k_whole; intro g' L' h' tk' cells' FG' F' N' Y' B' X' T' l1; (try k_lt l1); k_cells Y'; (try simp only [List.cons_append, List.nil_append] at N'); (try dsimp only); (try k_lift B'); (try k_fold))
  k_with "my all" => (first | with_reducible assumption | exact my_ne1 (by with_reducible assumption) | (refine my_ne2 ?_; first | with_reducible assumption | exact And.right (by with_reducible assumption) | exact And.right (And.right (by with_reducible assumption)) | exact And.right (And.right (And.right (by with_reducible assumption)))))
  k_with "my ne" => (refine neN ?_; (try dsimp only); first | assumption | exact Nat.ne_of_lt (by assumption) | exact Nat.ne_of_gt (by assumption) | exact Ne.symm (by assumption))
  k_with "execs cons" => (k_here; (refine gen_toks ?_); intro tk9; (try dsimp only); refine wpAny_execs_cons ?_)
  k_with "eval BinOp" => (k_dflt (k_fold; walk1))
  k_with "eval Call" => (k_dflt (k_fold; walk1))
  k_with "eval Subscript" => (k_dflt (k_fold; walk1))
  k_with "eval List" => (k_dflt (k_fold; walk1))
  k_with "eval Tuple" => (k_dflt (k_fold; walk1))
  k_with "eval IfExp" => (k_dflt (k_fold; walk1))
  k_with "spliced" => (k_dflt (k_fold; walk1))
  k_with "eval Compare" => (k_dflt (k_fold; walk1))
  k_with "eval Call Attribute" => (k_dflt (k_fold; walk1))
  k_with "call ref" => (k_here; (with_reducible show wpAny _ _ (call (Value.ref 243) [Value.ref _, Value.int _ _]) _ _ _); k_dflt (refine' Fn.use (take_u ?U ?hp ?hkk ?hm0 ?hm1) ?B ?F ?X ?N ?T ?hk ?hd ?hu ?_; (case N => k_asm); (case U => k_updF); (case hp => assumption); (case hkk => omega); (case hm0 => omega); (case hm1 => omega); walk_at "my use2"); intro v9 x9 h9 tk9 P9 F9 N9; (obtain ⟨o9, f9, ⟨r9, t9, e9, q9, s9⟩, g9⟩ := P9); subst e9; (replace f9 := Eq.symm f9); subst f9; (try dsimp only at N9); (try k_sweep))
  k_with "subscriptTail Name Call ref int" => (k_here; (with_reducible show wpAny _ _ (subscriptTail _ _ (Value.ref _) (Value.int _ _)) _ _ _); k_dflt (refine' my_pick ?k1 ?k2 ?k3 ?k4 ?k5 ?k6 ?_ ?k7; (case k1 => k_asm); (case k2 => k_mem); (case k3 => l_intsW); (case k4 => omega); (case k5 => (simp only [List.length_cons, List.length_nil]; omega)); (case k6 => omega); (case k7 => with_unfolding_all rfl); k_whole); intro x9 t9 m9)
  k_fill
  intro dp un gd cn cs ad ccd cl outer A₀ base h₀ L m s Q E B F X N T hk hd hu hret
  have hlo := hs.lo
  have hpos := hs.pos
  have hpow := hs.pow
  have hhalf := hs.half
  refine wpAny_call ?_
  k_dflt cell_enter
  k_steps
  all_goals (
    (rename News _ _ _ _ => nE)
    have nT := News.tail' nE
    have ek : k + 4 = k + 1 + 1 + 1 + 1 := by omega
    rw [ek] at hret
    refine' hret _ ((l, _) :: rest) _ _ ?P ?F ?N
    case N => exact nT
    case F => k_asm
    case P => exact ⟨_, rfl, ⟨_, _, rfl⟩, by assumption⟩)
theorem number_u {w : World} {mean : ExcName → Option Value} {mg mb : Str → Option Value} {led : List (Addr × Obj)} {upd : Obj → List (Addr × Obj)} {l : Addr} {o : Obj} {k size W : Int} {ts : Tok} (U : UpdF l o led upd) (hp : IsPen o k) (hk : k < 800) (hs : Sz size W) :
    Fn w mean mg mb 250 2 [.ref l, .int size ts] led (fun v nx => ∃ o', nx = upd o' ∧ (∃ r t, v = .int r t) ∧ IsPen o' (k + 4)) :=
  Fn.at U fun rest hap _ => number_c w mean mg mb rest l o k size W ts hap hp hk hs

theorem lt_of_all {led : List (Addr × Obj)} {d : Addr} (h : AllLt d led) : ∀ p ∈ led, p.1 < d := by
  induction led with
  | nil => exact fun _ hp => nomatch hp
  | cons q r ih =>
    intro p hp
    rcases List.mem_cons.mp hp with rfl | hp
    · exact h.1
    · exact ih h.2 p hp
theorem marks_sum (x : Int) : (List.map (fun k' : Int => (x.fdiv (2 ^ k'.toNat)).fmod 2) (rangeKs 0 (8 - 0 : Int).toNat)).sum.fmod 2 = pc (x % 256) % 2 := by
  have e : rangeKs 0 (8 - 0 : Int).toNat = [0, 1, 2, 3, 4, 5, 6, 7] := by decide
  rw [e]
  have h : ∀ k : Nat, (x.fdiv (2 ^ k)).fmod 2 = x / 2 ^ k % 2 := fun k => by
    rw [Int.fdiv_eq_ediv_of_nonneg _ (Int.le_of_lt (kbt_pos k)), Int.fmod_eq_emod_of_nonneg _ (by decide)]
  simp only [List.map_cons, List.map_nil, List.sum_cons, List.sum_nil, h]
  rw [Int.fmod_eq_emod_of_nonneg _ (by decide)]
  unfold pc
  show (x / 1 % 2 + (x / 2 % 2 + (x / 4 % 2 + (x / 8 % 2 + (x / 16 % 2 + (x / 32 % 2 + (x / 64 % 2 + (x / 128 % 2 + 0)))))))) % 2 = _
  omega
set_option maxRecDepth 100000 in
set_option maxHeartbeats 8000000 in
theorem marks_c (w : World) (mean : ExcName → Option Value) (mg mb : Str → Option Value) (led : List (Addr × Obj)) (x W : Int) (tx tw : Tok) :
    Fn w mean mg mb 262 2 [.int x tx, .int W tw] led (fun r nx => ∃ l t1 t2 t3 n, nx = (l, listOf [Value.int (evn x) t1, Value.int (zro x) t2, Value.int (sgn x W) t3].toArray n) :: led ∧ r = .ref l ∧ (∀ q ∈ led, q.1 < l)) := by
  unfold Fn
  k_with_none
  k_with "my room" => ((try dsimp only [depth_under_make, depth_under_kw, depth_in1, depth_deeper, depth_caller, ktrTop]); first | ((with_reducible rename _ + _ < recursionLimit => hRoom9); first | exact room2 hRoom9 rfl | exact room3 hRoom9 rfl | exact room1 hRoom9 rfl | exact room0 hRoom9) | decide)
  k_with "my units" => ((try dsimp only [units_in1, units_deeper, units_under_make, units_caller, ktrTop]); first | ((with_reducible rename _ + _ < cLine => hUnits9); first | exact room2 hUnits9 rfl | exact room3 hUnits9 rfl | exact room1 hUnits9 rfl | exact room0 hUnits9) | decide)
  k_with "subscriptTail Name Constant ref int" => (k_here; (with_reducible show wpAny _ _ (subscriptTail _ _ (Value.ref _) (Value.int _ _)) _ _ _); k_dflt (refine' my_item ?k1 ?k2 ?k3 ?k4 ?k5 ?_ ?k6; (case k1 => k_asm); (case k2 => k_mem); (case k3 => decide); (case k4 => decide); (case k5 => rfl); (case k6 => with_unfolding_all rfl); k_whole))
  k_with "binaryOp FloorDiv int int" => (k_here; (with_reducible refine floordiv_int ?kbe ?_ (Or.inl (PyProof.noPylong_of_log2 ?kbp))); (case kbe => first | decide | omega); (case kbp => (first | decide +kernel | exact my_log (by omega) (by omega))))
  k_with "my use" => ((case B => k_asm); (case F => k_asm); (case X => k_asm); (case N => k_asm); (case T => k_asm); (case hk => first | exact rfl | assumption); (case hd => walk_at "my room"); (case hu => walk_at "my units"); k_whole)
  k_with "my use2" => ((case B => k_asm); (case F => k_asm); (case X => k_asm); (case T => k_asm); (case hk => first | exact rfl | assumption); (case hd => walk_at "my room"); (case hu => walk_at "my units"); k_whole)
  k_with "binaryOp LShift int int" => (k_here; (with_reducible refine lshift_int_small ?kb1 ?kb2 ?kb3 ?_); (case kb1 => first | decide | omega); (case kb2 => first | decide | omega); (case kb3 => first | decide | exact bit_nat (by assumption) | omega))
  k_with "my enterC" => (refine' code_defC ?k1 ?k2 ?k3 ?k4 ?k5 ?kA ?kF ?kK ?k6 ?k7 ?k8 ?k9 ?kB ?kD ?_ ?c2 ?c3 ?c4; (case kA => exact rfl); (case kF => exact rfl); (case kK => assumption); (case k1 => k_asm); (case k2 => k_asm); (case k3 => k_asm); (case k4 => k_asm); (case k5 => k_asm); (case k6 => k_is); (case k7 => k_is); (case k8 => walk_at "my room"); (case k9 => exact BindsTo.of_eq rfl); (case kB => exact rfl); (case kD => decide +kernel); (case c2 => exact rfl); (case c3 => exact rfl); (case c4 => exact rfl); k_whole; intro g' L' h' tk' cells' FG' F' N' Y' B' X' T' l1; (try k_lt l1); k_cells Y'; (try simp only [List.cons_append, List.nil_append] at N'); (try dsimp only); (try k_lift B'); (try k_fold))
  k_with "my all" => (first | with_reducible assumption | exact my_ne1 (by with_reducible assumption) | (refine my_ne2 ?_; first | with_reducible assumption | exact And.right (by with_reducible assumption) | exact And.right (And.right (by with_reducible assumption)) | exact And.right (And.right (And.right (by with_reducible assumption)))))
  k_with "my ne" => (refine neN ?_; (try dsimp only); first | assumption | exact Nat.ne_of_lt (by assumption) | exact Nat.ne_of_gt (by assumption) | exact Ne.symm (by assumption))
  k_with "execs cons" => (k_here; (refine gen_toks ?_); intro tk9; (try dsimp only); refine wpAny_execs_cons ?_)
  k_with "eval BinOp" => (k_dflt (k_fold; walk1))
  k_with "eval Call" => (k_dflt (k_fold; walk1))
  k_with "eval Subscript" => (k_dflt (k_fold; walk1))
  k_with "eval List" => (k_dflt (k_fold; walk1))
  k_with "eval Tuple" => (k_dflt (k_fold; walk1))
  k_with "eval IfExp" => (k_dflt (k_fold; walk1))
  k_with "spliced" => (k_dflt (k_fold; walk1))
  k_with "eval Compare" => (k_dflt (k_fold; walk1))
  k_with "eval Call Attribute" => (k_dflt (k_fold; walk1))
  k_fill
  intro dp un gd cn cs ad ccd cl outer A₀ base h₀ L m s Q E B F X N T hk hd hu hret
  refine wpAny_call ?_
  k_dflt (walk_at "my enterC")
  k_steps
  all_goals (
    (rename News _ _ _ _ => nE)
    (rename _ ∧ _ ∧ AllLt _ _ => lE)
    refine' hret _ ((_, listOf [Value.int (evn x) _, Value.int (zro x) _, Value.int (sgn x W) _].toArray _) :: led) _ _ ?P ?F ?N
    case N =>
      refine fun q hq => ?_
      rcases List.mem_cons.mp hq with rfl | hq
      · have h9 := nE _ (.head _)
        rw [marks_sum] at h9
        have ez : (if (x == 0) = true then (1 : Int) else 0) = zro x := by unfold zro; simp
        have es : (if decide (W ≤ 2 * x) = true then (1 : Int) else 0) = sgn x W := by unfold sgn; simp
        rw [ez, es] at h9
        exact h9
      · exact nE q (.tail _ (.tail _ (.tail _ hq)))
    case F => k_asm
    case P => exact ⟨_, _, _, _, _, rfl, rfl, lt_of_all lE.2.2⟩)

theorem cy_w {t W : Int} (hW : 0 ≤ W) : (if (t != t.fmod W) = true then (1 : Int) else 0) = cyS t W := by
  rw [Int.fmod_eq_emod_of_nonneg _ hW]
  unfold cyS
  by_cases h : t = t % W
  · rw [if_pos h, if_neg (by simp [← h])]
  · rw [if_neg h, if_pos (by simpa using h)]
theorem low_w (one way two y : Int) : one.fmod 16 + way * (two.fmod 16 + y) = one % 16 + way * (two % 16 + y) := by
  rw [Int.fmod_eq_emod_of_nonneg _ (by decide), Int.fmod_eq_emod_of_nonneg _ (by decide)]
theorem ax_w {l k : Int} (e : l = k) : (if (!(decide (0 ≤ l) && decide (l < 16))) = true then (1 : Int) else 0) = axS k := by
  subst e
  unfold axS
  by_cases h : 0 ≤ l <;> by_cases g : l < 16 <;> simp [h, g]
theorem half_w (W : Int) : W.fdiv 2 = W / 2 := Int.fdiv_eq_ediv_of_nonneg _ (by decide)
theorem ov_w {f W : Int} : (if (!(decide (0 - W.fdiv 2 ≤ f) && decide (f < W.fdiv 2))) = true then (1 : Int) else 0) = ovS f W := by
  rw [half_w]
  unfold ovS
  generalize 0 - W / 2 = j
  generalize W / 2 = k
  by_cases h : j ≤ f <;> by_cases g : f < k <;> simp [h, g]
def Joined (b : Bool) (s : Shared) (v : Value) (s' : Shared) : Prop := ∃ tk : Nat, v = .bool b ∧ s' = { s with toks := tk }
theorem join_b {M : Model} {A : Around} {e : Sem Value} {Q : Value → Shared → Prop} {E : Value → Shared → Prop} {s : Shared} (b : Bool) (C : wpAny M A e (Joined b s) E s) (H : ∀ tk : Nat, Q (.bool b) { s with toks := tk }) : wpAny M A e Q E s := by
  refine wpAny_mono C (fun v s' h => ?_) fun _ _ e => e
  obtain ⟨tk, rfl, rfl⟩ := h
  exact H tk
theorem joined_1 {p q : Prop} [Decidable p] [Decidable q] {s : Shared} {tk : Nat} (h : p) : Joined (decide p && decide q) s (.bool (decide q)) { s with toks := tk } := ⟨tk, by rw [decide_eq_true h, Bool.true_and], rfl⟩
theorem joined_0 {p q : Prop} [Decidable p] [Decidable q] {s : Shared} {tk : Nat} (h : ¬ p) : Joined (decide p && decide q) s (.bool (decide p)) { s with toks := tk } := ⟨tk, by rw [decide_eq_false h, Bool.false_and], rfl⟩
theorem news_2 {h₀ h : Heap} {L : Addr} {a b c d e : Addr × Obj} {led : List (Addr × Obj)} (N : News h₀ L h (a :: b :: c :: d :: e :: led)) : News h₀ L h (a :: b :: led) := by
  intro q hq
  rcases List.mem_cons.mp hq with rfl | hq
  · exact N _ (.head _)
  · rcases List.mem_cons.mp hq with rfl | hq
    · exact N _ (.tail _ (.head _))
    · exact N _ (.tail _ (.tail _ (.tail _ (.tail _ (.tail _ hq)))))
set_option maxRecDepth 100000 in
set_option maxHeartbeats 8000000 in
theorem signed_c (w : World) (mean : ExcName → Option Value) (mg mb : Str → Option Value) (led : List (Addr × Obj)) (x W : Int) (tx tw : Tok) :
    Fn w mean mg mb 257 1 [.int x tx, .int W tw] led (fun r nx => ∃ t, r = .int (sd x W) t ∧ nx = led) := by
  unfold Fn
  k_with_none
  k_with "my room" => ((try dsimp only [depth_under_make, depth_under_kw, depth_in1, depth_deeper, depth_caller, ktrTop]); first | ((with_reducible rename _ + _ < recursionLimit => hRoom9); first | exact room2 hRoom9 rfl | exact room3 hRoom9 rfl | exact room1 hRoom9 rfl | exact room0 hRoom9) | decide)
  k_with "my units" => ((try dsimp only [units_in1, units_deeper, units_under_make, units_caller, ktrTop]); first | ((with_reducible rename _ + _ < cLine => hUnits9); first | exact room2 hUnits9 rfl | exact room3 hUnits9 rfl | exact room1 hUnits9 rfl | exact room0 hUnits9) | decide)
  k_with "subscriptTail Name Constant ref int" => (k_here; (with_reducible show wpAny _ _ (subscriptTail _ _ (Value.ref _) (Value.int _ _)) _ _ _); k_dflt (refine' my_item ?k1 ?k2 ?k3 ?k4 ?k5 ?_ ?k6; (case k1 => k_asm); (case k2 => k_mem); (case k3 => decide); (case k4 => decide); (case k5 => rfl); (case k6 => with_unfolding_all rfl); k_whole))
  k_with "binaryOp FloorDiv int int" => (k_here; (with_reducible refine floordiv_int ?kbe ?_ (Or.inl (PyProof.noPylong_of_log2 ?kbp))); (case kbe => first | decide | omega); (case kbp => (first | decide +kernel | exact my_log (by omega) (by omega))))
  k_with "my use" => ((case B => k_asm); (case F => k_asm); (case X => k_asm); (case N => k_asm); (case T => k_asm); (case hk => first | exact rfl | assumption); (case hd => walk_at "my room"); (case hu => walk_at "my units"); k_whole)
  k_with "my use2" => ((case B => k_asm); (case F => k_asm); (case X => k_asm); (case T => k_asm); (case hk => first | exact rfl | assumption); (case hd => walk_at "my room"); (case hu => walk_at "my units"); k_whole)
  k_with "binaryOp LShift int int" => (k_here; (with_reducible refine lshift_int_small ?kb1 ?kb2 ?kb3 ?_); (case kb1 => first | decide | omega); (case kb2 => first | decide | omega); (case kb3 => first | decide | exact bit_nat (by assumption) | omega))
  k_with "my enterC" => (refine' code_defC ?k1 ?k2 ?k3 ?k4 ?k5 ?kA ?kF ?kK ?k6 ?k7 ?k8 ?k9 ?kB ?kD ?_ ?c2 ?c3 ?c4; (case kA => exact rfl); (case kF => exact rfl); (case kK => assumption); (case k1 => k_asm); (case k2 => k_asm); (case k3 => k_asm); (case k4 => k_asm); (case k5 => k_asm); (case k6 => k_is); (case k7 => k_is); (case k8 => walk_at "my room"); (case k9 => exact BindsTo.of_eq rfl); (case kB => exact rfl); (case kD => decide +kernel); (case c2 => exact rfl); (case c3 => exact rfl); (case c4 => exact rfl); k_whole; intro g' L' h' tk' cells' FG' F' N' Y' B' X' T' l1; (try k_lt l1); k_cells Y'; (try simp only [List.cons_append, List.nil_append] at N'); (try dsimp only); (try k_lift B'); (try k_fold))
  k_with "my all" => (first | with_reducible assumption | exact my_ne1 (by with_reducible assumption) | (refine my_ne2 ?_; first | with_reducible assumption | exact And.right (by with_reducible assumption) | exact And.right (And.right (by with_reducible assumption)) | exact And.right (And.right (And.right (by with_reducible assumption)))))
  k_with "my ne" => (refine neN ?_; (try dsimp only); first | assumption | exact Nat.ne_of_lt (by assumption) | exact Nat.ne_of_gt (by assumption) | exact Ne.symm (by assumption))
  k_with "execs cons" => (k_here; (refine gen_toks ?_); intro tk9; (try dsimp only); refine wpAny_execs_cons ?_)
  k_with "eval BinOp" => (k_dflt (k_fold; walk1))
  k_with "eval Call" => (k_dflt (k_fold; walk1))
  k_with "eval Subscript" => (k_dflt (k_fold; walk1))
  k_with "eval List" => (k_dflt (k_fold; walk1))
  k_with "eval Tuple" => (k_dflt (k_fold; walk1))
  k_with "eval IfExp" => (k_dflt (k_fold; walk1))
  k_with "spliced" => (k_dflt (k_fold; walk1))
  k_with "eval Compare" => (k_dflt (k_fold; walk1))
  k_with "eval Call Attribute" => (k_dflt (k_fold; walk1))
  k_with "call ref" => (k_here; (with_reducible show wpAny _ _ (call (Value.ref 262) [Value.int _ _, Value.int _ _]) _ _ _); k_dflt (refine' Fn.use (marks_c _ _ _ _ _ _ _ _ _) ?B ?F ?X ?N ?T ?hk ?hd ?hu ?_; walk_at "my use"); intro v9 x9 h9 tk9 P9 F9 N9; (obtain ⟨l9, ta9, tb9, tc9, n9, f9, e9, lt9⟩ := P9); subst e9; (replace f9 := Eq.symm f9); subst f9; (try k_lt lt9); (try k_sweep))
  k_fill
  intro dp un gd cn cs ad ccd cl outer A₀ base h₀ L m s Q E B F X N T hk hd hu hret
  refine wpAny_call ?_
  k_dflt cell_enter
  k_steps
  all_goals (
    refine' hret _ _ _ _ ?P ?F ?N
    case F => k_asm
    case N => k_asm
    case P => exact ⟨_, by unfold sd; split <;> first | rfl | omega, rfl⟩)
set_option maxRecDepth 100000 in
set_option maxHeartbeats 8000000 in
theorem sum_c (w : World) (mean : ExcName → Option Value) (mg mb : Str → Option Value) (led : List (Addr × Obj)) (rl : Addr) (c p a z s f d : Int) (t1 t2 t3 t4 t5 t6 t7 : Tok) (n : Nat) (one two y way size W : Int) (to tt ty ta tw : Tok) (hr : (rl, listOf [Value.int c t1, Value.int p t2, Value.int a t3, Value.int z t4, Value.int s t5, Value.int f t6, Value.int d t7].toArray n) ∈ led) (hw : way = 1 ∨ way = -1) (hs : Sz size W) :
    Fn w mean mg mb 269 3 [.ref rl, .int one to, .int two tt, .int y ty, .int way ta, .int W tw] led (fun r nx => ∃ tl ll t0 u1 u2 u3 u4 u5 u6 u7 n' r0 c1 p1 a1 z1 s1 f1, nx = (tl, ({ cls := .type "tuple", data := .seq [Value.int r0 t0, Value.ref ll].toArray } : Obj)) :: (ll, listOf [Value.int c1 u1, Value.int p1 u2, Value.int a1 u3, Value.int z1 u4, Value.int s1 u5, Value.int f1 u6, Value.int d u7].toArray n') :: led ∧ r = .ref tl ∧ (∀ q ∈ led, q.1 < ll) ∧ ll < tl ∧
      r0 = (one + way * (two + y)) % W ∧ c1 = cyS (one + way * (two + y)) W ∧ p1 = evn ((one + way * (two + y)) % W) ∧ a1 = axS (one % 16 + way * (two % 16 + y)) ∧ z1 = zro ((one + way * (two + y)) % W) ∧ s1 = sgn ((one + way * (two + y)) % W) W ∧ f1 = ovS (sd one W + way * (sd two W + y)) W) := by
  unfold Fn
  k_with_none
  k_with "my room" => ((try dsimp only [depth_under_make, depth_under_kw, depth_in1, depth_deeper, depth_caller, ktrTop]); first | ((with_reducible rename _ + _ < recursionLimit => hRoom9); first | exact room2 hRoom9 rfl | exact room3 hRoom9 rfl | exact room1 hRoom9 rfl | exact room0 hRoom9) | decide)
  k_with "my units" => ((try dsimp only [units_in1, units_deeper, units_under_make, units_caller, ktrTop]); first | ((with_reducible rename _ + _ < cLine => hUnits9); first | exact room2 hUnits9 rfl | exact room3 hUnits9 rfl | exact room1 hUnits9 rfl | exact room0 hUnits9) | decide)
  k_with "subscriptTail Name Constant ref int" => (k_here; (with_reducible show wpAny _ _ (subscriptTail _ _ (Value.ref _) (Value.int _ _)) _ _ _); k_dflt (refine' my_item ?k1 ?k2 ?k3 ?k4 ?k5 ?_ ?k6; (case k1 => k_asm); (case k2 => k_mem); (case k3 => decide); (case k4 => decide); (case k5 => rfl); (case k6 => with_unfolding_all rfl); k_whole))
  k_with "binaryOp FloorDiv int int" => (k_here; (with_reducible refine floordiv_int ?kbe ?_ (Or.inl (PyProof.noPylong_of_log2 ?kbp))); (case kbe => first | decide | omega); (case kbp => (first | decide +kernel | exact my_log (by omega) (by omega))))
  k_with "my use" => ((case B => k_asm); (case F => k_asm); (case X => k_asm); (case N => k_asm); (case T => k_asm); (case hk => first | exact rfl | assumption); (case hd => walk_at "my room"); (case hu => walk_at "my units"); k_whole)
  k_with "my use2" => ((case B => k_asm); (case F => k_asm); (case X => k_asm); (case T => k_asm); (case hk => first | exact rfl | assumption); (case hd => walk_at "my room"); (case hu => walk_at "my units"); k_whole)
  k_with "binaryOp LShift int int" => (k_here; (with_reducible refine lshift_int_small ?kb1 ?kb2 ?kb3 ?_); (case kb1 => first | decide | omega); (case kb2 => first | decide | omega); (case kb3 => first | decide | exact bit_nat (by assumption) | omega))
  k_with "my enterC" => (refine' code_defC ?k1 ?k2 ?k3 ?k4 ?k5 ?kA ?kF ?kK ?k6 ?k7 ?k8 ?k9 ?kB ?kD ?_ ?c2 ?c3 ?c4; (case kA => exact rfl); (case kF => exact rfl); (case kK => assumption); (case k1 => k_asm); (case k2 => k_asm); (case k3 => k_asm); (case k4 => k_asm); (case k5 => k_asm); (case k6 => k_is); (case k7 => k_is); (case k8 => walk_at "my room"); (case k9 => exact BindsTo.of_eq rfl); (case kB => exact rfl); (case kD => decide +kernel); (case c2 => exact rfl); (case c3 => exact rfl); (case c4 => exact rfl); k_whole; intro g' L' h' tk' cells' FG' F' N' Y' B' X' T' l1; (try k_lt l1); k_cells Y'; (try simp only [List.cons_append, List.nil_append] at N'); (try dsimp only); (try k_lift B'); (try k_fold))
  k_with "my all" => (first | with_reducible assumption | exact my_ne1 (by with_reducible assumption) | (refine my_ne2 ?_; first | with_reducible assumption | exact And.right (by with_reducible assumption) | exact And.right (And.right (by with_reducible assumption)) | exact And.right (And.right (And.right (by with_reducible assumption)))))
  k_with "my ne" => (refine neN ?_; (try dsimp only); first | assumption | exact Nat.ne_of_lt (by assumption) | exact Nat.ne_of_gt (by assumption) | exact Ne.symm (by assumption))
  k_with "execs cons" => (k_here; (refine gen_toks ?_); intro tk9; (try dsimp only); refine wpAny_execs_cons ?_)
  k_with "eval BinOp" => (k_dflt (k_fold; walk1))
  k_with "eval Call" => (k_dflt (k_fold; walk1))
  k_with "eval Subscript" => (k_dflt (k_fold; walk1))
  k_with "eval List" => (k_dflt (k_fold; walk1))
  k_with "eval Tuple" => (k_dflt (k_fold; walk1))
  k_with "eval IfExp" => (k_dflt (k_fold; walk1))
  k_with "spliced" => (k_dflt (k_fold; walk1))
  k_with "eval Compare" => (k_dflt (k_fold; walk1))
  k_with "eval Call Attribute" => (k_dflt (k_fold; walk1))
  k_with "call ref" => (k_here; (with_reducible show wpAny _ _ (call (Value.ref 262) [Value.int _ _, Value.int _ _]) _ _ _); k_dflt (refine' Fn.use (marks_c _ _ _ _ _ _ _ _ _) ?B ?F ?X ?N ?T ?hk ?hd ?hu ?_; walk_at "my use"); intro v9 x9 h9 tk9 P9 F9 N9; (obtain ⟨l9, ta9, tb9, tc9, n9, f9, e9, lt9⟩ := P9); subst e9; (replace f9 := Eq.symm f9); subst f9; (try k_lt lt9); (try k_sweep))
  k_with "call ref" => (k_here; (with_reducible show wpAny _ _ (call (Value.ref 257) [Value.int _ _, Value.int _ _]) _ _ _); k_dflt (refine' Fn.use (signed_c _ _ _ _ _ _ _ _ _) ?B ?F ?X ?N ?T ?hk ?hd ?hu ?_; walk_at "my use"); intro v9 x9 h9 tk9 P9 F9 N9; (obtain ⟨t9, e9, f9⟩ := P9); subst e9; (replace f9 := Eq.symm f9); subst f9; (try k_sweep))
  k_fill
  intro dp un gd cn cs ad ccd cl outer A₀ base h₀ L m s Q E B F X N T hk hd hu hret
  have hpos := hs.pos
  k_with "eval Compare" => (k_here; (with_reducible show wpAny _ _ (eval (Expr.Compare (Expr.Constant _ _ _) [CmpOp.LtE, CmpOp.Lt] _ _) _) _ _ _); (fail_if_success (with_reducible show wpAny _ _ _ (Joined _ _) _ _)); k_dflt (refine' join_b (decide (0 ≤ one.fmod 16 + way * (two.fmod 16 + y)) && decide (one.fmod 16 + way * (two.fmod 16 + y) < 16)) ?_ ?_); rotate_left; (intro tkj; (try dsimp only)); rotate_left)
  k_with "eval Compare" => (k_here; (with_reducible show wpAny _ _ (eval (Expr.Compare (Expr.BinOp _ _ _ _) [CmpOp.LtE, CmpOp.Lt] _ _) _) _ _ _); (fail_if_success (with_reducible show wpAny _ _ _ (Joined _ _) _ _)); k_dflt (refine' join_b (decide (0 - W.fdiv 2 ≤ sd one W + way * (sd two W + y)) && decide (sd one W + way * (sd two W + y) < W.fdiv 2)) ?_ ?_); rotate_left; (intro tkj; (try dsimp only)); rotate_left)
  k_with "Joined" => (k_dflt (first | exact joined_1 (by assumption) | exact joined_0 (by assumption)))
  refine wpAny_call ?_
  k_dflt cell_enter
  k_steps
  all_goals (
    have eW : (one + way * (two + y)).fmod W = (one + way * (two + y)) % W := Int.fmod_eq_emod_of_nonneg _ (by omega)
    (rename News _ _ _ _ => nE)
    (rename _ < _ ∧ _ < _ ∧ _ < _ ∧ _ < _ ∧ AllLt _ _ => lA)
    (rename _ < _ ∧ _ < _ ∧ _ < _ ∧ AllLt _ _ => lB)
    have nT := news_2 nE
    refine' hret _ _ _ _ ?P ?F ?N
    case N => exact nT
    case F => k_asm
    case P =>
      refine ⟨_, _, _, _, _, _, _, _, _, _, _, _, _, _, _, _, _, _, rfl, rfl, lt_of_all lB.2.2.2, lA.1, eW, cy_w (by omega), by rw [eW], ?_, by rw [eW], by rw [eW], ?_⟩
      · exact ax_w (low_w _ _ _ _)
      · exact ov_w)
theorem sum_u {w : World} {mean : ExcName → Option Value} {mg mb : Str → Option Value} {led : List (Addr × Obj)} {rl : Addr} {c p a z s f d : Int} {t1 t2 t3 t4 t5 t6 t7 : Tok} {n : Nat} {one two y way size W : Int} {to tt ty ta tw : Tok} (hr : (rl, listOf [Value.int c t1, Value.int p t2, Value.int a t3, Value.int z t4, Value.int s t5, Value.int f t6, Value.int d t7].toArray n) ∈ led) (hw : way = 1 ∨ way = -1) (hs : Sz size W) :
    Fn w mean mg mb 269 3 [.ref rl, .int one to, .int two tt, .int y ty, .int way ta, .int W tw] led (fun r nx => ∃ tl ll t0 u1 u2 u3 u4 u5 u6 u7 n', nx = (tl, ({ cls := .type "tuple", data := .seq [Value.int ((one + way * (two + y)) % W) t0, Value.ref ll].toArray } : Obj)) :: (ll, listOf [Value.int (cyS (one + way * (two + y)) W) u1, Value.int (evn ((one + way * (two + y)) % W)) u2, Value.int (axS (one % 16 + way * (two % 16 + y))) u3, Value.int (zro ((one + way * (two + y)) % W)) u4, Value.int (sgn ((one + way * (two + y)) % W) W) u5, Value.int (ovS (sd one W + way * (sd two W + y)) W) u6, Value.int d u7].toArray n') :: led ∧ r = .ref tl ∧ (∀ q ∈ led, q.1 < ll) ∧ ll < tl) := by
  intro dp un gd cn cs ad ccd cl outer A₀ base h₀ L m s₀ Q E B F X N T hk hd hu hret
  refine sum_c w mean mg mb led rl c p a z s f d t1 t2 t3 t4 t5 t6 t7 n one two y way size W to tt ty ta tw hr hw hs dp un gd cn cs ad ccd cl outer A₀ base h₀ L m s₀ Q E B F X N T hk hd hu ?_
  rintro v nx h' tk' ⟨tl, ll, t0, u1, u2, u3, u4, u5, u6, u7, n', r0, c1, p1, a1, z1, s1, f1, rfl, rfl, la, lb, rfl, rfl, rfl, rfl, rfl, rfl, rfl⟩ F' N'
  exact hret _ _ _ _ ⟨_, _, _, _, _, _, _, _, _, _, _, rfl, rfl, la, lb⟩ F' N'

theorem base_is : ((10 : Int) ^ Int.toNat 30 + 57) = 1000000000000000000000000000057 := by decide
theorem pen_mul {a : Int} {k : Nat} (h0 : 0 ≤ a) (h1 : a < (1000000000000000000000000000057 : Int) ^ k) (hk : k ≤ 40) : IntMulOk a (10 ^ Int.toNat 30 + 57) := by
  rw [base_is]
  have e : ∀ j : Nat, (1000000000000000000000000000057 : Int) ^ j = ((1000000000000000000000000000057 ^ j : Nat) : Int) := fun j => by rw [Int.natCast_pow]; rfl
  have h2 : (1000000000000000000000000000057 : Int) ^ k ≤ 1000000000000000000000000000057 ^ 40 := by
    rw [e, e]
    exact Int.ofNat_le.mpr (Nat.pow_le_pow_right (by decide) hk)
  refine IntMulOk.of_le (m := 5000) (n := 128) (intBits_le_iff.mpr ?_) (intBits_le_iff.mpr (by decide +kernel)) (by decide)
  have h3 : (1000000000000000000000000000057 : Int) ^ 40 < 2 ^ 5000 := by decide +kernel
  have h4 : a < 2 ^ 5000 := Int.lt_of_lt_of_le h1 (Int.le_trans h2 (Int.le_of_lt h3))
  have h5 : ((a.natAbs : Nat) : Int) = a := Int.natAbs_of_nonneg h0
  have h6 : ((a.natAbs : Nat) : Int) < ((2 ^ 5000 : Nat) : Int) := by rw [h5, kbt_cast]; exact h4
  exact Int.ofNat_lt.mp h6
theorem pen_state {a x n : Int} {pre : List Int} (h0 : 0 ≤ a) (h1 : a < (1000000000000000000000000000057 : Int) ^ pre.length) :
    0 ≤ a * (10 ^ Int.toNat 30 + 57) + x.fmod (10 ^ Int.toNat 30 + 57) ∧ a * (10 ^ Int.toNat 30 + 57) + x.fmod (10 ^ Int.toNat 30 + 57) < (1000000000000000000000000000057 : Int) ^ (pre ++ [n]).length := by
  rw [base_is, List.length_append, List.length_singleton, Int.pow_succ]
  have h2 := Int.fmod_nonneg_of_pos x (b := 1000000000000000000000000000057) (by decide)
  have h3 := Int.fmod_lt_of_pos x (b := 1000000000000000000000000000057) (by decide)
  generalize (1000000000000000000000000000057 : Int) ^ pre.length = P at h1 ⊢
  omega
set_option maxRecDepth 100000 in
set_option maxHeartbeats 8000000 in
theorem pen_c (w : World) (mean : ExcName → Option Value) (mg mb : Str → Option Value) (led : List (Addr × Obj)) (l : Addr) (vs : List Value) (ns : List Int) (hi : IntsAre vs ns) (hlen : ns.length ≤ 63) :
  ∀ (dp un : Nat) (gd : Option (List Code)) (cn : Str) (cs : Scope) (a : Addr) (ccd : Value) (cl : List (Str × Addr)) (outer : List Env) (A₀ : Around) (base h₀ : Heap) (L : Addr) (m : Str → Option Value) (s : Shared) (Q E : Value → Shared → Prop),
    base.IsList l vs.toArray → Below A₀ base outer h₀ → Fr h₀ L s.heap m → (hd.heap_1 w.params).In h₀ → News h₀ L s.heap led → Top view (looseW view [Str.ofString "MintError"]) mean mg mb h₀ → cs.kind = .function →
    dp + 3 < recursionLimit → un + 8 * 3 < cLine →
    (∀ (p : Addr) (o : Obj) (h' : Heap) (tk' : Nat), IsPen o 0 → (∀ q ∈ led, q.1 < p) → Fr h₀ L h' m → News h₀ L h' ((p, o) :: led) → Q (.ref p) { s with heap := h', toks := tk' }) →
    wpAny (model PySem.Challenge.rw_qz0047_01.row.prog w) (ktrTop dp un gd cn cs L a ccd cl outer) (call (.ref 236) [.ref l]) Q E s := by
  k_with_none
  k_with "my room" => ((try dsimp only [depth_under_make, depth_under_kw, depth_in1, depth_deeper, depth_caller, ktrTop]); first | ((with_reducible rename _ + _ < recursionLimit => hRoom9); first | exact room2 hRoom9 rfl | exact room3 hRoom9 rfl | exact room1 hRoom9 rfl | exact room0 hRoom9) | decide)
  k_with "my units" => ((try dsimp only [units_in1, units_deeper, units_under_make, units_caller, ktrTop]); first | ((with_reducible rename _ + _ < cLine => hUnits9); first | exact room2 hUnits9 rfl | exact room3 hUnits9 rfl | exact room1 hUnits9 rfl | exact room0 hUnits9) | decide)
  k_with "subscriptTail Name Constant ref int" => (k_here; (with_reducible show wpAny _ _ (subscriptTail _ _ (Value.ref _) (Value.int _ _)) _ _ _); k_dflt (refine' my_item ?k1 ?k2 ?k3 ?k4 ?k5 ?_ ?k6; (case k1 => k_asm); (case k2 => k_mem); (case k3 => decide); (case k4 => decide); (case k5 => rfl); (case k6 => with_unfolding_all rfl); k_whole))
  k_with "binaryOp FloorDiv int int" => (k_here; (with_reducible refine floordiv_int ?kbe ?_ (Or.inl (PyProof.noPylong_of_log2 ?kbp))); (case kbe => first | decide | omega); (case kbp => (first | decide +kernel | exact my_log (by omega) (by omega))))
  k_with "my use" => ((case B => k_asm); (case F => k_asm); (case X => k_asm); (case N => k_asm); (case T => k_asm); (case hk => first | exact rfl | assumption); (case hd => walk_at "my room"); (case hu => walk_at "my units"); k_whole)
  k_with "my use2" => ((case B => k_asm); (case F => k_asm); (case X => k_asm); (case T => k_asm); (case hk => first | exact rfl | assumption); (case hd => walk_at "my room"); (case hu => walk_at "my units"); k_whole)
  k_with "binaryOp LShift int int" => (k_here; (with_reducible refine lshift_int_small ?kb1 ?kb2 ?kb3 ?_); (case kb1 => first | decide | omega); (case kb2 => first | decide | omega); (case kb3 => first | decide | exact bit_nat (by assumption) | omega))
  k_with "my enterC" => (refine' code_defC ?k1 ?k2 ?k3 ?k4 ?k5 ?kA ?kF ?kK ?k6 ?k7 ?k8 ?k9 ?kB ?kD ?_ ?c2 ?c3 ?c4; (case kA => exact rfl); (case kF => exact rfl); (case kK => assumption); (case k1 => k_asm); (case k2 => k_asm); (case k3 => k_asm); (case k4 => k_asm); (case k5 => k_asm); (case k6 => k_is); (case k7 => k_is); (case k8 => walk_at "my room"); (case k9 => exact BindsTo.of_eq rfl); (case kB => exact rfl); (case kD => decide +kernel); (case c2 => exact rfl); (case c3 => exact rfl); (case c4 => exact rfl); k_whole; intro g' L' h' tk' cells' FG' F' N' Y' B' X' T' l1; (try k_lt l1); k_cells Y'; (try simp only [List.cons_append, List.nil_append] at N'); (try dsimp only); (try k_lift B'); (try k_fold))
  k_with "my all" => (first | with_reducible assumption | exact my_ne1 (by with_reducible assumption) | (refine my_ne2 ?_; first | with_reducible assumption | exact And.right (by with_reducible assumption) | exact And.right (And.right (by with_reducible assumption)) | exact And.right (And.right (And.right (by with_reducible assumption)))))
  k_with "my ne" => (refine neN ?_; (try dsimp only); first | assumption | exact Nat.ne_of_lt (by assumption) | exact Nat.ne_of_gt (by assumption) | exact Ne.symm (by assumption))
  k_with "execs cons" => (k_here; (refine gen_toks ?_); intro tk9; (try dsimp only); refine wpAny_execs_cons ?_)
  k_with "eval BinOp" => (k_dflt (k_fold; walk1))
  k_with "eval Call" => (k_dflt (k_fold; walk1))
  k_with "eval Subscript" => (k_dflt (k_fold; walk1))
  k_with "eval List" => (k_dflt (k_fold; walk1))
  k_with "eval Tuple" => (k_dflt (k_fold; walk1))
  k_with "eval IfExp" => (k_dflt (k_fold; walk1))
  k_with "spliced" => (k_dflt (k_fold; walk1))
  k_with "eval Compare" => (k_dflt (k_fold; walk1))
  k_with "eval Call Attribute" => (k_dflt (k_fold; walk1))
  k_with "binaryOp Mult int int" => (k_here; (with_reducible refine mul_int ?_ ?kbm); (case kbm => exact pen_mul (by assumption) (by assumption) (by omega)))
  k_fill
  intro dp un gd cn cs ad ccd cl outer A₀ base h₀ L m s Q E hl B F X N T hk hd hu hret
  k_with "pyIter ref" => k_state (fun pre a => 0 ≤ a ∧ a < (1000000000000000000000000000057 : Int) ^ pre.length) "store"
  k_with "state" => exact pen_state (by assumption) (by assumption)
  refine wpAny_call ?_
  k_dflt cell_enter
  k_steps
  all_goals (
    (rename News _ _ _ _ => nE)
    (rename _ < _ ∧ _ < _ ∧ AllLt _ _ => lA)
    refine' hret _ _ _ _ ?I ?O ?F ?N
    case N => exact fun q hq => nE q (by
      rcases List.mem_cons.mp hq with rfl | hq
      · exact .head _
      · exact .tail _ (.tail _ (.tail _ hq)))
    case F => k_asm
    case O => exact lt_of_all lA.2.2
    case I =>
      refine ⟨_, _, _, _, _, _, _, rfl, by assumption, ?_, ?_, by decide, by decide⟩
      · have := Int.fmod_nonneg_of_pos (ns.length : Int) (b := 1000) (by decide)
        omega
      · have := Int.fmod_lt_of_pos (ns.length : Int) (b := 1000) (by decide)
        omega)


noncomputable def lastOf : List Stmt → Option Stmt
  | [] => none
  | [x] => some x
  | _ :: r => lastOf r
noncomputable def lawStmt : Option Stmt := lastOf PySem.Challenge.pw_qz0047_01.main.body
noncomputable def lawBody : List Stmt := match lawStmt with
  | some (.FunctionDef _ _ b _ _ _ _ _ _ _) => b
  | _ => []
noncomputable def lawScope : Scope := match lawStmt with
  | some (.FunctionDef _ _ _ _ _ _ sc _ _ _) => sc
  | _ => { kind := .module, names := [], isGenerator := false, isCoroutine := false, more := [] }
noncomputable def turnBody : List Stmt := match lawBody with
  | [_, _, _, .For _ _ b _ _, _] => b
  | _ => []
noncomputable def part1 (rest : List Stmt) : List Stmt := match turnBody with
  | [a, b, c, _, _] => a :: b :: c :: rest
  | _ => rest
noncomputable def part2 (rest : List Stmt) : List Stmt := match turnBody with
  | [_, _, _, d, _] => d :: rest
  | _ => rest
noncomputable def part3 : List Stmt := match turnBody with
  | [_, _, _, _, e] => [e]
  | _ => []
theorem turnBody_eq : turnBody = part1 (part2 part3) := rfl
noncomputable abbrev lawA (L fa : Addr) (cd : Value) : Around := callerA.deeper (envOfC (Str.ofString "law") lawScope L fa cd)
theorem sz_of {x : Int} (h : x ∈ [(8 : Int), 16, 32, 64]) : ∃ W, Sz x W := by
  simp only [List.mem_cons, List.not_mem_nil, or_false] at h
  rcases h with rfl | rfl | rfl | rfl
  · exact ⟨_, .inl ⟨rfl, rfl⟩⟩
  · exact ⟨_, .inr (.inl ⟨rfl, rfl⟩)⟩
  · exact ⟨_, .inr (.inr (.inl ⟨rfl, rfl⟩))⟩
  · exact ⟨_, .inr (.inr (.inr ⟨rfl, rfl⟩))⟩
theorem fm_val {size W : Int} (h : Sz size W) (u : Int) : u.fmod (1 * 2 ^ size.toNat) = u % W := by
  have := h.pos
  rw [h.pow, Int.one_mul, Int.fmod_eq_emod_of_nonneg _ (by omega)]
theorem news_p1 {h₀ h : Heap} {L : Addr} {a b c d e f : Addr × Obj} {led : List (Addr × Obj)} (N : News h₀ L h (a :: b :: c :: d :: e :: f :: led)) : News h₀ L h (b :: c :: led) := by
  intro q hq
  rcases List.mem_cons.mp hq with rfl | hq
  · exact N _ (.tail _ (.head _))
  · rcases List.mem_cons.mp hq with rfl | hq
    · exact N _ (.tail _ (.tail _ (.head _)))
    · exact N _ (.tail _ (.tail _ (.tail _ (.tail _ (.tail _ (.tail _ hq))))))
set_option maxRecDepth 100000 in
set_option maxHeartbeats 8000000 in
theorem ph1 (w : World) (mean : ExcName → Option Value) (mg mb : Str → Option Value) (H : Heap) (L fa : Addr) (cd : Value) (rest : List Stmt) (x dx pl rl : Addr) (o po co : Obj) (c p a z s f d : Int) (t1 t2 t3 t4 t5 t6 t7 : Tok) (n : Nat) (own : List (Addr × Obj)) (k : Int) (m : Str → Option Value) (st : Shared) (Q : Flow → Shared → Prop) (E : Value → Shared → Prop)
    (B : Below callerA H [] H) (X : (hd.heap_1 w.params).In H) (T : Top view (looseW view [Str.ofString "MintError"]) mean mg mb H)
    (F : Fr H L st.heap (fun y => if y = Str.ofString "flags" then some (.ref x) else if y = Str.ofString "row" then some (.ref rl) else m y))
    (N : News H L st.heap ((x, instObj 169 dx) :: (dx, o) :: (pl, po) :: (L + 1, co) :: (rl, listOf [Value.int c t1, Value.int p t2, Value.int a t3, Value.int z t4, Value.int s t5, Value.int f t6, Value.int d t7].toArray n) :: own))
    (hco : co.data = .cell (some (.ref pl))) (ho : IsFl w o c p a z s f d) (hp : IsPen po k) (hk : k < 700)
    (bc : 0 ≤ c ∧ c ≤ 1) (bp : 0 ≤ p ∧ p ≤ 1) (ba : 0 ≤ a ∧ a ≤ 1) (bz : 0 ≤ z ∧ z ≤ 1) (bs : 0 ≤ s ∧ s ≤ 1) (bf : 0 ≤ f ∧ f ≤ 1) (bd : 0 ≤ d ∧ d ≤ 1)
    (n1 : @Ne Nat pl x) (n2 : @Ne Nat pl dx) (n3 : @Ne Nat pl (L + 1)) (n4 : @Ne Nat pl rl) (n5 : ∀ q ∈ own, q.1 ≠ pl)
    (hcont : ∀ (size W way u v one two wh : Int) (xb db : Addr) (ob pb : Obj) (s1 s2 s3 s4 s5 s6 s7 : Tok) (h' : Heap) (tk : Nat), Sz size W → 0 ≤ way → way < 7 → IsFl w ob c p a z s f d → IsPen pb (k + 10) → one = u % W → two = v % W → wh = W →
      (@LT.lt Nat _ x db ∧ @LT.lt Nat _ dx db ∧ @LT.lt Nat _ pl db ∧ @LT.lt Nat _ (L + 1) db ∧ @LT.lt Nat _ rl db ∧ AllLt db own) → @LT.lt Nat _ db xb →
      Fr H L h' (fun y => if y = Str.ofString "before" then some (.ref rl) else if y = Str.ofString "kept" then some (.ref xb) else if y = Str.ofString "other" then some (.int two s1) else if y = Str.ofString "one" then some (.int one s2) else if y = Str.ofString "wheel" then some (.int wh s5) else if y = Str.ofString "first" then some (.int u s4) else if y = Str.ofString "second" then some (.int v s3) else if y = Str.ofString "size" then some (.int size s7) else if y = Str.ofString "way" then some (.int way s6) else if y = Str.ofString "flags" then some (.ref x) else if y = Str.ofString "row" then some (.ref rl) else m y) →
      News H L h' ((xb, instObj 169 db) :: (db, ob) :: (x, instObj 169 dx) :: (dx, o) :: (pl, pb) :: (L + 1, co) :: (rl, listOf [Value.int c t1, Value.int p t2, Value.int a t3, Value.int z t4, Value.int s t5, Value.int f t6, Value.int d t7].toArray n) :: own) →
      wpAny (model PySem.Challenge.rw_qz0047_01.row.prog w) (lawA L fa cd) (execs rest (envOfC (Str.ofString "law") lawScope L fa cd)) Q E { st with heap := h', toks := tk }) :
    wpAny (model PySem.Challenge.rw_qz0047_01.row.prog w) (lawA L fa cd) (execs (part1 rest) (envOfC (Str.ofString "law") lawScope L fa cd)) Q E st := by
  obtain ⟨kk, tt, rfl⟩ := ho
  revert X
  k_with_none
  k_with "my room" => ((try dsimp only [depth_under_make, depth_under_kw, depth_in1, depth_deeper, depth_caller, ktrTop]); first | ((with_reducible rename _ + _ < recursionLimit => hRoom9); first | exact room2 hRoom9 rfl | exact room3 hRoom9 rfl | exact room1 hRoom9 rfl | exact room0 hRoom9) | decide)
  k_with "my units" => ((try dsimp only [units_in1, units_deeper, units_under_make, units_caller, ktrTop]); first | ((with_reducible rename _ + _ < cLine => hUnits9); first | exact room2 hUnits9 rfl | exact room3 hUnits9 rfl | exact room1 hUnits9 rfl | exact room0 hUnits9) | decide)
  k_with "subscriptTail Name Constant ref int" => (k_here; (with_reducible show wpAny _ _ (subscriptTail _ _ (Value.ref _) (Value.int _ _)) _ _ _); k_dflt (refine' my_item ?k1 ?k2 ?k3 ?k4 ?k5 ?_ ?k6; (case k1 => k_asm); (case k2 => k_mem); (case k3 => decide); (case k4 => decide); (case k5 => rfl); (case k6 => with_unfolding_all rfl); k_whole))
  k_with "binaryOp FloorDiv int int" => (k_here; (with_reducible refine floordiv_int ?kbe ?_ (Or.inl (PyProof.noPylong_of_log2 ?kbp))); (case kbe => first | decide | omega); (case kbp => (first | decide +kernel | exact my_log (by omega) (by omega))))
  k_with "my use" => ((case B => k_asm); (case F => k_asm); (case X => k_asm); (case N => k_asm); (case T => k_asm); (case hk => first | exact rfl | assumption); (case hd => walk_at "my room"); (case hu => walk_at "my units"); k_whole)
  k_with "my use2" => ((case B => k_asm); (case F => k_asm); (case X => k_asm); (case T => k_asm); (case hk => first | exact rfl | assumption); (case hd => walk_at "my room"); (case hu => walk_at "my units"); k_whole)
  k_with "binaryOp LShift int int" => (k_here; (with_reducible refine lshift_int_small ?kb1 ?kb2 ?kb3 ?_); (case kb1 => first | decide | omega); (case kb2 => first | decide | omega); (case kb3 => first | decide | exact bit_nat (by assumption) | omega))
  k_with "my enterC" => (refine' code_defC ?k1 ?k2 ?k3 ?k4 ?k5 ?kA ?kF ?kK ?k6 ?k7 ?k8 ?k9 ?kB ?kD ?_ ?c2 ?c3 ?c4; (case kA => exact rfl); (case kF => exact rfl); (case kK => assumption); (case k1 => k_asm); (case k2 => k_asm); (case k3 => k_asm); (case k4 => k_asm); (case k5 => k_asm); (case k6 => k_is); (case k7 => k_is); (case k8 => walk_at "my room"); (case k9 => exact BindsTo.of_eq rfl); (case kB => exact rfl); (case kD => decide +kernel); (case c2 => exact rfl); (case c3 => exact rfl); (case c4 => exact rfl); k_whole; intro g' L' h' tk' cells' FG' F' N' Y' B' X' T' l1; (try k_lt l1); k_cells Y'; (try simp only [List.cons_append, List.nil_append] at N'); (try dsimp only); (try k_lift B'); (try k_fold))
  k_with "my all" => (first | with_reducible assumption | exact my_ne1 (by with_reducible assumption) | (refine my_ne2 ?_; first | with_reducible assumption | exact And.right (by with_reducible assumption) | exact And.right (And.right (by with_reducible assumption)) | exact And.right (And.right (And.right (by with_reducible assumption)))))
  k_with "my ne" => (refine neN ?_; (try dsimp only); first | assumption | exact Nat.ne_of_lt (by assumption) | exact Nat.ne_of_gt (by assumption) | exact Ne.symm (by assumption))
  k_with "execs cons" => (k_here; (refine gen_toks ?_); intro tk9; (try dsimp only); refine wpAny_execs_cons ?_)
  k_with "eval BinOp" => (k_dflt (k_fold; walk1))
  k_with "eval Call" => (k_dflt (k_fold; walk1))
  k_with "eval Subscript" => (k_dflt (k_fold; walk1))
  k_with "eval List" => (k_dflt (k_fold; walk1))
  k_with "eval Tuple" => (k_dflt (k_fold; walk1))
  k_with "eval IfExp" => (k_dflt (k_fold; walk1))
  k_with "spliced" => (k_dflt (k_fold; walk1))
  k_with "eval Compare" => (k_dflt (k_fold; walk1))
  k_with "eval Call Attribute" => (k_dflt (k_fold; walk1))
  k_with "call ref" => (k_here; (with_reducible show wpAny _ _ (call (Value.ref 243) [Value.ref _, Value.int _ _]) _ _ _); k_dflt (refine' Fn.use (take_u ?U ?hp ?hkk ?hm0 ?hm1) ?B ?F ?X ?N ?T ?hk ?hd ?hu ?_; (case N => k_asm); (case U => k_updF); (case hp => assumption); (case hkk => omega); (case hm0 => omega); (case hm1 => omega); walk_at "my use2"); intro v9 x9 h9 tk9 P9 F9 N9; (obtain ⟨o9, f9, ⟨r9, t9, e9, q9, s9⟩, g9⟩ := P9); subst e9; (replace f9 := Eq.symm f9); subst f9; (try dsimp only at N9); (try k_sweep))
  k_with "call ref" => (k_here; (with_reducible show wpAny _ _ (call (Value.ref 250) [Value.ref _, Value.int _ _]) _ _ _); k_dflt (refine' Fn.use (number_u ?U ?hp ?hkk ?hs) ?B ?F ?X ?N ?T ?hk ?hd ?hu ?_; (case N => k_asm); (case U => k_updF); (case hp => assumption); (case hkk => omega); (case hs => assumption); walk_at "my use2"); intro v9 x9 h9 tk9 P9 F9 N9; (obtain ⟨o9, f9, ⟨r9, t9, e9⟩, g9⟩ := P9); subst e9; (replace f9 := Eq.symm f9); subst f9; (try dsimp only at N9); (try k_sweep))
  k_with "call ref" => (k_here; (with_reducible show wpAny _ _ (call (Value.ref 145) _) _ _ _); k_dflt (refine' Fn.use (copy_u ?hx ?hdx ?ho ?bc ?bp ?ba ?bz ?bs ?bf ?bd) ?B ?F ?X ?N ?T ?hk ?hd ?hu ?_; (case N => k_asm); (case hx => k_mem); (case hdx => k_mem); (case ho => first | assumption | exact isFl_mk rfl rfl rfl rfl rfl rfl rfl); (case bc => assumption); (case bp => assumption); (case ba => assumption); (case bz => assumption); (case bs => assumption); (case bf => assumption); (case bd => assumption); walk_at "my use2"); intro v9 x9 h9 tk9 P9 F9 N9; (obtain ⟨xa9, da9, oa9, f9, e9, lta9, ltb9, g9⟩ := P9); subst e9; (replace f9 := Eq.symm f9); subst f9; (try k_lt lta9); (try k_lt2 ltb9); (try k_sweep))
  k_with "subscriptTail List" => (k_here; (with_reducible show wpAny _ _ (subscriptTail _ _ (Value.ref _) (Value.int _ _)) _ _ _); k_dflt (refine' my_pick ?k1 ?k2 ?k3 ?k4 ?k5 ?k6 ?_ ?k7; (case k1 => k_asm); (case k2 => k_mem); (case k3 => l_intsW); (case k4 => omega); (case k5 => (simp only [List.length_cons, List.length_nil]; omega)); (case k6 => omega); (case k7 => with_unfolding_all rfl); k_whole); intro x9 t9 m9; (obtain ⟨W9, hs9⟩ := sz_of m9); (have hlo9 := Sz.lo hs9); (have hpos9 := Sz.pos hs9); (have hpow9 := Sz.pow hs9))
  k_with "binaryOp Mod int int" => (k_here; (with_reducible refine mod_int' ?kbe ?_); (case kbe => omega))
  k_fill
  intro X
  conv =>
    arg 3
    arg 1
    whnf
  have eS : lawScope = lawScope := rfl
  conv at eS =>
    rhs
    whnf
  rw [eS] at hcont ⊢
  clear eS
  k_steps
  all_goals (
    (rename News _ _ _ _ => nE)
    (rename _ < _ ∧ _ < _ ∧ _ < _ ∧ x < _ ∧ _ => lE)
    have nT := news_p1 nE
    have ek : k + 10 = k + 1 + 1 + 4 + 4 := by omega
    rw [ek] at hcont
    refine' hcont _ _ _ _ _ _ _ _ _ _ _ _ _ _ _ _ _ _ _ _ _ ?hs ?w0 ?w1 ?ho ?hp ?e1 ?e2 ?e3 ?lt ?lb ?F ?N
    case F => k_asm
    case N => exact nT
    case hs => assumption
    case w0 => assumption
    case w1 => assumption
    case ho => assumption
    case hp => assumption
    case e1 => exact fm_val (by assumption) _
    case e2 => exact fm_val (by assumption) _
    case e3 => rw [Sz.pow (by assumption), Int.one_mul]
    case lt => exact lE.2.2.2
    case lb => assumption)


abbrev rowL (c p a z s f d : Int) (t1 t2 t3 t4 t5 t6 t7 : Tok) (n : Nat) : Obj := listOf [Value.int c t1, Value.int p t2, Value.int a t3, Value.int z t4, Value.int s t5, Value.int f t6, Value.int d t7].toArray n
def Cont2 (w : World) (H : Heap) (L fa : Addr) (cd : Value) (rest : List Stmt) (st : Shared) (Q : Flow → Shared → Prop) (E : Value → Shared → Prop) (xb db x dx pl rl : Addr) (ob pb co orow : Obj) (d : Int) (own : List (Addr × Obj)) : Prop :=
  ∀ (r : Int) (ta tb : Tok) (r2 : Addr) (o' : Obj) (c p a z s f : Int) (t1 t2 t3 t4 t5 t6 t7 : Tok) (n2 : Nat) (m' : Str → Option Value) (h' : Heap) (tk : Nat),
    IsFl w o' c p a z s f d → (0 ≤ c ∧ c ≤ 1) → (0 ≤ p ∧ p ≤ 1) → (0 ≤ a ∧ a ≤ 1) → (0 ≤ z ∧ z ≤ 1) → (0 ≤ s ∧ s ≤ 1) → (0 ≤ f ∧ f ≤ 1) →
    m' (Str.ofString "told") = some (.int r ta) → m' (Str.ofString "due") = some (.int r tb) → m' (Str.ofString "row") = some (.ref r2) → m' (Str.ofString "flags") = some (.ref x) → m' (Str.ofString "kept") = some (.ref xb) → m' (Str.ofString "before") = some (.ref rl) →
    (@LT.lt Nat _ xb r2 ∧ @LT.lt Nat _ db r2 ∧ @LT.lt Nat _ x r2 ∧ @LT.lt Nat _ dx r2 ∧ @LT.lt Nat _ pl r2 ∧ @LT.lt Nat _ (L + 1) r2 ∧ @LT.lt Nat _ rl r2 ∧ AllLt r2 own) →
    Fr H L h' m' → News H L h' ((r2, rowL c p a z s f d t1 t2 t3 t4 t5 t6 t7 n2) :: (xb, instObj 169 db) :: (db, ob) :: (x, instObj 169 dx) :: (dx, o') :: (pl, pb) :: (L + 1, co) :: (rl, orow) :: own) →
    wpAny (model PySem.Challenge.rw_qz0047_01.row.prog w) (lawA L fa cd) (execs rest (envOfC (Str.ofString "law") lawScope L fa cd)) Q E { st with heap := h', toks := tk }
theorem cy01 (t W : Int) : 0 ≤ cyS t W ∧ cyS t W ≤ 1 := by unfold cyS; split <;> omega
theorem ax01 (t : Int) : 0 ≤ axS t ∧ axS t ≤ 1 := by unfold axS; split <;> omega
theorem ov01 (t W : Int) : 0 ≤ ovS t W ∧ ovS t W ≤ 1 := by unfold ovS; split <;> omega
theorem zro01 (t : Int) : 0 ≤ zro t ∧ zro t ≤ 1 := by unfold zro; split <;> omega
theorem sgn01 (t W : Int) : 0 ≤ sgn t W ∧ sgn t W ≤ 1 := by unfold sgn; split <;> omega
theorem evn01 (t : Int) : 0 ≤ evn t ∧ evn t ≤ 1 := by unfold evn; omega
theorem news_d4 {h₀ h : Heap} {L : Addr} {x a b c d : Addr × Obj} {led : List (Addr × Obj)} (N : News h₀ L h (x :: a :: b :: c :: d :: led)) : News h₀ L h (x :: led) := by
  intro q hq
  rcases List.mem_cons.mp hq with rfl | hq
  · exact N _ (.head _)
  · exact N _ (.tail _ (.tail _ (.tail _ (.tail _ (.tail _ hq)))))
theorem news_d2 {h₀ h : Heap} {L : Addr} {x a b : Addr × Obj} {led : List (Addr × Obj)} (N : News h₀ L h (x :: a :: b :: led)) : News h₀ L h (x :: led) := by
  intro q hq
  rcases List.mem_cons.mp hq with rfl | hq
  · exact N _ (.head _)
  · exact N _ (.tail _ (.tail _ (.tail _ hq)))
set_option maxRecDepth 100000 in
set_option maxHeartbeats 8000000 in
theorem ph2_0 (w : World) (mean : ExcName → Option Value) (mg mb : Str → Option Value) (H : Heap) (L fa : Addr) (cd : Value) (rest : List Stmt) (xb db x dx pl rl : Addr) (ob o pb co : Obj) (c p a z s f d : Int) (t1 t2 t3 t4 t5 t6 t7 : Tok) (n : Nat) (own : List (Addr × Obj)) (m : Str → Option Value) (st : Shared) (Q : Flow → Shared → Prop) (E : Value → Shared → Prop)
    (size W u v : Int) (s1 s2 s3 s4 s5 s6 s7 : Tok)
    (B : Below callerA H [] H) (X : (hd.heap_1 w.params).In H) (T : Top view (looseW view [Str.ofString "MintError"]) mean mg mb H)
    (F : Fr H L st.heap (fun y => if y = Str.ofString "before" then some (.ref rl) else if y = Str.ofString "kept" then some (.ref xb) else if y = Str.ofString "other" then some (.int (v % W) s1) else if y = Str.ofString "one" then some (.int (u % W) s2) else if y = Str.ofString "wheel" then some (.int W s5) else if y = Str.ofString "first" then some (.int u s4) else if y = Str.ofString "second" then some (.int v s3) else if y = Str.ofString "size" then some (.int size s7) else if y = Str.ofString "way" then some (.int 0 s6) else if y = Str.ofString "flags" then some (.ref x) else if y = Str.ofString "row" then some (.ref rl) else m y))
    (N : News H L st.heap ((xb, instObj 169 db) :: (db, ob) :: (x, instObj 169 dx) :: (dx, o) :: (pl, pb) :: (L + 1, co) :: (rl, rowL c p a z s f d t1 t2 t3 t4 t5 t6 t7 n) :: own))
    (hs : Sz size W) (ho : IsFl w o c p a z s f d)
    (bc : 0 ≤ c ∧ c ≤ 1) (bp : 0 ≤ p ∧ p ≤ 1) (ba : 0 ≤ a ∧ a ≤ 1) (bz : 0 ≤ z ∧ z ≤ 1) (bs : 0 ≤ s ∧ s ≤ 1) (bf : 0 ≤ f ∧ f ≤ 1)
    (n1 : @Ne Nat dx x) (n2 : @Ne Nat dx pl) (n3 : @Ne Nat dx (L + 1)) (n4 : @Ne Nat dx rl) (n5 : ∀ q ∈ own, q.1 ≠ dx)
    (l1 : @LT.lt Nat _ x db ∧ @LT.lt Nat _ dx db ∧ @LT.lt Nat _ pl db ∧ @LT.lt Nat _ (L + 1) db ∧ @LT.lt Nat _ rl db ∧ AllLt db own) (l2 : @LT.lt Nat _ db xb)
    (hcont : Cont2 w H L fa cd rest st Q E xb db x dx pl rl ob pb co (rowL c p a z s f d t1 t2 t3 t4 t5 t6 t7 n) d own) :
    wpAny (model PySem.Challenge.rw_qz0047_01.row.prog w) (lawA L fa cd) (execs (part2 rest) (envOfC (Str.ofString "law") lawScope L fa cd)) Q E st := by
  revert X
  k_with_none
  k_with "my room" => ((try dsimp only [depth_under_make, depth_under_kw, depth_in1, depth_deeper, depth_caller, ktrTop]); first | ((with_reducible rename _ + _ < recursionLimit => hRoom9); first | exact room2 hRoom9 rfl | exact room3 hRoom9 rfl | exact room1 hRoom9 rfl | exact room0 hRoom9) | decide)
  k_with "my units" => ((try dsimp only [units_in1, units_deeper, units_under_make, units_caller, ktrTop]); first | ((with_reducible rename _ + _ < cLine => hUnits9); first | exact room2 hUnits9 rfl | exact room3 hUnits9 rfl | exact room1 hUnits9 rfl | exact room0 hUnits9) | decide)
  k_with "subscriptTail Name Constant ref int" => (k_here; (with_reducible show wpAny _ _ (subscriptTail _ _ (Value.ref _) (Value.int _ _)) _ _ _); k_dflt (refine' my_item ?k1 ?k2 ?k3 ?k4 ?k5 ?_ ?k6; (case k1 => k_asm); (case k2 => k_mem); (case k3 => decide); (case k4 => decide); (case k5 => rfl); (case k6 => with_unfolding_all rfl); k_whole))
  k_with "binaryOp FloorDiv int int" => (k_here; (with_reducible refine floordiv_int ?kbe ?_ (Or.inl (PyProof.noPylong_of_log2 ?kbp))); (case kbe => first | decide | omega); (case kbp => (first | decide +kernel | exact my_log (by omega) (by omega))))
  k_with "my use" => ((case B => k_asm); (case F => k_asm); (case X => k_asm); (case N => k_asm); (case T => k_asm); (case hk => first | exact rfl | assumption); (case hd => walk_at "my room"); (case hu => walk_at "my units"); k_whole)
  k_with "my use2" => ((case B => k_asm); (case F => k_asm); (case X => k_asm); (case T => k_asm); (case hk => first | exact rfl | assumption); (case hd => walk_at "my room"); (case hu => walk_at "my units"); k_whole)
  k_with "binaryOp LShift int int" => (k_here; (with_reducible refine lshift_int_small ?kb1 ?kb2 ?kb3 ?_); (case kb1 => first | decide | omega); (case kb2 => first | decide | omega); (case kb3 => first | decide | exact bit_nat (by assumption) | omega))
  k_with "my enterC" => (refine' code_defC ?k1 ?k2 ?k3 ?k4 ?k5 ?kA ?kF ?kK ?k6 ?k7 ?k8 ?k9 ?kB ?kD ?_ ?c2 ?c3 ?c4; (case kA => exact rfl); (case kF => exact rfl); (case kK => assumption); (case k1 => k_asm); (case k2 => k_asm); (case k3 => k_asm); (case k4 => k_asm); (case k5 => k_asm); (case k6 => k_is); (case k7 => k_is); (case k8 => walk_at "my room"); (case k9 => exact BindsTo.of_eq rfl); (case kB => exact rfl); (case kD => decide +kernel); (case c2 => exact rfl); (case c3 => exact rfl); (case c4 => exact rfl); k_whole; intro g' L' h' tk' cells' FG' F' N' Y' B' X' T' l1; (try k_lt l1); k_cells Y'; (try simp only [List.cons_append, List.nil_append] at N'); (try dsimp only); (try k_lift B'); (try k_fold))
  k_with "my all" => (first | with_reducible assumption | exact my_ne1 (by with_reducible assumption) | (refine my_ne2 ?_; first | with_reducible assumption | exact And.right (by with_reducible assumption) | exact And.right (And.right (by with_reducible assumption)) | exact And.right (And.right (And.right (by with_reducible assumption)))))
  k_with "my ne" => (refine neN ?_; (try dsimp only); first | assumption | exact Nat.ne_of_lt (by assumption) | exact Nat.ne_of_gt (by assumption) | exact Ne.symm (by assumption))
  k_with "execs cons" => (k_here; (refine gen_toks ?_); intro tk9; (try dsimp only); refine wpAny_execs_cons ?_)
  k_with "eval BinOp" => (k_dflt (k_fold; walk1))
  k_with "eval Call" => (k_dflt (k_fold; walk1))
  k_with "eval Subscript" => (k_dflt (k_fold; walk1))
  k_with "eval List" => (k_dflt (k_fold; walk1))
  k_with "eval Tuple" => (k_dflt (k_fold; walk1))
  k_with "eval IfExp" => (k_dflt (k_fold; walk1))
  k_with "spliced" => (k_dflt (k_fold; walk1))
  k_with "eval Compare" => (k_dflt (k_fold; walk1))
  k_with "eval Call Attribute" => (k_dflt (k_fold; walk1))
  k_with "call ref" => (k_here; (with_reducible show wpAny _ _ (call (Value.ref 208) [Value.ref _, Value.int _ _, Value.int _ _]) _ _ _); k_dflt (refine' Fn.use (inc_u ?U ?hx ?ho ?hs) ?B ?F ?X ?N ?T ?hk ?hd ?hu ?_; (case N => k_asm); (case hx => k_mem); (case U => k_updF); (case ho => assumption); (case hs => assumption); walk_at "my use2"); intro v9 x9 h9 tk9 P9 F9 N9; (obtain ⟨o9, f9, ⟨t9, e9⟩, g9⟩ := P9); subst e9; (replace f9 := Eq.symm f9); subst f9; (try dsimp only at N9); (try k_sweep))
  k_with "call ref" => (k_here; (with_reducible show wpAny _ _ (call (Value.ref 215) [Value.ref _, Value.int _ _, Value.int _ _]) _ _ _); k_dflt (refine' Fn.use (dec_u ?U ?hx ?ho ?hs) ?B ?F ?X ?N ?T ?hk ?hd ?hu ?_; (case N => k_asm); (case hx => k_mem); (case U => k_updF); (case ho => assumption); (case hs => assumption); walk_at "my use2"); intro v9 x9 h9 tk9 P9 F9 N9; (obtain ⟨o9, f9, ⟨t9, e9⟩, g9⟩ := P9); subst e9; (replace f9 := Eq.symm f9); subst f9; (try dsimp only at N9); (try k_sweep))
  k_with "call ref" => (k_here; (with_reducible show wpAny _ _ (call (Value.ref 222) [Value.ref _, Value.int _ _, Value.int _ _]) _ _ _); k_dflt (refine' Fn.use (neg_u ?U ?hx ?ho ?hs) ?B ?F ?X ?N ?T ?hk ?hd ?hu ?_; (case N => k_asm); (case hx => k_mem); (case U => k_updF); (case ho => assumption); (case hs => assumption); walk_at "my use2"); intro v9 x9 h9 tk9 P9 F9 N9; (obtain ⟨o9, f9, ⟨t9, e9⟩, g9⟩ := P9); subst e9; (replace f9 := Eq.symm f9); subst f9; (try dsimp only at N9); (try k_sweep))
  k_with "call ref" => (k_here; (with_reducible show wpAny _ _ (call (Value.ref 201) [Value.ref _, Value.int _ _, Value.int _ _]) _ _ _); k_dflt (refine' Fn.use (logic_u ?U ?hx ?ho ?hs) ?B ?F ?X ?N ?T ?hk ?hd ?hu ?_; (case N => k_asm); (case hx => k_mem); (case U => k_updF); (case ho => assumption); (case hs => assumption); walk_at "my use2"); intro v9 x9 h9 tk9 P9 F9 N9; (obtain ⟨o9, f9, ⟨t9, e9⟩, g9⟩ := P9); subst e9; (replace f9 := Eq.symm f9); subst f9; (try dsimp only at N9); (try k_sweep))
  k_with "call ref" => (k_here; (with_reducible show wpAny _ _ (call (Value.ref 180) [Value.ref _, Value.int _ _, Value.int _ _]) _ _ _); k_dflt (refine' Fn.use (szp_u ?U ?hx ?ho ?hs) ?B ?F ?X ?N ?T ?hk ?hd ?hu ?_; (case N => k_asm); (case hx => k_mem); (case U => k_updF); (case ho => assumption); (case hs => assumption); walk_at "my use2"); intro v9 x9 h9 tk9 P9 F9 N9; (obtain ⟨o9, f9, ⟨t9, e9⟩, g9⟩ := P9); subst e9; (replace f9 := Eq.symm f9); subst f9; (try dsimp only at N9); (try k_sweep))
  k_with "call ref" => (k_here; (with_reducible show wpAny _ _ (call (Value.ref 187) [Value.ref _, Value.int _ _, Value.int _ _, Value.int _ _, Value.int _ _]) _ _ _); k_dflt (refine' Fn.use (add_u ?U ?hx ?ho ?hs ?hy) ?B ?F ?X ?N ?T ?hk ?hd ?hu ?_; (case N => k_asm); (case hx => k_mem); (case U => k_updF); (case ho => assumption); (case hs => assumption); (case hy => first | assumption | omega); walk_at "my use2"); intro v9 x9 h9 tk9 P9 F9 N9; (obtain ⟨o9, f9, ⟨t9, e9⟩, g9⟩ := P9); subst e9; (replace f9 := Eq.symm f9); subst f9; (try dsimp only at N9); (try k_sweep))
  k_with "call ref" => (k_here; (with_reducible show wpAny _ _ (call (Value.ref 194) [Value.ref _, Value.int _ _, Value.int _ _, Value.int _ _, Value.int _ _]) _ _ _); k_dflt (refine' Fn.use (sub_u ?U ?hx ?ho ?hs ?hy) ?B ?F ?X ?N ?T ?hk ?hd ?hu ?_; (case N => k_asm); (case hx => k_mem); (case U => k_updF); (case ho => assumption); (case hs => assumption); (case hy => first | assumption | omega); walk_at "my use2"); intro v9 x9 h9 tk9 P9 F9 N9; (obtain ⟨o9, f9, ⟨t9, e9⟩, g9⟩ := P9); subst e9; (replace f9 := Eq.symm f9); subst f9; (try dsimp only at N9); (try k_sweep))
  k_with "call ref" => (k_here; (with_reducible show wpAny _ _ (call (Value.ref 269) [Value.ref _, Value.int _ _, Value.int _ _, Value.int _ _, Value.int _ _, Value.int _ _]) _ _ _); k_dflt (refine' Fn.use (sum_u ?hr ?hw ?hs) ?B ?F ?X ?N ?T ?hk ?hd ?hu ?_; (case N => k_asm); (case hr => k_mem); (case hw => first | omega | decide); (case hs => assumption); walk_at "my use2"); intro v9 x9 h9 tk9 P9 F9 N9; (obtain ⟨tl9, ll9, t09, ua9, ub9, uc9, ud9, ue9, uf9, ug9, n9, f9, e9, lta9, ltb9⟩ := P9); subst e9; (replace f9 := Eq.symm f9); subst f9; (try k_lt lta9); (try k_lt2 ltb9); (try k_sweep))
  k_with "subscriptTail List" => (k_here; (with_reducible show wpAny _ _ (subscriptTail _ _ (Value.ref _) (Value.int _ _)) _ _ _); k_dflt (refine' my_pick ?k1 ?k2 ?k3 ?k4 ?k5 ?k6 ?_ ?k7; (case k1 => k_asm); (case k2 => k_mem); (case k3 => l_intsW); (case k4 => omega); (case k5 => (simp only [List.length_cons, List.length_nil]; omega)); (case k6 => omega); (case k7 => with_unfolding_all rfl); k_whole); intro x9 t9 m9; (obtain ⟨W9, hs9⟩ := sz_of m9); (have hlo9 := Sz.lo hs9); (have hpos9 := Sz.pos hs9); (have hpow9 := Sz.pow hs9))
  k_with "binaryOp Mod int int" => (k_here; (with_reducible refine mod_int' ?kbe ?_); (case kbe => omega))
  k_with "call ref" => (k_here; (with_reducible show wpAny _ _ (call (Value.ref 262) [Value.int _ _, Value.int _ _]) _ _ _); k_dflt (refine' Fn.use (marks_c _ _ _ _ _ _ _ _ _) ?B ?F ?X ?N ?T ?hk ?hd ?hu ?_; walk_at "my use"); intro v9 x9 h9 tk9 P9 F9 N9; (obtain ⟨l9, ta9, tb9, tc9, n9, f9, e9, lt9⟩ := P9); subst e9; (replace f9 := Eq.symm f9); subst f9; (try k_lt lt9); (try k_sweep))
  k_fill
  intro X
  unfold Cont2 at hcont
  conv =>
    arg 3
    arg 1
    whnf
  have eS : lawScope = lawScope := rfl
  conv at eS =>
    rhs
    whnf
  rw [eS] at hcont ⊢
  clear eS
  k_steps
  all_goals (
    dsimp only
    (rename News _ _ _ _ => nE)
    have nT := news_d4 nE
    (rename _ ∧ _ ∧ _ ∧ _ ∧ @LT.lt Nat _ xb _ ∧ _ => lE)
    have lT := lE.2.2.2.2
    (rename FlSumC _ _ _ _ _ _ _ _ _ => gE)
    refine' hcont _ _ _ _ _ _ _ _ _ _ _ _ _ _ _ _ _ _ _ _ _ _ ?ho ?b1 ?b2 ?b3 ?b4 ?b5 ?b6 ?m1 ?m2 ?m3 ?m4 ?m5 ?m6 ?lt ?F ?N
    case F => k_asm
    case N => exact nT
    case m1 => exact rfl
    case m2 => exact rfl
    case m3 => exact rfl
    case m4 => exact rfl
    case m5 => exact rfl
    case m6 => exact rfl
    case lt => exact lT
    case ho => exact gE
    case b1 => first | assumption | exact cy01 _ _ | decide
    case b2 => exact evn01 _
    case b3 => first | assumption | exact ax01 _ | decide
    case b4 => exact zro01 _
    case b5 => exact sgn01 _ _
    case b6 => first | assumption | exact ov01 _ _ | decide)

set_option maxRecDepth 100000 in
set_option maxHeartbeats 8000000 in
theorem ph2_1 (w : World) (mean : ExcName → Option Value) (mg mb : Str → Option Value) (H : Heap) (L fa : Addr) (cd : Value) (rest : List Stmt) (xb db x dx pl rl : Addr) (ob o pb co : Obj) (c p a z s f d : Int) (t1 t2 t3 t4 t5 t6 t7 : Tok) (n : Nat) (own : List (Addr × Obj)) (m : Str → Option Value) (st : Shared) (Q : Flow → Shared → Prop) (E : Value → Shared → Prop)
    (size W u v : Int) (s1 s2 s3 s4 s5 s6 s7 : Tok)
    (B : Below callerA H [] H) (X : (hd.heap_1 w.params).In H) (T : Top view (looseW view [Str.ofString "MintError"]) mean mg mb H)
    (F : Fr H L st.heap (fun y => if y = Str.ofString "before" then some (.ref rl) else if y = Str.ofString "kept" then some (.ref xb) else if y = Str.ofString "other" then some (.int (v % W) s1) else if y = Str.ofString "one" then some (.int (u % W) s2) else if y = Str.ofString "wheel" then some (.int W s5) else if y = Str.ofString "first" then some (.int u s4) else if y = Str.ofString "second" then some (.int v s3) else if y = Str.ofString "size" then some (.int size s7) else if y = Str.ofString "way" then some (.int 1 s6) else if y = Str.ofString "flags" then some (.ref x) else if y = Str.ofString "row" then some (.ref rl) else m y))
    (N : News H L st.heap ((xb, instObj 169 db) :: (db, ob) :: (x, instObj 169 dx) :: (dx, o) :: (pl, pb) :: (L + 1, co) :: (rl, rowL c p a z s f d t1 t2 t3 t4 t5 t6 t7 n) :: own))
    (hs : Sz size W) (ho : IsFl w o c p a z s f d)
    (bc : 0 ≤ c ∧ c ≤ 1) (bp : 0 ≤ p ∧ p ≤ 1) (ba : 0 ≤ a ∧ a ≤ 1) (bz : 0 ≤ z ∧ z ≤ 1) (bs : 0 ≤ s ∧ s ≤ 1) (bf : 0 ≤ f ∧ f ≤ 1)
    (n1 : @Ne Nat dx x) (n2 : @Ne Nat dx pl) (n3 : @Ne Nat dx (L + 1)) (n4 : @Ne Nat dx rl) (n5 : ∀ q ∈ own, q.1 ≠ dx)
    (l1 : @LT.lt Nat _ x db ∧ @LT.lt Nat _ dx db ∧ @LT.lt Nat _ pl db ∧ @LT.lt Nat _ (L + 1) db ∧ @LT.lt Nat _ rl db ∧ AllLt db own) (l2 : @LT.lt Nat _ db xb)
    (hcont : Cont2 w H L fa cd rest st Q E xb db x dx pl rl ob pb co (rowL c p a z s f d t1 t2 t3 t4 t5 t6 t7 n) d own) :
    wpAny (model PySem.Challenge.rw_qz0047_01.row.prog w) (lawA L fa cd) (execs (part2 rest) (envOfC (Str.ofString "law") lawScope L fa cd)) Q E st := by
  revert X
  k_with_none
  k_with "my room" => ((try dsimp only [depth_under_make, depth_under_kw, depth_in1, depth_deeper, depth_caller, ktrTop]); first | ((with_reducible rename _ + _ < recursionLimit => hRoom9); first | exact room2 hRoom9 rfl | exact room3 hRoom9 rfl | exact room1 hRoom9 rfl | exact room0 hRoom9) | decide)
  k_with "my units" => ((try dsimp only [units_in1, units_deeper, units_under_make, units_caller, ktrTop]); first | ((with_reducible rename _ + _ < cLine => hUnits9); first | exact room2 hUnits9 rfl | exact room3 hUnits9 rfl | exact room1 hUnits9 rfl | exact room0 hUnits9) | decide)
  k_with "subscriptTail Name Constant ref int" => (k_here; (with_reducible show wpAny _ _ (subscriptTail _ _ (Value.ref _) (Value.int _ _)) _ _ _); k_dflt (refine' my_item ?k1 ?k2 ?k3 ?k4 ?k5 ?_ ?k6; (case k1 => k_asm); (case k2 => k_mem); (case k3 => decide); (case k4 => decide); (case k5 => rfl); (case k6 => with_unfolding_all rfl); k_whole))
  k_with "binaryOp FloorDiv int int" => (k_here; (with_reducible refine floordiv_int ?kbe ?_ (Or.inl (PyProof.noPylong_of_log2 ?kbp))); (case kbe => first | decide | omega); (case kbp => (first | decide +kernel | exact my_log (by omega) (by omega))))
  k_with "my use" => ((case B => k_asm); (case F => k_asm); (case X => k_asm); (case N => k_asm); (case T => k_asm); (case hk => first | exact rfl | assumption); (case hd => walk_at "my room"); (case hu => walk_at "my units"); k_whole)
  k_with "my use2" => ((case B => k_asm); (case F => k_asm); (case X => k_asm); (case T => k_asm); (case hk => first | exact rfl | assumption); (case hd => walk_at "my room"); (case hu => walk_at "my units"); k_whole)
  k_with "binaryOp LShift int int" => (k_here; (with_reducible refine lshift_int_small ?kb1 ?kb2 ?kb3 ?_); (case kb1 => first | decide | omega); (case kb2 => first | decide | omega); (case kb3 => first | decide | exact bit_nat (by assumption) | omega))
  k_with "my enterC" => (refine' code_defC ?k1 ?k2 ?k3 ?k4 ?k5 ?kA ?kF ?kK ?k6 ?k7 ?k8 ?k9 ?kB ?kD ?_ ?c2 ?c3 ?c4; (case kA => exact rfl); (case kF => exact rfl); (case kK => assumption); (case k1 => k_asm); (case k2 => k_asm); (case k3 => k_asm); (case k4 => k_asm); (case k5 => k_asm); (case k6 => k_is); (case k7 => k_is); (case k8 => walk_at "my room"); (case k9 => exact BindsTo.of_eq rfl); (case kB => exact rfl); (case kD => decide +kernel); (case c2 => exact rfl); (case c3 => exact rfl); (case c4 => exact rfl); k_whole; intro g' L' h' tk' cells' FG' F' N' Y' B' X' T' l1; (try k_lt l1); k_cells Y'; (try simp only [List.cons_append, List.nil_append] at N'); (try dsimp only); (try k_lift B'); (try k_fold))
  k_with "my all" => (first | with_reducible assumption | exact my_ne1 (by with_reducible assumption) | (refine my_ne2 ?_; first | with_reducible assumption | exact And.right (by with_reducible assumption) | exact And.right (And.right (by with_reducible assumption)) | exact And.right (And.right (And.right (by with_reducible assumption)))))
  k_with "my ne" => (refine neN ?_; (try dsimp only); first | assumption | exact Nat.ne_of_lt (by assumption) | exact Nat.ne_of_gt (by assumption) | exact Ne.symm (by assumption))
  k_with "execs cons" => (k_here; (refine gen_toks ?_); intro tk9; (try dsimp only); refine wpAny_execs_cons ?_)
  k_with "eval BinOp" => (k_dflt (k_fold; walk1))
  k_with "eval Call" => (k_dflt (k_fold; walk1))
  k_with "eval Subscript" => (k_dflt (k_fold; walk1))
  k_with "eval List" => (k_dflt (k_fold; walk1))
  k_with "eval Tuple" => (k_dflt (k_fold; walk1))
  k_with "eval IfExp" => (k_dflt (k_fold; walk1))
  k_with "spliced" => (k_dflt (k_fold; walk1))
  k_with "eval Compare" => (k_dflt (k_fold; walk1))
  k_with "eval Call Attribute" => (k_dflt (k_fold; walk1))
  k_with "call ref" => (k_here; (with_reducible show wpAny _ _ (call (Value.ref 208) [Value.ref _, Value.int _ _, Value.int _ _]) _ _ _); k_dflt (refine' Fn.use (inc_u ?U ?hx ?ho ?hs) ?B ?F ?X ?N ?T ?hk ?hd ?hu ?_; (case N => k_asm); (case hx => k_mem); (case U => k_updF); (case ho => assumption); (case hs => assumption); walk_at "my use2"); intro v9 x9 h9 tk9 P9 F9 N9; (obtain ⟨o9, f9, ⟨t9, e9⟩, g9⟩ := P9); subst e9; (replace f9 := Eq.symm f9); subst f9; (try dsimp only at N9); (try k_sweep))
  k_with "call ref" => (k_here; (with_reducible show wpAny _ _ (call (Value.ref 215) [Value.ref _, Value.int _ _, Value.int _ _]) _ _ _); k_dflt (refine' Fn.use (dec_u ?U ?hx ?ho ?hs) ?B ?F ?X ?N ?T ?hk ?hd ?hu ?_; (case N => k_asm); (case hx => k_mem); (case U => k_updF); (case ho => assumption); (case hs => assumption); walk_at "my use2"); intro v9 x9 h9 tk9 P9 F9 N9; (obtain ⟨o9, f9, ⟨t9, e9⟩, g9⟩ := P9); subst e9; (replace f9 := Eq.symm f9); subst f9; (try dsimp only at N9); (try k_sweep))
  k_with "call ref" => (k_here; (with_reducible show wpAny _ _ (call (Value.ref 222) [Value.ref _, Value.int _ _, Value.int _ _]) _ _ _); k_dflt (refine' Fn.use (neg_u ?U ?hx ?ho ?hs) ?B ?F ?X ?N ?T ?hk ?hd ?hu ?_; (case N => k_asm); (case hx => k_mem); (case U => k_updF); (case ho => assumption); (case hs => assumption); walk_at "my use2"); intro v9 x9 h9 tk9 P9 F9 N9; (obtain ⟨o9, f9, ⟨t9, e9⟩, g9⟩ := P9); subst e9; (replace f9 := Eq.symm f9); subst f9; (try dsimp only at N9); (try k_sweep))
  k_with "call ref" => (k_here; (with_reducible show wpAny _ _ (call (Value.ref 201) [Value.ref _, Value.int _ _, Value.int _ _]) _ _ _); k_dflt (refine' Fn.use (logic_u ?U ?hx ?ho ?hs) ?B ?F ?X ?N ?T ?hk ?hd ?hu ?_; (case N => k_asm); (case hx => k_mem); (case U => k_updF); (case ho => assumption); (case hs => assumption); walk_at "my use2"); intro v9 x9 h9 tk9 P9 F9 N9; (obtain ⟨o9, f9, ⟨t9, e9⟩, g9⟩ := P9); subst e9; (replace f9 := Eq.symm f9); subst f9; (try dsimp only at N9); (try k_sweep))
  k_with "call ref" => (k_here; (with_reducible show wpAny _ _ (call (Value.ref 180) [Value.ref _, Value.int _ _, Value.int _ _]) _ _ _); k_dflt (refine' Fn.use (szp_u ?U ?hx ?ho ?hs) ?B ?F ?X ?N ?T ?hk ?hd ?hu ?_; (case N => k_asm); (case hx => k_mem); (case U => k_updF); (case ho => assumption); (case hs => assumption); walk_at "my use2"); intro v9 x9 h9 tk9 P9 F9 N9; (obtain ⟨o9, f9, ⟨t9, e9⟩, g9⟩ := P9); subst e9; (replace f9 := Eq.symm f9); subst f9; (try dsimp only at N9); (try k_sweep))
  k_with "call ref" => (k_here; (with_reducible show wpAny _ _ (call (Value.ref 187) [Value.ref _, Value.int _ _, Value.int _ _, Value.int _ _, Value.int _ _]) _ _ _); k_dflt (refine' Fn.use (add_u ?U ?hx ?ho ?hs ?hy) ?B ?F ?X ?N ?T ?hk ?hd ?hu ?_; (case N => k_asm); (case hx => k_mem); (case U => k_updF); (case ho => assumption); (case hs => assumption); (case hy => first | assumption | omega); walk_at "my use2"); intro v9 x9 h9 tk9 P9 F9 N9; (obtain ⟨o9, f9, ⟨t9, e9⟩, g9⟩ := P9); subst e9; (replace f9 := Eq.symm f9); subst f9; (try dsimp only at N9); (try k_sweep))
  k_with "call ref" => (k_here; (with_reducible show wpAny _ _ (call (Value.ref 194) [Value.ref _, Value.int _ _, Value.int _ _, Value.int _ _, Value.int _ _]) _ _ _); k_dflt (refine' Fn.use (sub_u ?U ?hx ?ho ?hs ?hy) ?B ?F ?X ?N ?T ?hk ?hd ?hu ?_; (case N => k_asm); (case hx => k_mem); (case U => k_updF); (case ho => assumption); (case hs => assumption); (case hy => first | assumption | omega); walk_at "my use2"); intro v9 x9 h9 tk9 P9 F9 N9; (obtain ⟨o9, f9, ⟨t9, e9⟩, g9⟩ := P9); subst e9; (replace f9 := Eq.symm f9); subst f9; (try dsimp only at N9); (try k_sweep))
  k_with "call ref" => (k_here; (with_reducible show wpAny _ _ (call (Value.ref 269) [Value.ref _, Value.int _ _, Value.int _ _, Value.int _ _, Value.int _ _, Value.int _ _]) _ _ _); k_dflt (refine' Fn.use (sum_u ?hr ?hw ?hs) ?B ?F ?X ?N ?T ?hk ?hd ?hu ?_; (case N => k_asm); (case hr => k_mem); (case hw => first | omega | decide); (case hs => assumption); walk_at "my use2"); intro v9 x9 h9 tk9 P9 F9 N9; (obtain ⟨tl9, ll9, t09, ua9, ub9, uc9, ud9, ue9, uf9, ug9, n9, f9, e9, lta9, ltb9⟩ := P9); subst e9; (replace f9 := Eq.symm f9); subst f9; (try k_lt lta9); (try k_lt2 ltb9); (try k_sweep))
  k_with "subscriptTail List" => (k_here; (with_reducible show wpAny _ _ (subscriptTail _ _ (Value.ref _) (Value.int _ _)) _ _ _); k_dflt (refine' my_pick ?k1 ?k2 ?k3 ?k4 ?k5 ?k6 ?_ ?k7; (case k1 => k_asm); (case k2 => k_mem); (case k3 => l_intsW); (case k4 => omega); (case k5 => (simp only [List.length_cons, List.length_nil]; omega)); (case k6 => omega); (case k7 => with_unfolding_all rfl); k_whole); intro x9 t9 m9; (obtain ⟨W9, hs9⟩ := sz_of m9); (have hlo9 := Sz.lo hs9); (have hpos9 := Sz.pos hs9); (have hpow9 := Sz.pow hs9))
  k_with "binaryOp Mod int int" => (k_here; (with_reducible refine mod_int' ?kbe ?_); (case kbe => omega))
  k_with "call ref" => (k_here; (with_reducible show wpAny _ _ (call (Value.ref 262) [Value.int _ _, Value.int _ _]) _ _ _); k_dflt (refine' Fn.use (marks_c _ _ _ _ _ _ _ _ _) ?B ?F ?X ?N ?T ?hk ?hd ?hu ?_; walk_at "my use"); intro v9 x9 h9 tk9 P9 F9 N9; (obtain ⟨l9, ta9, tb9, tc9, n9, f9, e9, lt9⟩ := P9); subst e9; (replace f9 := Eq.symm f9); subst f9; (try k_lt lt9); (try k_sweep))
  k_fill
  intro X
  unfold Cont2 at hcont
  conv =>
    arg 3
    arg 1
    whnf
  have eS : lawScope = lawScope := rfl
  conv at eS =>
    rhs
    whnf
  rw [eS] at hcont ⊢
  clear eS
  k_steps
  all_goals (
    dsimp only
    (rename News _ _ _ _ => nE)
    have nT := news_d4 nE
    (rename _ ∧ _ ∧ _ ∧ _ ∧ @LT.lt Nat _ xb _ ∧ _ => lE)
    have lT := lE.2.2.2.2
    (rename FlSumC _ _ _ _ _ _ _ _ _ => gE)
    refine' hcont _ _ _ _ _ _ _ _ _ _ _ _ _ _ _ _ _ _ _ _ _ _ ?ho ?b1 ?b2 ?b3 ?b4 ?b5 ?b6 ?m1 ?m2 ?m3 ?m4 ?m5 ?m6 ?lt ?F ?N
    case F => k_asm
    case N => exact nT
    case m1 => exact rfl
    case m2 => exact rfl
    case m3 => exact rfl
    case m4 => exact rfl
    case m5 => exact rfl
    case m6 => exact rfl
    case lt => exact lT
    case ho => exact gE
    case b1 => first | assumption | exact cy01 _ _ | decide
    case b2 => exact evn01 _
    case b3 => first | assumption | exact ax01 _ | decide
    case b4 => exact zro01 _
    case b5 => exact sgn01 _ _
    case b6 => first | assumption | exact ov01 _ _ | decide)

set_option maxRecDepth 100000 in
set_option maxHeartbeats 8000000 in
theorem ph2_2 (w : World) (mean : ExcName → Option Value) (mg mb : Str → Option Value) (H : Heap) (L fa : Addr) (cd : Value) (rest : List Stmt) (xb db x dx pl rl : Addr) (ob o pb co : Obj) (c p a z s f d : Int) (t1 t2 t3 t4 t5 t6 t7 : Tok) (n : Nat) (own : List (Addr × Obj)) (m : Str → Option Value) (st : Shared) (Q : Flow → Shared → Prop) (E : Value → Shared → Prop)
    (size W u v : Int) (s1 s2 s3 s4 s5 s6 s7 : Tok)
    (B : Below callerA H [] H) (X : (hd.heap_1 w.params).In H) (T : Top view (looseW view [Str.ofString "MintError"]) mean mg mb H)
    (F : Fr H L st.heap (fun y => if y = Str.ofString "before" then some (.ref rl) else if y = Str.ofString "kept" then some (.ref xb) else if y = Str.ofString "other" then some (.int (v % W) s1) else if y = Str.ofString "one" then some (.int (u % W) s2) else if y = Str.ofString "wheel" then some (.int W s5) else if y = Str.ofString "first" then some (.int u s4) else if y = Str.ofString "second" then some (.int v s3) else if y = Str.ofString "size" then some (.int size s7) else if y = Str.ofString "way" then some (.int 2 s6) else if y = Str.ofString "flags" then some (.ref x) else if y = Str.ofString "row" then some (.ref rl) else m y))
    (N : News H L st.heap ((xb, instObj 169 db) :: (db, ob) :: (x, instObj 169 dx) :: (dx, o) :: (pl, pb) :: (L + 1, co) :: (rl, rowL c p a z s f d t1 t2 t3 t4 t5 t6 t7 n) :: own))
    (hs : Sz size W) (ho : IsFl w o c p a z s f d)
    (bc : 0 ≤ c ∧ c ≤ 1) (bp : 0 ≤ p ∧ p ≤ 1) (ba : 0 ≤ a ∧ a ≤ 1) (bz : 0 ≤ z ∧ z ≤ 1) (bs : 0 ≤ s ∧ s ≤ 1) (bf : 0 ≤ f ∧ f ≤ 1)
    (n1 : @Ne Nat dx x) (n2 : @Ne Nat dx pl) (n3 : @Ne Nat dx (L + 1)) (n4 : @Ne Nat dx rl) (n5 : ∀ q ∈ own, q.1 ≠ dx)
    (l1 : @LT.lt Nat _ x db ∧ @LT.lt Nat _ dx db ∧ @LT.lt Nat _ pl db ∧ @LT.lt Nat _ (L + 1) db ∧ @LT.lt Nat _ rl db ∧ AllLt db own) (l2 : @LT.lt Nat _ db xb)
    (hcont : Cont2 w H L fa cd rest st Q E xb db x dx pl rl ob pb co (rowL c p a z s f d t1 t2 t3 t4 t5 t6 t7 n) d own) :
    wpAny (model PySem.Challenge.rw_qz0047_01.row.prog w) (lawA L fa cd) (execs (part2 rest) (envOfC (Str.ofString "law") lawScope L fa cd)) Q E st := by
  revert X
  k_with_none
  k_with "my room" => ((try dsimp only [depth_under_make, depth_under_kw, depth_in1, depth_deeper, depth_caller, ktrTop]); first | ((with_reducible rename _ + _ < recursionLimit => hRoom9); first | exact room2 hRoom9 rfl | exact room3 hRoom9 rfl | exact room1 hRoom9 rfl | exact room0 hRoom9) | decide)
  k_with "my units" => ((try dsimp only [units_in1, units_deeper, units_under_make, units_caller, ktrTop]); first | ((with_reducible rename _ + _ < cLine => hUnits9); first | exact room2 hUnits9 rfl | exact room3 hUnits9 rfl | exact room1 hUnits9 rfl | exact room0 hUnits9) | decide)
  k_with "subscriptTail Name Constant ref int" => (k_here; (with_reducible show wpAny _ _ (subscriptTail _ _ (Value.ref _) (Value.int _ _)) _ _ _); k_dflt (refine' my_item ?k1 ?k2 ?k3 ?k4 ?k5 ?_ ?k6; (case k1 => k_asm); (case k2 => k_mem); (case k3 => decide); (case k4 => decide); (case k5 => rfl); (case k6 => with_unfolding_all rfl); k_whole))
  k_with "binaryOp FloorDiv int int" => (k_here; (with_reducible refine floordiv_int ?kbe ?_ (Or.inl (PyProof.noPylong_of_log2 ?kbp))); (case kbe => first | decide | omega); (case kbp => (first | decide +kernel | exact my_log (by omega) (by omega))))
  k_with "my use" => ((case B => k_asm); (case F => k_asm); (case X => k_asm); (case N => k_asm); (case T => k_asm); (case hk => first | exact rfl | assumption); (case hd => walk_at "my room"); (case hu => walk_at "my units"); k_whole)
  k_with "my use2" => ((case B => k_asm); (case F => k_asm); (case X => k_asm); (case T => k_asm); (case hk => first | exact rfl | assumption); (case hd => walk_at "my room"); (case hu => walk_at "my units"); k_whole)
  k_with "binaryOp LShift int int" => (k_here; (with_reducible refine lshift_int_small ?kb1 ?kb2 ?kb3 ?_); (case kb1 => first | decide | omega); (case kb2 => first | decide | omega); (case kb3 => first | decide | exact bit_nat (by assumption) | omega))
  k_with "my enterC" => (refine' code_defC ?k1 ?k2 ?k3 ?k4 ?k5 ?kA ?kF ?kK ?k6 ?k7 ?k8 ?k9 ?kB ?kD ?_ ?c2 ?c3 ?c4; (case kA => exact rfl); (case kF => exact rfl); (case kK => assumption); (case k1 => k_asm); (case k2 => k_asm); (case k3 => k_asm); (case k4 => k_asm); (case k5 => k_asm); (case k6 => k_is); (case k7 => k_is); (case k8 => walk_at "my room"); (case k9 => exact BindsTo.of_eq rfl); (case kB => exact rfl); (case kD => decide +kernel); (case c2 => exact rfl); (case c3 => exact rfl); (case c4 => exact rfl); k_whole; intro g' L' h' tk' cells' FG' F' N' Y' B' X' T' l1; (try k_lt l1); k_cells Y'; (try simp only [List.cons_append, List.nil_append] at N'); (try dsimp only); (try k_lift B'); (try k_fold))
  k_with "my all" => (first | with_reducible assumption | exact my_ne1 (by with_reducible assumption) | (refine my_ne2 ?_; first | with_reducible assumption | exact And.right (by with_reducible assumption) | exact And.right (And.right (by with_reducible assumption)) | exact And.right (And.right (And.right (by with_reducible assumption)))))
  k_with "my ne" => (refine neN ?_; (try dsimp only); first | assumption | exact Nat.ne_of_lt (by assumption) | exact Nat.ne_of_gt (by assumption) | exact Ne.symm (by assumption))
  k_with "execs cons" => (k_here; (refine gen_toks ?_); intro tk9; (try dsimp only); refine wpAny_execs_cons ?_)
  k_with "eval BinOp" => (k_dflt (k_fold; walk1))
  k_with "eval Call" => (k_dflt (k_fold; walk1))
  k_with "eval Subscript" => (k_dflt (k_fold; walk1))
  k_with "eval List" => (k_dflt (k_fold; walk1))
  k_with "eval Tuple" => (k_dflt (k_fold; walk1))
  k_with "eval IfExp" => (k_dflt (k_fold; walk1))
  k_with "spliced" => (k_dflt (k_fold; walk1))
  k_with "eval Compare" => (k_dflt (k_fold; walk1))
  k_with "eval Call Attribute" => (k_dflt (k_fold; walk1))
  k_with "call ref" => (k_here; (with_reducible show wpAny _ _ (call (Value.ref 208) [Value.ref _, Value.int _ _, Value.int _ _]) _ _ _); k_dflt (refine' Fn.use (inc_u ?U ?hx ?ho ?hs) ?B ?F ?X ?N ?T ?hk ?hd ?hu ?_; (case N => k_asm); (case hx => k_mem); (case U => k_updF); (case ho => assumption); (case hs => assumption); walk_at "my use2"); intro v9 x9 h9 tk9 P9 F9 N9; (obtain ⟨o9, f9, ⟨t9, e9⟩, g9⟩ := P9); subst e9; (replace f9 := Eq.symm f9); subst f9; (try dsimp only at N9); (try k_sweep))
  k_with "call ref" => (k_here; (with_reducible show wpAny _ _ (call (Value.ref 215) [Value.ref _, Value.int _ _, Value.int _ _]) _ _ _); k_dflt (refine' Fn.use (dec_u ?U ?hx ?ho ?hs) ?B ?F ?X ?N ?T ?hk ?hd ?hu ?_; (case N => k_asm); (case hx => k_mem); (case U => k_updF); (case ho => assumption); (case hs => assumption); walk_at "my use2"); intro v9 x9 h9 tk9 P9 F9 N9; (obtain ⟨o9, f9, ⟨t9, e9⟩, g9⟩ := P9); subst e9; (replace f9 := Eq.symm f9); subst f9; (try dsimp only at N9); (try k_sweep))
  k_with "call ref" => (k_here; (with_reducible show wpAny _ _ (call (Value.ref 222) [Value.ref _, Value.int _ _, Value.int _ _]) _ _ _); k_dflt (refine' Fn.use (neg_u ?U ?hx ?ho ?hs) ?B ?F ?X ?N ?T ?hk ?hd ?hu ?_; (case N => k_asm); (case hx => k_mem); (case U => k_updF); (case ho => assumption); (case hs => assumption); walk_at "my use2"); intro v9 x9 h9 tk9 P9 F9 N9; (obtain ⟨o9, f9, ⟨t9, e9⟩, g9⟩ := P9); subst e9; (replace f9 := Eq.symm f9); subst f9; (try dsimp only at N9); (try k_sweep))
  k_with "call ref" => (k_here; (with_reducible show wpAny _ _ (call (Value.ref 201) [Value.ref _, Value.int _ _, Value.int _ _]) _ _ _); k_dflt (refine' Fn.use (logic_u ?U ?hx ?ho ?hs) ?B ?F ?X ?N ?T ?hk ?hd ?hu ?_; (case N => k_asm); (case hx => k_mem); (case U => k_updF); (case ho => assumption); (case hs => assumption); walk_at "my use2"); intro v9 x9 h9 tk9 P9 F9 N9; (obtain ⟨o9, f9, ⟨t9, e9⟩, g9⟩ := P9); subst e9; (replace f9 := Eq.symm f9); subst f9; (try dsimp only at N9); (try k_sweep))
  k_with "call ref" => (k_here; (with_reducible show wpAny _ _ (call (Value.ref 180) [Value.ref _, Value.int _ _, Value.int _ _]) _ _ _); k_dflt (refine' Fn.use (szp_u ?U ?hx ?ho ?hs) ?B ?F ?X ?N ?T ?hk ?hd ?hu ?_; (case N => k_asm); (case hx => k_mem); (case U => k_updF); (case ho => assumption); (case hs => assumption); walk_at "my use2"); intro v9 x9 h9 tk9 P9 F9 N9; (obtain ⟨o9, f9, ⟨t9, e9⟩, g9⟩ := P9); subst e9; (replace f9 := Eq.symm f9); subst f9; (try dsimp only at N9); (try k_sweep))
  k_with "call ref" => (k_here; (with_reducible show wpAny _ _ (call (Value.ref 187) [Value.ref _, Value.int _ _, Value.int _ _, Value.int _ _, Value.int _ _]) _ _ _); k_dflt (refine' Fn.use (add_u ?U ?hx ?ho ?hs ?hy) ?B ?F ?X ?N ?T ?hk ?hd ?hu ?_; (case N => k_asm); (case hx => k_mem); (case U => k_updF); (case ho => assumption); (case hs => assumption); (case hy => first | assumption | omega); walk_at "my use2"); intro v9 x9 h9 tk9 P9 F9 N9; (obtain ⟨o9, f9, ⟨t9, e9⟩, g9⟩ := P9); subst e9; (replace f9 := Eq.symm f9); subst f9; (try dsimp only at N9); (try k_sweep))
  k_with "call ref" => (k_here; (with_reducible show wpAny _ _ (call (Value.ref 194) [Value.ref _, Value.int _ _, Value.int _ _, Value.int _ _, Value.int _ _]) _ _ _); k_dflt (refine' Fn.use (sub_u ?U ?hx ?ho ?hs ?hy) ?B ?F ?X ?N ?T ?hk ?hd ?hu ?_; (case N => k_asm); (case hx => k_mem); (case U => k_updF); (case ho => assumption); (case hs => assumption); (case hy => first | assumption | omega); walk_at "my use2"); intro v9 x9 h9 tk9 P9 F9 N9; (obtain ⟨o9, f9, ⟨t9, e9⟩, g9⟩ := P9); subst e9; (replace f9 := Eq.symm f9); subst f9; (try dsimp only at N9); (try k_sweep))
  k_with "call ref" => (k_here; (with_reducible show wpAny _ _ (call (Value.ref 269) [Value.ref _, Value.int _ _, Value.int _ _, Value.int _ _, Value.int _ _, Value.int _ _]) _ _ _); k_dflt (refine' Fn.use (sum_u ?hr ?hw ?hs) ?B ?F ?X ?N ?T ?hk ?hd ?hu ?_; (case N => k_asm); (case hr => k_mem); (case hw => first | omega | decide); (case hs => assumption); walk_at "my use2"); intro v9 x9 h9 tk9 P9 F9 N9; (obtain ⟨tl9, ll9, t09, ua9, ub9, uc9, ud9, ue9, uf9, ug9, n9, f9, e9, lta9, ltb9⟩ := P9); subst e9; (replace f9 := Eq.symm f9); subst f9; (try k_lt lta9); (try k_lt2 ltb9); (try k_sweep))
  k_with "subscriptTail List" => (k_here; (with_reducible show wpAny _ _ (subscriptTail _ _ (Value.ref _) (Value.int _ _)) _ _ _); k_dflt (refine' my_pick ?k1 ?k2 ?k3 ?k4 ?k5 ?k6 ?_ ?k7; (case k1 => k_asm); (case k2 => k_mem); (case k3 => l_intsW); (case k4 => omega); (case k5 => (simp only [List.length_cons, List.length_nil]; omega)); (case k6 => omega); (case k7 => with_unfolding_all rfl); k_whole); intro x9 t9 m9; (obtain ⟨W9, hs9⟩ := sz_of m9); (have hlo9 := Sz.lo hs9); (have hpos9 := Sz.pos hs9); (have hpow9 := Sz.pow hs9))
  k_with "binaryOp Mod int int" => (k_here; (with_reducible refine mod_int' ?kbe ?_); (case kbe => omega))
  k_with "call ref" => (k_here; (with_reducible show wpAny _ _ (call (Value.ref 262) [Value.int _ _, Value.int _ _]) _ _ _); k_dflt (refine' Fn.use (marks_c _ _ _ _ _ _ _ _ _) ?B ?F ?X ?N ?T ?hk ?hd ?hu ?_; walk_at "my use"); intro v9 x9 h9 tk9 P9 F9 N9; (obtain ⟨l9, ta9, tb9, tc9, n9, f9, e9, lt9⟩ := P9); subst e9; (replace f9 := Eq.symm f9); subst f9; (try k_lt lt9); (try k_sweep))
  k_fill
  intro X
  unfold Cont2 at hcont
  conv =>
    arg 3
    arg 1
    whnf
  have eS : lawScope = lawScope := rfl
  conv at eS =>
    rhs
    whnf
  rw [eS] at hcont ⊢
  clear eS
  k_steps
  all_goals (
    dsimp only
    (rename News _ _ _ _ => nE)
    have nT := News.tail' nE
    (rename @LT.lt Nat _ xb _ ∧ _ => lT)
    (rename FlSum _ _ _ _ _ _ _ _ => gE)
    refine' hcont _ _ _ _ _ _ _ _ _ _ _ _ _ _ _ _ _ _ _ _ _ _ ?ho ?b1 ?b2 ?b3 ?b4 ?b5 ?b6 ?m1 ?m2 ?m3 ?m4 ?m5 ?m6 ?lt ?F ?N
    case F => k_asm
    case N => exact nT
    case m1 => exact rfl
    case m2 => exact rfl
    case m3 => exact rfl
    case m4 => exact rfl
    case m5 => exact rfl
    case m6 => exact rfl
    case lt => exact lT
    case ho => exact gE
    case b1 => first | assumption | exact cy01 _ _ | decide
    case b2 => exact evn01 _
    case b3 => first | assumption | exact ax01 _ | decide
    case b4 => exact zro01 _
    case b5 => exact sgn01 _ _
    case b6 => first | assumption | exact ov01 _ _ | decide)

set_option maxRecDepth 100000 in
set_option maxHeartbeats 8000000 in
theorem ph2_3 (w : World) (mean : ExcName → Option Value) (mg mb : Str → Option Value) (H : Heap) (L fa : Addr) (cd : Value) (rest : List Stmt) (xb db x dx pl rl : Addr) (ob o pb co : Obj) (c p a z s f d : Int) (t1 t2 t3 t4 t5 t6 t7 : Tok) (n : Nat) (own : List (Addr × Obj)) (m : Str → Option Value) (st : Shared) (Q : Flow → Shared → Prop) (E : Value → Shared → Prop)
    (size W u v : Int) (s1 s2 s3 s4 s5 s6 s7 : Tok)
    (B : Below callerA H [] H) (X : (hd.heap_1 w.params).In H) (T : Top view (looseW view [Str.ofString "MintError"]) mean mg mb H)
    (F : Fr H L st.heap (fun y => if y = Str.ofString "before" then some (.ref rl) else if y = Str.ofString "kept" then some (.ref xb) else if y = Str.ofString "other" then some (.int (v % W) s1) else if y = Str.ofString "one" then some (.int (u % W) s2) else if y = Str.ofString "wheel" then some (.int W s5) else if y = Str.ofString "first" then some (.int u s4) else if y = Str.ofString "second" then some (.int v s3) else if y = Str.ofString "size" then some (.int size s7) else if y = Str.ofString "way" then some (.int 3 s6) else if y = Str.ofString "flags" then some (.ref x) else if y = Str.ofString "row" then some (.ref rl) else m y))
    (N : News H L st.heap ((xb, instObj 169 db) :: (db, ob) :: (x, instObj 169 dx) :: (dx, o) :: (pl, pb) :: (L + 1, co) :: (rl, rowL c p a z s f d t1 t2 t3 t4 t5 t6 t7 n) :: own))
    (hs : Sz size W) (ho : IsFl w o c p a z s f d)
    (bc : 0 ≤ c ∧ c ≤ 1) (bp : 0 ≤ p ∧ p ≤ 1) (ba : 0 ≤ a ∧ a ≤ 1) (bz : 0 ≤ z ∧ z ≤ 1) (bs : 0 ≤ s ∧ s ≤ 1) (bf : 0 ≤ f ∧ f ≤ 1)
    (n1 : @Ne Nat dx x) (n2 : @Ne Nat dx pl) (n3 : @Ne Nat dx (L + 1)) (n4 : @Ne Nat dx rl) (n5 : ∀ q ∈ own, q.1 ≠ dx)
    (l1 : @LT.lt Nat _ x db ∧ @LT.lt Nat _ dx db ∧ @LT.lt Nat _ pl db ∧ @LT.lt Nat _ (L + 1) db ∧ @LT.lt Nat _ rl db ∧ AllLt db own) (l2 : @LT.lt Nat _ db xb)
    (hcont : Cont2 w H L fa cd rest st Q E xb db x dx pl rl ob pb co (rowL c p a z s f d t1 t2 t3 t4 t5 t6 t7 n) d own) :
    wpAny (model PySem.Challenge.rw_qz0047_01.row.prog w) (lawA L fa cd) (execs (part2 rest) (envOfC (Str.ofString "law") lawScope L fa cd)) Q E st := by
  revert X
  k_with_none
  k_with "my room" => ((try dsimp only [depth_under_make, depth_under_kw, depth_in1, depth_deeper, depth_caller, ktrTop]); first | ((with_reducible rename _ + _ < recursionLimit => hRoom9); first | exact room2 hRoom9 rfl | exact room3 hRoom9 rfl | exact room1 hRoom9 rfl | exact room0 hRoom9) | decide)
  k_with "my units" => ((try dsimp only [units_in1, units_deeper, units_under_make, units_caller, ktrTop]); first | ((with_reducible rename _ + _ < cLine => hUnits9); first | exact room2 hUnits9 rfl | exact room3 hUnits9 rfl | exact room1 hUnits9 rfl | exact room0 hUnits9) | decide)
  k_with "subscriptTail Name Constant ref int" => (k_here; (with_reducible show wpAny _ _ (subscriptTail _ _ (Value.ref _) (Value.int _ _)) _ _ _); k_dflt (refine' my_item ?k1 ?k2 ?k3 ?k4 ?k5 ?_ ?k6; (case k1 => k_asm); (case k2 => k_mem); (case k3 => decide); (case k4 => decide); (case k5 => rfl); (case k6 => with_unfolding_all rfl); k_whole))
  k_with "binaryOp FloorDiv int int" => (k_here; (with_reducible refine floordiv_int ?kbe ?_ (Or.inl (PyProof.noPylong_of_log2 ?kbp))); (case kbe => first | decide | omega); (case kbp => (first | decide +kernel | exact my_log (by omega) (by omega))))
  k_with "my use" => ((case B => k_asm); (case F => k_asm); (case X => k_asm); (case N => k_asm); (case T => k_asm); (case hk => first | exact rfl | assumption); (case hd => walk_at "my room"); (case hu => walk_at "my units"); k_whole)
  k_with "my use2" => ((case B => k_asm); (case F => k_asm); (case X => k_asm); (case T => k_asm); (case hk => first | exact rfl | assumption); (case hd => walk_at "my room"); (case hu => walk_at "my units"); k_whole)
  k_with "binaryOp LShift int int" => (k_here; (with_reducible refine lshift_int_small ?kb1 ?kb2 ?kb3 ?_); (case kb1 => first | decide | omega); (case kb2 => first | decide | omega); (case kb3 => first | decide | exact bit_nat (by assumption) | omega))
  k_with "my enterC" => (refine' code_defC ?k1 ?k2 ?k3 ?k4 ?k5 ?kA ?kF ?kK ?k6 ?k7 ?k8 ?k9 ?kB ?kD ?_ ?c2 ?c3 ?c4; (case kA => exact rfl); (case kF => exact rfl); (case kK => assumption); (case k1 => k_asm); (case k2 => k_asm); (case k3 => k_asm); (case k4 => k_asm); (case k5 => k_asm); (case k6 => k_is); (case k7 => k_is); (case k8 => walk_at "my room"); (case k9 => exact BindsTo.of_eq rfl); (case kB => exact rfl); (case kD => decide +kernel); (case c2 => exact rfl); (case c3 => exact rfl); (case c4 => exact rfl); k_whole; intro g' L' h' tk' cells' FG' F' N' Y' B' X' T' l1; (try k_lt l1); k_cells Y'; (try simp only [List.cons_append, List.nil_append] at N'); (try dsimp only); (try k_lift B'); (try k_fold))
  k_with "my all" => (first | with_reducible assumption | exact my_ne1 (by with_reducible assumption) | (refine my_ne2 ?_; first | with_reducible assumption | exact And.right (by with_reducible assumption) | exact And.right (And.right (by with_reducible assumption)) | exact And.right (And.right (And.right (by with_reducible assumption)))))
  k_with "my ne" => (refine neN ?_; (try dsimp only); first | assumption | exact Nat.ne_of_lt (by assumption) | exact Nat.ne_of_gt (by assumption) | exact Ne.symm (by assumption))
  k_with "execs cons" => (k_here; (refine gen_toks ?_); intro tk9; (try dsimp only); refine wpAny_execs_cons ?_)
  k_with "eval BinOp" => (k_dflt (k_fold; walk1))
  k_with "eval Call" => (k_dflt (k_fold; walk1))
  k_with "eval Subscript" => (k_dflt (k_fold; walk1))
  k_with "eval List" => (k_dflt (k_fold; walk1))
  k_with "eval Tuple" => (k_dflt (k_fold; walk1))
  k_with "eval IfExp" => (k_dflt (k_fold; walk1))
  k_with "spliced" => (k_dflt (k_fold; walk1))
  k_with "eval Compare" => (k_dflt (k_fold; walk1))
  k_with "eval Call Attribute" => (k_dflt (k_fold; walk1))
  k_with "call ref" => (k_here; (with_reducible show wpAny _ _ (call (Value.ref 208) [Value.ref _, Value.int _ _, Value.int _ _]) _ _ _); k_dflt (refine' Fn.use (inc_u ?U ?hx ?ho ?hs) ?B ?F ?X ?N ?T ?hk ?hd ?hu ?_; (case N => k_asm); (case hx => k_mem); (case U => k_updF); (case ho => assumption); (case hs => assumption); walk_at "my use2"); intro v9 x9 h9 tk9 P9 F9 N9; (obtain ⟨o9, f9, ⟨t9, e9⟩, g9⟩ := P9); subst e9; (replace f9 := Eq.symm f9); subst f9; (try dsimp only at N9); (try k_sweep))
  k_with "call ref" => (k_here; (with_reducible show wpAny _ _ (call (Value.ref 215) [Value.ref _, Value.int _ _, Value.int _ _]) _ _ _); k_dflt (refine' Fn.use (dec_u ?U ?hx ?ho ?hs) ?B ?F ?X ?N ?T ?hk ?hd ?hu ?_; (case N => k_asm); (case hx => k_mem); (case U => k_updF); (case ho => assumption); (case hs => assumption); walk_at "my use2"); intro v9 x9 h9 tk9 P9 F9 N9; (obtain ⟨o9, f9, ⟨t9, e9⟩, g9⟩ := P9); subst e9; (replace f9 := Eq.symm f9); subst f9; (try dsimp only at N9); (try k_sweep))
  k_with "call ref" => (k_here; (with_reducible show wpAny _ _ (call (Value.ref 222) [Value.ref _, Value.int _ _, Value.int _ _]) _ _ _); k_dflt (refine' Fn.use (neg_u ?U ?hx ?ho ?hs) ?B ?F ?X ?N ?T ?hk ?hd ?hu ?_; (case N => k_asm); (case hx => k_mem); (case U => k_updF); (case ho => assumption); (case hs => assumption); walk_at "my use2"); intro v9 x9 h9 tk9 P9 F9 N9; (obtain ⟨o9, f9, ⟨t9, e9⟩, g9⟩ := P9); subst e9; (replace f9 := Eq.symm f9); subst f9; (try dsimp only at N9); (try k_sweep))
  k_with "call ref" => (k_here; (with_reducible show wpAny _ _ (call (Value.ref 201) [Value.ref _, Value.int _ _, Value.int _ _]) _ _ _); k_dflt (refine' Fn.use (logic_u ?U ?hx ?ho ?hs) ?B ?F ?X ?N ?T ?hk ?hd ?hu ?_; (case N => k_asm); (case hx => k_mem); (case U => k_updF); (case ho => assumption); (case hs => assumption); walk_at "my use2"); intro v9 x9 h9 tk9 P9 F9 N9; (obtain ⟨o9, f9, ⟨t9, e9⟩, g9⟩ := P9); subst e9; (replace f9 := Eq.symm f9); subst f9; (try dsimp only at N9); (try k_sweep))
  k_with "call ref" => (k_here; (with_reducible show wpAny _ _ (call (Value.ref 180) [Value.ref _, Value.int _ _, Value.int _ _]) _ _ _); k_dflt (refine' Fn.use (szp_u ?U ?hx ?ho ?hs) ?B ?F ?X ?N ?T ?hk ?hd ?hu ?_; (case N => k_asm); (case hx => k_mem); (case U => k_updF); (case ho => assumption); (case hs => assumption); walk_at "my use2"); intro v9 x9 h9 tk9 P9 F9 N9; (obtain ⟨o9, f9, ⟨t9, e9⟩, g9⟩ := P9); subst e9; (replace f9 := Eq.symm f9); subst f9; (try dsimp only at N9); (try k_sweep))
  k_with "call ref" => (k_here; (with_reducible show wpAny _ _ (call (Value.ref 187) [Value.ref _, Value.int _ _, Value.int _ _, Value.int _ _, Value.int _ _]) _ _ _); k_dflt (refine' Fn.use (add_u ?U ?hx ?ho ?hs ?hy) ?B ?F ?X ?N ?T ?hk ?hd ?hu ?_; (case N => k_asm); (case hx => k_mem); (case U => k_updF); (case ho => assumption); (case hs => assumption); (case hy => first | assumption | omega); walk_at "my use2"); intro v9 x9 h9 tk9 P9 F9 N9; (obtain ⟨o9, f9, ⟨t9, e9⟩, g9⟩ := P9); subst e9; (replace f9 := Eq.symm f9); subst f9; (try dsimp only at N9); (try k_sweep))
  k_with "call ref" => (k_here; (with_reducible show wpAny _ _ (call (Value.ref 194) [Value.ref _, Value.int _ _, Value.int _ _, Value.int _ _, Value.int _ _]) _ _ _); k_dflt (refine' Fn.use (sub_u ?U ?hx ?ho ?hs ?hy) ?B ?F ?X ?N ?T ?hk ?hd ?hu ?_; (case N => k_asm); (case hx => k_mem); (case U => k_updF); (case ho => assumption); (case hs => assumption); (case hy => first | assumption | omega); walk_at "my use2"); intro v9 x9 h9 tk9 P9 F9 N9; (obtain ⟨o9, f9, ⟨t9, e9⟩, g9⟩ := P9); subst e9; (replace f9 := Eq.symm f9); subst f9; (try dsimp only at N9); (try k_sweep))
  k_with "call ref" => (k_here; (with_reducible show wpAny _ _ (call (Value.ref 269) [Value.ref _, Value.int _ _, Value.int _ _, Value.int _ _, Value.int _ _, Value.int _ _]) _ _ _); k_dflt (refine' Fn.use (sum_u ?hr ?hw ?hs) ?B ?F ?X ?N ?T ?hk ?hd ?hu ?_; (case N => k_asm); (case hr => k_mem); (case hw => first | omega | decide); (case hs => assumption); walk_at "my use2"); intro v9 x9 h9 tk9 P9 F9 N9; (obtain ⟨tl9, ll9, t09, ua9, ub9, uc9, ud9, ue9, uf9, ug9, n9, f9, e9, lta9, ltb9⟩ := P9); subst e9; (replace f9 := Eq.symm f9); subst f9; (try k_lt lta9); (try k_lt2 ltb9); (try k_sweep))
  k_with "subscriptTail List" => (k_here; (with_reducible show wpAny _ _ (subscriptTail _ _ (Value.ref _) (Value.int _ _)) _ _ _); k_dflt (refine' my_pick ?k1 ?k2 ?k3 ?k4 ?k5 ?k6 ?_ ?k7; (case k1 => k_asm); (case k2 => k_mem); (case k3 => l_intsW); (case k4 => omega); (case k5 => (simp only [List.length_cons, List.length_nil]; omega)); (case k6 => omega); (case k7 => with_unfolding_all rfl); k_whole); intro x9 t9 m9; (obtain ⟨W9, hs9⟩ := sz_of m9); (have hlo9 := Sz.lo hs9); (have hpos9 := Sz.pos hs9); (have hpow9 := Sz.pow hs9))
  k_with "binaryOp Mod int int" => (k_here; (with_reducible refine mod_int' ?kbe ?_); (case kbe => omega))
  k_with "call ref" => (k_here; (with_reducible show wpAny _ _ (call (Value.ref 262) [Value.int _ _, Value.int _ _]) _ _ _); k_dflt (refine' Fn.use (marks_c _ _ _ _ _ _ _ _ _) ?B ?F ?X ?N ?T ?hk ?hd ?hu ?_; walk_at "my use"); intro v9 x9 h9 tk9 P9 F9 N9; (obtain ⟨l9, ta9, tb9, tc9, n9, f9, e9, lt9⟩ := P9); subst e9; (replace f9 := Eq.symm f9); subst f9; (try k_lt lt9); (try k_sweep))
  k_fill
  intro X
  unfold Cont2 at hcont
  conv =>
    arg 3
    arg 1
    whnf
  have eS : lawScope = lawScope := rfl
  conv at eS =>
    rhs
    whnf
  rw [eS] at hcont ⊢
  clear eS
  k_steps
  all_goals (
    dsimp only
    (rename News _ _ _ _ => nE)
    have nT := News.tail' nE
    (rename @LT.lt Nat _ xb _ ∧ _ => lT)
    (rename FlSum _ _ _ _ _ _ _ _ => gE)
    refine' hcont _ _ _ _ _ _ _ _ _ _ _ _ _ _ _ _ _ _ _ _ _ _ ?ho ?b1 ?b2 ?b3 ?b4 ?b5 ?b6 ?m1 ?m2 ?m3 ?m4 ?m5 ?m6 ?lt ?F ?N
    case F => k_asm
    case N => exact nT
    case m1 => exact rfl
    case m2 => exact rfl
    case m3 => exact rfl
    case m4 => exact rfl
    case m5 => exact rfl
    case m6 => exact rfl
    case lt => exact lT
    case ho => exact gE
    case b1 => first | assumption | exact cy01 _ _ | decide
    case b2 => exact evn01 _
    case b3 => first | assumption | exact ax01 _ | decide
    case b4 => exact zro01 _
    case b5 => exact sgn01 _ _
    case b6 => first | assumption | exact ov01 _ _ | decide)

set_option maxRecDepth 100000 in
set_option maxHeartbeats 8000000 in
theorem ph2_4 (w : World) (mean : ExcName → Option Value) (mg mb : Str → Option Value) (H : Heap) (L fa : Addr) (cd : Value) (rest : List Stmt) (xb db x dx pl rl : Addr) (ob o pb co : Obj) (c p a z s f d : Int) (t1 t2 t3 t4 t5 t6 t7 : Tok) (n : Nat) (own : List (Addr × Obj)) (m : Str → Option Value) (st : Shared) (Q : Flow → Shared → Prop) (E : Value → Shared → Prop)
    (size W u v : Int) (s1 s2 s3 s4 s5 s6 s7 : Tok)
    (B : Below callerA H [] H) (X : (hd.heap_1 w.params).In H) (T : Top view (looseW view [Str.ofString "MintError"]) mean mg mb H)
    (F : Fr H L st.heap (fun y => if y = Str.ofString "before" then some (.ref rl) else if y = Str.ofString "kept" then some (.ref xb) else if y = Str.ofString "other" then some (.int (v % W) s1) else if y = Str.ofString "one" then some (.int (u % W) s2) else if y = Str.ofString "wheel" then some (.int W s5) else if y = Str.ofString "first" then some (.int u s4) else if y = Str.ofString "second" then some (.int v s3) else if y = Str.ofString "size" then some (.int size s7) else if y = Str.ofString "way" then some (.int 4 s6) else if y = Str.ofString "flags" then some (.ref x) else if y = Str.ofString "row" then some (.ref rl) else m y))
    (N : News H L st.heap ((xb, instObj 169 db) :: (db, ob) :: (x, instObj 169 dx) :: (dx, o) :: (pl, pb) :: (L + 1, co) :: (rl, rowL c p a z s f d t1 t2 t3 t4 t5 t6 t7 n) :: own))
    (hs : Sz size W) (ho : IsFl w o c p a z s f d)
    (bc : 0 ≤ c ∧ c ≤ 1) (bp : 0 ≤ p ∧ p ≤ 1) (ba : 0 ≤ a ∧ a ≤ 1) (bz : 0 ≤ z ∧ z ≤ 1) (bs : 0 ≤ s ∧ s ≤ 1) (bf : 0 ≤ f ∧ f ≤ 1)
    (n1 : @Ne Nat dx x) (n2 : @Ne Nat dx pl) (n3 : @Ne Nat dx (L + 1)) (n4 : @Ne Nat dx rl) (n5 : ∀ q ∈ own, q.1 ≠ dx)
    (l1 : @LT.lt Nat _ x db ∧ @LT.lt Nat _ dx db ∧ @LT.lt Nat _ pl db ∧ @LT.lt Nat _ (L + 1) db ∧ @LT.lt Nat _ rl db ∧ AllLt db own) (l2 : @LT.lt Nat _ db xb)
    (hcont : Cont2 w H L fa cd rest st Q E xb db x dx pl rl ob pb co (rowL c p a z s f d t1 t2 t3 t4 t5 t6 t7 n) d own) :
    wpAny (model PySem.Challenge.rw_qz0047_01.row.prog w) (lawA L fa cd) (execs (part2 rest) (envOfC (Str.ofString "law") lawScope L fa cd)) Q E st := by
  revert X
  k_with_none
  k_with "my room" => ((try dsimp only [depth_under_make, depth_under_kw, depth_in1, depth_deeper, depth_caller, ktrTop]); first | ((with_reducible rename _ + _ < recursionLimit => hRoom9); first | exact room2 hRoom9 rfl | exact room3 hRoom9 rfl | exact room1 hRoom9 rfl | exact room0 hRoom9) | decide)
  k_with "my units" => ((try dsimp only [units_in1, units_deeper, units_under_make, units_caller, ktrTop]); first | ((with_reducible rename _ + _ < cLine => hUnits9); first | exact room2 hUnits9 rfl | exact room3 hUnits9 rfl | exact room1 hUnits9 rfl | exact room0 hUnits9) | decide)
  k_with "subscriptTail Name Constant ref int" => (k_here; (with_reducible show wpAny _ _ (subscriptTail _ _ (Value.ref _) (Value.int _ _)) _ _ _); k_dflt (refine' my_item ?k1 ?k2 ?k3 ?k4 ?k5 ?_ ?k6; (case k1 => k_asm); (case k2 => k_mem); (case k3 => decide); (case k4 => decide); (case k5 => rfl); (case k6 => with_unfolding_all rfl); k_whole))
  k_with "binaryOp FloorDiv int int" => (k_here; (with_reducible refine floordiv_int ?kbe ?_ (Or.inl (PyProof.noPylong_of_log2 ?kbp))); (case kbe => first | decide | omega); (case kbp => (first | decide +kernel | exact my_log (by omega) (by omega))))
  k_with "my use" => ((case B => k_asm); (case F => k_asm); (case X => k_asm); (case N => k_asm); (case T => k_asm); (case hk => first | exact rfl | assumption); (case hd => walk_at "my room"); (case hu => walk_at "my units"); k_whole)
  k_with "my use2" => ((case B => k_asm); (case F => k_asm); (case X => k_asm); (case T => k_asm); (case hk => first | exact rfl | assumption); (case hd => walk_at "my room"); (case hu => walk_at "my units"); k_whole)
  k_with "binaryOp LShift int int" => (k_here; (with_reducible refine lshift_int_small ?kb1 ?kb2 ?kb3 ?_); (case kb1 => first | decide | omega); (case kb2 => first | decide | omega); (case kb3 => first | decide | exact bit_nat (by assumption) | omega))
  k_with "my enterC" => (refine' code_defC ?k1 ?k2 ?k3 ?k4 ?k5 ?kA ?kF ?kK ?k6 ?k7 ?k8 ?k9 ?kB ?kD ?_ ?c2 ?c3 ?c4; (case kA => exact rfl); (case kF => exact rfl); (case kK => assumption); (case k1 => k_asm); (case k2 => k_asm); (case k3 => k_asm); (case k4 => k_asm); (case k5 => k_asm); (case k6 => k_is); (case k7 => k_is); (case k8 => walk_at "my room"); (case k9 => exact BindsTo.of_eq rfl); (case kB => exact rfl); (case kD => decide +kernel); (case c2 => exact rfl); (case c3 => exact rfl); (case c4 => exact rfl); k_whole; intro g' L' h' tk' cells' FG' F' N' Y' B' X' T' l1; (try k_lt l1); k_cells Y'; (try simp only [List.cons_append, List.nil_append] at N'); (try dsimp only); (try k_lift B'); (try k_fold))
  k_with "my all" => (first | with_reducible assumption | exact my_ne1 (by with_reducible assumption) | (refine my_ne2 ?_; first | with_reducible assumption | exact And.right (by with_reducible assumption) | exact And.right (And.right (by with_reducible assumption)) | exact And.right (And.right (And.right (by with_reducible assumption)))))
  k_with "my ne" => (refine neN ?_; (try dsimp only); first | assumption | exact Nat.ne_of_lt (by assumption) | exact Nat.ne_of_gt (by assumption) | exact Ne.symm (by assumption))
  k_with "execs cons" => (k_here; (refine gen_toks ?_); intro tk9; (try dsimp only); refine wpAny_execs_cons ?_)
  k_with "eval BinOp" => (k_dflt (k_fold; walk1))
  k_with "eval Call" => (k_dflt (k_fold; walk1))
  k_with "eval Subscript" => (k_dflt (k_fold; walk1))
  k_with "eval List" => (k_dflt (k_fold; walk1))
  k_with "eval Tuple" => (k_dflt (k_fold; walk1))
  k_with "eval IfExp" => (k_dflt (k_fold; walk1))
  k_with "spliced" => (k_dflt (k_fold; walk1))
  k_with "eval Compare" => (k_dflt (k_fold; walk1))
  k_with "eval Call Attribute" => (k_dflt (k_fold; walk1))
  k_with "call ref" => (k_here; (with_reducible show wpAny _ _ (call (Value.ref 208) [Value.ref _, Value.int _ _, Value.int _ _]) _ _ _); k_dflt (refine' Fn.use (inc_u ?U ?hx ?ho ?hs) ?B ?F ?X ?N ?T ?hk ?hd ?hu ?_; (case N => k_asm); (case hx => k_mem); (case U => k_updF); (case ho => assumption); (case hs => assumption); walk_at "my use2"); intro v9 x9 h9 tk9 P9 F9 N9; (obtain ⟨o9, f9, ⟨t9, e9⟩, g9⟩ := P9); subst e9; (replace f9 := Eq.symm f9); subst f9; (try dsimp only at N9); (try k_sweep))
  k_with "call ref" => (k_here; (with_reducible show wpAny _ _ (call (Value.ref 215) [Value.ref _, Value.int _ _, Value.int _ _]) _ _ _); k_dflt (refine' Fn.use (dec_u ?U ?hx ?ho ?hs) ?B ?F ?X ?N ?T ?hk ?hd ?hu ?_; (case N => k_asm); (case hx => k_mem); (case U => k_updF); (case ho => assumption); (case hs => assumption); walk_at "my use2"); intro v9 x9 h9 tk9 P9 F9 N9; (obtain ⟨o9, f9, ⟨t9, e9⟩, g9⟩ := P9); subst e9; (replace f9 := Eq.symm f9); subst f9; (try dsimp only at N9); (try k_sweep))
  k_with "call ref" => (k_here; (with_reducible show wpAny _ _ (call (Value.ref 222) [Value.ref _, Value.int _ _, Value.int _ _]) _ _ _); k_dflt (refine' Fn.use (neg_u ?U ?hx ?ho ?hs) ?B ?F ?X ?N ?T ?hk ?hd ?hu ?_; (case N => k_asm); (case hx => k_mem); (case U => k_updF); (case ho => assumption); (case hs => assumption); walk_at "my use2"); intro v9 x9 h9 tk9 P9 F9 N9; (obtain ⟨o9, f9, ⟨t9, e9⟩, g9⟩ := P9); subst e9; (replace f9 := Eq.symm f9); subst f9; (try dsimp only at N9); (try k_sweep))
  k_with "call ref" => (k_here; (with_reducible show wpAny _ _ (call (Value.ref 201) [Value.ref _, Value.int _ _, Value.int _ _]) _ _ _); k_dflt (refine' Fn.use (logic_u ?U ?hx ?ho ?hs) ?B ?F ?X ?N ?T ?hk ?hd ?hu ?_; (case N => k_asm); (case hx => k_mem); (case U => k_updF); (case ho => assumption); (case hs => assumption); walk_at "my use2"); intro v9 x9 h9 tk9 P9 F9 N9; (obtain ⟨o9, f9, ⟨t9, e9⟩, g9⟩ := P9); subst e9; (replace f9 := Eq.symm f9); subst f9; (try dsimp only at N9); (try k_sweep))
  k_with "call ref" => (k_here; (with_reducible show wpAny _ _ (call (Value.ref 180) [Value.ref _, Value.int _ _, Value.int _ _]) _ _ _); k_dflt (refine' Fn.use (szp_u ?U ?hx ?ho ?hs) ?B ?F ?X ?N ?T ?hk ?hd ?hu ?_; (case N => k_asm); (case hx => k_mem); (case U => k_updF); (case ho => assumption); (case hs => assumption); walk_at "my use2"); intro v9 x9 h9 tk9 P9 F9 N9; (obtain ⟨o9, f9, ⟨t9, e9⟩, g9⟩ := P9); subst e9; (replace f9 := Eq.symm f9); subst f9; (try dsimp only at N9); (try k_sweep))
  k_with "call ref" => (k_here; (with_reducible show wpAny _ _ (call (Value.ref 187) [Value.ref _, Value.int _ _, Value.int _ _, Value.int _ _, Value.int _ _]) _ _ _); k_dflt (refine' Fn.use (add_u ?U ?hx ?ho ?hs ?hy) ?B ?F ?X ?N ?T ?hk ?hd ?hu ?_; (case N => k_asm); (case hx => k_mem); (case U => k_updF); (case ho => assumption); (case hs => assumption); (case hy => first | assumption | omega); walk_at "my use2"); intro v9 x9 h9 tk9 P9 F9 N9; (obtain ⟨o9, f9, ⟨t9, e9⟩, g9⟩ := P9); subst e9; (replace f9 := Eq.symm f9); subst f9; (try dsimp only at N9); (try k_sweep))
  k_with "call ref" => (k_here; (with_reducible show wpAny _ _ (call (Value.ref 194) [Value.ref _, Value.int _ _, Value.int _ _, Value.int _ _, Value.int _ _]) _ _ _); k_dflt (refine' Fn.use (sub_u ?U ?hx ?ho ?hs ?hy) ?B ?F ?X ?N ?T ?hk ?hd ?hu ?_; (case N => k_asm); (case hx => k_mem); (case U => k_updF); (case ho => assumption); (case hs => assumption); (case hy => first | assumption | omega); walk_at "my use2"); intro v9 x9 h9 tk9 P9 F9 N9; (obtain ⟨o9, f9, ⟨t9, e9⟩, g9⟩ := P9); subst e9; (replace f9 := Eq.symm f9); subst f9; (try dsimp only at N9); (try k_sweep))
  k_with "call ref" => (k_here; (with_reducible show wpAny _ _ (call (Value.ref 269) [Value.ref _, Value.int _ _, Value.int _ _, Value.int _ _, Value.int _ _, Value.int _ _]) _ _ _); k_dflt (refine' Fn.use (sum_u ?hr ?hw ?hs) ?B ?F ?X ?N ?T ?hk ?hd ?hu ?_; (case N => k_asm); (case hr => k_mem); (case hw => first | omega | decide); (case hs => assumption); walk_at "my use2"); intro v9 x9 h9 tk9 P9 F9 N9; (obtain ⟨tl9, ll9, t09, ua9, ub9, uc9, ud9, ue9, uf9, ug9, n9, f9, e9, lta9, ltb9⟩ := P9); subst e9; (replace f9 := Eq.symm f9); subst f9; (try k_lt lta9); (try k_lt2 ltb9); (try k_sweep))
  k_with "subscriptTail List" => (k_here; (with_reducible show wpAny _ _ (subscriptTail _ _ (Value.ref _) (Value.int _ _)) _ _ _); k_dflt (refine' my_pick ?k1 ?k2 ?k3 ?k4 ?k5 ?k6 ?_ ?k7; (case k1 => k_asm); (case k2 => k_mem); (case k3 => l_intsW); (case k4 => omega); (case k5 => (simp only [List.length_cons, List.length_nil]; omega)); (case k6 => omega); (case k7 => with_unfolding_all rfl); k_whole); intro x9 t9 m9; (obtain ⟨W9, hs9⟩ := sz_of m9); (have hlo9 := Sz.lo hs9); (have hpos9 := Sz.pos hs9); (have hpow9 := Sz.pow hs9))
  k_with "binaryOp Mod int int" => (k_here; (with_reducible refine mod_int' ?kbe ?_); (case kbe => omega))
  k_with "call ref" => (k_here; (with_reducible show wpAny _ _ (call (Value.ref 262) [Value.int _ _, Value.int _ _]) _ _ _); k_dflt (refine' Fn.use (marks_c _ _ _ _ _ _ _ _ _) ?B ?F ?X ?N ?T ?hk ?hd ?hu ?_; walk_at "my use"); intro v9 x9 h9 tk9 P9 F9 N9; (obtain ⟨l9, ta9, tb9, tc9, n9, f9, e9, lt9⟩ := P9); subst e9; (replace f9 := Eq.symm f9); subst f9; (try k_lt lt9); (try k_sweep))
  k_fill
  intro X
  unfold Cont2 at hcont
  conv =>
    arg 3
    arg 1
    whnf
  have eS : lawScope = lawScope := rfl
  conv at eS =>
    rhs
    whnf
  rw [eS] at hcont ⊢
  clear eS
  k_steps
  all_goals (
    dsimp only
    (rename News _ _ _ _ => nE)
    have nT := News.tail' nE
    (rename @LT.lt Nat _ xb _ ∧ _ => lT)
    (rename FlSum _ _ _ _ _ _ _ _ => gE)
    refine' hcont _ _ _ _ _ _ _ _ _ _ _ _ _ _ _ _ _ _ _ _ _ _ ?ho ?b1 ?b2 ?b3 ?b4 ?b5 ?b6 ?m1 ?m2 ?m3 ?m4 ?m5 ?m6 ?lt ?F ?N
    case F => k_asm
    case N => exact nT
    case m1 => exact rfl
    case m2 => exact rfl
    case m3 => exact rfl
    case m4 => exact rfl
    case m5 => exact rfl
    case m6 => exact rfl
    case lt => exact lT
    case ho => exact gE
    case b1 => first | assumption | exact cy01 _ _ | decide
    case b2 => exact evn01 _
    case b3 => first | assumption | exact ax01 _ | decide
    case b4 => exact zro01 _
    case b5 => exact sgn01 _ _
    case b6 => first | assumption | exact ov01 _ _ | decide)

set_option maxRecDepth 100000 in
set_option maxHeartbeats 8000000 in
theorem ph2_5 (w : World) (mean : ExcName → Option Value) (mg mb : Str → Option Value) (H : Heap) (L fa : Addr) (cd : Value) (rest : List Stmt) (xb db x dx pl rl : Addr) (ob o pb co : Obj) (c p a z s f d : Int) (t1 t2 t3 t4 t5 t6 t7 : Tok) (n : Nat) (own : List (Addr × Obj)) (m : Str → Option Value) (st : Shared) (Q : Flow → Shared → Prop) (E : Value → Shared → Prop)
    (size W u v : Int) (s1 s2 s3 s4 s5 s6 s7 : Tok)
    (B : Below callerA H [] H) (X : (hd.heap_1 w.params).In H) (T : Top view (looseW view [Str.ofString "MintError"]) mean mg mb H)
    (F : Fr H L st.heap (fun y => if y = Str.ofString "before" then some (.ref rl) else if y = Str.ofString "kept" then some (.ref xb) else if y = Str.ofString "other" then some (.int (v % W) s1) else if y = Str.ofString "one" then some (.int (u % W) s2) else if y = Str.ofString "wheel" then some (.int W s5) else if y = Str.ofString "first" then some (.int u s4) else if y = Str.ofString "second" then some (.int v s3) else if y = Str.ofString "size" then some (.int size s7) else if y = Str.ofString "way" then some (.int 5 s6) else if y = Str.ofString "flags" then some (.ref x) else if y = Str.ofString "row" then some (.ref rl) else m y))
    (N : News H L st.heap ((xb, instObj 169 db) :: (db, ob) :: (x, instObj 169 dx) :: (dx, o) :: (pl, pb) :: (L + 1, co) :: (rl, rowL c p a z s f d t1 t2 t3 t4 t5 t6 t7 n) :: own))
    (hs : Sz size W) (ho : IsFl w o c p a z s f d)
    (bc : 0 ≤ c ∧ c ≤ 1) (bp : 0 ≤ p ∧ p ≤ 1) (ba : 0 ≤ a ∧ a ≤ 1) (bz : 0 ≤ z ∧ z ≤ 1) (bs : 0 ≤ s ∧ s ≤ 1) (bf : 0 ≤ f ∧ f ≤ 1)
    (n1 : @Ne Nat dx x) (n2 : @Ne Nat dx pl) (n3 : @Ne Nat dx (L + 1)) (n4 : @Ne Nat dx rl) (n5 : ∀ q ∈ own, q.1 ≠ dx)
    (l1 : @LT.lt Nat _ x db ∧ @LT.lt Nat _ dx db ∧ @LT.lt Nat _ pl db ∧ @LT.lt Nat _ (L + 1) db ∧ @LT.lt Nat _ rl db ∧ AllLt db own) (l2 : @LT.lt Nat _ db xb)
    (hcont : Cont2 w H L fa cd rest st Q E xb db x dx pl rl ob pb co (rowL c p a z s f d t1 t2 t3 t4 t5 t6 t7 n) d own) :
    wpAny (model PySem.Challenge.rw_qz0047_01.row.prog w) (lawA L fa cd) (execs (part2 rest) (envOfC (Str.ofString "law") lawScope L fa cd)) Q E st := by
  revert X
  k_with_none
  k_with "my room" => ((try dsimp only [depth_under_make, depth_under_kw, depth_in1, depth_deeper, depth_caller, ktrTop]); first | ((with_reducible rename _ + _ < recursionLimit => hRoom9); first | exact room2 hRoom9 rfl | exact room3 hRoom9 rfl | exact room1 hRoom9 rfl | exact room0 hRoom9) | decide)
  k_with "my units" => ((try dsimp only [units_in1, units_deeper, units_under_make, units_caller, ktrTop]); first | ((with_reducible rename _ + _ < cLine => hUnits9); first | exact room2 hUnits9 rfl | exact room3 hUnits9 rfl | exact room1 hUnits9 rfl | exact room0 hUnits9) | decide)
  k_with "subscriptTail Name Constant ref int" => (k_here; (with_reducible show wpAny _ _ (subscriptTail _ _ (Value.ref _) (Value.int _ _)) _ _ _); k_dflt (refine' my_item ?k1 ?k2 ?k3 ?k4 ?k5 ?_ ?k6; (case k1 => k_asm); (case k2 => k_mem); (case k3 => decide); (case k4 => decide); (case k5 => rfl); (case k6 => with_unfolding_all rfl); k_whole))
  k_with "binaryOp FloorDiv int int" => (k_here; (with_reducible refine floordiv_int ?kbe ?_ (Or.inl (PyProof.noPylong_of_log2 ?kbp))); (case kbe => first | decide | omega); (case kbp => (first | decide +kernel | exact my_log (by omega) (by omega))))
  k_with "my use" => ((case B => k_asm); (case F => k_asm); (case X => k_asm); (case N => k_asm); (case T => k_asm); (case hk => first | exact rfl | assumption); (case hd => walk_at "my room"); (case hu => walk_at "my units"); k_whole)
  k_with "my use2" => ((case B => k_asm); (case F => k_asm); (case X => k_asm); (case T => k_asm); (case hk => first | exact rfl | assumption); (case hd => walk_at "my room"); (case hu => walk_at "my units"); k_whole)
  k_with "binaryOp LShift int int" => (k_here; (with_reducible refine lshift_int_small ?kb1 ?kb2 ?kb3 ?_); (case kb1 => first | decide | omega); (case kb2 => first | decide | omega); (case kb3 => first | decide | exact bit_nat (by assumption) | omega))
  k_with "my enterC" => (refine' code_defC ?k1 ?k2 ?k3 ?k4 ?k5 ?kA ?kF ?kK ?k6 ?k7 ?k8 ?k9 ?kB ?kD ?_ ?c2 ?c3 ?c4; (case kA => exact rfl); (case kF => exact rfl); (case kK => assumption); (case k1 => k_asm); (case k2 => k_asm); (case k3 => k_asm); (case k4 => k_asm); (case k5 => k_asm); (case k6 => k_is); (case k7 => k_is); (case k8 => walk_at "my room"); (case k9 => exact BindsTo.of_eq rfl); (case kB => exact rfl); (case kD => decide +kernel); (case c2 => exact rfl); (case c3 => exact rfl); (case c4 => exact rfl); k_whole; intro g' L' h' tk' cells' FG' F' N' Y' B' X' T' l1; (try k_lt l1); k_cells Y'; (try simp only [List.cons_append, List.nil_append] at N'); (try dsimp only); (try k_lift B'); (try k_fold))
  k_with "my all" => (first | with_reducible assumption | exact my_ne1 (by with_reducible assumption) | (refine my_ne2 ?_; first | with_reducible assumption | exact And.right (by with_reducible assumption) | exact And.right (And.right (by with_reducible assumption)) | exact And.right (And.right (And.right (by with_reducible assumption)))))
  k_with "my ne" => (refine neN ?_; (try dsimp only); first | assumption | exact Nat.ne_of_lt (by assumption) | exact Nat.ne_of_gt (by assumption) | exact Ne.symm (by assumption))
  k_with "execs cons" => (k_here; (refine gen_toks ?_); intro tk9; (try dsimp only); refine wpAny_execs_cons ?_)
  k_with "eval BinOp" => (k_dflt (k_fold; walk1))
  k_with "eval Call" => (k_dflt (k_fold; walk1))
  k_with "eval Subscript" => (k_dflt (k_fold; walk1))
  k_with "eval List" => (k_dflt (k_fold; walk1))
  k_with "eval Tuple" => (k_dflt (k_fold; walk1))
  k_with "eval IfExp" => (k_dflt (k_fold; walk1))
  k_with "spliced" => (k_dflt (k_fold; walk1))
  k_with "eval Compare" => (k_dflt (k_fold; walk1))
  k_with "eval Call Attribute" => (k_dflt (k_fold; walk1))
  k_with "call ref" => (k_here; (with_reducible show wpAny _ _ (call (Value.ref 208) [Value.ref _, Value.int _ _, Value.int _ _]) _ _ _); k_dflt (refine' Fn.use (inc_u ?U ?hx ?ho ?hs) ?B ?F ?X ?N ?T ?hk ?hd ?hu ?_; (case N => k_asm); (case hx => k_mem); (case U => k_updF); (case ho => assumption); (case hs => assumption); walk_at "my use2"); intro v9 x9 h9 tk9 P9 F9 N9; (obtain ⟨o9, f9, ⟨t9, e9⟩, g9⟩ := P9); subst e9; (replace f9 := Eq.symm f9); subst f9; (try dsimp only at N9); (try k_sweep))
  k_with "call ref" => (k_here; (with_reducible show wpAny _ _ (call (Value.ref 215) [Value.ref _, Value.int _ _, Value.int _ _]) _ _ _); k_dflt (refine' Fn.use (dec_u ?U ?hx ?ho ?hs) ?B ?F ?X ?N ?T ?hk ?hd ?hu ?_; (case N => k_asm); (case hx => k_mem); (case U => k_updF); (case ho => assumption); (case hs => assumption); walk_at "my use2"); intro v9 x9 h9 tk9 P9 F9 N9; (obtain ⟨o9, f9, ⟨t9, e9⟩, g9⟩ := P9); subst e9; (replace f9 := Eq.symm f9); subst f9; (try dsimp only at N9); (try k_sweep))
  k_with "call ref" => (k_here; (with_reducible show wpAny _ _ (call (Value.ref 222) [Value.ref _, Value.int _ _, Value.int _ _]) _ _ _); k_dflt (refine' Fn.use (neg_u ?U ?hx ?ho ?hs) ?B ?F ?X ?N ?T ?hk ?hd ?hu ?_; (case N => k_asm); (case hx => k_mem); (case U => k_updF); (case ho => assumption); (case hs => assumption); walk_at "my use2"); intro v9 x9 h9 tk9 P9 F9 N9; (obtain ⟨o9, f9, ⟨t9, e9⟩, g9⟩ := P9); subst e9; (replace f9 := Eq.symm f9); subst f9; (try dsimp only at N9); (try k_sweep))
  k_with "call ref" => (k_here; (with_reducible show wpAny _ _ (call (Value.ref 201) [Value.ref _, Value.int _ _, Value.int _ _]) _ _ _); k_dflt (refine' Fn.use (logic_u ?U ?hx ?ho ?hs) ?B ?F ?X ?N ?T ?hk ?hd ?hu ?_; (case N => k_asm); (case hx => k_mem); (case U => k_updF); (case ho => assumption); (case hs => assumption); walk_at "my use2"); intro v9 x9 h9 tk9 P9 F9 N9; (obtain ⟨o9, f9, ⟨t9, e9⟩, g9⟩ := P9); subst e9; (replace f9 := Eq.symm f9); subst f9; (try dsimp only at N9); (try k_sweep))
  k_with "call ref" => (k_here; (with_reducible show wpAny _ _ (call (Value.ref 180) [Value.ref _, Value.int _ _, Value.int _ _]) _ _ _); k_dflt (refine' Fn.use (szp_u ?U ?hx ?ho ?hs) ?B ?F ?X ?N ?T ?hk ?hd ?hu ?_; (case N => k_asm); (case hx => k_mem); (case U => k_updF); (case ho => assumption); (case hs => assumption); walk_at "my use2"); intro v9 x9 h9 tk9 P9 F9 N9; (obtain ⟨o9, f9, ⟨t9, e9⟩, g9⟩ := P9); subst e9; (replace f9 := Eq.symm f9); subst f9; (try dsimp only at N9); (try k_sweep))
  k_with "call ref" => (k_here; (with_reducible show wpAny _ _ (call (Value.ref 187) [Value.ref _, Value.int _ _, Value.int _ _, Value.int _ _, Value.int _ _]) _ _ _); k_dflt (refine' Fn.use (add_u ?U ?hx ?ho ?hs ?hy) ?B ?F ?X ?N ?T ?hk ?hd ?hu ?_; (case N => k_asm); (case hx => k_mem); (case U => k_updF); (case ho => assumption); (case hs => assumption); (case hy => first | assumption | omega); walk_at "my use2"); intro v9 x9 h9 tk9 P9 F9 N9; (obtain ⟨o9, f9, ⟨t9, e9⟩, g9⟩ := P9); subst e9; (replace f9 := Eq.symm f9); subst f9; (try dsimp only at N9); (try k_sweep))
  k_with "call ref" => (k_here; (with_reducible show wpAny _ _ (call (Value.ref 194) [Value.ref _, Value.int _ _, Value.int _ _, Value.int _ _, Value.int _ _]) _ _ _); k_dflt (refine' Fn.use (sub_u ?U ?hx ?ho ?hs ?hy) ?B ?F ?X ?N ?T ?hk ?hd ?hu ?_; (case N => k_asm); (case hx => k_mem); (case U => k_updF); (case ho => assumption); (case hs => assumption); (case hy => first | assumption | omega); walk_at "my use2"); intro v9 x9 h9 tk9 P9 F9 N9; (obtain ⟨o9, f9, ⟨t9, e9⟩, g9⟩ := P9); subst e9; (replace f9 := Eq.symm f9); subst f9; (try dsimp only at N9); (try k_sweep))
  k_with "call ref" => (k_here; (with_reducible show wpAny _ _ (call (Value.ref 269) [Value.ref _, Value.int _ _, Value.int _ _, Value.int _ _, Value.int _ _, Value.int _ _]) _ _ _); k_dflt (refine' Fn.use (sum_u ?hr ?hw ?hs) ?B ?F ?X ?N ?T ?hk ?hd ?hu ?_; (case N => k_asm); (case hr => k_mem); (case hw => first | omega | decide); (case hs => assumption); walk_at "my use2"); intro v9 x9 h9 tk9 P9 F9 N9; (obtain ⟨tl9, ll9, t09, ua9, ub9, uc9, ud9, ue9, uf9, ug9, n9, f9, e9, lta9, ltb9⟩ := P9); subst e9; (replace f9 := Eq.symm f9); subst f9; (try k_lt lta9); (try k_lt2 ltb9); (try k_sweep))
  k_with "subscriptTail List" => (k_here; (with_reducible show wpAny _ _ (subscriptTail _ _ (Value.ref _) (Value.int _ _)) _ _ _); k_dflt (refine' my_pick ?k1 ?k2 ?k3 ?k4 ?k5 ?k6 ?_ ?k7; (case k1 => k_asm); (case k2 => k_mem); (case k3 => l_intsW); (case k4 => omega); (case k5 => (simp only [List.length_cons, List.length_nil]; omega)); (case k6 => omega); (case k7 => with_unfolding_all rfl); k_whole); intro x9 t9 m9; (obtain ⟨W9, hs9⟩ := sz_of m9); (have hlo9 := Sz.lo hs9); (have hpos9 := Sz.pos hs9); (have hpow9 := Sz.pow hs9))
  k_with "binaryOp Mod int int" => (k_here; (with_reducible refine mod_int' ?kbe ?_); (case kbe => omega))
  k_with "call ref" => (k_here; (with_reducible show wpAny _ _ (call (Value.ref 262) [Value.int _ _, Value.int _ _]) _ _ _); k_dflt (refine' Fn.use (marks_c _ _ _ _ _ _ _ _ _) ?B ?F ?X ?N ?T ?hk ?hd ?hu ?_; walk_at "my use"); intro v9 x9 h9 tk9 P9 F9 N9; (obtain ⟨l9, ta9, tb9, tc9, n9, f9, e9, lt9⟩ := P9); subst e9; (replace f9 := Eq.symm f9); subst f9; (try k_lt lt9); (try k_sweep))
  k_fill
  intro X
  unfold Cont2 at hcont
  conv =>
    arg 3
    arg 1
    whnf
  have eS : lawScope = lawScope := rfl
  conv at eS =>
    rhs
    whnf
  rw [eS] at hcont ⊢
  clear eS
  k_steps
  all_goals (
    dsimp only
    (rename News _ _ _ _ => nE)
    have nT := news_d2 nE
    (rename _ ∧ _ ∧ @LT.lt Nat _ xb _ ∧ _ => lE)
    have lT := lE.2.2
    (rename IsFl _ _ _ _ _ _ _ _ _ => gE)
    refine' hcont _ _ _ _ _ _ _ _ _ _ _ _ _ _ _ _ _ _ _ _ _ _ ?ho ?b1 ?b2 ?b3 ?b4 ?b5 ?b6 ?m1 ?m2 ?m3 ?m4 ?m5 ?m6 ?lt ?F ?N
    case F => k_asm
    case N => exact nT
    case m1 => exact rfl
    case m2 => exact rfl
    case m3 => exact rfl
    case m4 => exact rfl
    case m5 => exact rfl
    case m6 => exact rfl
    case lt => exact lT
    case ho => exact gE
    case b1 => first | assumption | exact cy01 _ _ | decide
    case b2 => exact evn01 _
    case b3 => first | assumption | exact ax01 _ | decide
    case b4 => exact zro01 _
    case b5 => exact sgn01 _ _
    case b6 => first | assumption | exact ov01 _ _ | decide)

set_option maxRecDepth 100000 in
set_option maxHeartbeats 8000000 in
theorem ph2_6 (w : World) (mean : ExcName → Option Value) (mg mb : Str → Option Value) (H : Heap) (L fa : Addr) (cd : Value) (rest : List Stmt) (xb db x dx pl rl : Addr) (ob o pb co : Obj) (c p a z s f d : Int) (t1 t2 t3 t4 t5 t6 t7 : Tok) (n : Nat) (own : List (Addr × Obj)) (m : Str → Option Value) (st : Shared) (Q : Flow → Shared → Prop) (E : Value → Shared → Prop)
    (size W u v : Int) (s1 s2 s3 s4 s5 s6 s7 : Tok)
    (B : Below callerA H [] H) (X : (hd.heap_1 w.params).In H) (T : Top view (looseW view [Str.ofString "MintError"]) mean mg mb H)
    (F : Fr H L st.heap (fun y => if y = Str.ofString "before" then some (.ref rl) else if y = Str.ofString "kept" then some (.ref xb) else if y = Str.ofString "other" then some (.int (v % W) s1) else if y = Str.ofString "one" then some (.int (u % W) s2) else if y = Str.ofString "wheel" then some (.int W s5) else if y = Str.ofString "first" then some (.int u s4) else if y = Str.ofString "second" then some (.int v s3) else if y = Str.ofString "size" then some (.int size s7) else if y = Str.ofString "way" then some (.int 6 s6) else if y = Str.ofString "flags" then some (.ref x) else if y = Str.ofString "row" then some (.ref rl) else m y))
    (N : News H L st.heap ((xb, instObj 169 db) :: (db, ob) :: (x, instObj 169 dx) :: (dx, o) :: (pl, pb) :: (L + 1, co) :: (rl, rowL c p a z s f d t1 t2 t3 t4 t5 t6 t7 n) :: own))
    (hs : Sz size W) (ho : IsFl w o c p a z s f d)
    (bc : 0 ≤ c ∧ c ≤ 1) (bp : 0 ≤ p ∧ p ≤ 1) (ba : 0 ≤ a ∧ a ≤ 1) (bz : 0 ≤ z ∧ z ≤ 1) (bs : 0 ≤ s ∧ s ≤ 1) (bf : 0 ≤ f ∧ f ≤ 1)
    (n1 : @Ne Nat dx x) (n2 : @Ne Nat dx pl) (n3 : @Ne Nat dx (L + 1)) (n4 : @Ne Nat dx rl) (n5 : ∀ q ∈ own, q.1 ≠ dx)
    (l1 : @LT.lt Nat _ x db ∧ @LT.lt Nat _ dx db ∧ @LT.lt Nat _ pl db ∧ @LT.lt Nat _ (L + 1) db ∧ @LT.lt Nat _ rl db ∧ AllLt db own) (l2 : @LT.lt Nat _ db xb)
    (hcont : Cont2 w H L fa cd rest st Q E xb db x dx pl rl ob pb co (rowL c p a z s f d t1 t2 t3 t4 t5 t6 t7 n) d own) :
    wpAny (model PySem.Challenge.rw_qz0047_01.row.prog w) (lawA L fa cd) (execs (part2 rest) (envOfC (Str.ofString "law") lawScope L fa cd)) Q E st := by
  revert X
  k_with_none
  k_with "my room" => ((try dsimp only [depth_under_make, depth_under_kw, depth_in1, depth_deeper, depth_caller, ktrTop]); first | ((with_reducible rename _ + _ < recursionLimit => hRoom9); first | exact room2 hRoom9 rfl | exact room3 hRoom9 rfl | exact room1 hRoom9 rfl | exact room0 hRoom9) | decide)
  k_with "my units" => ((try dsimp only [units_in1, units_deeper, units_under_make, units_caller, ktrTop]); first | ((with_reducible rename _ + _ < cLine => hUnits9); first | exact room2 hUnits9 rfl | exact room3 hUnits9 rfl | exact room1 hUnits9 rfl | exact room0 hUnits9) | decide)
  k_with "subscriptTail Name Constant ref int" => (k_here; (with_reducible show wpAny _ _ (subscriptTail _ _ (Value.ref _) (Value.int _ _)) _ _ _); k_dflt (refine' my_item ?k1 ?k2 ?k3 ?k4 ?k5 ?_ ?k6; (case k1 => k_asm); (case k2 => k_mem); (case k3 => decide); (case k4 => decide); (case k5 => rfl); (case k6 => with_unfolding_all rfl); k_whole))
  k_with "binaryOp FloorDiv int int" => (k_here; (with_reducible refine floordiv_int ?kbe ?_ (Or.inl (PyProof.noPylong_of_log2 ?kbp))); (case kbe => first | decide | omega); (case kbp => (first | decide +kernel | exact my_log (by omega) (by omega))))
  k_with "my use" => ((case B => k_asm); (case F => k_asm); (case X => k_asm); (case N => k_asm); (case T => k_asm); (case hk => first | exact rfl | assumption); (case hd => walk_at "my room"); (case hu => walk_at "my units"); k_whole)
  k_with "my use2" => ((case B => k_asm); (case F => k_asm); (case X => k_asm); (case T => k_asm); (case hk => first | exact rfl | assumption); (case hd => walk_at "my room"); (case hu => walk_at "my units"); k_whole)
  k_with "binaryOp LShift int int" => (k_here; (with_reducible refine lshift_int_small ?kb1 ?kb2 ?kb3 ?_); (case kb1 => first | decide | omega); (case kb2 => first | decide | omega); (case kb3 => first | decide | exact bit_nat (by assumption) | omega))
  k_with "my enterC" => (refine' code_defC ?k1 ?k2 ?k3 ?k4 ?k5 ?kA ?kF ?kK ?k6 ?k7 ?k8 ?k9 ?kB ?kD ?_ ?c2 ?c3 ?c4; (case kA => exact rfl); (case kF => exact rfl); (case kK => assumption); (case k1 => k_asm); (case k2 => k_asm); (case k3 => k_asm); (case k4 => k_asm); (case k5 => k_asm); (case k6 => k_is); (case k7 => k_is); (case k8 => walk_at "my room"); (case k9 => exact BindsTo.of_eq rfl); (case kB => exact rfl); (case kD => decide +kernel); (case c2 => exact rfl); (case c3 => exact rfl); (case c4 => exact rfl); k_whole; intro g' L' h' tk' cells' FG' F' N' Y' B' X' T' l1; (try k_lt l1); k_cells Y'; (try simp only [List.cons_append, List.nil_append] at N'); (try dsimp only); (try k_lift B'); (try k_fold))
  k_with "my all" => (first | with_reducible assumption | exact my_ne1 (by with_reducible assumption) | (refine my_ne2 ?_; first | with_reducible assumption | exact And.right (by with_reducible assumption) | exact And.right (And.right (by with_reducible assumption)) | exact And.right (And.right (And.right (by with_reducible assumption)))))
  k_with "my ne" => (refine neN ?_; (try dsimp only); first | assumption | exact Nat.ne_of_lt (by assumption) | exact Nat.ne_of_gt (by assumption) | exact Ne.symm (by assumption))
  k_with "execs cons" => (k_here; (refine gen_toks ?_); intro tk9; (try dsimp only); refine wpAny_execs_cons ?_)
  k_with "eval BinOp" => (k_dflt (k_fold; walk1))
  k_with "eval Call" => (k_dflt (k_fold; walk1))
  k_with "eval Subscript" => (k_dflt (k_fold; walk1))
  k_with "eval List" => (k_dflt (k_fold; walk1))
  k_with "eval Tuple" => (k_dflt (k_fold; walk1))
  k_with "eval IfExp" => (k_dflt (k_fold; walk1))
  k_with "spliced" => (k_dflt (k_fold; walk1))
  k_with "eval Compare" => (k_dflt (k_fold; walk1))
  k_with "eval Call Attribute" => (k_dflt (k_fold; walk1))
  k_with "call ref" => (k_here; (with_reducible show wpAny _ _ (call (Value.ref 208) [Value.ref _, Value.int _ _, Value.int _ _]) _ _ _); k_dflt (refine' Fn.use (inc_u ?U ?hx ?ho ?hs) ?B ?F ?X ?N ?T ?hk ?hd ?hu ?_; (case N => k_asm); (case hx => k_mem); (case U => k_updF); (case ho => assumption); (case hs => assumption); walk_at "my use2"); intro v9 x9 h9 tk9 P9 F9 N9; (obtain ⟨o9, f9, ⟨t9, e9⟩, g9⟩ := P9); subst e9; (replace f9 := Eq.symm f9); subst f9; (try dsimp only at N9); (try k_sweep))
  k_with "call ref" => (k_here; (with_reducible show wpAny _ _ (call (Value.ref 215) [Value.ref _, Value.int _ _, Value.int _ _]) _ _ _); k_dflt (refine' Fn.use (dec_u ?U ?hx ?ho ?hs) ?B ?F ?X ?N ?T ?hk ?hd ?hu ?_; (case N => k_asm); (case hx => k_mem); (case U => k_updF); (case ho => assumption); (case hs => assumption); walk_at "my use2"); intro v9 x9 h9 tk9 P9 F9 N9; (obtain ⟨o9, f9, ⟨t9, e9⟩, g9⟩ := P9); subst e9; (replace f9 := Eq.symm f9); subst f9; (try dsimp only at N9); (try k_sweep))
  k_with "call ref" => (k_here; (with_reducible show wpAny _ _ (call (Value.ref 222) [Value.ref _, Value.int _ _, Value.int _ _]) _ _ _); k_dflt (refine' Fn.use (neg_u ?U ?hx ?ho ?hs) ?B ?F ?X ?N ?T ?hk ?hd ?hu ?_; (case N => k_asm); (case hx => k_mem); (case U => k_updF); (case ho => assumption); (case hs => assumption); walk_at "my use2"); intro v9 x9 h9 tk9 P9 F9 N9; (obtain ⟨o9, f9, ⟨t9, e9⟩, g9⟩ := P9); subst e9; (replace f9 := Eq.symm f9); subst f9; (try dsimp only at N9); (try k_sweep))
  k_with "call ref" => (k_here; (with_reducible show wpAny _ _ (call (Value.ref 201) [Value.ref _, Value.int _ _, Value.int _ _]) _ _ _); k_dflt (refine' Fn.use (logic_u ?U ?hx ?ho ?hs) ?B ?F ?X ?N ?T ?hk ?hd ?hu ?_; (case N => k_asm); (case hx => k_mem); (case U => k_updF); (case ho => assumption); (case hs => assumption); walk_at "my use2"); intro v9 x9 h9 tk9 P9 F9 N9; (obtain ⟨o9, f9, ⟨t9, e9⟩, g9⟩ := P9); subst e9; (replace f9 := Eq.symm f9); subst f9; (try dsimp only at N9); (try k_sweep))
  k_with "call ref" => (k_here; (with_reducible show wpAny _ _ (call (Value.ref 180) [Value.ref _, Value.int _ _, Value.int _ _]) _ _ _); k_dflt (refine' Fn.use (szp_u ?U ?hx ?ho ?hs) ?B ?F ?X ?N ?T ?hk ?hd ?hu ?_; (case N => k_asm); (case hx => k_mem); (case U => k_updF); (case ho => assumption); (case hs => assumption); walk_at "my use2"); intro v9 x9 h9 tk9 P9 F9 N9; (obtain ⟨o9, f9, ⟨t9, e9⟩, g9⟩ := P9); subst e9; (replace f9 := Eq.symm f9); subst f9; (try dsimp only at N9); (try k_sweep))
  k_with "call ref" => (k_here; (with_reducible show wpAny _ _ (call (Value.ref 187) [Value.ref _, Value.int _ _, Value.int _ _, Value.int _ _, Value.int _ _]) _ _ _); k_dflt (refine' Fn.use (add_u ?U ?hx ?ho ?hs ?hy) ?B ?F ?X ?N ?T ?hk ?hd ?hu ?_; (case N => k_asm); (case hx => k_mem); (case U => k_updF); (case ho => assumption); (case hs => assumption); (case hy => first | assumption | omega); walk_at "my use2"); intro v9 x9 h9 tk9 P9 F9 N9; (obtain ⟨o9, f9, ⟨t9, e9⟩, g9⟩ := P9); subst e9; (replace f9 := Eq.symm f9); subst f9; (try dsimp only at N9); (try k_sweep))
  k_with "call ref" => (k_here; (with_reducible show wpAny _ _ (call (Value.ref 194) [Value.ref _, Value.int _ _, Value.int _ _, Value.int _ _, Value.int _ _]) _ _ _); k_dflt (refine' Fn.use (sub_u ?U ?hx ?ho ?hs ?hy) ?B ?F ?X ?N ?T ?hk ?hd ?hu ?_; (case N => k_asm); (case hx => k_mem); (case U => k_updF); (case ho => assumption); (case hs => assumption); (case hy => first | assumption | omega); walk_at "my use2"); intro v9 x9 h9 tk9 P9 F9 N9; (obtain ⟨o9, f9, ⟨t9, e9⟩, g9⟩ := P9); subst e9; (replace f9 := Eq.symm f9); subst f9; (try dsimp only at N9); (try k_sweep))
  k_with "call ref" => (k_here; (with_reducible show wpAny _ _ (call (Value.ref 269) [Value.ref _, Value.int _ _, Value.int _ _, Value.int _ _, Value.int _ _, Value.int _ _]) _ _ _); k_dflt (refine' Fn.use (sum_u ?hr ?hw ?hs) ?B ?F ?X ?N ?T ?hk ?hd ?hu ?_; (case N => k_asm); (case hr => k_mem); (case hw => first | omega | decide); (case hs => assumption); walk_at "my use2"); intro v9 x9 h9 tk9 P9 F9 N9; (obtain ⟨tl9, ll9, t09, ua9, ub9, uc9, ud9, ue9, uf9, ug9, n9, f9, e9, lta9, ltb9⟩ := P9); subst e9; (replace f9 := Eq.symm f9); subst f9; (try k_lt lta9); (try k_lt2 ltb9); (try k_sweep))
  k_with "subscriptTail List" => (k_here; (with_reducible show wpAny _ _ (subscriptTail _ _ (Value.ref _) (Value.int _ _)) _ _ _); k_dflt (refine' my_pick ?k1 ?k2 ?k3 ?k4 ?k5 ?k6 ?_ ?k7; (case k1 => k_asm); (case k2 => k_mem); (case k3 => l_intsW); (case k4 => omega); (case k5 => (simp only [List.length_cons, List.length_nil]; omega)); (case k6 => omega); (case k7 => with_unfolding_all rfl); k_whole); intro x9 t9 m9; (obtain ⟨W9, hs9⟩ := sz_of m9); (have hlo9 := Sz.lo hs9); (have hpos9 := Sz.pos hs9); (have hpow9 := Sz.pow hs9))
  k_with "binaryOp Mod int int" => (k_here; (with_reducible refine mod_int' ?kbe ?_); (case kbe => omega))
  k_with "call ref" => (k_here; (with_reducible show wpAny _ _ (call (Value.ref 262) [Value.int _ _, Value.int _ _]) _ _ _); k_dflt (refine' Fn.use (marks_c _ _ _ _ _ _ _ _ _) ?B ?F ?X ?N ?T ?hk ?hd ?hu ?_; walk_at "my use"); intro v9 x9 h9 tk9 P9 F9 N9; (obtain ⟨l9, ta9, tb9, tc9, n9, f9, e9, lt9⟩ := P9); subst e9; (replace f9 := Eq.symm f9); subst f9; (try k_lt lt9); (try k_sweep))
  k_fill
  intro X
  unfold Cont2 at hcont
  conv =>
    arg 3
    arg 1
    whnf
  have eS : lawScope = lawScope := rfl
  conv at eS =>
    rhs
    whnf
  rw [eS] at hcont ⊢
  clear eS
  k_steps
  all_goals (
    dsimp only
    (rename News _ _ _ _ => nE)
    have nT := news_d2 nE
    (rename _ ∧ _ ∧ @LT.lt Nat _ xb _ ∧ _ => lE)
    have lT := lE.2.2
    (rename IsFl _ _ _ _ _ _ _ _ _ => gE)
    refine' hcont _ _ _ _ _ _ _ _ _ _ _ _ _ _ _ _ _ _ _ _ _ _ ?ho ?b1 ?b2 ?b3 ?b4 ?b5 ?b6 ?m1 ?m2 ?m3 ?m4 ?m5 ?m6 ?lt ?F ?N
    case F => k_asm
    case N => exact nT
    case m1 => exact rfl
    case m2 => exact rfl
    case m3 => exact rfl
    case m4 => exact rfl
    case m5 => exact rfl
    case m6 => exact rfl
    case lt => exact lT
    case ho => exact gE
    case b1 => first | assumption | exact cy01 _ _ | decide
    case b2 => exact evn01 _
    case b3 => first | assumption | exact ax01 _ | decide
    case b4 => exact zro01 _
    case b5 => exact sgn01 _ _
    case b6 => first | assumption | exact ov01 _ _ | decide)

theorem fr_exp {H h : Heap} {L : Addr} {m : Str → Option Value} {v1 v2 v3 v4 v5 v6 : Value} (F : Fr H L h m) (h1 : m (Str.ofString "told") = some v1) (h2 : m (Str.ofString "due") = some v2) (h3 : m (Str.ofString "row") = some v3) (h4 : m (Str.ofString "flags") = some v4) (h5 : m (Str.ofString "kept") = some v5) (h6 : m (Str.ofString "before") = some v6) :
    Fr H L h (fun y => if y = Str.ofString "told" then some v1 else if y = Str.ofString "due" then some v2 else if y = Str.ofString "row" then some v3 else if y = Str.ofString "flags" then some v4 else if y = Str.ofString "kept" then some v5 else if y = Str.ofString "before" then some v6 else m y) := by
  have e : (fun y => if y = Str.ofString "told" then some v1 else if y = Str.ofString "due" then some v2 else if y = Str.ofString "row" then some v3 else if y = Str.ofString "flags" then some v4 else if y = Str.ofString "kept" then some v5 else if y = Str.ofString "before" then some v6 else m y) = m := by
    funext y
    repeat' split
    all_goals (first | rfl | (subst_vars; simp_all))
  rw [e]
  exact F
set_option maxRecDepth 100000 in
set_option maxHeartbeats 8000000 in
theorem ph3 (w : World) (mean : ExcName → Option Value) (mg mb : Str → Option Value) (H : Heap) (L fa : Addr) (cd : Value) (xb db x dx pl rl r2 : Addr) (ob o pb co : Obj) (c0 p0 a0 z0 s0 f0 c p a z s f d : Int) (t1 t2 t3 t4 t5 t6 t7 : Tok) (n : Nat) (u1 u2 u3 u4 u5 u6 u7 : Tok) (n2 : Nat) (own : List (Addr × Obj)) (m : Str → Option Value) (st : Shared) (Q : Flow → Shared → Prop) (E : Value → Shared → Prop)
    (r : Int) (ta tb : Tok)
    (B : Below callerA H [] H) (X : (hd.heap_1 w.params).In H) (T : Top view (looseW view [Str.ofString "MintError"]) mean mg mb H)
    (F : Fr H L st.heap (fun y => if y = Str.ofString "told" then some (.int r ta) else if y = Str.ofString "due" then some (.int r tb) else if y = Str.ofString "row" then some (.ref r2) else if y = Str.ofString "flags" then some (.ref x) else if y = Str.ofString "kept" then some (.ref xb) else if y = Str.ofString "before" then some (.ref rl) else m y))
    (N : News H L st.heap ((r2, rowL c p a z s f d u1 u2 u3 u4 u5 u6 u7 n2) :: (xb, instObj 169 db) :: (db, ob) :: (x, instObj 169 dx) :: (dx, o) :: (pl, pb) :: (L + 1, co) :: (rl, rowL c0 p0 a0 z0 s0 f0 d t1 t2 t3 t4 t5 t6 t7 n) :: own))
    (ho : IsFl w o c p a z s f d) (hob : IsFl w ob c0 p0 a0 z0 s0 f0 d)
    (hcont : ∀ (h' : Heap) (tk : Nat), Fr H L h' (fun y => if y = Str.ofString "told" then some (.int r ta) else if y = Str.ofString "due" then some (.int r tb) else if y = Str.ofString "row" then some (.ref r2) else if y = Str.ofString "flags" then some (.ref x) else if y = Str.ofString "kept" then some (.ref xb) else if y = Str.ofString "before" then some (.ref rl) else m y) →
      News H L h' ((r2, rowL c p a z s f d u1 u2 u3 u4 u5 u6 u7 n2) :: (xb, instObj 169 db) :: (db, ob) :: (x, instObj 169 dx) :: (dx, o) :: (pl, pb) :: (L + 1, co) :: (rl, rowL c0 p0 a0 z0 s0 f0 d t1 t2 t3 t4 t5 t6 t7 n) :: own) → Q .next { st with heap := h', toks := tk }) :
    wpAny (model PySem.Challenge.rw_qz0047_01.row.prog w) (lawA L fa cd) (execs part3 (envOfC (Str.ofString "law") lawScope L fa cd)) Q E st := by
  obtain ⟨kk, tt, rfl⟩ := ho
  obtain ⟨jj, ww, rfl⟩ := hob
  revert X
  k_with_none
  k_with "my room" => ((try dsimp only [depth_under_make, depth_under_kw, depth_in1, depth_deeper, depth_caller, ktrTop]); first | ((with_reducible rename _ + _ < recursionLimit => hRoom9); first | exact room2 hRoom9 rfl | exact room3 hRoom9 rfl | exact room1 hRoom9 rfl | exact room0 hRoom9) | decide)
  k_with "my units" => ((try dsimp only [units_in1, units_deeper, units_under_make, units_caller, ktrTop]); first | ((with_reducible rename _ + _ < cLine => hUnits9); first | exact room2 hUnits9 rfl | exact room3 hUnits9 rfl | exact room1 hUnits9 rfl | exact room0 hUnits9) | decide)
  k_with "subscriptTail Name Constant ref int" => (k_here; (with_reducible show wpAny _ _ (subscriptTail _ _ (Value.ref _) (Value.int _ _)) _ _ _); k_dflt (refine' my_item ?k1 ?k2 ?k3 ?k4 ?k5 ?_ ?k6; (case k1 => k_asm); (case k2 => k_mem); (case k3 => decide); (case k4 => decide); (case k5 => rfl); (case k6 => with_unfolding_all rfl); k_whole))
  k_with "binaryOp FloorDiv int int" => (k_here; (with_reducible refine floordiv_int ?kbe ?_ (Or.inl (PyProof.noPylong_of_log2 ?kbp))); (case kbe => first | decide | omega); (case kbp => (first | decide +kernel | exact my_log (by omega) (by omega))))
  k_with "my use" => ((case B => k_asm); (case F => k_asm); (case X => k_asm); (case N => k_asm); (case T => k_asm); (case hk => first | exact rfl | assumption); (case hd => walk_at "my room"); (case hu => walk_at "my units"); k_whole)
  k_with "my use2" => ((case B => k_asm); (case F => k_asm); (case X => k_asm); (case T => k_asm); (case hk => first | exact rfl | assumption); (case hd => walk_at "my room"); (case hu => walk_at "my units"); k_whole)
  k_with "binaryOp LShift int int" => (k_here; (with_reducible refine lshift_int_small ?kb1 ?kb2 ?kb3 ?_); (case kb1 => first | decide | omega); (case kb2 => first | decide | omega); (case kb3 => first | decide | exact bit_nat (by assumption) | omega))
  k_with "my enterC" => (refine' code_defC ?k1 ?k2 ?k3 ?k4 ?k5 ?kA ?kF ?kK ?k6 ?k7 ?k8 ?k9 ?kB ?kD ?_ ?c2 ?c3 ?c4; (case kA => exact rfl); (case kF => exact rfl); (case kK => assumption); (case k1 => k_asm); (case k2 => k_asm); (case k3 => k_asm); (case k4 => k_asm); (case k5 => k_asm); (case k6 => k_is); (case k7 => k_is); (case k8 => walk_at "my room"); (case k9 => exact BindsTo.of_eq rfl); (case kB => exact rfl); (case kD => decide +kernel); (case c2 => exact rfl); (case c3 => exact rfl); (case c4 => exact rfl); k_whole; intro g' L' h' tk' cells' FG' F' N' Y' B' X' T' l1; (try k_lt l1); k_cells Y'; (try simp only [List.cons_append, List.nil_append] at N'); (try dsimp only); (try k_lift B'); (try k_fold))
  k_with "my all" => (first | with_reducible assumption | exact my_ne1 (by with_reducible assumption) | (refine my_ne2 ?_; first | with_reducible assumption | exact And.right (by with_reducible assumption) | exact And.right (And.right (by with_reducible assumption)) | exact And.right (And.right (And.right (by with_reducible assumption)))))
  k_with "my ne" => (refine neN ?_; (try dsimp only); first | assumption | exact Nat.ne_of_lt (by assumption) | exact Nat.ne_of_gt (by assumption) | exact Ne.symm (by assumption))
  k_with "execs cons" => (k_here; (refine gen_toks ?_); intro tk9; (try dsimp only); refine wpAny_execs_cons ?_)
  k_with "eval BinOp" => (k_dflt (k_fold; walk1))
  k_with "eval Call" => (k_dflt (k_fold; walk1))
  k_with "eval Subscript" => (k_dflt (k_fold; walk1))
  k_with "eval List" => (k_dflt (k_fold; walk1))
  k_with "eval Tuple" => (k_dflt (k_fold; walk1))
  k_with "eval IfExp" => (k_dflt (k_fold; walk1))
  k_with "spliced" => (k_dflt (k_fold; walk1))
  k_with "eval Compare" => (k_dflt (k_fold; walk1))
  k_with "eval Call Attribute" => (k_dflt (k_fold; walk1))
  k_with "call ref" => (k_here; (with_reducible show wpAny _ _ (call (Value.ref 117) _) _ _ _); k_dflt (refine' Fn.use (told_u ?hx ?hdx ?ho) ?B ?F ?X ?N ?T ?hk ?hd ?hu ?_; (case N => k_asm); (case hx => k_mem); (case hdx => k_mem); (case ho => first | assumption | exact isFl_mk rfl rfl rfl rfl rfl rfl rfl); walk_at "my use2"); intro v9 x9 h9 tk9 P9 F9 N9; (obtain ⟨l9, ta9, tb9, tc9, td9, te9, tf9, tg9, f9, e9, lt9⟩ := P9); subst e9; (replace f9 := Eq.symm f9); subst f9; (try k_lt lt9); (try k_sweep))
  k_fill
  intro X
  conv =>
    arg 3
    arg 1
    whnf
  have eS : lawScope = lawScope := rfl
  conv at eS =>
    rhs
    whnf
  rw [eS]
  clear eS
  k_steps
  all_goals (first
    | exact absurd rfl (by assumption)
    | ((rename News _ _ _ _ => nE)
       have nT := News.tail' (News.tail' (News.tail' (News.tail' nE)))
       exact hcont _ _ (by assumption) nT))

def JJ (w : World) (L x dx pl : Addr) (co : Obj) (i : Nat) (m : Str → Option Value) (nx : List (Addr × Obj)) : Prop :=
  ∃ (rl : Addr) (o po : Obj) (c p a z s f d : Int) (t1 t2 t3 t4 t5 t6 t7 : Tok) (n : Nat),
    nx = [(x, instObj 169 dx), (dx, o), (pl, po), (L + 1, co), (rl, rowL c p a z s f d t1 t2 t3 t4 t5 t6 t7 n)] ∧ IsFl w o c p a z s f d ∧ IsPen po (7 + 10 * (i : Int)) ∧
    (0 ≤ c ∧ c ≤ 1) ∧ (0 ≤ p ∧ p ≤ 1) ∧ (0 ≤ a ∧ a ≤ 1) ∧ (0 ≤ z ∧ z ≤ 1) ∧ (0 ≤ s ∧ s ≤ 1) ∧ (0 ≤ f ∧ f ≤ 1) ∧ (0 ≤ d ∧ d ≤ 1) ∧
    m (Str.ofString "flags") = some (.ref x) ∧ m (Str.ofString "row") = some (.ref rl) ∧ @Ne Nat dx rl ∧ @Ne Nat pl rl
theorem fr_two {H h : Heap} {L : Addr} {m : Str → Option Value} {v1 v2 v : Value} (F : Fr H L h (fun y => if y = Str.ofString "turn" then some v else m y)) (h1 : m (Str.ofString "flags") = some v1) (h2 : m (Str.ofString "row") = some v2) :
    Fr H L h (fun y => if y = Str.ofString "flags" then some v1 else if y = Str.ofString "row" then some v2 else (fun y => if y = Str.ofString "turn" then some v else m y) y) := by
  have e : (fun y => if y = Str.ofString "flags" then some v1 else if y = Str.ofString "row" then some v2 else (fun y => if y = Str.ofString "turn" then some v else m y) y) = (fun y => if y = Str.ofString "turn" then some v else m y) := by
    funext y
    by_cases e1 : y = Str.ofString "flags"
    · subst e1
      rw [if_pos rfl, if_neg (by decide), h1]
    · rw [if_neg e1]
      by_cases e2 : y = Str.ofString "row"
      · subst e2
        rw [if_pos rfl, if_neg (by decide), h2]
      · rw [if_neg e2]
  rw [e]
  exact F
theorem allLt_mem {r : Addr} : ∀ {own : List (Addr × Obj)}, AllLt r own → ∀ q ∈ own, q.1 < r
  | [], _, _, h => nomatch h
  | _ :: _, x, q, h => by
    rcases List.mem_cons.mp h with rfl | h
    · exact x.1
    · exact allLt_mem x.2 q h
set_option maxHeartbeats 4000000 in
theorem turn_c (w : World) (mean : ExcName → Option Value) (mg mb : Str → Option Value) (H : Heap) (L fa : Addr) (cd : Value) (x dx pl : Addr) (co : Obj) (i : Nat) (k : Int) (t : Tok) (m : Str → Option Value) (nx own : List (Addr × Obj)) (st : Shared) (Q : Flow → Shared → Prop) (E : Value → Shared → Prop)
    (B : Below callerA H [] H) (X : (hd.heap_1 w.params).In H) (T : Top view (looseW view [Str.ofString "MintError"]) mean mg mb H)
    (hi : i < 10) (hco : co.data = .cell (some (.ref pl))) (n1 : @Ne Nat dx x) (n2 : @Ne Nat dx pl) (n3 : @Ne Nat dx (L + 1)) (n4 : @Ne Nat pl x) (n5 : @Ne Nat pl (L + 1))
    (J : JJ w L x dx pl co i m nx) (off : OwnOff own (nx.map (·.1)))
    (F : Fr H L st.heap (fun y => if y = Str.ofString "turn" then some (.int k t) else m y)) (N : News H L st.heap (nx ++ own)) :
    wpAny (model PySem.Challenge.rw_qz0047_01.row.prog w) (lawA L fa cd) (execs turnBody (envOfC (Str.ofString "law") lawScope L fa cd)) (InvPostG H L (JJ w L x dx pl co (i + 1)) own st Q) E st := by
  obtain ⟨rl, o, po, c, p, a, z, s, f, d, t1, t2, t3, t4, t5, t6, t7, n, rfl, ho, hp, bc, bp, ba, bz, bs, bf, bd, m1, m2, n6, n7⟩ := J
  rw [turnBody_eq]
  refine ph1 w mean mg mb H L fa cd (part2 part3) x dx pl rl o po co c p a z s f d t1 t2 t3 t4 t5 t6 t7 n own (7 + 10 * (i : Int)) _ st _ E B X T (fr_two F m1 m2) N hco ho hp (by omega) bc bp ba bz bs bf bd n4 n2.symm n5 n7 (off.ne (by simp)) ?_
  intro size W way u v one two wh xb db ob pb s1 s2 s3 s4 s5 s6 s7 h1 tk1 hs w0 w1 hob hpb e1 e2 e3 l1 l2 F1 N1
  subst e1; subst e2; subst e3
  have off' : ∀ q ∈ own, q.1 ≠ dx := off.ne (by simp)
  have fin : Cont2 w H L fa cd part3 { st with heap := h1, toks := tk1 } (InvPostG H L (JJ w L x dx pl co (i + 1)) own st Q) E xb db x dx pl rl ob pb co (rowL c p a z s f d t1 t2 t3 t4 t5 t6 t7 n) d own := by
    intro r ta tb r2 o' c' p' a' z' s' f' u1 u2 u3 u4 u5 u6 u7 nn m' h2 tk2 ho' bc' bp' ba' bz' bs' bf' q1 q2 q3 q4 q5 q6 l3 F2 N2
    refine ph3 w mean mg mb H L fa cd xb db x dx pl rl r2 ob o' pb co c p a z s f c' p' a' z' s' f' d t1 t2 t3 t4 t5 t6 t7 n u1 u2 u3 u4 u5 u6 u7 nn own m' _ _ E r ta tb B X T (fr_exp F2 q1 q2 q3 q4 q5 q6) N2 ho' hob ?_
    intro h3 tk3 F3 N3
    have hJ : JJ w L x dx pl co (i + 1) (fun y => if y = Str.ofString "told" then some (.int r ta) else if y = Str.ofString "due" then some (.int r tb) else if y = Str.ofString "row" then some (.ref r2) else if y = Str.ofString "flags" then some (.ref x) else if y = Str.ofString "kept" then some (.ref xb) else if y = Str.ofString "before" then some (.ref rl) else m' y)
        [(x, instObj 169 dx), (dx, o'), (pl, pb), (L + 1, co), (r2, rowL c' p' a' z' s' f' d u1 u2 u3 u4 u5 u6 u7 nn)] := by
      refine ⟨r2, o', pb, c', p', a', z', s', f', d, u1, u2, u3, u4, u5, u6, u7, nn, rfl, ho', ?_, bc', bp', ba', bz', bs', bf', bd, rfl, rfl, ?_, ?_⟩
      · have e : (7 + 10 * ((i + 1 : Nat) : Int)) = 7 + 10 * (i : Int) + 10 := by omega
        rw [e]
        exact hpb
      · exact Nat.ne_of_lt l3.2.2.2.1
      · exact Nat.ne_of_lt l3.2.2.2.2.1
    refine InvEndG.intro (s₁ := st) F3 N3 hJ ?_ ?_ ?_
    · intro q hq b hb
      have hr2 : q.1 ≠ r2 := Nat.ne_of_lt (allLt_mem l3.2.2.2.2.2.2.2 q hq)
      simp only [List.map_cons, List.map_nil, List.mem_cons, List.not_mem_nil, or_false] at hb
      rcases hb with rfl | rfl | rfl | rfl | rfl
      · exact off q hq _ (by simp)
      · exact off q hq _ (by simp)
      · exact off q hq _ (by simp)
      · exact off q hq _ (by simp)
      · exact hr2
    · intro q hq
      simp only [List.mem_cons, List.not_mem_nil, or_false] at hq
      simp only [List.mem_cons]
      rcases hq with rfl | rfl | rfl | rfl | rfl <;> simp
    · intro q hq
      simp only [List.mem_cons]
      simp [hq]
  have hw : way = 0 ∨ way = 1 ∨ way = 2 ∨ way = 3 ∨ way = 4 ∨ way = 5 ∨ way = 6 := by omega
  rcases hw with rfl | rfl | rfl | rfl | rfl | rfl | rfl
  · exact ph2_0 w mean mg mb H L fa cd part3 xb db x dx pl rl ob o pb co c p a z s f d t1 t2 t3 t4 t5 t6 t7 n own _ _ _ E size wh u v s1 s2 s3 s4 s5 s6 s7 B X T F1 N1 hs ho bc bp ba bz bs bf n1 n2 n3 n6 off' l1 l2 fin
  · exact ph2_1 w mean mg mb H L fa cd part3 xb db x dx pl rl ob o pb co c p a z s f d t1 t2 t3 t4 t5 t6 t7 n own _ _ _ E size wh u v s1 s2 s3 s4 s5 s6 s7 B X T F1 N1 hs ho bc bp ba bz bs bf n1 n2 n3 n6 off' l1 l2 fin
  · exact ph2_2 w mean mg mb H L fa cd part3 xb db x dx pl rl ob o pb co c p a z s f d t1 t2 t3 t4 t5 t6 t7 n own _ _ _ E size wh u v s1 s2 s3 s4 s5 s6 s7 B X T F1 N1 hs ho bc bp ba bz bs bf n1 n2 n3 n6 off' l1 l2 fin
  · exact ph2_3 w mean mg mb H L fa cd part3 xb db x dx pl rl ob o pb co c p a z s f d t1 t2 t3 t4 t5 t6 t7 n own _ _ _ E size wh u v s1 s2 s3 s4 s5 s6 s7 B X T F1 N1 hs ho bc bp ba bz bs bf n1 n2 n3 n6 off' l1 l2 fin
  · exact ph2_4 w mean mg mb H L fa cd part3 xb db x dx pl rl ob o pb co c p a z s f d t1 t2 t3 t4 t5 t6 t7 n own _ _ _ E size wh u v s1 s2 s3 s4 s5 s6 s7 B X T F1 N1 hs ho bc bp ba bz bs bf n1 n2 n3 n6 off' l1 l2 fin
  · exact ph2_5 w mean mg mb H L fa cd part3 xb db x dx pl rl ob o pb co c p a z s f d t1 t2 t3 t4 t5 t6 t7 n own _ _ _ E size wh u v s1 s2 s3 s4 s5 s6 s7 B X T F1 N1 hs ho bc bp ba bz bs bf n1 n2 n3 n6 off' l1 l2 fin
  · exact ph2_6 w mean mg mb H L fa cd part3 xb db x dx pl rl ob o pb co c p a z s f d t1 t2 t3 t4 t5 t6 t7 n own _ _ _ E size wh u v s1 s2 s3 s4 s5 s6 s7 B X T F1 N1 hs ho bc bp ba bz bs bf n1 n2 n3 n6 off' l1 l2 fin

section
variable {prog : Program} {w : World} {A : Around} {E : Value → Shared → Prop} {s : Shared} {env : Env} {h₀ : Heap} {x : Str} {body : List Stmt} {Q : Flow → Shared → Prop}
theorem my_range {r : Addr} {a₀ b₀ : Int} {t₀ u₀ v₀ : Tok} {n : Nat} {m₀ : Str → Option Value} {news : List (Addr × Obj)} (J : Nat → (Str → Option Value) → List (Addr × Obj) → Prop)
    (hh : A.handled = none) (hr : IsRange s.heap r a₀ b₀ 1 t₀ u₀ v₀) (hsmall : Builtin.Range.small a₀ b₀ 1 = true) (hsz : Builtin.Range.rangeSize a₀ b₀ 1 = (n : Int)) (F : Fr h₀ env.locals s.heap m₀) (N : News h₀ env.locals s.heap news) (hj : J 0 m₀ news)
    (turn : ∀ i (k : Int) t m₁ nx h tk own, i < n → OwnOff own (nx.map (·.1)) → J i m₁ nx → Fr h₀ env.locals h (fun y => if y = x then some (.int k t) else m₁ y) → News h₀ env.locals h (nx ++ own) →
      wpAny (model prog w) A (execs body env) (InvPostG h₀ env.locals (J (i + 1)) own { s with heap := h, toks := tk } Q) E { s with heap := h, toks := tk })
    (done : ∀ m₁ nx h tk, J n m₁ nx → Fr h₀ env.locals h m₁ → News h₀ env.locals h nx → Q .next { s with heap := h, toks := tk }) :
    wpAny (model prog w) A (pyIter (.ref r)) (fun it s₂ => LoopAtV prog w A h₀ env x body Q E it s₂) E s := by
  refine wpAny_pyIter_range hr hsmall ?_
  have W : Walks prog w A s.heap.objs.size [s.heap.objs.size] [s.heap.objs.size] n (fun i v => i < n ∧ ∃ t, v = .int (a₀ + i * 1) t)
      (fun i h => IsRangeIter h s.heap.objs.size (a₀ + (i : Nat) * 1) ((n : Int) - (i : Nat)) 1) := (Walks.range hh _ a₀ 1 n).bound
  refine kdr_loop J W (fun _ h => h) (fun _ h => h) ?_ ?_ ?_ ?_ (by show IsRangeIter _ _ _ _ _; rw [hsz]; simpa using Heap.get?_push_size _ rfl) (F.push _) (fun p hp => ⟨Heap.get?_push_of_some _ (N p hp).1, (N p hp).2⟩) hj ?_ ?_
  · intro i h hi b hb
    rw [List.mem_singleton.mp hb]
    exact ⟨_, hi⟩
  · intro hm
    exact absurd F.ns.lt ((List.mem_singleton.mp hm) ▸ Nat.lt_irrefl _)
  · intro b hb
    rw [List.mem_singleton.mp hb]
    exact next_is_new F
  · intro p hp hI
    exact absurd (Heap.lt_size (N p hp).1) ((List.mem_singleton.mp hI) ▸ Nat.lt_irrefl _)
  · rintro i v m₁ nx h tk own hi ⟨_, t, rfl⟩ hoff hJ F₁ N₁
    exact turn i _ t m₁ nx h tk own hi hoff hJ F₁ N₁
  · rintro m₁ nx h tk hJ F₁ N₁
    exact done m₁ nx h tk hJ F₁ N₁
end
theorem law_loop {w : World} {mean : ExcName → Option Value} {mg mb : Str → Option Value} {H : Heap} {L fa : Addr} {cd : Value} {x dx pl rl r : Addr} {o po co : Obj} {c p a z s f d : Int} {t1 t2 t3 t4 t5 t6 t7 : Tok} {n : Nat} {news : List (Addr × Obj)} {m : Str → Option Value} {st : Shared} {Q : Flow → Shared → Prop} {E : Value → Shared → Prop} {t₀ u₀ v₀ : Tok}
    (F : Fr H L st.heap m) (hr : IsRange st.heap r 0 10 1 t₀ u₀ v₀) (N : News H L st.heap news)
    (B : Below callerA H [] H) (X : (hd.heap_1 w.params).In H) (T : Top view (looseW view [Str.ofString "MintError"]) mean mg mb H)
    (m1 : m (Str.ofString "flags") = some (.ref x)) (m2 : m (Str.ofString "row") = some (.ref rl))
    (i1 : (x, instObj 169 dx) ∈ news) (i2 : (dx, o) ∈ news) (i4 : (L + 1, co) ∈ news) (hco : co.data = .cell (some (.ref pl))) (i3 : (pl, po) ∈ news) (i5 : (rl, rowL c p a z s f d t1 t2 t3 t4 t5 t6 t7 n) ∈ news)
    (ho : IsFl w o c p a z s f d) (hp : IsPen po 7)
    (bc : 0 ≤ c ∧ c ≤ 1) (bp : 0 ≤ p ∧ p ≤ 1) (ba : 0 ≤ a ∧ a ≤ 1) (bz : 0 ≤ z ∧ z ≤ 1) (bs : 0 ≤ s ∧ s ≤ 1) (bf : 0 ≤ f ∧ f ≤ 1) (bd : 0 ≤ d ∧ d ≤ 1)
    (n1 : @Ne Nat dx x) (n2 : @Ne Nat dx pl) (n3 : @Ne Nat dx (L + 1)) (n4 : @Ne Nat pl x) (n5 : @Ne Nat pl (L + 1)) (n6 : @Ne Nat dx rl) (n7 : @Ne Nat pl rl)
    (done : ∀ (m' : Str → Option Value) (nx : List (Addr × Obj)) (h : Heap) (tk : Nat), Fr H L h m' → News H L h nx → Q .next { st with heap := h, toks := tk }) :
    wpAny (model PySem.Challenge.rw_qz0047_01.row.prog w) (lawA L fa cd) (pyIter (.ref r)) (fun it s₂ => LoopAtV PySem.Challenge.rw_qz0047_01.row.prog w (lawA L fa cd) H (envOfC (Str.ofString "law") lawScope L fa cd) (Str.ofString "turn") turnBody Q E it s₂) E st := by
  refine my_range (n := 10) (news := [(x, instObj 169 dx), (dx, o), (pl, po), (L + 1, co), (rl, rowL c p a z s f d t1 t2 t3 t4 t5 t6 t7 n)]) (JJ w L x dx pl co) rfl hr (by decide) (by decide) F ?_ ?_ ?_ ?_
  · intro q hq
    simp only [List.mem_cons, List.not_mem_nil, or_false] at hq
    rcases hq with rfl | rfl | rfl | rfl | rfl
    · exact N _ i1
    · exact N _ i2
    · exact N _ i3
    · exact N _ i4
    · exact N _ i5
  · exact ⟨rl, o, po, c, p, a, z, s, f, d, t1, t2, t3, t4, t5, t6, t7, n, rfl, ho, hp, bc, bp, ba, bz, bs, bf, bd, m1, m2, n6, n7⟩
  · intro i k t m₁ nx h tk own hi off J F₁ N₁
    exact turn_c w mean mg mb H L fa cd x dx pl co i k t m₁ nx own _ Q E B X T hi hco n1 n2 n3 n4 n5 J off F₁ N₁
  · intro m₁ nx h tk _ F₁ N₁
    exact done m₁ nx h tk F₁ N₁

def RowIs (i : Nat) (ys : List Value) : Prop := ∃ ns : List Int, IntsAre ys ns ∧ ns.length = i ∧ ∀ k ∈ ns, 0 ≤ k ∧ k ≤ 1
theorem RowIs.more {i : Nat} {ys : List Value} {r : Int} {t : Tok} (h : RowIs i ys) (h0 : 0 ≤ r) (h1 : r < 2) : RowIs (i + 1) (ys ++ [.int r t]) := by
  obtain ⟨ns, a, b, c⟩ := h
  refine ⟨ns ++ [r], a.append (.cons r t .nil), by rw [List.length_append, b]; rfl, fun k hk => ?_⟩
  rcases List.mem_append.mp hk with hk | hk
  · exact c k hk
  · rw [List.mem_singleton.mp hk]
    omega
theorem row_one {i : Nat} {ys : List Value} {ns : List Int} (a : IntsAre ys ns) (b : ns.length = i + 1) (c : ∀ k ∈ ns, 0 ≤ k ∧ k ≤ 1) : ∃ r t ys' ns', ys = Value.int r t :: ys' ∧ (0 ≤ r ∧ r ≤ 1) ∧ IntsAre ys' ns' ∧ ns'.length = i ∧ ∀ k ∈ ns', 0 ≤ k ∧ k ≤ 1 := by
  cases a with
  | nil => cases b
  | cons r t h => exact ⟨r, t, _, _, rfl, c r (.head _), h, Nat.succ.inj b, fun k hk => c k (.tail _ hk)⟩
theorem RowIs.seven {ys : List Value} (h : RowIs 7 ys) : ∃ (c p a z s f d : Int) (t1 t2 t3 t4 t5 t6 t7 : Tok), ys = [Value.int c t1, Value.int p t2, Value.int a t3, Value.int z t4, Value.int s t5, Value.int f t6, Value.int d t7] ∧
    (0 ≤ c ∧ c ≤ 1) ∧ (0 ≤ p ∧ p ≤ 1) ∧ (0 ≤ a ∧ a ≤ 1) ∧ (0 ≤ z ∧ z ≤ 1) ∧ (0 ≤ s ∧ s ≤ 1) ∧ (0 ≤ f ∧ f ≤ 1) ∧ (0 ≤ d ∧ d ≤ 1) := by
  obtain ⟨ns, a, b, c⟩ := h
  obtain ⟨r1, t1, ys, ns, rfl, b1, a, b, c⟩ := row_one a b c
  obtain ⟨r2, t2, ys, ns, rfl, b2, a, b, c⟩ := row_one a b c
  obtain ⟨r3, t3, ys, ns, rfl, b3, a, b, c⟩ := row_one a b c
  obtain ⟨r4, t4, ys, ns, rfl, b4, a, b, c⟩ := row_one a b c
  obtain ⟨r5, t5, ys, ns, rfl, b5, a, b, c⟩ := row_one a b c
  obtain ⟨r6, t6, ys, ns, rfl, b6, a, b, c⟩ := row_one a b c
  obtain ⟨r7, t7, ys, ns, rfl, b7, a, b, c⟩ := row_one a b c
  cases a with
  | nil => exact ⟨r1, r2, r3, r4, r5, r6, r7, t1, t2, t3, t4, t5, t6, t7, rfl, b1, b2, b3, b4, b5, b6, b7⟩
  | cons => cases b
section
variable {prog : Program} {w : World} {A : Around} {h₀ : Heap} {L : Addr} {m : Str → Option Value} {env : Env} {elt : Expr} {x : Str} {scope : Scope} {cl : List (Str × Addr)} {s : Shared} {S : List (Addr × Obj) → Prop} {P : Nat → Value → Prop} {Fin : List Value → List (Addr × Obj) → Prop}
theorem row_comp {q1 q2 q3 : Addr × Obj} {pl : Addr} {po : Obj} {rest : List (Addr × Obj)} (h0 : IsPen po 0)
    (turn : ∀ (k : Int) ys po' v I oI C oC D m₂ h tk (E' : Value → Shared → Prop), k < 7 → IsPen po' k → P ys.length v → LCg.NsObj oC m₂ → m₂ x = some v → Fr h₀ L h m → News h₀ L h ((I, oI) :: (C, oC) :: (D, LCg.lst ys) :: q1 :: q2 :: q3 :: (pl, po') :: rest) → LCg.Off3 I C D (q1 :: q2 :: q3 :: (pl, po') :: rest) → @Ne Nat pl I → @Ne Nat pl C → @Ne Nat pl D →
      wpAny (model prog w) A (eval elt (compEnvC scope cl C env)) (LCg.CompEnd h₀ L m { s with heap := h, toks := tk } I oI C oC D (LCg.lst ys) S (fun y nw => ∃ po'', nw = q1 :: q2 :: q3 :: (pl, po'') :: rest ∧ IsPen po'' (k + 1) ∧ ∃ r t, y = .int r t ∧ 0 ≤ r ∧ r < 2)) E' { s with heap := h, toks := tk })
    (fin : ∀ (c p a z s f d : Int) (t1 t2 t3 t4 t5 t6 t7 : Tok) po', IsPen po' 7 → (0 ≤ c ∧ c ≤ 1) → (0 ≤ p ∧ p ≤ 1) → (0 ≤ a ∧ a ≤ 1) → (0 ≤ z ∧ z ≤ 1) → (0 ≤ s ∧ s ≤ 1) → (0 ≤ f ∧ f ≤ 1) → (0 ≤ d ∧ d ≤ 1) →
      Fin [Value.int c t1, Value.int p t2, Value.int a t3, Value.int z t4, Value.int s t5, Value.int f t6, Value.int d t7] (q1 :: q2 :: q3 :: (pl, po') :: rest)) :
    LCg.CompRest prog w A h₀ L m env elt x scope cl s S P Fin 7 0 [] (q1 :: q2 :: q3 :: (pl, po) :: rest) := by
  have key : ∀ (j i : Nat) (ys : List Value) (po' : Obj), i + j = 7 → ys.length = i → IsPen po' (i : Int) → RowIs i ys → LCg.CompRest prog w A h₀ L m env elt x scope cl s S P Fin j i ys (q1 :: q2 :: q3 :: (pl, po') :: rest) := by
    intro j
    induction j with
    | zero =>
      intro i ys po' hi hl hp hy
      have e : i = 7 := by omega
      subst e
      obtain ⟨c, p, a, z, s', f, d, t1, t2, t3, t4, t5, t6, t7, rfl, b1, b2, b3, b4, b5, b6, b7⟩ := hy.seven
      exact LCg.CompRest.zero (fin c p a z s' f d t1 t2 t3 t4 t5 t6 t7 po' hp b1 b2 b3 b4 b5 b6 b7)
    | succ j ih =>
      intro i ys po' hi hl hp hy
      refine LCg.CompRest.succ ?_
      intro v I oI C oC D m₂ h tk E' hv hC hx F N off ne
      have o4 := off.2.2.2.1
      refine wpAny_mono (turn (i : Int) ys po' v I oI C oC D m₂ h tk E' (by omega) hp (by rw [hl]; exact hv) hC hx F N off o4.1 o4.2.1 o4.2.2) (fun y s₂ hq => ?_) fun _ _ e => e
      obtain ⟨h', tk', nw, e, F', N', off', hS, po'', rfl, hp'', r, t, rfl, r0, r1⟩ := hq
      refine ⟨h', tk', _, e, F', N', off', hS, ?_⟩
      have e : ((i + 1 : Nat) : Int) = (i : Int) + 1 := by omega
      exact ih (i + 1) _ po'' (by omega) (by rw [List.length_append, hl, List.length_singleton]) (e ▸ hp'') (hy.more r0 r1)
  exact key 7 0 [] po rfl rfl h0 ⟨[], .nil, rfl, fun _ h => nomatch h⟩
end

set_option maxRecDepth 100000 in
set_option maxHeartbeats 8000000 in
theorem law_holds : PySem.Challenge.rw_qz0047_01.Holds := by
  k_with_none
  k_with "my room" => ((try dsimp only [depth_under_make, depth_under_kw, depth_in1, depth_deeper, depth_caller, ktrTop]); first | ((with_reducible rename _ + _ < recursionLimit => hRoom9); first | exact room2 hRoom9 rfl | exact room3 hRoom9 rfl | exact room1 hRoom9 rfl | exact room0 hRoom9) | decide)
  k_with "my units" => ((try dsimp only [units_in1, units_deeper, units_under_make, units_caller, ktrTop]); first | ((with_reducible rename _ + _ < cLine => hUnits9); first | exact room2 hUnits9 rfl | exact room3 hUnits9 rfl | exact room1 hUnits9 rfl | exact room0 hUnits9) | decide)
  k_with "subscriptTail Name Constant ref int" => (k_here; (with_reducible show wpAny _ _ (subscriptTail _ _ (Value.ref _) (Value.int _ _)) _ _ _); k_dflt (refine' my_item ?k1 ?k2 ?k3 ?k4 ?k5 ?_ ?k6; (case k1 => k_asm); (case k2 => k_mem); (case k3 => decide); (case k4 => decide); (case k5 => rfl); (case k6 => with_unfolding_all rfl); k_whole))
  k_with "binaryOp FloorDiv int int" => (k_here; (with_reducible refine floordiv_int ?kbe ?_ (Or.inl (PyProof.noPylong_of_log2 ?kbp))); (case kbe => first | decide | omega); (case kbp => (first | decide +kernel | exact my_log (by omega) (by omega))))
  k_with "my use" => ((case B => k_asm); (case F => k_asm); (case X => k_asm); (case N => k_asm); (case T => k_asm); (case hk => first | exact rfl | assumption); (case hd => walk_at "my room"); (case hu => walk_at "my units"); k_whole)
  k_with "my use2" => ((case B => k_asm); (case F => k_asm); (case X => k_asm); (case T => k_asm); (case hk => first | exact rfl | assumption); (case hd => walk_at "my room"); (case hu => walk_at "my units"); k_whole)
  k_with "binaryOp LShift int int" => (k_here; (with_reducible refine lshift_int_small ?kb1 ?kb2 ?kb3 ?_); (case kb1 => first | decide | omega); (case kb2 => first | decide | omega); (case kb3 => first | decide | exact bit_nat (by assumption) | omega))
  k_with "my enterC" => (refine' code_defC ?k1 ?k2 ?k3 ?k4 ?k5 ?kA ?kF ?kK ?k6 ?k7 ?k8 ?k9 ?kB ?kD ?_ ?c2 ?c3 ?c4; (case kA => exact rfl); (case kF => exact rfl); (case kK => assumption); (case k1 => k_asm); (case k2 => k_asm); (case k3 => k_asm); (case k4 => k_asm); (case k5 => k_asm); (case k6 => k_is); (case k7 => k_is); (case k8 => walk_at "my room"); (case k9 => exact BindsTo.of_eq rfl); (case kB => exact rfl); (case kD => decide +kernel); (case c2 => exact rfl); (case c3 => exact rfl); (case c4 => exact rfl); k_whole; intro g' L' h' tk' cells' FG' F' N' Y' B' X' T' l1; (try k_lt l1); k_cells Y'; (try simp only [List.cons_append, List.nil_append] at N'); (try dsimp only); (try k_lift B'); (try k_fold))
  k_with "my all" => (first | with_reducible assumption | exact my_ne1 (by with_reducible assumption) | (refine my_ne2 ?_; first | with_reducible assumption | exact And.right (by with_reducible assumption) | exact And.right (And.right (by with_reducible assumption)) | exact And.right (And.right (And.right (by with_reducible assumption)))))
  k_with "my ne" => (refine neN ?_; (try dsimp only); first | assumption | exact Nat.ne_of_lt (by assumption) | exact Nat.ne_of_gt (by assumption) | exact Ne.symm (by assumption))
  k_with "execs cons" => (k_here; (refine gen_toks ?_); intro tk9; (try dsimp only); refine wpAny_execs_cons ?_)
  k_with "eval BinOp" => (k_dflt (k_fold; walk1))
  k_with "eval Call" => (k_dflt (k_fold; walk1))
  k_with "eval Subscript" => (k_dflt (k_fold; walk1))
  k_with "eval List" => (k_dflt (k_fold; walk1))
  k_with "eval Tuple" => (k_dflt (k_fold; walk1))
  k_with "eval IfExp" => (k_dflt (k_fold; walk1))
  k_with "spliced" => (k_dflt (k_fold; walk1))
  k_with "eval Compare" => (k_dflt (k_fold; walk1))
  k_with "eval Call Attribute" => (k_dflt (k_fold; walk1))
  k_with "call ref" => (k_here; (with_reducible show wpAny _ _ (call (Value.ref 243) [Value.ref _, Value.int _ _]) _ _ _); k_dflt (refine' Fn.use (take_u ?U ?hp ?hkk ?hm0 ?hm1) ?B ?F ?X ?N ?T ?hk ?hd ?hu ?_; (case N => k_asm); (case U => k_updF); (case hp => assumption); (case hkk => omega); (case hm0 => omega); (case hm1 => omega); walk_at "my use2"); intro v9 x9 h9 tk9 P9 F9 N9; (obtain ⟨o9, f9, ⟨r9, t9, e9, q9, s9⟩, g9⟩ := P9); subst e9; (replace f9 := Eq.symm f9); subst f9; (try dsimp only at N9); (try k_sweep))
  k_with "call ref" => (k_here; (with_reducible show wpAny _ _ (call (Value.ref 236) [Value.ref _]) _ _ _); k_dflt (refine' pen_c _ _ _ _ _ _ _ _ ?hi ?hlen _ _ _ _ _ _ _ _ _ _ _ _ _ _ _ _ _ ?hl ?B ?F ?X ?N ?T ?hk ?hd ?hu ?_; (case hl => k_asm); (case hi => assumption); (case hlen => omega); walk_at "my use"); intro p9 o9 h9 tk9 P9 lt9 F9 N9; (try k_lt lt9); (try k_sweep))
  k_with "call ref" => (k_here; (with_reducible show wpAny _ _ (call (Value.ref 169) _) _ _ _); k_dflt (refine' Fn.use (mk_c _ _ _ _ _) ?B ?F ?X ?N ?T ?hk ?hd ?hu ?_; walk_at "my use"); intro v9 x9 h9 tk9 P9 F9 N9; (obtain ⟨xa9, da9, oa9, f9, e9, lta9, ltb9, g9⟩ := P9); subst e9; (replace f9 := Eq.symm f9); subst f9; (try k_lt lta9); (try k_lt2 ltb9); (unfold IsFl at g9); (obtain ⟨ka, va, q9⟩ := g9); subst q9; (try k_sweep))
  k_with "CompSrc" => (k_here; k_dflt (refine LCg.CompSrc.range (by rfl) (by k_asm) (by k_asm) (by assumption) (by first | decide | rfl) (by first | rfl | decide) (by first | size_fits | exact Nat.le_of_ble_eq_true rfl) ?_; intro g'; lcg_lit))
  k_with "exec For Name Call cons nil" => (k_here; (rename Fr _ _ _ _ => lF'); (with_unfolding_all refine' For_invVF lF' ?k1 ?k2 ?_; (case k1 => exact rfl); (case k2 => exact rfl); k_whole))
  k_with "pyIter ref" => (k_here; (with_reducible show wpAny _ _ (pyIter (Value.ref _)) (fun it s₂ => LoopAtV _ _ _ _ _ _ _ _ _ it s₂) _ _); (rename Fr _ _ _ _ => lF'); (rename IsRange _ _ _ _ _ _ _ _ => rgX); k_dflt (refine' law_loop lF' rgX ?N ?B ?X ?T ?m1 ?m2 ?i1 ?i2 ?i4 ?hco ?i3 ?i5 ?ho ?hp ?bc ?bp ?ba ?bz ?bs ?bf ?bd ?n1 ?n2 ?n3 ?n4 ?n5 ?n6 ?n7 ?done; (case N => k_asm); (case B => k_asm); (case X => k_asm); (case T => k_asm); (case m1 => exact rfl); (case m2 => exact rfl); (case i1 => k_mem); (case i2 => k_mem); (case i4 => k_mem); (case hco => assumption); (case i3 => k_mem); (case i5 => k_mem); (case ho => exact isFl_mk rfl rfl rfl rfl rfl rfl rfl); (case hp => assumption); (case bc => assumption); (case bp => assumption); (case ba => assumption); (case bz => assumption); (case bs => assumption); (case bf => assumption); (case bd => assumption); (case n1 => k_ne); (case n2 => k_ne); (case n3 => k_ne); (case n4 => k_ne); (case n5 => k_ne); (case n6 => k_ne); (case n7 => k_ne)); intro m9 nx9 h9 tk9 F9 N9; (try k_sweep))
  k_with "CompRest" => (k_here; (with_unfolding_all refine' row_comp ?h0 (fun kq ysq poq vq Iq oIq Cq oCq Dq m2q hq tkq Kq lt9 g9 v9 hC9 hx9 F9 N9 off9 nI9 nC9 nD9 => ?_) (fun cq pq aq zq sq fq dq t1q t2q t3q t4q t5q t6q t7q poq g9 b1 b2 b3 b4 b5 b6 b7 => ?_)); (case h0 => assumption))
  k_with "CompEnd" => (k_here; (rename News _ _ _ _ => nE9); k_dflt (refine' LCg.CompEnd.intro (by assumption) nE9 _ (fun _ hp => hp) ?off ?S ⟨_, rfl, ?g, _, _, rfl, ?r0, ?r1⟩); (case off => k_dflt assumption); (case S => trivial); (case g => assumption); (case r0 => assumption); (case r1 => assumption))
  k_with "FinA" => ((unfold LCg.FinA); intro D' h' tk' F' N' o1'; (simp only [LCg.Off1, and_true] at o1'); (have hq9 := o1'); (repeat ((have hp9 := And.left hq9); replace hq9 := And.right hq9)); (try simp only [List.nil_append, List.cons_append] at N'); (try dsimp only))
  exact hd (by k_go)

end Mine
theorem PySem.Challenge.cw_qz0047_01_holds : PySem.Challenge.rw_qz0047_01.Holds := by
  exact Mine.law_holds
