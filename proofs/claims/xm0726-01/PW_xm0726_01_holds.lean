import PyProof.Rows.All
import Wide.All
import OpenK.AllK
import Wide.FinOn
import Lean
import PySem.Challenge.RW_xm0726_01
open PySem PySem.W PyProof.Rows
set_option Elab.async false
namespace Mine
section PartHW2
def vw : Program := view PySem.Challenge.rw_xm0726_01.row.prog [0, 2, 4, 5, 7, 8, 9, 11, 13, 14, 16, 18, 19, 21, 22, 23, 24, 25]
def topRunT (tb : String → Option Builtin) (p : Program) (w : World) (n₀ : Nat) (ann : Option Value) : Nat → SharedT → Thread → Option SharedT
  | 0, _, _ => none
  | n + 1, s, t => match through t with
    | true => some s
    | false => match stepOk n₀ ann t with
      | false => none
      | true => match stepT (denote tb) p w s t with
        | some (s', t') => topRunT tb p w n₀ ann n s' t'
        | none => none
theorem topRun_of {tb : String → Option Builtin} {p : Program} {w : World} {n₀ : Nat} {ann : Option Value} : ∀ {n : Nat} {s s' : SharedT} {t : Thread}, topRunT tb p w n₀ ann n s t = some s' → topRun tb p w n₀ ann n s.abs t = some s'.abs
  | 0, _, _, _, h => by cases h
  | n + 1, s, s', t, h => by
    unfold topRunT at h
    unfold topRun
    cases he : through t with
    | true => rw [he] at h; cases h; rfl
    | false =>
      rw [he] at h
      cases hk : stepOk n₀ ann t with
      | false => rw [hk] at h; cases h
      | true =>
        rw [hk] at h
        cases hs : stepT (denote tb) p w s t with
        | none => rw [hs] at h; cases h
        | some r => obtain ⟨s₂, t₂⟩ := r; rw [hs] at h; dsimp only; rw [stepT_spec hs]; exact topRun_of h
noncomputable def topRunQ (tb : String → Option Builtin) (p : Program) (w : World) (n₀ : Nat) (ann : Option Value) : Nat → SharedT → Thread → Option SharedT
  | 0, _, _ => none
  | n + 1, s, t => match through t with
    | true => some s
    | false => match PySem.W.Fast.tw6613529449190102663 n₀ ann t with
      | false => none
      | true => match PySem.W.Fast.tw10156331382660048174 (PySem.W.Fast.tw11892475500146522536 tb) p w s t with
        | some (s', t') => topRunQ tb p w n₀ ann n s' t'
        | none => none
theorem topRunQ_is {tb : String → Option Builtin} {p : Program} {w : World} {n₀ : Nat} {ann : Option Value} : ∀ (n : Nat) (s : SharedT) (t : Thread), topRunQ tb p w n₀ ann n s t = topRunT tb p w n₀ ann n s t
  | 0, _, _ => rfl
  | n + 1, s, t => by
    unfold topRunQ topRunT
    rw [← PySem.W.Fast.te6613529449190102663, ← PySem.W.Fast.te10156331382660048174, ← PySem.W.Fast.te11892475500146522536]
    simp only [topRunQ_is n]
theorem left_T {p q : Program} {loose : List Str} {Xt : Shared → Bool} {α : Type} {Yf : Shared → α} {Ya : World → α} {N : Nat} {g0 : Bool} {H₀ : Params → Heap} {T₀ : Params → BT} {life : Params → Life} {gs₀ : Array GenState} {d₀ : Drawn} {k₀ m₀ : Nat} {ann : Option Value}
    (open_ : ∀ w : World, (fencedOpening treeTable p w N).map (fun s => (s.heap, s.gens, s.drawn, s.toks)) = some (H₀ w.params, gs₀, d₀, k₀))
    (size : ∀ w : World, ((H₀ w.params).isNs mainGlobals && gs₀.size == 0, (H₀ w.params).objs.size, (H₀ w.params).nsMap mainGlobals "__annotations__") = (true, m₀, ann))
    (tree : ∀ P, absHeap (T₀ P) m₀ (life P) = H₀ P)
    (run : ∀ (w : World) (os : OsState), (topRunQ PySem.W.Fast.tw14364793385576792824 p w m₀ ann N ⟨T₀ w.params, m₀, life w.params, gs₀, d₀, k₀, os⟩ (topStub p)).map (fun s =>
        ((staticsOk (importedModules p.main.body) (H₀ w.params) s.abs.heap && namesBound p s.abs.heap && gensDone s.abs && laidKept (H₀ w.params) s.abs.heap), openSeen q loose (importedModules p.main.body) Xt g0 s.abs, Yf s.abs)) = some (true, openGood q loose, Ya w)) :
    LeftO p q loose Xt Yf Ya N g0 := fun w => by
  obtain ⟨⟨h, gs, d, k, os⟩, e, e'⟩ := Option.map_eq_some_iff.mp (open_ w)
  obtain ⟨rfl, rfl, rfl, rfl⟩ : h = H₀ w.params ∧ gs = gs₀ ∧ d = d₀ ∧ k = k₀ := by simpa using e'
  obtain ⟨z1, z2, z3⟩ : _ ∧ _ ∧ _ := by simpa only [Prod.mk.injEq] using size w
  obtain ⟨sT, hr, hl⟩ := Option.map_eq_some_iff.mp (run w os)
  obtain ⟨l1, l2, l3⟩ : _ ∧ _ ∧ _ := by simpa only [Prod.mk.injEq] using hl
  rw [← PySem.W.Fast.te14364793385576792824, topRunQ_is] at hr
  have r := topRun_of hr
  have ea : SharedT.abs ⟨T₀ w.params, m₀, life w.params, gs, d, k, os⟩ = ⟨H₀ w.params, gs, d, k, os⟩ := by
    unfold SharedT.abs
    rw [tree]
  rw [ea] at r
  have t : topFrom treeTable p w N ⟨H₀ w.params, gs, d, k, os⟩ = some sT.abs := by
    unfold topFrom
    dsimp only
    rw [z1, z2, z3, r]
    show (match staticsOk (importedModules p.main.body) (H₀ w.params) sT.abs.heap && namesBound p sT.abs.heap && gensDone sT.abs && laidKept (H₀ w.params) sT.abs.heap with | true => _ | false => _) = _
    rw [l1]
  unfold openEnds
  rw [e]
  show (topFrom treeTable p w N _).map _ = _
  rw [t]
  exact congrArg some (Prod.ext l2 l3)
def putAll : List Obj → Nat → BT → BT
  | [], _, t => t
  | o :: r, i, t => putAll r (i + 1) (t.ins i o)
noncomputable def bootT (P : Params) : BT := putAll (boot_heap P).objs.toList 0 .nil
theorem boot_size : ∀ w : World, ((boot_heap w.params).isNs mainGlobals && (Array.mk [] : Array GenState).size == 0, (boot_heap w.params).objs.size, (boot_heap w.params).nsMap mainGlobals "__annotations__") = (true, 11, some (.ref 6)) := by intro w; kernel_rfl
theorem boot_tree : ∀ P, absHeap (bootT P) 11 (boot_heap P).life = boot_heap P := by intro P; kernel_rfl
theorem opens : ∀ w : World, (fencedOpening treeTable PySem.Challenge.rw_xm0726_01.row.prog w 4692).map (fun s => (s.heap, s.gens, s.drawn, s.toks)) = some (boot_heap w.params, Array.mk [], boot_drawn, boot_toks) := boot_open (by kernel_rfl) (by decide +kernel) (fun _ => by kernel_rfl)
local macro_rules | `(tactic| o_head $H) => `(tactic| (refine holds_open (q := vw) (loose := [Str.ofString "HintWork"]) (Xt := fun s => xlAt vw [] s && recOk (RowW.records PySem.Challenge.rw_xm0726_01.row.toRowW) s) (XP := XL vw []) (Yf := Hook.obs $H) (Ya := Hook.val $H) (YP := Hook.says $H) (N := 4692) (left_T opens boot_size boot_tree (fun w os => by kernel_rfl)) (Hook.of $H) (Hook.keeps $H) (fun s e => xl_of s (Bool.and_eq_true_iff.mp e).1) XL.keeps (by rfl) (by rfl) (by rfl) (fun s e => recFacts_of (Bool.and_eq_true_iff.mp e).2) (by rfl) (by first | assumption | decide +kernel) (by decide +kernel) ⟨rfl, rfl, rfl, rfl, rfl, by decide +kernel⟩ ?hw ?hc))
set_option maxRecDepth 100000 in
set_option maxHeartbeats 40000000 in
open_top hd for PySem.Challenge.rw_xm0726_01
end PartHW2
section PartLAW
def dueOf (argument away : Int) : Int := if away = 0 then 64 * [-8, -7, -6, -5, -4, -3, -2, -1, 1, 2, 3, 4, 5, 6, 7, 8].getD (argument.fmod 16).toNat 0 else 0
def ToldP (argument away shift r : Int) : Prop := r * 2 ^ shift.toNat = dueOf argument away
theorem fmod_is {a b : Int} (h : 0 ≤ b) : a.fmod b = a % b := Int.fmod_eq_emod_of_nonneg a h
theorem fdiv_is {a b : Int} (h : 0 ≤ b) : a.fdiv b = a / b := Int.fdiv_eq_ediv_of_nonneg a h
theorem wrap_id {x : Int} (h : -2147483648 ≤ x) (h2 : x < 2147483648) : (x + 2147483648).fmod 4294967296 - 2147483648 = x := by
  rw [fmod_is (by decide)]
  omega
theorem high_same (a : Int) : (a.fmod 256).fdiv 16 = (a.fdiv 16).fmod 16 := by
  rw [fmod_is (by decide), fdiv_is (by decide), fdiv_is (by decide), fmod_is (by decide)]
  omega
theorem pow_cases {k : Int} (h0 : 0 ≤ k) (h6 : k ≤ 6) : (2 : Int) ^ (6 - k).toNat * 2 ^ k.toNat = 64 := by
  have h : k = 0 ∨ k = 1 ∨ k = 2 ∨ k = 3 ∨ k = 4 ∨ k = 5 ∨ k = 6 := by omega
  rcases h with h | h | h | h | h | h | h <;> subst h <;> decide
theorem pow_bits {k : Int} (h0 : 0 ≤ k) (h6 : k ≤ 6) : Builtin.Int.intBits ((2 : Int) ^ k.toNat) ≤ 64 := by
  have h : k = 0 ∨ k = 1 ∨ k = 2 ∨ k = 3 ∨ k = 4 ∨ k = 5 ∨ k = 6 := by omega
  rcases h with h | h | h | h | h | h | h <;> subst h <;> decide +kernel
theorem step_hi {r : Int} (h0 : 8 ≤ r) (h1 : r < 16) : ([-8, -7, -6, -5, -4, -3, -2, -1, 1, 2, 3, 4, 5, 6, 7, 8] : List Int).getD r.toNat 0 = r - 8 + 1 := by
  have h : r = 8 ∨ r = 9 ∨ r = 10 ∨ r = 11 ∨ r = 12 ∨ r = 13 ∨ r = 14 ∨ r = 15 := by omega
  rcases h with h | h | h | h | h | h | h | h <;> subst h <;> decide
theorem step_lo {r : Int} (h0 : 0 ≤ r) (h1 : r < 8) : ([-8, -7, -6, -5, -4, -3, -2, -1, 1, 2, 3, 4, 5, 6, 7, 8] : List Int).getD r.toNat 0 = r - 8 := by
  have h : r = 0 ∨ r = 1 ∨ r = 2 ∨ r = 3 ∨ r = 4 ∨ r = 5 ∨ r = 6 ∨ r = 7 := by omega
  rcases h with h | h | h | h | h | h | h | h <;> subst h <;> decide
theorem told_none {argument away bs held shift : Int} (h5 : -5 ≤ held) (h20 : held ≤ 20)
    (h : (argument.fmod 256).fdiv 16 + bs + held + away ≠ (argument.fdiv 16).fmod 16 + bs + ((held + 2147483648).fmod 4294967296 - 2147483648)) : ToldP argument away shift 0 := by
  rw [wrap_id (by omega) (by omega), high_same] at h
  have ha : away ≠ 0 := by omega
  unfold ToldP dueOf
  rw [if_neg ha, Int.zero_mul]
theorem told_away {argument away bs held : Int} (h5 : -5 ≤ held) (h20 : held ≤ 20)
    (h : (argument.fmod 256).fdiv 16 + bs + held + away = (argument.fdiv 16).fmod 16 + bs + ((held + 2147483648).fmod 4294967296 - 2147483648)) : away = 0 := by
  rw [wrap_id (by omega) (by omega), high_same] at h
  omega
theorem told_any {argument away shift x : Int} (h0 : 0 ≤ shift) (h6 : shift ≤ 6) (ha : away = 0) (hx : ([-8, -7, -6, -5, -4, -3, -2, -1, 1, 2, 3, 4, 5, 6, 7, 8] : List Int).getD (argument.fmod 16).toNat 0 = x) :
    ToldP argument away shift (x * 2 ^ (6 - ((shift + 2147483648).fmod 4294967296 - 2147483648)).toNat) := by
  unfold ToldP dueOf
  rw [if_pos ha, hx, wrap_id (by omega) (by omega), Int.mul_assoc, pow_cases h0 h6, Int.mul_comm]
theorem told_hi {argument away bs held shift : Int} (h5 : -5 ≤ held) (h20 : held ≤ 20) (h0 : 0 ≤ shift) (h6 : shift ≤ 6)
    (h : (argument.fmod 256).fdiv 16 + bs + held + away = (argument.fdiv 16).fmod 16 + bs + ((held + 2147483648).fmod 4294967296 - 2147483648)) (hs : 0 ≤ argument.fmod 16 - 8) :
    ToldP argument away shift ((argument.fmod 16 - 8 + 1) * 2 ^ (6 - ((shift + 2147483648).fmod 4294967296 - 2147483648)).toNat) :=
  told_any h0 h6 (told_away h5 h20 h) (step_hi (by omega) (by rw [fmod_is (by decide)]; omega))
theorem told_lo {argument away bs held shift : Int} (h5 : -5 ≤ held) (h20 : held ≤ 20) (h0 : 0 ≤ shift) (h6 : shift ≤ 6)
    (h : (argument.fmod 256).fdiv 16 + bs + held + away = (argument.fdiv 16).fmod 16 + bs + ((held + 2147483648).fmod 4294967296 - 2147483648)) (hs : ¬ 0 ≤ argument.fmod 16 - 8) :
    ToldP argument away shift ((argument.fmod 16 - 8) * 2 ^ (6 - ((shift + 2147483648).fmod 4294967296 - 2147483648)).toNat) :=
  told_any h0 h6 (told_away h5 h20 h) (step_lo (by rw [fmod_is (by decide)]; omega) (by omega))
theorem due_is {argument away shift r : Int} (h : ToldP argument away shift r) (ha : away = 0) : r * 2 ^ shift.toNat = 64 * [-8, -7, -6, -5, -4, -3, -2, -1, 1, 2, 3, 4, 5, 6, 7, 8].getD (argument.fmod 16).toNat 0 := by
  unfold ToldP dueOf at h
  rwa [if_pos ha] at h
theorem due_none {argument away shift r : Int} (h : ToldP argument away shift r) (ha : ¬ away = 0) : r * 2 ^ shift.toNat = 0 := by
  unfold ToldP dueOf at h
  rwa [if_neg ha] at h
end PartLAW
section PartTK
section
variable {prog : Program} {w : World} {A : Around} {E : Value → Shared → Prop} {s : Shared} {h₀ : Heap} {L D : Addr} {m : Str → Option Value} {news news' : List (Addr × Obj)} {a b x : Int} {ta tb t u : Tok} {n : Nat}
theorem two_get0 {value slice : PySem.Expr} {Q : Value → Shared → Prop} (N : News h₀ L s.heap news) (hm : (D, listOf [Value.int a ta, Value.int b tb].toArray n) ∈ news) (h : Q (.int a ta) s)
    (hs : subscripted slice false (.ref D) (.int 0 u) = operate [.ref D, .int 0 u] (getItem (.ref D) (.int 0 u)) := by with_unfolding_all rfl) :
    wpAny (model prog w) A (subscriptTail value slice (.ref D) (.int 0 u)) Q E s :=
  have hl : s.heap.IsList D [Value.int a ta, Value.int b tb].toArray := PySem.IsL.isList (n := n) (N _ hm).1
  tail_any hl.typeIs slot_list_getitem.lookup (wpAny_getItem_list hl (by decide) (by decide) (x := .int a ta) (by simp) h) hs
theorem two_get1 {value slice : PySem.Expr} {Q : Value → Shared → Prop} (N : News h₀ L s.heap news) (hm : (D, listOf [Value.int a ta, Value.int b tb].toArray n) ∈ news) (h : Q (.int b tb) s)
    (hs : subscripted slice false (.ref D) (.int 1 u) = operate [.ref D, .int 1 u] (getItem (.ref D) (.int 1 u)) := by with_unfolding_all rfl) :
    wpAny (model prog w) A (subscriptTail value slice (.ref D) (.int 1 u)) Q E s :=
  have hl : s.heap.IsList D [Value.int a ta, Value.int b tb].toArray := PySem.IsL.isList (n := n) (N _ hm).1
  tail_any hl.typeIs slot_list_getitem.lookup (wpAny_getItem_list hl (by decide) (by decide) (x := .int b tb) (by simp) h) hs
theorem two_set0 {Q : Unit → Shared → Prop} (F : Fr h₀ L s.heap m) (N : News h₀ L s.heap news) (U : Upd D (listOf [Value.int a ta, Value.int b tb].toArray n) (listOf [Value.int x u, Value.int b tb].toArray n) news news')
    (h : ∀ h', Fr h₀ L h' m → News h₀ L h' news' → Q () { s with heap := h' }) : wpAny (model prog w) A (setItem (.ref D) (.int 0 t) (.int x u)) Q E s :=
  ksa_set (vs := [Value.int a ta, Value.int b tb]) (ns := [a, b]) F N U (.cons a ta (.cons b tb .nil)) (by decide) (by simp) (by decide) fun h' F' N' _ _ _ => h h' F' N'
theorem two_set1 {Q : Unit → Shared → Prop} (F : Fr h₀ L s.heap m) (N : News h₀ L s.heap news) (U : Upd D (listOf [Value.int a ta, Value.int b tb].toArray n) (listOf [Value.int a ta, Value.int x u].toArray n) news news')
    (h : ∀ h', Fr h₀ L h' m → News h₀ L h' news' → Q () { s with heap := h' }) : wpAny (model prog w) A (setItem (.ref D) (.int 1 t) (.int x u)) Q E s :=
  ksa_set (vs := [Value.int a ta, Value.int b tb]) (ns := [a, b]) F N U (.cons a ta (.cons b tb .nil)) (by decide) (by simp) (by decide) fun h' F' N' _ _ _ => h h' F' N'
end
local macro_rules | `(tactic| walk_at "subscriptTail Name Constant ref int") => `(tactic| (k_here; k_dflt (first
  | ((with_reducible show wpAny _ _ (subscriptTail _ _ (Value.ref _) (Value.int 0 _)) _ _ _); refine' two_get0 ?k1 ?k2 ?_ ?k7; (case k1 => k_asm); (case k2 => k_mem); (case k7 => with_unfolding_all rfl); k_whole)
  | ((with_reducible show wpAny _ _ (subscriptTail _ _ (Value.ref _) (Value.int 1 _)) _ _ _); refine' two_get1 ?k1 ?k2 ?_ ?k7; (case k1 => k_asm); (case k2 => k_mem); (case k7 => with_unfolding_all rfl); k_whole))))
theorem mul_small {a b : Int} (h0 : 0 ≤ a) (h1 : a < 4294967296) : IntMulOk a b := by
  refine IntMulOk.of_left (PySem.intBits_le_iff.mpr ?_)
  have h2 : a.natAbs < 4294967296 := by omega
  exact Nat.lt_of_lt_of_le h2 (by decide)
theorem fmod_in {a b : Int} (h : 0 < b) : 0 ≤ a.fmod b ∧ a.fmod b < b := ⟨Int.fmod_nonneg_of_pos a h, Int.fmod_lt_of_pos a h⟩
theorem fdiv_in {a b : Int} (h : 0 < b) (ha : 0 ≤ a) : 0 ≤ a.fdiv b := Int.fdiv_nonneg ha (Int.le_of_lt h)
local macro_rules | `(tactic| walk_at "binaryOp Mult int int") => `(tactic| (k_here; k_dflt (refine' mul_int ?_ ?z; (case z => exact mul_small (fmod_in (by decide)).1 (Int.lt_trans (fmod_in (by decide)).2 (by decide))))))
local macro_rules | `(tactic| k_all) => `(tactic| assumption)
local macro_rules | `(tactic| walk_at "setItem ref int") => `(tactic| (k_here; k_dflt (first
  | ((with_reducible show wpAny _ _ (setItem (Value.ref _) (Value.int 0 _) (Value.int _ _)) _ _ _); refine' two_set0 ?k1 ?k2 ?k3 ?_; (case k1 => k_asm); (case k2 => k_asm); (case k3 => k_upd); k_whole)
  | ((with_reducible show wpAny _ _ (setItem (Value.ref _) (Value.int 1 _) (Value.int _ _)) _ _ _); refine' two_set1 ?k1 ?k2 ?k3 ?_; (case k1 => k_asm); (case k2 => k_asm); (case k3 => k_upd); k_whole)); intro h' F' N'; (try k_sweep)))
set_option maxRecDepth 100000 in
set_option maxHeartbeats 40000000 in
theorem take_ok (w : World) (loose : List Str) (mean : ExcName → Option Value) (mg mb : Str → Option Value) (dp un : Nat) (gd : Option (List Code)) (cn : Str) (cs : Scope) (ca : Addr) (ccd : Value) (cl : List (Str × Addr)) (outer : List Env) (A₀ : Around) (base h₀ : Heap) (L : Addr) (m : Str → Option Value) (s : Shared) (Q E : Value → Shared → Prop)
    (l : Addr) (a b top : Int) (ta tb tt : Tok) (n : Nat) (rest : List (Addr × Obj))
    (B : Below A₀ base outer h₀) (F : Fr h₀ L s.heap m) (X : (hd.heap_39 w.params).In h₀) (N : News h₀ L s.heap ((l, listOf [Value.int a ta, Value.int b tb].toArray n) :: rest)) (T : Top vw loose mean mg mb h₀) (hk : cs.kind = .function)
    (hoff : ∀ p ∈ rest, p.1 ≠ l) (ha : 0 ≤ a) (hb : 0 ≤ b) (hb2 : b < 2147483647) (htop : 0 < top) (htop2 : top ≤ 256)
    (hdp : dp + 1 < recursionLimit) (hun : un + 8 < cLine)
    (hret : ∀ (r : Int) (t : Tok) (a' : Int) (ta' : Tok) (b' : Int) (tb' : Tok) (n' : Nat) (h' : Heap) (tk' : Nat), 0 ≤ r → r < top → 0 ≤ a' → 0 ≤ b' → b' < 2147483647 → Fr h₀ L h' m → News h₀ L h' ((l, listOf [Value.int a' ta', Value.int b' tb'].toArray n') :: rest) → Q (.int r t) { s with heap := h', toks := tk' }) :
    wpAny (model PySem.Challenge.rw_xm0726_01.row.prog w) (ktrTop dp un gd cn cs L ca ccd cl outer) (call (.ref 293) [.ref l, .int top tt]) Q E s := by
  revert X
  k_fill
  intro X
  w_top off
  refine wpAny_call ?_
  k_dflt cell_enter
  k_steps
  all_goals (try dsimp only)
  all_goals (try (k_unfold; (try dsimp only)))
  k_steps
  all_goals (try dsimp only)
  · refine' hret _ _ _ _ _ _ _ _ _ ?h1 ?h2 ?h3 ?h4 ?h5 ?F ?N
    case N => k_asm
    case F => k_asm
    case h1 => exact (fmod_in htop).1
    case h2 => exact (fmod_in htop).2
    case h3 => exact fdiv_in htop ha
    case h4 => exact hb
    case h5 => exact hb2
  · refine' hret _ _ _ _ _ _ _ _ _ ?g1 ?g2 ?g3 ?g4 ?g5 ?gF ?gN
    case gN => k_asm
    case gF => k_asm
    case g1 => exact (fmod_in htop).1
    case g2 => exact (fmod_in htop).2
    case g3 => exact ha
    case g4 => exact (fmod_in (by decide)).1
    case g5 => exact (fmod_in (by decide)).2
end PartTK
section PartON
section
variable {prog : Program} {w : World} {A : Around} {E : Value → Shared → Prop} {s : Shared} {h₀ : Heap} {L D : Addr} {m : Str → Option Value} {news : List (Addr × Obj)} {vs : List Value} {ns : List Int} {k lo up : Int} {u : Tok} {n : Nat}
theorem menu_sub {value slice : PySem.Expr} {Q : Value → Shared → Prop} (N : News h₀ L s.heap news) (hm : (D, listOf vs.toArray n) ∈ news) (hi : IntsAre vs ns) (h0 : 0 ≤ k) (h1 : k < ns.length) (h2 : ns.length ≤ 256) (hall : ns.all (fun k => decide (lo ≤ k) && decide (k ≤ up)) = true)
    (h : ∀ r t, lo ≤ r → r ≤ up → Q (.int r t) s)
    (hs : subscripted slice false (.ref D) (.int k u) = operate [.ref D, .int k u] (getItem (.ref D) (.int k u)) := by with_unfolding_all rfl) :
    wpAny (model prog w) A (subscriptTail value slice (.ref D) (.int k u)) Q E s :=
  ksa_sub N hm hi h0 h1 (by omega) (fun t => h _ t (kmn_in (by omega) hall).1 (kmn_in (by omega) hall).2) hs
theorem menu_len {Q : Value → Shared → Prop} (N : News h₀ L s.heap news) (hm : (D, listOf vs.toArray n) ∈ news) (hi : IntsAre vs ns) (h2 : ns.length ≤ 256)
    (h : Q (.int (ns.length : Int) (s.toks + 1)) { s with toks := s.toks + 1 + 1 }) : wpAny (model prog w) A (call (.builtin "len") [.ref D]) Q E s :=
  kst_len N hm hi.length (by omega) h
end
local macro_rules | `(tactic| walk_at "call builtin:len") => `(tactic| (k_here; k_dflt (refine' menu_len ?k1 ?k2 ?k3 ?k4 ?_; (case k1 => k_asm); (case k2 => k_mem); (case k3 => k_asm); (case k4 => k_asm); k_whole)))
local macro_rules | `(tactic| walk_at "subscriptTail Name Call ref int") => `(tactic| (k_here; k_dflt (refine' menu_sub ?k1 ?k2 ?k3 ?k4 ?k5 ?k6 ?k7 ?_ ?k8; (case k1 => k_asm); (case k2 => k_mem); (case k3 => k_asm); (case k4 => k_asm); (case k5 => k_asm); (case k6 => k_asm); (case k7 => k_asm); (case k8 => with_unfolding_all rfl); k_whole); intro r' t' hr1' hr2'))
theorem news_drop2 {h₀ : Heap} {L : Addr} {h : Heap} {p q : Addr × Obj} {r : List (Addr × Obj)} (N : News h₀ L h (p :: q :: r)) : News h₀ L h (p :: r) := fun x hx => N x (by
  rcases List.mem_cons.mp hx with e | hx
  · exact e ▸ .head _
  · exact .tail _ (.tail _ hx))
theorem news_swap {h₀ : Heap} {L : Addr} {h : Heap} {p q : Addr × Obj} {r : List (Addr × Obj)} (N : News h₀ L h (p :: q :: r)) : News h₀ L h (q :: p :: r) := fun x hx => N x (by
  rcases List.mem_cons.mp hx with e | hx
  · exact e ▸ .tail _ (.head _)
  · rcases List.mem_cons.mp hx with e | hx
    · exact e ▸ .head _
    · exact .tail _ (.tail _ hx))
local macro_rules | `(tactic| k_all) => `(tactic| assumption)
local macro_rules | `(tactic| walk_at "call ref") => `(tactic| (k_here; k_dflt (
  (show wpAny _ _ (call (Value.ref 293) _) _ _ _);
  refine' take_ok _ _ _ _ _ _ _ _ _ _ _ _ _ _ _ _ _ _ _ _ _ _ _ _ _ _ _ _ _ _ _ ?k1 ?k2 ?k3 ?k4 ?k5 ?kK ?k6 ?k7 ?k8 ?k9 ?k10 ?k11 ?kd ?ku ?_;
  (case k1 => k_asm); (case k2 => k_asm); (case k3 => k_asm); (case k4 => exact news_swap (by k_asm)); (case k5 => k_asm); (case kK => exact rfl);
  (case k6 => k_all); (case k7 => k_asm); (case k8 => k_asm); (case k9 => k_asm); (case k10 => omega); (case k11 => omega); (case kd => ktr_room); (case ku => ktr_units); k_whole); intro r' t' a' ta' b' tb' n' h' tk' h1' h2' h3' h4' h5' F' N'))
set_option maxRecDepth 100000 in
set_option maxHeartbeats 40000000 in
theorem one_ok (w : World) (loose : List Str) (mean : ExcName → Option Value) (mg mb : Str → Option Value) (dp un : Nat) (gd : Option (List Code)) (cn : Str) (cs : Scope) (ca : Addr) (ccd : Value) (cl : List (Str × Addr)) (outer : List Env) (A₀ : Around) (base h₀ : Heap) (L : Addr) (m : Str → Option Value) (s : Shared) (Q E : Value → Shared → Prop)
    (l D : Addr) (a b lo up : Int) (ta tb : Tok) (n nD : Nat) (vs : List Value) (ns : List Int) (rest : List (Addr × Obj))
    (B : Below A₀ base outer h₀) (F : Fr h₀ L s.heap m) (X : (hd.heap_39 w.params).In h₀) (N : News h₀ L s.heap ((D, listOf vs.toArray nD) :: (l, listOf [Value.int a ta, Value.int b tb].toArray n) :: rest)) (T : Top vw loose mean mg mb h₀) (hk : cs.kind = .function)
    (hi : IntsAre vs ns) (hlen : 0 < ns.length) (hlen2 : ns.length ≤ 256) (hall : ns.all (fun k => decide (lo ≤ k) && decide (k ≤ up)) = true)
    (hoff : ∀ p ∈ rest, p.1 ≠ l) (hDl : D ≠ l) (ha : 0 ≤ a) (hb : 0 ≤ b) (hb2 : b < 2147483647)
    (hdp : dp + 2 < recursionLimit) (hun : un + 16 < cLine)
    (hret : ∀ (r : Int) (t : Tok) (a' : Int) (ta' : Tok) (b' : Int) (tb' : Tok) (n' : Nat) (h' : Heap) (tk' : Nat), Fr h₀ L h' m → News h₀ L h' ((l, listOf [Value.int a' ta', Value.int b' tb'].toArray n') :: rest) → lo ≤ r → r ≤ up → 0 ≤ a' → 0 ≤ b' → b' < 2147483647 → Q (.int r t) { s with heap := h', toks := tk' }) :
    wpAny (model PySem.Challenge.rw_xm0726_01.row.prog w) (ktrTop dp un gd cn cs L ca ccd cl outer) (call (.ref 300) [.ref l, .ref D]) Q E s := by
  revert X
  k_fill
  intro X
  w_top off
  refine wpAny_call ?_
  k_dflt cell_enter
  k_steps
  all_goals (try dsimp only)
  all_goals exact hret _ _ _ _ _ _ _ _ _ (by k_asm) (news_drop2 (by k_asm)) (by assumption) (by assumption) (by assumption) (by assumption) (by assumption)
end PartON
section PartPO
set_option maxRecDepth 100000 in
set_option maxHeartbeats 40000000 in
theorem pool_ok (w : World) (loose : List Str) (mean : ExcName → Option Value) (mg mb : Str → Option Value) (dp un : Nat) (gd : Option (List Code)) (cn : Str) (cs : Scope) (ca : Addr) (ccd : Value) (cl : List (Str × Addr)) (outer : List Env) (A₀ : Around) (base h₀ : Heap) (L : Addr) (m : Str → Option Value) (s : Shared) (Q E : Value → Shared → Prop)
    (l : Addr) (vs : List Value) (ns : List Int)
    (B : Below A₀ base outer h₀) (F : Fr h₀ L s.heap m) (X : (hd.heap_39 w.params).In h₀) (N : News h₀ L s.heap []) (T : Top vw loose mean mg mb h₀) (hk : cs.kind = .function)
    (hl : base.IsList l vs.toArray) (hi : IntsAre vs ns) (hlen : ns.length < 2 ^ 62)
    (hdp : dp + 1 < recursionLimit) (hun : un + 8 < cLine)
    (hret : ∀ (D : Addr) (a : Int) (ta : Tok) (b : Int) (tb : Tok) (n : Nat) (h' : Heap) (tk' : Nat), Fr h₀ L h' m → News h₀ L h' [(D, listOf [Value.int a ta, Value.int b tb].toArray n)] → 0 ≤ a → 0 ≤ b → b < 2147483647 → Q (.ref D) { s with heap := h', toks := tk' }) :
    wpAny (model PySem.Challenge.rw_xm0726_01.row.prog w) (ktrTop dp un gd cn cs L ca ccd cl outer) (call (.ref 286) [.ref l]) Q E s := by
  revert X
  k_fill
  intro X
  w_top off
  refine wpAny_call ?_
  k_dflt cell_enter
  k_steps
  all_goals (try dsimp only)
  all_goals exact hret _ _ _ _ _ _ _ _ (by k_asm) (by k_asm) (by omega) (fmod_in (by decide)).1 (fmod_in (by decide)).2
end PartPO
section PartRT
theorem enter_drop {prog : Program} {w : World} {A A₀ : Around} {s : Shared} {K : Frag} {L : Addr} {h₀ base : Heap} {m mg mb : Str → Option Value} {news : List (Addr × Obj)} {p : Program} {loose : List Str} {mean : ExcName → Option Value}
    {env : Env} {outer : List Env} {R : Result → Shared → Prop} {name qual : Str} {params : Arguments} {body : List Stmt} {scope : Scope} {dV kV doc pm cdv ct oc : Value} {an od : Option Addr} {osl : Array (Option Value)} {f : Addr} {args : Args} {binds : List (Str × Value)}
    (B : Below A₀ base outer h₀) (F : Fr h₀ L s.heap m) (X₀ : K.In h₀) (N : News h₀ L s.heap news) (T : Top p loose mean mg mb h₀) (hA : A.frames = some (env :: outer)) (hf : env.frame = some L) (hke : env.scope.kind = .function)
    (ho : K.lookup f = some ⟨oc, od, .func (fnOf name qual params body scope dV kV doc pm an cdv ct), osl⟩) (hcd : codeIn K cdv qual = true) (hroom : A.depth < recursionLimit)
    (hbind : BindsTo s (fnOf name qual params body scope dV kV doc pm an cdv ct) args binds) (hloc : ∀ y ∈ binds, scope.names.lookup y.1 = some .local)
    (h : ∀ g L' h₁, Fr h₀ L g m → Fr g L' h₁ (fun y => binds.reverse.lookup y) → News g L' h₁ [] → (∀ h' : Heap, (∀ b o, g.get? b = some o → h'.get? b = some o) → News h₀ L h' news) → Below A base (env :: outer) g → K.In g → Top p loose mean mg mb g →
      wpAny (model prog w) (A.deeper (envOf qual scope L' f cdv)) (execs body (envOf qual scope L' f cdv))
        (fun fl s' => LeaveK h₀ L m g R (match fl with | .ret v => v | _ => .none) s')
        (fun e s' => wpAny (model prog w) (A.deeper (envOf qual scope L' f cdv)) (leaving (envOf qual scope L' f cdv) e) (fun _ s'' => R (.error e) s'') (fun e' s'' => R (.error e') s'') s')
        { s with heap := h₁, toks := s.toks + binds.length })
    (hco : scope.isCoroutine = false) (hgen : scope.isGenerator = false) (hk : scope.kind = .function)
    (hcell : ∀ x ∈ scope.names, x.2 ≠ .cell) : codeAny (model prog w) A (.call (.ref f) args) R s := by
  obtain ⟨FG, BG, st, lv⟩ := groundX (R := R) B F (News.nil (h₀ := h₀) (L := L) (h := s.heap)) hA hf hke
  refine codeAny_call_def (fd := fnX name qual params body scope [] dV kV doc pm an cdv ct) (body := body) (binds := binds) hroom ((X₀.keeps F.keep) _ _ ho) rfl (T.nolimit.keeps F.keep) (codeRec_of (X₀.keeps F.keep) hcd) rfl hbind hcell hloc (fun h₁ hns hk₁ => ?_) hco hgen hk
  exact wpAny_mono (h s.heap s.heap.objs.size h₁ FG ⟨hns, fun b o e => hk₁ b o e, Nat.le_refl _⟩ News.nil (fun h' kp p hp => ⟨kp _ _ (N p hp).1, (N p hp).2⟩) BG (X₀.keeps st) (T.keeps st)) (fun fl s' hl => lv _ _ hl) fun _ _ y => y
theorem eq_one_nil {prog : Program} {w : World} {A : Around} {E : Value → Shared → Prop} {s : Shared} {h₀ : Heap} {L a b : Addr} {news : List (Addr × Obj)} {x : Int} {t : Tok} {n n' : Nat} {Q : Value → Shared → Prop}
    (N : News h₀ L s.heap news) (h1 : (a, listOf [Value.int x t].toArray n) ∈ news) (h2 : (b, listOf ([] : List Value).toArray n') ∈ news) (hu : A.units + 64 < cLine) (h : Q (.bool false) s) : wpAny (model prog w) A (compareOp .Eq (.ref a) (.ref b)) Q E s :=
  eq_intsK (vs := [Value.int x t]) (us := []) (ns := [x]) (ms := []) (PySem.IsL.isList (n := n) (N _ h1).1) (.cons x t .nil) (PySem.IsL.isList (n := n') (N _ h2).1) .nil hu (by simpa using h)
def IntAt (P : Int → Prop) (h₀ : Heap) (L : Addr) (m : Str → Option Value) (news : List (Addr × Obj)) (s : Shared) (v : Value) (s' : Shared) : Prop :=
  ∃ (r : Int) (t : Tok) (h : Heap) (tk : Nat), v = .int r t ∧ P r ∧ s' = { s with heap := h, toks := tk } ∧ Fr h₀ L h m ∧ News h₀ L h news
theorem int_join {M : Model} {A : Around} {E Q : Value → Shared → Prop} {s : Shared} {h₀ : Heap} {L : Addr} {m : Str → Option Value} {news : List (Addr × Obj)} {c : Sem Value} (P : Int → Prop) (_F : Fr h₀ L s.heap m) (_N : News h₀ L s.heap news)
    (hc : wpAny M A c (fun v s₂ => IntAt P h₀ L m news s v s₂) E s)
    (hk : ∀ (r : Int) (t : Tok) (h : Heap) (tk : Nat), P r → Fr h₀ L h m → News h₀ L h news → Q (.int r t) { s with heap := h, toks := tk }) : wpAny M A c Q E s := by
  refine wpAny_mono hc (fun v s₂ hq => ?_) fun _ _ h => h
  obtain ⟨r, t, h, tk, hv, hP, hs, F, N⟩ := hq
  subst hv
  subst hs
  exact hk r t h tk hP F N
theorem int_at {P : Int → Prop} {h₀ h : Heap} {L : Addr} {m : Str → Option Value} {news : List (Addr × Obj)} {s : Shared} {r : Int} {t : Tok} {tk : Nat} (F : Fr h₀ L h m) (N : News h₀ L h news) (hP : P r) : IntAt P h₀ L m news s (.int r t) { s with heap := h, toks := tk } :=
  ⟨r, t, h, tk, rfl, hP, rfl, F, N⟩
structure Wrap (P : Prop) : Prop where
  mk ::
  out : P
structure NoTok : Prop where
  mk ::
theorem eq_by {prog : Program} {w : World} {A : Around} {E : Value → Shared → Prop} {s : Shared} {a b : Int} {t u : Tok} {Q : Value → Shared → Prop} (e : a = b) (h : Q (.bool true) s) : wpAny (model prog w) A (compareOp .Eq (.int a t) (.int b u)) Q E s :=
  eq_int (by rw [beq_iff_eq.mpr e]; exact h)
theorem mul_pow {prog : Program} {w : World} {A : Around} {E : Value → Shared → Prop} {s : Shared} {a k : Int} {t u : Tok} {Q : Value → Shared → Prop} (h0 : 0 ≤ k) (h6 : k ≤ 6) (h : Q (.int (a * 2 ^ k.toNat) s.toks) { s with toks := s.toks + 1 }) : wpAny (model prog w) A (binaryOp .Mult (.int a t) (.int (2 ^ k.toNat) u)) Q E s :=
  mul_int h (IntMulOk.of_right (pow_bits h0 h6))
theorem ret_true {Q : Value → Shared → Prop} {s : Shared} {x : Bool} (h : Q (.bool true) s) (e : x = true) : Q (.bool x) s := e ▸ h
theorem cont9 {P : Prop} {h₀ h : Heap} {L : Addr} {ab0 aln axk adk axr adr ac0 ac1 ac2 ac3 ac4 ac5 ab1 av0 av1 av2 axs ads axw adw : Addr} {ob0 oln oxk oxr oc0 oc1 oc2 oc3 oc4 oc5 ob1 ov0 ov1 ov2 oxs oxw : Obj} {rest : List (Addr × Obj)} {dkh0 dkh1 : Int} {dkx0 dkx1 : Str} {dkk0 : Int} {dkr1 : Addr} {drh0 drh1 drh2 : Int} {drx0 drx1 drx2 : Str} {drk0 drk1 drk2 : Int} {dsh0 dsh1 dsh2 dsh3 dsh4 dsh5 dsh6 dsh7 dsh8 dsh9 dsh10 dsh11 dsh12 dsh13 dsh14 dsh15 dsh16 dsh17 : Int} {dsx0 dsx1 dsx2 dsx3 dsx4 dsx5 dsx6 dsx7 dsx8 dsx9 dsx10 dsx11 dsx12 dsx13 dsx14 dsx15 dsx16 dsx17 : Str} {dsk3 dsk4 dsk5 dsk6 dsk7 dsk8 dsk9 dsk10 dsk11 dsk12 dsk13 dsk14 dsk15 : Int} {dsr0 dsr1 dsr2 dsr17 : Addr} {dsb16 : Bool} {dwh0 dwh1 dwh2 dwh3 dwh4 dwh5 dwh6 dwh7 : Int} {dwx0 dwx1 dwx2 dwx3 dwx4 dwx5 dwx6 dwx7 : Str} {dwk5 dwk6 : Int} {dwr0 dwr1 dwr2 dwr3 dwr4 dwr7 : Addr} {dkt0 dkt1 drt0 drt1 drt2 dst0 dst1 dst2 dst3 dst4 dst5 dst6 dst7 dst8 dst9 dst10 dst11 dst12 dst13 dst14 dst15 dst16 dst17 dwt0 dwt1 dwt2 dwt3 dwt4 dwt5 dwt6 dwt7 dku0 dru0 dru1 dru2 dsu3 dsu4 dsu5 dsu6 dsu7 dsu8 dsu9 dsu10 dsu11 dsu12 dsu13 dsu14 dsu15 dwu5 dwu6 : Tok}
    (N : News h₀ L h ((ab0, ob0) :: (aln, oln) :: (axk, oxk) :: (adk, dictOf [⟨dkh0, .str dkx0 dkt0, .int dkk0 dku0⟩, ⟨dkh1, .str dkx1 dkt1, .ref dkr1⟩] 2) :: (axr, oxr) :: (adr, dictOf [⟨drh0, .str drx0 drt0, .int drk0 dru0⟩, ⟨drh1, .str drx1 drt1, .int drk1 dru1⟩, ⟨drh2, .str drx2 drt2, .int drk2 dru2⟩] 3) :: (ac0, oc0) :: (ac1, oc1) :: (ac2, oc2) :: (ac3, oc3) :: (ac4, oc4) :: (ac5, oc5) :: (ab1, ob1) :: (av0, ov0) :: (av1, ov1) :: (av2, ov2) :: (axs, oxs) :: (ads, dictOf [⟨dsh0, .str dsx0 dst0, .ref dsr0⟩, ⟨dsh1, .str dsx1 dst1, .ref dsr1⟩, ⟨dsh2, .str dsx2 dst2, .ref dsr2⟩, ⟨dsh3, .str dsx3 dst3, .int dsk3 dsu3⟩, ⟨dsh4, .str dsx4 dst4, .int dsk4 dsu4⟩, ⟨dsh5, .str dsx5 dst5, .int dsk5 dsu5⟩, ⟨dsh6, .str dsx6 dst6, .int dsk6 dsu6⟩, ⟨dsh7, .str dsx7 dst7, .int dsk7 dsu7⟩, ⟨dsh8, .str dsx8 dst8, .int dsk8 dsu8⟩, ⟨dsh9, .str dsx9 dst9, .int dsk9 dsu9⟩, ⟨dsh10, .str dsx10 dst10, .int dsk10 dsu10⟩, ⟨dsh11, .str dsx11 dst11, .int dsk11 dsu11⟩, ⟨dsh12, .str dsx12 dst12, .int dsk12 dsu12⟩, ⟨dsh13, .str dsx13 dst13, .int dsk13 dsu13⟩, ⟨dsh14, .str dsx14 dst14, .int dsk14 dsu14⟩, ⟨dsh15, .str dsx15 dst15, .int dsk15 dsu15⟩, ⟨dsh16, .str dsx16 dst16, .bool dsb16⟩, ⟨dsh17, .str dsx17 dst17, .ref dsr17⟩] 18) :: (axw, oxw) :: (adw, dictOf [⟨dwh0, .str dwx0 dwt0, .ref dwr0⟩, ⟨dwh1, .str dwx1 dwt1, .ref dwr1⟩, ⟨dwh2, .str dwx2 dwt2, .ref dwr2⟩, ⟨dwh3, .str dwx3 dwt3, .ref dwr3⟩, ⟨dwh4, .str dwx4 dwt4, .ref dwr4⟩, ⟨dwh5, .str dwx5 dwt5, .int dwk5 dwu5⟩, ⟨dwh6, .str dwx6 dwt6, .int dwk6 dwu6⟩, ⟨dwh7, .str dwx7 dwt7, .ref dwr7⟩] 8) :: rest))
    (k : ∀ (wdkt0 wdkt1 wdrt0 wdrt1 wdrt2 wdst0 wdst1 wdst2 wdst3 wdst4 wdst5 wdst6 wdst7 wdst8 wdst9 wdst10 wdst11 wdst12 wdst13 wdst14 wdst15 wdst16 wdst17 wdwt0 wdwt1 wdwt2 wdwt3 wdwt4 wdwt5 wdwt6 wdwt7 wdku0 wdru0 wdru1 wdru2 wdsu3 wdsu4 wdsu5 wdsu6 wdsu7 wdsu8 wdsu9 wdsu10 wdsu11 wdsu12 wdsu13 wdsu14 wdsu15 wdwu5 wdwu6 : Tok), News h₀ L h [(aln, oln), (axk, oxk), (adk, dictOf [⟨dkh0, .str dkx0 wdkt0, .int dkk0 wdku0⟩, ⟨dkh1, .str dkx1 wdkt1, .ref dkr1⟩] 2), (axr, oxr), (adr, dictOf [⟨drh0, .str drx0 wdrt0, .int drk0 wdru0⟩, ⟨drh1, .str drx1 wdrt1, .int drk1 wdru1⟩, ⟨drh2, .str drx2 wdrt2, .int drk2 wdru2⟩] 3), (axs, oxs), (ads, dictOf [⟨dsh0, .str dsx0 wdst0, .ref dsr0⟩, ⟨dsh1, .str dsx1 wdst1, .ref dsr1⟩, ⟨dsh2, .str dsx2 wdst2, .ref dsr2⟩, ⟨dsh3, .str dsx3 wdst3, .int dsk3 wdsu3⟩, ⟨dsh4, .str dsx4 wdst4, .int dsk4 wdsu4⟩, ⟨dsh5, .str dsx5 wdst5, .int dsk5 wdsu5⟩, ⟨dsh6, .str dsx6 wdst6, .int dsk6 wdsu6⟩, ⟨dsh7, .str dsx7 wdst7, .int dsk7 wdsu7⟩, ⟨dsh8, .str dsx8 wdst8, .int dsk8 wdsu8⟩, ⟨dsh9, .str dsx9 wdst9, .int dsk9 wdsu9⟩, ⟨dsh10, .str dsx10 wdst10, .int dsk10 wdsu10⟩, ⟨dsh11, .str dsx11 wdst11, .int dsk11 wdsu11⟩, ⟨dsh12, .str dsx12 wdst12, .int dsk12 wdsu12⟩, ⟨dsh13, .str dsx13 wdst13, .int dsk13 wdsu13⟩, ⟨dsh14, .str dsx14 wdst14, .int dsk14 wdsu14⟩, ⟨dsh15, .str dsx15 wdst15, .int dsk15 wdsu15⟩, ⟨dsh16, .str dsx16 wdst16, .bool dsb16⟩, ⟨dsh17, .str dsx17 wdst17, .ref dsr17⟩] 18), (axw, oxw), (adw, dictOf [⟨dwh0, .str dwx0 wdwt0, .ref dwr0⟩, ⟨dwh1, .str dwx1 wdwt1, .ref dwr1⟩, ⟨dwh2, .str dwx2 wdwt2, .ref dwr2⟩, ⟨dwh3, .str dwx3 wdwt3, .ref dwr3⟩, ⟨dwh4, .str dwx4 wdwt4, .ref dwr4⟩, ⟨dwh5, .str dwx5 wdwt5, .int dwk5 wdwu5⟩, ⟨dwh6, .str dwx6 wdwt6, .int dwk6 wdwu6⟩, ⟨dwh7, .str dwx7 wdwt7, .ref dwr7⟩] 8)] → P) : P := by
  refine k dkt0 dkt1 drt0 drt1 drt2 dst0 dst1 dst2 dst3 dst4 dst5 dst6 dst7 dst8 dst9 dst10 dst11 dst12 dst13 dst14 dst15 dst16 dst17 dwt0 dwt1 dwt2 dwt3 dwt4 dwt5 dwt6 dwt7 dku0 dru0 dru1 dru2 dsu3 dsu4 dsu5 dsu6 dsu7 dsu8 dsu9 dsu10 dsu11 dsu12 dsu13 dsu14 dsu15 dwu5 dwu6 (fun p (hp : p ∈ _) => N p ?_)
  simp only [List.mem_cons, List.not_mem_nil, or_false] at hp ⊢
  rcases hp with hp | hp | hp | hp | hp | hp | hp | hp | hp <;> simp only [hp, true_or, or_true]
local macro_rules | `(tactic| walk_at "execs cons") => `(tactic| ((with_reducible rename NoTok => hNT'); (with_reducible refine wpAny_execs_cons ?_); (try dsimp only)))
local macro_rules | `(tactic| walk_at "execs nil") => `(tactic| ((with_reducible rename NoTok => hNT'); (with_reducible refine wpAny_execs_nil ?_)))
local macro_rules | `(tactic| walk_at "eval Dict") => `(tactic| (k_here; k_dflt (refine' kdn_str ?q ?F ?N ?b ?a ?l ?e ?n ?_; (case q => rfl); (case F => k_asm); (case N => first | k_asm | exact News.nil); (case b => exact Top.nolimit (by k_asm)); (case a => rfl); (case l => rfl); (case e => exact List.cons_ne_nil _ _); (case n => exact Nat.le_of_ble_eq_true rfl)); intro d' h' o' F' N' l1 lo' hd'; (try k_lt l1)))
local macro_rules | `(tactic| walk_at "compareOp Eq ref ref") => `(tactic| (k_here; k_dflt (refine' eq_one_nil ?k1 ?k2 ?k3 ?k5 ?_; (case k1 => k_asm); (case k2 => k_mem); (case k3 => k_mem); (case k5 => first | exact Nat.le_of_ble_eq_true rfl | units_room); k_whole)))
theorem tok_any {α : Type} {M : Model} {A : Around} {c : Sem α} {Q : α → Shared → Prop} {E : Value → Shared → Prop} {hp : Heap} {g : Array GenState} {d : Drawn} {t : Nat} {o : OsState} (h : ∀ t' : Nat, wpAny M A c Q E ⟨hp, g, d, t', o⟩) : wpAny M A c Q E ⟨hp, g, d, t, o⟩ := h t
local macro_rules | `(tactic| walk_at "execs cons Assign cons") => `(tactic| ((fail_if_success (with_reducible rename NoTok => hNT')); (with_reducible refine tok_any ?_); intro tk9; (with_reducible refine wpAny_execs_cons ?_); (try dsimp only)))
structure NoFor : Prop where
  mk ::
local macro_rules | `(tactic| walk_at "exec For Tuple List cons nil") => `(tactic| (k_here; (fail_if_success (with_reducible rename NoFor => hNF')); refine Wrap.out ?_))
local macro_rules | `(tactic| walk_at "eval Dict nil nil") => `(tactic| (k_here; k_dflt (refine' newDict_K ?k1 ?k2 ?k3 ?_; (case k1 => k_asm); (case k2 => k_asm); (case k3 => exact (Top.nolimit (by k_asm)))); intro d' h' o' F' N' l1 lo' hs' fs' hi' fi'; (try k_lt l1); (try k_sweep)))
set_option maxRecDepth 100000 in
set_option maxHeartbeats 40000000 in
theorem right_ok (w : World) (loose : List Str) (mean : ExcName → Option Value) (mg mb : Str → Option Value) (cn : Str) (cs : Scope) (ca : Addr) (ccd : Value) (cl : List (Str × Addr)) (A₀ : Around) (base h₀ : Heap) (L : Addr) (m : Str → Option Value) (s : Shared) (Q E : Value → Shared → Prop)
    (argument away bs held shift : Int) (t1 t2 t3 t4 t5 : Tok) (news : List (Addr × Obj))
    (B : Below A₀ base [] h₀) (F : Fr h₀ L s.heap m) (X : (hd.heap_39 w.params).In h₀) (N : News h₀ L s.heap news) (T : Top vw loose mean mg mb h₀) (hk : cs.kind = .function)
    (hheld : -5 ≤ held) (hheld2 : held ≤ 20) (hshift : 0 ≤ shift) (hshift2 : shift ≤ 6) (hbs : 0 ≤ bs) (hbs2 : bs ≤ 32) (haway : -16 ≤ away) (haway2 : away ≤ 16)
    (hret : ∀ (h' : Heap) (tk' : Nat), Fr h₀ L h' m → News h₀ L h' news → Q (.bool true) { s with heap := h', toks := tk' }) :
    wpAny (model PySem.Challenge.rw_xm0726_01.row.prog w) (callerA.deeper (envX cn cs L ca ccd cl)) (call (.ref 307) [.int argument t1, .int away t2, .int bs t3, .int held t4, .int shift t5]) Q E s := by
  k_with "callWith ref cons nil" => (k_here; (with_reducible show wpAny _ _ (callWith _ _ _ (backTo _ (starEach [] _)) _) _ _ _); k_dflt (refine callWith_K0 (Frag.In.keeps (by with_reducible assumption) (Fr.keep (by with_reducible assumption))) (by k_is) ?_))
  k_with "call ref cons nil" => (k_here; (fail_if_success (with_reducible rename NoTok => hNT')); (with_reducible show wpAny _ _ (call (Value.ref 28) _) _ _ _); refine Wrap.out ?_)
  k_with "eval IfExp Compare BinOp Constant" => (k_here; (fail_if_success (with_reducible rename NoTok => hNT')); refine Wrap.out ?_)
  k_with "compareOp Eq int int" => (k_here; (with_reducible refine eq_by (by with_reducible assumption) ?_))
  k_with "binaryOp Mult int int" => (k_here; (with_reducible refine mul_pow (by with_reducible assumption) (by with_reducible assumption) ?_))
  revert X
  k_fill
  intro X
  w_top off
  refine wpAny_call ?_
  k_dflt (refine' enter_drop ?k1 ?k2 ?k3 ?k4 ?k5 ?kA ?kF ?kK ?k6 ?k7 ?k8 ?k9 ?kB ?_ ?c2 ?c3 ?c4 ?c5; (case kA => exact rfl); (case kF => exact rfl); (case kK => assumption); (case k1 => k_asm); (case k2 => k_asm); (case k3 => k_asm); (case k4 => exact N); (case k5 => k_asm); (case k6 => k_is); (case k7 => k_is); (case k8 => k_room); (case k9 => exact BindsTo.of_eq rfl); (case c5 => decide); (case kB => exact locs rfl); (case c2 => exact rfl); (case c3 => exact rfl); (case c4 => exact rfl); k_whole; intro g' L' h' FG' F' N' hrec B' X' T'; (try dsimp only); (try k_lift B'); (try k_fold))
  clear N
  k_steps
  refine Wrap.mk ?_
  (with_reducible rename News _ _ _ _ => N9)
  refine cont9 N9 ?_
  clear N9
  intros
  have hNF : NoFor := NoFor.mk
  k_with_none
  k_with "callWith ref cons nil" => (k_here; (with_reducible show wpAny _ _ (callWith _ _ _ (backTo _ (starEach [] _)) _) _ _ _); k_dflt (refine callWith_K0 (Frag.In.keeps (by with_reducible assumption) (Fr.keep (by with_reducible assumption))) (by k_is) ?_))
  k_with "call ref cons nil" => (k_here; (fail_if_success (with_reducible rename NoTok => hNT')); (with_reducible show wpAny _ _ (call (Value.ref 28) _) _ _ _); refine Wrap.out ?_)
  k_with "eval IfExp Compare BinOp Constant" => (k_here; (fail_if_success (with_reducible rename NoTok => hNT')); refine Wrap.out ?_)
  k_with "compareOp Eq int int" => (k_here; (with_reducible refine eq_by (by with_reducible assumption) ?_))
  k_with "binaryOp Mult int int" => (k_here; (with_reducible refine mul_pow (by with_reducible assumption) (by with_reducible assumption) ?_))
  k_steps
  refine Wrap.mk ?_
  refine int_join (ToldP argument away shift) (by k_asm) (by k_asm) ?_ ?_
  · have hNT : NoTok := NoTok.mk
    k_steps
    all_goals (try dsimp only)
    all_goals (try (k_unfold; (try dsimp only)))
    k_steps
    all_goals (try dsimp only)
    all_goals refine int_at (by k_asm) (by k_asm) ?_
    all_goals first | exact told_none hheld hheld2 (by assumption) | exact told_hi hheld hheld2 hshift hshift2 (by assumption) (by assumption) | exact told_lo hheld hheld2 hshift hshift2 (by assumption) (by assumption)
  intro rT tT hT tkT hP FT NT
  (try dsimp only)
  k_steps
  refine Wrap.mk ?_
  refine int_join (fun d => rT * 2 ^ shift.toNat = d) (by k_asm) (by k_asm) ?_ ?_
  · have hNT : NoTok := NoTok.mk
    k_steps
    all_goals (try dsimp only)
    all_goals (try (k_unfold; (try dsimp only)))
    k_steps
    all_goals (try dsimp only)
    all_goals refine int_at (by k_asm) (by k_asm) ?_
    all_goals first | exact due_is hP (by assumption) | exact due_none hP (by assumption)
  intro rD tD hD tkD hQ FD ND
  (try dsimp only)
  k_steps
  all_goals refine ret_true (hret _ _ (by k_asm) (hrec _ (Fr.keep (L := L') (by k_asm)))) ?_
  all_goals rfl
end PartRT
section PartLP
abbrev TwoC := Int × Nat × Int × Nat × Nat
abbrev twoLed (l : Addr) (c : TwoC) : List (Addr × Obj) := [(l, listOf [Value.int c.1 c.2.1, Value.int c.2.2.1 c.2.2.2.1].toArray c.2.2.2.2)]
abbrev twoP (_ : List Int) (c : TwoC) : Prop := 0 ≤ c.1 ∧ 0 ≤ c.2.2.1 ∧ c.2.2.1 < 2147483647
section
variable {prog : Program} {w : World} {A : Around} {E : Value → Shared → Prop} {s : Shared} {env : Env} {h₀ : Heap} {x : Str} {body : List Stmt} {Q : Flow → Shared → Prop}
theorem two_loop {r l : Addr} {a₀ b₀ a b : Int} {t₀ u₀ v₀ ta tb : Tok} {n nn : Nat} {m₀ : Str → Option Value} (stored : List Str)
    (hh : A.handled = none) (hr : IsRange s.heap r a₀ b₀ 1 t₀ u₀ v₀) (hsmall : Builtin.Range.small a₀ b₀ 1 = true) (hn : Builtin.Range.rangeSize a₀ b₀ 1 = (n : Int)) (F : Fr h₀ env.locals s.heap m₀)
    (N : News h₀ env.locals s.heap [(l, listOf [Value.int a ta, Value.int b tb].toArray nn)]) (ha : 0 ≤ a) (hb : 0 ≤ b) (hb2 : b < 2147483647)
    (turn : ∀ (pre : List Int) (k : Int) (t : Tok) (u : Str → Option Value) (h : Heap) (tk : Nat) (own : List (Addr × Obj)) (a : Int) (ta : Tok) (b : Int) (tb : Tok) (nn : Nat), OwnOff own [l] → 0 ≤ a → 0 ≤ b → b < 2147483647 →
      Fr h₀ env.locals h (fun y => if y = x then some (.int k t) else if stored.contains y then u y else m₀ y) → News h₀ env.locals h ((l, listOf [Value.int a ta, Value.int b tb].toArray nn) :: own) →
      wpAny (model prog w) A (execs body env) (InvPostN h₀ env.locals (KstS (twoLed l) (fun _ => []) (fun _ => True) x stored m₀ twoP (pre ++ [k])) own [l] { s with heap := h, toks := tk } Q) E { s with heap := h, toks := tk })
    (done : ∀ (u : Str → Option Value) (h : Heap) (tk : Nat) (a : Int) (ta : Tok) (b : Int) (tb : Tok) (nn : Nat), Fr h₀ env.locals h (fun y => if y = x then u y else if stored.contains y then u y else m₀ y) → News h₀ env.locals h [(l, listOf [Value.int a ta, Value.int b tb].toArray nn)] → Q .next { s with heap := h, toks := tk }) :
    wpAny (model prog w) A (pyIter (.ref r)) (fun it s₂ => LoopAtV prog w A h₀ env x body Q E it s₂) E s := by
  refine kst_range (twoLed l) (fun _ => []) (fun _ => True) stored twoP (a, ta, b, tb, nn) hh hr hsmall hn F N trivial (fun _ hp => nomatch hp) ⟨ha, hb, hb2⟩ ?_ ?_
  · rintro ⟨a, ta, b, tb, nn⟩ pre k t u h tk own _ _ hoff _ ⟨ha, hb, hb2⟩ F' N'
    exact turn pre k t u h tk own a ta b tb nn hoff ha hb hb2 F' N'
  · rintro ⟨a, ta, b, tb, nn⟩ u h tk _ _ F' N'
    exact done u h tk a ta b tb nn F' N'
end
theorem two_end {L l : Addr} {h₀ h' : Heap} {x : Str} {m' m₀ : Str → Option Value} {own : List (Addr × Obj)} {a b : Int} {ta tb : Tok} {nn tk : Nat} {stored : List Str} {pre : List Int} {s₁ : Shared} (F : Fr h₀ L h' m') (N : News h₀ L h' ((l, listOf [Value.int a ta, Value.int b tb].toArray nn) :: own)) (ha : 0 ≤ a) (hb : 0 ≤ b) (hb2 : b < 2147483647)
    (hr : ∀ z, z ≠ x → stored.contains z = false → m' z = m₀ z) : InvEndN h₀ L (KstS (twoLed l) (fun _ => []) (fun _ => True) x stored m₀ twoP pre) own [l] s₁ { s₁ with heap := h', toks := tk } :=
  kst_end (Led := twoLed l) (a, ta, b, tb, nn) F N (fun p hp => by rw [List.mem_singleton.mp hp]; exact .head _) (fun p hp => .tail _ hp) rfl trivial (fun _ hp => nomatch hp) (fun z h1 _ h3 => hr z h1 h3) ⟨ha, hb, hb2⟩
theorem sub_of {h₀ : Heap} {L : Addr} {h : Heap} {l l' : List (Addr × Obj)} (N : News h₀ L h l) (hs : ∀ p ∈ l', p ∈ l) : News h₀ L h l' := fun p hp => N p (hs p hp)
theorem two_mem {news own : List (Addr × Obj)} {p : Addr × Obj} (h1 : p ∈ news) (h2 : ∀ q ∈ own, q ∈ news) : ∀ q ∈ p :: own, q ∈ news := fun q hq => by
  rcases List.mem_cons.mp hq with e | hq
  · exact e ▸ h1
  · exact h2 q hq
theorem off_one {own : List (Addr × Obj)} {l : Addr} (h : OwnOff own [l]) : ∀ p ∈ own, p.1 ≠ l := fun p hp => h p hp l (.head _)
end PartLP
section PartLM
theorem take_use {w : World} {loose : List Str} {mean : ExcName → Option Value} {mg mb : Str → Option Value} {dp un : Nat} {gd : Option (List Code)} {cn : Str} {cs : Scope} {ca : Addr} {ccd : Value} {cl : List (Str × Addr)} {outer : List Env} {A₀ : Around} {base h₀ : Heap} {L : Addr} {m : Str → Option Value} {s : Shared} {Q E : Value → Shared → Prop}
    {l : Addr} {a b top : Int} {ta tb tt : Tok} {n : Nat} {news own : List (Addr × Obj)}
    (hoff : OwnOff own [l]) (B : Below A₀ base outer h₀) (F : Fr h₀ L s.heap m) (X : (hd.heap_39 w.params).In h₀) (N : News h₀ L s.heap news) (hm : (l, listOf [Value.int a ta, Value.int b tb].toArray n) ∈ news) (ho : ∀ p ∈ own, p ∈ news) (T : Top vw loose mean mg mb h₀) (hk : cs.kind = .function)
    (ha : 0 ≤ a) (hb : 0 ≤ b) (hb2 : b < 2147483647) (htop : 0 < top) (htop2 : top ≤ 256)
    (hdp : dp + 1 < recursionLimit) (hun : un + 8 < cLine)
    (hret : ∀ (r : Int) (t : Tok) (a' : Int) (ta' : Tok) (b' : Int) (tb' : Tok) (n' : Nat) (h' : Heap) (tk' : Nat), 0 ≤ r → r < top → 0 ≤ a' → 0 ≤ b' → b' < 2147483647 → Fr h₀ L h' m → News h₀ L h' ((l, listOf [Value.int a' ta', Value.int b' tb'].toArray n') :: own) → Q (.int r t) { s with heap := h', toks := tk' }) :
    wpAny (model PySem.Challenge.rw_xm0726_01.row.prog w) (ktrTop dp un gd cn cs L ca ccd cl outer) (call (.ref 293) [.ref l, .int top tt]) Q E s :=
  take_ok _ _ _ _ _ _ _ _ _ _ _ _ _ _ _ _ _ _ _ _ _ _ _ _ _ _ _ _ _ _ _ B F X (sub_of N (two_mem hm ho)) T hk (off_one hoff) ha hb hb2 htop htop2 hdp hun hret
theorem one_use {w : World} {loose : List Str} {mean : ExcName → Option Value} {mg mb : Str → Option Value} {dp un : Nat} {gd : Option (List Code)} {cn : Str} {cs : Scope} {ca : Addr} {ccd : Value} {cl : List (Str × Addr)} {outer : List Env} {A₀ : Around} {base h₀ : Heap} {L : Addr} {m : Str → Option Value} {s : Shared} {Q E : Value → Shared → Prop}
    {l D : Addr} {a b : Int} {ta tb : Tok} {n nD : Nat} {vs : List Value} {ns : List Int} {news own : List (Addr × Obj)} {lo up : Int}
    (hoff : OwnOff own [l]) (B : Below A₀ base outer h₀) (F : Fr h₀ L s.heap m) (X : (hd.heap_39 w.params).In h₀) (N : News h₀ L s.heap news) (hD : (D, listOf vs.toArray nD) ∈ news) (hm : (l, listOf [Value.int a ta, Value.int b tb].toArray n) ∈ news) (ho : ∀ p ∈ own, p ∈ news) (T : Top vw loose mean mg mb h₀) (hk : cs.kind = .function)
    (hi : IntsAre vs ns) (hlen : 0 < ns.length) (hlen2 : ns.length ≤ 256) (hall : ns.all (fun k => decide (lo ≤ k) && decide (k ≤ up)) = true) (hDl : D ≠ l)
    (ha : 0 ≤ a) (hb : 0 ≤ b) (hb2 : b < 2147483647)
    (hdp : dp + 2 < recursionLimit) (hun : un + 16 < cLine)
    (hret : ∀ (r : Int) (t : Tok) (a' : Int) (ta' : Tok) (b' : Int) (tb' : Tok) (n' : Nat) (h' : Heap) (tk' : Nat), Fr h₀ L h' m → News h₀ L h' ((l, listOf [Value.int a' ta', Value.int b' tb'].toArray n') :: own) → lo ≤ r → r ≤ up → 0 ≤ a' → 0 ≤ b' → b' < 2147483647 → Q (.int r t) { s with heap := h', toks := tk' }) :
    wpAny (model PySem.Challenge.rw_xm0726_01.row.prog w) (ktrTop dp un gd cn cs L ca ccd cl outer) (call (.ref 300) [.ref l, .ref D]) Q E s :=
  one_ok _ _ _ _ _ _ _ _ _ _ _ _ _ _ _ _ _ _ _ _ _ _ _ _ _ _ _ _ _ _ _ _ _ _ _ B F X (sub_of N (two_mem hD (two_mem hm ho))) T hk hi hlen hlen2 hall (off_one hoff) hDl ha hb hb2 hdp hun hret
theorem all_in {ns : List Int} (lo up : Int) (h : ns.all (fun k => decide (lo ≤ k) && decide (k ≤ up)) = true) : ns.all (fun k => decide (lo ≤ k) && decide (k ≤ up)) = true := h
set_option maxRecDepth 100000 in
set_option maxHeartbeats 40000000 in
theorem lm : PySem.Challenge.rw_xm0726_01.Holds := hd (by
  k_with "call ref cons nil" => (k_here; (show wpAny _ _ (call (Value.ref 293) _) _ _ _); k_dflt (refine take_use (by assumption) (by k_asm) (by k_asm) (by k_asm) (by k_asm) (by k_mem) (by kst_allIn) (by k_asm) (by exact rfl) (by k_asm) (by k_asm) (by k_asm) (by first | assumption | decide | omega) (by first | assumption | decide | omega) (by ktr_room) (by ktr_units) ?_); intros)
  k_with "call ref cons nil" => (k_here; (show wpAny _ _ (call (Value.ref 300) _) _ _ _); k_dflt (refine one_use (by assumption) (by k_asm) (by k_asm) (by k_asm) (by k_asm) (by k_mem) (by k_mem) (by kst_allIn) (by k_asm) (by exact rfl) (by repeat constructor) (by decide) (by decide) (by first | exact all_in (-5) 20 (by decide) | exact all_in 0 32 (by decide) | exact all_in (-16) 16 (by decide) | exact all_in (-8388608) 65535 (by decide)) (by k_ne) (by k_asm) (by k_asm) (by k_asm) (by ktr_room) (by ktr_units) ?_); intros)
  k_with "call ref cons nil" => (k_here; (show wpAny _ _ (call (Value.ref 307) _) _ _ _); k_dflt (refine right_ok _ _ _ _ _ _ _ _ _ _ _ _ _ _ _ _ _ _ _ _ _ _ _ _ _ _ _ _ _ (by k_asm) (by k_asm) (by k_asm) (by first | k_asm | exact News.nil) (by k_asm) (by exact rfl) (by first | assumption | decide | omega) (by first | assumption | decide | omega) (by first | assumption | decide | omega) (by first | assumption | decide | omega) (by first | assumption | decide | omega) (by first | assumption | decide | omega) (by first | assumption | decide | omega) (by first | assumption | decide | omega) ?_); intros)
  k_with "call ref cons nil" => (k_here; (show wpAny _ _ (call (Value.ref 286) _) _ _ _); k_dflt (refine pool_ok _ _ _ _ _ _ _ _ _ _ _ _ _ _ _ _ _ _ _ _ _ _ _ _ _ (by k_asm) (by k_asm) (by k_asm) (by first | k_asm | exact News.nil) (by k_asm) (by exact rfl) (by k_asm) (by l_ints) (by l_fit) (by ktr_room) (by ktr_units) ?_); intros)
  k_with "pyIter ref" => ((rename Fr _ _ _ _ => lF'); (rename News _ _ _ _ => lN'); (rename IsRange _ _ _ _ _ _ _ _ => rgX); (with_unfolding_all refine two_loop [Str.ofString "argument", Str.ofString "away", Str.ofString "base"] (by rfl) rgX (by decide) (by first | exact rangeSize_nat _ _ | rfl) lF' lN' (by assumption) (by assumption) (by assumption) ?_ ?_); (try clear lF' lN'); (all_goals (have hMk' := kstMark)); (all_goals intros); (all_goals (try k_fold)))
  k_with "InvEndN cons" => ((rename News _ _ _ _ => nE'); k_dflt (refine two_end (by k_asm) nE' (by k_asm) (by k_asm) (by k_asm) (fun z h1 h3 => by (simp only [List.contains_cons, List.contains_nil, Bool.or_false, Bool.or_eq_false_iff, beq_eq_false_iff_ne, ne_eq] at h3); (simp [h1, h3]; done))))
  k_go0; (all_goals try k_fold); k_steps)
end PartLM
end Mine
theorem PySem.Challenge.cw_xm0726_01_holds : PySem.Challenge.rw_xm0726_01.Holds := by
  exact Mine.lm
