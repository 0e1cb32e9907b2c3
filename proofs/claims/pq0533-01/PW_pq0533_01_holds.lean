import PyProof.Rows.All
import Wide.All
import OpenK.AllK
import Wide.FinOn
import Lean
import PySem.Challenge.RW_pq0533_01
set_option Elab.async false
open PySem PySem.W PyProof.Rows

section
open PySem PySem.W PyProof.Rows
namespace Mine
set_option maxRecDepth 100000
set_option maxHeartbeats 16000000
/-- the text's statements without the three that give the module's name -/
def view : Program := { PySem.Challenge.pw_pq0533_01 with main := { PySem.Challenge.pw_pq0533_01.main with body := (PySem.Challenge.pw_pq0533_01.main.body.drop 1).take 5 ++ ((PySem.Challenge.pw_pq0533_01.main.body.drop 7).take 7 ++ PySem.Challenge.pw_pq0533_01.main.body.drop 15) } }
theorem left_boot {p q : Program} {loose : List Str} {Xt : Shared → Bool} {α : Type} {Yf : Shared → α} {Ya : World → α} {N : Nat} {g0 : Bool}
    (open_ : ∀ w : World, (fencedOpening treeTable p w N).map (fun s => (s.heap, s.gens, s.drawn, s.toks)) = some (boot_heap w.params, Array.mk [], boot_drawn, boot_toks))
    (h : ∀ (w : World) (os : OsState), (topFrom treeTable p w N ⟨boot_heap w.params, Array.mk [], boot_drawn, boot_toks, os⟩).map (fun s => (openSeen q loose (importedModules p.main.body) Xt g0 s, Yf s)) = some (openGood q loose, Ya w)) :
    LeftO p q loose Xt Yf Ya N g0 := fun w => by
  obtain ⟨⟨h', gs, d, k, os⟩, e, e'⟩ := Option.map_eq_some_iff.mp (open_ w)
  obtain ⟨rfl, rfl, rfl, rfl⟩ : h' = boot_heap w.params ∧ gs = Array.mk [] ∧ d = boot_drawn ∧ k = boot_toks := by simpa using e'
  unfold openEnds
  rw [e]
  exact h w os
theorem open_boot : ∀ w : World, (fencedOpening treeTable PySem.Challenge.pw_pq0533_01 w 2666).map (fun s => (s.heap, s.gens, s.drawn, s.toks)) = some (boot_heap w.params, Array.mk [], boot_drawn, boot_toks) :=
  boot_open (by kernel_rfl) (by decide +kernel) (fun s => by kernel_rfl)
local macro_rules | `(tactic| o_law) => `(tactic| refine holds_law (by rw [PySem.W.Fast.te9446332074065402090]; kernel_rfl) fun said => ?_)
local macro_rules | `(tactic| o_head (kHook $k $a $p)) => `(tactic| (refine holds_open (q := view) (loose := []) (Xt := fun s => xlAt view [] s && recOk (RowW.records (OpenRow.toRowW (OpenLaw.row PySem.Challenge.rw_pq0533_01))) s) (XP := XL view []) (Yf := Hook.obs (kHook $k $a $p)) (Ya := Hook.val (kHook $k $a $p)) (YP := Hook.says (kHook $k $a $p)) (N := 2666) ?hl (Hook.of (kHook $k $a $p)) (Hook.keeps (kHook $k $a $p)) (fun s e => xl_of s (Bool.and_eq_true_iff.mp e).1) XL.keeps (by rfl) (by rfl) (by rfl) (fun s e => recFacts_of (Bool.and_eq_true_iff.mp e).2) (by rfl) (by assumption) (by decide +kernel) ⟨rfl, rfl, rfl, rfl, rfl, by decide +kernel⟩ ?hw ?hc; (case hl => (refine left_boot open_boot ?_; intro w os; unfold topFrom; rw [PySem.W.Fast.te14082659384304107361, PySem.W.Fast.te4187177175401517315]; kernel_rfl))))
open_top hd for PySem.Challenge.rw_pq0533_01
end Mine
end

theorem Mine.topOff : True := by w_top off; trivial

section
open PySem PySem.W PyProof.Rows PySem.Calls PySem.Spec
namespace Mine
set_option maxRecDepth 100000

abbrev AT (dp un : Nat) (fr : Option (List Env)) (gd : Option (List Code)) : Around := { handled := none, depth := dp, frames := fr, guards := gd, units := un }

section
variable {prog : Program} {w : World} {A : Around} {E : Value → Shared → Prop} {s : Shared} {K : Frag} {p : Program} {loose : List Str} {mean : ExcName → Option Value} {mg mb : Str → Option Value} {Q : Value → Shared → Prop}
  {name qual : Str} {params : Arguments} {body : List Stmt} {scope : Scope} {dV kV doc pm cdv ct oc : Value} {an od : Option Addr} {osl : Array (Option Value)} {f : Addr} {vals : List Value} {binds : List (Str × Value)}

theorem ent_plain (X : K.In s.heap) (T : Top p loose mean mg mb s.heap)
    (ho : K.lookup f = some ⟨oc, od, .func (fnOf name qual params body scope dV kV doc pm an cdv ct), osl⟩) (hcd : codeIn K cdv qual = true) (hroom : A.depth < recursionLimit)
    (hbind : BindsTo s (fnOf name qual params body scope dV kV doc pm an cdv ct) ⟨vals, []⟩ binds) (hloc : ∀ y ∈ binds, scope.names.lookup y.1 = some .local)
    (h : ∀ L' h₁, Fr s.heap L' h₁ (fun y => binds.reverse.lookup y) → News s.heap L' h₁ [] →
      wpAny (model prog w) (A.deeper (envOf qual scope L' f cdv)) (execs body (envOf qual scope L' f cdv))
        (fun fl s' => Q (match fl with | .ret v => v | _ => .none) s') 
        (fun e s' => wpAny (model prog w) (A.deeper (envOf qual scope L' f cdv)) (leaving (envOf qual scope L' f cdv) e) (fun _ s'' => E e s'') (fun e' s'' => E e' s'') s')
        { s with heap := h₁, toks := s.toks + binds.length })
    (hco : scope.isCoroutine = false) (hgen : scope.isGenerator = false) (hk : scope.kind = .function)
    (hcell : ∀ x ∈ scope.names, x.2 ≠ .cell) : wpAny (model prog w) A (call (.ref f) vals) Q E s := by
  refine wpAny_call (codeAny_call_def (fd := fnOf name qual params body scope dV kV doc pm an cdv ct) (body := body) (binds := binds) hroom (X _ _ ho) rfl T.nolimit (codeRec_of X hcd) rfl hbind hcell hloc (fun h₁ hns hk₁ => ?_) hco hgen hk)
  exact wpAny_mono (h s.heap.objs.size h₁ ⟨hns, hk₁, Nat.le_refl _⟩ News.nil) (fun fl s' hl => hl) fun _ _ y => y
end

/-- what a call of ours leaves: the old heap, and new objects -/
def NewIn (h h' : Heap) (new : List (Addr × Obj)) : Prop := ∀ q ∈ new, h'.get? q.1 = some q.2 ∧ h.get? q.1 = none

structure Apart (l : Addr) (news : List (Addr × Obj)) : Prop where
  off : ∀ p ∈ news, p.1 ≠ l
theorem Apart.ne {l a : Addr} {o : Obj} {news : List (Addr × Obj)} (h : Apart l news) (m : (a, o) ∈ news) : a ≠ l := h.off _ m

theorem apart_of_lt {I : Addr} {news : List (Addr × Obj)} (h : ∀ p ∈ news, p.1 < I) : Apart I news := ⟨fun p hp => Nat.ne_of_lt (h p hp)⟩
section
variable {α : Type} {x : α} {l : List α}
theorem mem0 : x ∈ x :: l := .head _
theorem mem1 {a0 : α} : x ∈ a0 :: x :: l := .tail _ mem0
theorem mem2 {a0 a1 : α} : x ∈ a0 :: a1 :: x :: l := .tail _ mem1
theorem mem3 {a0 a1 a2 : α} : x ∈ a0 :: a1 :: a2 :: x :: l := .tail _ mem2
theorem mem4 {a0 a1 a2 a3 : α} : x ∈ a0 :: a1 :: a2 :: a3 :: x :: l := .tail _ mem3
theorem mem5 {a0 a1 a2 a3 a4 : α} : x ∈ a0 :: a1 :: a2 :: a3 :: a4 :: x :: l := .tail _ mem4
theorem mem6 {a0 a1 a2 a3 a4 a5 : α} : x ∈ a0 :: a1 :: a2 :: a3 :: a4 :: a5 :: x :: l := .tail _ mem5
theorem mem7 {a0 a1 a2 a3 a4 a5 a6 : α} : x ∈ a0 :: a1 :: a2 :: a3 :: a4 :: a5 :: a6 :: x :: l := .tail _ mem6
theorem memT8 {a0 a1 a2 a3 a4 a5 a6 a7 : α} (h : x ∈ l) : x ∈ a0 :: a1 :: a2 :: a3 :: a4 :: a5 :: a6 :: a7 :: l := .tail _ (.tail _ (.tail _ (.tail _ (.tail _ (.tail _ (.tail _ (.tail _ h)))))))
end
section
variable {h₀ h h' : Heap} {L : Addr} {m : Str → Option Value} {news new : List (Addr × Obj)}
theorem fr_stays (F : Fr h₀ L h m) (k : h.StaysIn h') : Fr h₀ L h' m := by
  obtain ⟨⟨oL, es, ep, hL, r⟩, k1, k2⟩ := F
  exact ⟨⟨oL, es, ep, k _ _ hL, r⟩, fun b o e => k b o (k1 b o e), k2⟩
theorem news_stays (N : News h₀ L h news) (k : h.StaysIn h') : News h₀ L h' news := fun p hp => ⟨k _ _ (N p hp).1, (N p hp).2⟩
theorem news_new (F : Fr h₀ L h m) (N : News h₀ L h news) (k : h.StaysIn h') (hn : NewIn h h' new) : News h₀ L h' (new ++ news) := by
  intro p hp
  rcases List.mem_append.mp hp with q | q
  · obtain ⟨a, b⟩ := hn p q
    refine ⟨a, fun e => ?_, ?_⟩
    · obtain ⟨oL, _, _, hL, _⟩ := F.ns
      rw [e, hL] at b; cases b
    · cases hq : h₀.get? p.1 with
      | none => rfl
      | some o => have := F.keep _ _ hq; rw [b] at this; cases this
  · exact news_stays N k p q
theorem apart_new (N : News h₀ L h news) (hn : NewIn h h' new) {a : Addr} {o : Obj} (hm : (a, o) ∈ new) : Apart a news := ⟨fun p hp e => by
  have h1 := (hn _ hm).2
  rw [← e, (N p hp).1] at h1
  cases h1⟩
theorem newIn_of (N : News h L h' news) : NewIn h h' news := fun q hq => ⟨(N q hq).1, (N q hq).2.2⟩
theorem newIn_sub {new' : List (Addr × Obj)} (N : NewIn h h' new) (hs : ∀ p ∈ new', p ∈ new) : NewIn h h' new' := fun q hq => N q (hs q hq)
end

/-- a bound that no tactic is to look into -/
structure Small (n : Int) : Prop where
  lt : n < 1152921504606846976
theorem Small.pow {n : Int} (h : Small n) : n < 2 ^ 60 := by have := h.lt; simpa using this

/-- the value of limbs, the least first -/
def num (k : Int) : List Int → Int
  | [] => 0
  | d :: r => num k r * 2 ^ k.toNat + d
theorem num_snoc (k : Int) (l : List Int) : num k l = l.reverse.foldl (fun f d => f * 2 ^ k.toNat + d) 0 := by
  induction l with
  | nil => rfl
  | cons d r ih => rw [List.reverse_cons, List.foldl_append, ← ih]; rfl
end Mine
end

local macro_rules | `(tactic| walk_at $s:str) => `(tactic| k_extra $(Lean.Syntax.mkStrLit ("my " ++ s.getString)):str)
local macro_rules | `(tactic| k_ne) => `(tactic| k_extra "my k_ne")
local macro_rules | `(tactic| k_all) => `(tactic| k_extra "my k_all")
local macro_rules | `(tactic| k_lt $h:ident) => `(tactic| (k_extra "my lt"; replace $h := Mine.apart_of_lt $h))
local macro_rules | `(tactic| lcg_src) => `(tactic| k_extra "my lcg_src")
local macro_rules | `(tactic| k_mem) => `(tactic| first | exact Mine.mem0 | exact Mine.mem1 | exact Mine.mem2 | exact Mine.mem3 | exact Mine.mem4 | exact Mine.mem5 | exact Mine.mem6 | exact Mine.mem7 | (refine Mine.memT8 ?_; k_mem))

section
open PySem PySem.W PyProof.Rows PySem.Calls PySem.Spec
namespace Mine
set_option maxRecDepth 100000
set_option maxHeartbeats 16000000
theorem fill1 : hd.heap_1 = hd.heap_1 ∧ PySem.Challenge.rw_pq0533_01 = PySem.Challenge.rw_pq0533_01 := by k_fill; exact ⟨rfl, rfl⟩

theorem two_le_pow {k : Int} (hk : 1 ≤ k) : (2 : Int) ≤ 2 ^ k.toNat := by
  have e : k.toNat = (k.toNat - 1) + 1 := by omega
  rw [e, Int.pow_succ]
  have := Int.pow_pos (n := (2:Int)) (m := k.toNat - 1) (by decide)
  omega
theorem one_le_pow {k : Int} : (1 : Int) ≤ 2 ^ k.toNat := by
  have := Int.pow_pos (n := (2:Int)) (m := k.toNat) (by decide)
  omega

/-- ds are limbs of n, perhaps not the shortest -/
structure Limbs (k : Int) (ds : List Int) (n : Int) : Prop where
  eq : num k ds = n
  pos : ∀ d ∈ ds, 0 ≤ d
  len : ds.length < 100
  small : Small n

theorem fold_mono {k : Int} : ∀ (l : List Int) (f : Int), 0 ≤ f → (∀ d ∈ l, 0 ≤ d) → f ≤ l.foldl (fun f d => f * 2 ^ k.toNat + d) f
  | [], _, _, _ => Int.le_refl _
  | d :: r, f, hf, hd => by
    have h1 : 1 ≤ (2 : Int) ^ k.toNat := one_le_pow
    have h2 : f * 1 ≤ f * 2 ^ k.toNat := Int.mul_le_mul_of_nonneg_left h1 hf
    have h3 := hd d (.head _)
    have := fold_mono (k := k) r (f * 2 ^ k.toNat + d) (by omega) (fun x hx => hd x (.tail _ hx))
    simp only [List.foldl_cons]
    omega
theorem num_pre {k n : Int} {ds pre post : List Int} (he : ds.reverse = pre ++ n :: post) (hb : ∀ d ∈ ds, 0 ≤ d) :
    0 ≤ pre.foldl (fun f d => f * 2 ^ k.toNat + d) 0 ∧ pre.foldl (fun f d => f * 2 ^ k.toNat + d) 0 ≤ num k ds := by
  have hb' : ∀ d ∈ pre ++ n :: post, 0 ≤ d := fun d hd => hb d (List.mem_reverse.mp (he ▸ hd))
  have h1 := fold_mono (k := k) pre 0 (Int.le_refl _) fun d hd => hb' d (List.mem_append_left _ hd)
  refine ⟨h1, ?_⟩
  rw [num_snoc, he, List.foldl_append]
  exact fold_mono _ _ h1 fun d hd => hb' d (List.mem_append_right _ hd)
theorem num_small {k n N : Int} {ds pre post : List Int} (he : ds.reverse = pre ++ n :: post) (hd : Limbs k ds N) :
    (pre.foldl (fun f d => f * 2 ^ k.toNat + d) 0).natAbs < 2 ^ 64 := by
  have h1 := num_pre (k := k) he hd.pos
  have h2 := hd.small.lt
  rw [hd.eq] at h1
  omega

section
variable {w : World} {loose : List Str} {mean : ExcName → Option Value} {mg mb : Str → Option Value} {dp un : Nat} {fr : Option (List Env)} {gd : Option (List Code)} {s : Shared} {Q E : Value → Shared → Prop}
    {a : Addr} {vs : List Value} {ds : List Int} {k n : Int} {tk : Tok}
theorem c_number
    (X : (hd.heap_1 w.params).In s.heap) (T : Top view loose mean mg mb s.heap)
    (hk1 : 1 ≤ k) (hk9 : k ≤ 9) (hdp : dp + 2 < recursionLimit)
    (hl : s.heap.IsList a vs.toArray) (hi : IntsAre vs ds) (hD : Limbs k ds n)
    (hret : ∀ t h' tk', s.heap.StaysIn h' → Q (.int n t) { s with heap := h', toks := tk' }) :
    wpAny (model PySem.Challenge.rw_pq0533_01.row.prog w) (AT dp un fr gd) (call (.ref 136) [.ref a, .int k tk]) Q E s := by
  refine' ent_plain X T ?k6 ?k7 ?k8 ?k9 ?kB ?_ ?c2 ?c3 ?c4 ?c5
  case k6 => k_is
  case k7 => k_is
  case k8 => show dp < recursionLimit; omega
  case k9 => exact BindsTo.of_eq rfl
  case kB => exact locs rfl
  case c2 => exact rfl
  case c3 => exact rfl
  case c4 => exact rfl
  case c5 => decide
  intro L' h₁ F' N'
  dsimp only
  k_fold
  have hlen := hD.len
  k_with_none
  k_with "my lt" => skip
  k_with "my k_ne" => (refine neN ?_; (try dsimp only); first | exact Apart.ne (by assumption) (by k_mem) | exact Ne.symm (Apart.ne (by assumption) (by k_mem)))
  k_with "pyIter ref" => k_state (fun pre found => found = pre.foldl (fun f d => f * 2 ^ k.toNat + d) 0) "found"
  k_with "binaryOp LShift int int" => (refine' lshift_int_small ?a ?b ?c ?_; (case a => omega); (case b => omega); (case c => (have hq := num_small (by assumption) hD; simp_all)))
  k_with "state" => (simp only [List.foldl_append, List.foldl_cons, List.foldl_nil] at *; omega)
  k_steps
  all_goals (try k_data)
  rename_i kInv kFr _ _ _ _
  rw [← num_snoc, hD.eq] at kInv
  subst kInv
  exact hret _ _ _ kFr.keep

theorem u_number {h₀ : Heap} {L : Addr} {m : Str → Option Value} {news : List (Addr × Obj)} (F : Fr h₀ L s.heap m) (X₀ : (hd.heap_1 w.params).In h₀) (N : News h₀ L s.heap news) (T : Top view loose mean mg mb h₀)
    (hk1 : 1 ≤ k) (hk9 : k ≤ 9) (hdp : dp + 2 < recursionLimit)
    (hl : s.heap.IsList a vs.toArray) (hi : IntsAre vs ds) (hD : Limbs k ds n)
    (hret : ∀ t h' tk', Fr h₀ L h' m → News h₀ L h' news → Q (.int n t) { s with heap := h', toks := tk' }) :
    wpAny (model PySem.Challenge.rw_pq0533_01.row.prog w) (AT dp un fr gd) (call (.ref 136) [.ref a, .int k tk]) Q E s :=
  c_number (X₀.keeps F.keep) (T.keeps F.keep) hk1 hk9 hdp hl hi hD fun t h' tk' st => hret t h' tk' (fr_stays F st) (news_stays N st)
end
end Mine
end

section
open PySem PySem.W PyProof.Rows PySem.Calls PySem.Spec
namespace Mine
set_option maxRecDepth 100000
set_option maxHeartbeats 16000000
theorem fill2 : hd.heap_1 = hd.heap_1 ∧ PySem.Challenge.rw_pq0533_01 = PySem.Challenge.rw_pq0533_01 := by k_fill; exact ⟨rfl, rfl⟩

/-- the limbs of a number, the least first -/
def dig (k : Int) (n : Int) : List Int :=
  if _h : 0 < n ∧ 1 ≤ k then n % 2 ^ k.toNat :: dig k (n / 2 ^ k.toNat) else []
termination_by n.toNat
decreasing_by
  have h2 : (2 : Int) ≤ 2 ^ k.toNat := by
    have e : k.toNat = (k.toNat - 1) + 1 := by omega
    rw [e, Int.pow_succ]
    have := Int.pow_pos (n := (2:Int)) (m := k.toNat - 1) (by decide)
    omega
  have h3 : n / 2 ^ k.toNat < n := Int.ediv_lt_self_of_pos_of_ne_one _h.1 (by omega)
  omega

theorem dig_pos {k n : Int} (hk : 1 ≤ k) (hn : 0 < n) : dig k n = n % 2 ^ k.toNat :: dig k (n / 2 ^ k.toNat) := by rw [dig, dif_pos ⟨hn, hk⟩]
theorem dig_zero {k n : Int} (hn : n ≤ 0) : dig k n = [] := by rw [dig, dif_neg (by omega)]
theorem dig_len {k : Int} (hk : 1 ≤ k) : ∀ (b : Nat) (n : Int), n < 2 ^ b → (dig k n).length ≤ b := by
  intro b
  induction b with
  | zero => intro n hn; rw [dig_zero (by simpa using Int.le_of_lt_add_one hn)]; exact Nat.le_refl _
  | succ b ih =>
    intro n hn
    by_cases h0 : 0 < n
    · rw [dig_pos hk h0, List.length_cons]
      have h2 := two_le_pow hk
      have h3 : n / 2 ^ k.toNat ≤ n / 2 := by
        refine Int.le_ediv_of_mul_le (by decide) ?_
        have h4 := Int.ediv_mul_le n (b := 2 ^ k.toNat) (by omega)
        have h5 : 0 ≤ n / 2 ^ k.toNat := Int.ediv_nonneg (by omega) (by omega)
        have h6 : n / 2 ^ k.toNat * 2 ≤ n / 2 ^ k.toNat * 2 ^ k.toNat := Int.mul_le_mul_of_nonneg_left h2 h5
        omega
      have := ih (n / 2 ^ k.toNat) (by rw [Int.pow_succ] at hn; omega)
      omega
    · rw [dig_zero (by omega)]; exact Nat.zero_le _
structure LimbInv (k n number : Int) (found : List Int) : Prop where
  eq : dig k n = found ++ dig k number
  pos : 0 ≤ number
theorem limbs_start {k n : Int} (hn : 0 ≤ n) : LimbInv k n n [] := ⟨rfl, hn⟩
theorem limbs_turn {k n number : Int} {found : List Int} (hk : 1 ≤ k) (hn : Small n) (hpos : 0 < number) (h : LimbInv k n number found) :
    LimbInv k n (number.fdiv (2 ^ k.toNat)) (found ++ [number.fmod (1 * 2 ^ k.toNat)]) ∧ (found ++ [number.fmod (1 * 2 ^ k.toNat)]).length ≤ 60 := by
  have h2 := two_le_pow hk
  obtain ⟨e, h0⟩ := h
  have hl := dig_len hk 60 n hn.pow
  have e2 : dig k n = (found ++ [number % 2 ^ k.toNat]) ++ dig k (number / 2 ^ k.toNat) := by rw [e, dig_pos hk hpos, List.append_assoc]; rfl
  rw [Int.one_mul, Int.fmod_eq_emod_of_nonneg _ (by omega), Int.fdiv_eq_ediv_of_nonneg _ (by omega)]
  refine ⟨⟨e2, Int.ediv_nonneg h0 (by omega)⟩, ?_⟩
  rw [e2, List.length_append] at hl
  omega
theorem limbs_less {k number : Int} (hk : 1 ≤ k) (hpos : 0 < number) : (number.fdiv (2 ^ k.toNat)).toNat < number.toNat := by
  have h2 := two_le_pow hk
  rw [Int.fdiv_eq_ediv_of_nonneg _ (by omega)]
  have h3 : number / 2 ^ k.toNat < number := Int.ediv_lt_self_of_pos_of_ne_one hpos (by omega)
  omega

theorem limbs_done {k n number : Int} {found : List Int} (h : LimbInv k n number found) (hn : ¬ 0 < number) : found = dig k n := by rw [h.eq, dig_zero (by omega), List.append_nil]

theorem num_dig {k : Int} (hk : 1 ≤ k) : ∀ (b : Nat) (n : Int), 0 ≤ n → n < 2 ^ b → num k (dig k n) = n ∧ ∀ d ∈ dig k n, 0 ≤ d := by
  intro b
  induction b with
  | zero => intro n h0 hn; rw [dig_zero (by simpa using Int.le_of_lt_add_one hn)]; exact ⟨by simp only [num]; simp at hn; omega, fun _ h => nomatch h⟩
  | succ b ih =>
    intro n h0 hn
    by_cases hp : 0 < n
    · have h2 := two_le_pow hk
      have h3 : n / 2 ^ k.toNat ≤ n / 2 := by
        refine Int.le_ediv_of_mul_le (by decide) ?_
        have h4 := Int.ediv_mul_le n (b := 2 ^ k.toNat) (by omega)
        have h5 : 0 ≤ n / 2 ^ k.toNat := Int.ediv_nonneg (by omega) (by omega)
        have h6 : n / 2 ^ k.toNat * 2 ≤ n / 2 ^ k.toNat * 2 ^ k.toNat := Int.mul_le_mul_of_nonneg_left h2 h5
        omega
      obtain ⟨a1, a2⟩ := ih (n / 2 ^ k.toNat) (Int.ediv_nonneg h0 (by omega)) (by rw [Int.pow_succ] at hn; omega)
      rw [dig_pos hk hp]
      refine ⟨?_, fun d hd => ?_⟩
      · simp only [num]
        rw [a1]
        exact Int.ediv_mul_add_emod n _
      · rcases List.mem_cons.mp hd with rfl | hd
        · exact Int.emod_nonneg _ (by omega)
        · exact a2 d hd
    · rw [dig_zero (by omega)]
      exact ⟨by simp only [num]; omega, fun _ h => nomatch h⟩
theorem limbs_dig {k n : Int} (hk : 1 ≤ k) (h0 : 0 ≤ n) (hn : Small n) : Limbs k (dig k n) n :=
  let h := num_dig hk 60 n h0 hn.pow
  ⟨h.1, h.2, Nat.lt_of_le_of_lt (dig_len hk 60 n hn.pow) (by decide), hn⟩

section
variable {w : World} {loose : List Str} {mean : ExcName → Option Value} {mg mb : Str → Option Value} {dp un : Nat} {fr : Option (List Env)} {gd : Option (List Code)} {s : Shared} {Q E : Value → Shared → Prop}
    {n k : Int} {tn tk : Tok}
theorem c_limbs
    (X : (hd.heap_1 w.params).In s.heap) (T : Top view loose mean mg mb s.heap)
    (hk1 : 1 ≤ k) (hk9 : k ≤ 9) (hdp : dp + 2 < recursionLimit) (hn0 : 0 ≤ n) (hn : Small n)
    (hret : ∀ l vs c h' tk', s.heap.StaysIn h' → NewIn s.heap h' [(l, W.listOf vs.toArray c)] → IntsAre vs (dig k n) → Q (.ref l) { s with heap := h', toks := tk' }) :
    wpAny (model PySem.Challenge.rw_pq0533_01.row.prog w) (AT dp un fr gd) (call (.ref 129) [.int n tn, .int k tk]) Q E s := by
  refine' ent_plain X T ?k6 ?k7 ?k8 ?k9 ?kB ?_ ?c2 ?c3 ?c4 ?c5
  case k6 => k_is
  case k7 => k_is
  case k8 => show dp < recursionLimit; omega
  case k9 => exact BindsTo.of_eq rfl
  case kB => exact locs rfl
  case c2 => exact rfl
  case c3 => exact rfl
  case c4 => exact rfl
  case c5 => decide
  intro L' h₁ F' N'
  dsimp only
  k_fold
  have i0 : IntsAre [] [] := .nil
  have h2k := two_le_pow hk1
  k_with_none
  k_with "my lt" => skip
  k_with "my k_ne" => (refine neN ?_; (try dsimp only); first | exact Apart.ne (by assumption) (by k_mem) | exact Ne.symm (Apart.ne (by assumption) (by k_mem)))
  k_with "my exec While Compare cons nil" => k_extra "my while"
  k_with "my while" => k_while (fun _ number found => LimbInv k n number found ∧ found.length ≤ 60) (fun _ number _ => number.toNat) "number" "found"
  k_with "state" => (first | exact ⟨limbs_start hn0, Nat.zero_le _⟩ | exact limbs_turn hk1 hn (by omega) (by assumption))
  k_with "measure" => exact limbs_less hk1 (by omega)
  k_steps
  all_goals (try k_data)
  all_goals (try dsimp only)
  exact hret _ _ _ _ _ kFr.keep (newIn_of kNews) (limbs_done (by assumption) (by assumption) ▸ kFacts)

theorem u_limbs {h₀ : Heap} {L : Addr} {m : Str → Option Value} {news : List (Addr × Obj)} (F : Fr h₀ L s.heap m) (X₀ : (hd.heap_1 w.params).In h₀) (N : News h₀ L s.heap news) (T : Top view loose mean mg mb h₀)
    (hk1 : 1 ≤ k) (hk9 : k ≤ 9) (hdp : dp + 2 < recursionLimit) (hn0 : 0 ≤ n) (hn : Small n)
    (hret : ∀ l vs c h' tk', Fr h₀ L h' m → News h₀ L h' ((l, W.listOf vs.toArray c) :: news) → Apart l news → IntsAre vs (dig k n) → Limbs k (dig k n) n → Q (.ref l) { s with heap := h', toks := tk' }) :
    wpAny (model PySem.Challenge.rw_pq0533_01.row.prog w) (AT dp un fr gd) (call (.ref 129) [.int n tn, .int k tk]) Q E s :=
  c_limbs (X₀.keeps F.keep) (T.keeps F.keep) hk1 hk9 hdp hn0 hn fun l vs c h' tk' st nw hi => hret l vs c h' tk' (fr_stays F st) (news_new F N st nw) (apart_new N nw (.head _)) hi (limbs_dig hk1 hn0 hn)
end

end Mine
end

section
open PySem PySem.W PyProof.Rows PySem.Calls PySem.Spec
namespace Mine
set_option maxRecDepth 100000
set_option maxHeartbeats 16000000
theorem fill3 : hd.heap_1 = hd.heap_1 ∧ PySem.Challenge.rw_pq0533_01 = PySem.Challenge.rw_pq0533_01 := by k_fill; exact ⟨rfl, rfl⟩
theorem at_depth (dp un : Nat) (fr : Option (List Env)) (gd : Option (List Code)) : (AT dp un fr gd).depth = dp := rfl

theorem num_nonneg {k : Int} : ∀ {ds : List Int}, (∀ d ∈ ds, 0 ≤ d) → 0 ≤ num k ds
  | [], _ => Int.le_refl _
  | d :: r, h => by
    have h1 := num_nonneg (k := k) (ds := r) fun x hx => h x (.tail _ hx)
    have h2 := h d (.head _)
    have h3 : (0 : Int) ≤ num k r * 2 ^ k.toNat := Int.mul_nonneg h1 (by have := one_le_pow (k := k); omega)
    simp only [num]
    omega
theorem Limbs.nonneg {k n : Int} {ds : List Int} (h : Limbs k ds n) : 0 ≤ n := h.eq ▸ num_nonneg h.pos
theorem log_small {k o : Int} {es : List Int} (h : Limbs k es o) : o.natAbs.log2 < 9000 := by
  have h1 := h.nonneg
  have h2 := h.small.lt
  by_cases h0 : o.natAbs = 0
  · rw [h0]; decide +kernel
  · have : o.natAbs.log2 < 60 := (Nat.log2_lt h0).mpr (by omega)
    omega
theorem mulOk {k n o : Int} {ds : List Int} (h : Limbs k ds n) : IntMulOk n o :=
  IntMulOk.of_left (intBits_le_64 (by have := h.nonneg; omega) (by have := h.small.lt; omega))

section
variable {w : World} {loose : List Str} {mean : ExcName → Option Value} {mg mb : Str → Option Value} {dp un : Nat} {fr : Option (List Env)} {gd : Option (List Code)} {s : Shared} {Q E : Value → Shared → Prop}
    {a b : Addr} {vs us : List Value} {ds es : List Int} {n o k : Int} {tk : Tok}
theorem c_mul
    (X : (hd.heap_1 w.params).In s.heap) (T : Top view loose mean mg mb s.heap)
    (hk1 : 1 ≤ k) (hk9 : k ≤ 9) (hdp : dp + 4 < recursionLimit)
    (hl : s.heap.IsList a vs.toArray) (hi : IntsAre vs ds) (hD : Limbs k ds n)
    (hl2 : s.heap.IsList b us.toArray) (hi2 : IntsAre us es) (hD2 : Limbs k es o) (h0 : 0 ≤ n * o) (hS : Small (n * o))
    (hret : ∀ l vs c h' tk', s.heap.StaysIn h' → NewIn s.heap h' [(l, W.listOf vs.toArray c)] → IntsAre vs (dig k (n * o)) → Q (.ref l) { s with heap := h', toks := tk' }) :
    wpAny (model PySem.Challenge.rw_pq0533_01.row.prog w) (AT dp un fr gd) (call (.ref 143) [.ref a, .ref b, .int k tk]) Q E s := by
  refine' ent_plain X T ?k6 ?k7 ?k8 ?k9 ?kB ?_ ?c2 ?c3 ?c4 ?c5
  case k6 => k_is
  case k7 => k_is
  case k8 => show dp < recursionLimit; omega
  case k9 => exact BindsTo.of_eq rfl
  case kB => exact locs rfl
  case c2 => exact rfl
  case c3 => exact rfl
  case c4 => exact rfl
  case c5 => decide
  intro L' h₁ F' N'
  dsimp only
  k_fold
  k_with_none
  k_with "my lt" => skip
  k_with "my k_ne" => (refine neN ?_; (try dsimp only); first | exact Apart.ne (by assumption) (by k_mem) | exact Ne.symm (Apart.ne (by assumption) (by k_mem)))
  k_with "my call ref" => (k_here; (with_reducible show wpAny _ _ (call (Value.ref 136) _) _ _ _); refine' u_number ?k1 ?k2 ?k3 ?k4 ?k5 ?k6 ?k7 ?k8 ?k9 ?k10 ?_; (case k1 => k_asm); (case k2 => k_asm); (case k3 => k_asm); (case k4 => k_asm); (case k5 => assumption); (case k6 => assumption); (case k7 => ((try simp only [depth_deeper, at_depth]); omega)); (case k8 => is_list); (case k9 => l_ints); (case k10 => assumption); k_whole; intro t' h' tk' F' N'; (try dsimp only); (try k_sweep); (try k_fold))
  k_with "my call ref" => (k_here; (with_reducible show wpAny _ _ (call (Value.ref 129) _) _ _ _); refine' u_limbs ?k1 ?k2 ?k3 ?k4 ?k5 ?k6 ?k7 ?k8 ?k9 ?_; (case k1 => k_asm); (case k2 => k_asm); (case k3 => k_asm); (case k4 => k_asm); (case k5 => assumption); (case k6 => assumption); (case k7 => ((try simp only [depth_deeper, at_depth]); omega)); (case k8 => k_extra "pos"); (case k9 => k_extra "small"); k_whole; intro l' vs' c' h' tk' F' N' ap' hI' hD'; (try dsimp only); (try k_sweep); (try k_fold))
  k_with "pos" => exact h0
  k_with "small" => exact hS
  k_with "binaryOp Mult int int" => (refine' mul_int ?_ ?mm; case mm => exact mulOk (by assumption))
  k_steps
  all_goals (try dsimp only)
  exact hret _ _ _ _ _ (Fr.keep (by assumption)) (newIn_of (by assumption)) (by assumption)

theorem u_mul {h₀ : Heap} {L : Addr} {m : Str → Option Value} {news : List (Addr × Obj)} (F : Fr h₀ L s.heap m) (X₀ : (hd.heap_1 w.params).In h₀) (N : News h₀ L s.heap news) (T : Top view loose mean mg mb h₀)
    (hk1 : 1 ≤ k) (hk9 : k ≤ 9) (hdp : dp + 4 < recursionLimit)
    (hl : s.heap.IsList a vs.toArray) (hi : IntsAre vs ds) (hD : Limbs k ds n)
    (hl2 : s.heap.IsList b us.toArray) (hi2 : IntsAre us es) (hD2 : Limbs k es o) (hS : Small (n * o))
    (hret : ∀ l vs c h' tk', Fr h₀ L h' m → News h₀ L h' ((l, W.listOf vs.toArray c) :: news) → Apart l news → IntsAre vs (dig k (n * o)) → Limbs k (dig k (n * o)) (n * o) → Q (.ref l) { s with heap := h', toks := tk' }) :
    wpAny (model PySem.Challenge.rw_pq0533_01.row.prog w) (AT dp un fr gd) (call (.ref 143) [.ref a, .ref b, .int k tk]) Q E s :=
  have h0 := Int.mul_nonneg hD.nonneg hD2.nonneg
  c_mul (X₀.keeps F.keep) (T.keeps F.keep) hk1 hk9 hdp hl hi hD hl2 hi2 hD2 h0 hS fun l vs c h' tk' st nw hi => hret l vs c h' tk' (fr_stays F st) (news_new F N st nw) (apart_new N nw (.head _)) hi (limbs_dig hk1 h0 hS)

theorem c_divrem
    (X : (hd.heap_1 w.params).In s.heap) (T : Top view loose mean mg mb s.heap)
    (hk1 : 1 ≤ k) (hk9 : k ≤ 9) (hdp : dp + 4 < recursionLimit)
    (hl : s.heap.IsList a vs.toArray) (hi : IntsAre vs ds) (hD : Limbs k ds n)
    (hl2 : s.heap.IsList b us.toArray) (hi2 : IntsAre us es) (hD2 : Limbs k es o) (h0 : 0 < o)
    (hret : ∀ l l1 l2 vs1 vs2 c1 c2 h' tk', s.heap.StaysIn h' → NewIn s.heap h' [(l, { cls := .type "tuple", data := .seq [Value.ref l1, Value.ref l2].toArray }), (l2, W.listOf vs2.toArray c2), (l1, W.listOf vs1.toArray c1)] → IntsAre vs1 (dig k (n / o)) → IntsAre vs2 (dig k (n % o)) → Q (.ref l) { s with heap := h', toks := tk' }) :
    wpAny (model PySem.Challenge.rw_pq0533_01.row.prog w) (AT dp un fr gd) (call (.ref 150) [.ref a, .ref b, .int k tk]) Q E s := by
  refine' ent_plain X T ?k6 ?k7 ?k8 ?k9 ?kB ?_ ?c2 ?c3 ?c4 ?c5
  case k6 => k_is
  case k7 => k_is
  case k8 => show dp < recursionLimit; omega
  case k9 => exact BindsTo.of_eq rfl
  case kB => exact locs rfl
  case c2 => exact rfl
  case c3 => exact rfl
  case c4 => exact rfl
  case c5 => decide
  intro L' h₁ F' N'
  dsimp only
  k_fold
  have hn0 := hD.nonneg
  have e1 : n.fdiv o = n / o := Int.fdiv_eq_ediv_of_nonneg _ (by omega)
  have e2 : n.fmod o = n % o := Int.fmod_eq_emod_of_nonneg _ (by omega)
  have hq : 0 ≤ n.fdiv o ∧ Small (n.fdiv o) := by
    rw [Int.fdiv_eq_ediv_of_nonneg _ (by omega)]
    exact ⟨Int.ediv_nonneg hn0 (by omega), ⟨Int.lt_of_le_of_lt (Int.ediv_le_self _ hn0) hD.small.lt⟩⟩
  have hr : 0 ≤ n.fmod o ∧ Small (n.fmod o) := by
    rw [Int.fmod_eq_emod_of_nonneg _ (by omega)]
    exact ⟨Int.emod_nonneg _ (by omega), ⟨Int.lt_of_lt_of_le (Int.emod_lt_of_pos _ h0) (Int.le_of_lt hD2.small.lt)⟩⟩
  k_with_none
  k_with "my lt" => skip
  k_with "my k_ne" => (refine neN ?_; (try dsimp only); first | exact Apart.ne (by assumption) (by k_mem) | exact Ne.symm (Apart.ne (by assumption) (by k_mem)))
  k_with "my call ref" => (k_here; (with_reducible show wpAny _ _ (call (Value.ref 136) _) _ _ _); refine' u_number ?k1 ?k2 ?k3 ?k4 ?k5 ?k6 ?k7 ?k8 ?k9 ?k10 ?_; (case k1 => k_asm); (case k2 => k_asm); (case k3 => k_asm); (case k4 => k_asm); (case k5 => assumption); (case k6 => assumption); (case k7 => ((try simp only [depth_deeper, at_depth]); omega)); (case k8 => is_list); (case k9 => l_ints); (case k10 => assumption); k_whole; intro t' h' tk' F' N'; (try dsimp only); (try k_sweep); (try k_fold))
  k_with "my call ref" => (k_here; (with_reducible show wpAny _ _ (call (Value.ref 129) _) _ _ _); refine' u_limbs ?k1 ?k2 ?k3 ?k4 ?k5 ?k6 ?k7 ?k8 ?k9 ?_; (case k1 => k_asm); (case k2 => k_asm); (case k3 => k_asm); (case k4 => k_asm); (case k5 => assumption); (case k6 => assumption); (case k7 => ((try simp only [depth_deeper, at_depth]); omega)); (case k8 => k_extra "pos"); (case k9 => k_extra "small"); k_whole; intro l' vs' c' h' tk' F' N' ap' hI' hD'; (try dsimp only); (try k_sweep); (try k_fold))
  k_with "pos" => first | exact hq.1 | exact hr.1
  k_with "small" => first | exact hq.2 | exact hr.2
  k_with "binaryOp FloorDiv int int" => (refine' floordiv_int ?ha ?_ ?hp; (case ha => omega); (case hp => exact .inl (PyProof.noPylong_of_log2 (log_small hD2))))
  k_steps
  all_goals (try dsimp only)
  exact hret _ _ _ _ _ _ _ _ _ (Fr.keep (by assumption)) (newIn_sub (newIn_of (by assumption)) (by k_allIn)) (by rw [← e1]; assumption) (by rw [← e2]; assumption)

theorem u_divrem {h₀ : Heap} {L : Addr} {m : Str → Option Value} {news : List (Addr × Obj)} (F : Fr h₀ L s.heap m) (X₀ : (hd.heap_1 w.params).In h₀) (N : News h₀ L s.heap news) (T : Top view loose mean mg mb h₀)
    (hk1 : 1 ≤ k) (hk9 : k ≤ 9) (hdp : dp + 4 < recursionLimit)
    (hl : s.heap.IsList a vs.toArray) (hi : IntsAre vs ds) (hD : Limbs k ds n)
    (hl2 : s.heap.IsList b us.toArray) (hi2 : IntsAre us es) (hD2 : Limbs k es o) (h0 : 0 < o)
    (hret : ∀ l l1 l2 vs1 vs2 c1 c2 h' tk', Fr h₀ L h' m → News h₀ L h' ((l, { cls := .type "tuple", data := .seq [Value.ref l1, Value.ref l2].toArray }) :: (l2, W.listOf vs2.toArray c2) :: (l1, W.listOf vs1.toArray c1) :: news) →
      Apart l news → Apart l1 news → Apart l2 news → IntsAre vs1 (dig k (n / o)) → IntsAre vs2 (dig k (n % o)) → Limbs k (dig k (n / o)) (n / o) → Limbs k (dig k (n % o)) (n % o) → Q (.ref l) { s with heap := h', toks := tk' }) :
    wpAny (model PySem.Challenge.rw_pq0533_01.row.prog w) (AT dp un fr gd) (call (.ref 150) [.ref a, .ref b, .int k tk]) Q E s :=
  c_divrem (X₀.keeps F.keep) (T.keeps F.keep) hk1 hk9 hdp hl hi hD hl2 hi2 hD2 h0 fun l l1 l2 vs1 vs2 c1 c2 h' tk' st nw i1 i2 =>
    hret l l1 l2 vs1 vs2 c1 c2 h' tk' (fr_stays F st) (news_new F N st nw) (apart_new N nw (.head _)) (apart_new N nw (.tail _ (.tail _ (.head _)))) (apart_new N nw (.tail _ (.head _))) i1 i2
      (limbs_dig hk1 (Int.ediv_nonneg hD.nonneg (by omega)) ⟨Int.lt_of_le_of_lt (Int.ediv_le_self _ hD.nonneg) hD.small.lt⟩)
      (limbs_dig hk1 (Int.emod_nonneg _ (by omega)) ⟨Int.lt_of_lt_of_le (Int.emod_lt_of_pos _ h0) (Int.le_of_lt hD2.small.lt)⟩)
end
end Mine
end

section
open PySem PySem.W PyProof.Rows PySem.Calls PySem.Spec
namespace Mine
set_option maxRecDepth 100000
set_option maxHeartbeats 16000000
theorem fill4 : hd.heap_1 = hd.heap_1 ∧ PySem.Challenge.rw_pq0533_01 = PySem.Challenge.rw_pq0533_01 := by k_fill; exact ⟨rfl, rfl⟩

structure GcdInv (a b one other : Int) : Prop where
  p1 : 0 ≤ one
  p2 : 0 ≤ other
  eq : Int.gcd one other = Int.gcd a b
theorem gcd_start {a b : Int} (ha : 0 ≤ a) (hb : 0 ≤ b) : GcdInv a b a b := ⟨ha, hb, rfl⟩
theorem gcd_mod (a b : Int) : Int.gcd b (a % b) = Int.gcd a b := by rw [Int.gcd_comm, Int.emod_def, Int.gcd_sub_mul_left_left]
theorem gcd_turn {a b one other : Int} (h : GcdInv a b one other) (hp : 0 < other) : GcdInv a b other (one.fmod other) := by
  rw [Int.fmod_eq_emod_of_nonneg _ (by omega)]
  refine ⟨h.p2, Int.emod_nonneg _ (by omega), ?_⟩
  rw [← h.eq, gcd_mod]
theorem gcd_less {one other : Int} (hp : 0 < other) : (one.fmod other).toNat < other.toNat := by
  rw [Int.fmod_eq_emod_of_nonneg _ (by omega)]
  have := Int.emod_lt_of_pos one hp
  omega
theorem gcd_done {a b one other : Int} (h : GcdInv a b one other) (hp : ¬ 0 < other) : one = (Int.gcd a b : Int) := by
  have := h.p2
  have e : other = 0 := by omega
  rw [← h.eq, e, Int.gcd_zero_right]
  have := h.p1
  omega

theorem log_small2 {o : Int} (h1 : 0 ≤ o) (h : Small o) : o.natAbs.log2 < 9000 := by
  have h2 := h.lt
  by_cases h0 : o.natAbs = 0
  · rw [h0]; decide +kernel
  · have : o.natAbs.log2 < 60 := (Nat.log2_lt h0).mpr (by omega)
    omega
structure InvInv (n m here there one other : Int) : Prop where
  p1 : 0 ≤ here
  p2 : 0 ≤ there
  s1 : Small here
  s2 : Small there
  eq : Int.gcd here there = Int.gcd n m
  d1 : m ∣ one * n - here
  d2 : m ∣ other * n - there
theorem inv_start {n m : Int} (hm : 0 < m) (hs : Small m) : InvInv n m m (n.fmod m) 0 1 := by
  rw [Int.fmod_eq_emod_of_nonneg _ (by omega)]
  refine ⟨by omega, Int.emod_nonneg _ (by omega), hs, ⟨Int.lt_of_lt_of_le (Int.emod_lt_of_pos _ hm) (Int.le_of_lt hs.lt)⟩, gcd_mod _ _, ?_, ?_⟩
  · exact ⟨-1, by omega⟩
  · rw [Int.one_mul, Int.emod_def]
    exact ⟨n / m, by omega⟩
theorem inv_told {n m here there one other : Int} (h : InvInv n m here there one other) (hp : 0 < there) : IntMulOk (here.fdiv there) there ∧ IntMulOk (here.fdiv there) other := by
  rw [Int.fdiv_eq_ediv_of_nonneg _ (by omega)]
  have h1 : 0 ≤ here / there := Int.ediv_nonneg h.p1 (by omega)
  have h2 : here / there ≤ here := Int.ediv_le_self _ h.p1
  have h3 := h.s1.lt
  exact ⟨IntMulOk.of_left (intBits_le_64 (by omega) (by omega)), IntMulOk.of_left (intBits_le_64 (by omega) (by omega))⟩
theorem inv_turn {n m here there one other : Int} (h : InvInv n m here there one other) (hp : 0 < there) :
    InvInv n m there (here - here.fdiv there * there) other (one - here.fdiv there * other) := by
  rw [Int.fdiv_eq_ediv_of_nonneg _ (by omega)]
  have e : here - here / there * there = here % there := by rw [Int.emod_def, Int.mul_comm]
  have h1 := Int.emod_lt_of_pos here hp
  have h2 := h.s2.lt
  refine ⟨by omega, by rw [e]; exact Int.emod_nonneg _ (by omega), h.s2, ⟨by rw [e]; omega⟩, by rw [e, gcd_mod, h.eq], h.d2, ?_⟩
  obtain ⟨x, hx⟩ := h.d1
  obtain ⟨y, hy⟩ := h.d2
  refine ⟨x - here / there * y, ?_⟩
  rw [Int.mul_sub, ← hx, Int.sub_mul, Int.mul_left_comm m, ← hy, Int.mul_sub, Int.mul_assoc]
  omega
theorem inv_less {here there : Int} (hp : 0 < there) : (here - here.fdiv there * there).toNat < there.toNat := by
  rw [Int.fdiv_eq_ediv_of_nonneg _ (by omega)]
  have e : here - here / there * there = here % there := by rw [Int.emod_def, Int.mul_comm]
  have h1 := Int.emod_lt_of_pos here hp
  have h2 := Int.emod_nonneg here (b := there) (by omega)
  rw [e]; omega
theorem inv_gcd {n m here there one other : Int} (h : InvInv n m here there one other) (hp : ¬ 0 < there) : here = (Int.gcd n m : Int) := by
  have := h.p2
  have e : there = 0 := by omega
  rw [← h.eq, e, Int.gcd_zero_right]
  have := h.p1
  omega
theorem inv_done {n m here there one other : Int} (h : InvInv n m here there one other) (hp : here = 1) (hm : 0 < m) :
    m ∣ one.fmod m * n - 1 ∧ 0 ≤ one.fmod m ∧ one.fmod m < m := by
  rw [Int.fmod_eq_emod_of_nonneg _ (by omega)]
  refine ⟨?_, Int.emod_nonneg _ (by omega), Int.emod_lt_of_pos _ hm⟩
  obtain ⟨x, hx⟩ := h.d1
  refine ⟨x - one / m * n, ?_⟩
  rw [Int.mul_sub, ← hx, Int.emod_def, Int.sub_mul, hp, Int.mul_assoc m]
  omega
/-- an exception on its way out of a call that stood at heap h -/
structure Fly (base h : Heap) (outer : List Env) (e : Addr) (cls : Value) (h' : Heap) : Prop where
  fly : ∃ t, Heap.FlyingW base outer e cls (.ref t) h'
  up : h.UpToSlots h'
section
variable {M : Model} {A : Around} {E : Value → Shared → Prop} {Q : Unit → Shared → Prop} {s' : Shared} {base h h₂ : Heap} {outer : List Env} {env : Env} {L e : Addr} {m : Str → Option Value} {cls : Value}
theorem base_push (F : Fr h L h₂ m) (hb : base.StaysIn h) : base.StaysIn h₂ := fun b o e => F.keep b o (hb b o e)
theorem fun_push (F : Fr h L h₂ m) (hb : base.StaysIn h) (hl : h.FunFrames base outer) (hf : env.frame = some L) (hk : env.scope.kind ≠ .module) : h₂.FunFrames base (env :: outer) := by
  refine Heap.FunFrames.cons hk hf F.ns ?_ (hl.of_keeps fun b o e _ => ⟨o, F.keep b o e, rfl⟩)
  cases hq : base.get? L with
  | none => rfl
  | some o => exact absurd (Nat.lt_of_lt_of_le (Heap.lt_size (hb L o hq)) F.above) (Nat.lt_irrefl _)
theorem leave_made {vs : List Value} (hx : Heap.MadeExcOf h₂ s'.heap e cls vs) (F : Fr h L h₂ m) (hb : base.StaysIn h) (hl : h.FunFrames base outer) (hfr : A.frames = some (env :: outer)) (hf : env.frame = some L) (hk : env.scope.kind ≠ .module)
    (hQ : ∀ h', Fly base h outer e cls h' → Q () { s' with heap := h' }) : wpAny M A (leaving env (.ref e)) Q E s' :=
  wpAny_leaves_madeW hfr hf (base_push F hb) (fun_push F hb hl hf hk) hx fun h' t x1 _ _ x4 => hQ h' ⟨⟨t, x1⟩, ((Heap.UpToSlots.of_keeps F.keep).trans (Heap.UpToSlots.of_keeps hx.keeps)).trans x4⟩
theorem leave_fly (R : Fly base h₂ (env :: outer) e cls s'.heap) (F : Fr h L h₂ m) (hfr : A.frames = some (env :: outer)) (hf : env.frame = some L)
    (hQ : ∀ h', Fly base h outer e cls h' → Q () { s' with heap := h' }) : wpAny M A (leaving env (.ref e)) Q E s' := by
  obtain ⟨⟨t, hfl⟩, hup⟩ := R
  exact wpAny_leaves_onW hfr hf hfl fun h' x1 x2 => hQ h' ⟨⟨t, x1⟩, (Heap.UpToSlots.of_keeps F.keep).trans (hup.trans x2)⟩
end

section
variable {w : World} {loose : List Str} {mean : ExcName → Option Value} {mg mb : Str → Option Value} {dp un : Nat} {fr : Option (List Env)} {gd : Option (List Code)} {s : Shared} {Q E : Value → Shared → Prop}
    {a b : Int} {ta tb : Tok}
theorem c_divisor
    (X : (hd.heap_1 w.params).In s.heap) (T : Top view loose mean mg mb s.heap)
    (hdp : dp + 2 < recursionLimit) (ha : 0 ≤ a) (hb : 0 ≤ b)
    (hret : ∀ t h' tk', s.heap.StaysIn h' → Q (.int (Int.gcd a b : Int) t) { s with heap := h', toks := tk' }) :
    wpAny (model PySem.Challenge.rw_pq0533_01.row.prog w) (AT dp un fr gd) (call (.ref 157) [.int a ta, .int b tb]) Q E s := by
  refine' ent_plain X T ?k6 ?k7 ?k8 ?k9 ?kB ?_ ?c2 ?c3 ?c4 ?c5
  case k6 => k_is
  case k7 => k_is
  case k8 => show dp < recursionLimit; omega
  case k9 => exact BindsTo.of_eq rfl
  case kB => exact locs rfl
  case c2 => exact rfl
  case c3 => exact rfl
  case c4 => exact rfl
  case c5 => decide
  intro L' h₁ F' N'
  dsimp only
  k_fold
  have i0 : IntsAre [] [] := .nil
  k_with_none
  k_with "my lt" => skip
  k_with "my k_ne" => (refine neN ?_; (try dsimp only); first | exact Apart.ne (by assumption) (by k_mem) | exact Ne.symm (Apart.ne (by assumption) (by k_mem)))
  k_with "my call ref" => (k_here; (with_reducible show wpAny _ _ (call (Value.ref 136) _) _ _ _); refine' u_number ?k1 ?k2 ?k3 ?k4 ?k5 ?k6 ?k7 ?k8 ?k9 ?k10 ?_; (case k1 => k_asm); (case k2 => k_asm); (case k3 => k_asm); (case k4 => k_asm); (case k5 => assumption); (case k6 => assumption); (case k7 => ((try simp only [depth_deeper, at_depth]); omega)); (case k8 => is_list); (case k9 => l_ints); (case k10 => assumption); k_whole; intro t' h' tk' F' N'; (try dsimp only); (try k_sweep); (try k_fold))
  k_with "my call ref" => (k_here; (with_reducible show wpAny _ _ (call (Value.ref 129) _) _ _ _); refine' u_limbs ?k1 ?k2 ?k3 ?k4 ?k5 ?k6 ?k7 ?k8 ?k9 ?_; (case k1 => k_asm); (case k2 => k_asm); (case k3 => k_asm); (case k4 => k_asm); (case k5 => assumption); (case k6 => assumption); (case k7 => ((try simp only [depth_deeper, at_depth]); omega)); (case k8 => k_extra "pos"); (case k9 => k_extra "small"); k_whole; intro l' vs' c' h' tk' F' N' ap' hI' hD'; (try dsimp only); (try k_sweep); (try k_fold))
  k_with "my exec While Compare cons nil" => k_extra "my while"
  k_with "my while" => k_while (fun _ one other => GcdInv a b one other) (fun _ _ other => other.toNat) "one" "other"
  k_with "state" => (first | exact gcd_start ha hb | exact gcd_turn (by assumption) (by omega))
  k_with "measure" => exact gcd_less (by omega)
  k_steps
  all_goals (try k_data)
  all_goals (try dsimp only)
  have e9 := gcd_done (by assumption) (by assumption)
  subst e9
  exact hret _ _ _ (Fr.keep (by assumption))
theorem u_divisor {h₀ : Heap} {L : Addr} {m : Str → Option Value} {news : List (Addr × Obj)} (F : Fr h₀ L s.heap m) (X₀ : (hd.heap_1 w.params).In h₀) (N : News h₀ L s.heap news) (T : Top view loose mean mg mb h₀)
    (hdp : dp + 2 < recursionLimit) (ha : 0 ≤ a) (hb : 0 ≤ b)
    (hret : ∀ t h' tk', Fr h₀ L h' m → News h₀ L h' news → Q (.int (Int.gcd a b : Int) t) { s with heap := h', toks := tk' }) :
    wpAny (model PySem.Challenge.rw_pq0533_01.row.prog w) (AT dp un fr gd) (call (.ref 157) [.int a ta, .int b tb]) Q E s :=
  c_divisor (X₀.keeps F.keep) (T.keeps F.keep) hdp ha hb fun t h' tk' st => hret t h' tk' (fr_stays F st) (news_stays N st)

theorem c_inverse {base : Heap} {outer : List Env} {aA bA : Addr} {vs us : List Value} {ds es : List Int} {n m k : Int} {tk : Tok}
    (X : (hd.heap_1 w.params).In s.heap) (T : Top view loose mean mg mb s.heap)
    (hk1 : 1 ≤ k) (hk9 : k ≤ 9) (hdp : dp + 4 < recursionLimit)
    (hl : s.heap.IsList aA vs.toArray) (hi : IntsAre vs ds) (hD : Limbs k ds n)
    (hl2 : s.heap.IsList bA us.toArray) (hi2 : IntsAre us es) (hD2 : Limbs k es m) (h0 : 0 < m)
    (hb : base.StaysIn s.heap) (hfl : s.heap.FunFrames base outer)
    (hraise : Int.gcd n m ≠ 1 → ∀ e h' tk', Fly base s.heap outer e (.ref 49) h' → E (.ref e) { s with heap := h', toks := tk' })
    (hret : ∀ x l vs c h' tk', m ∣ x * n - 1 → 0 ≤ x → x < m → s.heap.StaysIn h' → NewIn s.heap h' [(l, W.listOf vs.toArray c)] → IntsAre vs (dig k x) → Q (.ref l) { s with heap := h', toks := tk' }) :
    wpAny (model PySem.Challenge.rw_pq0533_01.row.prog w) (AT dp un (some outer) gd) (call (.ref 164) [.ref aA, .ref bA, .int k tk]) Q E s := by
  refine' ent_plain X T ?k6 ?k7 ?k8 ?k9 ?kB ?_ ?c2 ?c3 ?c4 ?c5
  case k6 => k_is
  case k7 => k_is
  case k8 => show dp < recursionLimit; omega
  case k9 => exact BindsTo.of_eq rfl
  case kB => exact locs rfl
  case c2 => exact rfl
  case c3 => exact rfl
  case c4 => exact rfl
  case c5 => decide
  intro L' h₁ F' N'
  dsimp only
  k_fold
  have i0 : IntsAre [] [] := .nil
  k_with_none
  k_with "my lt" => skip
  k_with "my k_ne" => (refine neN ?_; (try dsimp only); first | exact Apart.ne (by assumption) (by k_mem) | exact Ne.symm (Apart.ne (by assumption) (by k_mem)))
  k_with "my call ref" => (k_here; (with_reducible show wpAny _ _ (call (Value.ref 136) _) _ _ _); refine' u_number ?k1 ?k2 ?k3 ?k4 ?k5 ?k6 ?k7 ?k8 ?k9 ?k10 ?_; (case k1 => k_asm); (case k2 => k_asm); (case k3 => k_asm); (case k4 => k_asm); (case k5 => assumption); (case k6 => assumption); (case k7 => ((try simp only [depth_deeper, at_depth]); omega)); (case k8 => is_list); (case k9 => l_ints); (case k10 => assumption); k_whole; intro t' h' tk' F' N'; (try dsimp only); (try k_sweep); (try k_fold))
  k_with "my call ref" => (k_here; (with_reducible show wpAny _ _ (call (Value.ref 129) _) _ _ _); refine' u_limbs ?k1 ?k2 ?k3 ?k4 ?k5 ?k6 ?k7 ?k8 ?k9 ?_; (case k1 => k_asm); (case k2 => k_asm); (case k3 => k_asm); (case k4 => k_asm); (case k5 => assumption); (case k6 => assumption); (case k7 => ((try simp only [depth_deeper, at_depth]); omega)); (case k8 => k_extra "pos"); (case k9 => k_extra "small"); k_whole; intro l' vs' c' h' tk' F' N' ap' hI' hD'; (try dsimp only); (try k_sweep); (try k_fold))
  k_with "my exec While Compare cons nil" => k_extra "my while"
  k_with "my while" => k_while (fun _ here there one other => InvInv n m here there one other) (fun _ _ there _ _ => there.toNat) "here" "there" "one" "other"
  k_with "state" => (first | exact inv_start h0 hD2.small | exact inv_turn (by assumption) (by omega))
  k_with "measure" => exact inv_less (by omega)
  k_with "binaryOp FloorDiv int int" => (refine' floordiv_int ?ha ?_ ?hp; (case ha => omega); (case hp => exact .inl (PyProof.noPylong_of_log2 (log_small2 (InvInv.p2 (by assumption)) (InvInv.s2 (by assumption))))))
  k_with "binaryOp Mult int int" => (refine' mul_int ?_ ?mm; case mm => first | exact (inv_told (by assumption) (by omega)).1 | exact (inv_told (by assumption) (by omega)).2)
  k_with "pos" => exact (inv_done (by assumption) (by omega) h0).2.1
  k_with "small" => exact ⟨Int.lt_of_lt_of_le (inv_done (by assumption) (by omega) h0).2.2 (Int.le_of_lt hD2.small.lt)⟩
  k_steps
  all_goals (try k_data)
  all_goals (try dsimp only)
  · have e9 := inv_gcd (by assumption) (by assumption)
    refine leave_made (by assumption) (by assumption) hb hfl rfl rfl (by show ScopeKind.function ≠ ScopeKind.module; decide) fun h' R => hraise (by omega) _ _ _ R
  · have e9 := inv_done (by assumption) (by assumption) h0
    exact hret _ _ _ _ _ _ e9.1 e9.2.1 e9.2.2 (Fr.keep (by assumption)) (newIn_sub (newIn_of (by assumption)) (by k_allIn)) (by assumption)

theorem u_inverse {base : Heap} {outer : List Env} {aA bA : Addr} {vs us : List Value} {ds es : List Int} {n m k : Int} {tk : Tok} {h₀ : Heap} {L : Addr} {mm : Str → Option Value} {news : List (Addr × Obj)} (F : Fr h₀ L s.heap mm) (X₀ : (hd.heap_1 w.params).In h₀) (N : News h₀ L s.heap news) (T : Top view loose mean mg mb h₀)
    (hk1 : 1 ≤ k) (hk9 : k ≤ 9) (hdp : dp + 4 < recursionLimit)
    (hl : s.heap.IsList aA vs.toArray) (hi : IntsAre vs ds) (hD : Limbs k ds n)
    (hl2 : s.heap.IsList bA us.toArray) (hi2 : IntsAre us es) (hD2 : Limbs k es m) (h0 : 0 < m)
    (hb : base.StaysIn s.heap) (hfl : s.heap.FunFrames base outer)
    (hraise : Int.gcd n m ≠ 1 → ∀ e h' tk', Fly base s.heap outer e (.ref 49) h' → E (.ref e) { s with heap := h', toks := tk' })
    (hret : ∀ x l vs c h' tk', m ∣ x * n - 1 → Fr h₀ L h' mm → News h₀ L h' ((l, W.listOf vs.toArray c) :: news) → Apart l news → IntsAre vs (dig k x) → Limbs k (dig k x) x → x < m → Q (.ref l) { s with heap := h', toks := tk' }) :
    wpAny (model PySem.Challenge.rw_pq0533_01.row.prog w) (AT dp un (some outer) gd) (call (.ref 164) [.ref aA, .ref bA, .int k tk]) Q E s :=
  c_inverse (X₀.keeps F.keep) (T.keeps F.keep) hk1 hk9 hdp hl hi hD hl2 hi2 hD2 h0 hb hfl hraise fun x l vs c h' tk' hd x0 xm st nw hi => hret x l vs c h' tk' hd (fr_stays F st) (news_new F N st nw) (apart_new N nw (.head _)) hi
    (limbs_dig hk1 x0 ⟨Int.lt_trans xm hD2.small.lt⟩) xm
end
end Mine
end

section
namespace Mine
set_option maxRecDepth 100000

theorem dvd_one_left {n a : Int} (h : n = 1) : n ∣ a := by subst h; exact Int.one_dvd a

/-- what a CRT answer is -/
structure Crt2 (n o r0 r1 v : Int) : Prop where
  cop : Int.gcd n o = 1
  lo : 0 ≤ v
  hi : v < n * o
  d0 : n ∣ v - r0
  d1 : o ∣ v - r1

theorem dvd_mod_sub {n a : Int} : n ∣ a % n - a := by
  rw [Int.emod_def]; exact ⟨-(a / n), by rw [Int.mul_neg]; omega⟩
theorem dvd_sub_trans {n a b c : Int} (h1 : n ∣ a - b) (h2 : n ∣ b - c) : n ∣ a - c := by
  have := Int.dvd_add h1 h2
  rwa [show a - b + (b - c) = a - c by omega] at this
theorem dvd_sub_symm {n a b : Int} (h : n ∣ a - b) : n ∣ b - a := by
  have := Int.dvd_neg.mpr h
  rwa [show -(a - b) = b - a by omega] at this
theorem dvd_sub_mul {n a b c d : Int} (h1 : n ∣ a - b) (h2 : n ∣ c - d) : n ∣ a * c - b * d := by
  have e : a * c - b * d = (a - b) * c + b * (c - d) := by rw [Int.sub_mul, Int.mul_sub]; omega
  rw [e]
  exact Int.dvd_add (Int.dvd_mul_of_dvd_left h1) (Int.dvd_mul_of_dvd_right h2)
theorem dvd_sub_add {n a b c d : Int} (h1 : n ∣ a - b) (h2 : n ∣ c - d) : n ∣ (a + c) - (b + d) := by
  have e : (a + c) - (b + d) = (a - b) + (c - d) := by omega
  rw [e]; exact Int.dvd_add h1 h2
theorem dvd_sub_refl {n a : Int} : n ∣ a - a := by rw [Int.sub_self]; exact Int.dvd_zero n
theorem dvd_mod_sub_of {n P a : Int} (h : n ∣ P) : n ∣ a % P - a := Int.dvd_trans h dvd_mod_sub

/-- the scaled rest times what is beside it is the rest -/
theorem scaled_rest {n other y x r : Int} (hx : n ∣ x * other - 1) (ho : n ∣ other - y) : n ∣ ((r % n) * x % n) * y - r := by
  have h1 : n ∣ ((r % n) * x % n) - r * x := dvd_sub_trans dvd_mod_sub (dvd_sub_mul dvd_mod_sub dvd_sub_refl)
  have h2 : n ∣ ((r % n) * x % n) * y - r * x * other := dvd_sub_mul h1 (dvd_sub_symm ho)
  have h3 : n ∣ r * (x * other) - r * 1 := dvd_sub_mul dvd_sub_refl hx
  rw [Int.mul_one, ← Int.mul_assoc] at h3
  exact dvd_sub_trans h2 h3

theorem other_left {n o : Int} : n ∣ (1 * o + 1 * n) % (n * o) % n - o := by
  refine dvd_sub_trans dvd_mod_sub (dvd_sub_trans (dvd_mod_sub_of (Int.dvd_mul_right n o)) ?_)
  exact ⟨1, by omega⟩
theorem other_right {n o : Int} : o ∣ (1 * o + 1 * n) % (n * o) % o - n := by
  refine dvd_sub_trans dvd_mod_sub (dvd_sub_trans (dvd_mod_sub_of (Int.dvd_mul_left n o)) ?_)
  exact ⟨1, by omega⟩
theorem gcd_of_dvd {n a b : Int} (h : n ∣ a - b) : Int.gcd a n = Int.gcd b n := by
  obtain ⟨c, hc⟩ := h
  have e : a = b + n * c := by omega
  rw [e, Int.gcd_comm, Int.gcd_comm b, Int.gcd_add_mul_left_right]

theorem dvd_of_mul {o n c : Int} (hg : Int.gcd n o = 1) (h : o ∣ n * c) : o ∣ c := by
  refine Int.natAbs_dvd_natAbs.mp (Nat.Coprime.dvd_of_dvd_mul_left (m := n.natAbs) ?_ ?_)
  · rw [Int.gcd_eq_natAbs_gcd_natAbs] at hg
    exact (Nat.gcd_comm _ _).trans hg
  · rw [← Int.natAbs_mul]
    exact Int.natAbs_dvd_natAbs.mpr h
theorem gcd_of_inv {n x other y : Int} (hx : n ∣ x * other - 1) (hy : n ∣ other - y) : Int.gcd y n = 1 := by
  rw [← gcd_of_dvd hy]
  refine Int.gcd_eq_one_iff.mpr fun c h1 h2 => ?_
  have h3 := Int.dvd_sub (Int.dvd_mul_of_dvd_right (b := x) h1) (Int.dvd_trans h2 hx)
  rwa [show x * other - (x * other - 1) = 1 by omega] at h3
theorem gcd_one_l {n o : Int} (h : n = 1) : Int.gcd n o = 1 := by subst h; exact Int.gcd_one_left o
theorem gcd_one_r {n o : Int} (h : o = 1) : Int.gcd n o = 1 := by subst h; exact Int.gcd_one_right n
theorem gcd_mul_one {a b n : Int} (h1 : Int.gcd n a = 1) (h2 : Int.gcd n b = 1) : Int.gcd (a * b) n = 1 := by
  rw [Int.gcd_mul_right_left_of_gcd_eq_one ((Int.gcd_comm _ _).trans h1), Int.gcd_comm]; exact h2
theorem crt2_intro {n o r0 r1 x y : Int} (hn : 0 < n) (ho : 0 < o) (hc : Int.gcd n o = 1) (h0 : n ∣ x * o - r0) (h1 : o ∣ y * n - r1) : Crt2 n o r0 r1 ((x * o + y * n) % (n * o)) := by
  have hp : 0 < n * o := Int.mul_pos hn ho
  refine ⟨hc, Int.emod_nonneg _ (by omega), Int.emod_lt_of_pos _ hp, ?_, ?_⟩
  · refine dvd_sub_trans (dvd_mod_sub_of (Int.dvd_mul_right n o)) ?_
    have := Int.dvd_add h0 (Int.dvd_mul_left y n)
    rwa [show x * o - r0 + y * n = x * o + y * n - r0 by omega] at this
  · refine dvd_sub_trans (dvd_mod_sub_of (Int.dvd_mul_left n o)) ?_
    have := Int.dvd_add h1 (Int.dvd_mul_left x o)
    rwa [show y * n - r1 + x * o = x * o + y * n - r1 by omega] at this

structure Crt3 (n o q r0 r1 r2 v : Int) : Prop where
  lo : 0 ≤ v
  hi : v < n * o * q
  d0 : n ∣ v - r0
  d1 : o ∣ v - r1
  d2 : q ∣ v - r2

theorem crt3_intro {n o q r0 r1 r2 x y z : Int} (hn : 0 < n) (ho : 0 < o) (hq : 0 < q) (h0 : n ∣ x * (o * q) - r0) (h1 : o ∣ y * (n * q) - r1) (h2 : q ∣ z * (n * o) - r2) :
    Crt3 n o q r0 r1 r2 (((x * o + y * n) * q + z * (n * o)) % (n * o * q)) := by
  have hp : 0 < n * o * q := Int.mul_pos (Int.mul_pos hn ho) hq
  refine ⟨Int.emod_nonneg _ (by omega), Int.emod_lt_of_pos _ hp, ?_, ?_, ?_⟩
  · refine dvd_sub_trans (dvd_mod_sub_of ⟨o * q, by rw [Int.mul_assoc]⟩) ?_
    have h4 : n ∣ y * n * q + z * (n * o) := Int.dvd_add ⟨y * q, by rw [Int.mul_comm y, Int.mul_assoc]⟩ ⟨z * o, by rw [Int.mul_left_comm]⟩
    have := Int.dvd_add h0 h4
    rwa [show x * (o * q) - r0 + (y * n * q + z * (n * o)) = (x * o + y * n) * q + z * (n * o) - r0 by rw [Int.add_mul, Int.mul_assoc x]; omega] at this
  · refine dvd_sub_trans (dvd_mod_sub_of ⟨n * q, by rw [Int.mul_comm n o, Int.mul_assoc]⟩) ?_
    have h4 : o ∣ x * o * q + z * (n * o) := Int.dvd_add ⟨x * q, by rw [Int.mul_comm x, Int.mul_assoc]⟩ ⟨z * n, by rw [← Int.mul_assoc, Int.mul_comm (z * n)]⟩
    have := Int.dvd_add h1 h4
    rwa [show y * (n * q) - r1 + (x * o * q + z * (n * o)) = (x * o + y * n) * q + z * (n * o) - r1 by rw [Int.add_mul, Int.mul_assoc y]; omega] at this
  · refine dvd_sub_trans (dvd_mod_sub_of ⟨n * o, by rw [Int.mul_comm]⟩) ?_
    have := Int.dvd_add h2 (Int.dvd_mul_left (x * o + y * n) q)
    rwa [show z * (n * o) - r2 + (x * o + y * n) * q = (x * o + y * n) * q + z * (n * o) - r2 by omega] at this
theorem other3_0 {n o q : Int} : n ∣ ((1 * o + 1 * n) * q + 1 * (n * o)) % (n * o * q) % (n * o) % n - o * q := by
  refine dvd_sub_trans dvd_mod_sub (dvd_sub_trans (dvd_mod_sub_of (Int.dvd_mul_right n o)) (dvd_sub_trans (dvd_mod_sub_of ⟨o * q, by rw [Int.mul_assoc]⟩) ?_))
  exact ⟨q + o, by rw [Int.mul_add, Int.add_mul, Int.one_mul, Int.one_mul, Int.one_mul]; omega⟩
theorem other3_1 {n o q : Int} : o ∣ ((1 * o + 1 * n) * q + 1 * (n * o)) % (n * o * q) % (n * o) % o - n * q := by
  refine dvd_sub_trans dvd_mod_sub (dvd_sub_trans (dvd_mod_sub_of (Int.dvd_mul_left n o)) (dvd_sub_trans (dvd_mod_sub_of ⟨n * q, by rw [Int.mul_comm n o, Int.mul_assoc]⟩) ?_))
  exact ⟨q + n, by rw [Int.mul_add, Int.add_mul, Int.one_mul, Int.one_mul, Int.one_mul, Int.mul_comm n o]; omega⟩
theorem other3_2 {n o q : Int} : q ∣ ((1 * o + 1 * n) * q + 1 * (n * o)) % (n * o * q) % q % q - n * o := by
  refine dvd_sub_trans dvd_mod_sub (dvd_sub_trans dvd_mod_sub (dvd_sub_trans (dvd_mod_sub_of ⟨n * o, by rw [Int.mul_comm]⟩) ?_))
  exact ⟨1 * o + 1 * n, by rw [Int.mul_comm q]; omega⟩

/-- CRT: one answer -/
theorem crt2_uniq {n o r0 r1 v v' : Int} (h : Crt2 n o r0 r1 v) (h' : Crt2 n o r0 r1 v') : v = v' := by
  have d0 : n ∣ v - v' := dvd_sub_trans h.d0 (dvd_sub_symm h'.d0)
  have d1 : o ∣ v - v' := dvd_sub_trans h.d1 (dvd_sub_symm h'.d1)
  have d : n * o ∣ v - v' := by
    obtain ⟨c, hc⟩ := d0
    rw [hc] at d1 ⊢
    exact Int.mul_dvd_mul_left n (dvd_of_mul h.cop d1)
  obtain ⟨c, hc⟩ := d
  have h1 := h.lo
  have h2 := h.hi
  have h3 := h'.lo
  have h4 := h'.hi
  have hp : 0 < n * o := by omega
  have hc1 : c < 1 := by
    refine Int.lt_of_mul_lt_mul_left (a := n * o) ?_ (by omega)
    omega
  have hc2 : -1 < c := by
    refine Int.lt_of_mul_lt_mul_left (a := n * o) ?_ (by omega)
    omega
  have : c = 0 := by omega
  rw [this] at hc
  omega
end Mine
end

section
open PySem PySem.W PyProof.Rows PySem.Calls PySem.Spec
namespace Mine
set_option maxRecDepth 100000
theorem limbs_one {k : Int} : Limbs k [1] 1 := ⟨by simp [num], by simp, by decide, ⟨by decide⟩⟩
theorem limbs_zero {k : Int} : Limbs k [] 0 := ⟨rfl, (fun _ h => nomatch h), by decide, ⟨by decide⟩⟩
theorem one_of {k n r : Int} (hD : Limbs k (dig k n) n) (hr : r = 0 ↔ dig k n = [1]) (h : r = 0) : n = 1 := by
  have e := hD.eq
  rw [hr.mp h] at e
  simpa [num] using e.symm
/-- a number that stays below the moduli's line -/
structure Bd (a : Int) : Prop where
  lo : 0 ≤ a
  hi : a < 100000
theorem Bd.zero : Bd 0 := ⟨by decide, by decide⟩
theorem Bd.one : Bd 1 := ⟨by decide, by decide⟩
theorem Bd.mod {r n : Int} (hn : 0 < n) (h : Bd n) : Bd (r % n) := ⟨Int.emod_nonneg _ (by omega), Int.lt_trans (Int.emod_lt_of_pos _ hn) h.hi⟩
theorem Bd.lt {x n : Int} (h0 : 0 ≤ x) (h1 : x < n) (h : Bd n) : Bd x := ⟨h0, Int.lt_trans h1 h.hi⟩
theorem Bd.mul_le {a b : Int} (h1 : Bd a) (h2 : Bd b) : a * b ≤ 10000000000 := by
  have e1 : a * b ≤ a * 100000 := Int.mul_le_mul_of_nonneg_left (Int.le_of_lt h2.hi) h1.lo
  have := h1.hi
  omega
theorem Bd.small {a : Int} (h1 : Bd a) : Small a := ⟨by have := h1.hi; omega⟩
theorem Bd.small_mul {a b : Int} (h1 : Bd a) (h2 : Bd b) : Small (a * b) := ⟨by have := h1.mul_le h2; omega⟩
theorem Bd.small_sum_mul {a b c d e : Int} (h1 : Bd a) (h2 : Bd b) (h3 : Bd c) (h4 : Bd d) (h5 : Bd e) : Small ((a * b + c * d) * e) := ⟨by
  have q1 := h1.mul_le h2
  have q2 := h3.mul_le h4
  have q3 : (a * b + c * d) * e ≤ 20000000000 * e := Int.mul_le_mul_of_nonneg_right (by omega) h5.lo
  have := h5.hi
  omega⟩
theorem Bd.small_sum3 {a b c d e f g : Int} (h1 : Bd a) (h2 : Bd b) (h3 : Bd c) (h4 : Bd d) (h5 : Bd e) (h6 : Bd f) (h7 : Bd g) : Small ((a * b + c * d) * e + f * g) := ⟨by
  have q1 := h1.mul_le h2
  have q2 := h3.mul_le h4
  have q3 : (a * b + c * d) * e ≤ 20000000000 * e := Int.mul_le_mul_of_nonneg_right (by omega) h5.lo
  have q4 := h6.mul_le h7
  have := h5.hi
  omega⟩
theorem Bd.small_sum {a b c d : Int} (h1 : Bd a) (h2 : Bd b) (h3 : Bd c) (h4 : Bd d) : Small (a * b + c * d) := ⟨by have := h1.mul_le h2; have := h3.mul_le h4; omega⟩
theorem ite_ieq_ne {x y : Int} {P Q : Prop} (hne : x ≠ y) (h : Q) : if (x == y) = true then P else Q := by rw [if_neg (by simp [hne])]; exact h
theorem ite_dec_ne {x y : Int} {P Q : Prop} (hne : x ≠ y) (h : Q) : if decide (x = y) = true then P else Q := by rw [if_neg (by simp [hne])]; exact h
/-- what a turn of chinese's loop gives: v, which times z is the rest -/
structure Scaled (n z r v : Int) : Prop where
  cop : Int.gcd z n = 1
  lo : 0 ≤ v
  hi : v < n
  dvd : n ∣ v * z - r
theorem Scaled.one {n z r : Int} (h : n = 1) : Scaled n z r 0 := by
  subst h
  exact ⟨Int.gcd_one_right z, by decide, by decide, Int.one_dvd _⟩
theorem Scaled.mk' {n z r x : Int} (hn : 0 < n) (h : n ∣ x * z - 1) : Scaled n z r ((r % n) * x % n) :=
  ⟨gcd_of_inv h dvd_sub_refl, Int.emod_nonneg _ (by omega), Int.emod_lt_of_pos _ hn, scaled_rest h dvd_sub_refl⟩
theorem Scaled.at {n z r v y : Int} (h : Scaled n z r v) (hy : n ∣ z - y) : n ∣ v * y - r :=
  dvd_sub_trans (dvd_sub_mul dvd_sub_refl (dvd_sub_symm hy)) h.dvd
theorem Scaled.gcd {n z r v y : Int} (h : Scaled n z r v) (hy : n ∣ z - y) : Int.gcd y n = 1 := (gcd_of_dvd hy).symm.trans h.cop
end Mine
end

section
open PySem PySem.W PyProof.Rows PySem.Calls PySem.Spec
namespace Mine
set_option maxRecDepth 100000
set_option maxHeartbeats 16000000
theorem fill5 : hd.heap_1 = hd.heap_1 ∧ PySem.Challenge.rw_pq0533_01 = PySem.Challenge.rw_pq0533_01 := by k_fill; exact ⟨rfl, rfl⟩

theorem cmp_ne {r : Int} {ds : List Int} (hr : r ≠ 0) (h : ds ≠ [1]) : r = 0 ↔ ds = [1] := ⟨fun e => absurd e hr, fun e => absurd e h⟩
theorem cmp_eq {ds : List Int} (h : ds = [1]) : (0 : Int) = 0 ↔ ds = [1] := ⟨fun _ => h, fun _ => rfl⟩
section
variable {w : World} {loose : List Str} {mean : ExcName → Option Value} {mg mb : Str → Option Value} {dp un : Nat} {fr : Option (List Env)} {gd : Option (List Code)} {s : Shared} {Q E : Value → Shared → Prop}
    {a b : Addr} {vs us : List Value} {ds es : List Int} {n o k : Int} {tk : Tok}
theorem c_compare
    (X : (hd.heap_1 w.params).In s.heap) (T : Top view loose mean mg mb s.heap)
    (hdp : dp + 2 < recursionLimit)
    (hl : s.heap.IsList a vs.toArray) (hi : IntsAre vs ds) (hlen : ds.length < 100)
    (hl2 : s.heap.IsList b us.toArray) (hi2 : IntsAre us [1])
    (hret : ∀ r t h' tk', (r = 0 ↔ ds = [1]) → s.heap.StaysIn h' → Q (.int r t) { s with heap := h', toks := tk' }) :
    wpAny (model PySem.Challenge.rw_pq0533_01.row.prog w) (AT dp un fr gd) (call (.ref 58) [.ref a, .ref b]) Q E s := by
  refine' ent_plain X T ?k6 ?k7 ?k8 ?k9 ?kB ?_ ?c2 ?c3 ?c4 ?c5
  case k6 => k_is
  case k7 => k_is
  case k8 => show dp < recursionLimit; omega
  case k9 => exact BindsTo.of_eq rfl
  case kB => exact locs rfl
  case c2 => exact rfl
  case c3 => exact rfl
  case c4 => exact rfl
  case c5 => decide
  intro L' h₁ F' N'
  dsimp only
  k_fold
  k_with_none
  k_with "my lt" => skip
  k_with "my k_ne" => (refine neN ?_; (try dsimp only); first | exact Apart.ne (by assumption) (by k_mem) | exact Ne.symm (Apart.ne (by assumption) (by k_mem)))
  by_cases h1 : ds.length = 1
  · obtain ⟨d, rfl⟩ := List.length_eq_one_iff.mp h1
    k_steps
    all_goals (try dsimp only)
    all_goals (first | exact hret _ _ _ _ (cmp_ne (by decide) (by intro e; simp_all)) (Fr.keep (by assumption)) | exact hret _ _ _ _ (cmp_eq (by simp_all)) (Fr.keep (by assumption)))
  · k_steps
    all_goals (first | (exfalso; omega) | exact hret _ _ _ _ (cmp_ne (by decide) (by rintro rfl; exact h1 rfl)) (Fr.keep (by assumption)))

theorem u_compare {h₀ : Heap} {L : Addr} {m : Str → Option Value} {news : List (Addr × Obj)} (F : Fr h₀ L s.heap m) (X₀ : (hd.heap_1 w.params).In h₀) (N : News h₀ L s.heap news) (T : Top view loose mean mg mb h₀)
    (hdp : dp + 2 < recursionLimit)
    (hl : s.heap.IsList a vs.toArray) (hi : IntsAre vs ds) (hlen : ds.length < 100)
    (hl2 : s.heap.IsList b us.toArray) (hi2 : IntsAre us [1])
    (hret : ∀ r t h' tk', (r = 0 ↔ ds = [1]) → Fr h₀ L h' m → News h₀ L h' news → Q (.int r t) { s with heap := h', toks := tk' }) :
    wpAny (model PySem.Challenge.rw_pq0533_01.row.prog w) (AT dp un fr gd) (call (.ref 58) [.ref a, .ref b]) Q E s :=
  c_compare (X₀.keeps F.keep) (T.keeps F.keep) hdp hl hi hlen hl2 hi2 fun r t h' tk' hr st => hret r t h' tk' hr (fr_stays F st) (news_stays N st)
end
end Mine
end

section
open PySem PySem.W PyProof.Rows PySem.Calls PySem.Spec
namespace Mine
set_option maxRecDepth 100000
set_option maxHeartbeats 16000000
theorem fill6 : hd.heap_1 = hd.heap_1 ∧ PySem.Challenge.rw_pq0533_01 = PySem.Challenge.rw_pq0533_01 := by k_fill; exact ⟨rfl, rfl⟩
structure AddInv (k : Int) (A B : List Int) (i : Nat) (carry : Int) (found : List Int) : Prop where
  eq : num k found + carry * (2 ^ k.toNat) ^ i = num k (A.take i) + num k (B.take i)
  pos : ∀ d ∈ found, 0 ≤ d
  c0 : 0 ≤ carry
theorem add_start {k : Int} {A B : List Int} : AddInv k A B 0 0 [] := ⟨by simp [num], fun _ h => (nomatch h), Int.le_refl _⟩
theorem bitAnd_mask {c k : Int} (hc : 0 ≤ c) : Builtin.bitAnd c (1 * 2 ^ k.toNat - 1) = c % 2 ^ k.toNat := by
  have h1 := one_le_pow (k := k)
  have e : (1 * (2 : Int) ^ k.toNat - 1) = ((2 ^ k.toNat - 1 : Nat) : Int) := by
    have h2 : 1 ≤ 2 ^ k.toNat := Nat.one_le_two_pow
    rw [Int.natCast_sub h2, Int.natCast_pow]
    simp
  rw [e]
  unfold Builtin.bitAnd
  have h3 : (0 : Int) ≤ ((2 ^ k.toNat - 1 : Nat) : Int) := Int.natCast_nonneg _
  simp only [hc, h3, decide_true]
  rw [Int.toNat_natCast, Nat.and_two_pow_sub_one_eq_mod, Int.natCast_emod, Int.toNat_of_nonneg hc, Int.natCast_pow]
  rfl
theorem num_append1 (k x : Int) : ∀ l : List Int, num k (l ++ [x]) = num k l + x * (2 ^ k.toNat) ^ l.length
  | [] => by simp [num]
  | d :: r => by
    rw [List.cons_append, num, num_append1 k x r, num, List.length_cons, Int.pow_succ, Int.add_mul, ← Int.mul_assoc]
    omega
theorem num_take (k : Int) : ∀ (A : List Int) (i : Nat), num k (A.take (i + 1)) = num k (A.take i) + A.getD i 0 * (2 ^ k.toNat) ^ i
  | [], i => by simp [num]
  | d :: r, 0 => by simp [num]
  | d :: r, i + 1 => by
    rw [List.take_succ_cons, num, num_take k r i, List.take_succ_cons, num, List.getD_cons_succ, Int.pow_succ, Int.add_mul, ← Int.mul_assoc]
    omega
theorem getD_nonneg {A : List Int} (h : ∀ d ∈ A, 0 ≤ d) (i : Nat) : 0 ≤ A.getD i 0 := by
  rw [List.getD_eq_getElem?_getD]
  cases e : A[i]? with
  | none => exact Int.le_refl _
  | some x => exact h x (List.mem_of_getElem? e)
theorem add_turn {k c S : Int} {A B f : List Int} {i : Nat} (hS : S = c + (A.getD i 0 + B.getD i 0)) (hA : ∀ d ∈ A, 0 ≤ d) (hB : ∀ d ∈ B, 0 ≤ d) (h : AddInv k A B i c f) (hl : f.length = i) :
    AddInv k A B (i + 1) (S.fdiv (2 ^ k.toNat)) (f ++ [Builtin.bitAnd S (1 * 2 ^ k.toNat - 1)]) := by
  have h1 := one_le_pow (k := k)
  have ha := getD_nonneg hA i
  have hb := getD_nonneg hB i
  have hc := h.c0
  have hS0 : 0 ≤ S := by omega
  rw [bitAnd_mask hS0, Int.fdiv_eq_ediv_of_nonneg _ (by omega)]
  refine ⟨?_, fun d hd => ?_, Int.ediv_nonneg hS0 (by omega)⟩
  · rw [num_append1, num_take, num_take, hl, Int.pow_succ]
    have e := h.eq
    have q := Int.mul_ediv_add_emod S (2 ^ k.toNat)
    have e1 : S / 2 ^ k.toNat * ((2 ^ k.toNat) ^ i * 2 ^ k.toNat) + S % 2 ^ k.toNat * (2 ^ k.toNat) ^ i = S * (2 ^ k.toNat) ^ i := by
      rw [Int.mul_comm ((2 ^ k.toNat) ^ i), ← Int.mul_assoc, ← Int.add_mul, Int.mul_comm (S / _), q]
    have e2 : S * (2 ^ k.toNat) ^ i = c * (2 ^ k.toNat) ^ i + (A.getD i 0 * (2 ^ k.toNat) ^ i + B.getD i 0 * (2 ^ k.toNat) ^ i) := by
      rw [hS, Int.add_mul, Int.add_mul]
    omega
  · rcases List.mem_append.mp hd with hd | hd
    · exact h.pos d hd
    · rw [List.mem_singleton.mp hd]; exact Int.emod_nonneg _ (by omega)
theorem add_turn1 {k c kN : Int} {A B f pre : List Int} (hA : ∀ d ∈ A, 0 ≤ d) (hB : ∀ d ∈ B, 0 ≤ d) (e : kN = (pre.length : Int)) (h : AddInv k A B pre.length c f) (hl : f.length = pre.length) :
    AddInv k A B (pre ++ [kN]).length ((c + (A.getD kN.toNat 0 + B.getD kN.toNat 0)).fdiv (2 ^ k.toNat)) (f ++ [Builtin.bitAnd (c + (A.getD kN.toNat 0 + B.getD kN.toNat 0)) (1 * 2 ^ k.toNat - 1)]) ∧
      (f ++ [Builtin.bitAnd (c + (A.getD kN.toNat 0 + B.getD kN.toNat 0)) (1 * 2 ^ k.toNat - 1)]).length = (pre ++ [kN]).length := by
  have e2 : kN.toNat = pre.length := by omega
  rw [e2, List.length_append, List.length_append, hl]
  exact ⟨add_turn rfl hA hB h hl, rfl⟩
theorem add_turn2 {k c kN : Int} {A B f pre : List Int} (hA : ∀ d ∈ A, 0 ≤ d) (hB : ∀ d ∈ B, 0 ≤ d) (e : kN = (B.length : Int) + (pre.length : Int)) (h : AddInv k A B (B.length + pre.length) c f) (hl : f.length = B.length + pre.length) :
    AddInv k A B (B.length + (pre ++ [kN]).length) ((c + A.getD kN.toNat 0).fdiv (2 ^ k.toNat)) (f ++ [Builtin.bitAnd (c + A.getD kN.toNat 0) (1 * 2 ^ k.toNat - 1)]) ∧
      (f ++ [Builtin.bitAnd (c + A.getD kN.toNat 0) (1 * 2 ^ k.toNat - 1)]).length = B.length + (pre ++ [kN]).length := by
  have e2 : kN.toNat = B.length + pre.length := by omega
  have e3 : B.getD (B.length + pre.length) 0 = 0 := by rw [List.getD_eq_getElem?_getD, List.getElem?_eq_none (by omega)]; rfl
  rw [e2, List.length_append, List.length_append, hl]
  exact ⟨add_turn (i := B.length + pre.length) (S := c + A.getD (B.length + pre.length) 0) (by rw [e3]; omega) hA hB h hl, rfl⟩
theorem add_mid {k c : Int} {A B f : List Int} {i : Nat} (h : AddInv k A B i c f) (hl : f.length = i) (hi : i = B.length) : AddInv k A B (B.length + ([] : List Int).length) c f ∧ f.length = B.length + ([] : List Int).length := by
  subst hi
  exact ⟨h, hl⟩
theorem add_done {k c n o : Int} {A B f : List Int} {i : Nat} (hA : Limbs k A n) (hB : Limbs k B o) (hS : Small (n + o)) (h : AddInv k A B i c f) (hl : f.length = i) (h1 : A.length ≤ i) (h2 : B.length ≤ i) (hi : i < 90) :
    (0 < c → Limbs k (f ++ [c]) (n + o)) ∧ (¬ 0 < c → Limbs k f (n + o)) := by
  have e := h.eq
  have hc := h.c0
  rw [List.take_of_length_le h1, List.take_of_length_le h2, hA.eq, hB.eq] at e
  refine ⟨fun _ => ⟨by rw [num_append1, hl, e], fun d hd => ?_, by rw [List.length_append, hl]; exact Nat.lt_of_lt_of_le (Nat.add_lt_add_right hi 1) (by decide), hS⟩, fun hn => ⟨?_, h.pos, by omega, hS⟩⟩
  · rcases List.mem_append.mp hd with hd | hd
    · exact h.pos d hd
    · rw [List.mem_singleton.mp hd]; exact hc
  · have c0 : c = 0 := by omega
    rw [c0, Int.zero_mul, Int.add_zero] at e
    exact e

section
variable {w : World} {loose : List Str} {mean : ExcName → Option Value} {mg mb : Str → Option Value} {dp un : Nat} {fr : Option (List Env)} {gd : Option (List Code)} {s : Shared} {Q E : Value → Shared → Prop}
    {a b : Addr} {vs us : List Value} {ds es : List Int} {n o k : Int} {tk : Tok}
theorem c_add1
    (X : (hd.heap_1 w.params).In s.heap) (T : Top view loose mean mg mb s.heap)
    (hk1 : 1 ≤ k) (hk9 : k ≤ 9) (hdp : dp + 2 < recursionLimit)
    (hl : s.heap.IsList a vs.toArray) (hi : IntsAre vs ds) (hD : Limbs k ds n)
    (hl2 : s.heap.IsList b us.toArray) (hi2 : IntsAre us es) (hD2 : Limbs k es o) (hS : Small (n + o)) (hle : es.length ≤ ds.length) (hL1 : ds.length ≤ 60)
    (hret : ∀ l vs c ds h' tk', s.heap.StaysIn h' → NewIn s.heap h' [(l, W.listOf vs.toArray c)] → IntsAre vs ds → Limbs k ds (n + o) → Q (.ref l) { s with heap := h', toks := tk' }) :
    wpAny (model PySem.Challenge.rw_pq0533_01.row.prog w) (AT dp un fr gd) (call (.ref 65) [.ref a, .ref b, .int k tk]) Q E s := by
  refine' ent_plain X T ?k6 ?k7 ?k8 ?k9 ?kB ?_ ?c2 ?c3 ?c4 ?c5
  case k6 => k_is
  case k7 => k_is
  case k8 => show dp < recursionLimit; omega
  case k9 => exact BindsTo.of_eq rfl
  case kB => exact locs rfl
  case c2 => exact rfl
  case c3 => exact rfl
  case c4 => exact rfl
  case c5 => decide
  intro L' h₁ F' N'
  dsimp only
  k_fold
  have i0 : IntsAre [] [] := .nil
  have hlen1 := hD.len
  have hlen2 := hD2.len
  k_with_none
  k_with "my lt" => skip
  k_with "my k_ne" => (refine neN ?_; (try dsimp only); first | exact Apart.ne (by assumption) (by k_mem) | exact Ne.symm (Apart.ne (by assumption) (by k_mem)))
  k_with "pyIter ref" => k_state (fun pre carry found => AddInv k ds es pre.length carry found ∧ found.length = pre.length) "carry" "found"
  k_with "pyIter ref" => k_state (fun pre carry found => AddInv k ds es (es.length + pre.length) carry found ∧ found.length = es.length + pre.length) "carry" "found"
  k_with "state" => (first | exact ⟨add_start, rfl⟩ | exact add_turn1 hD.pos hD2.pos (by omega) (by assumption) (by assumption) | exact add_turn2 hD.pos hD2.pos (by omega) (by assumption) (by assumption) | exact add_mid (by assumption) (by assumption) (by simp [rangeKs_length]))
  k_steps
  all_goals (try dsimp only)
  · (try simp only [List.push_toArray] at *)
    have q := (add_done hD hD2 hS (by assumption) (by assumption) (by simp only [rangeKs_length]; omega) (by omega) (by simp only [rangeKs_length]; omega)).1 (by assumption)
    exact hret _ _ _ _ _ _ (Fr.keep (by assumption)) (newIn_sub (newIn_of (by assumption)) (by k_allIn)) (IntsAre.append (by assumption) (.cons _ _ .nil)) q
  · have q := (add_done hD hD2 hS (by assumption) (by assumption) (by simp only [rangeKs_length]; omega) (by omega) (by simp only [rangeKs_length]; omega)).2 (by assumption)
    exact hret _ _ _ _ _ _ (Fr.keep (by assumption)) (newIn_sub (newIn_of (by assumption)) (by k_allIn)) (by assumption) q
theorem c_add2
    (X : (hd.heap_1 w.params).In s.heap) (T : Top view loose mean mg mb s.heap)
    (hk1 : 1 ≤ k) (hk9 : k ≤ 9) (hdp : dp + 2 < recursionLimit)
    (hl : s.heap.IsList a vs.toArray) (hi : IntsAre vs ds) (hD : Limbs k ds n)
    (hl2 : s.heap.IsList b us.toArray) (hi2 : IntsAre us es) (hD2 : Limbs k es o) (hS : Small (n + o)) (hle : ds.length < es.length) (hL1 : es.length ≤ 60)
    (hret : ∀ l vs c ds h' tk', s.heap.StaysIn h' → NewIn s.heap h' [(l, W.listOf vs.toArray c)] → IntsAre vs ds → Limbs k ds (n + o) → Q (.ref l) { s with heap := h', toks := tk' }) :
    wpAny (model PySem.Challenge.rw_pq0533_01.row.prog w) (AT dp un fr gd) (call (.ref 65) [.ref a, .ref b, .int k tk]) Q E s := by
  refine' ent_plain X T ?k6 ?k7 ?k8 ?k9 ?kB ?_ ?c2 ?c3 ?c4 ?c5
  case k6 => k_is
  case k7 => k_is
  case k8 => show dp < recursionLimit; omega
  case k9 => exact BindsTo.of_eq rfl
  case kB => exact locs rfl
  case c2 => exact rfl
  case c3 => exact rfl
  case c4 => exact rfl
  case c5 => decide
  intro L' h₁ F' N'
  dsimp only
  k_fold
  have hS' : Small (o + n) := Int.add_comm n o ▸ hS
  have i0 : IntsAre [] [] := .nil
  have hlen1 := hD.len
  have hlen2 := hD2.len
  k_with_none
  k_with "my lt" => skip
  k_with "my k_ne" => (refine neN ?_; (try dsimp only); first | exact Apart.ne (by assumption) (by k_mem) | exact Ne.symm (Apart.ne (by assumption) (by k_mem)))
  k_with "pyIter ref" => k_state (fun pre carry found => AddInv k es ds pre.length carry found ∧ found.length = pre.length) "carry" "found"
  k_with "pyIter ref" => k_state (fun pre carry found => AddInv k es ds (ds.length + pre.length) carry found ∧ found.length = ds.length + pre.length) "carry" "found"
  k_with "state" => (first | exact ⟨add_start, rfl⟩ | exact add_turn1 hD2.pos hD.pos (by omega) (by assumption) (by assumption) | exact add_turn2 hD2.pos hD.pos (by omega) (by assumption) (by assumption) | exact add_mid (by assumption) (by assumption) (by simp [rangeKs_length]))
  k_steps
  all_goals (try dsimp only)
  · (try simp only [List.push_toArray] at *)
    have q := (add_done hD2 hD hS' (by assumption) (by assumption) (by simp only [rangeKs_length]; omega) (by omega) (by simp only [rangeKs_length]; omega)).1 (by assumption)
    exact hret _ _ _ _ _ _ (Fr.keep (by assumption)) (newIn_sub (newIn_of (by assumption)) (by k_allIn)) (IntsAre.append (by assumption) (.cons _ _ .nil)) (Int.add_comm n o ▸ q)
  · have q := (add_done hD2 hD hS' (by assumption) (by assumption) (by simp only [rangeKs_length]; omega) (by omega) (by simp only [rangeKs_length]; omega)).2 (by assumption)
    exact hret _ _ _ _ _ _ (Fr.keep (by assumption)) (newIn_sub (newIn_of (by assumption)) (by k_allIn)) (by assumption) (Int.add_comm n o ▸ q)

theorem u_add {h₀ : Heap} {L : Addr} {m : Str → Option Value} {news : List (Addr × Obj)} (F : Fr h₀ L s.heap m) (X₀ : (hd.heap_1 w.params).In h₀) (N : News h₀ L s.heap news) (T : Top view loose mean mg mb h₀)
    (hk1 : 1 ≤ k) (hk9 : k ≤ 9) (hdp : dp + 2 < recursionLimit)
    (hl : s.heap.IsList a vs.toArray) (hi : IntsAre vs ds) (hD : Limbs k ds n)
    (hl2 : s.heap.IsList b us.toArray) (hi2 : IntsAre us es) (hD2 : Limbs k es o) (hS : Small (n + o)) (hL1 : ds.length ≤ 60) (hL2 : es.length ≤ 60)
    (hret : ∀ l vs c ds h' tk', Fr h₀ L h' m → News h₀ L h' ((l, W.listOf vs.toArray c) :: news) → Apart l news → IntsAre vs ds → Limbs k ds (n + o) → Q (.ref l) { s with heap := h', toks := tk' }) :
    wpAny (model PySem.Challenge.rw_pq0533_01.row.prog w) (AT dp un fr gd) (call (.ref 65) [.ref a, .ref b, .int k tk]) Q E s := by
  by_cases h : es.length ≤ ds.length
  · exact c_add1 (X₀.keeps F.keep) (T.keeps F.keep) hk1 hk9 hdp hl hi hD hl2 hi2 hD2 hS h hL1 fun l vs c ds h' tk' st nw hi hd => hret l vs c ds h' tk' (fr_stays F st) (news_new F N st nw) (apart_new N nw (.head _)) hi hd
  · exact c_add2 (X₀.keeps F.keep) (T.keeps F.keep) hk1 hk9 hdp hl hi hD hl2 hi2 hD2 hS (Nat.lt_of_not_le h) hL2 fun l vs c ds h' tk' st nw hi hd => hret l vs c ds h' tk' (fr_stays F st) (news_new F N st nw) (apart_new N nw (.head _)) hi hd
end
end Mine
end

section
open PySem PySem.W PyProof.Rows PySem.Calls PySem.Spec
namespace Mine
set_option maxRecDepth 100000
set_option maxHeartbeats 16000000
theorem fill7 : hd.heap_1 = hd.heap_1 ∧ PySem.Challenge.rw_pq0533_01 = PySem.Challenge.rw_pq0533_01 := by k_fill; exact ⟨rfl, rfl⟩
section
variable {prog : Program} {w : World} {A : Around} {E : Value → Shared → Prop} {s : Shared} {a : Addr} {x y z : Value} {Q : Value → Shared → Prop}
theorem len_lit0 (hl : s.heap.IsList a ([] : List Value).toArray) (h : Q (.int 0 (s.toks + 1)) { s with toks := s.toks + 1 + 1 }) : wpAny (model prog w) A (call (.builtin "len") [.ref a]) Q E s := len_list hl (by decide) h
theorem len_lit1 (hl : s.heap.IsList a [x].toArray) (h : Q (.int 1 (s.toks + 1)) { s with toks := s.toks + 1 + 1 }) : wpAny (model prog w) A (call (.builtin "len") [.ref a]) Q E s := len_list hl (by simp) h
theorem len_lit2 (hl : s.heap.IsList a [x, y].toArray) (h : Q (.int 2 (s.toks + 1)) { s with toks := s.toks + 1 + 1 }) : wpAny (model prog w) A (call (.builtin "len") [.ref a]) Q E s := len_list hl (by simp) h
theorem len_lit3 (hl : s.heap.IsList a [x, y, z].toArray) (h : Q (.int 3 (s.toks + 1)) { s with toks := s.toks + 1 + 1 }) : wpAny (model prog w) A (call (.builtin "len") [.ref a]) Q E s := len_list hl (by simp) h
end
section
variable {w : World} {loose : List Str} {mean : ExcName → Option Value} {mg mb : Str → Option Value} {dp un : Nat} {fr : Option (List Env)} {gd : Option (List Code)} {outer : List Env} {s : Shared} {Q E : Value → Shared → Prop}
theorem c_level2 {lv a b : Addr} {vs us : List Value} {ds es : List Int} {n o k : Int} {tk : Tok}
    (X : (hd.heap_1 w.params).In s.heap) (T : Top view loose mean mg mb s.heap)
    (hk1 : 1 ≤ k) (hk9 : k ≤ 9) (hdp : dp + 6 < recursionLimit)
    (hv : s.heap.IsList lv [Value.ref a, Value.ref b].toArray) (hl1 : s.heap.IsList a vs.toArray) (hi1 : IntsAre vs ds) (hD1 : Limbs k ds n) (hl2 : s.heap.IsList b us.toArray) (hi2 : IntsAre us es) (hD2 : Limbs k es o) (hS : Small (n * o))
    (hret : ∀ (l : Addr) (cl : Nat) (p : Addr) (xs : List Value) (cp : Nat) (h' : Heap) (tk' : Nat), s.heap.StaysIn h' → NewIn s.heap h' [(l, W.listOf [Value.ref p].toArray cl), (p, W.listOf xs.toArray cp)] → IntsAre xs (dig k (n * o)) → Limbs k (dig k (n * o)) (n * o) → Q (.ref l) { s with heap := h', toks := tk' }) :
    wpAny (model PySem.Challenge.rw_pq0533_01.row.prog w) (AT dp un fr gd) (call (.ref 72) [.ref lv, .int k tk, .ref 143]) Q E s := by
  refine' ent_plain X T ?k6 ?k7 ?k8 ?k9 ?kB ?_ ?c2 ?c3 ?c4 ?c5
  case k6 => k_is
  case k7 => k_is
  case k8 => show dp < recursionLimit; omega
  case k9 => exact BindsTo.of_eq rfl
  case kB => exact locs rfl
  case c2 => exact rfl
  case c3 => exact rfl
  case c4 => exact rfl
  case c5 => decide
  intro L' h₁ F' N'
  dsimp only
  k_fold
  have i0 : IntsAre [] [] := .nil
  k_with_none
  k_with "my lt" => skip
  k_with "my k_ne" => (refine neN ?_; (try dsimp only); first | exact Apart.ne (by assumption) (by k_mem) | exact Ne.symm (Apart.ne (by assumption) (by k_mem)))
  k_with "my call ref" => (k_here; (with_reducible show wpAny _ _ (call (Value.ref 136) _) _ _ _); refine' u_number ?k1 ?k2 ?k3 ?k4 ?k5 ?k6 ?k7 ?k8 ?k9 ?k10 ?_; (case k1 => k_asm); (case k2 => k_asm); (case k3 => k_asm); (case k4 => k_asm); (case k5 => assumption); (case k6 => assumption); (case k7 => ((try simp only [depth_deeper, at_depth]); omega)); (case k8 => is_list); (case k9 => l_ints); (case k10 => assumption); k_whole; intro t' h' tk' F' N'; (try dsimp only); (try k_sweep); (try k_fold))
  k_with "my call ref" => (k_here; (with_reducible show wpAny _ _ (call (Value.ref 129) _) _ _ _); refine' u_limbs ?k1 ?k2 ?k3 ?k4 ?k5 ?k6 ?k7 ?k8 ?k9 ?_; (case k1 => k_asm); (case k2 => k_asm); (case k3 => k_asm); (case k4 => k_asm); (case k5 => assumption); (case k6 => assumption); (case k7 => ((try simp only [depth_deeper, at_depth]); omega)); (case k8 => k_extra "pos"); (case k9 => k_extra "small"); k_whole; intro l' vs' c' h' tk' F' N' ap' hI' hD'; (try dsimp only); (try k_sweep); (try k_fold))
  k_with "my call ref" => (k_here; (with_reducible show wpAny _ _ (call (Value.ref 143) _) _ _ _); refine' u_mul ?k1 ?k2 ?k3 ?k4 ?k5 ?k6 ?k7 ?k8 ?k9 ?k10 ?k11 ?k12 ?k13 ?k14 ?_; (case k1 => k_asm); (case k2 => k_asm); (case k3 => k_asm); (case k4 => k_asm); (case k5 => assumption); (case k6 => assumption); (case k7 => ((try simp only [depth_deeper, at_depth]); omega)); (case k8 => is_list); (case k9 => l_ints); (case k10 => assumption); (case k11 => is_list); (case k12 => l_ints); (case k13 => assumption); (case k14 => k_extra "small"); k_whole; intro l' vs' c' h' tk' F' N' ap' hI' hD'; (try dsimp only); (try k_sweep); (try k_fold))
  k_with "my call ref" => (k_here; (with_reducible show wpAny _ _ (call (Value.ref 65) _) _ _ _); refine' u_add ?k1 ?k2 ?k3 ?k4 ?k5 ?k6 ?k7 ?k8 ?k9 ?k10 ?k11 ?k12 ?k13 ?k14 ?k15 ?k16 ?_; (case k1 => k_asm); (case k2 => k_asm); (case k3 => k_asm); (case k4 => k_asm); (case k5 => assumption); (case k6 => assumption); (case k7 => ((try simp only [depth_deeper, at_depth]); omega)); (case k8 => is_list); (case k9 => l_ints); (case k10 => assumption); (case k11 => is_list); (case k12 => l_ints); (case k13 => assumption); (case k14 => k_extra "small"); (case k15 => k_extra "len60"); (case k16 => k_extra "len60"); k_whole; intro l' vs' c' ds' h' tk' F' N' ap' hI' hD'; (try dsimp only); (try k_sweep); (try k_fold))
  k_with "my call ref" => (k_here; (with_reducible show wpAny _ _ (call (Value.ref 150) _) _ _ _); refine' u_divrem ?k1 ?k2 ?k3 ?k4 ?k5 ?k6 ?k7 ?k8 ?k9 ?k10 ?k11 ?k12 ?k13 ?k14 ?_; (case k1 => k_asm); (case k2 => k_asm); (case k3 => k_asm); (case k4 => k_asm); (case k5 => assumption); (case k6 => assumption); (case k7 => ((try simp only [depth_deeper, at_depth]); omega)); (case k8 => is_list); (case k9 => l_ints); (case k10 => assumption); (case k11 => is_list); (case k12 => l_ints); (case k13 => assumption); (case k14 => k_extra "divpos"); k_whole; intro l' l1' l2' vs1' vs2' c1' c2' h' tk' F' N' ap' ap1' ap2' hI1' hI2' hD1' hD2'; (try dsimp only); (try k_sweep); (try k_fold))
  k_with "my execs cons Assign cons" => ((with_reducible refine wpAny_execs_cons ?_); try dsimp only)
  k_with "my call builtin:len" => (k_here; (with_reducible show wpAny _ _ (call (Value.builtin "len") [Value.ref _]) _ _ _); first | (refine' len_lit2 ?k1 ?_; (case k1 => is_list); k_whole) | (refine' len_lit1 ?k1 ?_; (case k1 => is_list); k_whole) | (refine' len_lit3 ?k1 ?_; (case k1 => is_list); k_whole) | (refine' len_lit0 ?k1 ?_; (case k1 => is_list); k_whole))
  k_with "small" => assumption
  k_steps
  all_goals (try k_data)
  all_goals (try dsimp only)
  all_goals (first | (exfalso; omega) | exact hret _ _ _ _ _ _ _ (Fr.keep (by assumption)) (newIn_sub (newIn_of (by assumption)) (by k_allIn)) (by assumption) (by assumption))

theorem u_level2 {lv a b : Addr} {vs us : List Value} {ds es : List Int} {n o k : Int} {tk : Tok} {h₀ : Heap} {L : Addr} {mm : Str → Option Value} {news : List (Addr × Obj)} (F : Fr h₀ L s.heap mm) (X₀ : (hd.heap_1 w.params).In h₀) (N : News h₀ L s.heap news) (T : Top view loose mean mg mb h₀)
    (hk1 : 1 ≤ k) (hk9 : k ≤ 9) (hdp : dp + 6 < recursionLimit)
    (hv : s.heap.IsList lv [Value.ref a, Value.ref b].toArray) (hl1 : s.heap.IsList a vs.toArray) (hi1 : IntsAre vs ds) (hD1 : Limbs k ds n) (hl2 : s.heap.IsList b us.toArray) (hi2 : IntsAre us es) (hD2 : Limbs k es o) (hS : Small (n * o))
    (hret : ∀ (l : Addr) (cl : Nat) (p : Addr) (xs : List Value) (cp : Nat) (h' : Heap) (tk' : Nat), Fr h₀ L h' mm → News h₀ L h' ((l, W.listOf [Value.ref p].toArray cl) :: (p, W.listOf xs.toArray cp) :: news) → Apart l news → Apart p news → IntsAre xs (dig k (n * o)) → Limbs k (dig k (n * o)) (n * o) → Q (.ref l) { s with heap := h', toks := tk' }) :
    wpAny (model PySem.Challenge.rw_pq0533_01.row.prog w) (AT dp un fr gd) (call (.ref 72) [.ref lv, .int k tk, .ref 143]) Q E s :=
  c_level2 (X₀.keeps F.keep) (T.keeps F.keep) hk1 hk9 hdp hv hl1 hi1 hD1 hl2 hi2 hD2 hS fun l cl p xs cp h' tk' st nw hI hD => hret l cl p xs cp h' tk' (fr_stays F st) (news_new F N st nw) (apart_new N nw (.head _)) (apart_new N nw (.tail _ (.head _))) hI hD


theorem c_level3 {lv a b c : Addr} {vs us ws : List Value} {ds es fs : List Int} {n o q k : Int} {tk : Tok}
    (X : (hd.heap_1 w.params).In s.heap) (T : Top view loose mean mg mb s.heap)
    (hk1 : 1 ≤ k) (hk9 : k ≤ 9) (hdp : dp + 6 < recursionLimit)
    (hv : s.heap.IsList lv [Value.ref a, Value.ref b, Value.ref c].toArray) (hl1 : s.heap.IsList a vs.toArray) (hi1 : IntsAre vs ds) (hD1 : Limbs k ds n) (hl2 : s.heap.IsList b us.toArray) (hi2 : IntsAre us es) (hD2 : Limbs k es o) (hl3 : s.heap.IsList c ws.toArray) (hi3 : IntsAre ws fs) (hD3 : Limbs k fs q) (hS : Small (n * o))
    (hret : ∀ (l : Addr) (cl : Nat) (p : Addr) (xs : List Value) (cp : Nat) (h' : Heap) (tk' : Nat), s.heap.StaysIn h' → NewIn s.heap h' [(l, W.listOf [Value.ref p, Value.ref c].toArray cl), (p, W.listOf xs.toArray cp)] → IntsAre xs (dig k (n * o)) → Limbs k (dig k (n * o)) (n * o) → Q (.ref l) { s with heap := h', toks := tk' }) :
    wpAny (model PySem.Challenge.rw_pq0533_01.row.prog w) (AT dp un fr gd) (call (.ref 72) [.ref lv, .int k tk, .ref 143]) Q E s := by
  refine' ent_plain X T ?k6 ?k7 ?k8 ?k9 ?kB ?_ ?c2 ?c3 ?c4 ?c5
  case k6 => k_is
  case k7 => k_is
  case k8 => show dp < recursionLimit; omega
  case k9 => exact BindsTo.of_eq rfl
  case kB => exact locs rfl
  case c2 => exact rfl
  case c3 => exact rfl
  case c4 => exact rfl
  case c5 => decide
  intro L' h₁ F' N'
  dsimp only
  k_fold
  have i0 : IntsAre [] [] := .nil
  k_with_none
  k_with "my lt" => skip
  k_with "my k_ne" => (refine neN ?_; (try dsimp only); first | exact Apart.ne (by assumption) (by k_mem) | exact Ne.symm (Apart.ne (by assumption) (by k_mem)))
  k_with "my call ref" => (k_here; (with_reducible show wpAny _ _ (call (Value.ref 136) _) _ _ _); refine' u_number ?k1 ?k2 ?k3 ?k4 ?k5 ?k6 ?k7 ?k8 ?k9 ?k10 ?_; (case k1 => k_asm); (case k2 => k_asm); (case k3 => k_asm); (case k4 => k_asm); (case k5 => assumption); (case k6 => assumption); (case k7 => ((try simp only [depth_deeper, at_depth]); omega)); (case k8 => is_list); (case k9 => l_ints); (case k10 => assumption); k_whole; intro t' h' tk' F' N'; (try dsimp only); (try k_sweep); (try k_fold))
  k_with "my call ref" => (k_here; (with_reducible show wpAny _ _ (call (Value.ref 129) _) _ _ _); refine' u_limbs ?k1 ?k2 ?k3 ?k4 ?k5 ?k6 ?k7 ?k8 ?k9 ?_; (case k1 => k_asm); (case k2 => k_asm); (case k3 => k_asm); (case k4 => k_asm); (case k5 => assumption); (case k6 => assumption); (case k7 => ((try simp only [depth_deeper, at_depth]); omega)); (case k8 => k_extra "pos"); (case k9 => k_extra "small"); k_whole; intro l' vs' c' h' tk' F' N' ap' hI' hD'; (try dsimp only); (try k_sweep); (try k_fold))
  k_with "my call ref" => (k_here; (with_reducible show wpAny _ _ (call (Value.ref 143) _) _ _ _); refine' u_mul ?k1 ?k2 ?k3 ?k4 ?k5 ?k6 ?k7 ?k8 ?k9 ?k10 ?k11 ?k12 ?k13 ?k14 ?_; (case k1 => k_asm); (case k2 => k_asm); (case k3 => k_asm); (case k4 => k_asm); (case k5 => assumption); (case k6 => assumption); (case k7 => ((try simp only [depth_deeper, at_depth]); omega)); (case k8 => is_list); (case k9 => l_ints); (case k10 => assumption); (case k11 => is_list); (case k12 => l_ints); (case k13 => assumption); (case k14 => k_extra "small"); k_whole; intro l' vs' c' h' tk' F' N' ap' hI' hD'; (try dsimp only); (try k_sweep); (try k_fold))
  k_with "my call ref" => (k_here; (with_reducible show wpAny _ _ (call (Value.ref 65) _) _ _ _); refine' u_add ?k1 ?k2 ?k3 ?k4 ?k5 ?k6 ?k7 ?k8 ?k9 ?k10 ?k11 ?k12 ?k13 ?k14 ?k15 ?k16 ?_; (case k1 => k_asm); (case k2 => k_asm); (case k3 => k_asm); (case k4 => k_asm); (case k5 => assumption); (case k6 => assumption); (case k7 => ((try simp only [depth_deeper, at_depth]); omega)); (case k8 => is_list); (case k9 => l_ints); (case k10 => assumption); (case k11 => is_list); (case k12 => l_ints); (case k13 => assumption); (case k14 => k_extra "small"); (case k15 => k_extra "len60"); (case k16 => k_extra "len60"); k_whole; intro l' vs' c' ds' h' tk' F' N' ap' hI' hD'; (try dsimp only); (try k_sweep); (try k_fold))
  k_with "my call ref" => (k_here; (with_reducible show wpAny _ _ (call (Value.ref 150) _) _ _ _); refine' u_divrem ?k1 ?k2 ?k3 ?k4 ?k5 ?k6 ?k7 ?k8 ?k9 ?k10 ?k11 ?k12 ?k13 ?k14 ?_; (case k1 => k_asm); (case k2 => k_asm); (case k3 => k_asm); (case k4 => k_asm); (case k5 => assumption); (case k6 => assumption); (case k7 => ((try simp only [depth_deeper, at_depth]); omega)); (case k8 => is_list); (case k9 => l_ints); (case k10 => assumption); (case k11 => is_list); (case k12 => l_ints); (case k13 => assumption); (case k14 => k_extra "divpos"); k_whole; intro l' l1' l2' vs1' vs2' c1' c2' h' tk' F' N' ap' ap1' ap2' hI1' hI2' hD1' hD2'; (try dsimp only); (try k_sweep); (try k_fold))
  k_with "my execs cons Assign cons" => ((with_reducible refine wpAny_execs_cons ?_); try dsimp only)
  k_with "my call builtin:len" => (k_here; (with_reducible show wpAny _ _ (call (Value.builtin "len") [Value.ref _]) _ _ _); first | (refine' len_lit2 ?k1 ?_; (case k1 => is_list); k_whole) | (refine' len_lit1 ?k1 ?_; (case k1 => is_list); k_whole) | (refine' len_lit3 ?k1 ?_; (case k1 => is_list); k_whole) | (refine' len_lit0 ?k1 ?_; (case k1 => is_list); k_whole))
  k_with "my call ref" => (k_here; (with_reducible show wpAny _ _ (call (Value.ref 72) _) _ _ _); refine' u_level2 ?k1 ?k2 ?k3 ?k4 ?k5 ?k6 ?k7 ?k8 ?k9 ?k10 ?k11 ?k12 ?k13 ?k14 ?k15 ?_; (case k1 => k_asm); (case k2 => k_asm); (case k3 => k_asm); (case k4 => k_asm); (case k5 => assumption); (case k6 => assumption); (case k7 => ((try simp only [depth_deeper, at_depth]); omega)); (case k8 => is_list); (case k9 => is_list); (case k10 => l_ints); (case k11 => assumption); (case k12 => is_list); (case k13 => l_ints); (case k14 => assumption); (case k15 => k_extra "small"); k_whole; intro l' cl' p' xs' cp' h' tk' F' N' ap' ap' hI' hD'; (try dsimp only); (try k_sweep); (try k_fold))
  k_with "small" => assumption
  k_steps
  all_goals (try k_data)
  all_goals (try dsimp only)
  all_goals (first | (exfalso; omega) | exact hret _ _ _ _ _ _ _ (Fr.keep (by assumption)) (newIn_sub (newIn_of (by assumption)) (by k_allIn)) (by assumption) (by assumption))

theorem u_level3 {lv a b c : Addr} {vs us ws : List Value} {ds es fs : List Int} {n o q k : Int} {tk : Tok} {h₀ : Heap} {L : Addr} {mm : Str → Option Value} {news : List (Addr × Obj)} (F : Fr h₀ L s.heap mm) (X₀ : (hd.heap_1 w.params).In h₀) (N : News h₀ L s.heap news) (T : Top view loose mean mg mb h₀)
    (hk1 : 1 ≤ k) (hk9 : k ≤ 9) (hdp : dp + 6 < recursionLimit)
    (hv : s.heap.IsList lv [Value.ref a, Value.ref b, Value.ref c].toArray) (hl1 : s.heap.IsList a vs.toArray) (hi1 : IntsAre vs ds) (hD1 : Limbs k ds n) (hl2 : s.heap.IsList b us.toArray) (hi2 : IntsAre us es) (hD2 : Limbs k es o) (hl3 : s.heap.IsList c ws.toArray) (hi3 : IntsAre ws fs) (hD3 : Limbs k fs q) (hS : Small (n * o))
    (hret : ∀ (l : Addr) (cl : Nat) (p : Addr) (xs : List Value) (cp : Nat) (h' : Heap) (tk' : Nat), Fr h₀ L h' mm → News h₀ L h' ((l, W.listOf [Value.ref p, Value.ref c].toArray cl) :: (p, W.listOf xs.toArray cp) :: news) → Apart l news → Apart p news → IntsAre xs (dig k (n * o)) → Limbs k (dig k (n * o)) (n * o) → Q (.ref l) { s with heap := h', toks := tk' }) :
    wpAny (model PySem.Challenge.rw_pq0533_01.row.prog w) (AT dp un fr gd) (call (.ref 72) [.ref lv, .int k tk, .ref 143]) Q E s :=
  c_level3 (X₀.keeps F.keep) (T.keeps F.keep) hk1 hk9 hdp hv hl1 hi1 hD1 hl2 hi2 hD2 hl3 hi3 hD3 hS fun l cl p xs cp h' tk' st nw hI hD => hret l cl p xs cp h' tk' (fr_stays F st) (news_new F N st nw) (apart_new N nw (.head _)) (apart_new N nw (.tail _ (.head _))) hI hD

end
end Mine
end

section
open PySem PySem.W PyProof.Rows PySem.Calls PySem.Spec
namespace Mine
set_option maxRecDepth 100000
set_option maxHeartbeats 16000000
theorem fill8 : hd.heap_1 = hd.heap_1 ∧ PySem.Challenge.rw_pq0533_01 = PySem.Challenge.rw_pq0533_01 := by k_fill; exact ⟨rfl, rfl⟩
section
variable {w : World} {loose : List Str} {mean : ExcName → Option Value} {mg mb : Str → Option Value} {dp un : Nat} {fr : Option (List Env)} {gd : Option (List Code)} {outer : List Env} {s : Shared} {Q E : Value → Shared → Prop}
theorem c_tree2 {lv a b : Addr} {vs us : List Value} {ds es : List Int} {n o k : Int} {tk : Tok}
    (X : (hd.heap_1 w.params).In s.heap) (T : Top view loose mean mg mb s.heap)
    (hk1 : 1 ≤ k) (hk9 : k ≤ 9) (hdp : dp + 8 < recursionLimit)
    (hv : s.heap.IsList lv [Value.ref a, Value.ref b].toArray) (hl1 : s.heap.IsList a vs.toArray) (hi1 : IntsAre vs ds) (hD1 : Limbs k ds n) (hl2 : s.heap.IsList b us.toArray) (hi2 : IntsAre us es) (hD2 : Limbs k es o) (hS : Small (n * o))
    (hret : ∀ (l : Addr) (l0 : Addr) (l1 : Addr) (p : Addr) (xs : List Value) (cl : Nat) (c0 : Nat) (c1 : Nat) (cp : Nat) (h' : Heap) (tk' : Nat), s.heap.StaysIn h' → NewIn s.heap h' [(l, W.listOf [Value.ref l0, Value.ref l1].toArray cl), (l0, W.listOf [Value.ref a, Value.ref b].toArray c0), (l1, W.listOf [Value.ref p].toArray c1), (p, W.listOf xs.toArray cp)] → IntsAre xs (dig k (n * o)) → Limbs k (dig k (n * o)) (n * o) → Q (.ref l) { s with heap := h', toks := tk' }) :
    wpAny (model PySem.Challenge.rw_pq0533_01.row.prog w) (AT dp un fr gd) (call (.ref 79) [.ref lv, .int k tk, .ref 143]) Q E s := by
  refine' ent_plain X T ?k6 ?k7 ?k8 ?k9 ?kB ?_ ?c2 ?c3 ?c4 ?c5
  case k6 => k_is
  case k7 => k_is
  case k8 => show dp < recursionLimit; omega
  case k9 => exact BindsTo.of_eq rfl
  case kB => exact locs rfl
  case c2 => exact rfl
  case c3 => exact rfl
  case c4 => exact rfl
  case c5 => decide
  intro L' h₁ F' N'
  dsimp only
  k_fold
  have i0 : IntsAre [] [] := .nil
  k_with_none
  k_with "my lt" => skip
  k_with "my k_ne" => (refine neN ?_; (try dsimp only); first | exact Apart.ne (by assumption) (by k_mem) | exact Ne.symm (Apart.ne (by assumption) (by k_mem)))
  k_with "my call ref" => (k_here; (with_reducible show wpAny _ _ (call (Value.ref 136) _) _ _ _); refine' u_number ?k1 ?k2 ?k3 ?k4 ?k5 ?k6 ?k7 ?k8 ?k9 ?k10 ?_; (case k1 => k_asm); (case k2 => k_asm); (case k3 => k_asm); (case k4 => k_asm); (case k5 => assumption); (case k6 => assumption); (case k7 => ((try simp only [depth_deeper, at_depth]); omega)); (case k8 => is_list); (case k9 => l_ints); (case k10 => assumption); k_whole; intro t' h' tk' F' N'; (try dsimp only); (try k_sweep); (try k_fold))
  k_with "my call ref" => (k_here; (with_reducible show wpAny _ _ (call (Value.ref 129) _) _ _ _); refine' u_limbs ?k1 ?k2 ?k3 ?k4 ?k5 ?k6 ?k7 ?k8 ?k9 ?_; (case k1 => k_asm); (case k2 => k_asm); (case k3 => k_asm); (case k4 => k_asm); (case k5 => assumption); (case k6 => assumption); (case k7 => ((try simp only [depth_deeper, at_depth]); omega)); (case k8 => k_extra "pos"); (case k9 => k_extra "small"); k_whole; intro l' vs' c' h' tk' F' N' ap' hI' hD'; (try dsimp only); (try k_sweep); (try k_fold))
  k_with "my call ref" => (k_here; (with_reducible show wpAny _ _ (call (Value.ref 143) _) _ _ _); refine' u_mul ?k1 ?k2 ?k3 ?k4 ?k5 ?k6 ?k7 ?k8 ?k9 ?k10 ?k11 ?k12 ?k13 ?k14 ?_; (case k1 => k_asm); (case k2 => k_asm); (case k3 => k_asm); (case k4 => k_asm); (case k5 => assumption); (case k6 => assumption); (case k7 => ((try simp only [depth_deeper, at_depth]); omega)); (case k8 => is_list); (case k9 => l_ints); (case k10 => assumption); (case k11 => is_list); (case k12 => l_ints); (case k13 => assumption); (case k14 => k_extra "small"); k_whole; intro l' vs' c' h' tk' F' N' ap' hI' hD'; (try dsimp only); (try k_sweep); (try k_fold))
  k_with "my call ref" => (k_here; (with_reducible show wpAny _ _ (call (Value.ref 65) _) _ _ _); refine' u_add ?k1 ?k2 ?k3 ?k4 ?k5 ?k6 ?k7 ?k8 ?k9 ?k10 ?k11 ?k12 ?k13 ?k14 ?k15 ?k16 ?_; (case k1 => k_asm); (case k2 => k_asm); (case k3 => k_asm); (case k4 => k_asm); (case k5 => assumption); (case k6 => assumption); (case k7 => ((try simp only [depth_deeper, at_depth]); omega)); (case k8 => is_list); (case k9 => l_ints); (case k10 => assumption); (case k11 => is_list); (case k12 => l_ints); (case k13 => assumption); (case k14 => k_extra "small"); (case k15 => k_extra "len60"); (case k16 => k_extra "len60"); k_whole; intro l' vs' c' ds' h' tk' F' N' ap' hI' hD'; (try dsimp only); (try k_sweep); (try k_fold))
  k_with "my call ref" => (k_here; (with_reducible show wpAny _ _ (call (Value.ref 150) _) _ _ _); refine' u_divrem ?k1 ?k2 ?k3 ?k4 ?k5 ?k6 ?k7 ?k8 ?k9 ?k10 ?k11 ?k12 ?k13 ?k14 ?_; (case k1 => k_asm); (case k2 => k_asm); (case k3 => k_asm); (case k4 => k_asm); (case k5 => assumption); (case k6 => assumption); (case k7 => ((try simp only [depth_deeper, at_depth]); omega)); (case k8 => is_list); (case k9 => l_ints); (case k10 => assumption); (case k11 => is_list); (case k12 => l_ints); (case k13 => assumption); (case k14 => k_extra "divpos"); k_whole; intro l' l1' l2' vs1' vs2' c1' c2' h' tk' F' N' ap' ap1' ap2' hI1' hI2' hD1' hD2'; (try dsimp only); (try k_sweep); (try k_fold))
  k_with "my execs cons Assign cons" => ((with_reducible refine wpAny_execs_cons ?_); try dsimp only)
  k_with "my call builtin:len" => (k_here; (with_reducible show wpAny _ _ (call (Value.builtin "len") [Value.ref _]) _ _ _); first | (refine' len_lit2 ?k1 ?_; (case k1 => is_list); k_whole) | (refine' len_lit1 ?k1 ?_; (case k1 => is_list); k_whole) | (refine' len_lit3 ?k1 ?_; (case k1 => is_list); k_whole) | (refine' len_lit0 ?k1 ?_; (case k1 => is_list); k_whole))
  k_with "my call ref" => (k_here; (with_reducible show wpAny _ _ (call (Value.ref 72) _) _ _ _); refine' u_level2 ?k1 ?k2 ?k3 ?k4 ?k5 ?k6 ?k7 ?k8 ?k9 ?k10 ?k11 ?k12 ?k13 ?k14 ?k15 ?_; (case k1 => k_asm); (case k2 => k_asm); (case k3 => k_asm); (case k4 => k_asm); (case k5 => assumption); (case k6 => assumption); (case k7 => ((try simp only [depth_deeper, at_depth]); omega)); (case k8 => is_list); (case k9 => is_list); (case k10 => l_ints); (case k11 => assumption); (case k12 => is_list); (case k13 => l_ints); (case k14 => assumption); (case k15 => k_extra "small"); k_whole; intro l' cl' p' xs' cp' h' tk' F' N' ap' ap' hI' hD'; (try dsimp only); (try k_sweep); (try k_fold))
  k_with "my call ref" => (k_here; (with_reducible show wpAny _ _ (call (Value.ref 72) _) _ _ _); refine' u_level3 ?k1 ?k2 ?k3 ?k4 ?k5 ?k6 ?k7 ?k8 ?k9 ?k10 ?k11 ?k12 ?k13 ?k14 ?k15 ?k16 ?k17 ?k18 ?_; (case k1 => k_asm); (case k2 => k_asm); (case k3 => k_asm); (case k4 => k_asm); (case k5 => assumption); (case k6 => assumption); (case k7 => ((try simp only [depth_deeper, at_depth]); omega)); (case k8 => is_list); (case k9 => is_list); (case k10 => l_ints); (case k11 => assumption); (case k12 => is_list); (case k13 => l_ints); (case k14 => assumption); (case k15 => is_list); (case k16 => l_ints); (case k17 => assumption); (case k18 => k_extra "small"); k_whole; intro l' cl' p' xs' cp' h' tk' F' N' ap' ap' hI' hD'; (try dsimp only); (try k_sweep); (try k_fold))
  k_with "small" => assumption
  k_steps
  all_goals (try k_data)
  all_goals (try dsimp only)
  all_goals (first | (exfalso; omega) | exact hret _ _ _ _ _ _ _ _ _ _ _ (Fr.keep (by assumption)) (newIn_sub (newIn_of (by assumption)) (by k_allIn)) (by assumption) (by assumption))

theorem u_tree2 {lv a b : Addr} {vs us : List Value} {ds es : List Int} {n o k : Int} {tk : Tok} {h₀ : Heap} {L : Addr} {mm : Str → Option Value} {news : List (Addr × Obj)} (F : Fr h₀ L s.heap mm) (X₀ : (hd.heap_1 w.params).In h₀) (N : News h₀ L s.heap news) (T : Top view loose mean mg mb h₀)
    (hk1 : 1 ≤ k) (hk9 : k ≤ 9) (hdp : dp + 8 < recursionLimit)
    (hv : s.heap.IsList lv [Value.ref a, Value.ref b].toArray) (hl1 : s.heap.IsList a vs.toArray) (hi1 : IntsAre vs ds) (hD1 : Limbs k ds n) (hl2 : s.heap.IsList b us.toArray) (hi2 : IntsAre us es) (hD2 : Limbs k es o) (hS : Small (n * o))
    (hret : ∀ (l : Addr) (l0 : Addr) (l1 : Addr) (p : Addr) (xs : List Value) (cl : Nat) (c0 : Nat) (c1 : Nat) (cp : Nat) (h' : Heap) (tk' : Nat), Fr h₀ L h' mm → News h₀ L h' ((l, W.listOf [Value.ref l0, Value.ref l1].toArray cl) :: (l0, W.listOf [Value.ref a, Value.ref b].toArray c0) :: (l1, W.listOf [Value.ref p].toArray c1) :: (p, W.listOf xs.toArray cp) :: news) → Apart l news → Apart l0 news → Apart l1 news → Apart p news → IntsAre xs (dig k (n * o)) → Limbs k (dig k (n * o)) (n * o) → Q (.ref l) { s with heap := h', toks := tk' }) :
    wpAny (model PySem.Challenge.rw_pq0533_01.row.prog w) (AT dp un fr gd) (call (.ref 79) [.ref lv, .int k tk, .ref 143]) Q E s :=
  c_tree2 (X₀.keeps F.keep) (T.keeps F.keep) hk1 hk9 hdp hv hl1 hi1 hD1 hl2 hi2 hD2 hS fun l l0 l1 p xs cl c0 c1 cp h' tk' st nw hI hD => hret l l0 l1 p xs cl c0 c1 cp h' tk' (fr_stays F st) (news_new F N st nw) (apart_new N nw (.head _)) (apart_new N nw (.tail _ (.head _))) (apart_new N nw (.tail _ (.tail _ (.head _)))) (apart_new N nw (.tail _ (.tail _ (.tail _ (.head _))))) hI hD


theorem c_tree3 {lv a b c : Addr} {vs us ws : List Value} {ds es fs : List Int} {n o q k : Int} {tk : Tok}
    (X : (hd.heap_1 w.params).In s.heap) (T : Top view loose mean mg mb s.heap)
    (hk1 : 1 ≤ k) (hk9 : k ≤ 9) (hdp : dp + 8 < recursionLimit)
    (hv : s.heap.IsList lv [Value.ref a, Value.ref b, Value.ref c].toArray) (hl1 : s.heap.IsList a vs.toArray) (hi1 : IntsAre vs ds) (hD1 : Limbs k ds n) (hl2 : s.heap.IsList b us.toArray) (hi2 : IntsAre us es) (hD2 : Limbs k es o) (hl3 : s.heap.IsList c ws.toArray) (hi3 : IntsAre ws fs) (hD3 : Limbs k fs q) (hS : Small (n * o)) (hS2 : Small (n * o * q))
    (hret : ∀ (l : Addr) (l0 : Addr) (l1 : Addr) (l2 : Addr) (p : Addr) (r : Addr) (xs : List Value) (ys : List Value) (cl : Nat) (c0 : Nat) (c1 : Nat) (c2 : Nat) (cp : Nat) (cr : Nat) (h' : Heap) (tk' : Nat), s.heap.StaysIn h' → NewIn s.heap h' [(l, W.listOf [Value.ref l0, Value.ref l1, Value.ref l2].toArray cl), (l0, W.listOf [Value.ref a, Value.ref b, Value.ref c].toArray c0), (l1, W.listOf [Value.ref p, Value.ref c].toArray c1), (l2, W.listOf [Value.ref r].toArray c2), (p, W.listOf xs.toArray cp), (r, W.listOf ys.toArray cr)] → IntsAre xs (dig k (n * o)) → Limbs k (dig k (n * o)) (n * o) → IntsAre ys (dig k (n * o * q)) → Limbs k (dig k (n * o * q)) (n * o * q) → Q (.ref l) { s with heap := h', toks := tk' }) :
    wpAny (model PySem.Challenge.rw_pq0533_01.row.prog w) (AT dp un fr gd) (call (.ref 79) [.ref lv, .int k tk, .ref 143]) Q E s := by
  refine' ent_plain X T ?k6 ?k7 ?k8 ?k9 ?kB ?_ ?c2 ?c3 ?c4 ?c5
  case k6 => k_is
  case k7 => k_is
  case k8 => show dp < recursionLimit; omega
  case k9 => exact BindsTo.of_eq rfl
  case kB => exact locs rfl
  case c2 => exact rfl
  case c3 => exact rfl
  case c4 => exact rfl
  case c5 => decide
  intro L' h₁ F' N'
  dsimp only
  k_fold
  have i0 : IntsAre [] [] := .nil
  k_with_none
  k_with "my lt" => skip
  k_with "my k_ne" => (refine neN ?_; (try dsimp only); first | exact Apart.ne (by assumption) (by k_mem) | exact Ne.symm (Apart.ne (by assumption) (by k_mem)))
  k_with "my call ref" => (k_here; (with_reducible show wpAny _ _ (call (Value.ref 136) _) _ _ _); refine' u_number ?k1 ?k2 ?k3 ?k4 ?k5 ?k6 ?k7 ?k8 ?k9 ?k10 ?_; (case k1 => k_asm); (case k2 => k_asm); (case k3 => k_asm); (case k4 => k_asm); (case k5 => assumption); (case k6 => assumption); (case k7 => ((try simp only [depth_deeper, at_depth]); omega)); (case k8 => is_list); (case k9 => l_ints); (case k10 => assumption); k_whole; intro t' h' tk' F' N'; (try dsimp only); (try k_sweep); (try k_fold))
  k_with "my call ref" => (k_here; (with_reducible show wpAny _ _ (call (Value.ref 129) _) _ _ _); refine' u_limbs ?k1 ?k2 ?k3 ?k4 ?k5 ?k6 ?k7 ?k8 ?k9 ?_; (case k1 => k_asm); (case k2 => k_asm); (case k3 => k_asm); (case k4 => k_asm); (case k5 => assumption); (case k6 => assumption); (case k7 => ((try simp only [depth_deeper, at_depth]); omega)); (case k8 => k_extra "pos"); (case k9 => k_extra "small"); k_whole; intro l' vs' c' h' tk' F' N' ap' hI' hD'; (try dsimp only); (try k_sweep); (try k_fold))
  k_with "my call ref" => (k_here; (with_reducible show wpAny _ _ (call (Value.ref 143) _) _ _ _); refine' u_mul ?k1 ?k2 ?k3 ?k4 ?k5 ?k6 ?k7 ?k8 ?k9 ?k10 ?k11 ?k12 ?k13 ?k14 ?_; (case k1 => k_asm); (case k2 => k_asm); (case k3 => k_asm); (case k4 => k_asm); (case k5 => assumption); (case k6 => assumption); (case k7 => ((try simp only [depth_deeper, at_depth]); omega)); (case k8 => is_list); (case k9 => l_ints); (case k10 => assumption); (case k11 => is_list); (case k12 => l_ints); (case k13 => assumption); (case k14 => k_extra "small"); k_whole; intro l' vs' c' h' tk' F' N' ap' hI' hD'; (try dsimp only); (try k_sweep); (try k_fold))
  k_with "my call ref" => (k_here; (with_reducible show wpAny _ _ (call (Value.ref 65) _) _ _ _); refine' u_add ?k1 ?k2 ?k3 ?k4 ?k5 ?k6 ?k7 ?k8 ?k9 ?k10 ?k11 ?k12 ?k13 ?k14 ?k15 ?k16 ?_; (case k1 => k_asm); (case k2 => k_asm); (case k3 => k_asm); (case k4 => k_asm); (case k5 => assumption); (case k6 => assumption); (case k7 => ((try simp only [depth_deeper, at_depth]); omega)); (case k8 => is_list); (case k9 => l_ints); (case k10 => assumption); (case k11 => is_list); (case k12 => l_ints); (case k13 => assumption); (case k14 => k_extra "small"); (case k15 => k_extra "len60"); (case k16 => k_extra "len60"); k_whole; intro l' vs' c' ds' h' tk' F' N' ap' hI' hD'; (try dsimp only); (try k_sweep); (try k_fold))
  k_with "my call ref" => (k_here; (with_reducible show wpAny _ _ (call (Value.ref 150) _) _ _ _); refine' u_divrem ?k1 ?k2 ?k3 ?k4 ?k5 ?k6 ?k7 ?k8 ?k9 ?k10 ?k11 ?k12 ?k13 ?k14 ?_; (case k1 => k_asm); (case k2 => k_asm); (case k3 => k_asm); (case k4 => k_asm); (case k5 => assumption); (case k6 => assumption); (case k7 => ((try simp only [depth_deeper, at_depth]); omega)); (case k8 => is_list); (case k9 => l_ints); (case k10 => assumption); (case k11 => is_list); (case k12 => l_ints); (case k13 => assumption); (case k14 => k_extra "divpos"); k_whole; intro l' l1' l2' vs1' vs2' c1' c2' h' tk' F' N' ap' ap1' ap2' hI1' hI2' hD1' hD2'; (try dsimp only); (try k_sweep); (try k_fold))
  k_with "my execs cons Assign cons" => ((with_reducible refine wpAny_execs_cons ?_); try dsimp only)
  k_with "my call builtin:len" => (k_here; (with_reducible show wpAny _ _ (call (Value.builtin "len") [Value.ref _]) _ _ _); first | (refine' len_lit2 ?k1 ?_; (case k1 => is_list); k_whole) | (refine' len_lit1 ?k1 ?_; (case k1 => is_list); k_whole) | (refine' len_lit3 ?k1 ?_; (case k1 => is_list); k_whole) | (refine' len_lit0 ?k1 ?_; (case k1 => is_list); k_whole))
  k_with "my call ref" => (k_here; (with_reducible show wpAny _ _ (call (Value.ref 72) _) _ _ _); refine' u_level2 ?k1 ?k2 ?k3 ?k4 ?k5 ?k6 ?k7 ?k8 ?k9 ?k10 ?k11 ?k12 ?k13 ?k14 ?k15 ?_; (case k1 => k_asm); (case k2 => k_asm); (case k3 => k_asm); (case k4 => k_asm); (case k5 => assumption); (case k6 => assumption); (case k7 => ((try simp only [depth_deeper, at_depth]); omega)); (case k8 => is_list); (case k9 => is_list); (case k10 => l_ints); (case k11 => assumption); (case k12 => is_list); (case k13 => l_ints); (case k14 => assumption); (case k15 => k_extra "small"); k_whole; intro l' cl' p' xs' cp' h' tk' F' N' ap' ap' hI' hD'; (try dsimp only); (try k_sweep); (try k_fold))
  k_with "my call ref" => (k_here; (with_reducible show wpAny _ _ (call (Value.ref 72) _) _ _ _); refine' u_level3 ?k1 ?k2 ?k3 ?k4 ?k5 ?k6 ?k7 ?k8 ?k9 ?k10 ?k11 ?k12 ?k13 ?k14 ?k15 ?k16 ?k17 ?k18 ?_; (case k1 => k_asm); (case k2 => k_asm); (case k3 => k_asm); (case k4 => k_asm); (case k5 => assumption); (case k6 => assumption); (case k7 => ((try simp only [depth_deeper, at_depth]); omega)); (case k8 => is_list); (case k9 => is_list); (case k10 => l_ints); (case k11 => assumption); (case k12 => is_list); (case k13 => l_ints); (case k14 => assumption); (case k15 => is_list); (case k16 => l_ints); (case k17 => assumption); (case k18 => k_extra "small"); k_whole; intro l' cl' p' xs' cp' h' tk' F' N' ap' ap' hI' hD'; (try dsimp only); (try k_sweep); (try k_fold))
  k_with "my call ref" => (k_here; (with_reducible show wpAny _ _ (call (Value.ref 79) _) _ _ _); refine' u_tree2 ?k1 ?k2 ?k3 ?k4 ?k5 ?k6 ?k7 ?k8 ?k9 ?k10 ?k11 ?k12 ?k13 ?k14 ?k15 ?_; (case k1 => k_asm); (case k2 => k_asm); (case k3 => k_asm); (case k4 => k_asm); (case k5 => assumption); (case k6 => assumption); (case k7 => ((try simp only [depth_deeper, at_depth]); omega)); (case k8 => is_list); (case k9 => is_list); (case k10 => l_ints); (case k11 => assumption); (case k12 => is_list); (case k13 => l_ints); (case k14 => assumption); (case k15 => k_extra "small"); k_whole; intro l' l0' l1' p' xs' cl' c0' c1' cp' h' tk' F' N' ap' ap' ap' ap' hI' hD'; (try dsimp only); (try k_sweep); (try k_fold))
  k_with "small" => assumption
  k_steps
  all_goals (try k_data)
  all_goals (try dsimp only)
  all_goals (first | (exfalso; omega) | exact hret _ _ _ _ _ _ _ _ _ _ _ _ _ _ _ _ (Fr.keep (by assumption)) (newIn_sub (newIn_of (by assumption)) (by k_allIn)) (by assumption) (by assumption) (by assumption) (by assumption))

theorem u_tree3 {lv a b c : Addr} {vs us ws : List Value} {ds es fs : List Int} {n o q k : Int} {tk : Tok} {h₀ : Heap} {L : Addr} {mm : Str → Option Value} {news : List (Addr × Obj)} (F : Fr h₀ L s.heap mm) (X₀ : (hd.heap_1 w.params).In h₀) (N : News h₀ L s.heap news) (T : Top view loose mean mg mb h₀)
    (hk1 : 1 ≤ k) (hk9 : k ≤ 9) (hdp : dp + 8 < recursionLimit)
    (hv : s.heap.IsList lv [Value.ref a, Value.ref b, Value.ref c].toArray) (hl1 : s.heap.IsList a vs.toArray) (hi1 : IntsAre vs ds) (hD1 : Limbs k ds n) (hl2 : s.heap.IsList b us.toArray) (hi2 : IntsAre us es) (hD2 : Limbs k es o) (hl3 : s.heap.IsList c ws.toArray) (hi3 : IntsAre ws fs) (hD3 : Limbs k fs q) (hS : Small (n * o)) (hS2 : Small (n * o * q))
    (hret : ∀ (l : Addr) (l0 : Addr) (l1 : Addr) (l2 : Addr) (p : Addr) (r : Addr) (xs : List Value) (ys : List Value) (cl : Nat) (c0 : Nat) (c1 : Nat) (c2 : Nat) (cp : Nat) (cr : Nat) (h' : Heap) (tk' : Nat), Fr h₀ L h' mm → News h₀ L h' ((l, W.listOf [Value.ref l0, Value.ref l1, Value.ref l2].toArray cl) :: (l0, W.listOf [Value.ref a, Value.ref b, Value.ref c].toArray c0) :: (l1, W.listOf [Value.ref p, Value.ref c].toArray c1) :: (l2, W.listOf [Value.ref r].toArray c2) :: (p, W.listOf xs.toArray cp) :: (r, W.listOf ys.toArray cr) :: news) → Apart l news → Apart l0 news → Apart l1 news → Apart l2 news → Apart p news → Apart r news → IntsAre xs (dig k (n * o)) → Limbs k (dig k (n * o)) (n * o) → IntsAre ys (dig k (n * o * q)) → Limbs k (dig k (n * o * q)) (n * o * q) → Q (.ref l) { s with heap := h', toks := tk' }) :
    wpAny (model PySem.Challenge.rw_pq0533_01.row.prog w) (AT dp un fr gd) (call (.ref 79) [.ref lv, .int k tk, .ref 143]) Q E s :=
  c_tree3 (X₀.keeps F.keep) (T.keeps F.keep) hk1 hk9 hdp hv hl1 hi1 hD1 hl2 hi2 hD2 hl3 hi3 hD3 hS hS2 fun l l0 l1 l2 p r xs ys cl c0 c1 c2 cp cr h' tk' st nw hI hD hI2 hD2' => hret l l0 l1 l2 p r xs ys cl c0 c1 c2 cp cr h' tk' (fr_stays F st) (news_new F N st nw) (apart_new N nw (.head _)) (apart_new N nw (.tail _ (.head _))) (apart_new N nw (.tail _ (.tail _ (.head _)))) (apart_new N nw (.tail _ (.tail _ (.tail _ (.head _))))) (apart_new N nw (.tail _ (.tail _ (.tail _ (.tail _ (.head _)))))) (apart_new N nw (.tail _ (.tail _ (.tail _ (.tail _ (.tail _ (.head _))))))) hI hD hI2 hD2'

end
end Mine
end

section
open PySem PySem.W PyProof.Rows PySem.Calls PySem.Spec
namespace Mine
set_option maxRecDepth 100000
set_option maxHeartbeats 16000000
theorem fill9 : hd.heap_1 = hd.heap_1 ∧ PySem.Challenge.rw_pq0533_01 = PySem.Challenge.rw_pq0533_01 := by k_fill; exact ⟨rfl, rfl⟩
theorem dig60 {k n : Int} (hk : 1 ≤ k) (h : Limbs k (dig k n) n) : (dig k n).length ≤ 60 := dig_len hk 60 n h.small.pow
section
variable {w : World} {loose : List Str} {mean : ExcName → Option Value} {mg mb : Str → Option Value} {dp un : Nat} {fr : Option (List Env)} {gd : Option (List Code)} {outer : List Env} {s : Shared} {Q E : Value → Shared → Prop}
theorem c_cab2 {sm lv a b x y : Addr} {vs us xs ys : List Value} {ds es dx dy : List Int} {n o xi yi k : Int} {tk : Tok}
    (X : (hd.heap_1 w.params).In s.heap) (T : Top view loose mean mg mb s.heap)
    (hk1 : 1 ≤ k) (hk9 : k ≤ 9) (hdp : dp + 6 < recursionLimit)
    (hs : s.heap.IsList sm [Value.ref x, Value.ref y].toArray) (hl4 : s.heap.IsList x xs.toArray) (hi4 : IntsAre xs dx) (hD4 : Limbs k dx xi) (hl5 : s.heap.IsList y ys.toArray) (hi5 : IntsAre ys dy) (hD5 : Limbs k dy yi) (hv : s.heap.IsList lv [Value.ref a, Value.ref b].toArray) (hl1 : s.heap.IsList a vs.toArray) (hi1 : IntsAre vs ds) (hD1 : Limbs k ds n) (hl2 : s.heap.IsList b us.toArray) (hi2 : IntsAre us es) (hD2 : Limbs k es o) (hS1 : Small (xi * o)) (hS2 : Small (yi * n)) (hS3 : Small (xi * o + yi * n))
    (hret : ∀ (l : Addr) (cl : Nat) (r : Addr) (rs : List Value) (cr : Nat) (dr : List Int) (h' : Heap) (tk' : Nat), s.heap.StaysIn h' → NewIn s.heap h' [(l, W.listOf [Value.ref r].toArray cl), (r, W.listOf rs.toArray cr)] → IntsAre rs dr → Limbs k dr (xi * o + yi * n) → Q (.ref l) { s with heap := h', toks := tk' }) :
    wpAny (model PySem.Challenge.rw_pq0533_01.row.prog w) (AT dp un fr gd) (call (.ref 91) [.ref sm, .ref lv, .int k tk, .ref 143]) Q E s := by
  refine' ent_plain X T ?k6 ?k7 ?k8 ?k9 ?kB ?_ ?c2 ?c3 ?c4 ?c5
  case k6 => k_is
  case k7 => k_is
  case k8 => show dp < recursionLimit; omega
  case k9 => exact BindsTo.of_eq rfl
  case kB => exact locs rfl
  case c2 => exact rfl
  case c3 => exact rfl
  case c4 => exact rfl
  case c5 => decide
  intro L' h₁ F' N'
  dsimp only
  k_fold
  have i0 : IntsAre [] [] := .nil
  k_with_none
  k_with "my lt" => skip
  k_with "my k_ne" => (refine neN ?_; (try dsimp only); first | exact Apart.ne (by assumption) (by k_mem) | exact Ne.symm (Apart.ne (by assumption) (by k_mem)))
  k_with "my call ref" => (k_here; (with_reducible show wpAny _ _ (call (Value.ref 136) _) _ _ _); refine' u_number ?k1 ?k2 ?k3 ?k4 ?k5 ?k6 ?k7 ?k8 ?k9 ?k10 ?_; (case k1 => k_asm); (case k2 => k_asm); (case k3 => k_asm); (case k4 => k_asm); (case k5 => assumption); (case k6 => assumption); (case k7 => ((try simp only [depth_deeper, at_depth]); omega)); (case k8 => is_list); (case k9 => l_ints); (case k10 => assumption); k_whole; intro t' h' tk' F' N'; (try dsimp only); (try k_sweep); (try k_fold))
  k_with "my call ref" => (k_here; (with_reducible show wpAny _ _ (call (Value.ref 129) _) _ _ _); refine' u_limbs ?k1 ?k2 ?k3 ?k4 ?k5 ?k6 ?k7 ?k8 ?k9 ?_; (case k1 => k_asm); (case k2 => k_asm); (case k3 => k_asm); (case k4 => k_asm); (case k5 => assumption); (case k6 => assumption); (case k7 => ((try simp only [depth_deeper, at_depth]); omega)); (case k8 => k_extra "pos"); (case k9 => k_extra "small"); k_whole; intro l' vs' c' h' tk' F' N' ap' hI' hD'; (try dsimp only); (try k_sweep); (try k_fold))
  k_with "my call ref" => (k_here; (with_reducible show wpAny _ _ (call (Value.ref 143) _) _ _ _); refine' u_mul ?k1 ?k2 ?k3 ?k4 ?k5 ?k6 ?k7 ?k8 ?k9 ?k10 ?k11 ?k12 ?k13 ?k14 ?_; (case k1 => k_asm); (case k2 => k_asm); (case k3 => k_asm); (case k4 => k_asm); (case k5 => assumption); (case k6 => assumption); (case k7 => ((try simp only [depth_deeper, at_depth]); omega)); (case k8 => is_list); (case k9 => l_ints); (case k10 => assumption); (case k11 => is_list); (case k12 => l_ints); (case k13 => assumption); (case k14 => k_extra "small"); k_whole; intro l' vs' c' h' tk' F' N' ap' hI' hD'; (try dsimp only); (try k_sweep); (try k_fold))
  k_with "my call ref" => (k_here; (with_reducible show wpAny _ _ (call (Value.ref 65) _) _ _ _); refine' u_add ?k1 ?k2 ?k3 ?k4 ?k5 ?k6 ?k7 ?k8 ?k9 ?k10 ?k11 ?k12 ?k13 ?k14 ?k15 ?k16 ?_; (case k1 => k_asm); (case k2 => k_asm); (case k3 => k_asm); (case k4 => k_asm); (case k5 => assumption); (case k6 => assumption); (case k7 => ((try simp only [depth_deeper, at_depth]); omega)); (case k8 => is_list); (case k9 => l_ints); (case k10 => assumption); (case k11 => is_list); (case k12 => l_ints); (case k13 => assumption); (case k14 => k_extra "small"); (case k15 => k_extra "len60"); (case k16 => k_extra "len60"); k_whole; intro l' vs' c' ds' h' tk' F' N' ap' hI' hD'; (try dsimp only); (try k_sweep); (try k_fold))
  k_with "my call ref" => (k_here; (with_reducible show wpAny _ _ (call (Value.ref 150) _) _ _ _); refine' u_divrem ?k1 ?k2 ?k3 ?k4 ?k5 ?k6 ?k7 ?k8 ?k9 ?k10 ?k11 ?k12 ?k13 ?k14 ?_; (case k1 => k_asm); (case k2 => k_asm); (case k3 => k_asm); (case k4 => k_asm); (case k5 => assumption); (case k6 => assumption); (case k7 => ((try simp only [depth_deeper, at_depth]); omega)); (case k8 => is_list); (case k9 => l_ints); (case k10 => assumption); (case k11 => is_list); (case k12 => l_ints); (case k13 => assumption); (case k14 => k_extra "divpos"); k_whole; intro l' l1' l2' vs1' vs2' c1' c2' h' tk' F' N' ap' ap1' ap2' hI1' hI2' hD1' hD2'; (try dsimp only); (try k_sweep); (try k_fold))
  k_with "my execs cons Assign cons" => ((with_reducible refine wpAny_execs_cons ?_); try dsimp only)
  k_with "my call builtin:len" => (k_here; (with_reducible show wpAny _ _ (call (Value.builtin "len") [Value.ref _]) _ _ _); first | (refine' len_lit2 ?k1 ?_; (case k1 => is_list); k_whole) | (refine' len_lit1 ?k1 ?_; (case k1 => is_list); k_whole) | (refine' len_lit3 ?k1 ?_; (case k1 => is_list); k_whole) | (refine' len_lit0 ?k1 ?_; (case k1 => is_list); k_whole))
  k_with "small" => assumption
  k_with "len60" => exact dig60 hk1 (by assumption)
  k_steps
  all_goals (try k_data)
  all_goals (try dsimp only)
  all_goals (first | (exfalso; omega) | exact hret _ _ _ _ _ _ _ _ (Fr.keep (by assumption)) (newIn_sub (newIn_of (by assumption)) (by k_allIn)) (by assumption) (by assumption))

theorem u_cab2 {sm lv a b x y : Addr} {vs us xs ys : List Value} {ds es dx dy : List Int} {n o xi yi k : Int} {tk : Tok} {h₀ : Heap} {L : Addr} {mm : Str → Option Value} {news : List (Addr × Obj)} (F : Fr h₀ L s.heap mm) (X₀ : (hd.heap_1 w.params).In h₀) (N : News h₀ L s.heap news) (T : Top view loose mean mg mb h₀)
    (hk1 : 1 ≤ k) (hk9 : k ≤ 9) (hdp : dp + 6 < recursionLimit)
    (hs : s.heap.IsList sm [Value.ref x, Value.ref y].toArray) (hl4 : s.heap.IsList x xs.toArray) (hi4 : IntsAre xs dx) (hD4 : Limbs k dx xi) (hl5 : s.heap.IsList y ys.toArray) (hi5 : IntsAre ys dy) (hD5 : Limbs k dy yi) (hv : s.heap.IsList lv [Value.ref a, Value.ref b].toArray) (hl1 : s.heap.IsList a vs.toArray) (hi1 : IntsAre vs ds) (hD1 : Limbs k ds n) (hl2 : s.heap.IsList b us.toArray) (hi2 : IntsAre us es) (hD2 : Limbs k es o) (hS1 : Small (xi * o)) (hS2 : Small (yi * n)) (hS3 : Small (xi * o + yi * n))
    (hret : ∀ (l : Addr) (cl : Nat) (r : Addr) (rs : List Value) (cr : Nat) (dr : List Int) (h' : Heap) (tk' : Nat), Fr h₀ L h' mm → News h₀ L h' ((l, W.listOf [Value.ref r].toArray cl) :: (r, W.listOf rs.toArray cr) :: news) → Apart l news → Apart r news → IntsAre rs dr → Limbs k dr (xi * o + yi * n) → Q (.ref l) { s with heap := h', toks := tk' }) :
    wpAny (model PySem.Challenge.rw_pq0533_01.row.prog w) (AT dp un fr gd) (call (.ref 91) [.ref sm, .ref lv, .int k tk, .ref 143]) Q E s :=
  c_cab2 (X₀.keeps F.keep) (T.keeps F.keep) hk1 hk9 hdp hs hl4 hi4 hD4 hl5 hi5 hD5 hv hl1 hi1 hD1 hl2 hi2 hD2 hS1 hS2 hS3 fun l cl r rs cr dr h' tk' st nw hI hD => hret l cl r rs cr dr h' tk' (fr_stays F st) (news_new F N st nw) (apart_new N nw (.head _)) (apart_new N nw (.tail _ (.head _))) hI hD


theorem c_cab3 {sm lv a b c x y z : Addr} {vs us ws xs ys zs : List Value} {ds es fs dx dy dz : List Int} {n o q xi yi zi k : Int} {tk : Tok}
    (X : (hd.heap_1 w.params).In s.heap) (T : Top view loose mean mg mb s.heap)
    (hk1 : 1 ≤ k) (hk9 : k ≤ 9) (hdp : dp + 6 < recursionLimit)
    (hs : s.heap.IsList sm [Value.ref x, Value.ref y, Value.ref z].toArray) (hl4 : s.heap.IsList x xs.toArray) (hi4 : IntsAre xs dx) (hD4 : Limbs k dx xi) (hl5 : s.heap.IsList y ys.toArray) (hi5 : IntsAre ys dy) (hD5 : Limbs k dy yi) (hl6 : s.heap.IsList z zs.toArray) (hi6 : IntsAre zs dz) (hD6 : Limbs k dz zi) (hv : s.heap.IsList lv [Value.ref a, Value.ref b, Value.ref c].toArray) (hl1 : s.heap.IsList a vs.toArray) (hi1 : IntsAre vs ds) (hD1 : Limbs k ds n) (hl2 : s.heap.IsList b us.toArray) (hi2 : IntsAre us es) (hD2 : Limbs k es o) (hl3 : s.heap.IsList c ws.toArray) (hi3 : IntsAre ws fs) (hD3 : Limbs k fs q) (hS1 : Small (xi * o)) (hS2 : Small (yi * n)) (hS3 : Small (xi * o + yi * n))
    (hret : ∀ (l : Addr) (cl : Nat) (r : Addr) (rs : List Value) (cr : Nat) (dr : List Int) (h' : Heap) (tk' : Nat), s.heap.StaysIn h' → NewIn s.heap h' [(l, W.listOf [Value.ref r, Value.ref z].toArray cl), (r, W.listOf rs.toArray cr)] → IntsAre rs dr → Limbs k dr (xi * o + yi * n) → Q (.ref l) { s with heap := h', toks := tk' }) :
    wpAny (model PySem.Challenge.rw_pq0533_01.row.prog w) (AT dp un fr gd) (call (.ref 91) [.ref sm, .ref lv, .int k tk, .ref 143]) Q E s := by
  refine' ent_plain X T ?k6 ?k7 ?k8 ?k9 ?kB ?_ ?c2 ?c3 ?c4 ?c5
  case k6 => k_is
  case k7 => k_is
  case k8 => show dp < recursionLimit; omega
  case k9 => exact BindsTo.of_eq rfl
  case kB => exact locs rfl
  case c2 => exact rfl
  case c3 => exact rfl
  case c4 => exact rfl
  case c5 => decide
  intro L' h₁ F' N'
  dsimp only
  k_fold
  have i0 : IntsAre [] [] := .nil
  k_with_none
  k_with "my lt" => skip
  k_with "my k_ne" => (refine neN ?_; (try dsimp only); first | exact Apart.ne (by assumption) (by k_mem) | exact Ne.symm (Apart.ne (by assumption) (by k_mem)))
  k_with "my call ref" => (k_here; (with_reducible show wpAny _ _ (call (Value.ref 136) _) _ _ _); refine' u_number ?k1 ?k2 ?k3 ?k4 ?k5 ?k6 ?k7 ?k8 ?k9 ?k10 ?_; (case k1 => k_asm); (case k2 => k_asm); (case k3 => k_asm); (case k4 => k_asm); (case k5 => assumption); (case k6 => assumption); (case k7 => ((try simp only [depth_deeper, at_depth]); omega)); (case k8 => is_list); (case k9 => l_ints); (case k10 => assumption); k_whole; intro t' h' tk' F' N'; (try dsimp only); (try k_sweep); (try k_fold))
  k_with "my call ref" => (k_here; (with_reducible show wpAny _ _ (call (Value.ref 129) _) _ _ _); refine' u_limbs ?k1 ?k2 ?k3 ?k4 ?k5 ?k6 ?k7 ?k8 ?k9 ?_; (case k1 => k_asm); (case k2 => k_asm); (case k3 => k_asm); (case k4 => k_asm); (case k5 => assumption); (case k6 => assumption); (case k7 => ((try simp only [depth_deeper, at_depth]); omega)); (case k8 => k_extra "pos"); (case k9 => k_extra "small"); k_whole; intro l' vs' c' h' tk' F' N' ap' hI' hD'; (try dsimp only); (try k_sweep); (try k_fold))
  k_with "my call ref" => (k_here; (with_reducible show wpAny _ _ (call (Value.ref 143) _) _ _ _); refine' u_mul ?k1 ?k2 ?k3 ?k4 ?k5 ?k6 ?k7 ?k8 ?k9 ?k10 ?k11 ?k12 ?k13 ?k14 ?_; (case k1 => k_asm); (case k2 => k_asm); (case k3 => k_asm); (case k4 => k_asm); (case k5 => assumption); (case k6 => assumption); (case k7 => ((try simp only [depth_deeper, at_depth]); omega)); (case k8 => is_list); (case k9 => l_ints); (case k10 => assumption); (case k11 => is_list); (case k12 => l_ints); (case k13 => assumption); (case k14 => k_extra "small"); k_whole; intro l' vs' c' h' tk' F' N' ap' hI' hD'; (try dsimp only); (try k_sweep); (try k_fold))
  k_with "my call ref" => (k_here; (with_reducible show wpAny _ _ (call (Value.ref 65) _) _ _ _); refine' u_add ?k1 ?k2 ?k3 ?k4 ?k5 ?k6 ?k7 ?k8 ?k9 ?k10 ?k11 ?k12 ?k13 ?k14 ?k15 ?k16 ?_; (case k1 => k_asm); (case k2 => k_asm); (case k3 => k_asm); (case k4 => k_asm); (case k5 => assumption); (case k6 => assumption); (case k7 => ((try simp only [depth_deeper, at_depth]); omega)); (case k8 => is_list); (case k9 => l_ints); (case k10 => assumption); (case k11 => is_list); (case k12 => l_ints); (case k13 => assumption); (case k14 => k_extra "small"); (case k15 => k_extra "len60"); (case k16 => k_extra "len60"); k_whole; intro l' vs' c' ds' h' tk' F' N' ap' hI' hD'; (try dsimp only); (try k_sweep); (try k_fold))
  k_with "my call ref" => (k_here; (with_reducible show wpAny _ _ (call (Value.ref 150) _) _ _ _); refine' u_divrem ?k1 ?k2 ?k3 ?k4 ?k5 ?k6 ?k7 ?k8 ?k9 ?k10 ?k11 ?k12 ?k13 ?k14 ?_; (case k1 => k_asm); (case k2 => k_asm); (case k3 => k_asm); (case k4 => k_asm); (case k5 => assumption); (case k6 => assumption); (case k7 => ((try simp only [depth_deeper, at_depth]); omega)); (case k8 => is_list); (case k9 => l_ints); (case k10 => assumption); (case k11 => is_list); (case k12 => l_ints); (case k13 => assumption); (case k14 => k_extra "divpos"); k_whole; intro l' l1' l2' vs1' vs2' c1' c2' h' tk' F' N' ap' ap1' ap2' hI1' hI2' hD1' hD2'; (try dsimp only); (try k_sweep); (try k_fold))
  k_with "my execs cons Assign cons" => ((with_reducible refine wpAny_execs_cons ?_); try dsimp only)
  k_with "my call builtin:len" => (k_here; (with_reducible show wpAny _ _ (call (Value.builtin "len") [Value.ref _]) _ _ _); first | (refine' len_lit2 ?k1 ?_; (case k1 => is_list); k_whole) | (refine' len_lit1 ?k1 ?_; (case k1 => is_list); k_whole) | (refine' len_lit3 ?k1 ?_; (case k1 => is_list); k_whole) | (refine' len_lit0 ?k1 ?_; (case k1 => is_list); k_whole))
  k_with "my call ref" => (k_here; (with_reducible show wpAny _ _ (call (Value.ref 91) _) _ _ _); refine' u_cab2 ?k1 ?k2 ?k3 ?k4 ?k5 ?k6 ?k7 ?k8 ?k9 ?k10 ?k11 ?k12 ?k13 ?k14 ?k15 ?k16 ?k17 ?k18 ?k19 ?k20 ?k21 ?k22 ?k23 ?k24 ?_; (case k1 => k_asm); (case k2 => k_asm); (case k3 => k_asm); (case k4 => k_asm); (case k5 => assumption); (case k6 => assumption); (case k7 => ((try simp only [depth_deeper, at_depth]); omega)); (case k8 => is_list); (case k9 => is_list); (case k10 => l_ints); (case k11 => assumption); (case k12 => is_list); (case k13 => l_ints); (case k14 => assumption); (case k15 => is_list); (case k16 => is_list); (case k17 => l_ints); (case k18 => assumption); (case k19 => is_list); (case k20 => l_ints); (case k21 => assumption); (case k22 => k_extra "small"); (case k23 => k_extra "small"); (case k24 => k_extra "small"); k_whole; intro l' cl' r' rs' cr' dr' h' tk' F' N' ap' ap' hI' hD'; (try dsimp only); (try k_sweep); (try k_fold))
  k_with "small" => assumption
  k_with "len60" => exact dig60 hk1 (by assumption)
  k_steps
  all_goals (try k_data)
  all_goals (try dsimp only)
  all_goals (first | (exfalso; omega) | exact hret _ _ _ _ _ _ _ _ (Fr.keep (by assumption)) (newIn_sub (newIn_of (by assumption)) (by k_allIn)) (by assumption) (by assumption))

theorem u_cab3 {sm lv a b c x y z : Addr} {vs us ws xs ys zs : List Value} {ds es fs dx dy dz : List Int} {n o q xi yi zi k : Int} {tk : Tok} {h₀ : Heap} {L : Addr} {mm : Str → Option Value} {news : List (Addr × Obj)} (F : Fr h₀ L s.heap mm) (X₀ : (hd.heap_1 w.params).In h₀) (N : News h₀ L s.heap news) (T : Top view loose mean mg mb h₀)
    (hk1 : 1 ≤ k) (hk9 : k ≤ 9) (hdp : dp + 6 < recursionLimit)
    (hs : s.heap.IsList sm [Value.ref x, Value.ref y, Value.ref z].toArray) (hl4 : s.heap.IsList x xs.toArray) (hi4 : IntsAre xs dx) (hD4 : Limbs k dx xi) (hl5 : s.heap.IsList y ys.toArray) (hi5 : IntsAre ys dy) (hD5 : Limbs k dy yi) (hl6 : s.heap.IsList z zs.toArray) (hi6 : IntsAre zs dz) (hD6 : Limbs k dz zi) (hv : s.heap.IsList lv [Value.ref a, Value.ref b, Value.ref c].toArray) (hl1 : s.heap.IsList a vs.toArray) (hi1 : IntsAre vs ds) (hD1 : Limbs k ds n) (hl2 : s.heap.IsList b us.toArray) (hi2 : IntsAre us es) (hD2 : Limbs k es o) (hl3 : s.heap.IsList c ws.toArray) (hi3 : IntsAre ws fs) (hD3 : Limbs k fs q) (hS1 : Small (xi * o)) (hS2 : Small (yi * n)) (hS3 : Small (xi * o + yi * n))
    (hret : ∀ (l : Addr) (cl : Nat) (r : Addr) (rs : List Value) (cr : Nat) (dr : List Int) (h' : Heap) (tk' : Nat), Fr h₀ L h' mm → News h₀ L h' ((l, W.listOf [Value.ref r, Value.ref z].toArray cl) :: (r, W.listOf rs.toArray cr) :: news) → Apart l news → Apart r news → IntsAre rs dr → Limbs k dr (xi * o + yi * n) → Q (.ref l) { s with heap := h', toks := tk' }) :
    wpAny (model PySem.Challenge.rw_pq0533_01.row.prog w) (AT dp un fr gd) (call (.ref 91) [.ref sm, .ref lv, .int k tk, .ref 143]) Q E s :=
  c_cab3 (X₀.keeps F.keep) (T.keeps F.keep) hk1 hk9 hdp hs hl4 hi4 hD4 hl5 hi5 hD5 hl6 hi6 hD6 hv hl1 hi1 hD1 hl2 hi2 hD2 hl3 hi3 hD3 hS1 hS2 hS3 fun l cl r rs cr dr h' tk' st nw hI hD => hret l cl r rs cr dr h' tk' (fr_stays F st) (news_new F N st nw) (apart_new N nw (.head _)) (apart_new N nw (.tail _ (.head _))) hI hD

end
end Mine
end

section
open PySem PySem.W PyProof.Rows PySem.Calls PySem.Spec
namespace Mine
set_option maxRecDepth 100000
set_option maxHeartbeats 16000000
theorem fill10 : hd.heap_1 = hd.heap_1 ∧ PySem.Challenge.rw_pq0533_01 = PySem.Challenge.rw_pq0533_01 := by k_fill; exact ⟨rfl, rfl⟩
section
variable {w : World} {loose : List Str} {mean : ExcName → Option Value} {mg mb : Str → Option Value} {dp un : Nat} {fr : Option (List Env)} {gd : Option (List Code)} {outer : List Env} {s : Shared} {Q E : Value → Shared → Prop}
theorem c_cr2 {ll l1 sm lv a b x y : Addr} {vs us xs ys : List Value} {ds es dx dy : List Int} {n o xi yi k : Int} {tk : Tok}
    (X : (hd.heap_1 w.params).In s.heap) (T : Top view loose mean mg mb s.heap)
    (hk1 : 1 ≤ k) (hk9 : k ≤ 9) (hdp : dp + 8 < recursionLimit)
    (hL : s.heap.IsList ll [Value.ref lv, Value.ref l1].toArray) (hv : s.heap.IsList lv [Value.ref a, Value.ref b].toArray) (hl1 : s.heap.IsList a vs.toArray) (hi1 : IntsAre vs ds) (hD1 : Limbs k ds n) (hl2 : s.heap.IsList b us.toArray) (hi2 : IntsAre us es) (hD2 : Limbs k es o) (hs : s.heap.IsList sm [Value.ref x, Value.ref y].toArray) (hl4 : s.heap.IsList x xs.toArray) (hi4 : IntsAre xs dx) (hD4 : Limbs k dx xi) (hl5 : s.heap.IsList y ys.toArray) (hi5 : IntsAre ys dy) (hD5 : Limbs k dy yi) (hS1 : Small (xi * o)) (hS2 : Small (yi * n)) (hS3 : Small (xi * o + yi * n))
    (hret : ∀ (r : Addr) (rs : List Value) (cr : Nat) (dr : List Int) (h' : Heap) (tk' : Nat), s.heap.StaysIn h' → NewIn s.heap h' [(r, W.listOf rs.toArray cr)] → IntsAre rs dr → Limbs k dr (xi * o + yi * n) → Q (.ref r) { s with heap := h', toks := tk' }) :
    wpAny (model PySem.Challenge.rw_pq0533_01.row.prog w) (AT dp un fr gd) (call (.ref 98) [.ref sm, .ref ll, .int k tk, .ref 143]) Q E s := by
  refine' ent_plain X T ?k6 ?k7 ?k8 ?k9 ?kB ?_ ?c2 ?c3 ?c4 ?c5
  case k6 => k_is
  case k7 => k_is
  case k8 => show dp < recursionLimit; omega
  case k9 => exact BindsTo.of_eq rfl
  case kB => exact locs rfl
  case c2 => exact rfl
  case c3 => exact rfl
  case c4 => exact rfl
  case c5 => decide
  intro L' h₁ F' N'
  dsimp only
  k_fold
  have i0 : IntsAre [] [] := .nil
  k_with_none
  k_with "my lt" => skip
  k_with "my k_ne" => (refine neN ?_; (try dsimp only); first | exact Apart.ne (by assumption) (by k_mem) | exact Ne.symm (Apart.ne (by assumption) (by k_mem)))
  k_with "my call ref" => (k_here; (with_reducible show wpAny _ _ (call (Value.ref 136) _) _ _ _); refine' u_number ?k1 ?k2 ?k3 ?k4 ?k5 ?k6 ?k7 ?k8 ?k9 ?k10 ?_; (case k1 => k_asm); (case k2 => k_asm); (case k3 => k_asm); (case k4 => k_asm); (case k5 => assumption); (case k6 => assumption); (case k7 => ((try simp only [depth_deeper, at_depth]); omega)); (case k8 => is_list); (case k9 => l_ints); (case k10 => assumption); k_whole; intro t' h' tk' F' N'; (try dsimp only); (try k_sweep); (try k_fold))
  k_with "my call ref" => (k_here; (with_reducible show wpAny _ _ (call (Value.ref 129) _) _ _ _); refine' u_limbs ?k1 ?k2 ?k3 ?k4 ?k5 ?k6 ?k7 ?k8 ?k9 ?_; (case k1 => k_asm); (case k2 => k_asm); (case k3 => k_asm); (case k4 => k_asm); (case k5 => assumption); (case k6 => assumption); (case k7 => ((try simp only [depth_deeper, at_depth]); omega)); (case k8 => k_extra "pos"); (case k9 => k_extra "small"); k_whole; intro l' vs' c' h' tk' F' N' ap' hI' hD'; (try dsimp only); (try k_sweep); (try k_fold))
  k_with "my call ref" => (k_here; (with_reducible show wpAny _ _ (call (Value.ref 143) _) _ _ _); refine' u_mul ?k1 ?k2 ?k3 ?k4 ?k5 ?k6 ?k7 ?k8 ?k9 ?k10 ?k11 ?k12 ?k13 ?k14 ?_; (case k1 => k_asm); (case k2 => k_asm); (case k3 => k_asm); (case k4 => k_asm); (case k5 => assumption); (case k6 => assumption); (case k7 => ((try simp only [depth_deeper, at_depth]); omega)); (case k8 => is_list); (case k9 => l_ints); (case k10 => assumption); (case k11 => is_list); (case k12 => l_ints); (case k13 => assumption); (case k14 => k_extra "small"); k_whole; intro l' vs' c' h' tk' F' N' ap' hI' hD'; (try dsimp only); (try k_sweep); (try k_fold))
  k_with "my call ref" => (k_here; (with_reducible show wpAny _ _ (call (Value.ref 65) _) _ _ _); refine' u_add ?k1 ?k2 ?k3 ?k4 ?k5 ?k6 ?k7 ?k8 ?k9 ?k10 ?k11 ?k12 ?k13 ?k14 ?k15 ?k16 ?_; (case k1 => k_asm); (case k2 => k_asm); (case k3 => k_asm); (case k4 => k_asm); (case k5 => assumption); (case k6 => assumption); (case k7 => ((try simp only [depth_deeper, at_depth]); omega)); (case k8 => is_list); (case k9 => l_ints); (case k10 => assumption); (case k11 => is_list); (case k12 => l_ints); (case k13 => assumption); (case k14 => k_extra "small"); (case k15 => k_extra "len60"); (case k16 => k_extra "len60"); k_whole; intro l' vs' c' ds' h' tk' F' N' ap' hI' hD'; (try dsimp only); (try k_sweep); (try k_fold))
  k_with "my call ref" => (k_here; (with_reducible show wpAny _ _ (call (Value.ref 150) _) _ _ _); refine' u_divrem ?k1 ?k2 ?k3 ?k4 ?k5 ?k6 ?k7 ?k8 ?k9 ?k10 ?k11 ?k12 ?k13 ?k14 ?_; (case k1 => k_asm); (case k2 => k_asm); (case k3 => k_asm); (case k4 => k_asm); (case k5 => assumption); (case k6 => assumption); (case k7 => ((try simp only [depth_deeper, at_depth]); omega)); (case k8 => is_list); (case k9 => l_ints); (case k10 => assumption); (case k11 => is_list); (case k12 => l_ints); (case k13 => assumption); (case k14 => k_extra "divpos"); k_whole; intro l' l1' l2' vs1' vs2' c1' c2' h' tk' F' N' ap' ap1' ap2' hI1' hI2' hD1' hD2'; (try dsimp only); (try k_sweep); (try k_fold))
  k_with "my execs cons Assign cons" => ((with_reducible refine wpAny_execs_cons ?_); try dsimp only)
  k_with "my exec For Name Subscript cons nil" => (k_here; (rename Fr _ _ _ _ => lF'); (with_unfolding_all refine' For_invVF lF' ?k1 ?k2 ?_; (case k1 => exact rfl); (case k2 => exact rfl); k_whole))
  k_with "my call builtin:len" => (k_here; (with_reducible show wpAny _ _ (call (Value.builtin "len") [Value.ref _]) _ _ _); first | (refine' len_lit2 ?k1 ?_; (case k1 => is_list); k_whole) | (refine' len_lit1 ?k1 ?_; (case k1 => is_list); k_whole) | (refine' len_lit3 ?k1 ?_; (case k1 => is_list); k_whole) | (refine' len_lit0 ?k1 ?_; (case k1 => is_list); k_whole))
  k_with "my call ref" => (k_here; (with_reducible show wpAny _ _ (call (Value.ref 91) _) _ _ _); refine' u_cab2 ?k1 ?k2 ?k3 ?k4 ?k5 ?k6 ?k7 ?k8 ?k9 ?k10 ?k11 ?k12 ?k13 ?k14 ?k15 ?k16 ?k17 ?k18 ?k19 ?k20 ?k21 ?k22 ?k23 ?k24 ?_; (case k1 => k_asm); (case k2 => k_asm); (case k3 => k_asm); (case k4 => k_asm); (case k5 => assumption); (case k6 => assumption); (case k7 => ((try simp only [depth_deeper, at_depth]); omega)); (case k8 => is_list); (case k9 => is_list); (case k10 => l_ints); (case k11 => assumption); (case k12 => is_list); (case k13 => l_ints); (case k14 => assumption); (case k15 => is_list); (case k16 => is_list); (case k17 => l_ints); (case k18 => assumption); (case k19 => is_list); (case k20 => l_ints); (case k21 => assumption); (case k22 => k_extra "small"); (case k23 => k_extra "small"); (case k24 => k_extra "small"); k_whole; intro l' cl' r' rs' cr' dr' h' tk' F' N' ap' ap' hI' hD'; (try dsimp only); (try k_sweep); (try k_fold))
  k_with "my call ref" => (k_here; (with_reducible show wpAny _ _ (call (Value.ref 91) _) _ _ _); refine' u_cab3 ?k1 ?k2 ?k3 ?k4 ?k5 ?k6 ?k7 ?k8 ?k9 ?k10 ?k11 ?k12 ?k13 ?k14 ?k15 ?k16 ?k17 ?k18 ?k19 ?k20 ?k21 ?k22 ?k23 ?k24 ?k25 ?k26 ?k27 ?k28 ?k29 ?k30 ?_; (case k1 => k_asm); (case k2 => k_asm); (case k3 => k_asm); (case k4 => k_asm); (case k5 => assumption); (case k6 => assumption); (case k7 => ((try simp only [depth_deeper, at_depth]); omega)); (case k8 => is_list); (case k9 => is_list); (case k10 => l_ints); (case k11 => assumption); (case k12 => is_list); (case k13 => l_ints); (case k14 => assumption); (case k15 => is_list); (case k16 => l_ints); (case k17 => assumption); (case k18 => is_list); (case k19 => is_list); (case k20 => l_ints); (case k21 => assumption); (case k22 => is_list); (case k23 => l_ints); (case k24 => assumption); (case k25 => is_list); (case k26 => l_ints); (case k27 => assumption); (case k28 => k_extra "small"); (case k29 => k_extra "small"); (case k30 => k_extra "small"); k_whole; intro l' cl' r' rs' cr' dr' h' tk' F' N' ap' ap' hI' hD'; (try dsimp only); (try k_sweep); (try k_fold))
  k_with "small" => assumption
  k_with "len60" => exact dig60 hk1 (by assumption)
  k_steps
  all_goals (try k_data)
  all_goals (try dsimp only)
  all_goals (first | (exfalso; omega) | exact hret _ _ _ _ _ _ (Fr.keep (by assumption)) (newIn_sub (newIn_of (by assumption)) (by k_allIn)) (by assumption) (by assumption))

theorem u_cr2 {ll l1 sm lv a b x y : Addr} {vs us xs ys : List Value} {ds es dx dy : List Int} {n o xi yi k : Int} {tk : Tok} {h₀ : Heap} {L : Addr} {mm : Str → Option Value} {news : List (Addr × Obj)} (F : Fr h₀ L s.heap mm) (X₀ : (hd.heap_1 w.params).In h₀) (N : News h₀ L s.heap news) (T : Top view loose mean mg mb h₀)
    (hk1 : 1 ≤ k) (hk9 : k ≤ 9) (hdp : dp + 8 < recursionLimit)
    (hL : s.heap.IsList ll [Value.ref lv, Value.ref l1].toArray) (hv : s.heap.IsList lv [Value.ref a, Value.ref b].toArray) (hl1 : s.heap.IsList a vs.toArray) (hi1 : IntsAre vs ds) (hD1 : Limbs k ds n) (hl2 : s.heap.IsList b us.toArray) (hi2 : IntsAre us es) (hD2 : Limbs k es o) (hs : s.heap.IsList sm [Value.ref x, Value.ref y].toArray) (hl4 : s.heap.IsList x xs.toArray) (hi4 : IntsAre xs dx) (hD4 : Limbs k dx xi) (hl5 : s.heap.IsList y ys.toArray) (hi5 : IntsAre ys dy) (hD5 : Limbs k dy yi) (hS1 : Small (xi * o)) (hS2 : Small (yi * n)) (hS3 : Small (xi * o + yi * n))
    (hret : ∀ (r : Addr) (rs : List Value) (cr : Nat) (dr : List Int) (h' : Heap) (tk' : Nat), Fr h₀ L h' mm → News h₀ L h' ((r, W.listOf rs.toArray cr) :: news) → Apart r news → IntsAre rs dr → Limbs k dr (xi * o + yi * n) → Q (.ref r) { s with heap := h', toks := tk' }) :
    wpAny (model PySem.Challenge.rw_pq0533_01.row.prog w) (AT dp un fr gd) (call (.ref 98) [.ref sm, .ref ll, .int k tk, .ref 143]) Q E s :=
  c_cr2 (X₀.keeps F.keep) (T.keeps F.keep) hk1 hk9 hdp hL hv hl1 hi1 hD1 hl2 hi2 hD2 hs hl4 hi4 hD4 hl5 hi5 hD5 hS1 hS2 hS3 fun r rs cr dr h' tk' st nw hI hD => hret r rs cr dr h' tk' (fr_stays F st) (news_new F N st nw) (apart_new N nw (.head _)) hI hD


theorem c_cr3 {ll l1 l2 p sm lv a b c x y z : Addr} {ps vs us ws xs ys zs : List Value} {dp' ds es fs dx dy dz : List Int} {n o q xi yi zi k : Int} {tk : Tok}
    (X : (hd.heap_1 w.params).In s.heap) (T : Top view loose mean mg mb s.heap)
    (hk1 : 1 ≤ k) (hk9 : k ≤ 9) (hdp : dp + 8 < recursionLimit)
    (hL : s.heap.IsList ll [Value.ref lv, Value.ref l1, Value.ref l2].toArray) (hv : s.heap.IsList lv [Value.ref a, Value.ref b, Value.ref c].toArray) (hl1 : s.heap.IsList a vs.toArray) (hi1 : IntsAre vs ds) (hD1 : Limbs k ds n) (hl2 : s.heap.IsList b us.toArray) (hi2 : IntsAre us es) (hD2 : Limbs k es o) (hl3 : s.heap.IsList c ws.toArray) (hi3 : IntsAre ws fs) (hD3 : Limbs k fs q) (hv1 : s.heap.IsList l1 [Value.ref p, Value.ref c].toArray) (hl7 : s.heap.IsList p ps.toArray) (hi7 : IntsAre ps dp') (hD7 : Limbs k dp' (n * o)) (hs : s.heap.IsList sm [Value.ref x, Value.ref y, Value.ref z].toArray) (hl4 : s.heap.IsList x xs.toArray) (hi4 : IntsAre xs dx) (hD4 : Limbs k dx xi) (hl5 : s.heap.IsList y ys.toArray) (hi5 : IntsAre ys dy) (hD5 : Limbs k dy yi) (hl6 : s.heap.IsList z zs.toArray) (hi6 : IntsAre zs dz) (hD6 : Limbs k dz zi) (hS1 : Small (xi * o)) (hS2 : Small (yi * n)) (hS3 : Small (xi * o + yi * n)) (hS4 : Small ((xi * o + yi * n) * q)) (hS5 : Small (zi * (n * o))) (hS6 : Small ((xi * o + yi * n) * q + zi * (n * o)))
    (hret : ∀ (r : Addr) (rs : List Value) (cr : Nat) (dr : List Int) (h' : Heap) (tk' : Nat), s.heap.StaysIn h' → NewIn s.heap h' [(r, W.listOf rs.toArray cr)] → IntsAre rs dr → Limbs k dr ((xi * o + yi * n) * q + zi * (n * o)) → Q (.ref r) { s with heap := h', toks := tk' }) :
    wpAny (model PySem.Challenge.rw_pq0533_01.row.prog w) (AT dp un fr gd) (call (.ref 98) [.ref sm, .ref ll, .int k tk, .ref 143]) Q E s := by
  refine' ent_plain X T ?k6 ?k7 ?k8 ?k9 ?kB ?_ ?c2 ?c3 ?c4 ?c5
  case k6 => k_is
  case k7 => k_is
  case k8 => show dp < recursionLimit; omega
  case k9 => exact BindsTo.of_eq rfl
  case kB => exact locs rfl
  case c2 => exact rfl
  case c3 => exact rfl
  case c4 => exact rfl
  case c5 => decide
  intro L' h₁ F' N'
  dsimp only
  k_fold
  have i0 : IntsAre [] [] := .nil
  k_with_none
  k_with "my lt" => skip
  k_with "my k_ne" => (refine neN ?_; (try dsimp only); first | exact Apart.ne (by assumption) (by k_mem) | exact Ne.symm (Apart.ne (by assumption) (by k_mem)))
  k_with "my call ref" => (k_here; (with_reducible show wpAny _ _ (call (Value.ref 136) _) _ _ _); refine' u_number ?k1 ?k2 ?k3 ?k4 ?k5 ?k6 ?k7 ?k8 ?k9 ?k10 ?_; (case k1 => k_asm); (case k2 => k_asm); (case k3 => k_asm); (case k4 => k_asm); (case k5 => assumption); (case k6 => assumption); (case k7 => ((try simp only [depth_deeper, at_depth]); omega)); (case k8 => is_list); (case k9 => l_ints); (case k10 => assumption); k_whole; intro t' h' tk' F' N'; (try dsimp only); (try k_sweep); (try k_fold))
  k_with "my call ref" => (k_here; (with_reducible show wpAny _ _ (call (Value.ref 129) _) _ _ _); refine' u_limbs ?k1 ?k2 ?k3 ?k4 ?k5 ?k6 ?k7 ?k8 ?k9 ?_; (case k1 => k_asm); (case k2 => k_asm); (case k3 => k_asm); (case k4 => k_asm); (case k5 => assumption); (case k6 => assumption); (case k7 => ((try simp only [depth_deeper, at_depth]); omega)); (case k8 => k_extra "pos"); (case k9 => k_extra "small"); k_whole; intro l' vs' c' h' tk' F' N' ap' hI' hD'; (try dsimp only); (try k_sweep); (try k_fold))
  k_with "my call ref" => (k_here; (with_reducible show wpAny _ _ (call (Value.ref 143) _) _ _ _); refine' u_mul ?k1 ?k2 ?k3 ?k4 ?k5 ?k6 ?k7 ?k8 ?k9 ?k10 ?k11 ?k12 ?k13 ?k14 ?_; (case k1 => k_asm); (case k2 => k_asm); (case k3 => k_asm); (case k4 => k_asm); (case k5 => assumption); (case k6 => assumption); (case k7 => ((try simp only [depth_deeper, at_depth]); omega)); (case k8 => is_list); (case k9 => l_ints); (case k10 => assumption); (case k11 => is_list); (case k12 => l_ints); (case k13 => assumption); (case k14 => k_extra "small"); k_whole; intro l' vs' c' h' tk' F' N' ap' hI' hD'; (try dsimp only); (try k_sweep); (try k_fold))
  k_with "my call ref" => (k_here; (with_reducible show wpAny _ _ (call (Value.ref 65) _) _ _ _); refine' u_add ?k1 ?k2 ?k3 ?k4 ?k5 ?k6 ?k7 ?k8 ?k9 ?k10 ?k11 ?k12 ?k13 ?k14 ?k15 ?k16 ?_; (case k1 => k_asm); (case k2 => k_asm); (case k3 => k_asm); (case k4 => k_asm); (case k5 => assumption); (case k6 => assumption); (case k7 => ((try simp only [depth_deeper, at_depth]); omega)); (case k8 => is_list); (case k9 => l_ints); (case k10 => assumption); (case k11 => is_list); (case k12 => l_ints); (case k13 => assumption); (case k14 => k_extra "small"); (case k15 => k_extra "len60"); (case k16 => k_extra "len60"); k_whole; intro l' vs' c' ds' h' tk' F' N' ap' hI' hD'; (try dsimp only); (try k_sweep); (try k_fold))
  k_with "my call ref" => (k_here; (with_reducible show wpAny _ _ (call (Value.ref 150) _) _ _ _); refine' u_divrem ?k1 ?k2 ?k3 ?k4 ?k5 ?k6 ?k7 ?k8 ?k9 ?k10 ?k11 ?k12 ?k13 ?k14 ?_; (case k1 => k_asm); (case k2 => k_asm); (case k3 => k_asm); (case k4 => k_asm); (case k5 => assumption); (case k6 => assumption); (case k7 => ((try simp only [depth_deeper, at_depth]); omega)); (case k8 => is_list); (case k9 => l_ints); (case k10 => assumption); (case k11 => is_list); (case k12 => l_ints); (case k13 => assumption); (case k14 => k_extra "divpos"); k_whole; intro l' l1' l2' vs1' vs2' c1' c2' h' tk' F' N' ap' ap1' ap2' hI1' hI2' hD1' hD2'; (try dsimp only); (try k_sweep); (try k_fold))
  k_with "my execs cons Assign cons" => ((with_reducible refine wpAny_execs_cons ?_); try dsimp only)
  k_with "my exec For Name Subscript cons nil" => (k_here; (rename Fr _ _ _ _ => lF'); (with_unfolding_all refine' For_invVF lF' ?k1 ?k2 ?_; (case k1 => exact rfl); (case k2 => exact rfl); k_whole))
  k_with "my call builtin:len" => (k_here; (with_reducible show wpAny _ _ (call (Value.builtin "len") [Value.ref _]) _ _ _); first | (refine' len_lit2 ?k1 ?_; (case k1 => is_list); k_whole) | (refine' len_lit1 ?k1 ?_; (case k1 => is_list); k_whole) | (refine' len_lit3 ?k1 ?_; (case k1 => is_list); k_whole) | (refine' len_lit0 ?k1 ?_; (case k1 => is_list); k_whole))
  k_with "my call ref" => (k_here; (with_reducible show wpAny _ _ (call (Value.ref 91) _) _ _ _); refine' u_cab2 ?k1 ?k2 ?k3 ?k4 ?k5 ?k6 ?k7 ?k8 ?k9 ?k10 ?k11 ?k12 ?k13 ?k14 ?k15 ?k16 ?k17 ?k18 ?k19 ?k20 ?k21 ?k22 ?k23 ?k24 ?_; (case k1 => k_asm); (case k2 => k_asm); (case k3 => k_asm); (case k4 => k_asm); (case k5 => assumption); (case k6 => assumption); (case k7 => ((try simp only [depth_deeper, at_depth]); omega)); (case k8 => is_list); (case k9 => is_list); (case k10 => l_ints); (case k11 => assumption); (case k12 => is_list); (case k13 => l_ints); (case k14 => assumption); (case k15 => is_list); (case k16 => is_list); (case k17 => l_ints); (case k18 => assumption); (case k19 => is_list); (case k20 => l_ints); (case k21 => assumption); (case k22 => k_extra "small"); (case k23 => k_extra "small"); (case k24 => k_extra "small"); k_whole; intro l' cl' r' rs' cr' dr' h' tk' F' N' ap' ap' hI' hD'; (try dsimp only); (try k_sweep); (try k_fold))
  k_with "my call ref" => (k_here; (with_reducible show wpAny _ _ (call (Value.ref 91) _) _ _ _); refine' u_cab3 ?k1 ?k2 ?k3 ?k4 ?k5 ?k6 ?k7 ?k8 ?k9 ?k10 ?k11 ?k12 ?k13 ?k14 ?k15 ?k16 ?k17 ?k18 ?k19 ?k20 ?k21 ?k22 ?k23 ?k24 ?k25 ?k26 ?k27 ?k28 ?k29 ?k30 ?_; (case k1 => k_asm); (case k2 => k_asm); (case k3 => k_asm); (case k4 => k_asm); (case k5 => assumption); (case k6 => assumption); (case k7 => ((try simp only [depth_deeper, at_depth]); omega)); (case k8 => is_list); (case k9 => is_list); (case k10 => l_ints); (case k11 => assumption); (case k12 => is_list); (case k13 => l_ints); (case k14 => assumption); (case k15 => is_list); (case k16 => l_ints); (case k17 => assumption); (case k18 => is_list); (case k19 => is_list); (case k20 => l_ints); (case k21 => assumption); (case k22 => is_list); (case k23 => l_ints); (case k24 => assumption); (case k25 => is_list); (case k26 => l_ints); (case k27 => assumption); (case k28 => k_extra "small"); (case k29 => k_extra "small"); (case k30 => k_extra "small"); k_whole; intro l' cl' r' rs' cr' dr' h' tk' F' N' ap' ap' hI' hD'; (try dsimp only); (try k_sweep); (try k_fold))
  k_with "my call ref" => (k_here; (with_reducible show wpAny _ _ (call (Value.ref 98) _) _ _ _); refine' u_cr2 ?k1 ?k2 ?k3 ?k4 ?k5 ?k6 ?k7 ?k8 ?k9 ?k10 ?k11 ?k12 ?k13 ?k14 ?k15 ?k16 ?k17 ?k18 ?k19 ?k20 ?k21 ?k22 ?k23 ?k24 ?k25 ?_; (case k1 => k_asm); (case k2 => k_asm); (case k3 => k_asm); (case k4 => k_asm); (case k5 => assumption); (case k6 => assumption); (case k7 => ((try simp only [depth_deeper, at_depth]); omega)); (case k8 => is_list); (case k9 => is_list); (case k10 => is_list); (case k11 => l_ints); (case k12 => assumption); (case k13 => is_list); (case k14 => l_ints); (case k15 => assumption); (case k16 => is_list); (case k17 => is_list); (case k18 => l_ints); (case k19 => assumption); (case k20 => is_list); (case k21 => l_ints); (case k22 => assumption); (case k23 => k_extra "small"); (case k24 => k_extra "small"); (case k25 => k_extra "small"); k_whole; intro r' rs' cr' dr' h' tk' F' N' ap' hI' hD'; (try dsimp only); (try k_sweep); (try k_fold))
  k_with "small" => assumption
  k_with "len60" => exact dig60 hk1 (by assumption)
  k_steps
  all_goals (try k_data)
  all_goals (try dsimp only)
  all_goals (first | (exfalso; omega) | exact hret _ _ _ _ _ _ (Fr.keep (by assumption)) (newIn_sub (newIn_of (by assumption)) (by k_allIn)) (by assumption) (by assumption))

theorem u_cr3 {ll l1 l2 p sm lv a b c x y z : Addr} {ps vs us ws xs ys zs : List Value} {dp' ds es fs dx dy dz : List Int} {n o q xi yi zi k : Int} {tk : Tok} {h₀ : Heap} {L : Addr} {mm : Str → Option Value} {news : List (Addr × Obj)} (F : Fr h₀ L s.heap mm) (X₀ : (hd.heap_1 w.params).In h₀) (N : News h₀ L s.heap news) (T : Top view loose mean mg mb h₀)
    (hk1 : 1 ≤ k) (hk9 : k ≤ 9) (hdp : dp + 8 < recursionLimit)
    (hL : s.heap.IsList ll [Value.ref lv, Value.ref l1, Value.ref l2].toArray) (hv : s.heap.IsList lv [Value.ref a, Value.ref b, Value.ref c].toArray) (hl1 : s.heap.IsList a vs.toArray) (hi1 : IntsAre vs ds) (hD1 : Limbs k ds n) (hl2 : s.heap.IsList b us.toArray) (hi2 : IntsAre us es) (hD2 : Limbs k es o) (hl3 : s.heap.IsList c ws.toArray) (hi3 : IntsAre ws fs) (hD3 : Limbs k fs q) (hv1 : s.heap.IsList l1 [Value.ref p, Value.ref c].toArray) (hl7 : s.heap.IsList p ps.toArray) (hi7 : IntsAre ps dp') (hD7 : Limbs k dp' (n * o)) (hs : s.heap.IsList sm [Value.ref x, Value.ref y, Value.ref z].toArray) (hl4 : s.heap.IsList x xs.toArray) (hi4 : IntsAre xs dx) (hD4 : Limbs k dx xi) (hl5 : s.heap.IsList y ys.toArray) (hi5 : IntsAre ys dy) (hD5 : Limbs k dy yi) (hl6 : s.heap.IsList z zs.toArray) (hi6 : IntsAre zs dz) (hD6 : Limbs k dz zi) (hS1 : Small (xi * o)) (hS2 : Small (yi * n)) (hS3 : Small (xi * o + yi * n)) (hS4 : Small ((xi * o + yi * n) * q)) (hS5 : Small (zi * (n * o))) (hS6 : Small ((xi * o + yi * n) * q + zi * (n * o)))
    (hret : ∀ (r : Addr) (rs : List Value) (cr : Nat) (dr : List Int) (h' : Heap) (tk' : Nat), Fr h₀ L h' mm → News h₀ L h' ((r, W.listOf rs.toArray cr) :: news) → Apart r news → IntsAre rs dr → Limbs k dr ((xi * o + yi * n) * q + zi * (n * o)) → Q (.ref r) { s with heap := h', toks := tk' }) :
    wpAny (model PySem.Challenge.rw_pq0533_01.row.prog w) (AT dp un fr gd) (call (.ref 98) [.ref sm, .ref ll, .int k tk, .ref 143]) Q E s :=
  c_cr3 (X₀.keeps F.keep) (T.keeps F.keep) hk1 hk9 hdp hL hv hl1 hi1 hD1 hl2 hi2 hD2 hl3 hi3 hD3 hv1 hl7 hi7 hD7 hs hl4 hi4 hD4 hl5 hi5 hD5 hl6 hi6 hD6 hS1 hS2 hS3 hS4 hS5 hS6 fun r rs cr dr h' tk' st nw hI hD => hret r rs cr dr h' tk' (fr_stays F st) (news_new F N st nw) (apart_new N nw (.head _)) hI hD

end
end Mine
end

section
open PySem PySem.W PyProof.Rows PySem.Calls PySem.Spec
namespace Mine
set_option maxRecDepth 100000
section
variable {prog : Program} {w : World} {A : Around} {E : Value → Shared → Prop} {s : Shared} {K : Frag} {p : Program} {loose : List Str} {mean : ExcName → Option Value} {mg mb : Str → Option Value} {Q : Value → Shared → Prop}
  {name qual : Str} {params : Arguments} {body : List Stmt} {scope : Scope} {dV kV doc pm cdv ct oc : Value} {an od : Option Addr} {osl : Array (Option Value)} {f : Addr} {vals : List Value} {binds : List (Str × Value)}
theorem ent_cells (X : K.In s.heap) (T : Top p loose mean mg mb s.heap)
    (ho : K.lookup f = some ⟨oc, od, .func (fnOf name qual params body scope dV kV doc pm an cdv ct), osl⟩) (hcd : codeIn K cdv qual = true) (hroom : A.depth < recursionLimit)
    (hbind : BindsTo s (fnOf name qual params body scope dV kV doc pm an cdv ct) ⟨vals, []⟩ binds)
    (hkind : (binds.all fun y => scope.names.lookup y.1 == some .local || scope.names.lookup y.1 == some .cell) = true)
    (hnd : ((cellsFrom 0 scope.names []).map (·.1)).Nodup)
    (h : ∀ L' h₁ tk cells, Fr s.heap L' h₁ (bindL (envOfC qual scope L' f cdv).kindOf binds fun _ => none) → News s.heap L' h₁ cells →
      CellsAre (bindC (envOfC qual scope L' f cdv).kindOf binds fun _ => none) (cellsFrom (L' + 1) scope.names []) cells →
      wpAny (model prog w) (A.deeper (envOfC qual scope L' f cdv)) (execs body (envOfC qual scope L' f cdv))
        (fun fl s' => Q (match fl with | .ret v => v | _ => .none) s')
        (fun e s' => wpAny (model prog w) (A.deeper (envOfC qual scope L' f cdv)) (leaving (envOfC qual scope L' f cdv) e) (fun _ s'' => E e s'') (fun e' s'' => E e' s'') s')
        { s with heap := h₁, toks := tk })
    (hco : scope.isCoroutine = false) (hgen : scope.isGenerator = false) (hk : scope.kind = .function) : wpAny (model prog w) A (call (.ref f) vals) Q E s := by
  refine wpAny_call (codeAny_call_function hroom (X _ _ ho) rfl hco hgen rfl (codeRec_of X hcd) (hbind _ _ _ _ ?_))
  refine wpAny_newFunctionEnv_cells hk (kindsX hkind _) fun env' he s' x => ?_
  subst he
  refine ⟨T.nolimit.keeps x.toInCall.keep, codeAny_func ?_⟩
  obtain ⟨h₁, tk, rfl, _⟩ := x.done
  have hk₁ := x.toInCall.keep
  obtain ⟨cells, NC, Y⟩ := Cl.news (h₀ := s.heap) (Nat.le_refl _) fun n c hm => ⟨x.cell n c (lookup_of_mem_nodup (cellsFrom_names scope.names 0 (s.heap.objs.size + 1) [] [] rfl ▸ hnd) hm), x.above n c hm⟩
  exact wpAny_mono (h s.heap.objs.size h₁ tk cells ⟨x.toInCall.ns, hk₁, Nat.le_refl _⟩ NC Y) (fun fl s' hl => hl) fun _ _ y => y
end
end Mine
end

section
open PySem PySem.W PyProof.Rows PySem.Calls PySem.Spec
namespace Mine
set_option maxRecDepth 100000
section
variable {prog : Program} {w : World} {A : Around} {E : Value → Shared → Prop} {s : Shared} {h₀ : Heap} {L : Addr} {m : Str → Option Value} {env : Env}

/-- all but the places of wr stays -/
theorem fr_wr {h h' : Heap} {wr : List Addr} (F : Fr h₀ L h m) (hk : ∀ b o, b ∉ wr → h.get? b = some o → h'.get? b = some o) (hL : L ∉ wr) (hw : ∀ b ∈ wr, h₀.get? b = none) : Fr h₀ L h' m := by
  obtain ⟨⟨oL, es, ep, hl, r⟩, k1, k2⟩ := F
  refine ⟨⟨oL, es, ep, hk _ _ hL hl, r⟩, fun b o e => hk b o (fun hb => ?_) (k1 b o e), k2⟩
  rw [hw b hb] at e; cases e
theorem news_wr {h h' : Heap} {wr : List Addr} {news : List (Addr × Obj)} (N : News h₀ L h news) (hk : ∀ b o, b ∉ wr → h.get? b = some o → h'.get? b = some o) (off : ∀ p ∈ news, p.1 ∉ wr) : News h₀ L h' news :=
  fun p hp => ⟨hk _ _ (off p hp) (N p hp).1, (N p hp).2⟩

/-- the end of one element's evaluation: the four objects of the loop stand as they stood -/
def EEnd (h₀ : Heap) (L : Addr) (m : Str → Option Value) (s₁ : Shared) (head : List (Addr × Obj)) (rest : Value → List (Addr × Obj) → Prop) (y : Value) (s₂ : Shared) : Prop :=
  ∃ h' tk news', s₂ = { s₁ with heap := h', toks := tk } ∧ Fr h₀ L h' m ∧ News h₀ L h' (head ++ news') ∧ (∀ p ∈ news', p.1 ∉ head.map (·.1)) ∧ rest y news'

/-- what is left of a comprehension over enumerate: the items r from place i on, ys made so far -/
def ERest (prog : Program) (w : World) (A : Around) (h₀ : Heap) (L : Addr) (m : Str → Option Value) (env : Env) (elt : Expr) (x x₂ : Str) (scope : Scope) (cl : List (Str × Addr)) (s : Shared) (Fin : List Value → List (Addr × Obj) → Prop) :
    List Value → Nat → List Value → List (Addr × Obj) → Prop
  | [], _, ys, news => Fin ys news
  | v :: r, i, ys, news => ∀ I oI J oJ C oC D m₂ t h tk (E' : Value → Shared → Prop), LCg.NsObj oC m₂ → m₂ x = some (.int i t) → m₂ x₂ = some v → Fr h₀ L h m →
      News h₀ L h ((I, oI) :: (J, oJ) :: (C, oC) :: (D, LCg.lst ys) :: news) → (∀ p ∈ news, p.1 ∉ [I, J, C, D]) →
      wpAny (model prog w) A (eval elt (compEnvC scope cl C env)) (EEnd h₀ L m { s with heap := h, toks := tk } [(I, oI), (J, oJ), (C, oC), (D, LCg.lst ys)] (fun y news' => ERest prog w A h₀ L m env elt x x₂ scope cl s Fin r (i + 1) (ys ++ [y]) news')) E' { s with heap := h, toks := tk }

theorem enum_block {elt iter : Expr} {x x₂ : Str} {px px₂ tp : Pos} {tk} {scope : Scope} {cl : List (Str × Addr)} {pos : Pos} {s₂ : Shared} {I J l : Addr} {vs : List Value} {news : List (Addr × Obj)} {old : Value}
    {Fin : List Value → List (Addr × Obj) → Prop} {RR : Value → Addr → Result → Shared → Prop}
    (hIJ : I ≠ J) (hlI : l ≠ I) (hlJ : l ≠ J) (hsz : vs.length ≤ sizeLine)
    (hcell : ∀ y ∈ scope.names, y.2 ≠ .cell) (hkind : scope.kind = .function) (hx : scope.names.lookup x = some .local) (hx₂ : scope.names.lookup x₂ = some .local) (hxx : x ≠ x₂) (hh : A.handled = none)
    (hE : IsEnum s₂.heap I J 0 old) (hJ : s₂.heap.IsListIter J l 0) (hl : h₀.IsList l vs.toArray)
    (F : Fr h₀ L s₂.heap m) (N : News h₀ L s₂.heap news) (hLI : L ∉ [I, J]) (hI₀ : ∀ b ∈ [I, J], h₀.get? b = none) (off : ∀ p ∈ news, p.1 ∉ [I, J])
    (R : ERest prog w A h₀ L m env elt x x₂ scope cl s₂ Fin vs 0 [] news)
    (hRR : ∀ D C h tk m' ys news', Fr h₀ L h m → News h₀ L h ((D, LCg.lst ys) :: news') → (∀ p ∈ news', p.1 ≠ D) → h.Ns C m' → h₀.get? C = none → h₀.get? D = none → C ≠ L → D ≠ L → C ≠ D → (∀ p ∈ news', p.1 ≠ C) → Fin ys news' → RR (.ref D) C (.ok .next) { s₂ with heap := h, toks := tk }) :
    wpAny (model prog w) A (newList []) (fun acc s₃ => wpAny (model prog w) A (newFunctionEnv scope env.globals cl [] env.qual none .none (some env)) (fun cenv s₄ =>
      codeAny (model prog w) A (.compStart (.ListComp elt [⟨.Tuple [.Name x px, .Name x₂ px₂] tk tp, iter, [], 0⟩] scope pos) 0 (.ref I) acc { cenv with scope := relabel scope env }) (RR acc cenv.locals) s₄) E s₃) E s₂ := by
  have W := WalksT.enumerate (prog := prog) (w := w) hh I J l hIJ hlI hlJ vs.toArray
  refine wpAny_newObj_type (wpAny_newFunctionEnv hcell (by intro y hy; simp at hy) (fun h₁ hns₁ hsb₁ => ?_) hkind)
  dsimp only at hns₁ hsb₁ ⊢
  generalize hH2 : s₂.heap.push { cls := .type "list", dict := none, data := .seq ([] : List Value).toArray } = H2 at hns₁ hsb₁ ⊢
  generalize hD : s₂.heap.objs.size = D
  have hC : H2.objs.size = D + 1 := by rw [← hH2, Heap.size_push, hD]
  have ltD : ∀ (b : Nat) o, s₂.heap.get? b = some o → b < D := fun b o e => hD ▸ Heap.lt_size e
  have ltC : ∀ (b : Nat), b < D → b < H2.objs.size := fun b h => hC ▸ Nat.lt_succ_of_lt h
  have hL : @LT.lt Nat _ L D := hD ▸ F.ns.lt
  have hIn : @LT.lt Nat _ I D := ltD _ _ hE
  obtain ⟨oJ, hoJ, _⟩ := id hJ
  have hJn : @LT.lt Nat _ J D := ltD _ _ hoJ
  obtain ⟨ol, hol, _⟩ := id hl
  have hln : @LT.lt Nat _ l D := ltD _ _ (F.keep _ _ hol)
  have hCD : H2.objs.size ≠ D := hC ▸ Nat.succ_ne_self D
  have hCL : H2.objs.size ≠ L := Nat.ne_of_gt (ltC _ hL)
  have hDL : D ≠ L := Nat.ne_of_gt hL
  have hDI : D ≠ I := Nat.ne_of_gt hIn
  have hDJ : D ≠ J := Nat.ne_of_gt hJn
  have hDl : D ≠ l := Nat.ne_of_gt hln
  have notIJ : ∀ b : Nat, b ≠ I → b ≠ J → b ∉ [I, J] := fun b h1 h2 hm => by
    rcases List.mem_cons.mp hm with e | hm
    · exact h1 e
    · exact h2 (List.mem_singleton.mp hm)
  have old1 : ∀ b o, s₂.heap.get? b = some o → h₁.get? b = some o := fun b o e => hsb₁.extBut b o (Nat.ne_of_lt (ltC _ (ltD b o e))) (Heap.get?_push_of_some _ (hH2 ▸ Heap.get?_push_of_some _ e))
  have hacc : h₁.get? D = some (LCg.lst []) := hsb₁.extBut _ _ (Ne.symm hCD) (Heap.get?_push_of_some _ (hH2 ▸ hD ▸ Heap.get?_push_size _ rfl))
  have fresh₀ : ∀ a, D ≤ a → h₀.get? a = none := fun a ha => by
    cases e : h₀.get? a with
    | none => rfl
    | some o' => exact absurd (ltD _ _ (F.keep a o' e)) (Nat.not_lt.mpr ha)
  have hD₀ := fresh₀ D (Nat.le_refl _)
  have hC₀ := fresh₀ H2.objs.size (hC ▸ Nat.le_succ D)
  have offAll : ∀ p ∈ news, p.1 ∉ [I, J, H2.objs.size, D] := fun p hp hm => by
    have h1 := ltD _ _ (N p hp).1
    simp only [List.mem_cons, List.not_mem_nil, or_false] at hm
    rcases hm with e | e | e | e
    · exact off p hp (by rw [e]; exact .head _)
    · exact off p hp (by rw [e]; exact .tail _ (.head _))
    · exact Nat.ne_of_lt (ltC _ h1) e
    · exact Nat.ne_of_lt h1 e
  have hfp : ∀ b ∈ [I, J, l], b ≠ H2.objs.size := fun b hb => by
    simp only [List.mem_cons, List.not_mem_nil, or_false] at hb
    rcases hb with rfl | rfl | rfl
    · exact Nat.ne_of_lt (ltC _ hIn)
    · exact Nat.ne_of_lt (ltC _ hJn)
    · exact Nat.ne_of_lt (ltC _ hln)
  have loop : ∀ s₃ : Shared, s₃ = { s₂ with heap := h₁, toks := s₂.toks + ([] : List (Str × Value)).length } →
      codeAny (model prog w) A (.compLoop (.ListComp elt [⟨.Tuple [.Name x px, .Name x₂ px₂] tk tp, iter, [], 0⟩] scope pos) 0 (.ref I) (.ref D) (compEnvC scope cl H2.objs.size env)) (RR (.ref D) H2.objs.size) s₃ := by
    rintro s₃ rfl
    refine LCp.codeAny_compLoop_pair
      (fun k s' => ∃ h' tk i ys m' news', s' = { s₂ with heap := h', toks := tk } ∧ i ≤ vs.length ∧ k = vs.length + 1 - i ∧ ys.length = i ∧ ((∃ old, IsEnum h' I J i old) ∧ h'.IsListIter J l i ∧ h'.IsList l vs.toArray) ∧ Fr h₀ L h' m ∧ h'.Ns H2.objs.size m' ∧
        News h₀ L h' ((D, LCg.lst ys) :: news') ∧ (∀ p ∈ news', p.1 ∉ [I, J, H2.objs.size, D]) ∧ ERest prog w A h₀ L m env elt x x₂ scope cl s₂ Fin (vs.drop i) i ys news') ?_ (vs.length + 1)
      ⟨h₁, _, 0, [], _, news, rfl, Nat.zero_le _, rfl, rfl, ⟨⟨old, old1 _ _ hE⟩, hJ.at fun o e => old1 _ _ e, hl.at fun o e => old1 _ _ (F.keep _ _ e)⟩, fr_stays F old1, hns₁, fun p hp => ?_, offAll, R⟩
    · rintro k s' ⟨h', tk, i, ys, m', news', rfl, hi, rfl, hyl, hst, F', hn', N', off', R'⟩
      have offD : ∀ p ∈ (D, LCg.lst ys) :: news', p.1 ∉ [I, J] := fun p hp => by
        rcases List.mem_cons.mp hp with rfl | hp
        · exact notIJ _ hDI hDJ
        · exact notIJ _ (fun e => off' p hp (by rw [e]; exact .head _)) (fun e => off' p hp (by rw [e]; exact .tail _ (.head _)))
      have hCIJ : H2.objs.size ∉ [I, J] := notIJ _ (Nat.ne_of_gt (ltC _ hIn)) (Nat.ne_of_gt (ltC _ hJn))
      by_cases hlt : i < vs.length
      · have hd : vs.drop i = vs[i] :: vs.drop (i + 1) := List.drop_eq_getElem_cons hlt
        rw [hd] at R'
        refine W.item i _ _ _ (by simpa using hlt) hst fun T vals h₂ tk₂ hP _ hT hMid hk₂ => ?_
        obtain ⟨t, v, hv, rfl⟩ := hP
        have hv' : v = vs[i] := by
          rw [List.getElem?_toArray, List.getElem?_eq_getElem hlt] at hv
          exact (Option.some.inj hv).symm
        subst hv'
        have hTw := W.apart i T _ hMid
        refine W.go _ _ _ i T _ _ _ hMid fun h₃ hst₃ hk₃ => ?_
        have hT₃ : IsTup h₃ T #[.int i t, vs[i]] := by
          obtain ⟨o, q, r⟩ := hT
          exact ⟨o, hk₃ T o hTw q, r⟩
        have hk : ∀ b o, b ∉ [I, J] → h'.get? b = some o → h₃.get? b = some o := fun b o hb e => hk₃ b o hb (hk₂ b o hb e)
        have F₃ : Fr h₀ L h₃ m := fr_wr F' hk hLI hI₀
        have N₃ : News h₀ L h₃ ((D, LCg.lst ys) :: news') := news_wr N' hk offD
        have hn₃ : h₃.Ns H2.objs.size m' := by
          obtain ⟨o, es, ep, q, r⟩ := hn'
          exact ⟨o, es, ep, hk _ _ hCIJ q, r⟩
        refine assign_Tuple_tuple hh hT₃ rfl rfl fun h₅ he => ?_
        have he' : ∀ b o, h₃.get? b = some o → h₅.get? b = some o := fun b o e => he b o (Nat.ne_of_lt (Heap.lt_size e)) e
        have hn₅ : h₅.Ns H2.objs.size m' := by
          obtain ⟨o, es, ep, q, r⟩ := hn₃
          exact ⟨o, es, ep, he' _ _ q, r⟩
        refine assignInOrder_cons (wpAny_assign_Name (wpAny_storeName_local (lookup_relabel_local hx) hn₅ (fun h₆ hn₆ hs₆ => ?_) (by simp [compEnvC, relabel, hkind])))
        refine assignInOrder_cons (wpAny_assign_Name (wpAny_storeName_local (lookup_relabel_local hx₂) hn₆ (fun h₇ hn₇ hs₇ => ?_) (by simp [compEnvC, relabel, hkind])))
        refine assignInOrder_nil ?_
        have old7 : ∀ b o, b ≠ H2.objs.size → h₃.get? b = some o → h₇.get? b = some o := fun b o hb e => hs₇.extBut b o hb (hs₆.extBut b o hb (he' b o e))
        have hst₇ := W.frame _ _ _ hst₃ fun b hb o e => old7 b o (hfp b hb) e
        obtain ⟨⟨old7e, hE7⟩, hJ7, hl7⟩ := hst₇
        obtain ⟨oJ7, hoJ7, rJ7⟩ := id hJ7
        obtain ⟨oC, hoC, hC7⟩ := LCg.ns_obj hn₇
        have F₇ : Fr h₀ L h₇ m := by
          have F5 := fr_stays F₃ (h' := h₅) he'
          exact (F5.change hs₆ hCL hC₀).change hs₇ hCL hC₀
        have N₇ : News h₀ L h₇ ((I, _) :: (J, oJ7) :: (H2.objs.size, oC) :: (D, LCg.lst ys) :: news') := fun p hp => by
          rcases List.mem_cons.mp hp with rfl | hp
          · exact ⟨hE7, fun e => hLI (by rw [← e]; exact .head _), hI₀ _ (.head _)⟩
          · rcases List.mem_cons.mp hp with rfl | hp
            · exact ⟨hoJ7, fun e => hLI (by rw [← e]; exact .tail _ (.head _)), hI₀ _ (.tail _ (.head _))⟩
            · rcases List.mem_cons.mp hp with rfl | hp
              · exact ⟨hoC, hCL, hC₀⟩
              · have z := N₃ p hp
                refine ⟨old7 _ _ ?_ z.1, z.2⟩
                rcases List.mem_cons.mp hp with rfl | hp
                · exact Ne.symm hCD
                · exact fun e => off' p hp (by rw [e]; exact .tail _ (.tail _ (.head _)))
        refine wpAny_mono (R' I _ J oJ7 H2.objs.size oC D _ t h₇ _ _ hC7 (by simp [hxx]) (by simp) F₇ N₇ off') (fun y s₄ h₄ => ?_) fun _ _ e => e
        obtain ⟨h₄, tk₄, news₄, rfl, F₄, N₄, off₄, R₄⟩ := h₄
        have zI := (N₄ (I, _) (.head _)).1
        have zJ := (N₄ (J, oJ7) (.tail _ (.head _))).1
        have zC := (N₄ (H2.objs.size, oC) (.tail _ (.tail _ (.head _)))).1
        have zD := (N₄ (D, LCg.lst ys) (.tail _ (.tail _ (.tail _ (.head _))))).1
        have N₄' : News h₀ L h₄ news₄ := fun p hp => N₄ p (.tail _ (.tail _ (.tail _ (.tail _ hp))))
        refine append_at (hsz := by show ys.toArray.size ≤ sizeLine; rw [List.size_toArray, hyl]; exact Nat.le_trans hi hsz) zD fun h₅ hs₅ hD₅ => ?_
        refine ⟨vs.length + 1 - (i + 1), by omega, h₅, tk₄, i + 1, ys ++ [y], _, news₄, rfl, hlt, rfl, by rw [List.length_append, List.length_singleton, hyl], ⟨⟨old7e, ?_⟩, ?_, hl.at fun o e => ?_⟩, F₄.change hs₅ hDL hD₀, (hC7.ns zC).sameBut hs₅ hCD, fun p hp => ?_, off₄, R₄⟩
        · exact hs₅.extBut _ _ (Ne.symm hDI) zI
        · exact ⟨oJ7, hs₅.extBut _ _ (Ne.symm hDJ) zJ, rJ7⟩
        · exact hs₅.extBut _ _ (Ne.symm hDl) (F₄.keep _ _ e)
        · rcases List.mem_cons.mp hp with rfl | hp
          · exact ⟨hD₅.trans (congrArg some (LCg.lst_snoc ys y)), hDL, hD₀⟩
          · exact ⟨hs₅.extBut _ _ (fun e => off₄ p hp (by rw [e]; exact .tail _ (.tail _ (.tail _ (.head _))))) (N₄' p hp).1, (N₄' p hp).2⟩
      · obtain rfl : i = vs.length := Nat.le_antisymm hi (Nat.not_lt.mp hlt)
        rw [List.drop_length] at R'
        refine W.done _ _ _ (by simpa using hst) fun h₂ tk₂ hk₂ => ?_
        exact hRR _ _ h₂ tk₂ _ ys news' (fr_wr F' hk₂ hLI hI₀) (news_wr N' hk₂ offD) (fun p hp e => off' p hp (by rw [e]; exact .tail _ (.tail _ (.tail _ (.head _)))))
          (by obtain ⟨o, es, ep, q, r⟩ := hn'; exact ⟨o, es, ep, hk₂ _ _ hCIJ q, r⟩) hC₀ hD₀ hCL hDL hCD (fun p hp e => off' p hp (by rw [e]; exact .tail _ (.tail _ (.head _)))) R'
    · rcases List.mem_cons.mp hp with rfl | hp
      · exact ⟨hacc, hDL, hD₀⟩
      · exact ⟨old1 _ _ (N p hp).1, (N p hp).2⟩
  exact codeAny_compStart_list (loop _ rfl) (W.self 0 _ _ _ ⟨⟨old, old1 _ _ hE⟩, hJ.at fun o e => old1 _ _ e, hl.at fun o e => old1 _ _ (F.keep _ _ e)⟩ (loop _ rfl))
end
end Mine
end

section
open PySem PySem.W PyProof.Rows PySem.Calls PySem.Spec
namespace Mine
set_option maxRecDepth 100000
section
variable {prog : Program} {w : World} {A : Around} {E : Value → Shared → Prop} {s : Shared} {h₀ : Heap} {L : Addr} {m : Str → Option Value} {env : Env}

/-- behind the comprehension: its list is the value -/
def FinV (h₀ : Heap) (L : Addr) (m : Str → Option Value) (s : Shared) (Q : Value → Shared → Prop) (ys : List Value) (news : List (Addr × Obj)) : Prop :=
  ∀ (D : Addr) (h : Heap) (tk : Nat), Fr h₀ L h m → News h₀ L h ((D, LCg.lst ys) :: news) → Apart D news → Q (.ref D) { s with heap := h, toks := tk }
theorem FinV.intro {Q : Value → Shared → Prop} {ys : List Value} {news : List (Addr × Obj)}
    (h : ∀ (D : Addr) (h : Heap) (tk : Nat), Fr h₀ L h m → News h₀ L h ((D, LCg.lst ys) :: news) → Apart D news → Q (.ref D) { s with heap := h, toks := tk }) : FinV h₀ L m s Q ys news := h

def EnumSrc (prog : Program) (w : World) (A : Around) (h₀ : Heap) (L : Addr) (m : Str → Option Value) (env : Env) (elt : Expr) (x x₂ : Str) (scope : Scope) (cl : List (Str × Addr)) (Fin : Shared → List Value → List (Addr × Obj) → Prop) (xv : Value) (s₁ : Shared) : Prop :=
  ∃ (I J l : Addr) (vs : List Value) (old : Value) (news : List (Addr × Obj)), xv = .ref I ∧ I ≠ J ∧ l ≠ I ∧ l ≠ J ∧ vs.length ≤ sizeLine ∧ A.handled = none ∧ IsEnum s₁.heap I J 0 old ∧ s₁.heap.IsListIter J l 0 ∧ h₀.IsList l vs.toArray ∧ Fr h₀ L s₁.heap m ∧ News h₀ L s₁.heap news ∧
    L ∉ [I, J] ∧ (∀ b ∈ [I, J], h₀.get? b = none) ∧ (∀ p ∈ news, p.1 ∉ [I, J]) ∧ ERest prog w A h₀ L m env elt x x₂ scope cl s₁ (Fin s₁) vs 0 [] news
theorem enum_src {l : Addr} {vs : List Value} {elt : Expr} {x x₂ : Str} {scope : Scope} {cl : List (Str × Addr)} {Fin : Shared → List Value → List (Addr × Obj) → Prop} {news : List (Addr × Obj)} (hh : A.handled = none)
    (F : Fr h₀ L s.heap m) (N : News h₀ L s.heap news) (hl : h₀.IsList l vs.toArray) (hsz : vs.length ≤ sizeLine)
    (R : ∀ g, ERest prog w A h₀ L m env elt x x₂ scope cl { s with heap := g } (Fin { s with heap := g }) vs 0 [] news) :
    wpAny (model prog w) A (call (.type "enumerate") [.ref l]) (EnumSrc prog w A h₀ L m env elt x x₂ scope cl Fin) E s := by
  have hls : s.heap.IsList l vs.toArray := hl.at fun o e => F.keep l o e
  obtain ⟨o, ho, _⟩ := id hls
  have hlt := Heap.lt_size ho
  have hL := F.ns.lt
  refine call_enumerate_list hls fun h' hE hI hs hk => ?_
  have big : ∀ b : Nat, b < s.heap.objs.size → b ∉ [s.heap.objs.size + 1, s.heap.objs.size] := fun b hb hm => by
    rcases List.mem_cons.mp hm with e | hm
    · exact Nat.ne_of_lt (Nat.lt_succ_of_lt hb) e
    · exact Nat.ne_of_lt hb (List.mem_singleton.mp hm)
  refine ⟨s.heap.objs.size + 1, s.heap.objs.size, l, vs, .none, news, rfl, Nat.succ_ne_self _, Nat.ne_of_lt (Nat.lt_succ_of_lt hlt), Nat.ne_of_lt hlt, hsz, hh, hE, hI, hl, fr_stays F hk, news_stays N hk, big _ hL, fun b hb => ?_, fun p hp => big _ (Heap.lt_size (N p hp).1), R h'⟩
  cases e : h₀.get? b with
  | none => rfl
  | some o' => exact absurd hb (big b (Heap.lt_size (F.keep b o' e)))

theorem ListComp_enum {elt iter : Expr} {x x₂ : Str} {px px₂ tp : Pos} {tk} {scope : Scope} {cl : List (Str × Addr)} {pos : Pos} {Q : Value → Shared → Prop} (_F₀ : Fr h₀ L s.heap m)
    (hclos : closureFor scope env = pure cl) (hcell : ∀ z ∈ scope.names, z.2 ≠ .cell) (hkind : scope.kind = .function)
    (hnames : ∀ z ∈ scope.names, z.2 = .local → scope.names.lookup z.1 = some .local) (hx : scope.names.lookup x = some .local) (hx₂ : scope.names.lookup x₂ = some .local) (hxx : x ≠ x₂)
    (h : wpAny (model prog w) A (eval iter env) (EnumSrc prog w A h₀ L m env elt x x₂ scope cl (fun s₂ => FinV h₀ L m s₂ Q)) E s)
    (hs : ∀ x, foldedSetIterable iter env x = pure x := by intro _; rfl) :
    wpAny (model prog w) A (eval (.ListComp elt [⟨.Tuple [.Name x px, .Name x₂ px₂] tk tp, iter, [], 0⟩] scope pos) env) Q E s := by
  rw [eval_ListComp]
  refine wpAny_comprehension_free (use := none) rfl hs hclos hkind hnames (wpAny_mono h (fun xv s₁ h₁ => ?_) fun _ _ e => e)
  obtain ⟨I, J, l, vs, old, news, rfl, hIJ, hlI, hlJ, hsz, hh, hE, hJ, hl, F, N, hLI, hI₀, off, R⟩ := h₁
  refine wpAny_pyIter_enum hE ?_
  refine enum_block hIJ hlI hlJ hsz hcell hkind hx hx₂ hxx hh hE hJ hl F N hLI hI₀ off R ?_
  intro D C h' tk m' ys news' F' N' o1 hn hC₀ hD₀ hCL hDL hCD offC fin
  refine ⟨m', hn, fun h'' hs'' => ?_⟩
  have fin9 : FinV h₀ L m _ Q ys news' := fin
  refine fin9 D h'' tk (F'.change hs'' hCL hC₀) (fun p hp => ?_) ⟨o1⟩
  refine ⟨hs''.extBut _ _ ?_ (N' p hp).1, (N' p hp).2⟩
  rcases List.mem_cons.mp hp with rfl | hp
  · exact Ne.symm hCD
  · exact offC p hp

theorem ERest.nil {elt : Expr} {x x₂ : Str} {scope : Scope} {cl : List (Str × Addr)} {Fin : List Value → List (Addr × Obj) → Prop} {i : Nat} {ys : List Value} {news : List (Addr × Obj)} (h : Fin ys news) : ERest prog w A h₀ L m env elt x x₂ scope cl s Fin [] i ys news := h
theorem ERest.cons {elt : Expr} {x x₂ : Str} {scope : Scope} {cl : List (Str × Addr)} {Fin : List Value → List (Addr × Obj) → Prop} {i : Nat} {v : Value} {r ys : List Value} {news : List (Addr × Obj)}
    (h : ∀ I oI J oJ C oC D m₂ t h tk (E' : Value → Shared → Prop), LCg.NsObj oC m₂ → m₂ x = some (.int i t) → m₂ x₂ = some v → Fr h₀ L h m →
      News h₀ L h ((I, oI) :: (J, oJ) :: (C, oC) :: (D, LCg.lst ys) :: news) → (∀ p ∈ news, p.1 ∉ [I, J, C, D]) →
      wpAny (model prog w) A (eval elt (compEnvC scope cl C env)) (EEnd h₀ L m { s with heap := h, toks := tk } [(I, oI), (J, oJ), (C, oC), (D, LCg.lst ys)] (fun y news' => ERest prog w A h₀ L m env elt x x₂ scope cl s Fin r (i + 1) (ys ++ [y]) news')) E' { s with heap := h, toks := tk }) :
    ERest prog w A h₀ L m env elt x x₂ scope cl s Fin (v :: r) i ys news := h
theorem EEnd.div {s₁ : Shared} {head old : List (Addr × Obj)} {rest : Value → List (Addr × Obj) → Prop} {y : Value} {a b c : Addr × Obj} {h' : Heap} {tk : Nat} (F : Fr h₀ L h' m) (N : News h₀ L h' (a :: b :: c :: (head ++ old))) (ap : Apart b.1 (head ++ old))
    (off : ∀ p ∈ old, p.1 ∉ head.map (·.1)) (r : rest y (b :: old)) : EEnd h₀ L m s₁ head rest y { s₁ with heap := h', toks := tk } := by
  refine ⟨h', tk, b :: old, rfl, F, fun p hp => ?_, fun p hp hm => ?_, r⟩
  · rcases List.mem_append.mp hp with hp | hp
    · exact N p (.tail _ (.tail _ (.tail _ (List.mem_append_left _ hp))))
    · rcases List.mem_cons.mp hp with rfl | hp
      · exact N _ (.tail _ (.head _))
      · exact N p (.tail _ (.tail _ (.tail _ (List.mem_append_right _ hp))))
  · rcases List.mem_cons.mp hp with rfl | hp
    · obtain ⟨q, hq, e⟩ := List.mem_map.mp hm
      exact ap.off q (List.mem_append_left _ hq) e
    · exact off p hp hm
end
end Mine
end

section
open PySem PySem.W PyProof.Rows PySem.Calls PySem.Spec
namespace Mine
set_option maxRecDepth 100000

/-- g is h without the objects of keep -/
structure Hid (g h : Heap) (keep : List (Addr × Obj)) : Prop where
  stays : g.StaysIn h
  size : g.objs.size ≤ h.objs.size
  at_ : ∀ p ∈ keep, h.get? p.1 = some p.2 ∧ g.get? p.1 = none
  all : ∀ b o, h.get? b = some o → g.get? b = some o ∨ (b, o) ∈ keep
theorem hid_of {h : Heap} {keep : List (Addr × Obj)} (hk : ∀ p ∈ keep, h.get? p.1 = some p.2) : Hid (hideAll h (keep.map (·.1))) h keep where
  stays := fun b o e => of_hideAll _ e
  size := Nat.le_of_eq (hideAll_size _ _)
  at_ := fun p hp => ⟨hk p hp, hideAll_none _ (List.mem_map_of_mem hp)⟩
  all := fun b o e => by
    by_cases hb : b ∈ keep.map (·.1)
    · obtain ⟨p, hp, rfl⟩ := List.mem_map.mp hb
      have := hk p hp
      rw [this] at e
      obtain rfl : p.2 = o := Option.some.inj e
      exact .inr hp
    · exact .inl (hideAll_get _ e hb)
/-- what stood stands still, where the hidden part stands in the ledger -/
theorem Hid.stays' {g h h' : Heap} {keep news : List (Addr × Obj)} {L : Addr} {m : Str → Option Value} (H : Hid g h keep) (F : Fr g L h' m) (N : News g L h' news) (hs : ∀ p ∈ keep, p ∈ news) : h.StaysIn h' := fun b o e => by
  rcases H.all b o e with e | e
  · exact F.keep b o e
  · exact (N _ (hs _ e)).1
/-- new to g and not of keep: new to h -/
theorem Hid.newIn {g h h' : Heap} {keep news new : List (Addr × Obj)} {L : Addr} (H : Hid g h keep) (N : News g L h' news) (hs : ∀ p ∈ new, p ∈ news) (ha : ∀ p ∈ new, ∀ q ∈ keep, q.1 ≠ p.1) : NewIn h h' new := fun p hp => by
  refine ⟨(N p (hs p hp)).1, ?_⟩
  cases e : h.get? p.1 with
  | none => rfl
  | some o =>
    rcases H.all _ _ e with e' | e'
    · have := (N p (hs p hp)).2.2
      rw [e'] at this; cases this
    · exact (ha p hp (p.1, o) e' rfl).elim
theorem Hid.list {g h : Heap} {keep : List (Addr × Obj)} {a : Addr} {vs : Array Value} (H : Hid g h keep) (hl : h.IsList a vs) (hk : ∀ p ∈ keep, p.1 ≠ a) : g.IsList a vs := by
  obtain ⟨o, e, r⟩ := hl
  rcases H.all _ _ e with e' | e'
  · exact ⟨o, e', r⟩
  · exact (hk (a, o) e' rfl).elim
/-- the hidden things are no int lists -/
theorem not_ints {g h : Heap} {keep : List (Addr × Obj)} {a : Addr} {vs : List Value} {ds : List Int} (H : Hid g h keep) (hl : h.IsList a vs.toArray) (hi : IntsAre vs ds)
    (hk : ∀ p ∈ keep, p.2.cls = .type "tuple" ∨ ∃ b r n, p.2.data = .seq (Value.ref b :: r).toArray n) : ∀ p ∈ keep, p.1 ≠ a := fun p hp e => by
  obtain ⟨o, eo, hc, n, hd⟩ := hl
  have h1 := (H.at_ p hp).1
  rw [e, eo] at h1
  obtain rfl : o = p.2 := Option.some.inj h1
  rcases hk p hp with q | ⟨b, r, n', q⟩
  · rw [hc] at q
    have : ("list" : String) = "tuple" := by injection q
    exact absurd this (by decide)
  · rw [hd] at q
    have q2 : vs.toArray = (Value.ref b :: r).toArray := by injection q
    have q3 : vs = Value.ref b :: r := by simpa using congrArg Array.toList q2
    subst q3
    cases hi
section
variable {prog : Program} {w : World} {A : Around} {E : Value → Shared → Prop} {s : Shared} {K : Frag} {p : Program} {loose : List Str} {mean : ExcName → Option Value} {mg mb : Str → Option Value} {Q : Value → Shared → Prop}
  {name qual : Str} {params : Arguments} {body : List Stmt} {scope : Scope} {dV kV doc pm cdv ct oc : Value} {an od : Option Addr} {osl : Array (Option Value)} {f : Addr} {vals : List Value} {binds : List (Str × Value)} {g : Heap} {keep : List (Addr × Obj)}
theorem ent_plainG (H : Hid g s.heap keep) (X : K.In g) (T : Top p loose mean mg mb g)
    (ho : K.lookup f = some ⟨oc, od, .func (fnOf name qual params body scope dV kV doc pm an cdv ct), osl⟩) (hcd : codeIn K cdv qual = true) (hroom : A.depth < recursionLimit)
    (hbind : BindsTo s (fnOf name qual params body scope dV kV doc pm an cdv ct) ⟨vals, []⟩ binds) (hloc : ∀ y ∈ binds, scope.names.lookup y.1 = some .local)
    (h : ∀ L' h₁, Fr g L' h₁ (fun y => binds.reverse.lookup y) → News g L' h₁ keep →
      wpAny (model prog w) (A.deeper (envOf qual scope L' f cdv)) (execs body (envOf qual scope L' f cdv))
        (fun fl s' => Q (match fl with | .ret v => v | _ => .none) s')
        (fun e s' => wpAny (model prog w) (A.deeper (envOf qual scope L' f cdv)) (leaving (envOf qual scope L' f cdv) e) (fun _ s'' => E e s'') (fun e' s'' => E e' s'') s')
        { s with heap := h₁, toks := s.toks + binds.length })
    (hco : scope.isCoroutine = false) (hgen : scope.isGenerator = false) (hk : scope.kind = .function)
    (hcell : ∀ x ∈ scope.names, x.2 ≠ .cell) : wpAny (model prog w) A (call (.ref f) vals) Q E s := by
  have X' := X.keeps H.stays
  refine wpAny_call (codeAny_call_def (fd := fnOf name qual params body scope dV kV doc pm an cdv ct) (body := body) (binds := binds) hroom (X' _ _ ho) rfl (T.keeps H.stays).nolimit (codeRec_of X' hcd) rfl hbind hcell hloc (fun h₁ hns hk₁ => ?_) hco hgen hk)
  refine wpAny_mono (h s.heap.objs.size h₁ ⟨hns, fun b o e => hk₁ b o (H.stays b o e), H.size⟩ fun q hq => ?_) (fun fl s' hl => hl) fun _ _ y => y
  exact ⟨hk₁ _ _ (H.at_ q hq).1, Nat.ne_of_lt (Heap.lt_size (H.at_ q hq).1), (H.at_ q hq).2⟩
end
end Mine
end

section
open PySem PySem.W PyProof.Rows PySem.Calls PySem.Spec
namespace Mine
set_option maxRecDepth 100000
theorem hid_fr {h₀ h : Heap} {L : Addr} {m : Str → Option Value} {news keep : List (Addr × Obj)} (F : Fr h₀ L h m) (N : News h₀ L h news) (hs : ∀ p ∈ keep, p ∈ news) : Fr h₀ L (hideAll h (keep.map (·.1))) m := by
  obtain ⟨⟨oL, es, ep, hL, r⟩, k1, k2⟩ := F
  have off : ∀ b : Addr, (∀ p ∈ keep, p.1 ≠ b) → b ∉ keep.map (·.1) := fun b hb hm => by
    obtain ⟨p, hp, e⟩ := List.mem_map.mp hm
    exact hb p hp e
  refine ⟨⟨oL, es, ep, hideAll_get _ hL (off L fun p hp => (N p (hs p hp)).2.1), r⟩, fun b o e => hideAll_get _ (k1 b o e) (off b fun p hp e' => ?_), k2⟩
  have := (N p (hs p hp)).2.2
  rw [e', e] at this; cases this
section
variable {prog : Program} {w : World} {A : Around} {E : Value → Shared → Prop} {s : Shared} {K : Frag} {p : Program} {loose : List Str} {mean : ExcName → Option Value} {mg mb : Str → Option Value} {Q : Value → Shared → Prop}
  {name qual : Str} {params : Arguments} {body : List Stmt} {scope : Scope} {dV kV doc pm cdv ct oc : Value} {an od : Option Addr} {osl : Array (Option Value)} {f : Addr} {vals : List Value} {binds : List (Str × Value)} {g : Heap} {keep : List (Addr × Obj)}
theorem ent_cellsG (H : Hid g s.heap keep) (X : K.In g) (T : Top p loose mean mg mb g)
    (ho : K.lookup f = some ⟨oc, od, .func (fnOf name qual params body scope dV kV doc pm an cdv ct), osl⟩) (hcd : codeIn K cdv qual = true) (hroom : A.depth < recursionLimit)
    (hbind : BindsTo s (fnOf name qual params body scope dV kV doc pm an cdv ct) ⟨vals, []⟩ binds)
    (hkind : (binds.all fun y => scope.names.lookup y.1 == some .local || scope.names.lookup y.1 == some .cell) = true)
    (hnd : ((cellsFrom 0 scope.names []).map (·.1)).Nodup)
    (h : ∀ L' h₁ tk cells, Fr g L' h₁ (bindL (envOfC qual scope L' f cdv).kindOf binds fun _ => none) → News g L' h₁ (cells ++ keep) →
      CellsAre (bindC (envOfC qual scope L' f cdv).kindOf binds fun _ => none) (cellsFrom (L' + 1) scope.names []) cells → (∀ q ∈ cells, ∀ p ∈ keep, p.1 ≠ q.1) →
      wpAny (model prog w) (A.deeper (envOfC qual scope L' f cdv)) (execs body (envOfC qual scope L' f cdv))
        (fun fl s' => Q (match fl with | .ret v => v | _ => .none) s')
        (fun e s' => wpAny (model prog w) (A.deeper (envOfC qual scope L' f cdv)) (leaving (envOfC qual scope L' f cdv) e) (fun _ s'' => E e s'') (fun e' s'' => E e' s'') s')
        { s with heap := h₁, toks := tk })
    (hco : scope.isCoroutine = false) (hgen : scope.isGenerator = false) (hk : scope.kind = .function) : wpAny (model prog w) A (call (.ref f) vals) Q E s := by
  have X' := X.keeps H.stays
  have T' := T.keeps H.stays
  refine ent_cells X' T' ho hcd hroom hbind hkind hnd (fun L' h₁ tk cells F N Y => ?_) hco hgen hk
  refine h L' h₁ tk cells ⟨F.ns, fun b o e => F.keep b o (H.stays b o e), Nat.le_trans H.size F.above⟩ (fun q hq => ?_) Y (fun q hq p hp e => ?_)
  · rcases List.mem_append.mp hq with hq | hq
    · refine ⟨(N q hq).1, (N q hq).2.1, ?_⟩
      cases e : g.get? q.1 with
      | none => rfl
      | some o => have := H.stays _ _ e; rw [(N q hq).2.2] at this; cases this
    · have e := (H.at_ q hq).1
      refine ⟨F.keep _ _ e, fun e' => ?_, (H.at_ q hq).2⟩
      have := Heap.lt_size e
      have h2 := F.above
      rw [e'] at this
      exact absurd (Nat.lt_of_lt_of_le this h2) (Nat.lt_irrefl _)
  · have h1 := (H.at_ p hp).1
    rw [e, (N q hq).2.2] at h1
    cases h1
end
end Mine
end

section
open PySem PySem.W PyProof.Rows PySem.Calls PySem.Spec
namespace Mine
set_option maxRecDepth 100000
/-- what of a ledger is kept -/
inductive Purge : List (Addr × Obj) → List (Addr × Obj) → Prop
  | nil : Purge [] []
  | keep {p : Addr × Obj} {l l' : List (Addr × Obj)} : Purge l l' → Purge (p :: l) (p :: l')
  | drop {p : Addr × Obj} {l l' : List (Addr × Obj)} : Purge l l' → Purge (p :: l) l'
theorem Purge.sub {l l' : List (Addr × Obj)} (h : Purge l l') : ∀ p ∈ l', p ∈ l := by
  induction h with
  | nil => exact fun _ h => h
  | keep _ ih =>
    intro p hp
    rcases List.mem_cons.mp hp with rfl | hp
    · exact .head _
    · exact .tail _ (ih p hp)
  | drop _ ih => exact fun p hp => .tail _ (ih p hp)
theorem Purge.all : ∀ (l : List (Addr × Obj)), Purge l l
  | [] => .nil
  | _ :: l => .keep (Purge.all l)
theorem Purge.ints {a : Addr} {i : Int} {t : Tok} {r : List Value} {k : Nat} {l l' : List (Addr × Obj)} (h : Purge l l') : Purge ((a, ({ cls := .type "tuple", data := .seq (Value.int i t :: r).toArray k } : Obj)) :: l) l' := .drop h
theorem Purge.cons {p : Addr × Obj} {l l' : List (Addr × Obj)} (h : Purge l l') : ∀ q ∈ p :: l', q ∈ p :: l := (Purge.keep h).sub
theorem Purge.apart {a : Addr} {l l' : List (Addr × Obj)} (h : Purge l l') (x : Apart a l) : Apart a l' := ⟨fun p hp => x.off p (h.sub p hp)⟩
theorem Purge.news {h₀ h : Heap} {L : Addr} {p : Addr × Obj} {l l' : List (Addr × Obj)} (x : Purge l l') (N : News h₀ L h (p :: l)) : News h₀ L h (p :: l') := fun q hq => N q (x.cons q hq)
theorem Off3.a1 {I C D : Addr} {l : List (Addr × Obj)} (h : LCg.Off3 I C D l) : Apart I l := ⟨fun p hp => (h.mem p hp).1⟩
theorem Off3.a2 {I C D : Addr} {l : List (Addr × Obj)} (h : LCg.Off3 I C D l) : Apart C l := ⟨fun p hp => (h.mem p hp).2.1⟩
theorem Off3.a3 {I C D : Addr} {l : List (Addr × Obj)} (h : LCg.Off3 I C D l) : Apart D l := ⟨fun p hp => (h.mem p hp).2.2⟩
section
variable {prog : Program} {w : World} {A : Around} {E : Value → Shared → Prop} {s : Shared} {h₀ : Heap} {L : Addr} {m : Str → Option Value} {env : Env}
/-- the source is a tuple of the ledger's -/
def TupSrc (ax : Addr) (its : Array Value) (news : List (Addr × Obj)) : Prop := ∃ o, (ax, o) ∈ news ∧ o.cls = .type "tuple" ∧ ∃ n, o.data = .seq its n
theorem TupSrc.at_ {h : Heap} {ax : Addr} {its : Array Value} {news : List (Addr × Obj)} (x : TupSrc ax its news) (N : News h₀ L h news) : h.IsTuple ax its :=
  let ⟨o, hm, r⟩ := x; ⟨o, (N _ hm).1, r⟩
def TupComp (prog : Program) (w : World) (A : Around) (h₀ : Heap) (L : Addr) (m : Str → Option Value) (env : Env) (elt : Expr) (x : Str) (scope : Scope) (cl : List (Str × Addr)) (Fin : Shared → List Value → List (Addr × Obj) → Prop) (xv : Value) (s₁ : Shared) : Prop :=
  ∃ ax its news, xv = .ref ax ∧ A.handled = none ∧ Fr h₀ L s₁.heap m ∧ News h₀ L s₁.heap news ∧ TupSrc ax its news ∧ its.size ≤ sizeLine ∧
    ∀ g, LCg.CompRest prog w A h₀ L m env elt x scope cl { s₁ with heap := g } (TupSrc ax its) (fun i v => its[i]? = some v) (Fin { s₁ with heap := g }) its.size 0 [] news
theorem TupComp.intro {elt : Expr} {x : Str} {scope : Scope} {cl : List (Str × Addr)} {Fin : Shared → List Value → List (Addr × Obj) → Prop} {ax : Addr} {its : Array Value} {k : Nat} {news : List (Addr × Obj)} {s₁ : Shared}
    (hh : A.handled = none) (F : Fr h₀ L s₁.heap m) (N : News h₀ L s₁.heap news) (hm : (ax, ({ cls := .type "tuple", data := .seq its k } : Obj)) ∈ news) (hsz : its.size ≤ sizeLine)
    (h : ∀ g, LCg.CompRest prog w A h₀ L m env elt x scope cl { s₁ with heap := g } (TupSrc ax its) (fun i v => its[i]? = some v) (Fin { s₁ with heap := g }) its.size 0 [] news) :
    TupComp prog w A h₀ L m env elt x scope cl Fin (.ref ax) s₁ := ⟨ax, its, news, rfl, hh, F, N, ⟨_, hm, rfl, _, rfl⟩, hsz, h⟩
theorem tup_st {ax I : Addr} {its : Array Value} : ∀ i (h h' : Heap) (o : Obj) (nw : List (Addr × Obj)), (h.IsTupleIter I ax i ∧ h.IsTuple ax its) → h.get? I = some o → h'.get? I = some o → (∀ b o, h₀.get? b = some o → h'.get? b = some o) → News h₀ L h' nw → TupSrc ax its nw → (h'.IsTupleIter I ax i ∧ h'.IsTuple ax its) :=
  fun i h h' o nw st e e' _ N S => ⟨by obtain ⟨o', q, r⟩ := st.1; rw [e] at q; cases q; exact ⟨o, e', r⟩, S.at_ N⟩
theorem ListComp_tup {elt iter : Expr} {x : Str} {px : Pos} {scope : Scope} {cl : List (Str × Addr)} {pos : Pos} {Q : Value → Shared → Prop} (_F₀ : Fr h₀ L s.heap m)
    (hclos : closureFor scope env = pure cl) (hcell : ∀ y ∈ scope.names, y.2 ≠ .cell) (hkind : scope.kind = .function)
    (hnames : ∀ y ∈ scope.names, y.2 = .local → scope.names.lookup y.1 = some .local) (hx : scope.names.lookup x = some .local)
    (h : wpAny (model prog w) A (eval iter env) (TupComp prog w A h₀ L m env elt x scope cl (fun s₂ => LCg.FinE h₀ L m s₂ Q)) E s)
    (hs : ∀ x, foldedSetIterable iter env x = pure x := by intro _; rfl) :
    wpAny (model prog w) A (eval (.ListComp elt [⟨.Name x px, iter, [], 0⟩] scope pos) env) Q E s := by
  rw [eval_ListComp]
  refine wpAny_comprehension_free (use := none) rfl hs hclos hkind hnames (wpAny_mono h (fun xv s₁ h₁ => ?_) fun _ _ e => e)
  obtain ⟨ax, its, news, rfl, hh, F, N, S, hsz, R⟩ := h₁
  have hl := S.at_ N
  have hlt : ax < s₁.heap.objs.size := by obtain ⟨_, e, _⟩ := hl; exact Heap.lt_size e
  refine wpAny_pyIter_tuple hl ?_
  have up : ∀ b o, s₁.heap.get? b = some o → (s₁.heap.push { cls := .type "tuple_iterator", data := .fields #[.ref ax, .int 0 0] }).get? b = some o := fun b o e => Heap.get?_push_of_some _ e
  have hl' : (s₁.heap.push { cls := .type "tuple_iterator", data := .fields #[.ref ax, .int 0 0] }).IsTuple ax its := by obtain ⟨o, e, r⟩ := hl; exact ⟨o, up _ _ e, r⟩
  refine LCg.block_U (Walks.tuple hh s₁.heap.objs.size ax (Nat.ne_of_lt hlt) its) hsz (fun i h st => by obtain ⟨o, e, _⟩ := st.1; exact ⟨o, e⟩) tup_st hcell hkind hx ⟨⟨_, Heap.get?_push_size _ rfl, rfl, rfl⟩, hl'⟩ (fun b hb => ?_)
    (F.keeps up) (N.grown up) (Nat.ne_of_lt F.ns.lt) (next_is_new F) (fun p hp => Nat.ne_of_lt (Heap.lt_size (N p hp).1)) S (R _) ?_
  · show b < (s₁.heap.push _).objs.size
    rw [Heap.size_push]
    rcases List.mem_cons.mp hb with rfl | hb
    · exact Nat.lt_succ_self _
    · rw [List.mem_singleton.mp hb]; exact Nat.lt_succ_of_lt hlt
  · intro D C h' tk m' ys news' F' N' o1 hn hC₀ hD₀ hCL hDL hCD offC fin
    refine ⟨m', hn, fun h'' hs'' => fin D h'' tk (F'.change hs'' hCL hC₀) (fun p hp => ?_) o1⟩
    refine ⟨hs''.extBut _ _ ?_ (N' p hp).1, (N' p hp).2⟩
    rcases List.mem_cons.mp hp with rfl | hp
    · exact Ne.symm hCD
    · exact offC p hp
theorem Assign_tup {elt iter : Expr} {x y : Str} {px py : Pos} {scope : Scope} {cl : List (Str × Addr)} {pos spos : Pos} {Q : Flow → Shared → Prop} (_F₀ : Fr h₀ L s.heap m) (hLe : env.locals = L)
    (hsw : swapsWith (.ListComp elt [⟨.Name x px, iter, [], 0⟩] scope pos) (some (.Name y py)) spos.line env = pure true)
    (hclos : closureFor scope env = pure cl) (hcell : ∀ z ∈ scope.names, z.2 ≠ .cell) (hkind : scope.kind = .function)
    (hnames : ∀ z ∈ scope.names, z.2 = .local → scope.names.lookup z.1 = some .local) (hx : scope.names.lookup x = some .local)
    (hy : env.kindOf y = some .local) (hp : (env.scope.kind == .class || (env.scope.kind == .module && env.locals != env.globals)) = false)
    (h : wpAny (model prog w) A (eval iter env) (TupComp prog w A h₀ L m env elt x scope cl (fun s₂ => LCg.FinA h₀ L m s₂ y Q)) E s)
    (hs : ∀ x, foldedSetIterable iter env x = pure x := by intro _; rfl) :
    wpAny (model prog w) A (exec (.Assign [.Name y py] (.ListComp elt [⟨.Name x px, iter, [], 0⟩] scope pos) spos) env) Q E s := by
  subst hLe
  rw [exec_Assign_Name_used _ _ _ _ hsw]
  refine wpAny_bind (wpAny_standAt (wpAny_bind ?_))
  show wpAny _ A (do let _ ← comprehension (.ListComp elt [⟨.Name x px, iter, [], 0⟩] scope pos) scope env _ (newList []) false (eval iter env) (some (assign (.Name y py) env))) _ _ s
  refine wpAny_bind (wpAny_mono (wpAny_comprehension_free (use := some (assign (.Name y py) env)) (Q := fun _ s' => Q .next s') rfl hs hclos hkind hnames
    (wpAny_mono h (fun xv s₁ h₁ => ?_) fun _ _ e => e)) (fun _ s' hq => wpAny_pure (wpAny_pure hq)) fun _ _ e => e)
  obtain ⟨ax, its, news, rfl, hh, F, N, S, hsz, R⟩ := h₁
  have hl := S.at_ N
  have hlt : ax < s₁.heap.objs.size := by obtain ⟨_, e, _⟩ := hl; exact Heap.lt_size e
  refine wpAny_pyIter_tuple hl ?_
  have up : ∀ b o, s₁.heap.get? b = some o → (s₁.heap.push { cls := .type "tuple_iterator", data := .fields #[.ref ax, .int 0 0] }).get? b = some o := fun b o e => Heap.get?_push_of_some _ e
  have hl' : (s₁.heap.push { cls := .type "tuple_iterator", data := .fields #[.ref ax, .int 0 0] }).IsTuple ax its := by obtain ⟨o, e, r⟩ := hl; exact ⟨o, up _ _ e, r⟩
  refine LCg.block_U (Walks.tuple hh s₁.heap.objs.size ax (Nat.ne_of_lt hlt) its) hsz (fun i h st => by obtain ⟨o, e, _⟩ := st.1; exact ⟨o, e⟩) tup_st hcell hkind hx ⟨⟨_, Heap.get?_push_size _ rfl, rfl, rfl⟩, hl'⟩ (fun b hb => ?_)
    (F.keeps up) (N.grown up) (Nat.ne_of_lt F.ns.lt) (next_is_new F) (fun p hp => Nat.ne_of_lt (Heap.lt_size (N p hp).1)) S (R _) ?_
  · show b < (s₁.heap.push _).objs.size
    rw [Heap.size_push]
    rcases List.mem_cons.mp hb with rfl | hb
    · exact Nat.lt_succ_self _
    · rw [List.mem_singleton.mp hb]; exact Nat.lt_succ_of_lt hlt
  · intro D C h' tk m' ys news' F' N' o1 hn hC₀ hD₀ hCL hDL hCD offC fin
    show wpAny _ A (assign (.Name y py) env (.ref D)) _ _ _
    refine wpAny_assign_Name (wpAny_storeName_local hy F'.ns (fun h₂ hn₂ hs₂ => ?_) hp)
    have hL₀ : h₀.get? env.locals = none := Heap.get?_none_of_le F'.above
    refine ⟨m', hn.sameBut hs₂ hCL, fun h'' hs'' => fin D h'' _ (Fr.change (m := fun z => if z = y then some (.ref D) else m z) ⟨hn₂, fun b o e => hs₂.extBut b o (fun q => by rw [q, hL₀] at e; cases e) (F'.keep b o e), F'.above⟩ hs'' hCL hC₀) (fun p hp => ?_) o1⟩
    have z := hs₂.extBut _ _ (N' p hp).2.1 (N' p hp).1
    refine ⟨hs''.extBut _ _ ?_ z, (N' p hp).2⟩
    rcases List.mem_cons.mp hp with rfl | hp
    · exact Ne.symm hCD
    · exact offC p hp
end
end Mine
end

section
open PySem PySem.W PyProof.Rows PySem.Calls PySem.Spec PyProof.V
namespace Mine
set_option maxRecDepth 100000
section
variable {prog : Program} {w : World} {A₀ : Around} {E : Value → Shared → Prop} {s' : Shared} {base h₀ g : Heap} {outer : List Env} {L a e : Addr} {m : Str → Option Value} {name : Str} {scope : Scope} {cd : Value}
  {b₀ : Stmt} {suite : List Stmt} {pos np : Pos} {rest : List ExceptHandler} {Q : Flow → Shared → Prop} {KF : Frag} {C : Addr} {bmB : List Value} {newId : String}
  {p : Program} {loose : List Str} {mg mb : Str → Option Value} {x : Str}
/-- an exception out of a callee of ours is caught by its own name -/
theorem caught_fly (R : Fly base g (envOf name scope L a cd :: outer) e (.ref C) s'.heap) (F : Fr h₀ L g m) (hsz : base.objs.size ≤ L) (hfr : A₀.frames = some outer)
    (X : KF.In base) (T : TopRead p loose mg mb base) (ex : nsIn KF mainGlobals x = some (some (.ref C))) (q : excIn KF C bmB newId = true) (hbase : bmB.contains (.type "BaseException") = true)
    (k : ∀ h', base.StaysIn h' → g.UpToSlots h' → wpAny (model prog w) ((A₀.deeper (envOf name scope L a cd)).mark (some (.ref e))) (execs (b₀ :: suite) (envOf name scope L a cd)) Q E { s' with heap := h' })
    (hk : scope.kind = .function := by rfl) (hx : (envOf name scope L a cd).kindOf x = some .globalImplicit := by rfl) (hd : (x == ("__debug__" : Str)) = false := by decide)
    (hE : PassesOwnAt (model prog w) ((A₀.deeper (envOf name scope L a cd)).mark (some (.ref e))) (A₀.deeper (envOf name scope L a cd)) (envOf name scope L a cd) E := by passes_own) :
    wpAny (model prog w) (A₀.deeper (envOf name scope L a cd)) (noteFrame (.ref e) (envOf name scope L a cd))
      (fun _ s₂ => wpAny (model prog w) (A₀.deeper (envOf name scope L a cd)) (setFlight (.ref e) none) (fun _ s₃ =>
        wpAny (model prog w) (A₀.deeper (envOf name scope L a cd)) (handleBy (.ref e) (envOf name scope L a cd) (.ExceptHandler (some (.Name x np)) none (b₀ :: suite) pos :: rest)) Q E s₃) E s₂) E s' := by
  obtain ⟨⟨t, hfl⟩, hup⟩ := R
  refine wpAny_looks_onW (Around.frames_deeper hfr) rfl hfl fun h₄ q₄ u₄ => ?_
  refine wpAny_landsW q₄ fun h₅ q₅ u₅ => ?_
  have F₅ : Fr base L h₅ m := ⟨((hup.trans u₄).trans u₅).ns F.ns, q₅.1, hsz⟩
  obtain ⟨ob, hob, hobc⟩ := q₅.there
  refine wpAny_handleBy_cons (codeAny_handlers_test (name_K F₅ X T ex ?_ hk hx hd)) (by intro q; cases q)
  obtain ⟨bm, N, nm, qn, bs, hdct, sn, sub, ab, col, dd, k0, k1, k2, k3, k5, mN, hC, hN, hni, TL⟩ := ((own_of_in X T ex q).keeps F₅.keep).obj
  refine wpAny_excMatches_sub_self hC hob hobc (TL.hasType hbase) (codeAny_handlers_suite ?_)
  refine lands_againW q₅ fun h₆ q₆ u₆ => ?_
  exact wpAny_passesOwnAt hE (k h₆ q₆.1 (((hup.trans u₄).trans u₅).trans u₆))
end
end Mine
end

section
open PySem PySem.W PyProof.Rows PySem.Calls PySem.Spec
namespace Mine
set_option maxRecDepth 100000
set_option maxHeartbeats 16000000
theorem fill12t : hd.heap_1 = hd.heap_1 ∧ PySem.Challenge.rw_pq0533_01 = PySem.Challenge.rw_pq0533_01 := by k_fill; exact ⟨rfl, rfl⟩
/-- chinese, as the text has it -/
def chStmt : Stmt := (PySem.Challenge.pw_pq0533_01.main.body[12]?).getD (.Pass default)
def chStmts : List Stmt := match chStmt with | .FunctionDef _ _ body _ _ _ _ _ _ _ => body | _ => []
def chScope : Scope := match chStmt with | .FunctionDef _ _ _ _ _ _ scope _ _ _ => scope | _ => default
def chTarget : Expr := match chStmts[5]? with | some (Stmt.For t _ _ _ _) => t | _ => default
def chBody : List Stmt := match chStmts[5]? with | some (Stmt.For _ _ b _ _) => b | _ => []
def chEnv (L : Addr) : Env := envOf (Str.ofString "chinese") chScope L 103 (.ref 102)
section
variable {h₀ h : Heap} {L : Addr} {m m' : Str → Option Value} {news new : List (Addr × Obj)}
theorem news_sub (N : News h₀ L h news) (hs : ∀ p ∈ new, p ∈ news) : News h₀ L h new := fun p hp => N p (hs p hp)
theorem Fr.cong (F : Fr h₀ L h m) (e : m = m') : Fr h₀ L h m' := e ▸ F
theorem apart_sub {l : Addr} (A : Apart l news) (hs : ∀ p ∈ new, p ∈ news) : Apart l new := ⟨fun p hp => A.off p (hs p hp)⟩
theorem apart_lt {d : Addr} : ∀ {l : List (Addr × Obj)}, AllLt d l → Apart d l
  | [], _ => ⟨fun _ h => nomatch h⟩
  | q :: l, h => ⟨fun p hp => by
    rcases List.mem_cons.mp hp with rfl | hp
    · exact Nat.ne_of_lt h.1
    · exact (apart_lt h.2).off p hp⟩
theorem apart_cons {d : Addr} {q : Addr × Obj} (h : q.1 ≠ d) (A : Apart d news) : Apart d (q :: news) := ⟨fun p hp => by
  rcases List.mem_cons.mp hp with rfl | hp
  · exact h
  · exact A.off p hp⟩
/-- the names that a turn binds anew -/
structure Same4 (m m' : Str → Option Value) : Prop where
  at_ : ∀ y, y ≠ Str.ofString "rest" → y ≠ Str.ofString "modulus" → y ≠ Str.ofString "other" → y ≠ Str.ofString "scaled" → m' y = m y
end
section
variable {w : World} {loose : List Str} {mean : ExcName → Option Value} {mg mb : Str → Option Value} {dp un : Nat} {gd : Option (List Code)} {base g : Heap} {outer : List Env} {s : Shared} {Q : Flow → Shared → Prop} {E : Value → Shared → Prop}
theorem c_turn {L S TT t a b o : Addr} {cS co : Nat} {sl va vb vo : List Value} {da : List Int} {r n z k : Int} {tk : Tok} {m : Str → Option Value} {made : List (Addr × Obj)}
    (X : (hd.heap_1 w.params).In g) (T : Top view loose mean mg mb g)
    (hk1 : 1 ≤ k) (hk9 : k ≤ 9) (hdp : dp + 8 < recursionLimit)
    (F : Fr g L s.heap m) (N : News g L s.heap ((S, W.listOf sl.toArray cS) :: made)) (hS : Apart S made)
    (m1 : m (Str.ofString "sums") = some (Value.ref S)) (m2 : m (Str.ofString "w") = some (.int k tk)) (m3 : m (Str.ofString "mul") = some (Value.ref 143)) (m4 : m (Str.ofString "divrem") = some (Value.ref 150)) (m5 : m (Str.ofString "inverse_of") = some (Value.ref 164))
    (hT : IsTup s.heap TT #[Value.ref t, Value.ref o]) (ht : (t, { cls := .type "tuple", data := .seq [Value.ref a, Value.ref b].toArray }) ∈ made) (ho : (o, W.listOf vo.toArray co) ∈ made)
    (hl1 : g.IsList a va.toArray) (hi1 : IntsAre va da) (hD1 : Limbs k da r) (hl2 : g.IsList b vb.toArray) (hi2 : IntsAre vb (dig k n)) (hD2 : Limbs k (dig k n) n)
    (hi3 : IntsAre vo (dig k z)) (hD3 : Limbs k (dig k z) z) (hn : 0 < n) (hnB : Bd n)
    (hsl : sl.length < 100) (hb : base.StaysIn g) (hfl : g.FunFrames base outer)
    (hE : Int.gcd z n ≠ 1 → ∀ e h₂ m₂ h' tk', Fr g L h₂ m₂ → Fly base h₂ (chEnv L :: outer) e (Value.ref 49) h' → E (Value.ref e) { s with heap := h', toks := tk' })
    (hret : ∀ fl x vs c cS' v m' h' tk', (fl = .next ∨ fl = .cont) → Same4 m m' → Fr g L h' m' → News g L h' ((S, W.listOf (sl ++ [Value.ref x]).toArray cS') :: (x, W.listOf vs.toArray c) :: made) → Apart x ((S, W.listOf sl.toArray cS) :: made) → IntsAre vs (dig k v) → Limbs k (dig k v) v → Scaled n z r v → Q fl { s with heap := h', toks := tk' }) :
    wpAny (model PySem.Challenge.rw_pq0533_01.row.prog w) ((AT dp un (some outer) gd).deeper (chEnv L)) (assign chTarget (chEnv L) (Value.ref TT)) (fun _ s₂ => wpAny (model PySem.Challenge.rw_pq0533_01.row.prog w) ((AT dp un (some outer) gd).deeper (chEnv L)) (execs chBody (chEnv L)) Q E s₂) E s := by
  have N' : News g L s.heap ((S, W.listOf sl.toArray cS) :: (t, { cls := .type "tuple", data := .seq [Value.ref a, Value.ref b].toArray }) :: (o, W.listOf vo.toArray co) :: made) := news_sub N (by
    intro p hp
    rcases List.mem_cons.mp hp with rfl | hp
    · exact .head _
    rcases List.mem_cons.mp hp with rfl | hp
    · exact .tail _ ht
    rcases List.mem_cons.mp hp with rfl | hp
    · exact .tail _ ho
    · exact .tail _ hp)
  have hSt : S ≠ t := (hS.ne ht).symm
  have hSo : S ≠ o := (hS.ne ho).symm
  clear N ht ho
  have em : ∀ y, (if y = Str.ofString "sums" then some (Value.ref S) else if y = Str.ofString "w" then some (.int k tk) else if y = Str.ofString "mul" then some (Value.ref 143) else if y = Str.ofString "divrem" then some (Value.ref 150) else if y = Str.ofString "inverse_of" then some (Value.ref 164) else m y) = m y := fun y => by
    split
    · next h => rw [h, m1]
    split
    · next h => rw [h, m2]
    split
    · next h => rw [h, m3]
    split
    · next h => rw [h, m4]
    split
    · next h => rw [h, m5]
    rfl
  have F' : Fr g L s.heap (fun y => if y = Str.ofString "sums" then some (Value.ref S) else if y = Str.ofString "w" then some (.int k tk) else if y = Str.ofString "mul" then some (Value.ref 143) else if y = Str.ofString "divrem" then some (Value.ref 150) else if y = Str.ofString "inverse_of" then some (Value.ref 164) else m y) := Fr.cong F (funext fun y => (em y).symm)
  clear F m1 m2 m3 m4 m5
  have eE : chEnv L = chEnv L := rfl
  have eT : chTarget = chTarget := rfl
  have eB : chBody = chBody := rfl
  have eS : chScope = chScope := rfl
  conv at eT => rhs; whnf
  conv at eB => rhs; whnf
  conv at eS => rhs; whnf
  unfold chEnv at *
  rw [eT, eB, eS] at *
  clear eT eB eS eE
  have i0 : IntsAre [] [] := .nil
  have hZero : Limbs k [] 0 := limbs_zero
  have hOne : Limbs k [1] 1 := limbs_one
  have b1 := hD1.len
  have b2 := hD2.len
  have b3 := hD3.len
  (with_reducible show wpAny _ _ _ _ _ _)
  k_fold
  k_with_none
  k_with "my lt" => skip
  k_with "my k_ne" => (refine neN ?_; (try dsimp only); first | exact Apart.ne (by assumption) (by k_mem) | exact Ne.symm (Apart.ne (by assumption) (by k_mem)))
  k_with "my call ref" => (k_here; (with_reducible show wpAny _ _ (call (Value.ref 143) _) _ _ _); k_dflt (refine' u_mul ?k1 ?k2 ?k3 ?k4 ?k5 ?k6 ?k7 ?k8 ?k9 ?k10 ?k11 ?k12 ?k13 ?k14 ?_; (case k1 => k_asm); (case k2 => k_asm); (case k3 => k_asm); (case k4 => k_asm); (case k5 => assumption); (case k6 => assumption); (case k7 => ((try simp only [depth_deeper, at_depth]); omega)); (case k8 => is_list); (case k9 => l_ints); (case k10 => assumption); (case k11 => is_list); (case k12 => l_ints); (case k13 => assumption); (case k14 => k_extra "small"); k_whole; intro l' vs' c' h' tk' F' N' ap' hI' hD'; (try dsimp only); (try k_sweep); (try k_fold)))
  k_with "my call ref" => (k_here; (with_reducible show wpAny _ _ (call (Value.ref 150) _) _ _ _); k_dflt (refine' u_divrem ?k1 ?k2 ?k3 ?k4 ?k5 ?k6 ?k7 ?k8 ?k9 ?k10 ?k11 ?k12 ?k13 ?k14 ?_; (case k1 => k_asm); (case k2 => k_asm); (case k3 => k_asm); (case k4 => k_asm); (case k5 => assumption); (case k6 => assumption); (case k7 => ((try simp only [depth_deeper, at_depth]); omega)); (case k8 => is_list); (case k9 => l_ints); (case k10 => assumption); (case k11 => is_list); (case k12 => l_ints); (case k13 => assumption); (case k14 => k_extra "divpos"); k_whole; intro l' l1' l2' vs1' vs2' c1' c2' h' tk' F' N' ap' ap1' ap2' hI1' hI2' hD1' hD2'; (try dsimp only); (try k_sweep); (try k_fold)))
  k_with "my execs cons Assign cons" => ((with_reducible refine wpAny_execs_cons ?_); try dsimp only)
  k_with "my call ref" => (k_here; (with_reducible show wpAny _ _ (call (Value.ref 58) _) _ _ _); k_dflt (refine' u_compare ?k1 ?k2 ?k3 ?k4 ?k7 ?k8 ?k9 ?k10 ?k11 ?k12 ?_; (case k1 => k_asm); (case k2 => k_asm); (case k3 => k_asm); (case k4 => k_asm); (case k7 => ((try simp only [depth_deeper, at_depth]); omega)); (case k8 => is_list); (case k9 => l_ints); (case k10 => k_extra "len100"); (case k11 => is_list); (case k12 => l_ints); k_whole; intro r' t' h' tk' hr' F' N'; (try dsimp only); (try k_sweep); (try k_fold)))
  k_with "my call ref" => (k_here; (with_reducible show wpAny _ _ (call (Value.ref 164) _) _ _ _); k_dflt (k_extra "inverse"))
  k_with "my k_ne" => (first | assumption | exact Ne.symm (by assumption))
  k_with "my call builtin:list.append" => (k_here; (with_reducible show wpAny _ _ (call (Value.builtin _) [Value.ref _, _]) _ _ _); k_dflt (refine' append_K ?k1 ?k2 ?k3 ?_ ?z; (case k1 => k_asm); (case k2 => k_asm); (case k3 => k_upd); (case z => (simp only [List.size_toArray, PySem.sizeLine_eq]; omega)); k_whole); intro h' F' N'; (try k_sweep))
  k_with "my k_all" => exact Apart.off (by assumption)
  k_with "len100" => assumption
  k_with "divpos" => assumption
  k_with "bd" => first | assumption | exact Bd.mod (by assumption) (by assumption) | exact Bd.zero | exact Bd.one
  k_with "small" => exact Bd.small_mul (by k_extra "bd") (by k_extra "bd")
  k_with "inverse" => (refine' u_inverse (base := base) (outer := _ :: outer) ?k1 ?k2 ?k3 ?k4 ?k5 ?k6 ?k7 ?k8 ?k9 ?k10 ?k11 ?k12 ?k13 ?k14 ?kb ?kf ?kr ?_; (case k1 => k_asm); (case k2 => k_asm); (case k3 => k_asm); (case k4 => k_asm); (case k5 => assumption); (case k6 => assumption); (case k7 => ((try simp only [depth_deeper, at_depth]); omega)); (case k8 => is_list); (case k9 => l_ints); (case k10 => assumption); (case k11 => is_list); (case k12 => l_ints); (case k13 => assumption); (case k14 => k_extra "divpos"); (case kb => exact base_push (by k_asm) hb); (case kf => exact fun_push (by k_asm) hb hfl rfl (by show ScopeKind.function ≠ ScopeKind.module; decide)); (case kr => (intro hg' e' h' tk' R'; exact hE hg' _ _ _ _ _ (by k_asm) R')); (intro x' l' vs' c' h' tk' hx' F' N' ap' hI' hD' hm'; (have bx' := Bd.lt hD'.nonneg hm' (by assumption)); (try dsimp only); (try k_sweep); (try k_fold)))
  k_steps
  all_goals (try dsimp only)
  · simp only [List.push_toArray] at N'
    refine hret .cont _ [] _ _ 0 _ _ _ (.inr rfl) ⟨fun y h1 h2 h3 h4 => ?_⟩ F' (news_sub N' (List.forall_mem_cons.mpr ⟨by k_mem, List.forall_mem_cons.mpr ⟨by k_mem, fun p hp => ?_⟩⟩)) (apart_sub (by assumption) (List.forall_mem_cons.mpr ⟨by k_mem, fun p hp => ?_⟩)) ?_ (limbs_dig hk1 (by decide) ⟨by decide⟩) (Scaled.one (one_of hD2 hr' (by assumption)))
    · rw [if_neg h3, if_neg h2, if_neg h1]; exact em y
    · repeat (first | exact hp | apply List.mem_cons_of_mem)
    · repeat (first | exact hp | apply List.mem_cons_of_mem)
    · rw [dig_zero (by decide)]; exact .nil
  · simp only [List.push_toArray] at N'
    refine hret .next _ _ _ _ _ _ _ _ (.inl rfl) ⟨fun y h1 h2 h3 h4 => ?_⟩ F' (news_sub N' (List.forall_mem_cons.mpr ⟨by k_mem, List.forall_mem_cons.mpr ⟨by k_mem, fun p hp => ?_⟩⟩)) (apart_sub ap2' (List.forall_mem_cons.mpr ⟨by k_mem, fun p hp => ?_⟩)) hI2' hD2' (Scaled.mk' hn (by assumption))
    · rw [if_neg h4, if_neg h3, if_neg h2, if_neg h1]; exact em y
    · repeat (first | exact hp | apply List.mem_cons_of_mem)
    · repeat (first | exact hp | apply List.mem_cons_of_mem)
end
end Mine
end

section
open PySem PySem.W PyProof.Rows PySem.Calls PySem.Spec
namespace Mine
set_option maxRecDepth 100000
theorem allObj_of : ∀ {ws : List (Addr × String)} {k : List (Addr × Obj) → Prop}, (∀ its, Objs ws its → k its) → AllObj ws k
  | [], _, h => AllObj.nil (h [] trivial)
  | _ :: _, _, h => AllObj.cons fun o hc => allObj_of fun its hi => h (_ :: its) ⟨⟨rfl, hc⟩, hi⟩
theorem subL_of {news : List (Addr × Obj)} : ∀ {keep : List (Addr × Obj)}, (∀ p ∈ keep, p ∈ news) → SubL keep news
  | [], _ => trivial
  | p :: r, h => And.intro (h p (.head _)) (subL_of fun q hq => h q (.tail _ hq))
/-- the iterator's objects are none of these -/
structure OffWs (ws : List (Addr × String)) (news : List (Addr × Obj)) : Prop where
  off : ∀ q ∈ ws, ∀ p ∈ news, p.1 ≠ q.1
theorem OffWs.its {ws : List (Addr × String)} {its news : List (Addr × Obj)} (h : OffWs ws news) (ho : Objs ws its) : ∀ q ∈ its, ∀ p ∈ news, p.1 ≠ q.1 := fun q hq p hp => by
  have h1 : q.1 ∈ its.map (·.1) := List.mem_map.mpr ⟨q, hq, rfl⟩
  rw [ho.map] at h1
  obtain ⟨r, hr, e⟩ := List.mem_map.mp h1
  rw [← e]
  exact h.off r hr p hp
theorem offWs_of {I : Addr} {news : List (Addr × Obj)} (h : ∀ p ∈ news, p.1 < I) {a b c d : String} {e : String} : OffWs [(I + 4, a), (I + 2, b), (I + 3, c), (I, d), (I + 1, e)] news := ⟨fun q hq p hp => by
  have := h p hp
  simp only [List.mem_cons, List.not_mem_nil, or_false] at hq
  rcases hq with rfl | rfl | rfl | rfl | rfl <;> first | exact Nat.ne_of_lt this | exact Nat.ne_of_lt (Nat.lt_of_lt_of_le this (Nat.le_add_right _ _))⟩
section
variable {w : World} {loose : List Str} {mean : ExcName → Option Value} {mg mb : Str → Option Value} {dp un : Nat} {gd : Option (List Code)} {base g : Heap} {outer : List Env} {s : Shared} {Q : Flow → Shared → Prop} {E : Value → Shared → Prop}
theorem turn_items {ws : List (Addr × String)} {keep : List (Addr × Obj)} {rest : List Itm} {L S t a b o : Addr} {cS co : Nat} {sl va vb vo : List Value} {da : List Int} {r n z k : Int} {tk : Tok} {m : Str → Option Value} {made : List (Addr × Obj)}
    (X : (hd.heap_1 w.params).In g) (T : Top view loose mean mg mb g)
    (hk1 : 1 ≤ k) (hk9 : k ≤ 9) (hdp : dp + 8 < recursionLimit) (hS : Apart S made) (hW : OffWs ws ((S, W.listOf sl.toArray cS) :: made)) (hkp : ∀ p ∈ keep, p ∈ made)
    (m1 : m (Str.ofString "sums") = some (.ref S)) (m2 : m (Str.ofString "w") = some (.int k tk)) (m3 : m (Str.ofString "mul") = some (.ref 143)) (m4 : m (Str.ofString "divrem") = some (.ref 150)) (m5 : m (Str.ofString "inverse_of") = some (.ref 164))
    (ht : (t, { cls := .type "tuple", data := .seq [Value.ref a, Value.ref b].toArray }) ∈ made) (ho : (o, W.listOf vo.toArray co) ∈ made)
    (hl1 : g.IsList a va.toArray) (hi1 : IntsAre va da) (hD1 : Limbs k da r) (hl2 : g.IsList b vb.toArray) (hi2 : IntsAre vb (dig k n)) (hD2 : Limbs k (dig k n) n)
    (hi3 : IntsAre vo (dig k z)) (hD3 : Limbs k (dig k z) z) (hn : 0 < n) (hnB : Bd n) (hsl : sl.length < 100)
    (hb : base.StaysIn g) (hfl : g.FunFrames base outer)
    (hE : Int.gcd z n ≠ 1 → ∀ e h₂ m₂ h' tk', Fr g L h₂ m₂ → Fly base h₂ (chEnv L :: outer) e (.ref 49) h' → E (.ref e) { s with heap := h', toks := tk' })
    (next : ∀ x vs c cS' v m', Same4 m m' → Apart S ((x, W.listOf vs.toArray c) :: made) → OffWs ws ((S, W.listOf (sl ++ [Value.ref x]).toArray cS') :: (x, W.listOf vs.toArray c) :: made) → Apart x ((S, W.listOf sl.toArray cS) :: made) → IntsAre vs (dig k v) → Limbs k (dig k v) v → Scaled n z r v →
      ItemsRest PySem.Challenge.rw_pq0533_01.row.prog w ((AT dp un (some outer) gd).deeper (chEnv L)) E g (chEnv L) chTarget chBody Q s ws keep rest m' ((S, W.listOf (sl ++ [Value.ref x]).toArray cS') :: (x, W.listOf vs.toArray c) :: made)) :
    ItemsRest PySem.Challenge.rw_pq0533_01.row.prog w ((AT dp un (some outer) gd).deeper (chEnv L)) E g (chEnv L) chTarget chBody Q s ws keep (.pair (fun _ => .ref t) (.ref o) :: rest) m ((S, W.listOf sl.toArray cS) :: made) := by
  refine ItemsRest.pair (fun TT t' h tk' hT F => allObj_of fun its hits N => ?_)
  have hoff := hW.its hits
  refine c_turn (s := { s with heap := h, toks := tk' }) (cS := cS) (made := its ++ made) X T hk1 hk9 hdp F (news_sub N fun p hp => ?_) ⟨fun p hp => ?_⟩ m1 m2 m3 m4 m5 hT (List.mem_append_right _ ht) (List.mem_append_right _ ho) hl1 hi1 hD1 hl2 hi2 hD2 hi3 hD3 hn hnB hsl hb hfl hE fun fl x vs c cS' v m' h' tk'' hf hs F' N' ap hi hD hsc => ?_
  · rcases List.mem_cons.mp hp with rfl | hp
    · exact List.mem_append_right _ (.head _)
    · rcases List.mem_append.mp hp with hp | hp
      · exact List.mem_append_left _ hp
      · exact List.mem_append_right _ (.tail _ hp)
  · rcases List.mem_append.mp hp with hp | hp
    · exact (hoff p hp _ (.head _)).symm
    · exact hS.off p hp
  · have hx : ∀ p ∈ its, p.1 ≠ x := fun p hp => ap.off p (.tail _ (List.mem_append_left _ hp))
    have hW' : OffWs ws ((S, W.listOf (sl ++ [Value.ref x]).toArray cS') :: (x, W.listOf vs.toArray c) :: made) := ⟨fun q hq p hp => by
      rcases List.mem_cons.mp hp with rfl | hp
      · exact hW.off q hq (S, W.listOf sl.toArray cS) (.head _)
      rcases List.mem_cons.mp hp with rfl | hp
      · have h1 : q.1 ∈ ws.map (·.1) := List.mem_map.mpr ⟨q, hq, rfl⟩
        rw [← hits.map] at h1
        obtain ⟨i, hi, e⟩ := List.mem_map.mp h1
        rw [← e]
        exact (hx i hi).symm
      · exact hW.off q hq p (.tail _ hp)⟩
    have hfin : UnrEndW g L { s with heap := h, toks := tk' } its (fun m' n' => SubL keep n' ∧ ItemsRest PySem.Challenge.rw_pq0533_01.row.prog w ((AT dp un (some outer) gd).deeper (chEnv L)) E g (chEnv L) chTarget chBody Q s ws keep rest m' n') { s with heap := h', toks := tk'' } := by
      refine ⟨h', tk'', m', (S, W.listOf (sl ++ [Value.ref x]).toArray cS') :: (x, W.listOf vs.toArray c) :: made, rfl, F', news_sub N' fun p hp => ?_, fun p hp q hq => hW'.its hits q hq p hp, subL_of fun p hp => .tail _ (.tail _ (hkp p hp)), next x vs c cS' v m' hs ?_ hW' ?_ hi hD hsc⟩
      · rcases List.mem_append.mp hp with hp | hp
        · exact .tail _ (.tail _ (List.mem_append_left _ hp))
        rcases List.mem_cons.mp hp with rfl | hp
        · exact .head _
        rcases List.mem_cons.mp hp with rfl | hp
        · exact .tail _ (.head _)
        · exact .tail _ (.tail _ (List.mem_append_right _ hp))
      · exact apart_cons (ap.off _ (.head _)).symm hS
      · exact apart_sub ap fun p hp => by
          rcases List.mem_cons.mp hp with rfl | hp
          · exact .head _
          · exact .tail _ (List.mem_append_right _ hp)
    rcases hf with rfl | rfl
    · exact hfin
    · exact hfin
end
end Mine
namespace Mine
/-- the names that chinese's loop, and what follows it, reads -/
structure ChMap (m : Str → Option Value) (S lv : Addr) (k : Int) (tk : Tok) : Prop where
  sums : m (Str.ofString "sums") = some (.ref S)
  levels : m (Str.ofString "levels") = some (.ref lv)
  w : m (Str.ofString "w") = some (.int k tk)
  mul : m (Str.ofString "mul") = some (.ref 143)
  divrem : m (Str.ofString "divrem") = some (.ref 150)
  inv : m (Str.ofString "inverse_of") = some (.ref 164)
theorem chmap_of {m : Str → Option Value} {S lv L : Addr} {k : Int} {tk : Tok} {h₀ h : Heap} (_F : Fr h₀ L h m) (a : m (Str.ofString "sums") = some (.ref S)) (b : m (Str.ofString "levels") = some (.ref lv)) (c : m (Str.ofString "w") = some (.int k tk)) (d : m (Str.ofString "mul") = some (.ref 143)) (e : m (Str.ofString "divrem") = some (.ref 150)) (f : m (Str.ofString "inverse_of") = some (.ref 164)) : ChMap m S lv k tk := ⟨a, b, c, d, e, f⟩
theorem ChMap.same {m m' : Str → Option Value} {S lv : Addr} {k : Int} {tk : Tok} (c : ChMap m S lv k tk) (h : Same4 m m') : ChMap m' S lv k tk :=
  ⟨(h.at_ _ (by decide) (by decide) (by decide) (by decide)).trans c.sums, (h.at_ _ (by decide) (by decide) (by decide) (by decide)).trans c.levels, (h.at_ _ (by decide) (by decide) (by decide) (by decide)).trans c.w,
    (h.at_ _ (by decide) (by decide) (by decide) (by decide)).trans c.mul, (h.at_ _ (by decide) (by decide) (by decide) (by decide)).trans c.divrem, (h.at_ _ (by decide) (by decide) (by decide) (by decide)).trans c.inv⟩
theorem ChMap.fr {m : Str → Option Value} {S lv L : Addr} {k : Int} {tk : Tok} {h₀ h : Heap} (c : ChMap m S lv k tk) (F : Fr h₀ L h m) :
    Fr h₀ L h (fun y => if y = Str.ofString "sums" then some (Value.ref S) else if y = Str.ofString "levels" then some (Value.ref lv) else if y = Str.ofString "w" then some (.int k tk) else if y = Str.ofString "mul" then some (Value.ref 143) else if y = Str.ofString "divrem" then some (Value.ref 150) else m y) := by
  have em : ∀ y, (if y = Str.ofString "sums" then some (Value.ref S) else if y = Str.ofString "levels" then some (Value.ref lv) else if y = Str.ofString "w" then some (.int k tk) else if y = Str.ofString "mul" then some (Value.ref 143) else if y = Str.ofString "divrem" then some (Value.ref 150) else m y) = m y := fun y => by
    split
    · next h => rw [h, c.sums]
    split
    · next h => rw [h, c.levels]
    split
    · next h => rw [h, c.w]
    split
    · next h => rw [h, c.mul]
    split
    · next h => rw [h, c.divrem]
    rfl
  exact Fr.cong F (funext fun y => (em y).symm)
end Mine
end

section
open PySem PySem.W PyProof.Rows PySem.Calls PySem.Spec
namespace Mine
set_option maxRecDepth 100000
set_option maxHeartbeats 16000000
theorem fill11 : hd.heap_1 = hd.heap_1 ∧ PySem.Challenge.rw_pq0533_01 = PySem.Challenge.rw_pq0533_01 := by k_fill; exact ⟨rfl, rfl⟩
theorem off1_ne {D a : Addr} {o : Obj} : ∀ {news : List (Addr × Obj)}, LCg.Off1 D news → (a, o) ∈ news → a ≠ D
  | [], _, m => nomatch m
  | p :: r, h, m => by
    rcases List.mem_cons.mp m with e | m
    · have := h.1; rw [← e] at this; exact this
    · exact off1_ne h.2 m
theorem limbs_ne {k n : Int} {ds : List Int} (h : Limbs k ds n) (hn : 0 < n) : 0 < ds.length := by
  cases ds with
  | nil => have := h.eq; simp only [num] at this; omega
  | cons d r => exact Nat.succ_pos _
section
variable {w : World} {loose : List Str} {mean : ExcName → Option Value} {mg mb : Str → Option Value} {dp un : Nat} {fr : Option (List Env)} {gd : Option (List Code)} {outer : List Env} {s : Shared} {Q E : Value → Shared → Prop}
theorem c_rem2 {ra ll l0 l1 a b p : Addr} {vs us ps rs : List Value} {ds es fs dr : List Int} {n o P nn k : Int} {tk : Tok}
    (X : (hd.heap_1 w.params).In s.heap) (T : Top view loose mean mg mb s.heap)
    (hk1 : 1 ≤ k) (hk9 : k ≤ 9) (hdp : dp + 8 < recursionLimit)
    (hL : s.heap.IsList ll [Value.ref l0, Value.ref l1].toArray) (h0 : s.heap.IsList l0 [Value.ref a, Value.ref b].toArray) (h1 : s.heap.IsList l1 [Value.ref p].toArray) (hl1 : s.heap.IsList a vs.toArray) (hi1 : IntsAre vs ds) (hD1 : Limbs k ds n) (hl2 : s.heap.IsList b us.toArray) (hi2 : IntsAre us es) (hD2 : Limbs k es o) (hl3 : s.heap.IsList p ps.toArray) (hi3 : IntsAre ps fs) (hD3 : Limbs k fs P) (hl4 : s.heap.IsList ra rs.toArray) (hi4 : IntsAre rs dr) (hD4 : Limbs k dr nn) (hp1 : 0 < n) (hp2 : 0 < o) (hp3 : 0 < P)
    (hret : ∀ (l : Addr) (r0 : Addr) (r1 : Addr) (xs : List Value) (ys : List Value) (c0 : Nat) (c1 : Nat) (cl : Nat) (h' : Heap) (tk' : Nat), s.heap.StaysIn h' → NewIn s.heap h' [(l, W.listOf [Value.ref r0, Value.ref r1].toArray cl), (r0, W.listOf xs.toArray c0), (r1, W.listOf ys.toArray c1)] → IntsAre xs (dig k (nn % P % n)) → Limbs k (dig k (nn % P % n)) (nn % P % n) → IntsAre ys (dig k (nn % P % o)) → Limbs k (dig k (nn % P % o)) (nn % P % o) → Q (.ref l) { s with heap := h', toks := tk' }) :
    wpAny (model PySem.Challenge.rw_pq0533_01.row.prog w) (AT dp un fr gd) (call (.ref 84) [.ref ra, .ref ll, .int k tk, .ref 150]) Q E s := by
  refine' ent_cells X T ?k6 ?k7 ?k8 ?k9 ?kB ?kD ?_ ?c2 ?c3 ?c4
  case k6 => k_is
  case k7 => k_is
  case k8 => show dp < recursionLimit; omega
  case k9 => exact BindsTo.of_eq rfl
  case kB => exact rfl
  case kD => decide +kernel
  case c2 => exact rfl
  case c3 => exact rfl
  case c4 => exact rfl
  intro L' h₁ tk' cells' F' N' Y'
  k_cells Y'
  (try simp only [List.cons_append, List.nil_append] at N')
  show wpAny _ _ _ _ _ _
  k_fold
  have i0 : IntsAre [] [] := .nil
  have b1 := hD1.len
  have b2 := hD2.len
  have b3 := hD3.len
  have q1 := limbs_ne hD1 hp1
  have q2 := limbs_ne hD2 hp2
  have q3 := limbs_ne hD3 hp3
  k_with_none
  k_with "my lt" => skip
  k_with "my k_ne" => (refine neN ?_; (try dsimp only); first | exact Apart.ne (by assumption) (by k_mem) | exact Ne.symm (Apart.ne (by assumption) (by k_mem)))
  k_with "my call ref" => (k_here; (with_reducible show wpAny _ _ (call (Value.ref 136) _) _ _ _); k_dflt (refine' u_number ?k1 ?k2 ?k3 ?k4 ?k5 ?k6 ?k7 ?k8 ?k9 ?k10 ?_; (case k1 => k_asm); (case k2 => k_asm); (case k3 => k_asm); (case k4 => k_asm); (case k5 => assumption); (case k6 => assumption); (case k7 => ((try simp only [depth_deeper, at_depth]); omega)); (case k8 => is_list); (case k9 => l_ints); (case k10 => assumption); k_whole; intro t' h' tk' F' N'; (try dsimp only); (try k_sweep); (try k_fold)))
  k_with "my call ref" => (k_here; (with_reducible show wpAny _ _ (call (Value.ref 129) _) _ _ _); k_dflt (refine' u_limbs ?k1 ?k2 ?k3 ?k4 ?k5 ?k6 ?k7 ?k8 ?k9 ?_; (case k1 => k_asm); (case k2 => k_asm); (case k3 => k_asm); (case k4 => k_asm); (case k5 => assumption); (case k6 => assumption); (case k7 => ((try simp only [depth_deeper, at_depth]); omega)); (case k8 => k_extra "pos"); (case k9 => k_extra "small"); k_whole; intro l' vs' c' h' tk' F' N' ap' hI' hD'; (try dsimp only); (try k_sweep); (try k_fold)))
  k_with "my call ref" => (k_here; (with_reducible show wpAny _ _ (call (Value.ref 143) _) _ _ _); k_dflt (refine' u_mul ?k1 ?k2 ?k3 ?k4 ?k5 ?k6 ?k7 ?k8 ?k9 ?k10 ?k11 ?k12 ?k13 ?k14 ?_; (case k1 => k_asm); (case k2 => k_asm); (case k3 => k_asm); (case k4 => k_asm); (case k5 => assumption); (case k6 => assumption); (case k7 => ((try simp only [depth_deeper, at_depth]); omega)); (case k8 => is_list); (case k9 => l_ints); (case k10 => assumption); (case k11 => is_list); (case k12 => l_ints); (case k13 => assumption); (case k14 => k_extra "small"); k_whole; intro l' vs' c' h' tk' F' N' ap' hI' hD'; (try dsimp only); (try k_sweep); (try k_fold)))
  k_with "my call ref" => (k_here; (with_reducible show wpAny _ _ (call (Value.ref 65) _) _ _ _); k_dflt (refine' u_add ?k1 ?k2 ?k3 ?k4 ?k5 ?k6 ?k7 ?k8 ?k9 ?k10 ?k11 ?k12 ?k13 ?k14 ?k15 ?k16 ?_; (case k1 => k_asm); (case k2 => k_asm); (case k3 => k_asm); (case k4 => k_asm); (case k5 => assumption); (case k6 => assumption); (case k7 => ((try simp only [depth_deeper, at_depth]); omega)); (case k8 => is_list); (case k9 => l_ints); (case k10 => assumption); (case k11 => is_list); (case k12 => l_ints); (case k13 => assumption); (case k14 => k_extra "small"); (case k15 => k_extra "len60"); (case k16 => k_extra "len60"); k_whole; intro l' vs' c' ds' h' tk' F' N' ap' hI' hD'; (try dsimp only); (try k_sweep); (try k_fold)))
  k_with "my call ref" => (k_here; (with_reducible show wpAny _ _ (call (Value.ref 150) _) _ _ _); k_dflt (refine' u_divrem ?k1 ?k2 ?k3 ?k4 ?k5 ?k6 ?k7 ?k8 ?k9 ?k10 ?k11 ?k12 ?k13 ?k14 ?_; (case k1 => k_asm); (case k2 => k_asm); (case k3 => k_asm); (case k4 => k_asm); (case k5 => assumption); (case k6 => assumption); (case k7 => ((try simp only [depth_deeper, at_depth]); omega)); (case k8 => is_list); (case k9 => l_ints); (case k10 => assumption); (case k11 => is_list); (case k12 => l_ints); (case k13 => assumption); (case k14 => k_extra "divpos"); k_whole; intro l' l1' l2' vs1' vs2' c1' c2' h' tk' F' N' ap' ap1' ap2' hI1' hI2' hD1' hD2'; (try dsimp only); (try k_sweep); (try k_fold)))
  k_with "my execs cons Assign cons" => ((with_reducible refine wpAny_execs_cons ?_); try dsimp only)
  k_with "my exec For Name Subscript cons nil" => (k_here; (rename Fr _ _ _ _ => lF'); (with_unfolding_all refine' For_invVF lF' ?k1 ?k2 ?_; (case k1 => exact rfl); (case k2 => exact rfl); k_whole))
  k_with "my CompEnd" => k_dflt (refine LCg.CompEnd.intro (by assumption) (by assumption) _ (fun _ h9 => h9) (by assumption) (by lcg_src) ?_)
  k_with "my CompRest" => (with_unfolding_all first | (refine LCg.CompRest.succ ?_; intro v' I' oI' C' oC' D' m' h' tk' E' hv' hC' hx' F' N' off' ne'; (first | lcg_open hv' | (obtain ⟨t9', hv9'⟩ := hv'; subst hv9')); clear ne') | refine LCg.CompRest.zero ?_)
  k_with "my FinE" => ((unfold LCg.FinE); intro D' h' tk' F' N' o1'; (try simp only [List.nil_append, List.cons_append] at N'); (try dsimp only))
  k_with "my k_ne" => (refine neN ?_; (try dsimp only); first | exact off1_ne (by assumption) (by k_mem) | exact Ne.symm (off1_ne (by assumption) (by k_mem)))
  k_with "my exec Assign cons ListComp" => (k_here; k_dflt (refine wpAny_Assign_Name ?_))
  k_with "my eval ListComp" => (k_here; (with_reducible show wpAny _ _ (eval (PySem.Expr.ListComp _ [PySem.Comprehension.mk (PySem.Expr.Tuple _ _ _) _ _ _] _ _) _) _ _ _); (k_dflt (refine ListComp_enum (_F₀ := by k_asm) (by with_unfolding_all rfl) (by decide) (by rfl) (by decide) (by rfl) (by rfl) (by decide) ?_)))
  k_with "my call type:enumerate" => (k_here; (with_reducible show wpAny _ _ (call (Value.type _) [Value.ref _]) _ _ _); k_dflt (refine' enum_src ?k1 ?k2 ?k3 ?k4 ?k5 ?_; (case k1 => rfl); (case k2 => k_asm); (case k3 => k_asm); (case k4 => assumption); (case k5 => exact Nat.le_of_ble_eq_true rfl); intro g'))
  k_with "my ERest" => k_dflt (first | (refine ERest.cons ?_; intro I' oI' J' oJ' C' oC' D' m' t' h' tk' E' hC' hx' hy' F' N' off'; (try simp only [List.nil_append, List.cons_append] at N')) | refine ERest.nil ?_)
  k_with "my EEnd" => k_dflt (refine EEnd.div (by assumption) (by assumption) (by assumption) (by assumption) ?_)
  k_with "my FinV" => k_dflt (refine FinV.intro ?_; intro D' h' tk' F' N' o1'; (try simp only [List.nil_append, List.cons_append] at N'); (try dsimp only))
  k_with "my ite" => k_extra "anyno"
  k_with "my exec For Name Subscript cons nil" => (k_here; (rename Fr _ _ _ _ => lF'); (with_unfolding_all refine' For_turns lF' ?_; k_whole))
  k_with "my call builtin:len" => (k_here; (with_reducible show wpAny _ _ (call (Value.builtin "len") [Value.ref _]) _ _ _); first | (refine' len_lit2 ?k1 ?_; (case k1 => is_list); k_whole) | (refine' len_lit1 ?k1 ?_; (case k1 => is_list); k_whole) | (refine' len_lit3 ?k1 ?_; (case k1 => is_list); k_whole) | (refine' len_lit0 ?k1 ?_; (case k1 => is_list); k_whole))
  k_with "divpos" => assumption
  k_with "anyno" => (refine ite_neg ?anyno ?_; (case anyno => ((try simp only [beq_iff_eq, Bool.or_eq_true, Bool.or_false, not_or]); omega)))
  k_steps
  all_goals (try k_data)
  all_goals (try dsimp only)
  all_goals (first | (exfalso; omega) | exact hret _ _ _ _ _ _ _ _ _ _ (Fr.keep (by assumption)) (newIn_sub (newIn_of (by assumption)) (by k_allIn)) (by assumption) (by assumption) (by assumption) (by assumption))

theorem u_rem2 {ra ll l0 l1 a b p : Addr} {vs us ps rs : List Value} {ds es fs dr : List Int} {n o P nn k : Int} {tk : Tok} {h₀ : Heap} {L : Addr} {mm : Str → Option Value} {news : List (Addr × Obj)} (F : Fr h₀ L s.heap mm) (X₀ : (hd.heap_1 w.params).In h₀) (N : News h₀ L s.heap news) (T : Top view loose mean mg mb h₀)
    (hk1 : 1 ≤ k) (hk9 : k ≤ 9) (hdp : dp + 8 < recursionLimit)
    (hL : s.heap.IsList ll [Value.ref l0, Value.ref l1].toArray) (h0 : s.heap.IsList l0 [Value.ref a, Value.ref b].toArray) (h1 : s.heap.IsList l1 [Value.ref p].toArray) (hl1 : s.heap.IsList a vs.toArray) (hi1 : IntsAre vs ds) (hD1 : Limbs k ds n) (hl2 : s.heap.IsList b us.toArray) (hi2 : IntsAre us es) (hD2 : Limbs k es o) (hl3 : s.heap.IsList p ps.toArray) (hi3 : IntsAre ps fs) (hD3 : Limbs k fs P) (hl4 : s.heap.IsList ra rs.toArray) (hi4 : IntsAre rs dr) (hD4 : Limbs k dr nn) (hp1 : 0 < n) (hp2 : 0 < o) (hp3 : 0 < P)
    (hret : ∀ (l : Addr) (r0 : Addr) (r1 : Addr) (xs : List Value) (ys : List Value) (c0 : Nat) (c1 : Nat) (cl : Nat) (h' : Heap) (tk' : Nat), Fr h₀ L h' mm → News h₀ L h' ((l, W.listOf [Value.ref r0, Value.ref r1].toArray cl) :: (r0, W.listOf xs.toArray c0) :: (r1, W.listOf ys.toArray c1) :: news) → Apart l news → Apart r0 news → Apart r1 news → IntsAre xs (dig k (nn % P % n)) → Limbs k (dig k (nn % P % n)) (nn % P % n) → IntsAre ys (dig k (nn % P % o)) → Limbs k (dig k (nn % P % o)) (nn % P % o) → Q (.ref l) { s with heap := h', toks := tk' }) :
    wpAny (model PySem.Challenge.rw_pq0533_01.row.prog w) (AT dp un fr gd) (call (.ref 84) [.ref ra, .ref ll, .int k tk, .ref 150]) Q E s :=
  c_rem2 (X₀.keeps F.keep) (T.keeps F.keep) hk1 hk9 hdp hL h0 h1 hl1 hi1 hD1 hl2 hi2 hD2 hl3 hi3 hD3 hl4 hi4 hD4 hp1 hp2 hp3 fun l r0 r1 xs ys c0 c1 cl h' tk' st nw hI8 hE8 hI9 hE9 => hret l r0 r1 xs ys c0 c1 cl h' tk' (fr_stays F st) (news_new F N st nw) (apart_new N nw (.head _)) (apart_new N nw (.tail _ (.head _))) (apart_new N nw (.tail _ (.tail _ (.head _)))) hI8 hE8 hI9 hE9


theorem c_rem3 {ra ll l0 l1 l2 a b c p r : Addr} {vs us ws ps rs xr : List Value} {ds es gs fs dr dx : List Int} {n o q P R nn k : Int} {tk : Tok}
    (X : (hd.heap_1 w.params).In s.heap) (T : Top view loose mean mg mb s.heap)
    (hk1 : 1 ≤ k) (hk9 : k ≤ 9) (hdp : dp + 8 < recursionLimit)
    (hL : s.heap.IsList ll [Value.ref l0, Value.ref l1, Value.ref l2].toArray) (h0 : s.heap.IsList l0 [Value.ref a, Value.ref b, Value.ref c].toArray) (h1 : s.heap.IsList l1 [Value.ref p, Value.ref c].toArray) (h2 : s.heap.IsList l2 [Value.ref r].toArray) (hl1 : s.heap.IsList a vs.toArray) (hi1 : IntsAre vs ds) (hD1 : Limbs k ds n) (hl2 : s.heap.IsList b us.toArray) (hi2 : IntsAre us es) (hD2 : Limbs k es o) (hl5 : s.heap.IsList c ws.toArray) (hi5 : IntsAre ws gs) (hD5 : Limbs k gs q) (hl3 : s.heap.IsList p ps.toArray) (hi3 : IntsAre ps fs) (hD3 : Limbs k fs P) (hl6 : s.heap.IsList r xr.toArray) (hi6 : IntsAre xr dx) (hD6 : Limbs k dx R) (hl4 : s.heap.IsList ra rs.toArray) (hi4 : IntsAre rs dr) (hD4 : Limbs k dr nn) (hp1 : 0 < n) (hp2 : 0 < o) (hp5 : 0 < q) (hp3 : 0 < P) (hp6 : 0 < R)
    (hret : ∀ (l : Addr) (r0 : Addr) (r1 : Addr) (r2 : Addr) (xs : List Value) (ys : List Value) (zs : List Value) (c0 : Nat) (c1 : Nat) (c2 : Nat) (cl : Nat) (h' : Heap) (tk' : Nat), s.heap.StaysIn h' → NewIn s.heap h' [(l, W.listOf [Value.ref r0, Value.ref r1, Value.ref r2].toArray cl), (r0, W.listOf xs.toArray c0), (r1, W.listOf ys.toArray c1), (r2, W.listOf zs.toArray c2)] → IntsAre xs (dig k (nn % R % P % n)) → Limbs k (dig k (nn % R % P % n)) (nn % R % P % n) → IntsAre ys (dig k (nn % R % P % o)) → Limbs k (dig k (nn % R % P % o)) (nn % R % P % o) → IntsAre zs (dig k (nn % R % q % q)) → Limbs k (dig k (nn % R % q % q)) (nn % R % q % q) → Q (.ref l) { s with heap := h', toks := tk' }) :
    wpAny (model PySem.Challenge.rw_pq0533_01.row.prog w) (AT dp un fr gd) (call (.ref 84) [.ref ra, .ref ll, .int k tk, .ref 150]) Q E s := by
  refine' ent_cells X T ?k6 ?k7 ?k8 ?k9 ?kB ?kD ?_ ?c2 ?c3 ?c4
  case k6 => k_is
  case k7 => k_is
  case k8 => show dp < recursionLimit; omega
  case k9 => exact BindsTo.of_eq rfl
  case kB => exact rfl
  case kD => decide +kernel
  case c2 => exact rfl
  case c3 => exact rfl
  case c4 => exact rfl
  intro L' h₁ tk' cells' F' N' Y'
  k_cells Y'
  (try simp only [List.cons_append, List.nil_append] at N')
  show wpAny _ _ _ _ _ _
  k_fold
  have i0 : IntsAre [] [] := .nil
  have b1 := hD1.len
  have b2 := hD2.len
  have b3 := hD3.len
  have b5 := hD5.len
  have b6 := hD6.len
  have q5 := limbs_ne hD5 hp5
  have q6 := limbs_ne hD6 hp6
  have q1 := limbs_ne hD1 hp1
  have q2 := limbs_ne hD2 hp2
  have q3 := limbs_ne hD3 hp3
  k_with_none
  k_with "my lt" => skip
  k_with "my k_ne" => (refine neN ?_; (try dsimp only); first | exact Apart.ne (by assumption) (by k_mem) | exact Ne.symm (Apart.ne (by assumption) (by k_mem)))
  k_with "my call ref" => (k_here; (with_reducible show wpAny _ _ (call (Value.ref 136) _) _ _ _); k_dflt (refine' u_number ?k1 ?k2 ?k3 ?k4 ?k5 ?k6 ?k7 ?k8 ?k9 ?k10 ?_; (case k1 => k_asm); (case k2 => k_asm); (case k3 => k_asm); (case k4 => k_asm); (case k5 => assumption); (case k6 => assumption); (case k7 => ((try simp only [depth_deeper, at_depth]); omega)); (case k8 => is_list); (case k9 => l_ints); (case k10 => assumption); k_whole; intro t' h' tk' F' N'; (try dsimp only); (try k_sweep); (try k_fold)))
  k_with "my call ref" => (k_here; (with_reducible show wpAny _ _ (call (Value.ref 129) _) _ _ _); k_dflt (refine' u_limbs ?k1 ?k2 ?k3 ?k4 ?k5 ?k6 ?k7 ?k8 ?k9 ?_; (case k1 => k_asm); (case k2 => k_asm); (case k3 => k_asm); (case k4 => k_asm); (case k5 => assumption); (case k6 => assumption); (case k7 => ((try simp only [depth_deeper, at_depth]); omega)); (case k8 => k_extra "pos"); (case k9 => k_extra "small"); k_whole; intro l' vs' c' h' tk' F' N' ap' hI' hD'; (try dsimp only); (try k_sweep); (try k_fold)))
  k_with "my call ref" => (k_here; (with_reducible show wpAny _ _ (call (Value.ref 143) _) _ _ _); k_dflt (refine' u_mul ?k1 ?k2 ?k3 ?k4 ?k5 ?k6 ?k7 ?k8 ?k9 ?k10 ?k11 ?k12 ?k13 ?k14 ?_; (case k1 => k_asm); (case k2 => k_asm); (case k3 => k_asm); (case k4 => k_asm); (case k5 => assumption); (case k6 => assumption); (case k7 => ((try simp only [depth_deeper, at_depth]); omega)); (case k8 => is_list); (case k9 => l_ints); (case k10 => assumption); (case k11 => is_list); (case k12 => l_ints); (case k13 => assumption); (case k14 => k_extra "small"); k_whole; intro l' vs' c' h' tk' F' N' ap' hI' hD'; (try dsimp only); (try k_sweep); (try k_fold)))
  k_with "my call ref" => (k_here; (with_reducible show wpAny _ _ (call (Value.ref 65) _) _ _ _); k_dflt (refine' u_add ?k1 ?k2 ?k3 ?k4 ?k5 ?k6 ?k7 ?k8 ?k9 ?k10 ?k11 ?k12 ?k13 ?k14 ?k15 ?k16 ?_; (case k1 => k_asm); (case k2 => k_asm); (case k3 => k_asm); (case k4 => k_asm); (case k5 => assumption); (case k6 => assumption); (case k7 => ((try simp only [depth_deeper, at_depth]); omega)); (case k8 => is_list); (case k9 => l_ints); (case k10 => assumption); (case k11 => is_list); (case k12 => l_ints); (case k13 => assumption); (case k14 => k_extra "small"); (case k15 => k_extra "len60"); (case k16 => k_extra "len60"); k_whole; intro l' vs' c' ds' h' tk' F' N' ap' hI' hD'; (try dsimp only); (try k_sweep); (try k_fold)))
  k_with "my call ref" => (k_here; (with_reducible show wpAny _ _ (call (Value.ref 150) _) _ _ _); k_dflt (refine' u_divrem ?k1 ?k2 ?k3 ?k4 ?k5 ?k6 ?k7 ?k8 ?k9 ?k10 ?k11 ?k12 ?k13 ?k14 ?_; (case k1 => k_asm); (case k2 => k_asm); (case k3 => k_asm); (case k4 => k_asm); (case k5 => assumption); (case k6 => assumption); (case k7 => ((try simp only [depth_deeper, at_depth]); omega)); (case k8 => is_list); (case k9 => l_ints); (case k10 => assumption); (case k11 => is_list); (case k12 => l_ints); (case k13 => assumption); (case k14 => k_extra "divpos"); k_whole; intro l' l1' l2' vs1' vs2' c1' c2' h' tk' F' N' ap' ap1' ap2' hI1' hI2' hD1' hD2'; (try dsimp only); (try k_sweep); (try k_fold)))
  k_with "my execs cons Assign cons" => ((with_reducible refine wpAny_execs_cons ?_); try dsimp only)
  k_with "my exec For Name Subscript cons nil" => (k_here; (rename Fr _ _ _ _ => lF'); (with_unfolding_all refine' For_invVF lF' ?k1 ?k2 ?_; (case k1 => exact rfl); (case k2 => exact rfl); k_whole))
  k_with "my CompEnd" => k_dflt (refine LCg.CompEnd.intro (by assumption) (by assumption) _ (fun _ h9 => h9) (by assumption) (by lcg_src) ?_)
  k_with "my CompRest" => (with_unfolding_all first | (refine LCg.CompRest.succ ?_; intro v' I' oI' C' oC' D' m' h' tk' E' hv' hC' hx' F' N' off' ne'; (first | lcg_open hv' | (obtain ⟨t9', hv9'⟩ := hv'; subst hv9')); clear ne') | refine LCg.CompRest.zero ?_)
  k_with "my FinE" => ((unfold LCg.FinE); intro D' h' tk' F' N' o1'; (try simp only [List.nil_append, List.cons_append] at N'); (try dsimp only))
  k_with "my k_ne" => (refine neN ?_; (try dsimp only); first | exact off1_ne (by assumption) (by k_mem) | exact Ne.symm (off1_ne (by assumption) (by k_mem)))
  k_with "my exec Assign cons ListComp" => (k_here; k_dflt (refine wpAny_Assign_Name ?_))
  k_with "my eval ListComp" => (k_here; (with_reducible show wpAny _ _ (eval (PySem.Expr.ListComp _ [PySem.Comprehension.mk (PySem.Expr.Tuple _ _ _) _ _ _] _ _) _) _ _ _); (k_dflt (refine ListComp_enum (_F₀ := by k_asm) (by with_unfolding_all rfl) (by decide) (by rfl) (by decide) (by rfl) (by rfl) (by decide) ?_)))
  k_with "my call type:enumerate" => (k_here; (with_reducible show wpAny _ _ (call (Value.type _) [Value.ref _]) _ _ _); k_dflt (refine' enum_src ?k1 ?k2 ?k3 ?k4 ?k5 ?_; (case k1 => rfl); (case k2 => k_asm); (case k3 => k_asm); (case k4 => assumption); (case k5 => exact Nat.le_of_ble_eq_true rfl); intro g'))
  k_with "my ERest" => k_dflt (first | (refine ERest.cons ?_; intro I' oI' J' oJ' C' oC' D' m' t' h' tk' E' hC' hx' hy' F' N' off'; (try simp only [List.nil_append, List.cons_append] at N')) | refine ERest.nil ?_)
  k_with "my EEnd" => k_dflt (refine EEnd.div (by assumption) (by assumption) (by assumption) (by assumption) ?_)
  k_with "my FinV" => k_dflt (refine FinV.intro ?_; intro D' h' tk' F' N' o1'; (try simp only [List.nil_append, List.cons_append] at N'); (try dsimp only))
  k_with "my ite" => k_extra "anyno"
  k_with "my exec For Name Subscript cons nil" => (k_here; (rename Fr _ _ _ _ => lF'); (with_unfolding_all refine' For_turns lF' ?_; k_whole))
  k_with "my call builtin:len" => (k_here; (with_reducible show wpAny _ _ (call (Value.builtin "len") [Value.ref _]) _ _ _); first | (refine' len_lit2 ?k1 ?_; (case k1 => is_list); k_whole) | (refine' len_lit1 ?k1 ?_; (case k1 => is_list); k_whole) | (refine' len_lit3 ?k1 ?_; (case k1 => is_list); k_whole) | (refine' len_lit0 ?k1 ?_; (case k1 => is_list); k_whole))
  k_with "my call ref" => (k_here; (with_reducible show wpAny _ _ (call (Value.ref 84) _) _ _ _); k_dflt (refine' u_rem2 ?k1 ?k2 ?k3 ?k4 ?k5 ?k6 ?k7 ?k8 ?k9 ?k10 ?k11 ?k12 ?k13 ?k14 ?k15 ?k16 ?k17 ?k18 ?k19 ?k20 ?k21 ?k22 ?k23 ?k24 ?k25 ?_; (case k1 => k_asm); (case k2 => k_asm); (case k3 => k_asm); (case k4 => k_asm); (case k5 => assumption); (case k6 => assumption); (case k7 => ((try simp only [depth_deeper, at_depth]); omega)); (case k8 => is_list); (case k9 => is_list); (case k10 => is_list); (case k11 => is_list); (case k12 => l_ints); (case k13 => assumption); (case k14 => is_list); (case k15 => l_ints); (case k16 => assumption); (case k17 => is_list); (case k18 => l_ints); (case k19 => assumption); (case k20 => is_list); (case k21 => l_ints); (case k22 => assumption); (case k23 => k_extra "divpos"); (case k24 => k_extra "divpos"); (case k25 => k_extra "divpos"); k_whole; intro l' r0' r1' xs' ys' c0' c1' cl' h' tk' F' N' ap' ap' ap' hI8' hE8' hI9' hE9'; (try dsimp only); (try k_sweep); (try k_fold)))
  k_with "divpos" => assumption
  k_with "anyno" => (refine ite_neg ?anyno ?_; (case anyno => ((try simp only [beq_iff_eq, Bool.or_eq_true, Bool.or_false, not_or]); omega)))
  k_steps
  all_goals (try k_data)
  all_goals (try dsimp only)
  all_goals (first | (exfalso; omega) | exact hret _ _ _ _ _ _ _ _ _ _ _ _ _ (Fr.keep (by assumption)) (newIn_sub (newIn_of (by assumption)) (by k_allIn)) (by assumption) (by assumption) (by assumption) (by assumption) (by assumption) (by assumption))

theorem u_rem3 {ra ll l0 l1 l2 a b c p r : Addr} {vs us ws ps rs xr : List Value} {ds es gs fs dr dx : List Int} {n o q P R nn k : Int} {tk : Tok} {h₀ : Heap} {L : Addr} {mm : Str → Option Value} {news : List (Addr × Obj)} (F : Fr h₀ L s.heap mm) (X₀ : (hd.heap_1 w.params).In h₀) (N : News h₀ L s.heap news) (T : Top view loose mean mg mb h₀)
    (hk1 : 1 ≤ k) (hk9 : k ≤ 9) (hdp : dp + 8 < recursionLimit)
    (hL : s.heap.IsList ll [Value.ref l0, Value.ref l1, Value.ref l2].toArray) (h0 : s.heap.IsList l0 [Value.ref a, Value.ref b, Value.ref c].toArray) (h1 : s.heap.IsList l1 [Value.ref p, Value.ref c].toArray) (h2 : s.heap.IsList l2 [Value.ref r].toArray) (hl1 : s.heap.IsList a vs.toArray) (hi1 : IntsAre vs ds) (hD1 : Limbs k ds n) (hl2 : s.heap.IsList b us.toArray) (hi2 : IntsAre us es) (hD2 : Limbs k es o) (hl5 : s.heap.IsList c ws.toArray) (hi5 : IntsAre ws gs) (hD5 : Limbs k gs q) (hl3 : s.heap.IsList p ps.toArray) (hi3 : IntsAre ps fs) (hD3 : Limbs k fs P) (hl6 : s.heap.IsList r xr.toArray) (hi6 : IntsAre xr dx) (hD6 : Limbs k dx R) (hl4 : s.heap.IsList ra rs.toArray) (hi4 : IntsAre rs dr) (hD4 : Limbs k dr nn) (hp1 : 0 < n) (hp2 : 0 < o) (hp5 : 0 < q) (hp3 : 0 < P) (hp6 : 0 < R)
    (hret : ∀ (l : Addr) (r0 : Addr) (r1 : Addr) (r2 : Addr) (xs : List Value) (ys : List Value) (zs : List Value) (c0 : Nat) (c1 : Nat) (c2 : Nat) (cl : Nat) (h' : Heap) (tk' : Nat), Fr h₀ L h' mm → News h₀ L h' ((l, W.listOf [Value.ref r0, Value.ref r1, Value.ref r2].toArray cl) :: (r0, W.listOf xs.toArray c0) :: (r1, W.listOf ys.toArray c1) :: (r2, W.listOf zs.toArray c2) :: news) → Apart l news → Apart r0 news → Apart r1 news → Apart r2 news → IntsAre xs (dig k (nn % R % P % n)) → Limbs k (dig k (nn % R % P % n)) (nn % R % P % n) → IntsAre ys (dig k (nn % R % P % o)) → Limbs k (dig k (nn % R % P % o)) (nn % R % P % o) → IntsAre zs (dig k (nn % R % q % q)) → Limbs k (dig k (nn % R % q % q)) (nn % R % q % q) → Q (.ref l) { s with heap := h', toks := tk' }) :
    wpAny (model PySem.Challenge.rw_pq0533_01.row.prog w) (AT dp un fr gd) (call (.ref 84) [.ref ra, .ref ll, .int k tk, .ref 150]) Q E s :=
  c_rem3 (X₀.keeps F.keep) (T.keeps F.keep) hk1 hk9 hdp hL h0 h1 h2 hl1 hi1 hD1 hl2 hi2 hD2 hl5 hi5 hD5 hl3 hi3 hD3 hl6 hi6 hD6 hl4 hi4 hD4 hp1 hp2 hp5 hp3 hp6 fun l r0 r1 r2 xs ys zs c0 c1 c2 cl h' tk' st nw hI8 hE8 hI9 hE9 hI10 hE10 => hret l r0 r1 r2 xs ys zs c0 c1 c2 cl h' tk' (fr_stays F st) (news_new F N st nw) (apart_new N nw (.head _)) (apart_new N nw (.tail _ (.head _))) (apart_new N nw (.tail _ (.tail _ (.head _)))) (apart_new N nw (.tail _ (.tail _ (.tail _ (.head _))))) hI8 hE8 hI9 hE9 hI10 hE10

end
end Mine
end

section
open PySem PySem.W PyProof.Rows PySem.Calls PySem.Spec
namespace Mine
set_option maxRecDepth 100000
set_option maxHeartbeats 16000000
theorem fill12a : hd.heap_1 = hd.heap_1 ∧ PySem.Challenge.rw_pq0533_01 = PySem.Challenge.rw_pq0533_01 := by k_fill; exact ⟨rfl, rfl⟩
section
variable {w : World} {loose : List Str} {mean : ExcName → Option Value} {mg mb : Str → Option Value} {dp un : Nat} {gd : Option (List Code)} {base g : Heap} {outer : List Env} {s : Shared} {Q E : Value → Shared → Prop}
theorem c_chinese2 {ps t0 a0 m0 t1 a1 m1 : Addr} {cP : Nat} {va0 vm0 va1 vm1 : List Value} {da0 da1 : List Int} {r0 n r1 o k : Int} {tk : Tok} (H : Hid g s.heap [(ps, W.listOf [Value.ref t0, Value.ref t1].toArray cP), (t0, { cls := .type "tuple", data := .seq [Value.ref a0, Value.ref m0].toArray }), (t1, { cls := .type "tuple", data := .seq [Value.ref a1, Value.ref m1].toArray })])
    (X : (hd.heap_1 w.params).In g) (T : Top view loose mean mg mb g)
    (hk1 : 1 ≤ k) (hk9 : k ≤ 9) (hdp : dp + 10 < recursionLimit)
    (hl1 : g.IsList a0 va0.toArray) (hi1 : IntsAre va0 da0) (hD1 : Limbs k da0 r0) (hl2 : g.IsList m0 vm0.toArray) (hi2 : IntsAre vm0 (dig k n)) (hD2 : Limbs k (dig k n) n)
    (hl3 : g.IsList a1 va1.toArray) (hi3 : IntsAre va1 da1) (hD3 : Limbs k da1 r1) (hl4 : g.IsList m1 vm1.toArray) (hi4 : IntsAre vm1 (dig k o)) (hD4 : Limbs k (dig k o) o)
    (hn : 0 < n) (ho : 0 < o) (hnB : Bd n) (hoB : Bd o)
    (hb : base.StaysIn g) (hfl : g.FunFrames base outer)
    (hraise : Int.gcd n o ≠ 1 → ∀ e h' tk', Fly base g outer e (.ref 49) h' → E (.ref e) { s with heap := h', toks := tk' })
    (hret : ∀ (l x y : Addr) (xs ys : List Value) (cx cy : Nat) (v : Int) (h' : Heap) (tk' : Nat), s.heap.StaysIn h' → NewIn s.heap h' [(l, { cls := .type "tuple", data := .seq [Value.ref x, Value.ref y].toArray }), (x, W.listOf xs.toArray cx), (y, W.listOf ys.toArray cy)] → IntsAre xs (dig k v) → IntsAre ys (dig k (n * o)) → Crt2 n o r0 r1 v → Q (.ref l) { s with heap := h', toks := tk' }) :
    wpAny (model PySem.Challenge.rw_pq0533_01.row.prog w) (AT dp un (some outer) gd) (call (.ref 103) [.ref ps, .int k tk, .ref 143, .ref 150, .ref 164]) Q E s := by
  refine' ent_plainG H X T ?k6 ?k7 ?k8 ?k9 ?kB ?_ ?c2 ?c3 ?c4 ?c5
  case k6 => k_is
  case k7 => k_is
  case k8 => show dp < recursionLimit; omega
  case k9 => exact BindsTo.of_eq rfl
  case kB => exact locs rfl
  case c2 => exact rfl
  case c3 => exact rfl
  case c4 => exact rfl
  case c5 => decide
  intro L' h₁ F' N'
  dsimp only
  k_fold
  have i0 : IntsAre [] [] := .nil
  have hno : 0 < n * o := Int.mul_pos hn ho
  have hZero : Limbs k [] 0 := limbs_zero
  have hOne : Limbs k [1] 1 := limbs_one
  have b1 := hD1.len
  have b2 := hD2.len
  have b3 := hD3.len
  have b4 := hD4.len
  k_with_none
  k_with "my lt" => skip
  k_with "my k_ne" => (refine neN ?_; (try dsimp only); first | exact Apart.ne (by assumption) (by k_mem) | exact Ne.symm (Apart.ne (by assumption) (by k_mem)))
  k_with "my call ref" => (k_here; (with_reducible show wpAny _ _ (call (Value.ref 143) _) _ _ _); k_dflt (refine' u_mul ?k1 ?k2 ?k3 ?k4 ?k5 ?k6 ?k7 ?k8 ?k9 ?k10 ?k11 ?k12 ?k13 ?k14 ?_; (case k1 => k_asm); (case k2 => k_asm); (case k3 => k_asm); (case k4 => k_asm); (case k5 => assumption); (case k6 => assumption); (case k7 => ((try simp only [depth_deeper, at_depth]); omega)); (case k8 => is_list); (case k9 => l_ints); (case k10 => assumption); (case k11 => is_list); (case k12 => l_ints); (case k13 => assumption); (case k14 => k_extra "small"); k_whole; intro l' vs' c' h' tk' F' N' ap' hI' hD'; (try dsimp only); (try k_sweep); (try k_fold)))
  k_with "my call ref" => (k_here; (with_reducible show wpAny _ _ (call (Value.ref 150) _) _ _ _); k_dflt (refine' u_divrem ?k1 ?k2 ?k3 ?k4 ?k5 ?k6 ?k7 ?k8 ?k9 ?k10 ?k11 ?k12 ?k13 ?k14 ?_; (case k1 => k_asm); (case k2 => k_asm); (case k3 => k_asm); (case k4 => k_asm); (case k5 => assumption); (case k6 => assumption); (case k7 => ((try simp only [depth_deeper, at_depth]); omega)); (case k8 => is_list); (case k9 => l_ints); (case k10 => assumption); (case k11 => is_list); (case k12 => l_ints); (case k13 => assumption); (case k14 => k_extra "divpos"); k_whole; intro l' l1' l2' vs1' vs2' c1' c2' h' tk' F' N' ap' ap1' ap2' hI1' hI2' hD1' hD2'; (try dsimp only); (try k_sweep); (try k_fold)))
  k_with "my execs cons Assign cons" => ((with_reducible refine wpAny_execs_cons ?_); try dsimp only)
  k_with "my exec For Name Subscript cons nil" => (k_here; (rename Fr _ _ _ _ => lF'); (with_unfolding_all refine' For_invVF lF' ?k1 ?k2 ?_; (case k1 => exact rfl); (case k2 => exact rfl); k_whole))
  k_with "my call builtin:len" => (k_here; (with_reducible show wpAny _ _ (call (Value.builtin "len") [Value.ref _]) _ _ _); first | (refine' len_lit2 ?k1 ?_; (case k1 => is_list); k_whole) | (refine' len_lit1 ?k1 ?_; (case k1 => is_list); k_whole) | (refine' len_lit3 ?k1 ?_; (case k1 => is_list); k_whole) | (refine' len_lit0 ?k1 ?_; (case k1 => is_list); k_whole))
  k_with "my call ref" => (k_here; (with_reducible show wpAny _ _ (call (Value.ref 79) _) _ _ _); k_dflt (refine' u_tree2 ?k1 ?k2 ?k3 ?k4 ?k5 ?k6 ?k7 ?k8 ?k9 ?k10 ?k11 ?k12 ?k13 ?k14 ?k15 ?_; (case k1 => k_asm); (case k2 => k_asm); (case k3 => k_asm); (case k4 => k_asm); (case k5 => assumption); (case k6 => assumption); (case k7 => ((try simp only [depth_deeper, at_depth]); omega)); (case k8 => is_list); (case k9 => is_list); (case k10 => l_ints); (case k11 => assumption); (case k12 => is_list); (case k13 => l_ints); (case k14 => assumption); (case k15 => k_extra "small"); k_whole; intro lT lT0 lT1 pT xsT clT c0T c1T cpT h' tk' F' N' ap' ap' ap' ap' hI' hD'; (try dsimp only); (try k_sweep); (try k_fold)))
  k_with "my call ref" => (k_here; (with_reducible show wpAny _ _ (call (Value.ref 98) _) _ _ _); k_dflt (refine' u_cr2 ?k1 ?k2 ?k3 ?k4 ?k5 ?k6 ?k7 ?k8 ?k9 ?k10 ?k11 ?k12 ?k13 ?k14 ?k15 ?k16 ?k17 ?k18 ?k19 ?k20 ?k21 ?k22 ?k23 ?k24 ?k25 ?_; (case k1 => k_asm); (case k2 => k_asm); (case k3 => k_asm); (case k4 => k_asm); (case k5 => assumption); (case k6 => assumption); (case k7 => ((try simp only [depth_deeper, at_depth]); omega)); (case k8 => is_list); (case k9 => is_list); (case k10 => is_list); (case k11 => l_ints); (case k12 => assumption); (case k13 => is_list); (case k14 => l_ints); (case k15 => assumption); (case k16 => is_list); (case k17 => is_list); (case k18 => l_ints); (case k19 => assumption); (case k20 => is_list); (case k21 => l_ints); (case k22 => assumption); (case k23 => k_extra "small"); (case k24 => k_extra "small"); (case k25 => k_extra "small"); k_whole; intro r' rs' cr' dr' h' tk' F' N' ap' hI' hD'; (try dsimp only); (try k_sweep); (try k_fold)))
  k_with "my call ref" => (k_here; (with_reducible show wpAny _ _ (call (Value.ref 84) _) _ _ _); k_dflt (refine' u_rem2 ?k1 ?k2 ?k3 ?k4 ?k5 ?k6 ?k7 ?k8 ?k9 ?k10 ?k11 ?k12 ?k13 ?k14 ?k15 ?k16 ?k17 ?k18 ?k19 ?k20 ?k21 ?k22 ?k23 ?k24 ?k25 ?_; (case k1 => k_asm); (case k2 => k_asm); (case k3 => k_asm); (case k4 => k_asm); (case k5 => assumption); (case k6 => assumption); (case k7 => ((try simp only [depth_deeper, at_depth]); omega)); (case k8 => is_list); (case k9 => is_list); (case k10 => is_list); (case k11 => is_list); (case k12 => l_ints); (case k13 => assumption); (case k14 => is_list); (case k15 => l_ints); (case k16 => assumption); (case k17 => is_list); (case k18 => l_ints); (case k19 => assumption); (case k20 => is_list); (case k21 => l_ints); (case k22 => assumption); (case k23 => k_extra "divpos"); (case k24 => k_extra "divpos"); (case k25 => k_extra "divpos"); k_whole; intro lR rR0 rR1 xsR ysR c0R c1R clR h' tk' F' N' ap' ap' ap' hI8' hE8' hI9' hE9'; (try dsimp only); (try k_sweep); (try k_fold)))
  k_with "divpos" => assumption
  k_with "bd" => first | assumption | exact Bd.mod (by assumption) (by assumption) | exact Bd.zero | exact Bd.one
  k_with "small" => first | exact Bd.small_sum3 (by k_extra "bd") (by k_extra "bd") (by k_extra "bd") (by k_extra "bd") (by k_extra "bd") (by k_extra "bd") (by k_extra "bd") | exact Bd.small_sum_mul (by k_extra "bd") (by k_extra "bd") (by k_extra "bd") (by k_extra "bd") (by k_extra "bd") | exact Bd.small_sum (by k_extra "bd") (by k_extra "bd") (by k_extra "bd") (by k_extra "bd") | exact Bd.small_mul (by k_extra "bd") (by k_extra "bd")
  k_with "my call type:zip" => (k_here; k_dflt ((rename Fr _ _ _ _ => lF'); (rename News _ _ _ _ => lN'); (have cm := chmap_of lF' (by with_unfolding_all rfl) (by with_unfolding_all rfl) (by with_unfolding_all rfl) (by with_unfolding_all rfl) (by with_unfolding_all rfl) (by with_unfolding_all rfl)); (have nG := news_sub (new := [(_, W.listOf [].toArray 0), (lR, _), (rR0, _), (rR1, _), (lT, _), (lT0, _), (lT1, _), (pT, _), (ps, _), (t0, _), (t1, _)]) lN' (by k_allIn)); (with_unfolding_all refine ktu_zip (by rfl) lF' nG (by k_mem) (by rfl) (by rfl) (by k_mem) (by rfl) (by rfl) ?_); clear lF' lN' nG; intro i' l1; k_extra "loop"))
  k_with "loop" => (
    refine turn_items (base := base) (outer := outer) (sl := []) X T hk1 hk9 ?d1 (apart_sub (by assumption) (by k_allIn)) (offWs_of l1) ?kp cm.sums cm.w cm.mul cm.divrem cm.inv (by k_mem) (by k_mem) hl1 hi1 hD1 hl2 hi2 hD2 ?z1 ?z2 hn hnB (Nat.le_of_ble_eq_true rfl) hb hfl (fun hg' e' h₂ m₂ h' tk' F₂ R' => leave_fly R' F₂ rfl rfl fun h2' R2' => hraise (fun hg2 => hg' ((gcd_of_dvd other_left).trans ((Int.gcd_comm _ _).trans hg2))) _ _ _ R2') ?_
    case d1 => omega
    case kp => k_allIn
    case z1 => l_ints
    case z2 => assumption
    clear l1
    intro x0 vs0 c0' cS0 v0 m0' sm0 aS0 oW0 ax0 hx0 hd0 sc0
    have cm0 := cm.same sm0
    clear cm sm0
    refine turn_items (base := base) (outer := outer) X T hk1 hk9 ?d1 aS0 oW0 ?kp cm0.sums cm0.w cm0.mul cm0.divrem cm0.inv (by k_mem) (by k_mem) hl3 hi3 hD3 hl4 hi4 hD4 ?z1 ?z2 ho hoB (Nat.le_of_ble_eq_true rfl) hb hfl (fun hg' e' h₂ m₂ h' tk' F₂ R' => leave_fly R' F₂ rfl rfl fun h2' R2' => hraise (fun hg2 => hg' ((gcd_of_dvd other_right).trans hg2)) _ _ _ R2') ?_
    case d1 => omega
    case kp => k_allIn
    case z1 => l_ints
    case z2 => assumption
    intro x1 vs1 c1' cS1 v1 m1' sm1 aS1 oW1 ax1 hx1 hd1 sc1
    have cm1 := cm0.same sm1
    clear cm0 sm1
    have bv0 := Bd.lt sc0.lo sc0.hi hnB
    have bv1 := Bd.lt sc1.lo sc1.hi hoB
    refine ItemsRest.zero (fun h' tk' F0' N0' => ?_)
    have F' := cm1.fr F0'
    simp only [List.nil_append, List.cons_append] at N0'
    have N' := news_sub (new := [(_, W.listOf [Value.ref x0, Value.ref x1].toArray _), (x1, _), (x0, _), (lT, _), (lT0, _), (lT1, _), (pT, _), (ps, _), (t0, _), (t1, _)]) N0' (by k_allIn)
    clear F0' N0' cm1 aS0 oW0 aS1 oW1
    (try dsimp only))
  k_steps
  all_goals (try k_data)
  all_goals (try dsimp only)
  all_goals (
    (show Q (.ref _) _)
    (refine' hret _ _ _ _ _ _ _ _ _ _ ?ts ?tn ?td ?te ?tf)
    (case ts => exact H.stays' (by k_asm) (by k_asm) (by k_allIn))
    (case tn => (refine' H.newIn (by k_asm) (by k_allIn) ?_; (simp only [List.mem_cons, List.not_mem_nil, or_false, forall_eq_or_imp, forall_eq]; refine ⟨⟨?_, ?_, ?_⟩, ⟨?_, ?_, ?_⟩, ?_, ?_, ?_⟩ <;> exact Apart.ne (by assumption) (by k_mem))))
    (case td => assumption)
    (case te => assumption)
    (case tf => exact crt2_intro hn ho ((Int.gcd_comm _ _).trans (sc0.gcd other_left)) (sc0.at other_left) (sc1.at other_right)))

end
end Mine
end

section
open PySem PySem.W PyProof.Rows PySem.Calls PySem.Spec
namespace Mine
set_option maxRecDepth 100000
set_option maxHeartbeats 16000000
theorem fill12b : hd.heap_1 = hd.heap_1 ∧ PySem.Challenge.rw_pq0533_01 = PySem.Challenge.rw_pq0533_01 := by k_fill; exact ⟨rfl, rfl⟩
section
variable {w : World} {loose : List Str} {mean : ExcName → Option Value} {mg mb : Str → Option Value} {dp un : Nat} {gd : Option (List Code)} {base g : Heap} {outer : List Env} {s : Shared} {Q E : Value → Shared → Prop}
theorem c_chinese3 {ps t0 a0 m0 t1 a1 m1 t2 a2 m2 : Addr} {cP : Nat} {va0 vm0 va1 vm1 va2 vm2 : List Value} {da0 da1 da2 : List Int} {r0 n r1 o r2 q k : Int} {tk : Tok} (H : Hid g s.heap [(ps, W.listOf [Value.ref t0, Value.ref t1, Value.ref t2].toArray cP), (t0, { cls := .type "tuple", data := .seq [Value.ref a0, Value.ref m0].toArray }), (t1, { cls := .type "tuple", data := .seq [Value.ref a1, Value.ref m1].toArray }), (t2, { cls := .type "tuple", data := .seq [Value.ref a2, Value.ref m2].toArray })])
    (X : (hd.heap_1 w.params).In g) (T : Top view loose mean mg mb g)
    (hk1 : 1 ≤ k) (hk9 : k ≤ 9) (hdp : dp + 10 < recursionLimit)
    (hl1 : g.IsList a0 va0.toArray) (hi1 : IntsAre va0 da0) (hD1 : Limbs k da0 r0) (hl2 : g.IsList m0 vm0.toArray) (hi2 : IntsAre vm0 (dig k n)) (hD2 : Limbs k (dig k n) n)
    (hl3 : g.IsList a1 va1.toArray) (hi3 : IntsAre va1 da1) (hD3 : Limbs k da1 r1) (hl4 : g.IsList m1 vm1.toArray) (hi4 : IntsAre vm1 (dig k o)) (hD4 : Limbs k (dig k o) o)
    (hl5 : g.IsList a2 va2.toArray) (hi5 : IntsAre va2 da2) (hD5 : Limbs k da2 r2) (hl6 : g.IsList m2 vm2.toArray) (hi6 : IntsAre vm2 (dig k q)) (hD6 : Limbs k (dig k q) q)
    (hn : 0 < n) (ho : 0 < o) (hq : 0 < q) (hnB : Bd n) (hoB : Bd o) (hqB : Bd q) (hnoB : Bd (n * o)) (hn1 : n ≠ 1) (hq1 : q ≠ 1) (hc1 : Int.gcd n o = 1) (hc2 : Int.gcd n q = 1) (hc3 : Int.gcd o q = 1)
    (hb : base.StaysIn g) (hfl : g.FunFrames base outer)
    
    (hret : ∀ (l x y : Addr) (xs ys : List Value) (cx cy : Nat) (v : Int) (h' : Heap) (tk' : Nat), s.heap.StaysIn h' → NewIn s.heap h' [(l, { cls := .type "tuple", data := .seq [Value.ref x, Value.ref y].toArray }), (x, W.listOf xs.toArray cx), (y, W.listOf ys.toArray cy)] → IntsAre xs (dig k v) → IntsAre ys (dig k (n * o * q)) → Crt3 n o q r0 r1 r2 v → Q (.ref l) { s with heap := h', toks := tk' }) :
    wpAny (model PySem.Challenge.rw_pq0533_01.row.prog w) (AT dp un (some outer) gd) (call (.ref 103) [.ref ps, .int k tk, .ref 143, .ref 150, .ref 164]) Q E s := by
  refine' ent_plainG H X T ?k6 ?k7 ?k8 ?k9 ?kB ?_ ?c2 ?c3 ?c4 ?c5
  case k6 => k_is
  case k7 => k_is
  case k8 => show dp < recursionLimit; omega
  case k9 => exact BindsTo.of_eq rfl
  case kB => exact locs rfl
  case c2 => exact rfl
  case c3 => exact rfl
  case c4 => exact rfl
  case c5 => decide
  intro L' h₁ F' N'
  dsimp only
  k_fold
  have i0 : IntsAre [] [] := .nil
  have hno : 0 < n * o := Int.mul_pos hn ho
  have hnoq : 0 < n * o * q := Int.mul_pos hno hq
  have hZero : Limbs k [] 0 := limbs_zero
  have hOne : Limbs k [1] 1 := limbs_one
  have b1 := hD1.len
  have b2 := hD2.len
  have b3 := hD3.len
  have b4 := hD4.len
  have b5 := hD5.len
  have b6 := hD6.len
  k_with_none
  k_with "my lt" => skip
  k_with "my k_ne" => (refine neN ?_; (try dsimp only); first | exact Apart.ne (by assumption) (by k_mem) | exact Ne.symm (Apart.ne (by assumption) (by k_mem)))
  k_with "my call ref" => (k_here; (with_reducible show wpAny _ _ (call (Value.ref 143) _) _ _ _); k_dflt (refine' u_mul ?k1 ?k2 ?k3 ?k4 ?k5 ?k6 ?k7 ?k8 ?k9 ?k10 ?k11 ?k12 ?k13 ?k14 ?_; (case k1 => k_asm); (case k2 => k_asm); (case k3 => k_asm); (case k4 => k_asm); (case k5 => assumption); (case k6 => assumption); (case k7 => ((try simp only [depth_deeper, at_depth]); omega)); (case k8 => is_list); (case k9 => l_ints); (case k10 => assumption); (case k11 => is_list); (case k12 => l_ints); (case k13 => assumption); (case k14 => k_extra "small"); k_whole; intro l' vs' c' h' tk' F' N' ap' hI' hD'; (try dsimp only); (try k_sweep); (try k_fold)))
  k_with "my call ref" => (k_here; (with_reducible show wpAny _ _ (call (Value.ref 150) _) _ _ _); k_dflt (refine' u_divrem ?k1 ?k2 ?k3 ?k4 ?k5 ?k6 ?k7 ?k8 ?k9 ?k10 ?k11 ?k12 ?k13 ?k14 ?_; (case k1 => k_asm); (case k2 => k_asm); (case k3 => k_asm); (case k4 => k_asm); (case k5 => assumption); (case k6 => assumption); (case k7 => ((try simp only [depth_deeper, at_depth]); omega)); (case k8 => is_list); (case k9 => l_ints); (case k10 => assumption); (case k11 => is_list); (case k12 => l_ints); (case k13 => assumption); (case k14 => k_extra "divpos"); k_whole; intro l' l1' l2' vs1' vs2' c1' c2' h' tk' F' N' ap' ap1' ap2' hI1' hI2' hD1' hD2'; (try dsimp only); (try k_sweep); (try k_fold)))
  k_with "my execs cons Assign cons" => ((with_reducible refine wpAny_execs_cons ?_); try dsimp only)
  k_with "my exec For Name Subscript cons nil" => (k_here; (rename Fr _ _ _ _ => lF'); (with_unfolding_all refine' For_invVF lF' ?k1 ?k2 ?_; (case k1 => exact rfl); (case k2 => exact rfl); k_whole))
  k_with "my call builtin:len" => (k_here; (with_reducible show wpAny _ _ (call (Value.builtin "len") [Value.ref _]) _ _ _); first | (refine' len_lit2 ?k1 ?_; (case k1 => is_list); k_whole) | (refine' len_lit1 ?k1 ?_; (case k1 => is_list); k_whole) | (refine' len_lit3 ?k1 ?_; (case k1 => is_list); k_whole) | (refine' len_lit0 ?k1 ?_; (case k1 => is_list); k_whole))
  k_with "my call ref" => (k_here; (with_reducible show wpAny _ _ (call (Value.ref 79) _) _ _ _); k_dflt (refine' u_tree3 ?k1 ?k2 ?k3 ?k4 ?k5 ?k6 ?k7 ?k8 ?k9 ?k10 ?k11 ?k12 ?k13 ?k14 ?k15 ?k16 ?k17 ?k18 ?k19 ?_; (case k1 => k_asm); (case k2 => k_asm); (case k3 => k_asm); (case k4 => k_asm); (case k5 => assumption); (case k6 => assumption); (case k7 => ((try simp only [depth_deeper, at_depth]); omega)); (case k8 => is_list); (case k9 => is_list); (case k10 => l_ints); (case k11 => assumption); (case k12 => is_list); (case k13 => l_ints); (case k14 => assumption); (case k15 => is_list); (case k16 => l_ints); (case k17 => assumption); (case k18 => k_extra "small"); (case k19 => k_extra "small"); k_whole; intro lT lT0 lT1 lT2 pT rT xsT ysT clT c0T c1T c2T cpT crT h' tk' F' N' ap' ap' ap' ap' ap' ap' hI' hD' hI2' hD2''; (try dsimp only); (try k_sweep); (try k_fold)))
  k_with "my call ref" => (k_here; (with_reducible show wpAny _ _ (call (Value.ref 98) _) _ _ _); k_dflt (refine' u_cr3 ?k1 ?k2 ?k3 ?k4 ?k5 ?k6 ?k7 ?k8 ?k9 ?k10 ?k11 ?k12 ?k13 ?k14 ?k15 ?k16 ?k17 ?k18 ?k19 ?k20 ?k21 ?k22 ?k23 ?k24 ?k25 ?k26 ?k27 ?k28 ?k29 ?k30 ?k31 ?k32 ?k33 ?k34 ?k35 ?k36 ?k37 ?k38 ?_; (case k1 => k_asm); (case k2 => k_asm); (case k3 => k_asm); (case k4 => k_asm); (case k5 => assumption); (case k6 => assumption); (case k7 => ((try simp only [depth_deeper, at_depth]); omega)); (case k8 => is_list); (case k9 => is_list); (case k10 => is_list); (case k11 => l_ints); (case k12 => assumption); (case k13 => is_list); (case k14 => l_ints); (case k15 => assumption); (case k16 => is_list); (case k17 => l_ints); (case k18 => assumption); (case k19 => is_list); (case k20 => is_list); (case k21 => l_ints); (case k22 => assumption); (case k23 => is_list); (case k24 => is_list); (case k25 => l_ints); (case k26 => assumption); (case k27 => is_list); (case k28 => l_ints); (case k29 => assumption); (case k30 => is_list); (case k31 => l_ints); (case k32 => assumption); (case k33 => k_extra "small"); (case k34 => k_extra "small"); (case k35 => k_extra "small"); (case k36 => k_extra "small"); (case k37 => k_extra "small"); (case k38 => k_extra "small"); k_whole; intro r' rs' cr' dr' h' tk' F' N' ap' hI' hD'; (try dsimp only); (try k_sweep); (try k_fold)))
  k_with "my call ref" => (k_here; (with_reducible show wpAny _ _ (call (Value.ref 84) _) _ _ _); k_dflt (refine' u_rem3 ?k1 ?k2 ?k3 ?k4 ?k5 ?k6 ?k7 ?k8 ?k9 ?k10 ?k11 ?k12 ?k13 ?k14 ?k15 ?k16 ?k17 ?k18 ?k19 ?k20 ?k21 ?k22 ?k23 ?k24 ?k25 ?k26 ?k27 ?k28 ?k29 ?k30 ?k31 ?k32 ?k33 ?k34 ?_; (case k1 => k_asm); (case k2 => k_asm); (case k3 => k_asm); (case k4 => k_asm); (case k5 => assumption); (case k6 => assumption); (case k7 => ((try simp only [depth_deeper, at_depth]); omega)); (case k8 => is_list); (case k9 => is_list); (case k10 => is_list); (case k11 => is_list); (case k12 => is_list); (case k13 => l_ints); (case k14 => assumption); (case k15 => is_list); (case k16 => l_ints); (case k17 => assumption); (case k18 => is_list); (case k19 => l_ints); (case k20 => assumption); (case k21 => is_list); (case k22 => l_ints); (case k23 => assumption); (case k24 => is_list); (case k25 => l_ints); (case k26 => assumption); (case k27 => is_list); (case k28 => l_ints); (case k29 => assumption); (case k30 => k_extra "divpos"); (case k31 => k_extra "divpos"); (case k32 => k_extra "divpos"); (case k33 => k_extra "divpos"); (case k34 => k_extra "divpos"); k_whole; intro lR rR0 rR1 rR2 xsR ysR zsR c0R c1R c2R clR h' tk' F' N' ap' ap' ap' ap' hI8' hE8' hI9' hE9' hI10' hE10'; (try dsimp only); (try k_sweep); (try k_fold)))
  k_with "divpos" => assumption
  k_with "bd" => first | assumption | exact Bd.mod (by assumption) (by assumption) | exact Bd.zero | exact Bd.one
  k_with "small" => first | exact Bd.small_sum3 (by k_extra "bd") (by k_extra "bd") (by k_extra "bd") (by k_extra "bd") (by k_extra "bd") (by k_extra "bd") (by k_extra "bd") | exact Bd.small_sum_mul (by k_extra "bd") (by k_extra "bd") (by k_extra "bd") (by k_extra "bd") (by k_extra "bd") | exact Bd.small_sum (by k_extra "bd") (by k_extra "bd") (by k_extra "bd") (by k_extra "bd") | exact Bd.small_mul (by k_extra "bd") (by k_extra "bd")
  k_with "my call type:zip" => (k_here; k_dflt ((rename Fr _ _ _ _ => lF'); (rename News _ _ _ _ => lN'); (have cm := chmap_of lF' (by with_unfolding_all rfl) (by with_unfolding_all rfl) (by with_unfolding_all rfl) (by with_unfolding_all rfl) (by with_unfolding_all rfl) (by with_unfolding_all rfl)); (have nG := news_sub (new := [(_, W.listOf [].toArray 0), (lR, _), (rR0, _), (rR1, _), (rR2, _), (lT, _), (lT0, _), (lT1, _), (lT2, _), (pT, _), (rT, _), (ps, _), (t0, _), (t1, _), (t2, _)]) lN' (by k_allIn)); (with_unfolding_all refine ktu_zip (by rfl) lF' nG (by k_mem) (by rfl) (by rfl) (by k_mem) (by rfl) (by rfl) ?_); clear lF' lN' nG; intro i' l1; k_extra "loop"))
  k_with "loop" => (
    refine turn_items (base := base) (outer := outer) (sl := []) X T hk1 hk9 ?d1 (apart_sub (by assumption) (by k_allIn)) (offWs_of l1) ?kp cm.sums cm.w cm.mul cm.divrem cm.inv (by k_mem) (by k_mem) hl1 hi1 hD1 hl2 hi2 hD2 ?z1 ?z2 hn hnB (Nat.le_of_ble_eq_true rfl) hb hfl (fun hg' => absurd ((gcd_of_dvd other3_0).trans (gcd_mul_one hc1 hc2)) hg') ?_
    case d1 => omega
    case kp => k_allIn
    case z1 => l_ints
    case z2 => assumption
    clear l1
    intro x0 vs0 c0' cS0 v0 m0' sm0 aS0 oW0 ax0 hx0 hd0 sc0
    have cm0 := cm.same sm0
    clear cm sm0
    refine turn_items (base := base) (outer := outer) X T hk1 hk9 ?d1 aS0 oW0 ?kp cm0.sums cm0.w cm0.mul cm0.divrem cm0.inv (by k_mem) (by k_mem) hl3 hi3 hD3 hl4 hi4 hD4 ?z1 ?z2 ho hoB (Nat.le_of_ble_eq_true rfl) hb hfl (fun hg' => absurd ((gcd_of_dvd other3_1).trans (gcd_mul_one ((Int.gcd_comm _ _).trans hc1) hc3)) hg') ?_
    case d1 => omega
    case kp => k_allIn
    case z1 => l_ints
    case z2 => assumption
    intro x1 vs1 c1' cS1 v1 m1' sm1 aS1 oW1 ax1 hx1 hd1 sc1
    have cm1 := cm0.same sm1
    clear cm0 sm1
    refine turn_items (base := base) (outer := outer) X T hk1 hk9 ?d1 aS1 oW1 ?kp cm1.sums cm1.w cm1.mul cm1.divrem cm1.inv (by k_mem) (by k_mem) hl5 hi5 hD5 hl6 hi6 hD6 ?z1 ?z2 hq hqB (Nat.le_of_ble_eq_true rfl) hb hfl (fun hg' => absurd ((gcd_of_dvd other3_2).trans (gcd_mul_one ((Int.gcd_comm _ _).trans hc2) ((Int.gcd_comm _ _).trans hc3))) hg') ?_
    case d1 => omega
    case kp => k_allIn
    case z1 => l_ints
    case z2 => assumption
    intro x2 vs2 c2' cS2 v2 m2' sm2 aS2 oW2 ax2 hx2 hd2 sc2
    have cm2 := cm1.same sm2
    clear cm1 sm2
    have bv0 := Bd.lt sc0.lo sc0.hi hnB
    have bv1 := Bd.lt sc1.lo sc1.hi hoB
    have bv2 := Bd.lt sc2.lo sc2.hi hqB
    refine ItemsRest.zero (fun h' tk' F0' N0' => ?_)
    have F' := cm2.fr F0'
    simp only [List.nil_append, List.cons_append] at N0'
    have N' := news_sub (new := [(_, W.listOf [Value.ref x0, Value.ref x1, Value.ref x2].toArray _), (x2, _), (x1, _), (x0, _), (lT, _), (lT0, _), (lT1, _), (lT2, _), (pT, _), (rT, _), (ps, _), (t0, _), (t1, _), (t2, _)]) N0' (by k_allIn)
    clear F0' N0' cm2 aS0 oW0 aS1 oW1 aS2 oW2
    (try dsimp only))
  k_steps
  all_goals (try k_data)
  all_goals (try dsimp only)
  all_goals (
    (show Q (.ref _) _)
    (refine' hret _ _ _ _ _ _ _ _ _ _ ?ts ?tn ?td ?te ?tf)
    (case ts => exact H.stays' (by k_asm) (by k_asm) (by k_allIn))
    (case tn => (refine' H.newIn (by k_asm) (by k_allIn) ?_; (simp only [List.mem_cons, List.not_mem_nil, or_false, forall_eq_or_imp, forall_eq]; refine ⟨⟨?_, ?_, ?_, ?_⟩, ⟨?_, ?_, ?_, ?_⟩, ?_, ?_, ?_, ?_⟩ <;> exact Apart.ne (by assumption) (by k_mem))))
    (case td => assumption)
    (case te => assumption)
    (case tf => exact crt3_intro hn ho hq (sc0.at other3_0) (sc1.at other3_1) (sc2.at other3_2)))

end
end Mine
end

section
open PySem PySem.W PyProof.Rows PySem.Calls PySem.Spec
namespace Mine
set_option maxRecDepth 100000
set_option maxHeartbeats 16000000
theorem fill13 : hd.heap_1 = hd.heap_1 ∧ PySem.Challenge.rw_pq0533_01 = PySem.Challenge.rw_pq0533_01 := by k_fill; exact ⟨rfl, rfl⟩
section
variable {w : World} {loose : List Str} {mean : ExcName → Option Value} {mg mb : Str → Option Value} {dp un : Nat} {gd : Option (List Code)} {base g : Heap} {outer : List Env} {s : Shared} {Q E : Value → Shared → Prop}
theorem u_chinese2 {ps t0 a0 m0 t1 a1 m1 : Addr} {cP : Nat} {va0 vm0 va1 vm1 : List Value} {da0 da1 : List Int} {r0 n r1 o k : Int} {tk : Tok} {h₀ : Heap} {L : Addr} {mm : Str → Option Value} {news : List (Addr × Obj)} (F : Fr h₀ L s.heap mm) (X₀ : (hd.heap_1 w.params).In h₀) (N : News h₀ L s.heap news) (T : Top view loose mean mg mb h₀)
    (hs : ∀ p ∈ ([(ps, W.listOf [Value.ref t0, Value.ref t1].toArray cP), (t0, { cls := .type "tuple", data := .seq [Value.ref a0, Value.ref m0].toArray }), (t1, { cls := .type "tuple", data := .seq [Value.ref a1, Value.ref m1].toArray })] : List (Addr × Obj)), p ∈ news)
    (hk1 : 1 ≤ k) (hk9 : k ≤ 9) (hdp : dp + 10 < recursionLimit)
    (hl1 : s.heap.IsList a0 va0.toArray) (hi1 : IntsAre va0 da0) (hD1 : Limbs k da0 r0) (hl2 : s.heap.IsList m0 vm0.toArray) (hi2 : IntsAre vm0 (dig k n)) (hD2 : Limbs k (dig k n) n)
    (hl3 : s.heap.IsList a1 va1.toArray) (hi3 : IntsAre va1 da1) (hD3 : Limbs k da1 r1) (hl4 : s.heap.IsList m1 vm1.toArray) (hi4 : IntsAre vm1 (dig k o)) (hD4 : Limbs k (dig k o) o)
    (hn : 0 < n) (ho : 0 < o) (hnB : Bd n) (hoB : Bd o)
    (hb : base.StaysIn h₀) (hfl : ∀ g, Fr h₀ L g mm → g.FunFrames base outer)
    (hraise : Int.gcd n o ≠ 1 → ∀ g e h' tk', Fr h₀ L g mm → Fly base g outer e (.ref 49) h' → E (.ref e) { s with heap := h', toks := tk' })
    (hret : ∀ (l x y : Addr) (xs ys : List Value) (cx cy : Nat) (v : Int) (h' : Heap) (tk' : Nat), Fr h₀ L h' mm → News h₀ L h' ((l, { cls := .type "tuple", data := .seq [Value.ref x, Value.ref y].toArray }) :: (x, W.listOf xs.toArray cx) :: (y, W.listOf ys.toArray cy) :: news) → Apart l news → Apart x news → Apart y news → IntsAre xs (dig k v) → IntsAre ys (dig k (n * o)) → Limbs k (dig k v) v → Limbs k (dig k (n * o)) (n * o) → Crt2 n o r0 r1 v → Q (.ref l) { s with heap := h', toks := tk' }) :
    wpAny (model PySem.Challenge.rw_pq0533_01.row.prog w) (AT dp un (some outer) gd) (call (.ref 103) [.ref ps, .int k tk, .ref 143, .ref 150, .ref 164]) Q E s := by
  have H := hid_of (h := s.heap) (keep := [(ps, W.listOf [Value.ref t0, Value.ref t1].toArray cP), (t0, { cls := .type "tuple", data := .seq [Value.ref a0, Value.ref m0].toArray }), (t1, { cls := .type "tuple", data := .seq [Value.ref a1, Value.ref m1].toArray })]) fun p hp => (N p (hs p hp)).1
  have G := hid_fr F N hs
  have hkd : ∀ p ∈ ([(ps, W.listOf [Value.ref t0, Value.ref t1].toArray cP), (t0, { cls := .type "tuple", data := .seq [Value.ref a0, Value.ref m0].toArray }), (t1, { cls := .type "tuple", data := .seq [Value.ref a1, Value.ref m1].toArray })] : List (Addr × Obj)), p.2.cls = .type "tuple" ∨ ∃ b r n, p.2.data = .seq (Value.ref b :: r).toArray n := by
    exact List.forall_mem_cons.mpr ⟨.inr ⟨_, _, _, rfl⟩, List.forall_mem_cons.mpr ⟨.inl rfl, List.forall_mem_cons.mpr ⟨.inl rfl, List.forall_mem_nil _⟩⟩⟩
  exact c_chinese2 H (X₀.keeps G.keep) (T.keeps G.keep) hk1 hk9 hdp (H.list hl1 (not_ints H hl1 hi1 hkd)) hi1 hD1 (H.list hl2 (not_ints H hl2 hi2 hkd)) hi2 hD2 (H.list hl3 (not_ints H hl3 hi3 hkd)) hi3 hD3 (H.list hl4 (not_ints H hl4 hi4 hkd)) hi4 hD4 hn ho hnB hoB (fun b o e => G.keep b o (hb b o e)) (hfl _ G) (fun hg e h' tk' R => hraise hg _ e h' tk' G R) fun l x y xs ys cx cy v h' tk' st nw i1 i2 cr => hret l x y xs ys cx cy v h' tk' (fr_stays F st) (news_new F N st nw) (apart_new N nw (.head _)) (apart_new N nw (.tail _ (.head _))) (apart_new N nw (.tail _ (.tail _ (.head _)))) i1 i2 (limbs_dig hk1 cr.lo ⟨by have := cr.hi; have := hnB.mul_le hoB; omega⟩) (limbs_dig hk1 (Int.le_of_lt (Int.mul_pos hn ho)) (hnB.small_mul hoB)) cr

theorem u_chinese3 {ps t0 a0 m0 t1 a1 m1 t2 a2 m2 : Addr} {cP : Nat} {va0 vm0 va1 vm1 va2 vm2 : List Value} {da0 da1 da2 : List Int} {r0 n r1 o r2 q k : Int} {tk : Tok} {h₀ : Heap} {L : Addr} {mm : Str → Option Value} {news : List (Addr × Obj)} (F : Fr h₀ L s.heap mm) (X₀ : (hd.heap_1 w.params).In h₀) (N : News h₀ L s.heap news) (T : Top view loose mean mg mb h₀)
    (hs : ∀ p ∈ ([(ps, W.listOf [Value.ref t0, Value.ref t1, Value.ref t2].toArray cP), (t0, { cls := .type "tuple", data := .seq [Value.ref a0, Value.ref m0].toArray }), (t1, { cls := .type "tuple", data := .seq [Value.ref a1, Value.ref m1].toArray }), (t2, { cls := .type "tuple", data := .seq [Value.ref a2, Value.ref m2].toArray })] : List (Addr × Obj)), p ∈ news)
    (hk1 : 1 ≤ k) (hk9 : k ≤ 9) (hdp : dp + 10 < recursionLimit)
    (hl1 : s.heap.IsList a0 va0.toArray) (hi1 : IntsAre va0 da0) (hD1 : Limbs k da0 r0) (hl2 : s.heap.IsList m0 vm0.toArray) (hi2 : IntsAre vm0 (dig k n)) (hD2 : Limbs k (dig k n) n)
    (hl3 : s.heap.IsList a1 va1.toArray) (hi3 : IntsAre va1 da1) (hD3 : Limbs k da1 r1) (hl4 : s.heap.IsList m1 vm1.toArray) (hi4 : IntsAre vm1 (dig k o)) (hD4 : Limbs k (dig k o) o)
    (hl5 : s.heap.IsList a2 va2.toArray) (hi5 : IntsAre va2 da2) (hD5 : Limbs k da2 r2) (hl6 : s.heap.IsList m2 vm2.toArray) (hi6 : IntsAre vm2 (dig k q)) (hD6 : Limbs k (dig k q) q)
    (hn : 0 < n) (ho : 0 < o) (hq : 0 < q) (hnB : Bd n) (hoB : Bd o) (hqB : Bd q) (hnoB : Bd (n * o)) (hn1 : n ≠ 1) (hq1 : q ≠ 1) (hc1 : Int.gcd n o = 1) (hc2 : Int.gcd n q = 1) (hc3 : Int.gcd o q = 1)
    (hb : base.StaysIn h₀) (hfl : ∀ g, Fr h₀ L g mm → g.FunFrames base outer)
    
    (hret : ∀ (l x y : Addr) (xs ys : List Value) (cx cy : Nat) (v : Int) (h' : Heap) (tk' : Nat), Fr h₀ L h' mm → News h₀ L h' ((l, { cls := .type "tuple", data := .seq [Value.ref x, Value.ref y].toArray }) :: (x, W.listOf xs.toArray cx) :: (y, W.listOf ys.toArray cy) :: news) → Apart l news → Apart x news → Apart y news → IntsAre xs (dig k v) → IntsAre ys (dig k (n * o * q)) → Limbs k (dig k v) v → Limbs k (dig k (n * o * q)) (n * o * q) → Crt3 n o q r0 r1 r2 v → Q (.ref l) { s with heap := h', toks := tk' }) :
    wpAny (model PySem.Challenge.rw_pq0533_01.row.prog w) (AT dp un (some outer) gd) (call (.ref 103) [.ref ps, .int k tk, .ref 143, .ref 150, .ref 164]) Q E s := by
  have H := hid_of (h := s.heap) (keep := [(ps, W.listOf [Value.ref t0, Value.ref t1, Value.ref t2].toArray cP), (t0, { cls := .type "tuple", data := .seq [Value.ref a0, Value.ref m0].toArray }), (t1, { cls := .type "tuple", data := .seq [Value.ref a1, Value.ref m1].toArray }), (t2, { cls := .type "tuple", data := .seq [Value.ref a2, Value.ref m2].toArray })]) fun p hp => (N p (hs p hp)).1
  have G := hid_fr F N hs
  have hkd : ∀ p ∈ ([(ps, W.listOf [Value.ref t0, Value.ref t1, Value.ref t2].toArray cP), (t0, { cls := .type "tuple", data := .seq [Value.ref a0, Value.ref m0].toArray }), (t1, { cls := .type "tuple", data := .seq [Value.ref a1, Value.ref m1].toArray }), (t2, { cls := .type "tuple", data := .seq [Value.ref a2, Value.ref m2].toArray })] : List (Addr × Obj)), p.2.cls = .type "tuple" ∨ ∃ b r n, p.2.data = .seq (Value.ref b :: r).toArray n := by
    exact List.forall_mem_cons.mpr ⟨.inr ⟨_, _, _, rfl⟩, List.forall_mem_cons.mpr ⟨.inl rfl, List.forall_mem_cons.mpr ⟨.inl rfl, List.forall_mem_cons.mpr ⟨.inl rfl, List.forall_mem_nil _⟩⟩⟩⟩
  exact c_chinese3 H (X₀.keeps G.keep) (T.keeps G.keep) hk1 hk9 hdp (H.list hl1 (not_ints H hl1 hi1 hkd)) hi1 hD1 (H.list hl2 (not_ints H hl2 hi2 hkd)) hi2 hD2 (H.list hl3 (not_ints H hl3 hi3 hkd)) hi3 hD3 (H.list hl4 (not_ints H hl4 hi4 hkd)) hi4 hD4 (H.list hl5 (not_ints H hl5 hi5 hkd)) hi5 hD5 (H.list hl6 (not_ints H hl6 hi6 hkd)) hi6 hD6 hn ho hq hnB hoB hqB hnoB hn1 hq1 hc1 hc2 hc3 (fun b o e => G.keep b o (hb b o e)) (hfl _ G) fun l x y xs ys cx cy v h' tk' st nw i1 i2 cr => hret l x y xs ys cx cy v h' tk' (fr_stays F st) (news_new F N st nw) (apart_new N nw (.head _)) (apart_new N nw (.tail _ (.head _))) (apart_new N nw (.tail _ (.tail _ (.head _)))) i1 i2 (limbs_dig hk1 cr.lo ⟨by have := cr.hi; have := hnoB.mul_le hqB; omega⟩) (limbs_dig hk1 (Int.le_of_lt (Int.mul_pos (Int.mul_pos hn ho) hq)) (hnoB.small_mul hqB)) cr

theorem c_ctwo {t0 a0 m0 t1 a1 m1 : Addr} {va0 vm0 va1 vm1 : List Value} {da0 da1 : List Int} {r0 n r1 o k : Int} {tk : Tok} (H : Hid g s.heap [(t0, { cls := .type "tuple", data := .seq [Value.ref a0, Value.ref m0].toArray }), (t1, { cls := .type "tuple", data := .seq [Value.ref a1, Value.ref m1].toArray })])
    (X : (hd.heap_1 w.params).In g) (T : Top view loose mean mg mb g)
    (hk1 : 1 ≤ k) (hk9 : k ≤ 9) (hdp : dp + 12 < recursionLimit)
    (hl1 : g.IsList a0 va0.toArray) (hi1 : IntsAre va0 da0) (hD1 : Limbs k da0 r0) (hl2 : g.IsList m0 vm0.toArray) (hi2 : IntsAre vm0 (dig k n)) (hD2 : Limbs k (dig k n) n)
    (hl3 : g.IsList a1 va1.toArray) (hi3 : IntsAre va1 da1) (hD3 : Limbs k da1 r1) (hl4 : g.IsList m1 vm1.toArray) (hi4 : IntsAre vm1 (dig k o)) (hD4 : Limbs k (dig k o) o)
    (hn : 0 < n) (ho : 0 < o) (hnB : Bd n) (hoB : Bd o)
    (hb : base.StaysIn g) (hfl : g.FunFrames base outer)
    (hraise : Int.gcd n o ≠ 1 → ∀ e h' tk', Fly base g outer e (.ref 49) h' → E (.ref e) { s with heap := h', toks := tk' })
    (hret : ∀ (l x y : Addr) (xs ys : List Value) (cx cy : Nat) (v : Int) (h' : Heap) (tk' : Nat), s.heap.StaysIn h' → NewIn s.heap h' [(l, { cls := .type "tuple", data := .seq [Value.ref x, Value.ref y].toArray }), (x, W.listOf xs.toArray cx), (y, W.listOf ys.toArray cy)] → IntsAre xs (dig k v) → IntsAre ys (dig k (n * o)) → Crt2 n o r0 r1 v → Q (.ref l) { s with heap := h', toks := tk' }) :
    wpAny (model PySem.Challenge.rw_pq0533_01.row.prog w) (AT dp un (some outer) gd) (call (.ref 110) [.ref t0, .ref t1, .int k tk, .ref 143, .ref 150, .ref 164]) Q E s := by
  refine' ent_plainG H X T ?k6 ?k7 ?k8 ?k9 ?kB ?_ ?c2 ?c3 ?c4 ?c5
  case k6 => k_is
  case k7 => k_is
  case k8 => show dp < recursionLimit; omega
  case k9 => exact BindsTo.of_eq rfl
  case kB => exact locs rfl
  case c2 => exact rfl
  case c3 => exact rfl
  case c4 => exact rfl
  case c5 => decide
  intro L' h₁ F' N'
  dsimp only
  k_fold
  k_with_none
  k_with "my lt" => skip
  k_with "my k_ne" => (refine neN ?_; (try dsimp only); first | exact Apart.ne (by assumption) (by k_mem) | exact Ne.symm (Apart.ne (by assumption) (by k_mem)))
  k_with "my call ref" => (k_here; (with_reducible show wpAny _ _ (call (Value.ref 103) _) _ _ _); k_dflt (k_extra "chinese"))
  k_with "my call ref" => (k_here; (with_reducible show wpAny _ _ (call (Value.ref 110) _) _ _ _); k_dflt (k_extra "two"))
  k_with "my exec Assign cons ListComp" => (k_here; (with_reducible show wpAny _ _ (exec (PySem.Stmt.Assign _ (PySem.Expr.ListComp _ [PySem.Comprehension.mk (PySem.Expr.Name _ _) (PySem.Expr.Tuple _ _ _) _ _] _ _) _) _) _ _ _); k_dflt (refine Assign_tup (_F₀ := by k_asm) (by rfl) (by with_unfolding_all rfl) (by with_unfolding_all rfl) (by decide) (by rfl) (by decide) (by rfl) (by rfl) (by rfl) ?_))
  k_with "my eval ListComp" => (k_here; (with_reducible show wpAny _ _ (eval (PySem.Expr.ListComp _ [PySem.Comprehension.mk (PySem.Expr.Name _ _) (PySem.Expr.Tuple _ _ _) _ _] _ _) _) _ _ _); k_dflt (refine ListComp_tup (_F₀ := by k_asm) (by with_unfolding_all rfl) (by decide) (by rfl) (by decide) (by rfl) ?_))
  k_with "my TupComp" => (k_here; k_dflt (refine TupComp.intro (by rfl) (by k_asm) (by k_asm) (by k_mem) (by exact Nat.le_of_ble_eq_true rfl) ?_; intro g'; lcg_lit))
  k_with "my CompRest" => (with_unfolding_all first | (refine LCg.CompRest.succ ?_; intro v' I' oI' C' oC' D' m' h' tk' E' hv' hC' hx' F' N' off' ne'; lcg_open hv'; (have q1' := Off3.a1 off'); (have q2' := Off3.a2 off'); (have q3' := Off3.a3 off'); clear off') | refine LCg.CompRest.zero ?_)
  k_with "my lcg_src" => exact ⟨_, by k_mem, rfl, _, rfl⟩
  k_with "my call ref" => (k_here; (with_reducible show wpAny _ _ (call (Value.ref 136) _) _ _ _); k_dflt (refine' u_number ?k1 ?k2 ?k3 ?k4 ?k5 ?k6 ?k7 ?k8 ?k9 ?k10 ?_; (case k1 => k_asm); (case k2 => k_asm); (case k3 => k_asm); (case k4 => k_asm); (case k5 => assumption); (case k6 => assumption); (case k7 => ((try simp only [depth_deeper, at_depth]); omega)); (case k8 => is_list); (case k9 => l_ints); (case k10 => assumption); k_whole; intro t' h' tk' F' N'; (try dsimp only); (try k_sweep); (try k_fold)))
  k_with "my call ref" => (k_here; (with_reducible show wpAny _ _ (call (Value.ref 129) _) _ _ _); k_dflt (refine' u_limbs ?k1 ?k2 ?k3 ?k4 ?k5 ?k6 ?k7 ?k8 ?k9 ?_; (case k1 => k_asm); (case k2 => k_asm); (case k3 => k_asm); (case k4 => k_asm); (case k5 => assumption); (case k6 => assumption); (case k7 => ((try simp only [depth_deeper, at_depth]); omega)); (case k8 => k_extra "pos"); (case k9 => k_extra "small"); k_whole; intro l' vs' c' h' tk' F' N' ap' hI' hD'; (try dsimp only); (try k_sweep); (try k_fold)))
  k_with "cond" => assumption
  k_with "chinese" => (refine' u_chinese2 (base := base) (outer := _ :: outer) ?k1 ?k2 ?k3 ?k4 ?ks ?k5 ?k6 ?k7 ?a1 ?a2 ?a3 ?a4 ?a5 ?a6 ?a7 ?a8 ?a9 ?a10 ?a11 ?a12 ?b1 ?b2 ?b3 ?b4 ?kb ?kf ?kr ?_; (case k1 => k_asm); (case k2 => k_asm); (case k3 => k_asm); (case k4 => k_asm); (case ks => k_allIn); (case k5 => assumption); (case k6 => assumption); (case k7 => ((try simp only [depth_deeper, at_depth]); omega)); (case a1 => is_list); (case a2 => l_ints); (case a3 => assumption); (case a4 => is_list); (case a5 => l_ints); (case a6 => assumption); (case a7 => is_list); (case a8 => l_ints); (case a9 => assumption); (case a10 => is_list); (case a11 => l_ints); (case a12 => assumption); (case b1 => k_extra "cond"); (case b2 => k_extra "cond"); (case b3 => k_extra "cond"); (case b4 => k_extra "cond"); (case kb => exact hb); (case kf => (intro g' G'; exact fun_push G' hb hfl rfl (by show ScopeKind.function ≠ ScopeKind.module; decide))); (case kr => (intro hg' g' e' h' tk' G' R'; refine leave_fly R' G' rfl rfl ?_; intro h2' R2'; exact hraise hg' _ _ _ R2')); intro l' x' y' xs' ys' cx' cy' v' h' tk' F' N' ap1' ap2' ap3' hI1' hI2' hD1' hD2' cr'; (try dsimp only); (try k_sweep); (try k_fold))
  k_steps
  all_goals (try k_data)
  all_goals (try dsimp only)
  all_goals (
    (show Q (.ref _) _)
    (refine' hret _ _ _ _ _ _ _ _ _ _ ?ts ?tn ?td ?te ?tf)
    (case ts => exact H.stays' (by k_asm) (by k_asm) (by k_allIn))
    (case tn => (refine' H.newIn (by k_asm) (by k_allIn) ?_; (simp only [List.mem_cons, List.not_mem_nil, or_false, forall_eq_or_imp, forall_eq]; refine ⟨⟨?_, ?_⟩, ⟨?_, ?_⟩, ?_, ?_⟩ <;> exact Apart.ne (by assumption) (by k_mem))))
    (case td => assumption)
    (case te => assumption)
    (case tf => assumption))

theorem u_ctwo {t0 a0 m0 t1 a1 m1 : Addr} {va0 vm0 va1 vm1 : List Value} {da0 da1 : List Int} {r0 n r1 o k : Int} {tk : Tok} {h₀ : Heap} {L : Addr} {mm : Str → Option Value} {news : List (Addr × Obj)} (F : Fr h₀ L s.heap mm) (X₀ : (hd.heap_1 w.params).In h₀) (N : News h₀ L s.heap news) (T : Top view loose mean mg mb h₀)
    (hs : ∀ p ∈ ([(t0, { cls := .type "tuple", data := .seq [Value.ref a0, Value.ref m0].toArray }), (t1, { cls := .type "tuple", data := .seq [Value.ref a1, Value.ref m1].toArray })] : List (Addr × Obj)), p ∈ news)
    (hk1 : 1 ≤ k) (hk9 : k ≤ 9) (hdp : dp + 12 < recursionLimit)
    (hl1 : s.heap.IsList a0 va0.toArray) (hi1 : IntsAre va0 da0) (hD1 : Limbs k da0 r0) (hl2 : s.heap.IsList m0 vm0.toArray) (hi2 : IntsAre vm0 (dig k n)) (hD2 : Limbs k (dig k n) n)
    (hl3 : s.heap.IsList a1 va1.toArray) (hi3 : IntsAre va1 da1) (hD3 : Limbs k da1 r1) (hl4 : s.heap.IsList m1 vm1.toArray) (hi4 : IntsAre vm1 (dig k o)) (hD4 : Limbs k (dig k o) o)
    (hn : 0 < n) (ho : 0 < o) (hnB : Bd n) (hoB : Bd o)
    (hb : base.StaysIn h₀) (hfl : ∀ g, Fr h₀ L g mm → g.FunFrames base outer)
    (hraise : Int.gcd n o ≠ 1 → ∀ g e h' tk', Fr h₀ L g mm → Fly base g outer e (.ref 49) h' → E (.ref e) { s with heap := h', toks := tk' })
    (hret : ∀ (l x y : Addr) (xs ys : List Value) (cx cy : Nat) (v : Int) (h' : Heap) (tk' : Nat), Fr h₀ L h' mm → News h₀ L h' ((l, { cls := .type "tuple", data := .seq [Value.ref x, Value.ref y].toArray }) :: (x, W.listOf xs.toArray cx) :: (y, W.listOf ys.toArray cy) :: news) → Apart l news → Apart x news → Apart y news → IntsAre xs (dig k v) → IntsAre ys (dig k (n * o)) → Limbs k (dig k v) v → Limbs k (dig k (n * o)) (n * o) → Crt2 n o r0 r1 v → Q (.ref l) { s with heap := h', toks := tk' }) :
    wpAny (model PySem.Challenge.rw_pq0533_01.row.prog w) (AT dp un (some outer) gd) (call (.ref 110) [.ref t0, .ref t1, .int k tk, .ref 143, .ref 150, .ref 164]) Q E s := by
  have H := hid_of (h := s.heap) (keep := [(t0, { cls := .type "tuple", data := .seq [Value.ref a0, Value.ref m0].toArray }), (t1, { cls := .type "tuple", data := .seq [Value.ref a1, Value.ref m1].toArray })]) fun p hp => (N p (hs p hp)).1
  have G := hid_fr F N hs
  have hkd : ∀ p ∈ ([(t0, { cls := .type "tuple", data := .seq [Value.ref a0, Value.ref m0].toArray }), (t1, { cls := .type "tuple", data := .seq [Value.ref a1, Value.ref m1].toArray })] : List (Addr × Obj)), p.2.cls = .type "tuple" ∨ ∃ b r n, p.2.data = .seq (Value.ref b :: r).toArray n := by
    exact List.forall_mem_cons.mpr ⟨.inl rfl, List.forall_mem_cons.mpr ⟨.inl rfl, List.forall_mem_nil _⟩⟩
  exact c_ctwo H (X₀.keeps G.keep) (T.keeps G.keep) hk1 hk9 hdp (H.list hl1 (not_ints H hl1 hi1 hkd)) hi1 hD1 (H.list hl2 (not_ints H hl2 hi2 hkd)) hi2 hD2 (H.list hl3 (not_ints H hl3 hi3 hkd)) hi3 hD3 (H.list hl4 (not_ints H hl4 hi4 hkd)) hi4 hD4 hn ho hnB hoB (fun b o e => G.keep b o (hb b o e)) (hfl _ G) (fun hg e h' tk' R => hraise hg _ e h' tk' G R) fun l x y xs ys cx cy v h' tk' st nw i1 i2 cr => hret l x y xs ys cx cy v h' tk' (fr_stays F st) (news_new F N st nw) (apart_new N nw (.head _)) (apart_new N nw (.tail _ (.head _))) (apart_new N nw (.tail _ (.tail _ (.head _)))) i1 i2 (limbs_dig hk1 cr.lo ⟨by have := cr.hi; have := hnB.mul_le hoB; omega⟩) (limbs_dig hk1 (Int.le_of_lt (Int.mul_pos hn ho)) (hnB.small_mul hoB)) cr

theorem c_ltwo {t0 t1 : Addr} {r0 n r1 o k : Int} {u0 z0 u1 z1 tk : Tok} (H : Hid g s.heap [(t0, { cls := .type "tuple", data := .seq [Value.int r0 u0, Value.int n z0].toArray }), (t1, { cls := .type "tuple", data := .seq [Value.int r1 u1, Value.int o z1].toArray })])
    (X : (hd.heap_1 w.params).In g) (T : Top view loose mean mg mb g)
    (hk1 : 1 ≤ k) (hk9 : k ≤ 9) (hdp : dp + 14 < recursionLimit)
    (hr0 : 0 ≤ r0) (hr1 : 0 ≤ r1) (hr0S : Small r0) (hr1S : Small r1) (hn : 0 < n) (ho : 0 < o) (hnB : Bd n) (hoB : Bd o)
    (hb : base.StaysIn g) (hfl : g.FunFrames base outer)
    (hraise : Int.gcd n o ≠ 1 → ∀ e h' tk', Fly base g outer e (.ref 49) h' → E (.ref e) { s with heap := h', toks := tk' })
    (hret : ∀ (l : Addr) (v : Int) (tv tp : Tok) (h' : Heap) (tk' : Nat), s.heap.StaysIn h' → NewIn s.heap h' [(l, { cls := .type "tuple", data := .seq [Value.int v tv, Value.int (n * o) tp].toArray })] → Crt2 n o r0 r1 v → Q (.ref l) { s with heap := h', toks := tk' }) :
    wpAny (model PySem.Challenge.rw_pq0533_01.row.prog w) (AT dp un (some outer) gd) (call (.ref 169) [.ref t0, .ref t1, .int k tk]) Q E s := by
  refine' ent_cellsG H X T ?k6 ?k7 ?k8 ?k9 ?kB ?kD ?_ ?c2 ?c3 ?c4
  case k6 => k_is
  case k7 => k_is
  case k8 => show dp < recursionLimit; omega
  case k9 => exact BindsTo.of_eq rfl
  case kB => exact rfl
  case kD => decide +kernel
  case c2 => exact rfl
  case c3 => exact rfl
  case c4 => exact rfl
  intro L' h₁ tk' cells' F' N' Y' off'
  k_cells Y'
  (try simp only [List.cons_append, List.nil_append] at N')
  show wpAny _ _ _ _ _ _
  k_fold
  have i0 : IntsAre [] [] := .nil
  have hn0 := Int.le_of_lt hn
  have ho0 := Int.le_of_lt ho
  have hnS := hnB.small
  have hoS := hoB.small
  k_with_none
  k_with "my lt" => skip
  k_with "my k_ne" => (refine neN ?_; (try dsimp only); first | exact Apart.ne (by assumption) (by k_mem) | exact Ne.symm (Apart.ne (by assumption) (by k_mem)))
  k_with "my call ref" => (k_here; (with_reducible show wpAny _ _ (call (Value.ref 103) _) _ _ _); k_dflt (k_extra "chinese"))
  k_with "my call ref" => (k_here; (with_reducible show wpAny _ _ (call (Value.ref 110) _) _ _ _); k_dflt (k_extra "two"))
  k_with "my exec Assign cons ListComp" => (k_here; (with_reducible show wpAny _ _ (exec (PySem.Stmt.Assign _ (PySem.Expr.ListComp _ [PySem.Comprehension.mk (PySem.Expr.Name _ _) (PySem.Expr.Tuple _ _ _) _ _] _ _) _) _) _ _ _); k_dflt (refine Assign_tup (_F₀ := by k_asm) (by rfl) (by with_unfolding_all rfl) (by with_unfolding_all rfl) (by decide) (by rfl) (by decide) (by rfl) (by rfl) (by rfl) ?_))
  k_with "my eval ListComp" => (k_here; (with_reducible show wpAny _ _ (eval (PySem.Expr.ListComp _ [PySem.Comprehension.mk (PySem.Expr.Name _ _) (PySem.Expr.Tuple _ _ _) _ _] _ _) _) _ _ _); k_dflt (refine ListComp_tup (_F₀ := by k_asm) (by with_unfolding_all rfl) (by decide) (by rfl) (by decide) (by rfl) ?_))
  k_with "my TupComp" => (k_here; k_dflt (refine TupComp.intro (by rfl) (by k_asm) (by k_asm) (by k_mem) (by exact Nat.le_of_ble_eq_true rfl) ?_; intro g'; lcg_lit))
  k_with "my CompRest" => (with_unfolding_all first | (refine LCg.CompRest.succ ?_; intro v' I' oI' C' oC' D' m' h' tk' E' hv' hC' hx' F' N' off' ne'; lcg_open hv'; (have q1' := Off3.a1 off'); (have q2' := Off3.a2 off'); (have q3' := Off3.a3 off'); clear off') | refine LCg.CompRest.zero ?_)
  k_with "my lcg_src" => exact ⟨_, by k_mem, rfl, _, rfl⟩
  k_with "my call ref" => (k_here; (with_reducible show wpAny _ _ (call (Value.ref 136) _) _ _ _); k_dflt (refine' u_number ?k1 ?k2 ?k3 ?k4 ?k5 ?k6 ?k7 ?k8 ?k9 ?k10 ?_; (case k1 => k_asm); (case k2 => k_asm); (case k3 => k_asm); (case k4 => k_asm); (case k5 => assumption); (case k6 => assumption); (case k7 => ((try simp only [depth_deeper, at_depth]); omega)); (case k8 => is_list); (case k9 => l_ints); (case k10 => assumption); k_whole; intro t' h' tk' F' N'; (try dsimp only); (try k_sweep); (try k_fold)))
  k_with "my call ref" => (k_here; (with_reducible show wpAny _ _ (call (Value.ref 129) _) _ _ _); k_dflt (refine' u_limbs ?k1 ?k2 ?k3 ?k4 ?k5 ?k6 ?k7 ?k8 ?k9 ?_; (case k1 => k_asm); (case k2 => k_asm); (case k3 => k_asm); (case k4 => k_asm); (case k5 => assumption); (case k6 => assumption); (case k7 => ((try simp only [depth_deeper, at_depth]); omega)); (case k8 => k_extra "pos"); (case k9 => k_extra "small"); k_whole; intro l' vs' c' h' tk' F' N' ap' hI' hD'; (try dsimp only); (try k_sweep); (try k_fold)))
  k_with "pos" => assumption
  k_with "small" => assumption
  k_with "cond" => assumption
  k_with "two" => (refine' u_ctwo (base := base) (outer := _ :: outer) ?k1 ?k2 ?k3 ?k4 ?ks ?k5 ?k6 ?k7 ?a1 ?a2 ?a3 ?a4 ?a5 ?a6 ?a7 ?a8 ?a9 ?a10 ?a11 ?a12 ?b1 ?b2 ?b3 ?b4 ?kb ?kf ?kr ?_; (case k1 => k_asm); (case k2 => k_asm); (case k3 => k_asm); (case k4 => k_asm); (case ks => k_allIn); (case k5 => assumption); (case k6 => assumption); (case k7 => ((try simp only [depth_deeper, at_depth]); omega)); (case a1 => is_list); (case a2 => l_ints); (case a3 => assumption); (case a4 => is_list); (case a5 => l_ints); (case a6 => assumption); (case a7 => is_list); (case a8 => l_ints); (case a9 => assumption); (case a10 => is_list); (case a11 => l_ints); (case a12 => assumption); (case b1 => k_extra "cond"); (case b2 => k_extra "cond"); (case b3 => k_extra "cond"); (case b4 => k_extra "cond"); (case kb => exact hb); (case kf => (intro g' G'; exact fun_push G' hb hfl rfl (by show ScopeKind.function ≠ ScopeKind.module; decide))); (case kr => (intro hg' g' e' h' tk' G' R'; refine leave_fly R' G' rfl rfl ?_; intro h2' R2'; exact hraise hg' _ _ _ R2')); intro l' x' y' xs' ys' cx' cy' v' h' tk' F' N' ap1' ap2' ap3' hI1' hI2' hD1' hD2' cr'; (try dsimp only); (try k_sweep); (try k_fold))
  k_steps
  all_goals (try k_data)
  all_goals (try dsimp only)
  all_goals (
    (show Q (.ref _) _)
    (refine' hret _ _ _ _ _ _ ?ts ?tn ?tf)
    (case ts => exact H.stays' (by k_asm) (by k_asm) (by k_allIn))
    (case tn => (refine' H.newIn (by k_asm) (by k_allIn) ?_; (simp only [List.mem_cons, List.not_mem_nil, or_false, forall_eq_or_imp, forall_eq]; refine ⟨?_, ?_⟩ <;> exact Apart.ne (by assumption) (by k_mem))))
    (case tf => assumption))

theorem u_ltwo {t0 t1 : Addr} {r0 n r1 o k : Int} {u0 z0 u1 z1 tk : Tok} {h₀ : Heap} {L : Addr} {mm : Str → Option Value} {news : List (Addr × Obj)} (F : Fr h₀ L s.heap mm) (X₀ : (hd.heap_1 w.params).In h₀) (N : News h₀ L s.heap news) (T : Top view loose mean mg mb h₀)
    (hs : ∀ p ∈ ([(t0, { cls := .type "tuple", data := .seq [Value.int r0 u0, Value.int n z0].toArray }), (t1, { cls := .type "tuple", data := .seq [Value.int r1 u1, Value.int o z1].toArray })] : List (Addr × Obj)), p ∈ news)
    (hk1 : 1 ≤ k) (hk9 : k ≤ 9) (hdp : dp + 14 < recursionLimit)
    (hr0 : 0 ≤ r0) (hr1 : 0 ≤ r1) (hr0S : Small r0) (hr1S : Small r1) (hn : 0 < n) (ho : 0 < o) (hnB : Bd n) (hoB : Bd o)
    (hb : base.StaysIn h₀) (hfl : ∀ g, Fr h₀ L g mm → g.FunFrames base outer)
    (hraise : Int.gcd n o ≠ 1 → ∀ g e h' tk', Fr h₀ L g mm → Fly base g outer e (.ref 49) h' → E (.ref e) { s with heap := h', toks := tk' })
    (hret : ∀ (l : Addr) (v : Int) (tv tp : Tok) (h' : Heap) (tk' : Nat), Fr h₀ L h' mm → News h₀ L h' ((l, { cls := .type "tuple", data := .seq [Value.int v tv, Value.int (n * o) tp].toArray }) :: news) → Apart l news → Crt2 n o r0 r1 v → Q (.ref l) { s with heap := h', toks := tk' }) :
    wpAny (model PySem.Challenge.rw_pq0533_01.row.prog w) (AT dp un (some outer) gd) (call (.ref 169) [.ref t0, .ref t1, .int k tk]) Q E s := by
  have H := hid_of (h := s.heap) (keep := [(t0, { cls := .type "tuple", data := .seq [Value.int r0 u0, Value.int n z0].toArray }), (t1, { cls := .type "tuple", data := .seq [Value.int r1 u1, Value.int o z1].toArray })]) fun p hp => (N p (hs p hp)).1
  have G := hid_fr F N hs
  exact c_ltwo H (X₀.keeps G.keep) (T.keeps G.keep) hk1 hk9 hdp hr0 hr1 hr0S hr1S hn ho hnB hoB (fun b o e => G.keep b o (hb b o e)) (hfl _ G) (fun hg e h' tk' R => hraise hg _ e h' tk' G R) fun l v tv tp h' tk' st nw cr => hret l v tv tp h' tk' (fr_stays F st) (news_new F N st nw) (apart_new N nw (.head _)) cr

end
end Mine
end

section
open PySem PySem.W PyProof.Rows PySem.Calls PySem.Spec
namespace Mine
set_option maxRecDepth 100000
set_option maxHeartbeats 16000000
theorem fill14 : hd.heap_1 = hd.heap_1 ∧ PySem.Challenge.rw_pq0533_01 = PySem.Challenge.rw_pq0533_01 := by k_fill; exact ⟨rfl, rfl⟩
section
variable {w : World} {loose : List Str} {mean : ExcName → Option Value} {mg mb : Str → Option Value} {dp un : Nat} {gd : Option (List Code)} {g : Heap} {s : Shared} {Q E : Value → Shared → Prop}
theorem c_refused {base : Heap} {outer : List Env} {m n k : Int} {tm tn tk : Tok}
    (X : (hd.heap_1 w.params).In s.heap) (T : Top view loose mean mg mb s.heap) (XB : (hd.heap_1 w.params).In base) (TB : Top view loose mean mg mb base) (hsz : base.objs.size ≤ s.heap.objs.size)
    (hb : base.StaysIn s.heap) (hfl : s.heap.FunFrames base outer)
    (hk1 : 1 ≤ k) (hk9 : k ≤ 9) (hdp : dp + 16 < recursionLimit) (hm : 0 < m) (hn : 0 < n) (hmB : Bd m) (hnB : Bd n) (hg : Int.gcd m n ≠ 1)
    (hret : ∀ (h' : Heap) (tk' : Nat), base.StaysIn h' → s.heap.UpToSlots h' → Q (.bool true) { s with heap := h', toks := tk' }) :
    wpAny (model PySem.Challenge.rw_pq0533_01.row.prog w) (AT dp un (some outer) gd) (call (.ref 176) [.int m tm, .int n tn, .int k tk]) Q E s := by
  refine' ent_plain X T ?k6 ?k7 ?k8 ?k9 ?kB ?_ ?c2 ?c3 ?c4 ?c5
  case k6 => k_is
  case k7 => k_is
  case k8 => show dp < recursionLimit; omega
  case k9 => exact BindsTo.of_eq rfl
  case kB => exact locs rfl
  case c2 => exact rfl
  case c3 => exact rfl
  case c4 => exact rfl
  case c5 => decide
  intro L' h₁ F' N'
  dsimp only
  k_fold
  have z1 : (0 : Int) ≤ 1 := by decide
  have z2 : (0 : Int) ≤ 0 := by decide
  have z3 : Small 1 := ⟨by decide⟩
  have z4 : Small 0 := ⟨by decide⟩
  k_with_none
  k_with "my lt" => skip
  k_with "my k_ne" => (refine neN ?_; (try dsimp only); first | exact Apart.ne (by assumption) (by k_mem) | exact Ne.symm (Apart.ne (by assumption) (by k_mem)))
  k_with "my call ref" => (k_here; (with_reducible show wpAny _ _ (call (Value.ref 169) _) _ _ _); k_dflt (k_extra "ltwo"))
  k_with "cond" => assumption
  k_with "ltwo" => (refine' u_ltwo (base := base) (outer := _ :: outer) ?k1 ?k2 ?k3 ?k4 ?ks ?k5 ?k6 ?k7 ?b1 ?b2 ?b3 ?b4 ?b5 ?b6 ?b7 ?b8 ?kb ?kf ?kr ?_; (case k1 => k_asm); (case k2 => k_asm); (case k3 => k_asm); (case k4 => k_asm); (case ks => k_allIn); (case k5 => assumption); (case k6 => assumption); (case k7 => ((try simp only [depth_deeper, at_depth]); omega)); (case b1 => k_extra "cond"); (case b2 => k_extra "cond"); (case b3 => k_extra "cond"); (case b4 => k_extra "cond"); (case b5 => k_extra "cond"); (case b6 => k_extra "cond"); (case b7 => k_extra "cond"); (case b8 => k_extra "cond"); (case kb => exact hb); (case kf => (intro g' G'; exact fun_push G' hb hfl rfl (by show ScopeKind.function ≠ ScopeKind.module; decide))); (case kr => (intro hg' g' e' h' tk' G' R'; refine' caught_fly (bmB := [.type "Exception", .type "BaseException", .type "object"]) (newId := "Exception.__new__") R' G' ?c1 rfl XB ?c3 ?c4 ?c5 rfl ?_; (case c1 => exact Nat.le_trans hsz G'.above); (case c3 => exact topRead_of TB); (case c4 => k_is); (case c5 => k_exc); intro h2' st2' up2'; (have up3' := (Heap.UpToSlots.of_keeps G'.keep).trans up2'); k_steps; (try dsimp only); (show Q (.bool true) _); exact hret _ _ st2' up3')); (intro l' v' tv' tp' h' tk' F' N' ap' cr'; exact absurd cr'.cop hg))
  k_steps
  all_goals (try k_data)
  all_goals (try dsimp only)

theorem u_refused {env : Env} {h₀ : Heap} {L : Addr} {mm : Str → Option Value} {news : List (Addr × Obj)} {m n k : Int} {tm tn tk : Tok} (F : Fr h₀ L s.heap mm) (X₀ : (hd.heap_1 w.params).In h₀) (N : News h₀ L s.heap news) (T : Top view loose mean mg mb h₀)
    (hf : env.frame = some L) (hkk : env.scope.kind ≠ .module)
    (hk1 : 1 ≤ k) (hk9 : k ≤ 9) (hdp : dp + 16 < recursionLimit) (hm : 0 < m) (hn : 0 < n) (hmB : Bd m) (hnB : Bd n) (hg : Int.gcd m n ≠ 1)
    (hret : ∀ (h' : Heap) (tk' : Nat), Fr h₀ L h' mm → News h₀ L h' news → Q (.bool true) { s with heap := h', toks := tk' }) :
    wpAny (model PySem.Challenge.rw_pq0533_01.row.prog w) (AT dp un (some [env]) gd) (call (.ref 176) [.int m tm, .int n tn, .int k tk]) Q E s := by
  have hL := Heap.get?_none_of_le F.above
  have st : h₀.StaysIn (hideAll s.heap [L]) := fun b o e => hideAll_get _ (F.keep b o e) fun hm => by
    rw [List.mem_singleton.mp hm, hL] at e; cases e
  have hfl0 : s.heap.FunFrames h₀ [env] := fun_push F (fun b o e => e) trivial hf hkk
  have hfl : (hideAll s.heap [L]).objs.size ≤ s.heap.objs.size := Nat.le_of_eq (hideAll_size _ _)
  have hfl2 := funFrames_hide (as := [L]) hfl0 fun env' he a ha => by
    rw [List.mem_singleton.mp he, hf] at ha
    exact List.mem_singleton.mpr (Option.some.inj ha).symm
  exact c_refused (base := hideAll s.heap [L]) (X₀.keeps F.keep) (T.keeps F.keep) (X₀.keeps st) (T.keeps st) hfl (fun b o e => of_hideAll _ e) hfl2 hk1 hk9 hdp hm hn hmB hnB hg
    fun h' tk' st' up => hret h' tk' ⟨up.ns F.ns, fun b o e => st' b o (st b o e), F.above⟩ fun p hp => ⟨st' _ _ (hideAll_get _ (N p hp).1 fun hm => (N p hp).2.1 (List.mem_singleton.mp hm)), (N p hp).2⟩

end
section
variable {w : World} {loose : List Str} {mean : ExcName → Option Value} {mg mb : Str → Option Value} {dp un : Nat} {fr : Option (List Env)} {gd : Option (List Code)} {g : Heap} {s : Shared} {Q E : Value → Shared → Prop}
theorem c_arrow {q nl : Addr} {c : Nat} {b turn many : Int} {tb tt tm : Tok} {vs : List Value} {ns : List Int} (H : Hid g s.heap [(q, W.listOf [Value.ref nl, Value.int b tb, Value.int turn tt].toArray c)])
    (X : (hd.heap_1 w.params).In g) (T : Top view loose mean mg mb g) (hdp : dp + 2 < recursionLimit)
    (hnl : g.IsList nl vs.toArray) (hi : IntsAre vs ns) (ht0 : 0 ≤ turn) (ht : turn ≤ 50) (hb0 : 0 ≤ b) (hb : b < 67) (hm0 : 0 < many) (hm : many ≤ 100000) (hlen : ns.length ≤ 63)
    (hret : ∀ (r : Int) (t t2 : Tok) (c' : Nat) (h' : Heap) (tk' : Nat), g.StaysIn h' → h'.get? q = some (W.listOf [Value.ref nl, Value.int b tb, Value.int (turn + 1) t2].toArray c') → 0 ≤ r → r < many → Q (.int r t) { s with heap := h', toks := tk' }) :
    wpAny (model PySem.Challenge.rw_pq0533_01.row.prog w) (AT dp un fr gd) (call (.ref 122) [.ref q, .int many tm]) Q E s := by
  refine' ent_plainG H X T ?k6 ?k7 ?k8 ?k9 ?kB ?_ ?c2 ?c3 ?c4 ?c5
  case k6 => k_is
  case k7 => k_is
  case k8 => show dp < recursionLimit; omega
  case k9 => exact BindsTo.of_eq rfl
  case kB => exact locs rfl
  case c2 => exact rfl
  case c3 => exact rfl
  case c4 => exact rfl
  case c5 => decide
  intro L' h₁ F' N'
  dsimp only
  k_fold
  k_with_none
  k_with "my lt" => skip
  k_with "my k_ne" => (refine neN ?_; (try dsimp only); first | exact Apart.ne (by assumption) (by k_mem) | exact Ne.symm (Apart.ne (by assumption) (by k_mem)))
  k_with "my call ref" => (k_here; (with_reducible show wpAny _ _ (call (Value.ref 169) _) _ _ _); k_dflt (k_extra "ltwo"))
  have hvl := hi.length
  k_steps
  all_goals (try k_data)
  all_goals (try dsimp only)
  all_goals (
    (refine' hret _ _ _ _ _ _ ?ta ?tb ?tc ?td)
    (case ta => exact Fr.keep (by assumption))
    (case tb => (rename News _ _ _ _ => lN; exact (lN _ (List.Mem.head _)).1))
    (case tc => (rw [Int.fmod_eq_emod_of_nonneg _ (Int.le_of_lt hm0)]; exact Int.emod_nonneg _ (by omega)))
    (case td => (rw [Int.fmod_eq_emod_of_nonneg _ (Int.le_of_lt hm0)]; exact Int.emod_lt_of_pos _ hm0)))

theorem u_arrow {h₀ : Heap} {L : Addr} {mm : Str → Option Value} {news : List (Addr × Obj)} {G : Obj → List (Addr × Obj)} {q nl : Addr} {c : Nat} {b turn many : Int} {tb tt tm : Tok} {vs : List Value} {ns : List Int} (F : Fr h₀ L s.heap mm) (X₀ : (hd.heap_1 w.params).In h₀) (N : News h₀ L s.heap news) (T : Top view loose mean mg mb h₀)
    (U : UpdF q (W.listOf [Value.ref nl, Value.int b tb, Value.int turn tt].toArray c) news G) (hdp : dp + 2 < recursionLimit)
    (hnl : s.heap.IsList nl vs.toArray) (hi : IntsAre vs ns) (ht0 : 0 ≤ turn) (ht : turn ≤ 50) (hb0 : 0 ≤ b) (hb : b < 67) (hm0 : 0 < many) (hm : many ≤ 100000) (hlen : ns.length ≤ 63)
    (hret : ∀ (r : Int) (t t2 : Tok) (c' : Nat) (h' : Heap) (tk' : Nat), Fr h₀ L h' mm → News h₀ L h' (G (W.listOf [Value.ref nl, Value.int b tb, Value.int (turn + 1) t2].toArray c')) → 0 ≤ r → r < many → Q (.int r t) { s with heap := h', toks := tk' }) :
    wpAny (model PySem.Challenge.rw_pq0533_01.row.prog w) (AT dp un fr gd) (call (.ref 122) [.ref q, .int many tm]) Q E s := by
  obtain ⟨pre, post, e1, e2, o1, o2⟩ := U.split
  have hq : (q, W.listOf [Value.ref nl, Value.int b tb, Value.int turn tt].toArray c) ∈ news := by rw [e1]; exact List.mem_append_right _ (.head _)
  have hs : ∀ p ∈ ([(q, W.listOf [Value.ref nl, Value.int b tb, Value.int turn tt].toArray c)] : List (Addr × Obj)), p ∈ news := fun p hp => by rw [List.mem_singleton.mp hp]; exact hq
  have H := hid_of (h := s.heap) (keep := [(q, W.listOf [Value.ref nl, Value.int b tb, Value.int turn tt].toArray c)]) fun p hp => (N p (hs p hp)).1
  have F2 := hid_fr F N hs
  have hkd : ∀ p ∈ ([(q, W.listOf [Value.ref nl, Value.int b tb, Value.int turn tt].toArray c)] : List (Addr × Obj)), p.2.cls = .type "tuple" ∨ ∃ b r n, p.2.data = .seq (Value.ref b :: r).toArray n := List.forall_mem_cons.mpr ⟨.inr ⟨_, _, _, rfl⟩, List.forall_mem_nil _⟩
  refine c_arrow H (X₀.keeps F2.keep) (T.keeps F2.keep) hdp (H.list hnl (not_ints H hnl hi hkd)) hi ht0 ht hb0 hb hm0 hm hlen fun r t t2 c' h' tk' st hQ' r0 r1 => hret r t t2 c' h' tk' (fr_stays F2 st) (fun p hp => ?_) r0 r1
  rw [e2] at hp
  have stay : ∀ p ∈ news, p.1 ≠ q → h'.get? p.1 = some p.2 := fun p hp hne => st _ _ (hideAll_get _ (N p hp).1 fun hm => hne (List.mem_singleton.mp hm))
  rcases List.mem_append.mp hp with hp | hp
  · have h1 : p ∈ news := by rw [e1]; exact List.mem_append_left _ hp
    exact ⟨stay p h1 (o1 p hp), (N p h1).2⟩
  · rcases List.mem_cons.mp hp with rfl | hp
    · exact ⟨hQ', (N _ hq).2⟩
    · have h1 : p ∈ news := by rw [e1]; exact List.mem_append_right _ (.tail _ hp)
      exact ⟨stay p h1 (o2 p hp), (N p h1).2⟩

end
end Mine
end

section
open PySem PySem.W PyProof.Rows PySem.Calls PySem.Spec
namespace Mine
set_option maxRecDepth 100000
theorem fm_lo {x k : Int} (h : 0 < k) : 0 ≤ x.fmod k := by rw [Int.fmod_eq_emod_of_nonneg _ (Int.le_of_lt h)]; exact Int.emod_nonneg _ (by omega)
theorem fm_hi {x k : Int} (h : 0 < k) : x.fmod k < k := by rw [Int.fmod_eq_emod_of_nonneg _ (Int.le_of_lt h)]; exact Int.emod_lt_of_pos _ h
theorem fm_dvd {x k : Int} (h : 0 < k) : k ∣ x - x.fmod k := by rw [Int.fmod_eq_emod_of_nonneg _ (Int.le_of_lt h)]; exact dvd_sub_symm dvd_mod_sub
theorem fm_zero {x k : Int} (h : 0 < k) (hd : k ∣ x) : x.fmod k = 0 := by rw [Int.fmod_eq_emod_of_nonneg _ (Int.le_of_lt h)]; exact Int.emod_eq_zero_of_dvd hd
theorem len30 {f : Int → Int} {ns : List Int} : (List.map f (List.take 30 ns)).length ≤ 63 := by rw [List.length_map, List.length_take]; omega
/-- the second modulus, what is left of it -/
structure Rid (m n sh : Int) : Prop where
  lo : 1 ≤ n
  hi : n ≤ 300
  eq : sh = (Int.gcd m n : Int)
theorem rid_start {m n : Int} (h1 : 1 ≤ n) (h2 : n ≤ 300) : Rid m n (Int.gcd m n : Int) := ⟨h1, h2, rfl⟩
theorem rid_div {m n sh : Int} (h : Rid m n sh) (hs : 1 < sh) : 1 ≤ n.fdiv sh ∧ n.fdiv sh < n := by
  rw [Int.fdiv_eq_ediv_of_nonneg _ (by omega)]
  have hd : sh ∣ n := by rw [h.eq]; exact Int.gcd_dvd_right _ _
  obtain ⟨c, hc⟩ := hd
  have h1 := h.lo
  have e : n / sh = c := by rw [hc]; exact Int.mul_ediv_cancel_left _ (by omega)
  rw [e]
  have c0 : 0 < c := by
    rcases Int.lt_or_le 0 c with h0 | h0
    · exact h0
    · have := Int.mul_le_mul_of_nonneg_left h0 (show 0 ≤ sh by omega)
      omega
  have c1 : 2 * c ≤ sh * c := Int.mul_le_mul_of_nonneg_right (by omega) (by omega)
  exact ⟨by omega, by omega⟩
theorem rid_turn {m n sh : Int} (h : Rid m n sh) (hs : 1 < sh) : Rid m (n.fdiv sh) (Int.gcd m (n.fdiv sh) : Int) :=
  ⟨(rid_div h hs).1, by have := (rid_div h hs).2; have := h.hi; omega, rfl⟩
theorem rid_done {m n sh : Int} (h : Rid m n sh) (hs : ¬ 1 < sh) : Int.gcd m n = 1 := by
  have h1 := h.lo
  have h2 := h.eq
  have h3 : 0 < Int.gcd m n := Int.gcd_pos_of_ne_zero_right m (by omega)
  omega
theorem rid_log {m n sh : Int} (h : Rid m n sh) : sh.natAbs.log2 < 9000 := by
  have h1 := h.lo
  have h2 := h.hi
  have h3 : sh ≤ n := by rw [h.eq]; exact Int.le_of_dvd (by omega) (Int.gcd_dvd_right _ _)
  have h4 : 0 ≤ sh := by rw [h.eq]; exact Int.natCast_nonneg _
  exact log_small2 h4 ⟨by omega⟩
/-- the third modulus as it is sought -/
structure Third (whole t : Int) : Prop where
  lo : 1 ≤ t
  hi : t ≤ whole + 1
theorem third_start {whole : Int} (h : 1 ≤ whole) : Third whole 1 := ⟨by omega, by omega⟩
theorem gcd_succ (w : Int) : Int.gcd (w + 1) w = 1 := by
  rw [Int.gcd_comm]
  have := Int.gcd_add_mul_left_right w 1 1
  rw [Int.mul_one, Int.add_comm] at this
  rw [this]; exact Int.gcd_one_right w
theorem third_turn {whole t : Int} (h : Third whole t) (hw : 2 ≤ whole) (hs : t < 2 ∨ 1 < (Int.gcd t whole : Int)) : Third whole (t + 1) ∧ t < whole + 1 := by
  have h1 := h.lo
  have h2 := h.hi
  have : t ≠ whole + 1 := by
    rintro rfl
    rcases hs with hs | hs
    · omega
    · rw [gcd_succ] at hs; omega
  exact ⟨⟨by omega, by omega⟩, by omega⟩
theorem third_done {whole t : Int} (h : Third whole t) (h1 : ¬ t < 2) (h2 : ¬ 1 < (Int.gcd t whole : Int)) : Int.gcd t whole = 1 := by
  have : 0 < Int.gcd t whole := Int.gcd_pos_of_ne_zero_left _ (by omega)
  omega
/-- the product of the moduli -/
theorem whole_bd {m n : Int} (h1 : 1 ≤ m) (h2 : m ≤ 310) (h3 : 1 ≤ n) (h4 : n ≤ 300) : m ≤ m * n ∧ m * n ≤ 93000 := by
  have a := Int.mul_le_mul_of_nonneg_left h3 (show 0 ≤ m by omega)
  have b : m * n ≤ m * 300 := Int.mul_le_mul_of_nonneg_left h4 (by omega)
  omega
theorem crt2_symm {n o r0 r1 v : Int} (h : Crt2 n o r0 r1 v) : Crt2 o n r1 r0 v := ⟨(Int.gcd_comm _ _).trans h.cop, h.lo, by rw [Int.mul_comm]; exact h.hi, h.d1, h.d0⟩
/-- a number out of its own rests -/
theorem crt2_own {n o x : Int} (hn : 0 < n) (ho : 0 < o) (hc : Int.gcd n o = 1) (h0 : 0 ≤ x) (h1 : x < n * o) : Crt2 n o (x.fmod n) (x.fmod o) x := ⟨hc, h0, h1, fm_dvd hn, fm_dvd ho⟩
theorem crt2_unit {n r x : Int} (hn : 0 < n) (h0 : 0 ≤ x) (h1 : x < n) : Crt2 n 1 x r x := ⟨Int.gcd_one_right n, h0, by rw [Int.mul_one]; exact h1, dvd_sub_refl, Int.one_dvd _⟩
theorem crt3_eq {n o q r0 r1 r2 v x y : Int} (hc1 : Int.gcd n o = 1) (hc : Int.gcd (n * o) q = 1) (h : Crt3 n o q r0 r1 r2 v) (h2 : Crt2 n o r0 r1 x) (h3 : Crt2 (n * o) q x r2 y) : v = y := by
  refine crt2_uniq (n := n * o) (o := q) (r0 := x) (r1 := r2) ⟨hc, h.lo, h.hi, ?_, h.d2⟩ h3
  have e0 : n ∣ v - x := dvd_sub_trans h.d0 (dvd_sub_symm h2.d0)
  have e1 : o ∣ v - x := dvd_sub_trans h.d1 (dvd_sub_symm h2.d1)
  obtain ⟨c, hc'⟩ := e0
  rw [hc'] at e1 ⊢
  exact Int.mul_dvd_mul_left n (dvd_of_mul hc1 e1)
theorem crt3_eq' {n o q r0 r1 r2 v x y : Int} (h : Crt3 n o q r0 r1 r2 v) (h2 : Crt2 n o r0 r1 x) (h3 : Crt2 (n * o) q x r2 y) : v = y := crt3_eq h2.cop h3.cop h h2 h3
theorem crt2_fmod {n o x r v : Int} (hn : 0 < n) (h0 : 0 ≤ x) (h1 : x < n) (h : Crt2 n o x r v) : v.fmod n = x := by
  rw [Int.fmod_eq_emod_of_nonneg _ (Int.le_of_lt hn)]
  have := Int.emod_emod_of_dvd v (Int.dvd_refl n)
  have e : v % n = x % n := Int.emod_eq_emod_iff_emod_sub_eq_zero.mpr (Int.emod_eq_zero_of_dvd h.d0)
  rw [e, Int.emod_eq_of_lt h0 h1]
theorem gcd_mul_of {n o q : Int} (h : Int.gcd (n * o) q = 1) : Int.gcd n q = 1 ∧ Int.gcd o q = 1 := by
  refine ⟨Int.gcd_eq_one_iff.mpr fun c h1 h2 => ?_, Int.gcd_eq_one_iff.mpr fun c h1 h2 => ?_⟩
  · exact Int.gcd_eq_one_iff.mp h c (Int.dvd_mul_of_dvd_left h1) h2
  · exact Int.gcd_eq_one_iff.mp h c (Int.dvd_mul_of_dvd_right h1) h2

theorem first_facts {m n r0 r1 v sh : Int} (h : Crt2 m n r0 r1 v) (h1 : 1 ≤ m) (h2 : m ≤ 310) (q : Rid m n sh) : m ≤ m * n ∧ m * n ≤ 93000 ∧ (v - r0).fmod m = 0 ∧ (v - r1).fmod n = 0 ∧ 0 ≤ v ∧ v < m * n ∧ 1 ≤ n ∧ n ≤ 300 :=
  have a := whole_bd h1 h2 q.lo q.hi
  have q1 := q.lo
  ⟨a.1, a.2, fm_zero (by omega) h.d0, fm_zero (by omega) h.d1, h.lo, h.hi, q.lo, q.hi⟩
theorem crt2_comm_eq {n o r0 r1 v : Int} (_h : Crt2 n o r0 r1 v) : n * o = o * n := Int.mul_comm _ _
theorem ite_ine_eq {x y : Int} {P Q : Prop} (he : x = y) (h : Q) : if (x != y) = true then P else Q := by rw [if_neg (by simp [he])]; exact h
theorem ite_ndec_t {c : Prop} [Decidable c] {P Q : Prop} (he : c) (h : Q) : if (!decide c) = true then P else Q := by rw [if_neg (by simp [he])]; exact h
theorem ite_ieq_eq {x y : Int} {P Q : Prop} (he : x = y) (h : P) : if (x == y) = true then P else Q := by rw [if_pos (by simp [he])]; exact h
theorem ite_dec_eq {x y : Int} {P Q : Prop} (he : x = y) (h : P) : if decide (x = y) = true then P else Q := by rw [if_pos (by simp [he])]; exact h
theorem ite_dec_t {c : Prop} [Decidable c] {P Q : Prop} (he : c) (h : P) : if decide c = true then P else Q := by rw [if_pos (by simp [he])]; exact h
theorem ite_dec_f {c : Prop} [Decidable c] {P Q : Prop} (he : ¬ c) (h : Q) : if decide c = true then P else Q := by rw [if_neg (by simp [he])]; exact h
theorem eq_int_same {prog : Program} {w : World} {A : Around} {E : Value → Shared → Prop} {s : Shared} {a : Int} {t u : Tok} {Q : Value → Shared → Prop} (h : Q (.bool true) s) : wpAny (model prog w) A (compareOp .Eq (.int a t) (.int a u)) Q E s :=
  eq_int (by rw [show (a == a) = true from by simp]; exact h)
theorem stays_refl (h : Heap) : h.StaysIn h := fun _ _ e => e
def JoinEnd (h₀ : Heap) (L : Addr) (m : Str → Option Value) (news : List (Addr × Obj)) (s : Shared) (fl : Flow) (s' : Shared) : Prop :=
  fl = .next ∧ ∃ h' tk', s' = { s with heap := h', toks := tk' } ∧ Fr h₀ L h' m ∧ News h₀ L h' news
theorem JoinEnd.intro {h₀ h' : Heap} {L : Addr} {m : Str → Option Value} {news : List (Addr × Obj)} {s : Shared} {tk' : Nat} (F : Fr h₀ L h' m) (N : News h₀ L h' news) : JoinEnd h₀ L m news s .next { s with heap := h', toks := tk' } := ⟨rfl, h', tk', rfl, F, N⟩
/-- the ways of an if that meet again -/
theorem join_if {M : Model} {A : Around} {E : Value → Shared → Prop} {s : Shared} {st : Stmt} {env : Env} {Q : Flow → Shared → Prop} {h₀ : Heap} {L : Addr} {m : Str → Option Value} {news : List (Addr × Obj)} (_F : Fr h₀ L s.heap m) (_N : News h₀ L s.heap news)
    (h1 : wpAny M A (exec st env) (JoinEnd h₀ L m news s) E s) (h2 : ∀ h' tk', Fr h₀ L h' m → News h₀ L h' news → Q .next { s with heap := h', toks := tk' }) : wpAny M A (exec st env) Q E s :=
  wpAny_mono h1 (fun fl s' ⟨hfl, h', tk', e, F, N⟩ => by subst hfl; subst e; exact h2 h' tk' F N) fun _ _ y => y
end Mine
end

section
open PySem PySem.W PyProof.Rows PySem.Calls PySem.Spec
namespace Mine
set_option maxRecDepth 100000
theorem eq_int_by {prog : Program} {w : World} {A : Around} {E : Value → Shared → Prop} {s : Shared} {a b : Int} {t u : Tok} {Q : Value → Shared → Prop} (e : a = b) (h : Q (.bool true) s) : wpAny (model prog w) A (compareOp .Eq (.int a t) (.int b u)) Q E s := by
  subst e; exact eq_int_same h
section
variable {w : World} {loose : List Str} {mean : ExcName → Option Value} {mg mb : Str → Option Value} {dp un : Nat} {gd : Option (List Code)} {base g : Heap} {outer : List Env} {s : Shared} {Q E : Value → Shared → Prop}
theorem u_ltwoN {t0 t1 : Addr} {r0 n r1 o k : Int} {u0 z0 u1 z1 tk : Tok} {h₀ : Heap} {L : Addr} {mm : Str → Option Value} {news keep : List (Addr × Obj)} (F : Fr h₀ L s.heap mm) (X₀ : (hd.heap_1 w.params).In h₀) (N : News h₀ L s.heap ((t1, { cls := .type "tuple", data := .seq [Value.int r1 u1, Value.int o z1].toArray }) :: (t0, { cls := .type "tuple", data := .seq [Value.int r0 u0, Value.int n z0].toArray }) :: news)) (hkp : ∀ p ∈ keep, p ∈ news) (T : Top view loose mean mg mb h₀)
    (hk1 : 1 ≤ k) (hk9 : k ≤ 9) (hdp : dp + 14 < recursionLimit)
    (hr0 : 0 ≤ r0) (hr1 : 0 ≤ r1) (hr0S : Small r0) (hr1S : Small r1) (hn : 0 < n) (ho : 0 < o) (hnB : Bd n) (hoB : Bd o)
    (hb : base.StaysIn h₀) (hfl : ∀ g, Fr h₀ L g mm → g.FunFrames base outer)
    (hraise : Int.gcd n o ≠ 1 → ∀ g e h' tk', Fr h₀ L g mm → Fly base g outer e (.ref 49) h' → E (.ref e) { s with heap := h', toks := tk' })
    (hret : ∀ (l : Addr) (v : Int) (tv tp : Tok) (h' : Heap) (tk' : Nat), Fr h₀ L h' mm → News h₀ L h' ((l, { cls := .type "tuple", data := .seq [Value.int v tv, Value.int (n * o) tp].toArray }) :: keep) → Apart l keep → Crt2 n o r0 r1 v → Q (.ref l) { s with heap := h', toks := tk' }) :
    wpAny (model PySem.Challenge.rw_pq0533_01.row.prog w) (AT dp un (some outer) gd) (call (.ref 169) [.ref t0, .ref t1, .int k tk]) Q E s :=
  u_ltwo F X₀ N T (fun p hp => by rcases List.mem_cons.mp hp with rfl | hp; exact .tail _ (.head _); rcases List.mem_cons.mp hp with rfl | hp; exact .head _; cases hp) hk1 hk9 hdp hr0 hr1 hr0S hr1S hn ho hnB hoB hb hfl hraise fun l v tv tp h' tk' F' N' ap cr => hret l v tv tp h' tk' F' (news_sub N' fun p hp => by rcases List.mem_cons.mp hp with rfl | hp; exact .head _; exact .tail _ (.tail _ (.tail _ (hkp p hp)))) (apart_sub ap fun p hp => .tail _ (.tail _ (hkp p hp))) cr
theorem u_ltwoV {t0 t1 : Addr} {r0 n r1 o k V P : Int} {u0 z0 u1 z1 tk : Tok} {h₀ : Heap} {L : Addr} {mm : Str → Option Value} {news keep : List (Addr × Obj)} (F : Fr h₀ L s.heap mm) (X₀ : (hd.heap_1 w.params).In h₀) (N : News h₀ L s.heap ((t1, { cls := .type "tuple", data := .seq [Value.int r1 u1, Value.int o z1].toArray }) :: (t0, { cls := .type "tuple", data := .seq [Value.int r0 u0, Value.int n z0].toArray }) :: news)) (hkp : ∀ p ∈ keep, p ∈ news) (T : Top view loose mean mg mb h₀)
    (hk1 : 1 ≤ k) (hk9 : k ≤ 9) (hdp : dp + 14 < recursionLimit)
    (hr0 : 0 ≤ r0) (hr1 : 0 ≤ r1) (hr0S : Small r0) (hr1S : Small r1) (hn : 0 < n) (ho : 0 < o) (hnB : Bd n) (hoB : Bd o)
    (hb : base.StaysIn h₀) (hfl : ∀ g, Fr h₀ L g mm → g.FunFrames base outer)
    (hraise : Int.gcd n o ≠ 1 → ∀ g e h' tk', Fr h₀ L g mm → Fly base g outer e (.ref 49) h' → E (.ref e) { s with heap := h', toks := tk' })
    (hV : ∀ v, Crt2 n o r0 r1 v → v = V) (hP : n * o = P)
    (hret : ∀ (l : Addr) (tv tp : Tok) (h' : Heap) (tk' : Nat), Fr h₀ L h' mm → News h₀ L h' ((l, { cls := .type "tuple", data := .seq [Value.int V tv, Value.int P tp].toArray }) :: keep) → Apart l keep → Crt2 n o r0 r1 V → Q (.ref l) { s with heap := h', toks := tk' }) :
    wpAny (model PySem.Challenge.rw_pq0533_01.row.prog w) (AT dp un (some outer) gd) (call (.ref 169) [.ref t0, .ref t1, .int k tk]) Q E s :=
  u_ltwo F X₀ N T (fun p hp => by rcases List.mem_cons.mp hp with rfl | hp; exact .tail _ (.head _); rcases List.mem_cons.mp hp with rfl | hp; exact .head _; cases hp) hk1 hk9 hdp hr0 hr1 hr0S hr1S hn ho hnB hoB hb hfl hraise fun l v tv tp h' tk' F' N' ap cr => by
    obtain rfl := hV v cr
    subst hP
    exact hret l tv tp h' tk' F' (news_sub N' fun p hp => by rcases List.mem_cons.mp hp with rfl | hp; exact .head _; exact .tail _ (.tail _ (.tail _ (hkp p hp)))) (apart_sub ap fun p hp => .tail _ (.tail _ (hkp p hp))) cr
theorem u_chinese3V {ps t0 a0 m0 t1 a1 m1 t2 a2 m2 : Addr} {cP : Nat} {va0 vm0 va1 vm1 va2 vm2 : List Value} {da0 da1 da2 : List Int} {r0 n r1 o r2 q k V P : Int} {tk : Tok} {h₀ : Heap} {L : Addr} {mm : Str → Option Value} {news keep : List (Addr × Obj)} (F : Fr h₀ L s.heap mm) (X₀ : (hd.heap_1 w.params).In h₀) (N : News h₀ L s.heap news) (hkp : ∀ p ∈ keep, p ∈ news) (T : Top view loose mean mg mb h₀)
    (hs : ∀ p ∈ ([(ps, W.listOf [Value.ref t0, Value.ref t1, Value.ref t2].toArray cP), (t0, { cls := .type "tuple", data := .seq [Value.ref a0, Value.ref m0].toArray }), (t1, { cls := .type "tuple", data := .seq [Value.ref a1, Value.ref m1].toArray }), (t2, { cls := .type "tuple", data := .seq [Value.ref a2, Value.ref m2].toArray })] : List (Addr × Obj)), p ∈ news)
    (hk1 : 1 ≤ k) (hk9 : k ≤ 9) (hdp : dp + 10 < recursionLimit)
    (hl1 : s.heap.IsList a0 va0.toArray) (hi1 : IntsAre va0 da0) (hD1 : Limbs k da0 r0) (hl2 : s.heap.IsList m0 vm0.toArray) (hi2 : IntsAre vm0 (dig k n)) (hD2 : Limbs k (dig k n) n)
    (hl3 : s.heap.IsList a1 va1.toArray) (hi3 : IntsAre va1 da1) (hD3 : Limbs k da1 r1) (hl4 : s.heap.IsList m1 vm1.toArray) (hi4 : IntsAre vm1 (dig k o)) (hD4 : Limbs k (dig k o) o)
    (hl5 : s.heap.IsList a2 va2.toArray) (hi5 : IntsAre va2 da2) (hD5 : Limbs k da2 r2) (hl6 : s.heap.IsList m2 vm2.toArray) (hi6 : IntsAre vm2 (dig k q)) (hD6 : Limbs k (dig k q) q)
    (hn : 0 < n) (ho : 0 < o) (hq : 0 < q) (hnB : Bd n) (hoB : Bd o) (hqB : Bd q) (hnoB : Bd (n * o)) (hn1 : n ≠ 1) (hq1 : q ≠ 1) (hc1 : Int.gcd n o = 1) (hc2 : Int.gcd n q = 1) (hc3 : Int.gcd o q = 1)
    (hb : base.StaysIn h₀) (hfl : ∀ g, Fr h₀ L g mm → g.FunFrames base outer)
    
    (hV : ∀ v, Crt3 n o q r0 r1 r2 v → v = V) (hP : n * o * q = P)
    (hret : ∀ (l x y : Addr) (xs ys : List Value) (cx cy : Nat) (h' : Heap) (tk' : Nat), Fr h₀ L h' mm → News h₀ L h' ((l, { cls := .type "tuple", data := .seq [Value.ref x, Value.ref y].toArray }) :: (x, W.listOf xs.toArray cx) :: (y, W.listOf ys.toArray cy) :: keep) → Apart l keep → Apart x keep → Apart y keep → IntsAre xs (dig k V) → IntsAre ys (dig k P) → Limbs k (dig k V) V → Limbs k (dig k P) P → Q (.ref l) { s with heap := h', toks := tk' }) :
    wpAny (model PySem.Challenge.rw_pq0533_01.row.prog w) (AT dp un (some outer) gd) (call (.ref 103) [.ref ps, .int k tk, .ref 143, .ref 150, .ref 164]) Q E s :=
  u_chinese3 F X₀ N T hs hk1 hk9 hdp hl1 hi1 hD1 hl2 hi2 hD2 hl3 hi3 hD3 hl4 hi4 hD4 hl5 hi5 hD5 hl6 hi6 hD6 hn ho hq hnB hoB hqB hnoB hn1 hq1 hc1 hc2 hc3 hb hfl fun l x y xs ys cx cy v h' tk' F' N' a1 a2 a3 i1 i2 d1 d2 cr => by
    obtain rfl := hV v cr
    subst hP
    exact hret l x y xs ys cx cy h' tk' F' (news_sub N' fun p hp => by
      rcases List.mem_cons.mp hp with rfl | hp
      · exact .head _
      rcases List.mem_cons.mp hp with rfl | hp
      · exact .tail _ (.head _)
      rcases List.mem_cons.mp hp with rfl | hp
      · exact .tail _ (.tail _ (.head _))
      · exact .tail _ (.tail _ (.tail _ (hkp p hp)))) (apart_sub a1 hkp) (apart_sub a2 hkp) (apart_sub a3 hkp) i1 i2 d1 d2
end
end Mine
end

section
open PySem PySem.W PyProof.Rows PySem.Calls PySem.Spec
namespace Mine
set_option maxRecDepth 100000
set_option maxHeartbeats 16000000
local macro_rules | `(tactic| k_qdec) => `(tactic| decide +kernel)
theorem lawx : PySem.Challenge.rw_pq0533_01.Holds := hd (by
  k_go0
  (all_goals try k_fold)
  k_with_none
  k_with "my lt" => skip
  k_with "my k_ne" => (refine neN ?_; (try dsimp only); first | exact Apart.ne (by assumption) (by k_mem) | exact Ne.symm (Apart.ne (by assumption) (by k_mem)))
  k_with "my call ref" => (k_here; (with_reducible show wpAny _ _ (call (Value.ref 122) _) _ _ _); k_dflt (refine' u_arrow ?k1 ?k2 ?k3 ?k4 ?u ?k7 ?a1 ?a2 ?b1 ?b2 ?b3 ?b4 ?b5 ?b6 ?b7 ?_; (case k1 => k_asm); (case k2 => k_asm); (case k3 => k_asm); (case k4 => k_asm); (case u => k_updF); (case k7 => ((try simp only [depth_deeper, at_depth]); first | decide | omega)); (case a1 => is_list); (case a2 => l_ints); (case b1 => omega); (case b2 => omega); (case b3 => k_extra "quiv"); (case b4 => k_extra "quiv"); (case b5 => omega); (case b6 => omega); (case b7 => k_extra "quiv"); k_whole; intro r' t' t2' c' h' tk' F' N' r0' r1'; (try dsimp only at N'); (try dsimp only); (try k_sweep); (try k_fold)))
  k_with "my call ref" => (k_here; (with_reducible show wpAny _ _ (call (Value.ref 157) _) _ _ _); k_dflt (refine' u_divisor ?k1 ?k2 ?k3 ?k4 ?k7 ?a1 ?a2 ?_; (case k1 => k_asm); (case k2 => k_asm); (case k3 => k_asm); (case k4 => k_asm); (case k7 => ((try simp only [depth_deeper, at_depth]); first | decide | omega)); (case a1 => k_extra "dpos"); (case a2 => k_extra "dpos"); k_whole; intro t' h' tk' F' N'; (try dsimp only at N'); (try dsimp only); (try k_sweep); (try k_fold)))
  k_with "my call ref" => (k_here; (with_reducible show wpAny _ _ (call (Value.ref 176) _) _ _ _); k_dflt (refine' u_refused ?k1 ?k2 ?k3 ?k4 ?hf ?hk ?k5 ?k6 ?k7 ?b1 ?b2 ?b3 ?b4 ?b5 ?_; (case k1 => k_asm); (case k2 => k_asm); (case k3 => k_asm); (case k4 => k_asm); (case hf => exact rfl); (case hk => (show ScopeKind.function ≠ ScopeKind.module; decide)); (case k5 => omega); (case k6 => omega); (case k7 => ((try simp only [depth_deeper, at_depth]); first | decide | omega)); (case b1 => omega); (case b2 => omega); (case b3 => (refine Bd.mk ?_ ?_ <;> omega)); (case b4 => (refine Bd.mk ?_ ?_ <;> omega)); (case b5 => omega); k_whole; intro h' tk' F' N'; (try dsimp only at N'); (try dsimp only); (try k_sweep); (try k_fold)))
  k_with "my exec If" => (k_here; (with_reducible show wpAny _ _ (exec (PySem.Stmt.If (PySem.Expr.BoolOp _ [PySem.Expr.Compare _ _ _ _, PySem.Expr.UnaryOp _ _ _] _) _ _ _) _) _ _ _); k_dflt (refine' join_if ?kf ?kn ?h1 ?h2; (case kf => k_asm); (case kn => k_asm); (case' h1 => refine wpAny_If ?_); (case' h2 => (intro h' tk' F' N'; (try dsimp only); (try k_sweep); (try k_fold)))))
  k_with "my JoinEnd" => k_dflt (exact JoinEnd.intro (by assumption) (by assumption))
  k_with "my ite" => (k_here; first | (with_reducible refine ite_ine_eq rfl ?_) | (with_reducible refine ite_ine_eq (by assumption) ?_) | (with_reducible refine ite_ndec_t (by assumption) ?_) | (with_reducible refine ite_ieq_eq rfl ?_) | (with_reducible refine ite_dec_eq rfl ?_) | (with_reducible refine ite_ieq_eq (by assumption) ?_) | (with_reducible refine ite_dec_t (by assumption) ?_) | (with_reducible refine ite_dec_f (by assumption) ?_))
  k_with "my compareOp Eq int int" => (k_here; k_dflt (refine eq_int_by (by first | assumption | with_reducible rfl) ?_))
  k_with "my exec Assign cons ListComp" => (k_here; (with_reducible show wpAny _ _ (exec (PySem.Stmt.Assign _ (PySem.Expr.ListComp _ [PySem.Comprehension.mk (PySem.Expr.Name _ _) (PySem.Expr.Tuple _ _ _) _ _] _ _) _) _) _ _ _); k_dflt (refine Assign_tup (_F₀ := by k_asm) (by rfl) (by with_unfolding_all rfl) (by with_unfolding_all rfl) (by decide) (by rfl) (by decide) (by rfl) (by rfl) (by rfl) ?_))
  k_with "my eval ListComp" => (k_here; (with_reducible show wpAny _ _ (eval (PySem.Expr.ListComp _ [PySem.Comprehension.mk (PySem.Expr.Name _ _) (PySem.Expr.Tuple _ _ _) _ _] _ _) _) _ _ _); k_dflt (refine ListComp_tup (_F₀ := by k_asm) (by with_unfolding_all rfl) (by decide) (by rfl) (by decide) (by rfl) ?_))
  k_with "my TupComp" => (k_here; k_dflt (refine TupComp.intro (by rfl) (by k_asm) (by k_asm) (by k_mem) (by exact Nat.le_of_ble_eq_true rfl) ?_; intro g'; lcg_lit))
  k_with "my CompRest" => (with_unfolding_all first | (refine LCg.CompRest.succ ?_; intro v' I' oI' C' oC' D' m' h' tk' E' hv' hC' hx' F' N' off' ne'; lcg_open hv'; (have q1' := Off3.a1 off'); (have q2' := Off3.a2 off'); (have q3' := Off3.a3 off'); clear off') | refine LCg.CompRest.zero ?_)
  k_with "my lcg_src" => exact ⟨_, by k_mem, rfl, _, rfl⟩
  k_with "my call ref" => (k_here; (with_reducible show wpAny _ _ (call (Value.ref 136) _) _ _ _); k_dflt (refine' u_number ?k1 ?k2 ?k3 ?k4 ?k5 ?k6 ?k7 ?k8 ?k9 ?k10 ?_; (case k1 => k_asm); (case k2 => k_asm); (case k3 => k_asm); (case k4 => k_asm); (case k5 => omega); (case k6 => omega); (case k7 => ((try simp only [depth_deeper, at_depth]); first | decide | omega)); (case k8 => is_list); (case k9 => l_ints); (case k10 => assumption); k_whole; intro t' h' tk' F' N'; (try dsimp only); (try k_sweep); (try k_fold)))
  k_with "my call ref" => (k_here; (with_reducible show wpAny _ _ (call (Value.ref 129) _) _ _ _); k_dflt (refine' u_limbs ?k1 ?k2 ?k3 ?k4 ?k5 ?k6 ?k7 ?k8 ?k9 ?_; (case k1 => k_asm); (case k2 => k_asm); (case k3 => k_asm); (case k4 => k_asm); (case k5 => omega); (case k6 => omega); (case k7 => ((try simp only [depth_deeper, at_depth]); first | decide | omega)); (case k8 => k_extra "nn"); (case k9 => (refine Small.mk ?_; k_extra "nn")); k_whole; intro l' vs' c' h' tk' F' N' ap' hI' hD'; (try dsimp only); (try k_sweep); (try k_fold)))
  k_with "my call ref" => (k_here; (with_reducible show wpAny _ _ (call (Value.ref 169) _) _ _ _); k_dflt (k_extra "ltwo"))
  k_with "my call ref" => (k_here; (with_reducible show wpAny _ _ (call (Value.ref 103) _) _ _ _); k_dflt (k_extra "three"))
  k_with "my exec While Compare cons nil" => k_extra "my while"
  k_with "my exec While BoolOp cons nil" => k_extra "my while2"
  k_with "quiv" => first | exact fm_lo (by decide) | exact fm_hi (by decide) | exact len30
  k_with "my while" => k_while_given ["m"] (fun m script n shared => Rid m n shared) (fun m script n shared => n.toNat) "n" "shared"
  k_with "state" => first | exact rid_start (by omega) (by omega) | exact rid_turn (by assumption) (by omega) | exact third_start (by omega) | exact (third_turn (by assumption) (by omega) (.inl (by omega))).1 | exact (third_turn (by assumption) (by omega) (.inr (by omega))).1
  k_with "measure" => first | (have q := rid_div (by assumption) (by assumption); omega) | (have q := (third_turn (by assumption) (by omega) (.inl (by omega))).2; have q2 := Third.hi (by assumption); omega) | (have q := (third_turn (by assumption) (by omega) (.inr (by omega))).2; have q2 := Third.hi (by assumption); omega)
  k_with "my while2" => k_while_given ["whole"] (fun whole script third => Third whole third) (fun whole script third => (whole + 1 - third).toNat) "third"
  k_with "binaryOp FloorDiv int int" => (refine' floordiv_int ?ha ?_ ?hp; (case ha => omega); (case hp => exact .inl (PyProof.noPylong_of_log2 (rid_log (by assumption)))))
  k_with "dpos" => first | omega | exact Int.le_trans (by decide) (rid_div (by assumption) (by omega)).1 | (have q := Third.lo (by assumption); omega)
  k_with "nn" => first | omega | (have q := Rid.lo (by assumption); have q2 := Rid.hi (by assumption); omega) | exact fm_lo (by omega) | exact Int.lt_trans (fm_hi (by omega)) (by omega) | (have q := Third.lo (by assumption); have q2 := Third.hi (by assumption); omega)
  k_with "cop" => first | exact rid_done (by assumption) (by assumption) | exact (Int.gcd_comm _ _).trans (rid_done (by assumption) (by assumption)) | exact Int.gcd_one_right _ | exact (Int.gcd_comm _ _).trans (third_done (by assumption) (by assumption) (by assumption))
  k_with "n1" => first | omega | (have q := Third.lo (by assumption); omega)
  k_with "cop3" => first | exact rid_done (by assumption) (by assumption) | exact (gcd_mul_of ((Int.gcd_comm _ _).trans (third_done (by assumption) (by assumption) (by assumption)))).1 | exact (gcd_mul_of ((Int.gcd_comm _ _).trans (third_done (by assumption) (by assumption) (by assumption)))).2
  k_with "behind" => first | ((rename Third _ _ => th'); (have e5' := crt2_fmod (by omega) (by omega) (by omega) cr'); (have q9' := th'.lo); (have q8' := th'.hi)) | (obtain ⟨f1', f2', f3', f4', f5', f6', f7', f8'⟩ := first_facts (by assumption) (by omega) (by omega) (by assumption)) | skip
  k_with "three" => (refine' u_chinese3V (base := _) (outer := _) ?k1 ?k2 ?k3 ?kk ?k4 ?ks ?k5 ?k6 ?k7 ?a1 ?a2 ?a3 ?a4 ?a5 ?a6 ?a7 ?a8 ?a9 ?a10 ?a11 ?a12 ?a13 ?a14 ?a15 ?a16 ?a17 ?a18 ?b1 ?b2 ?b3 ?b4 ?b5 ?b6 ?b7 ?b8 ?b9 ?b10 ?b11 ?b12 ?kb ?kf ?hV ?hP ?_; (case k1 => k_asm); (case k2 => k_asm); (case k3 => k_asm); (case kk => exact fun p hp => hp); (case k4 => k_asm); (case ks => k_allIn); (case k5 => omega); (case k6 => omega); (case k7 => ((try simp only [depth_deeper, at_depth]); first | decide | omega)); (case a1 => is_list); (case a2 => l_ints); (case a3 => assumption); (case a4 => is_list); (case a5 => l_ints); (case a6 => assumption); (case a7 => is_list); (case a8 => l_ints); (case a9 => assumption); (case a10 => is_list); (case a11 => l_ints); (case a12 => assumption); (case a13 => is_list); (case a14 => l_ints); (case a15 => assumption); (case a16 => is_list); (case a17 => l_ints); (case a18 => assumption); (case b1 => k_extra "nn"); (case b2 => k_extra "nn"); (case b3 => k_extra "nn"); (case b4 => (refine Bd.mk ?_ ?_ <;> k_extra "nn")); (case b5 => (refine Bd.mk ?_ ?_ <;> k_extra "nn")); (case b6 => (refine Bd.mk ?_ ?_ <;> k_extra "nn")); (case b7 => (refine Bd.mk ?_ ?_ <;> k_extra "nn")); (case b8 => k_extra "n1"); (case b9 => k_extra "n1"); (case b10 => k_extra "cop3"); (case b11 => k_extra "cop3"); (case b12 => k_extra "cop3"); (case kb => exact stays_refl _); (case kf => (intro g' G'; exact fun_push G' (stays_refl _) trivial rfl (by show ScopeKind.function ≠ ScopeKind.module; decide))); (case hV => exact fun v cr => crt3_eq' cr (by assumption) (by assumption)); (case hP => exact rfl); (intro l' x' y' xs' ys' cx' cy' h' tk' F' N' ap1' ap2' ap3' hI1' hI2' hD1' hD2'; (try dsimp only); (try k_sweep); (try k_fold)))
  k_with "ltwo" => (refine' u_ltwoN (base := _) (outer := _) (keep := [(_, W.listOf [Value.ref _, Value.int _ _, Value.int _ _].toArray _), (_, LCg.lst _), (_ + 1, _)]) ?k1 ?k2 ?k3 ?kk ?k4 ?k5 ?k6 ?k7 ?b1 ?b2 ?b3 ?b4 ?b5 ?b6 ?b7 ?b8 ?kb ?kf ?kr ?_; (case k1 => k_asm); (case k2 => k_asm); (case k3 => k_asm); (case kk => k_allIn); (case k4 => k_asm); (case k5 => omega); (case k6 => omega); (case k7 => ((try simp only [depth_deeper, at_depth]); first | decide | omega)); (case b1 => k_extra "nn"); (case b2 => k_extra "nn"); (case b3 => (refine Small.mk ?_; k_extra "nn")); (case b4 => (refine Small.mk ?_; k_extra "nn")); (case b5 => k_extra "nn"); (case b6 => k_extra "nn"); (case b7 => (refine Bd.mk ?_ ?_ <;> k_extra "nn")); (case b8 => (refine Bd.mk ?_ ?_ <;> k_extra "nn")); (case kb => exact stays_refl _); (case kf => (intro g' G'; exact fun_push G' (stays_refl _) trivial rfl (by show ScopeKind.function ≠ ScopeKind.module; decide))); (case kr => (intro hg' g' e' h' tk' G' R'; exact absurd (by k_extra "cop") hg')); (intro l' v' tv' tp' h' tk' F' N' ap' cr'; k_extra "behind"; (try dsimp only); (try k_sweep); (try k_fold)))
  k_with "ltwo" => (refine' u_ltwoV (base := _) (outer := _) (keep := [(_, W.listOf [Value.ref _, Value.int _ _, Value.int _ _].toArray _), (_, LCg.lst _), (_ + 1, _)]) ?k1 ?k2 ?k3 ?kk ?k4 ?k5 ?k6 ?k7 ?b1 ?b2 ?b3 ?b4 ?b5 ?b6 ?b7 ?b8 ?kb ?kf ?kr ?hV ?hP ?_; (case k1 => k_asm); (case k2 => k_asm); (case k3 => k_asm); (first | ((case hV => exact fun v cr => crt2_uniq (crt2_symm cr) (by assumption)); (case hP => exact Int.mul_comm _ _)) | ((case hV => exact fun v cr => crt2_uniq cr (crt2_own (by omega) (by omega) cr.cop (fm_lo (by omega)) (fm_hi (by omega)))); (case hP => exact rfl)) | ((case hV => exact fun v cr => crt2_uniq cr (crt2_unit (by omega) (fm_lo (by omega)) (fm_hi (by omega)))); (case hP => exact Int.mul_one _))); (case kk => k_allIn); (case k4 => k_asm); (case k5 => omega); (case k6 => omega); (case k7 => ((try simp only [depth_deeper, at_depth]); first | decide | omega)); (case b1 => k_extra "nn"); (case b2 => k_extra "nn"); (case b3 => (refine Small.mk ?_; k_extra "nn")); (case b4 => (refine Small.mk ?_; k_extra "nn")); (case b5 => k_extra "nn"); (case b6 => k_extra "nn"); (case b7 => (refine Bd.mk ?_ ?_ <;> k_extra "nn")); (case b8 => (refine Bd.mk ?_ ?_ <;> k_extra "nn")); (case kb => exact stays_refl _); (case kf => (intro g' G'; exact fun_push G' (stays_refl _) trivial rfl (by show ScopeKind.function ≠ ScopeKind.module; decide))); (case kr => (intro hg' g' e' h' tk' G' R'; exact absurd (by k_extra "cop") hg')); (intro l' tv' tp' h' tk' F' N' ap' cr'; clear cr'; (try dsimp only); (try k_sweep); (try k_fold)))
  k_steps

  )
end Mine
end

set_option maxRecDepth 100000 in
set_option maxHeartbeats 8000000 in
theorem PySem.Challenge.cw_pq0533_01_holds : PySem.Challenge.rw_pq0533_01.Holds := by
  exact Mine.lawx
