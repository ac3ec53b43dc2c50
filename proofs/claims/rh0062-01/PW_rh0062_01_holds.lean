import PyProof.Rows.All
import Wide.All
import OpenK.AllK
import Wide.FinOn
import Lean
import PySem.Challenge.RW_rh0062_01
open PySem PySem.W PyProof.Rows PySem.Calls
set_option Elab.async false
set_option linter.all false
set_option maxRecDepth 100000
set_option maxHeartbeats 8000000
namespace Mine
open_top hd for PySem.Challenge.rw_rh0062_01

section RhDigit

local macro_rules | `(tactic| k_all) => `(tactic| assumption)

local macro_rules | `(tactic| walk_at "binaryOp FloorDiv int int") => `(tactic| (k_here; (refine floordiv_int ?hb ?_ (Or.inr (PySem.PylongRoom.of ?hl ?hd))); (case hb => omega); (case hl => exact Heap.NoLimit.keeps (Top.nolimit (by assumption)) (Fr.keep (by assumption))); (case hd => (simp only [depth_deeper, Builtin.pylongFrames, recursionLimit]; (try dsimp only [ktrTop]); omega))))

theorem digit_c {w : World} {mean : ExcName → Option Value} {mg mb : PySem.Str → Option Value} {dp un : Nat} {gd : Option (List Code)} {cn : PySem.Str} {cs : Scope} {a : Addr} {ccd : Value} {cl : List (PySem.Str × Addr)} {outer : List Env} {A₀ : Around} {base h₀ : Heap} {L : Addr} {m : PySem.Str → Option Value} {s : Shared} {news : List (Addr × Obj)}
   {T S : Addr} {i j lim : Int} {ti tj tl : Tok} {vs : List Value} {ns : List Int} {n n' : Nat} {Q E : Value → Shared → Prop}
   (B : Below A₀ base outer h₀) (F : Fr h₀ L s.heap m) (X : (hd.heap_39 w.params).In h₀) (Tp : Top hd.view_39 (looseW hd.view_39 []) mean mg mb h₀) (hk : cs.kind = .function)
   (N : News h₀ L s.heap ((T, PySem.W.listOf #[.ref S, .int i ti, .int j tj] n) :: (S, PySem.W.listOf vs.toArray n') :: news))
   (hTS : @LT.lt Nat _ S T) (hT : ∀ p ∈ news, p.1 ≠ T) (hS : ∀ p ∈ news, p.1 ≠ S) (hi : 0 ≤ i) (hns : IntsAre vs ns) (hlen : ns.length ≤ 60) (hlim : 0 < lim)
   (hd : dp + 200 < 1000) (hu : un + 1000 < 9900)
   (ret : ∀ r tr i' j' ti' tj' vs' ns' h' tk', Fr h₀ L h' m → News h₀ L h' ((T, PySem.W.listOf #[.ref S, .int i' ti', .int j' tj'] n) :: (S, PySem.W.listOf vs'.toArray n') :: news) → 0 ≤ i' → IntsAre vs' ns' → ns'.length ≤ 60 → 0 ≤ r → r < lim → Q (.int r tr) { s with heap := h', toks := tk' }) :
   wpAny (model PySem.Challenge.rw_rh0062_01.row.prog w) (ktrTop dp un gd cn cs L a ccd cl outer) (call (.ref 65) [.ref T, .int lim tl]) Q E s := by
  refine wpAny_call ?_
  k_dflt ktr_enter
  k_steps
  all_goals (
    refine ret _ _ _ _ _ _ _ _ _ _ (by assumption) (by assumption) ?_ (by first | assumption | exact hns) ?_ ?_ ?_
    · omega
    · first | assumption | (rw [List.length_set]; assumption)
    · first | exact Int.le_refl 0 | exact Int.fmod_nonneg_of_pos _ hlim
    · first | exact hlim | exact Int.fmod_lt_of_pos _ hlim)
end RhDigit

section RhArg

inductive Tm where
  | v (k : Int)
  | a (k : Int)
  | i (k : Int)
  | s1 (f : Int) (t : Tm)
  | s2 (f : Int) (t u : Tm)
def Tm.dep : Tm → Nat
  | .s1 _ t => t.dep + 1
  | .s2 _ t u => max t.dep u.dep + 1
  | _ => 0

abbrev tup (vs : List Value) (n : Nat) : Obj := { cls := .type "tuple", data := .seq vs.toArray n }

inductive TmIn (news : List (Addr × Obj)) : Addr → Tm → Prop
  | v {x : Addr} {t t' : Tok} {k : Int} {n : Nat} : (x, tup [.str (PySem.Str.ofString "v") t, .int k t'] n) ∈ news → 0 ≤ k → k < 4 → TmIn news x (.v k)
  | a {x : Addr} {t t' : Tok} {k : Int} {n : Nat} : (x, tup [.str (PySem.Str.ofString "a") t, .int k t'] n) ∈ news → TmIn news x (.a k)
  | i {x : Addr} {t t' : Tok} {k : Int} {n : Nat} : (x, tup [.str (PySem.Str.ofString "i") t, .int k t'] n) ∈ news → TmIn news x (.i k)
  | s1 {x y v : Addr} {t t' : Tok} {f : Int} {n n' : Nat} {d : Tm} : (x, tup [.str (PySem.Str.ofString "s") t, .int f t', .ref y] n) ∈ news → (y, tup [.ref v] n') ∈ news → TmIn news v d → TmIn news x (.s1 f d)
  | s2 {x y v u : Addr} {t t' : Tok} {f : Int} {n n' : Nat} {d e : Tm} : (x, tup [.str (PySem.Str.ofString "s") t, .int f t', .ref y] n) ∈ news → (y, tup [.ref v, .ref u] n') ∈ news → TmIn news v d → TmIn news u e → TmIn news x (.s2 f d e)

theorem TmIn.mono {news news' : List (Addr × Obj)} (hs : ∀ p ∈ news, p ∈ news') {x : Addr} {d : Tm} (h : TmIn news x d) : TmIn news' x d := by
  induction h with
  | v h a b => exact .v (hs _ h) a b
  | a h => exact .a (hs _ h)
  | i h => exact .i (hs _ h)
  | s1 h h' _ ih => exact .s1 (hs _ h) (hs _ h') ih
  | s2 h h' _ _ ih ih' => exact .s2 (hs _ h) (hs _ h') ih ih'

theorem News.sub {h₀ h : Heap} {L : Addr} {l l' : List (Addr × Obj)} (N : News h₀ L h l) (hs : ∀ p ∈ l', p ∈ l) : News h₀ L h l' := fun p hp => N p (hs p hp)
theorem rot1 {h₀ h : Heap} {L : Addr} {x p q : Addr × Obj} {r : List (Addr × Obj)} (N : News h₀ L h (x :: p :: q :: r)) : News h₀ L h (p :: q :: x :: r) := News.sub N (by intro a ha; simp only [List.mem_cons] at ha ⊢; grind)
theorem rot2 {h₀ h : Heap} {L : Addr} {x y p q : Addr × Obj} {r : List (Addr × Obj)} (N : News h₀ L h (x :: y :: p :: q :: r)) : News h₀ L h (p :: q :: x :: y :: r) := News.sub N (by intro a ha; simp only [List.mem_cons] at ha ⊢; grind)

/-- what a call of _law_argument tells -/
def ArgSpec (w : World) (mean : ExcName → Option Value) (mg mb : PySem.Str → Option Value) (d : Nat) : Prop :=
  ∀ (dp un : Nat) (gd : Option (List Code)) (cn : PySem.Str) (cs : Scope) (a : Addr) (ccd : Value) (cl : List (PySem.Str × Addr)) (outer : List Env) (A₀ : Around) (base h₀ : Heap) (L : Addr) (m : PySem.Str → Option Value) (s : Shared) (fr : List (Addr × Obj))
   (T S : Addr) (i j x : Int) (ti tj tx : Tok) (vs : List Value) (ns : List Int) (n n' : Nat) (Q E : Value → Shared → Prop),
   Below A₀ base outer h₀ → Fr h₀ L s.heap m → (hd.heap_39 w.params).In h₀ → Top hd.view_39 (looseW hd.view_39 []) mean mg mb h₀ → cs.kind = .function →
   News h₀ L s.heap ((T, PySem.W.listOf #[.ref S, .int i ti, .int j tj] n) :: (S, PySem.W.listOf vs.toArray n') :: fr) →
   @LT.lt Nat _ S T → (∀ p ∈ fr, p.1 ≠ T) → (∀ p ∈ fr, p.1 ≠ S) → 0 ≤ i → IntsAre vs ns → ns.length ≤ 60 → x = (d : Int) → dp + d + 210 < 1000 → un + 20 * d + 1020 < 9900 →
   (∀ r t tl i' j' ti' tj' vs' ns' h' tk', Fr h₀ L h' m → News h₀ L h' ((T, PySem.W.listOf #[.ref S, .int i' ti', .int j' tj'] n) :: (S, PySem.W.listOf vs'.toArray n') :: (tl ++ fr)) → 0 ≤ i' → IntsAre vs' ns' → ns'.length ≤ 60 →
     (∀ p ∈ tl, AllLt p.1 ((T, PySem.W.listOf #[.ref S, .int i ti, .int j tj] n) :: (S, PySem.W.listOf vs.toArray n') :: fr)) → TmIn tl r t → t.dep ≤ d → Q (.ref r) { s with heap := h', toks := tk' }) →
   wpAny (model PySem.Challenge.rw_rh0062_01.row.prog w) (ktrTop dp un gd cn cs L a ccd cl outer) (call (.ref 72) [.ref T, .int x tx]) Q E s

local macro_rules | `(tactic| k_all) => `(tactic| assumption)
local macro_rules | `(tactic| walk_at "call ref") => `(tactic| (k_here; (with_reducible show wpAny _ _ (PySem.call (Value.ref 65) _) _ _ _); k_dflt (refine' digit_c ?k1 ?k2 ?k3 ?k4 ?k5 ?kN ?kTS ?kT ?kS ?ki ?kns ?klen ?klim ?kd ?ku ?_; (case k1 => k_asm); (case k2 => k_asm); (case k3 => k_asm); (case k4 => k_asm); (case k5 => first | rfl | assumption); (case kN => first | assumption | exact rot1 (by assumption) | exact rot2 (by assumption)); (case kTS => assumption); (case kT => k_all); (case kS => k_all); (case ki => assumption); (case kns => assumption); (case klen => assumption); (case klim => decide); (case kd => ((try simp only [depth_in1, depth_deeper]); (try dsimp only [ktrTop]); omega)); (case ku => ((try simp only [units_in1, units_deeper]); (try dsimp only [ktrTop]); omega)); k_whole; intro r9 tr9 i9 j9 ti9 tj9 vs9 ns9 h9 tk9 F9 N9 hi9 hns9 hlen9 hr09 hr9; (try dsimp only); (try k_fold))))

theorem arg_use {w : World} {mean : ExcName → Option Value} {mg mb : PySem.Str → Option Value} {dp un : Nat} {gd : Option (List Code)} {cn : PySem.Str} {cs : Scope} {a : Addr} {ccd : Value} {cl : List (PySem.Str × Addr)} {outer : List Env} {A₀ : Around} {base h₀ : Heap} {L : Addr} {m : PySem.Str → Option Value} {s : Shared} {fr : List (Addr × Obj)} {d : Nat}
   {T S : Addr} {i j x : Int} {ti tj tx : Tok} {vs : List Value} {ns : List Int} {n n' : Nat} {Q E : Value → Shared → Prop}
   (C : ∀ k, k < d → ArgSpec w mean mg mb k) (B : Below A₀ base outer h₀) (F : Fr h₀ L s.heap m) (X : (hd.heap_39 w.params).In h₀) (Tp : Top hd.view_39 (looseW hd.view_39 []) mean mg mb h₀) (hk : cs.kind = .function)
   (N : News h₀ L s.heap ((T, PySem.W.listOf #[.ref S, .int i ti, .int j tj] n) :: (S, PySem.W.listOf vs.toArray n') :: fr))
   (hTS : @LT.lt Nat _ S T) (hT : ∀ p ∈ fr, p.1 ≠ T) (hS : ∀ p ∈ fr, p.1 ≠ S) (hi : 0 ≤ i) (hns : IntsAre vs ns) (hlen : ns.length ≤ 60)
   (h0 : 0 ≤ x) (h1 : x < (d : Int)) (hd : dp + d + 209 < 1000) (hu : un + 20 * d + 1000 < 9900)
   (ret : ∀ r t tl i' j' ti' tj' vs' ns' h' tk', Fr h₀ L h' m → News h₀ L h' ((T, PySem.W.listOf #[.ref S, .int i' ti', .int j' tj'] n) :: (S, PySem.W.listOf vs'.toArray n') :: (tl ++ fr)) → 0 ≤ i' → IntsAre vs' ns' → ns'.length ≤ 60 →
     (∀ p ∈ tl, p.1 ≠ T) → (∀ p ∈ tl, p.1 ≠ S) → (∀ p ∈ tl, AllLt p.1 ((T, PySem.W.listOf #[.ref S, .int i ti, .int j tj] n) :: (S, PySem.W.listOf vs.toArray n') :: fr)) → TmIn tl r t → (t.dep : Int) ≤ x → Q (.ref r) { s with heap := h', toks := tk' }) :
   wpAny (model PySem.Challenge.rw_rh0062_01.row.prog w) (ktrTop dp un gd cn cs L a ccd cl outer) (call (.ref 72) [.ref T, .int x tx]) Q E s := by
  refine C x.toNat (by omega) _ _ _ _ _ _ _ _ _ _ _ _ _ _ _ _ _ _ _ _ _ _ _ _ _ _ _ _ _ _ B F X Tp hk N hTS hT hS hi hns hlen (by omega) (by omega) (by omega) ?_
  intro r t tl i' j' ti' tj' vs' ns' h' tk' F' N' hi' hns' hlen' hlt hR hdep
  exact ret r t tl i' j' ti' tj' vs' ns' h' tk' F' N' hi' hns' hlen' (fun p hp => Nat.ne_of_gt (hlt p hp).1) (fun p hp => Nat.ne_of_gt (hlt p hp).2.1) hlt hR (by omega)

theorem all_app {T : Addr} {l l' : List (Addr × Obj)} (h : ∀ p ∈ l, p.1 ≠ T) (h' : ∀ p ∈ l', p.1 ≠ T) : ∀ p ∈ l ++ l', p.1 ≠ T := List.forall_mem_append.mpr ⟨h, h'⟩
local macro_rules | `(tactic| k_all) => `(tactic| (with_reducible refine all_app ?_ ?_) <;> k_all)
local macro_rules | `(tactic| walk_at "call ref") => `(tactic| (k_here; (with_reducible show wpAny _ _ (PySem.call (Value.ref 72) _) _ _ _); k_dflt (refine' arg_use ?kC ?k1 ?k2 ?k3 ?k4 ?k5 ?kN ?kTS ?kT ?kS ?ki ?kns ?klen ?kx0 ?kx1 ?kd ?ku ?_; (case kC => assumption); (case k1 => k_asm); (case k2 => k_asm); (case k3 => k_asm); (case k4 => k_asm); (case k5 => first | rfl | assumption); (case kN => first | assumption | exact rot1 (by assumption) | exact rot2 (by assumption)); (case kTS => assumption); (case kT => k_all); (case kS => k_all); (case ki => assumption); (case kns => assumption); (case klen => assumption); (case kx0 => omega); (case kx1 => omega); (case kd => ((try simp only [depth_in1, depth_deeper]); (try dsimp only [ktrTop]); omega)); (case ku => ((try simp only [units_in1, units_deeper]); (try dsimp only [ktrTop]); omega)); k_whole; intro r9 t9 tl9 i9 j9 ti9 tj9 vs9 ns9 h9 tk9 F9 N9 hi9 hns9 hlen9 hT9 hS9 hlt9 hR9 hd9; (try dsimp only); (try k_fold))))

theorem allLt_app {d : Addr} {l' : List (Addr × Obj)} : ∀ {l : List (Addr × Obj)}, AllLt d (l ++ l') → AllLt d l'
  | [], h => h
  | _ :: _, h => allLt_app h.2
theorem lt_a {D1 T S : Addr} {o o' : Obj} {t fr : List (Addr × Obj)} (h : @LT.lt Nat _ T D1 ∧ @LT.lt Nat _ S D1 ∧ AllLt D1 (t ++ fr)) : AllLt D1 ((T, o) :: (S, o') :: fr) := ⟨h.1, h.2.1, allLt_app h.2.2⟩
theorem lt_b {D1 D2 T S : Addr} {o o' : Obj} {t fr : List (Addr × Obj)} (h : @LT.lt Nat _ D1 D2 ∧ @LT.lt Nat _ T D2 ∧ @LT.lt Nat _ S D2 ∧ AllLt D2 (t ++ fr)) : AllLt D2 ((T, o) :: (S, o') :: fr) := ⟨h.2.1, h.2.2.1, allLt_app h.2.2.2⟩
theorem lt_c {D1 l T S : Addr} {o o' : Obj} {t t' fr : List (Addr × Obj)} (h : @LT.lt Nat _ T D1 ∧ @LT.lt Nat _ S D1 ∧ @LT.lt Nat _ l D1 ∧ AllLt D1 (t ++ (t' ++ fr))) : AllLt D1 ((T, o) :: (S, o') :: fr) := ⟨h.1, h.2.1, allLt_app (allLt_app h.2.2.2)⟩
theorem lt_d {D1 D2 l T S : Addr} {o o' : Obj} {t t' fr : List (Addr × Obj)} (h : @LT.lt Nat _ D1 D2 ∧ @LT.lt Nat _ T D2 ∧ @LT.lt Nat _ S D2 ∧ @LT.lt Nat _ l D2 ∧ AllLt D2 (t ++ (t' ++ fr))) : AllLt D2 ((T, o) :: (S, o') :: fr) := ⟨h.2.1, h.2.2.1, allLt_app (allLt_app h.2.2.2.2)⟩
theorem lt_e {l T S : Addr} {o o' : Obj} {t t' fr : List (Addr × Obj)} (h : @LT.lt Nat _ T l ∧ @LT.lt Nat _ S l ∧ AllLt l (t ++ (t' ++ fr))) : AllLt l ((T, o) :: (S, o') :: fr) := ⟨h.1, h.2.1, allLt_app (allLt_app h.2.2)⟩
theorem lt_f {T S : Addr} {o o' p p' : Obj} {t t' fr : List (Addr × Obj)} (h : ∀ q ∈ t, AllLt q.1 ((T, p) :: (S, p') :: (t' ++ fr))) : ∀ q ∈ t, AllLt q.1 ((T, o) :: (S, o') :: fr) := fun q hq => ⟨(h q hq).1, (h q hq).2.1, allLt_app (h q hq).2.2⟩
theorem lt_g {T S : Addr} {o o' p p' : Obj} {t fr : List (Addr × Obj)} (h : ∀ q ∈ t, AllLt q.1 ((T, p) :: (S, p') :: fr)) : ∀ q ∈ t, AllLt q.1 ((T, o) :: (S, o') :: fr) := fun q hq => ⟨(h q hq).1, (h q hq).2.1, (h q hq).2.2⟩
theorem end_two {h₀ h : Heap} {L : Addr} {a b c p q : Addr × Obj} {t t' fr : List (Addr × Obj)} (N : News h₀ L h (a :: b :: p :: q :: c :: (t ++ (t' ++ fr)))) : News h₀ L h (p :: q :: ((a :: b :: c :: (t ++ t')) ++ fr)) :=
  News.sub N (by intro z hz; simp only [List.mem_cons, List.mem_append, List.cons_append, List.append_assoc] at hz ⊢; grind)

theorem arg_c {w : World} {mean : ExcName → Option Value} {mg mb : PySem.Str → Option Value} (d : Nat) (IH : ∀ k, k < d → ArgSpec w mean mg mb k) : ArgSpec w mean mg mb d := by
  intro dp un gd cn cs a ccd cl outer A₀ base h₀ L m s fr T S i j x ti tj tx vs ns n n' Q E B F X Tp hk N hTS hT hS hi hns hlen hx hd hu ret
  refine wpAny_call ?_
  k_dflt ktr_enter
  k_steps
  all_goals clear B F X Tp N
  all_goals first
    | (exfalso; omega)
    | exact ret _ (.v _) [_] _ _ _ _ _ _ _ _ (by assumption) (rot1 (by assumption)) (by assumption) (by assumption) (by assumption) (List.forall_mem_cons.mpr ⟨by assumption, List.forall_mem_nil _⟩) (TmIn.v (by k_mem) (by assumption) (by assumption)) (Nat.zero_le _)
    | exact ret _ (.a _) [_] _ _ _ _ _ _ _ _ (by assumption) (rot1 (by assumption)) (by assumption) (by assumption) (by assumption) (List.forall_mem_cons.mpr ⟨by assumption, List.forall_mem_nil _⟩) (TmIn.a (by k_mem)) (Nat.zero_le _)
    | exact ret _ (.i _) [_] _ _ _ _ _ _ _ _ (by assumption) (rot1 (by assumption)) (by assumption) (by assumption) (by assumption) (List.forall_mem_cons.mpr ⟨by assumption, List.forall_mem_nil _⟩) (TmIn.i (by k_mem)) (Nat.zero_le _)
    | exact ret _ (.s1 _ _) (_ :: _ :: _) _ _ _ _ _ _ _ _ (by assumption) (rot2 (by assumption)) (by assumption) (by assumption) (by assumption) (List.forall_mem_cons.mpr ⟨lt_b (by assumption), List.forall_mem_cons.mpr ⟨lt_a (by assumption), lt_g (by assumption)⟩⟩) (TmIn.s1 (by k_mem) (by k_mem) (TmIn.mono (fun _ h => .tail _ (.tail _ h)) (by assumption))) (by simp only [Tm.dep]; omega)
    | exact ret _ (.s2 _ _ _) (_ :: _ :: _ :: (_ ++ _)) _ _ _ _ _ _ _ _ (by assumption) (end_two (by assumption)) (by assumption) (by assumption) (by assumption) (List.forall_mem_cons.mpr ⟨lt_d (by assumption), List.forall_mem_cons.mpr ⟨lt_c (by assumption), List.forall_mem_cons.mpr ⟨lt_e (by assumption), List.forall_mem_append.mpr ⟨lt_f (by assumption), lt_g (by assumption)⟩⟩⟩⟩) (TmIn.s2 (by k_mem) (by k_mem) (TmIn.mono (fun _ h => .tail _ (.tail _ (.tail _ (List.mem_append.mpr (.inr h))))) (by assumption)) (TmIn.mono (fun _ h => .tail _ (.tail _ (.tail _ (List.mem_append.mpr (.inl h))))) (by assumption))) (by simp only [Tm.dep]; omega)
    | fail "arg: an end"

theorem arg_all {w : World} {mean : ExcName → Option Value} {mg mb : PySem.Str → Option Value} : ∀ d, ArgSpec w mean mg mb d := by
  intro d
  induction d using Nat.strongRecOn with
  | ind d ih => exact arg_c d ih
end RhArg

section RhComp
section
variable {prog : Program} {w : World} {A : Around} {E : Value → Shared → Prop} {s : Shared} {h₀ : Heap} {L : Addr} {m : PySem.Str → Option Value} {env : Env}

/-- a comprehension's source is a tuple of the ledger -/
def SrcT (prog : Program) (w : World) (A : Around) (h₀ : Heap) (L : Addr) (m : PySem.Str → Option Value) (env : Env) (elt : PySem.Expr) (x : PySem.Str) (scope : Scope) (cl : List (PySem.Str × Addr)) (Fin : Shared → List Value → List (Addr × Obj) → Prop) (xv : Value) (s₁ : Shared) : Prop :=
  ∃ ax vs k news, xv = .ref ax ∧ A.handled = none ∧ Fr h₀ L s₁.heap m ∧ News h₀ L s₁.heap news ∧ (ax, tup vs k) ∈ news ∧ vs.length ≤ sizeLine ∧
    ∀ s₂ : Shared, (∃ h, s₂ = { s₁ with heap := h }) → LCg.CompRest prog w A h₀ L m env elt x scope cl s₂ (fun nw => (ax, tup vs k) ∈ nw) (fun i v => vs.toArray[i]? = some v) (Fin s₂) vs.length 0 [] news

theorem comp_tup {elt iter : PySem.Expr} {x : PySem.Str} {px : Pos} {scope : Scope} {cl : List (PySem.Str × Addr)} {pos : Pos} {Q : Value → Shared → Prop} (_F₀ : Fr h₀ L s.heap m)
    (hclos : closureFor scope env = pure cl) (hcell : ∀ y ∈ scope.names, y.2 ≠ .cell) (hkind : scope.kind = .function)
    (hnames : ∀ y ∈ scope.names, y.2 = .local → scope.names.lookup y.1 = some .local) (hx : scope.names.lookup x = some .local)
    (h : wpAny (model prog w) A (eval iter env) (SrcT prog w A h₀ L m env elt x scope cl (fun s₂ => LCg.FinE h₀ L m s₂ Q)) E s)
    (hs : ∀ x, foldedSetIterable iter env x = pure x := by intro _; rfl) :
    wpAny (model prog w) A (eval (.ListComp elt [⟨.Name x px, iter, [], 0⟩] scope pos) env) Q E s := by
  rw [eval_ListComp]
  refine wpAny_comprehension_free (use := none) rfl hs hclos hkind hnames (wpAny_mono h (fun xv s₁ h₁ => ?_) fun _ _ e => e)
  obtain ⟨ax, vs, k, news, rfl, hh, F, N, hm, hsz, R⟩ := h₁
  have hl : s₁.heap.IsTuple ax vs.toArray := ⟨_, (N _ hm).1, rfl, k, rfl⟩
  have hlt : ax < s₁.heap.objs.size := Heap.lt_size (N _ hm).1
  refine wpAny_pyIter_tuple hl ?_
  have up : ∀ b o, s₁.heap.get? b = some o → (s₁.heap.push { cls := .type "tuple_iterator", data := .fields #[.ref ax, .int 0 0] }).get? b = some o := fun b o e => Heap.get?_push_of_some _ e
  have hsz' : vs.toArray.size = vs.length := List.size_toArray
  refine LCg.block_U (S := fun nw => (ax, tup vs k) ∈ nw) (Walks.tuple hh s₁.heap.objs.size ax (Nat.ne_of_lt hlt) vs.toArray) (by rw [hsz']; exact hsz) (fun i h st => by obtain ⟨o, e, _⟩ := st.1; exact ⟨o, e⟩)
    (fun i h h' o nw st e e' _ N' S' => ⟨by obtain ⟨o', q, r⟩ := st.1; rw [e] at q; cases q; exact ⟨o, e', r⟩, ⟨_, (N' _ S').1, rfl, k, rfl⟩⟩)
    hcell hkind hx ⟨⟨_, Heap.get?_push_size _ rfl, rfl, rfl⟩, ⟨_, up _ _ (N _ hm).1, rfl, k, rfl⟩⟩ (fun b hb => ?_)
    (F.keeps up) (N.grown up) (Nat.ne_of_lt F.ns.lt) (next_is_new F) (fun p hp => Nat.ne_of_lt (Heap.lt_size (N p hp).1)) hm (by rw [hsz']; exact R _ ⟨_, rfl⟩) ?_
  · show b < (s₁.heap.push _).objs.size
    rw [Heap.size_push]
    rcases List.mem_cons.mp hb with rfl | hb
    · exact Nat.lt_succ_self _
    · rw [List.mem_singleton.mp hb]; exact Nat.lt_succ_of_lt hlt
  · intro D C h tk m' ys news' F' N' o1 hn hC₀ hD₀ hCL hDL hCD offC fin
    refine ⟨m', hn, fun h'' hs'' => fin D h'' tk (F'.change hs'' hCL hC₀) (fun p hp => ?_) o1⟩
    refine ⟨hs''.extBut _ _ ?_ (N' p hp).1, (N' p hp).2⟩
    rcases List.mem_cons.mp hp with rfl | hp
    · exact Ne.symm hCD
    · exact offC p hp
end

inductive TmAll (news : List (Addr × Obj)) : List Value → List Tm → Prop
  | nil : TmAll news [] []
  | cons {a : Addr} {t : Tm} {vs : List Value} {ts : List Tm} : TmIn news a t → TmAll news vs ts → TmAll news (.ref a :: vs) (t :: ts)
theorem TmAll.mono {news news' : List (Addr × Obj)} (hs : ∀ p ∈ news, p ∈ news') {vs : List Value} {ts : List Tm} (h : TmAll news vs ts) : TmAll news' vs ts := by
  induction h with
  | nil => exact .nil
  | cons h _ ih => exact .cons (h.mono hs) ih
theorem TmAll.snoc {news : List (Addr × Obj)} {vs : List Value} {ts : List Tm} {a : Addr} {t : Tm} (h : TmAll news vs ts) (k : TmIn news a t) : TmAll news (vs ++ [.ref a]) (ts ++ [t]) := by
  induction h with
  | nil => exact .cons k .nil
  | cons h _ ih => exact .cons h ih
theorem TmAll.length {news : List (Addr × Obj)} {vs : List Value} {ts : List Tm} (h : TmAll news vs ts) : vs.length = ts.length := by
  induction h with
  | nil => rfl
  | cons _ _ ih => rw [List.length_cons, List.length_cons, ih]

/-- no address in common -/
def Apart (tl l : List (Addr × Obj)) : Prop := ∀ q ∈ tl, ∀ p ∈ l, @Ne Nat q.1 p.1
theorem Apart.nil {l : List (Addr × Obj)} : Apart [] l := fun _ h => nomatch h
theorem Apart.lt {x : Addr × Obj} {t l : List (Addr × Obj)} (h : AllLt x.1 l) (k : Apart t l) : Apart (x :: t) l := by
  intro q hq p hp
  rcases List.mem_cons.mp hq with rfl | hq
  · exact Nat.ne_of_gt (ktn_ltOf h p hp)
  · exact k q hq p hp
theorem Apart.cons {x : Addr × Obj} {t l : List (Addr × Obj)} (h : ∀ p ∈ l, @Ne Nat x.1 p.1) (k : Apart t l) : Apart (x :: t) l := by
  intro q hq p hp
  rcases List.mem_cons.mp hq with rfl | hq
  · exact h p hp
  · exact k q hq p hp
theorem Apart.app {t t' l : List (Addr × Obj)} (h : Apart t l) (k : Apart t' l) : Apart (t ++ t') l := by
  intro q hq p hp
  rcases List.mem_append.mp hq with hq | hq
  · exact h q hq p hp
  · exact k q hq p hp
theorem Apart.sub {t l l' : List (Addr × Obj)} (h : Apart t l) (hs : ∀ p ∈ l', p ∈ l) : Apart t l' := fun q hq p hp => h q hq p (hs p hp)
theorem off1_of {D : Addr} : ∀ {l : List (Addr × Obj)}, LCg.Off1 D l → ∀ p ∈ l, @Ne Nat D p.1
  | [], _, _, hp => (nomatch hp)
  | q :: r, h, p, hp => by
    rcases List.mem_cons.mp hp with rfl | hp
    · exact Ne.symm h.1
    · exact off1_of h.2 p hp
/-- a word to the walk: the function of a turn, the greatest depth of a term -/
structure OfFill (f : Tm → Tm) (d : Nat) : Prop where
theorem off3_app {I C D : Addr} {l : List (Addr × Obj)} (h : LCg.Off3 I C D l) : ∀ {t : List (Addr × Obj)}, (∀ p ∈ t, p.1 ≠ I ∧ p.1 ≠ C ∧ p.1 ≠ D) → LCg.Off3 I C D (t ++ l)
  | [], _ => h
  | _ :: _, k => ⟨k _ (.head _), off3_app h fun p hp => k p (.tail _ hp)⟩

section
variable {prog : Program} {w : World} {A : Around} {E : Value → Shared → Prop} {s : Shared} {h₀ : Heap} {L : Addr} {m : PySem.Str → Option Value} {env : Env}

theorem rest_fill {elt : PySem.Expr} {x : PySem.Str} {scope : Scope} {cl : List (PySem.Str × Addr)} {S : List (Addr × Obj) → Prop} {Fin : List Value → List (Addr × Obj) → Prop} {l imm : List (Addr × Obj)} {f : Tm → Tm} {vs : List Value} {ts : List Tm} {dm : Nat}
    (hD : ∀ t ∈ ts, t.dep ≤ dm) (hS : ∀ tl, S (tl ++ l))
    (turn : ∀ a t I oI C oC D ys m₂ h tk (E' : Value → Shared → Prop) tl (Q : Value → Shared → Prop), t.dep ≤ dm → TmIn imm a t → LCg.NsObj oC m₂ → m₂ x = some (.ref a) → Fr h₀ L h m → News h₀ L h ((I, oI) :: (C, oC) :: (D, LCg.lst ys) :: (tl ++ l)) →
      (∀ r tl' h' tk', Fr h₀ L h' m → News h₀ L h' (tl' ++ ((I, oI) :: (C, oC) :: (D, LCg.lst ys) :: (tl ++ l))) → Apart tl' ((I, oI) :: (C, oC) :: (D, LCg.lst ys) :: (tl ++ l)) → TmIn (tl' ++ imm) r (f t) → Q (.ref r) { s with heap := h', toks := tk' }) →
      wpAny (model prog w) A (eval elt (compEnvC scope cl C env)) Q E' { s with heap := h, toks := tk })
    (fin : ∀ ys tl, TmAll (tl ++ imm) ys (ts.map f) → Apart tl l → Fin ys (tl ++ l)) :
    ∀ (vs₂ : List Value) (ts₂ : List Tm) (vs₁ : List Value) (ts₁ : List Tm) (ys : List Value) (tl : List (Addr × Obj)), vs = vs₁ ++ vs₂ → ts = ts₁ ++ ts₂ → TmAll imm vs₂ ts₂ → TmAll (tl ++ imm) ys (ts₁.map f) → Apart tl l →
      LCg.CompRest prog w A h₀ L m env elt x scope cl s S (fun i v => vs.toArray[i]? = some v) Fin vs₂.length vs₁.length ys (tl ++ l) := by
  intro vs₂
  induction vs₂ with
  | nil =>
    intro ts₂ vs₁ ts₁ ys tl _ ht h2 h1 hl
    cases h2
    refine LCg.CompRest.zero (fin ys tl ?_ hl)
    rw [ht, List.append_nil]; exact h1
  | cons v vs₂ ih =>
    intro ts₂ vs₁ ts₁ ys tl hv ht h2 h1 hl
    cases h2 with
    | @cons a t _ ts₂ ha h2 =>
      refine LCg.CompRest.succ fun v' I oI C oC D m₂ h tk E' hP hC hx F N off ne => ?_
      have hv' : v' = .ref a := by
        have e : vs.toArray[vs₁.length]? = some (.ref a) := by
          rw [hv]; simp
        rw [e] at hP; exact (Option.some.inj hP).symm
      subst hv'
      refine turn a t I oI C oC D ys m₂ h tk E' tl _ (hD t (by rw [ht]; simp)) ha hC hx F N fun r tl' h' tk' F' N' hlt hr => ?_
      refine LCg.CompEnd.intro F' N' ((tl' ++ tl) ++ l) ?_ ?_ (hS _) ?_
      · intro p hp
        simp only [List.mem_cons, List.mem_append] at hp ⊢
        grind
      · rw [List.append_assoc]
        exact off3_app off fun p hp => ⟨hlt p hp _ (.head _), hlt p hp _ (.tail _ (.head _)), hlt p hp _ (.tail _ (.tail _ (.head _)))⟩
      · have := ih ts₂ (vs₁ ++ [.ref a]) (ts₁ ++ [t]) (ys ++ [.ref r]) (tl' ++ tl) (by rw [hv]; simp) (by rw [ht]; simp) h2 ?_ ?_
        · rw [List.length_append, List.length_singleton] at this; exact this
        · rw [List.map_append]
          refine TmAll.snoc (h1.mono ?_) (hr.mono ?_)
          · intro p hp; simp only [List.mem_append] at hp ⊢; grind
          · intro p hp; simp only [List.mem_append] at hp ⊢; grind
        · intro q hq
          rcases List.mem_append.mp hq with hq | hq
          · exact fun p hp => hlt q hq p (.tail _ (.tail _ (.tail _ (List.mem_append.mpr (.inr hp)))))
          · exact hl q hq

theorem srcT_fill {elt : PySem.Expr} {x : PySem.Str} {scope : Scope} {cl : List (PySem.Str × Addr)} {Fin : Shared → List Value → List (Addr × Obj) → Prop} {l imm : List (Addr × Obj)} {f : Tm → Tm} {vs : List Value} {ts : List Tm} {ax : Addr} {k : Nat} {s₁ : Shared} {dm : Nat}
    (hf : OfFill f dm) (hD : ∀ t ∈ ts, t.dep ≤ dm) (hh : A.handled = none) (F : Fr h₀ L s₁.heap m) (N : News h₀ L s₁.heap l) (hm : (ax, tup vs k) ∈ l) (hsz : vs.length ≤ sizeLine) (hvs : TmAll imm vs ts)
    (turn : ∀ a t I oI C oC D ys m₂ h tk (E' : Value → Shared → Prop) tl (Q : Value → Shared → Prop), t.dep ≤ dm → TmIn imm a t → LCg.NsObj oC m₂ → m₂ x = some (.ref a) → Fr h₀ L h m → News h₀ L h ((I, oI) :: (C, oC) :: (D, LCg.lst ys) :: (tl ++ l)) →
      (∀ r tl' h' tk', Fr h₀ L h' m → News h₀ L h' (tl' ++ ((I, oI) :: (C, oC) :: (D, LCg.lst ys) :: (tl ++ l))) → Apart tl' ((I, oI) :: (C, oC) :: (D, LCg.lst ys) :: (tl ++ l)) → TmIn (tl' ++ imm) r (f t) → Q (.ref r) { s₁ with heap := h', toks := tk' }) →
      wpAny (model prog w) A (eval elt (compEnvC scope cl C env)) Q E' { s₁ with heap := h, toks := tk })
    (fin : ∀ g ys tl, ys.length = vs.length → TmAll (tl ++ imm) ys (ts.map f) → Apart tl l → Fin { s₁ with heap := g } ys (tl ++ l)) :
    SrcT prog w A h₀ L m env elt x scope cl Fin (.ref ax) s₁ := by
  refine ⟨ax, vs, k, l, rfl, hh, F, N, hm, hsz, ?_⟩
  rintro s₂ ⟨g, rfl⟩
  exact rest_fill (s := { s₁ with heap := g }) (S := fun nw => (ax, tup vs k) ∈ nw) hD (fun tl => List.mem_append.mpr (.inr hm)) turn (fun ys tl ha => fin g ys tl (by rw [ha.length, List.length_map, hvs.length]) ha) vs ts [] [] [] [] rfl rfl hvs .nil (fun _ h => nomatch h)

theorem tuple_lst {D : Addr} {ys : List Value} {news : List (Addr × Obj)} {Q : Value → Shared → Prop} (F : Fr h₀ L s.heap m) (N : News h₀ L s.heap news) (hm : (D, LCg.lst ys) ∈ news) (hz : ys.length ≤ 16384)
    (h : ∀ D' h', Fr h₀ L h' m → News h₀ L h' ((D', tup ys 0) :: news) → (∀ p ∈ news, p.1 < D') → Q (.ref D') { s with heap := h' }) :
    wpAny (model prog w) A (call (.type "tuple") [.ref D]) Q E s :=
  kde_tupleOf F N ⟨_, (N _ hm).1, rfl, _, rfl⟩ (by rw [List.size_toArray]; exact hz) (by simp) h
end
end RhComp

section RhFill

def Tm.pick (t0 t1 t2 t3 : Tm) (k : Int) : Tm := if k = 0 then t0 else if k = 1 then t1 else if k = 2 then t2 else t3
def Tm.fill (t0 t1 t2 t3 : Tm) : Tm → Tm
  | .v k => Tm.pick t0 t1 t2 t3 k
  | .a k => .a k
  | .i k => .i k
  | .s1 f t => .s1 f (Tm.fill t0 t1 t2 t3 t)
  | .s2 f t u => .s2 f (Tm.fill t0 t1 t2 t3 t) (Tm.fill t0 t1 t2 t3 u)

/-- what a call of _law_filled tells -/
def FillSpec (w : World) (mean : ExcName → Option Value) (mg mb : PySem.Str → Option Value) (t0 t1 t2 t3 : Tm) (t : Tm) : Prop :=
  ∀ (dp un : Nat) (gd : Option (List Code)) (cn : PySem.Str) (cs : Scope) (a : Addr) (ccd : Value) (cl : List (PySem.Str × Addr)) (outer : List Env) (A₀ : Around) (base h₀ : Heap) (L : Addr) (m : PySem.Str → Option Value) (s : Shared) (l imm : List (Addr × Obj))
   (p TB a0 a1 a2 a3 : Addr) (nt : Nat) (Q E : Value → Shared → Prop),
   Below A₀ base outer h₀ → Fr h₀ L s.heap m → (hd.heap_39 w.params).In h₀ → Top hd.view_39 (looseW hd.view_39 []) mean mg mb h₀ → cs.kind = .function →
   News h₀ L s.heap l → (∀ q ∈ imm, q ∈ l) → (TB, PySem.W.listOf #[.ref a0, .ref a1, .ref a2, .ref a3] nt) ∈ l → TmIn imm a0 t0 → TmIn imm a1 t1 → TmIn imm a2 t2 → TmIn imm a3 t3 → TmIn imm p t →
   dp + t.dep + 10 < 1000 → un + 20 * t.dep + 1020 < 9900 →
   (∀ r tl h' tk', Fr h₀ L h' m → News h₀ L h' (tl ++ l) → Apart tl l → TmIn (tl ++ imm) r (Tm.fill t0 t1 t2 t3 t) → Q (.ref r) { s with heap := h', toks := tk' }) →
   wpAny (model PySem.Challenge.rw_rh0062_01.row.prog w) (ktrTop dp un gd cn cs L a ccd cl outer) (call (.ref 77) [.ref p, .ref TB]) Q E s

theorem fill_use {w : World} {mean : ExcName → Option Value} {mg mb : PySem.Str → Option Value} {dp un : Nat} {gd : Option (List Code)} {cn : PySem.Str} {cs : Scope} {a : Addr} {ccd : Value} {cl : List (PySem.Str × Addr)} {outer : List Env} {A₀ : Around} {base h₀ : Heap} {L : Addr} {m : PySem.Str → Option Value} {s : Shared} {l imm : List (Addr × Obj)} {t0 t1 t2 t3 t : Tm} {p TB a0 a1 a2 a3 : Addr} {nt : Nat} {Q E : Value → Shared → Prop}
   {d : Nat} (C : ∀ t : Tm, t.dep < d → FillSpec w mean mg mb t0 t1 t2 t3 t) (B : Below A₀ base outer h₀) (F : Fr h₀ L s.heap m) (X : (hd.heap_39 w.params).In h₀) (Tp : Top hd.view_39 (looseW hd.view_39 []) mean mg mb h₀) (hk : cs.kind = .function) (N : News h₀ L s.heap l) (hTB : (TB, PySem.W.listOf #[.ref a0, .ref a1, .ref a2, .ref a3] nt) ∈ l) (hp : TmIn imm p t) (hsub : ∀ q ∈ imm, q ∈ l) 
   (h0 : TmIn imm a0 t0) (h1 : TmIn imm a1 t1) (h2 : TmIn imm a2 t2) (h3 : TmIn imm a3 t3)
   (ht : t.dep < d) (hd : dp + t.dep + 10 < 1000) (hu : un + 20 * t.dep + 1020 < 9900)
   (ret : ∀ r tl h' tk', Fr h₀ L h' m → News h₀ L h' (tl ++ l) → Apart tl l → TmIn (tl ++ imm) r (Tm.fill t0 t1 t2 t3 t) → Q (.ref r) { s with heap := h', toks := tk' }) :
   wpAny (model PySem.Challenge.rw_rh0062_01.row.prog w) (ktrTop dp un gd cn cs L a ccd cl outer) (call (.ref 77) [.ref p, .ref TB]) Q E s :=
  C t ht _ _ _ _ _ _ _ _ _ _ _ _ _ _ _ _ _ _ _ _ _ _ _ _ _ _ B F X Tp hk N hsub hTB h0 h1 h2 h3 hp hd hu ret

theorem mem_a {q : Addr × Obj} {t l : List (Addr × Obj)} (h : q ∈ l) : q ∈ t ++ l := List.mem_append.mpr (.inr h)
theorem sub_a {i t l : List (Addr × Obj)} (h : ∀ q ∈ i, q ∈ l) : ∀ q ∈ i, q ∈ t ++ l := fun q hq => mem_a (h q hq)
theorem sub_c {i l : List (Addr × Obj)} {x : Addr × Obj} (h : ∀ q ∈ i, q ∈ l) : ∀ q ∈ i, q ∈ x :: l := fun q hq => .tail _ (h q hq)

def pickA (a0 a1 a2 a3 : Addr) (k : Int) : Addr := if k = 0 then a0 else if k = 1 then a1 else if k = 2 then a2 else a3
theorem pick_get {a0 a1 a2 a3 : Addr} {k : Int} (h0 : 0 ≤ k) (h4 : k < 4) : ([.ref a0, .ref a1, .ref a2, .ref a3] : List Value)[k.toNat]? = some (.ref (pickA a0 a1 a2 a3 k)) := by
  obtain rfl | rfl | rfl | rfl : k = 0 ∨ k = 1 ∨ k = 2 ∨ k = 3 := by omega
  all_goals rfl
theorem pick_in {imm : List (Addr × Obj)} {a0 a1 a2 a3 : Addr} {t0 t1 t2 t3 : Tm} {k : Int} (h0 : TmIn imm a0 t0) (h1 : TmIn imm a1 t1) (h2 : TmIn imm a2 t2) (h3 : TmIn imm a3 t3) : TmIn imm (pickA a0 a1 a2 a3 k) (Tm.pick t0 t1 t2 t3 k) := by
  unfold pickA Tm.pick
  split
  · exact h0
  · split
    · exact h1
    · split
      · exact h2
      · exact h3
theorem item_pick {prog : Program} {w : World} {A : Around} {E : Value → Shared → Prop} {s : Shared} {value slice : PySem.Expr} {h₀ : Heap} {L l a0 a1 a2 a3 : Addr} {news : List (Addr × Obj)} {n : Nat} {k : Int} {u : Tok} {Q : Value → Shared → Prop}
    (N : News h₀ L s.heap news) (hm : (l, PySem.W.listOf #[.ref a0, .ref a1, .ref a2, .ref a3] n) ∈ news) (h0 : 0 ≤ k) (h4 : k < 4) (h : Q (.ref (pickA a0 a1 a2 a3 k)) s)
    (hs : subscripted slice false (.ref l) (.int k u) = operate [.ref l, .int k u] (getItem (.ref l) (.int k u)) := by with_unfolding_all rfl) :
    wpAny (model prog w) A (subscriptTail value slice (.ref l) (.int k u)) Q E s :=
  have hl : s.heap.IsList l ([.ref a0, .ref a1, .ref a2, .ref a3] : List Value).toArray := ⟨_, (N _ hm).1, rfl, n, rfl⟩
  tail_any hl.typeIs slot_list_getitem.lookup (wpAny_getItem_list hl h0 (by omega) (by simpa using pick_get h0 h4) h) hs

local macro_rules | `(tactic| walk_at "subscriptTail") => `(tactic| (k_here; (with_reducible show wpAny _ _ (subscriptTail _ _ (Value.ref _) (Value.int _ _)) _ _ _); k_dflt (refine' item_pick ?k1 ?k2 ?k3 ?k4 ?_ ?k5; (case k1 => k_asm); (case k2 => k_mem); (case k3 => assumption); (case k4 => assumption); (case k5 => with_unfolding_all rfl); k_whole)))
local macro_rules | `(tactic| ktr_enter) => `(tactic| (refine' code_defC ?k1 ?k2 ?k3 ?k4 ?k5 ?kA ?kF ?kK ?k6 ?k7 ?k8 ?k9 ?kB ?kD ?_ ?c2 ?c3 ?c4; (case kA => exact rfl); (case kF => exact rfl); (case kK => assumption); (case k1 => k_asm); (case k2 => k_asm); (case k3 => k_asm); (case k4 => k_asm); (case k5 => k_asm); (case k6 => k_is); (case k7 => k_is); (case k8 => ((try simp only [depth_in1, depth_deeper, recursionLimit]); (try dsimp only [ktrTop]); omega)); (case k9 => exact BindsTo.of_eq rfl); (case kB => exact rfl); (case kD => decide +kernel); (case c2 => exact rfl); (case c3 => exact rfl); (case c4 => exact rfl); k_whole; intro g' L' h' tk' cells' FG' F' N' Y' B' X' T' l1; (try k_lt l1); k_cells Y'; (try simp only [List.cons_append, List.nil_append] at N'); (try dsimp only); (try k_fold)))
local macro_rules | `(tactic| k_mem) => `(tactic| first | assumption | (refine mem_a ?_; k_mem))
local macro_rules | `(tactic| kqd_sub) => `(tactic| first | assumption | (refine sub_c ?_; kqd_sub) | (refine sub_a ?_; kqd_sub))
local macro_rules | `(tactic| walk_at "eval ListComp") => `(tactic| (k_here; k_dflt (refine comp_tup (by k_asm) (by with_unfolding_all rfl) (by decide) (by rfl) (by decide) (by rfl) ?_)))
local macro_rules | `(tactic| walk_at "SrcT") => `(tactic| (k_dflt (refine' srcT_fill ?kf ?kD ?k1 ?k2 ?k3 ?k4 ?k5 ?k6 ?_ ?_; (case k1 => rfl); (case k2 => k_asm); (case k3 => k_asm); (case k4 => k_mem); (case k5 => exact Nat.le_of_ble_eq_true rfl); (case k6 => assumption); (case kf => assumption); (case kD => assumption)); intros))
local macro_rules | `(tactic| walk_at "call type:tuple") => `(tactic| (k_here; (with_reducible show wpAny _ _ (PySem.call (Value.type _) [Value.ref _]) _ _ _); k_dflt (refine' tuple_lst ?k1 ?k2 ?k3 ?k4 ?_; (case k1 => k_asm); (case k2 => k_asm); (case k3 => k_mem); (case k4 => ((simp only [List.length_cons, List.length_nil] at *); omega)); k_whole); intro D' h' F' N' l1; (try k_lt l1); (try k_sweep)))
local macro_rules | `(tactic| walk_at "call ref") => `(tactic| (k_here; (with_reducible show wpAny _ _ (PySem.call (Value.ref 77) _) _ _ _); k_dflt (refine' fill_use ?kC ?k1 ?k2 ?k3 ?k4 ?k5 ?kN ?kT ?kp ?ks ?k20 ?k21 ?k22 ?k23 ?kt ?kd ?ku ?_; (case k1 => k_asm); (case k2 => k_asm); (case k3 => k_asm); (case k4 => k_asm); (case k5 => first | rfl | assumption); (case kN => k_asm); (case kT => k_mem); (case kp => assumption); (case ks => kqd_sub); (case k20 => assumption); (case k21 => assumption); (case k22 => assumption); (case k23 => assumption); (case kC => assumption); (case kt => omega); (case kd => ((try simp only [depth_in1, depth_deeper]); (try dsimp only [ktrTop]); omega)); (case ku => ((try simp only [units_in1, units_deeper]); (try dsimp only [ktrTop]); omega)); k_whole; intro r9 tl9 h9 tk9 F9 N9 hlt9 hR9; (try dsimp only); (try k_fold))))

theorem fill_endN {h₀ h : Heap} {L : Addr} {a b c d : Addr × Obj} {t l : List (Addr × Obj)} (N : News h₀ L h (a :: b :: c :: (t ++ d :: l))) : News h₀ L h ((a :: b :: c :: (t ++ [d])) ++ l) := by simpa using N
theorem cell_apart {c : Addr} {o : Obj} {l : List (Addr × Obj)} (h : ∀ p ∈ l, p.1 < c) : Apart [(c + 1, o)] l := by
  intro q hq p hp
  rw [List.mem_singleton.mp hq]
  exact Nat.ne_of_gt (Nat.lt_succ_of_lt (h p hp))
theorem fill_apart {a b c d : Addr × Obj} {t l : List (Addr × Obj)} (h1 : AllLt a.1 (b :: c :: (t ++ d :: l))) (h2 : AllLt b.1 (c :: (t ++ d :: l))) (h3 : LCg.Off1 c.1 (t ++ d :: l)) (h4 : Apart t (d :: l)) (h5 : Apart [d] l) : Apart (a :: b :: c :: (t ++ [d])) l :=
  Apart.lt (allLt_app h1.2.2).2 (Apart.lt (allLt_app h2.2).2 (Apart.cons (fun p hp => off1_of h3 p (List.mem_append.mpr (.inr (.tail _ hp)))) (Apart.app (h4.sub fun _ hp => .tail _ hp) h5)))
theorem fill_sub {a b c d : Addr × Obj} {t imm : List (Addr × Obj)} : ∀ p ∈ t ++ imm, p ∈ (a :: b :: c :: (t ++ [d])) ++ imm := by
  intro p hp
  simp only [List.mem_cons, List.mem_append] at hp ⊢
  grind

theorem fill_c {w : World} {mean : ExcName → Option Value} {mg mb : PySem.Str → Option Value} {t0 t1 t2 t3 : Tm} (t : Tm) (IH : ∀ t' : Tm, t'.dep < t.dep → FillSpec w mean mg mb t0 t1 t2 t3 t') : FillSpec w mean mg mb t0 t1 t2 t3 t := by
  intro dp un gd cn cs a ccd cl outer A₀ base h₀ L m s l imm p TB a0 a1 a2 a3 nt Q E B F X Tp hk N hsub hTB h0 h1 h2 h3 hp hd hu ret
  have hp0 := hp
  cases hp with
  | v hp k0 k4 =>
    have hp' := hsub _ hp
    refine wpAny_call ?_
    k_dflt ktr_enter
    k_steps
    all_goals exact ret _ [_] _ _ (by assumption) (by assumption) (cell_apart (by assumption)) (TmIn.mono (fun _ h => .tail _ h) (pick_in h0 h1 h2 h3))
  | a hp =>
    have hp' := hsub _ hp
    refine wpAny_call ?_
    k_dflt ktr_enter
    k_steps
    all_goals exact ret _ [_] _ _ (by assumption) (by assumption) (cell_apart (by assumption)) (TmIn.mono (fun _ h => .tail _ h) hp0)
  | i hp =>
    have hp' := hsub _ hp
    refine wpAny_call ?_
    k_dflt ktr_enter
    k_steps
    all_goals exact ret _ [_] _ _ (by assumption) (by assumption) (cell_apart (by assumption)) (TmIn.mono (fun _ h => .tail _ h) hp0)
  | @s1 _ _ _ _ _ f _ _ d hp hq hr =>
    have hp' := hsub _ hp
    have hq' := hsub _ hq
    have hvs := TmAll.cons hr .nil
    have hM : OfFill (Tm.fill t0 t1 t2 t3) d.dep := ⟨⟩
    have hD : ∀ t ∈ [d], t.dep ≤ d.dep := by intro t ht; rw [List.mem_singleton.mp ht]; exact Nat.le_refl _
    have hlt : d.dep < (Tm.s1 f d).dep := Nat.lt_succ_self _
    refine wpAny_call ?_
    k_dflt ktr_enter
    k_steps
    · rename_i ret' _ _ _ _ _ _ _ _ _
      exact ret' _ _ _ _ (by assumption) (by assumption) (by assumption) (by assumption)
    · rename TmAll _ _ (List.map _ _) => hA
      cases hA with | cons hA hB => ?_
      cases hB
      exact ret _ (_ :: _ :: _ :: (_ ++ [_])) _ _ (by assumption) (fill_endN (by assumption)) (fill_apart (by assumption) (by assumption) (by assumption) (by assumption) (cell_apart (by assumption))) (TmIn.s1 (.head _) (.tail _ (.head _)) (hA.mono fill_sub))
  | @s2 _ _ _ _ _ _ f _ _ d e hp hq hr hr' =>
    have hp' := hsub _ hp
    have hq' := hsub _ hq
    have hvs := TmAll.cons hr (.cons hr' .nil)
    have hM : OfFill (Tm.fill t0 t1 t2 t3) (max d.dep e.dep) := ⟨⟩
    have hD : ∀ t ∈ [d, e], t.dep ≤ max d.dep e.dep := by
      intro t ht
      rcases List.mem_cons.mp ht with rfl | ht
      · exact Nat.le_max_left _ _
      · rw [List.mem_singleton.mp ht]; exact Nat.le_max_right _ _
    have hlt : max d.dep e.dep < (Tm.s2 f d e).dep := Nat.lt_succ_self _
    refine wpAny_call ?_
    k_dflt ktr_enter
    k_steps
    · rename_i ret' _ _ _ _ _ _ _ _ _
      exact ret' _ _ _ _ (by assumption) (by assumption) (by assumption) (by assumption)
    · rename TmAll _ _ (List.map _ _) => hA
      cases hA with | cons hA hB => ?_
      cases hB with | cons hB hC => ?_
      cases hC
      exact ret _ (_ :: _ :: _ :: (_ ++ [_])) _ _ (by assumption) (fill_endN (by assumption)) (fill_apart (by assumption) (by assumption) (by assumption) (by assumption) (cell_apart (by assumption))) (TmIn.s2 (.head _) (.tail _ (.head _)) (hA.mono fill_sub) (hB.mono fill_sub))
theorem fill_all {w : World} {mean : ExcName → Option Value} {mg mb : PySem.Str → Option Value} {t0 t1 t2 t3 : Tm} : ∀ t : Tm, FillSpec w mean mg mb t0 t1 t2 t3 t := by
  have all : ∀ n, ∀ t : Tm, t.dep < n → FillSpec w mean mg mb t0 t1 t2 t3 t := by
    intro n
    induction n with
    | zero => intro t h; exact absurd h (Nat.not_lt_zero _)
    | succ n ih => exact fun t h => fill_c t fun t' h' => ih t' (Nat.lt_of_lt_of_le h' (Nat.le_of_lt_succ h))
  exact fun t => all _ t (Nat.lt_succ_self _)
end RhFill

section RhKey

inductive Key where
  | var
  | con (c k : Int)
  | list
  | struct (f : Int)
def keyF (f : Int) : Key := if f = 0 then .list else .struct f
def keyOf : Tm → Key
  | .v _ => .var
  | .a k => .con 4 k
  | .i k => .con 5 k
  | .s1 f _ => keyF f
  | .s2 f _ _ => keyF f
def keyOfs : List Tm → Key
  | [] => .var
  | t :: _ => keyOf t
inductive KeyIn (news : List (Addr × Obj)) : Addr → Key → Prop
  | var {x : Addr} {t : Tok} {n : Nat} : (x, tup [.str (PySem.Str.ofString "var") t] n) ∈ news → KeyIn news x .var
  | con {x y : Addr} {t t' t'' : Tok} {n n' : Nat} {c k : Int} : (x, tup [.str (PySem.Str.ofString "const") t, .ref y] n) ∈ news → (y, tup [.int c t', .int k t''] n') ∈ news → KeyIn news x (.con c k)
  | list {x : Addr} {t : Tok} {n : Nat} : (x, tup [.str (PySem.Str.ofString "list") t] n) ∈ news → KeyIn news x .list
  | struct {x : Addr} {t t' : Tok} {n : Nat} {f : Int} : (x, tup [.str (PySem.Str.ofString "struct") t, .int f t'] n) ∈ news → KeyIn news x (.struct f)
  | gvar : KeyIn news 29 .var
  | glist : KeyIn news 30 .list
theorem KeyIn.mono {news news' : List (Addr × Obj)} (hs : ∀ p ∈ news, p ∈ news') {x : Addr} {k : Key} (h : KeyIn news x k) : KeyIn news' x k := by
  cases h with
  | var h => exact .var (hs _ h)
  | con h h' => exact .con (hs _ h) (hs _ h')
  | list h => exact .list (hs _ h)
  | struct h => exact .struct (hs _ h)
  | gvar => exact .gvar
  | glist => exact .glist

theorem len_tup {prog : Program} {w : World} {A : Around} {E : Value → Shared → Prop} {s : Shared} {h₀ : Heap} {L t : Addr} {news : List (Addr × Obj)} {vs : List Value} {k : Nat} {Q : Value → Shared → Prop}
    (N : News h₀ L s.heap news) (hm : (t, tup vs k) ∈ news) (hz : vs.length ≤ 16384) (h : ∀ tk, Q (.int (vs.length : Int) tk) { s with toks := s.toks + 1 + 1 }) :
    wpAny (model prog w) A (call (.builtin "len") [.ref t]) Q E s :=
  len_tuple (News.isTup N hm) (by rw [List.size_toArray]; omega) (by rw [List.size_toArray]; exact h _)

theorem item_tup0 {prog : Program} {w : World} {A : Around} {E : Value → Shared → Prop} {s : Shared} {value slice : PySem.Expr} {h₀ : Heap} {L t : Addr} {news : List (Addr × Obj)} {v : Value} {vs : List Value} {n : Nat} {u : Tok} {Q : Value → Shared → Prop}
    (N : News h₀ L s.heap news) (hm : (t, tup (v :: vs) n) ∈ news) (h : Q v s)
    (hs : subscripted slice false (.ref t) (.int 0 u) = operate [.ref t, .int 0 u] (getItem (.ref t) (.int 0 u)) := by with_unfolding_all rfl) :
    wpAny (model prog w) A (subscriptTail value slice (.ref t) (.int 0 u)) Q E s :=
  item_tupleT (l := v :: vs) (j := 0) (News.isTup N hm) (by decide) (by decide) (by unfold seqIndex?; simp) rfl h hs

local macro_rules | `(tactic| walk_at "subscriptTail") => `(tactic| (k_here; (with_reducible show wpAny _ _ (subscriptTail _ _ (Value.ref _) (Value.int 0 _)) _ _ _); k_dflt (refine' item_tup0 ?k1 ?k2 ?_ ?k5; (case k1 => k_asm); (case k2 => k_mem); (case k5 => with_unfolding_all rfl); k_whole)))
local macro_rules | `(tactic| ktr_enter) => `(tactic| (refine' code_def ?k1 ?k2 ?k3 ?k4 ?k5 ?kA ?kF ?kK ?k6 ?k7 ?k8 ?k9 ?kB ?_ ?c2 ?c3 ?c4 ?c5; (case kA => exact rfl); (case kF => exact rfl); (case kK => first | assumption | exact rfl); (case k1 => k_asm); (case k2 => k_asm); (case k3 => k_asm); (case k4 => k_asm); (case k5 => k_asm); (case k6 => k_is); (case k7 => k_is); (case k8 => ((try simp only [depth_in1, depth_deeper, recursionLimit]); (try dsimp only [ktrTop]); omega)); (case k9 => exact BindsTo.of_eq rfl); (case c5 => decide); (case kB => exact locs rfl); (case c2 => exact rfl); (case c3 => exact rfl); (case c4 => exact rfl); k_whole; intro g' L' h' FG' F' N' B' X' T'; (try dsimp only); (try k_fold)))
local macro_rules | `(tactic| k_mem) => `(tactic| first | assumption | (refine mem_a ?_; k_mem))
local macro_rules | `(tactic| walk_at "call builtin:len") => `(tactic| (k_here; (with_reducible show wpAny _ _ (PySem.call (Value.builtin "len") [Value.ref _]) _ _ _); k_dflt (refine' len_tup ?k1 ?k2 ?k3 ?_; (case k1 => k_asm); (case k2 => k_mem); (case k3 => ((try simp only [List.length_cons, List.length_nil] at *); omega)); k_whole); intro tk9; (try simp only [List.length_cons, List.length_nil])))
local macro_rules | `(tactic| walk_at "call ref") => `(tactic| (k_here; (first | (with_reducible show wpAny _ _ (PySem.call (Value.ref 21) _) _ _ _) | (with_reducible show wpAny _ _ (PySem.call (Value.ref 37) _) _ _ _) | (with_reducible show wpAny _ _ (PySem.call (Value.ref 44) _) _ _ _)); (refine wpAny_call ?_); k_dflt ktr_enter))

theorem keyF_list {news : List (Addr × Obj)} {x : Addr} {f : Int} (hf : f = 0) (h : KeyIn news x .list) : KeyIn news x (keyF f) := by rw [keyF, if_pos hf]; exact h
theorem keyF_struct {news : List (Addr × Obj)} {x : Addr} {f : Int} (hf : f ≠ 0) (h : KeyIn news x (.struct f)) : KeyIn news x (keyF f) := by rw [keyF, if_neg hf]; exact h

/-- a call of first_argument_key -/
theorem fak_c {w : World} {mean : ExcName → Option Value} {mg mb : PySem.Str → Option Value} {dp un : Nat} {gd : Option (List Code)} {cn : PySem.Str} {cs : Scope} {a : Addr} {ccd : Value} {cl : List (PySem.Str × Addr)} {outer : List Env} {A₀ : Around} {base h₀ : Heap} {L : Addr} {m : PySem.Str → Option Value} {s : Shared} {l imm : List (Addr × Obj)} {p : Addr} {vs : List Value} {ts : List Tm} {n : Nat} {Q E : Value → Shared → Prop}
   (B : Below A₀ base outer h₀) (F : Fr h₀ L s.heap m) (X : (hd.heap_39 w.params).In h₀) (Tp : Top hd.view_39 (looseW hd.view_39 []) mean mg mb h₀) (hk : cs.kind = .function) (N : News h₀ L s.heap l) (hp : (p, tup vs n) ∈ l) (hts : TmAll imm vs ts) (hsub : ∀ q ∈ imm, q ∈ l) (hlen : vs.length ≤ 16384)
   (hd : dp + 10 < 1000) (hu : un + 1000 < 9900)
   (ret : ∀ r tl h' tk', Fr h₀ L h' m → News h₀ L h' (tl ++ l) → Apart tl l → KeyIn tl r (keyOfs ts) → Q (.ref r) { s with heap := h', toks := tk' }) :
   wpAny (model PySem.Challenge.rw_rh0062_01.row.prog w) (ktrTop dp un gd cn cs L a ccd cl outer) (call (.ref 28) [.ref p]) Q E s := by
  cases hts with
  | nil =>
    refine wpAny_call ?_
    k_dflt ktr_enter
    k_steps
    all_goals first
        | (exfalso; omega)
        | exact ret _ [_] _ _ (by assumption) (by assumption) (Apart.lt (by first | assumption | exact allLt_of (by assumption)) Apart.nil) (KeyIn.var (.head _))
        | exact ret _ [_, _] _ _ (by assumption) (by assumption) (Apart.lt (And.right (by assumption)) (Apart.lt (by first | assumption | exact allLt_of (by assumption)) Apart.nil)) (KeyIn.con (.head _) (.tail _ (.head _)))
        | exact ret _ [_] _ _ (by assumption) (by assumption) (Apart.lt (by first | assumption | exact allLt_of (by assumption)) Apart.nil) (keyF_list (by omega) (KeyIn.list (.head _)))
        | exact ret _ [_] _ _ (by assumption) (by assumption) (Apart.lt (by first | assumption | exact allLt_of (by assumption)) Apart.nil) (keyF_struct (by omega) (KeyIn.struct (.head _)))
        | exact ret _ [] _ _ (by assumption) (by assumption) Apart.nil KeyIn.gvar
        | exact ret _ [] _ _ (by assumption) (by assumption) Apart.nil (keyF_list (by omega) KeyIn.glist)
        | fail "key: an end"
  | cons ht hts =>
    cases ht with
    | v ht k0 k4 =>
      have ht' := hsub _ ht
      refine wpAny_call ?_
      k_dflt ktr_enter
      k_steps
      all_goals first
        | (exfalso; omega)
        | exact ret _ [_] _ _ (by assumption) (by assumption) (Apart.lt (by first | assumption | exact allLt_of (by assumption)) Apart.nil) (KeyIn.var (.head _))
        | exact ret _ [_, _] _ _ (by assumption) (by assumption) (Apart.lt (And.right (by assumption)) (Apart.lt (by first | assumption | exact allLt_of (by assumption)) Apart.nil)) (KeyIn.con (.head _) (.tail _ (.head _)))
        | exact ret _ [_] _ _ (by assumption) (by assumption) (Apart.lt (by first | assumption | exact allLt_of (by assumption)) Apart.nil) (keyF_list (by omega) (KeyIn.list (.head _)))
        | exact ret _ [_] _ _ (by assumption) (by assumption) (Apart.lt (by first | assumption | exact allLt_of (by assumption)) Apart.nil) (keyF_struct (by omega) (KeyIn.struct (.head _)))
        | exact ret _ [] _ _ (by assumption) (by assumption) Apart.nil KeyIn.gvar
        | exact ret _ [] _ _ (by assumption) (by assumption) Apart.nil (keyF_list (by omega) KeyIn.glist)
        | fail "key: an end"
    | a ht =>
      have ht' := hsub _ ht
      refine wpAny_call ?_
      k_dflt ktr_enter
      k_steps
      all_goals first
        | (exfalso; omega)
        | exact ret _ [_] _ _ (by assumption) (by assumption) (Apart.lt (by first | assumption | exact allLt_of (by assumption)) Apart.nil) (KeyIn.var (.head _))
        | exact ret _ [_, _] _ _ (by assumption) (by assumption) (Apart.lt (And.right (by assumption)) (Apart.lt (by first | assumption | exact allLt_of (by assumption)) Apart.nil)) (KeyIn.con (.head _) (.tail _ (.head _)))
        | exact ret _ [_] _ _ (by assumption) (by assumption) (Apart.lt (by first | assumption | exact allLt_of (by assumption)) Apart.nil) (keyF_list (by omega) (KeyIn.list (.head _)))
        | exact ret _ [_] _ _ (by assumption) (by assumption) (Apart.lt (by first | assumption | exact allLt_of (by assumption)) Apart.nil) (keyF_struct (by omega) (KeyIn.struct (.head _)))
        | exact ret _ [] _ _ (by assumption) (by assumption) Apart.nil KeyIn.gvar
        | exact ret _ [] _ _ (by assumption) (by assumption) Apart.nil (keyF_list (by omega) KeyIn.glist)
        | fail "key: an end"
    | i ht =>
      have ht' := hsub _ ht
      refine wpAny_call ?_
      k_dflt ktr_enter
      k_steps
      all_goals first
        | (exfalso; omega)
        | exact ret _ [_] _ _ (by assumption) (by assumption) (Apart.lt (by first | assumption | exact allLt_of (by assumption)) Apart.nil) (KeyIn.var (.head _))
        | exact ret _ [_, _] _ _ (by assumption) (by assumption) (Apart.lt (And.right (by assumption)) (Apart.lt (by first | assumption | exact allLt_of (by assumption)) Apart.nil)) (KeyIn.con (.head _) (.tail _ (.head _)))
        | exact ret _ [_] _ _ (by assumption) (by assumption) (Apart.lt (by first | assumption | exact allLt_of (by assumption)) Apart.nil) (keyF_list (by omega) (KeyIn.list (.head _)))
        | exact ret _ [_] _ _ (by assumption) (by assumption) (Apart.lt (by first | assumption | exact allLt_of (by assumption)) Apart.nil) (keyF_struct (by omega) (KeyIn.struct (.head _)))
        | exact ret _ [] _ _ (by assumption) (by assumption) Apart.nil KeyIn.gvar
        | exact ret _ [] _ _ (by assumption) (by assumption) Apart.nil (keyF_list (by omega) KeyIn.glist)
        | fail "key: an end"
    | s1 ht _ _ =>
      have ht' := hsub _ ht
      refine wpAny_call ?_
      k_dflt ktr_enter
      k_steps
      all_goals first
        | (exfalso; omega)
        | exact ret _ [_] _ _ (by assumption) (by assumption) (Apart.lt (by first | assumption | exact allLt_of (by assumption)) Apart.nil) (KeyIn.var (.head _))
        | exact ret _ [_, _] _ _ (by assumption) (by assumption) (Apart.lt (And.right (by assumption)) (Apart.lt (by first | assumption | exact allLt_of (by assumption)) Apart.nil)) (KeyIn.con (.head _) (.tail _ (.head _)))
        | exact ret _ [_] _ _ (by assumption) (by assumption) (Apart.lt (by first | assumption | exact allLt_of (by assumption)) Apart.nil) (keyF_list (by omega) (KeyIn.list (.head _)))
        | exact ret _ [_] _ _ (by assumption) (by assumption) (Apart.lt (by first | assumption | exact allLt_of (by assumption)) Apart.nil) (keyF_struct (by omega) (KeyIn.struct (.head _)))
        | exact ret _ [] _ _ (by assumption) (by assumption) Apart.nil KeyIn.gvar
        | exact ret _ [] _ _ (by assumption) (by assumption) Apart.nil (keyF_list (by omega) KeyIn.glist)
        | fail "key: an end"
    | s2 ht _ _ _ =>
      have ht' := hsub _ ht
      refine wpAny_call ?_
      k_dflt ktr_enter
      k_steps
      all_goals first
        | (exfalso; omega)
        | exact ret _ [_] _ _ (by assumption) (by assumption) (Apart.lt (by first | assumption | exact allLt_of (by assumption)) Apart.nil) (KeyIn.var (.head _))
        | exact ret _ [_, _] _ _ (by assumption) (by assumption) (Apart.lt (And.right (by assumption)) (Apart.lt (by first | assumption | exact allLt_of (by assumption)) Apart.nil)) (KeyIn.con (.head _) (.tail _ (.head _)))
        | exact ret _ [_] _ _ (by assumption) (by assumption) (Apart.lt (by first | assumption | exact allLt_of (by assumption)) Apart.nil) (keyF_list (by omega) (KeyIn.list (.head _)))
        | exact ret _ [_] _ _ (by assumption) (by assumption) (Apart.lt (by first | assumption | exact allLt_of (by assumption)) Apart.nil) (keyF_struct (by omega) (KeyIn.struct (.head _)))
        | exact ret _ [] _ _ (by assumption) (by assumption) Apart.nil KeyIn.gvar
        | exact ret _ [] _ _ (by assumption) (by assumption) Apart.nil (keyF_list (by omega) KeyIn.glist)
        | fail "key: an end"

/-- a call of term_key -/
theorem tk_c {w : World} {mean : ExcName → Option Value} {mg mb : PySem.Str → Option Value} {dp un : Nat} {gd : Option (List Code)} {cn : PySem.Str} {cs : Scope} {a : Addr} {ccd : Value} {cl : List (PySem.Str × Addr)} {outer : List Env} {A₀ : Around} {base h₀ : Heap} {L : Addr} {m : PySem.Str → Option Value} {s : Shared} {l imm : List (Addr × Obj)} {p : Addr} {t : Tm} {Q E : Value → Shared → Prop}
   (B : Below A₀ base outer h₀) (F : Fr h₀ L s.heap m) (X : (hd.heap_39 w.params).In h₀) (Tp : Top hd.view_39 (looseW hd.view_39 []) mean mg mb h₀) (hk : cs.kind = .function) (N : News h₀ L s.heap l) (ht : TmIn imm p t) (hsub : ∀ q ∈ imm, q ∈ l)
   (hd : dp + 10 < 1000) (hu : un + 1000 < 9900)
   (ret : ∀ r tl h' tk', Fr h₀ L h' m → News h₀ L h' (tl ++ l) → Apart tl l → KeyIn tl r (keyOf t) → Q (.ref r) { s with heap := h', toks := tk' }) :
   wpAny (model PySem.Challenge.rw_rh0062_01.row.prog w) (ktrTop dp un gd cn cs L a ccd cl outer) (call (.ref 51) [.ref p]) Q E s := by
    cases ht with
    | v ht k0 k4 =>
      have ht' := hsub _ ht
      refine wpAny_call ?_
      k_dflt ktr_enter
      k_steps
      all_goals first
        | (exfalso; omega)
        | exact ret _ [_] _ _ (by assumption) (by assumption) (Apart.lt (by first | assumption | exact allLt_of (by assumption)) Apart.nil) (KeyIn.var (.head _))
        | exact ret _ [_, _] _ _ (by assumption) (by assumption) (Apart.lt (And.right (by assumption)) (Apart.lt (by first | assumption | exact allLt_of (by assumption)) Apart.nil)) (KeyIn.con (.head _) (.tail _ (.head _)))
        | exact ret _ [_] _ _ (by assumption) (by assumption) (Apart.lt (by first | assumption | exact allLt_of (by assumption)) Apart.nil) (keyF_list (by omega) (KeyIn.list (.head _)))
        | exact ret _ [_] _ _ (by assumption) (by assumption) (Apart.lt (by first | assumption | exact allLt_of (by assumption)) Apart.nil) (keyF_struct (by omega) (KeyIn.struct (.head _)))
        | exact ret _ [] _ _ (by assumption) (by assumption) Apart.nil KeyIn.gvar
        | exact ret _ [] _ _ (by assumption) (by assumption) Apart.nil (keyF_list (by omega) KeyIn.glist)
        | fail "key: an end"
    | a ht =>
      have ht' := hsub _ ht
      refine wpAny_call ?_
      k_dflt ktr_enter
      k_steps
      all_goals first
        | (exfalso; omega)
        | exact ret _ [_] _ _ (by assumption) (by assumption) (Apart.lt (by first | assumption | exact allLt_of (by assumption)) Apart.nil) (KeyIn.var (.head _))
        | exact ret _ [_, _] _ _ (by assumption) (by assumption) (Apart.lt (And.right (by assumption)) (Apart.lt (by first | assumption | exact allLt_of (by assumption)) Apart.nil)) (KeyIn.con (.head _) (.tail _ (.head _)))
        | exact ret _ [_] _ _ (by assumption) (by assumption) (Apart.lt (by first | assumption | exact allLt_of (by assumption)) Apart.nil) (keyF_list (by omega) (KeyIn.list (.head _)))
        | exact ret _ [_] _ _ (by assumption) (by assumption) (Apart.lt (by first | assumption | exact allLt_of (by assumption)) Apart.nil) (keyF_struct (by omega) (KeyIn.struct (.head _)))
        | exact ret _ [] _ _ (by assumption) (by assumption) Apart.nil KeyIn.gvar
        | exact ret _ [] _ _ (by assumption) (by assumption) Apart.nil (keyF_list (by omega) KeyIn.glist)
        | fail "key: an end"
    | i ht =>
      have ht' := hsub _ ht
      refine wpAny_call ?_
      k_dflt ktr_enter
      k_steps
      all_goals first
        | (exfalso; omega)
        | exact ret _ [_] _ _ (by assumption) (by assumption) (Apart.lt (by first | assumption | exact allLt_of (by assumption)) Apart.nil) (KeyIn.var (.head _))
        | exact ret _ [_, _] _ _ (by assumption) (by assumption) (Apart.lt (And.right (by assumption)) (Apart.lt (by first | assumption | exact allLt_of (by assumption)) Apart.nil)) (KeyIn.con (.head _) (.tail _ (.head _)))
        | exact ret _ [_] _ _ (by assumption) (by assumption) (Apart.lt (by first | assumption | exact allLt_of (by assumption)) Apart.nil) (keyF_list (by omega) (KeyIn.list (.head _)))
        | exact ret _ [_] _ _ (by assumption) (by assumption) (Apart.lt (by first | assumption | exact allLt_of (by assumption)) Apart.nil) (keyF_struct (by omega) (KeyIn.struct (.head _)))
        | exact ret _ [] _ _ (by assumption) (by assumption) Apart.nil KeyIn.gvar
        | exact ret _ [] _ _ (by assumption) (by assumption) Apart.nil (keyF_list (by omega) KeyIn.glist)
        | fail "key: an end"
    | s1 ht _ _ =>
      have ht' := hsub _ ht
      refine wpAny_call ?_
      k_dflt ktr_enter
      k_steps
      all_goals first
        | (exfalso; omega)
        | exact ret _ [_] _ _ (by assumption) (by assumption) (Apart.lt (by first | assumption | exact allLt_of (by assumption)) Apart.nil) (KeyIn.var (.head _))
        | exact ret _ [_, _] _ _ (by assumption) (by assumption) (Apart.lt (And.right (by assumption)) (Apart.lt (by first | assumption | exact allLt_of (by assumption)) Apart.nil)) (KeyIn.con (.head _) (.tail _ (.head _)))
        | exact ret _ [_] _ _ (by assumption) (by assumption) (Apart.lt (by first | assumption | exact allLt_of (by assumption)) Apart.nil) (keyF_list (by omega) (KeyIn.list (.head _)))
        | exact ret _ [_] _ _ (by assumption) (by assumption) (Apart.lt (by first | assumption | exact allLt_of (by assumption)) Apart.nil) (keyF_struct (by omega) (KeyIn.struct (.head _)))
        | exact ret _ [] _ _ (by assumption) (by assumption) Apart.nil KeyIn.gvar
        | exact ret _ [] _ _ (by assumption) (by assumption) Apart.nil (keyF_list (by omega) KeyIn.glist)
        | fail "key: an end"
    | s2 ht _ _ _ =>
      have ht' := hsub _ ht
      refine wpAny_call ?_
      k_dflt ktr_enter
      k_steps
      all_goals first
        | (exfalso; omega)
        | exact ret _ [_] _ _ (by assumption) (by assumption) (Apart.lt (by first | assumption | exact allLt_of (by assumption)) Apart.nil) (KeyIn.var (.head _))
        | exact ret _ [_, _] _ _ (by assumption) (by assumption) (Apart.lt (And.right (by assumption)) (Apart.lt (by first | assumption | exact allLt_of (by assumption)) Apart.nil)) (KeyIn.con (.head _) (.tail _ (.head _)))
        | exact ret _ [_] _ _ (by assumption) (by assumption) (Apart.lt (by first | assumption | exact allLt_of (by assumption)) Apart.nil) (keyF_list (by omega) (KeyIn.list (.head _)))
        | exact ret _ [_] _ _ (by assumption) (by assumption) (Apart.lt (by first | assumption | exact allLt_of (by assumption)) Apart.nil) (keyF_struct (by omega) (KeyIn.struct (.head _)))
        | exact ret _ [] _ _ (by assumption) (by assumption) Apart.nil KeyIn.gvar
        | exact ret _ [] _ _ (by assumption) (by assumption) Apart.nil (keyF_list (by omega) KeyIn.glist)
        | fail "key: an end"
end RhKey

section RhEq

def keyD : Key → PyData
  | .var => .tuple [.str (PySem.Str.ofString "var")]
  | .con c k => .tuple [.str (PySem.Str.ofString "const"), .tuple [.int c, .int k]]
  | .list => .tuple [.str (PySem.Str.ofString "list")]
  | .struct f => .tuple [.str (PySem.Str.ofString "struct"), .int f]
theorem keyD_shaped (k : Key) : PySem.SeqAt.shaped (keyD k) = true := by
  have e1 : PyData.strOk (PySem.Str.ofString "var") = true := by decide +kernel
  have e2 : PyData.strOk (PySem.Str.ofString "const") = true := by decide +kernel
  have e3 : PyData.strOk (PySem.Str.ofString "list") = true := by decide +kernel
  have e4 : PyData.strOk (PySem.Str.ofString "struct") = true := by decide +kernel
  cases k <;> simp [PySem.SeqAt.shaped, keyD, PyData.canLay0, PyData.canLayAll0, PyData.depth, PyData.depthAll, e1, e2, e3, e4]
open Classical in
theorem keyD_eqv (k k' : Key) : PyData.eqv (keyD k) (keyD k') = decide (k = k') := by
  have e1 : (PySem.Str.ofString "var" == PySem.Str.ofString "list") = false := by decide
  have e2 : (PySem.Str.ofString "list" == PySem.Str.ofString "var") = false := by decide
  have e3 : (PySem.Str.ofString "const" == PySem.Str.ofString "struct") = false := by decide
  have e4 : (PySem.Str.ofString "struct" == PySem.Str.ofString "const") = false := by decide
  have e5 : (PySem.Str.ofString "var" == PySem.Str.ofString "const") = false := by decide
  have e6 : (PySem.Str.ofString "var" == PySem.Str.ofString "struct") = false := by decide
  have e7 : (PySem.Str.ofString "list" == PySem.Str.ofString "const") = false := by decide
  have e8 : (PySem.Str.ofString "list" == PySem.Str.ofString "struct") = false := by decide
  have e9 : (PySem.Str.ofString "const" == PySem.Str.ofString "var") = false := by decide
  have e10 : (PySem.Str.ofString "const" == PySem.Str.ofString "list") = false := by decide
  have e11 : (PySem.Str.ofString "struct" == PySem.Str.ofString "var") = false := by decide
  have e12 : (PySem.Str.ofString "struct" == PySem.Str.ofString "list") = false := by decide
  have r1 : (PySem.Str.ofString "var" == PySem.Str.ofString "var") = true := by decide
  have r2 : (PySem.Str.ofString "list" == PySem.Str.ofString "list") = true := by decide
  have r3 : (PySem.Str.ofString "const" == PySem.Str.ofString "const") = true := by decide
  have r4 : (PySem.Str.ofString "struct" == PySem.Str.ofString "struct") = true := by decide
  cases k <;> cases k' <;> simp only [keyD, PyData.eqv, PyData.eqvAll, e1, e2, e3, e4, e5, e6, e7, e8, e9, e10, e11, e12, r1, r2, r3, r4, Bool.and_true, Bool.true_and, Bool.false_and, Bool.and_false, decide_true, reduceCtorEq, decide_false, Key.con.injEq, Key.struct.injEq] <;> (rw [Bool.eq_iff_iff]; simp)

theorem key_reads {w : World} {h₀ h : Heap} {L x : Addr} {m : PySem.Str → Option Value} {news : List (Addr × Obj)} {k : Key} (X : (hd.heap_39 w.params).In h₀) (F : Fr h₀ L h m) (N : News h₀ L h news) (hk : KeyIn news x k) : ∃ as, Reads h (.ref x) (keyD k) as := by
  cases hk with
  | var hm => exact ⟨_, reads_tuple_at (N.get hm) rfl rfl (.cons (.str _ _) .nil)⟩
  | con hm hn => exact ⟨_, reads_tuple_at (N.get hm) rfl rfl (.cons (.str _ _) (.cons (reads_tuple_at (N.get hn) rfl rfl (.cons (.int _ _) (.cons (.int _ _) .nil))) .nil))⟩
  | list hm => exact ⟨_, reads_tuple_at (N.get hm) rfl rfl (.cons (.str _ _) .nil)⟩
  | struct hm => exact ⟨_, reads_tuple_at (N.get hm) rfl rfl (.cons (.str _ _) (.cons (.int _ _) .nil))⟩
  | gvar => exact ⟨_, reads_tuple_at (F.keep _ _ (X 29 _ (by k_is))) rfl rfl (.cons (.str _ _) .nil)⟩
  | glist => exact ⟨_, reads_tuple_at (F.keep _ _ (X 30 _ (by k_is))) rfl rfl (.cons (.str _ _) .nil)⟩

section
variable {prog : Program} {w : World} {A : Around} {E : Value → Shared → Prop} {s : Shared} {h₀ : Heap} {L x y : Addr} {m : PySem.Str → Option Value} {news na nb : List (Addr × Obj)} {k k' : Key} {Q : Value → Shared → Prop}
open Classical in
theorem key_eq (X : (hd.heap_39 w.params).In h₀) (F : Fr h₀ L s.heap m) (N : News h₀ L s.heap news) (ha : KeyIn na x k) (hb : KeyIn nb y k') (sa : ∀ q ∈ na, q ∈ news) (sb : ∀ q ∈ nb, q ∈ news) (hu : A.units + 64 < cLine)
    (h : Q (.bool (decide (k = k'))) s) : wpAny (model prog w) A (compareOp .Eq (.ref x) (.ref y)) Q E s := by
  obtain ⟨as, ra⟩ := key_reads X F N (ha.mono sa)
  obtain ⟨bs, rb⟩ := key_reads X F N (hb.mono sb)
  exact eq_dataH ra rb (keyD_shaped k) (keyD_shaped k') hu (by rw [keyD_eqv]; exact h)
open Classical in
theorem key_ne (X : (hd.heap_39 w.params).In h₀) (F : Fr h₀ L s.heap m) (N : News h₀ L s.heap news) (ha : KeyIn na x k) (hb : KeyIn nb y k') (sa : ∀ q ∈ na, q ∈ news) (sb : ∀ q ∈ nb, q ∈ news) (hu : A.units + 64 < cLine)
    (h : Q (.bool (!decide (k = k'))) s) : wpAny (model prog w) A (compareOp .NotEq (.ref x) (.ref y)) Q E s := by
  obtain ⟨as, ra⟩ := key_reads X F N (ha.mono sa)
  obtain ⟨bs, rb⟩ := key_reads X F N (hb.mono sb)
  exact ne_dataH ra rb (keyD_shaped k) (keyD_shaped k') hu (by rw [keyD_eqv]; exact h)
end

inductive Tp where
  | any
  | a (k : Int)
  | i (k : Int)
  | s (k : Int)
def topOf : Tm → Tp
  | .v _ => .any
  | .a k => .a k
  | .i k => .i k
  | .s1 f _ => .s f
  | .s2 f _ _ => .s f
def topOfs : List Tm → Tp
  | [] => .any
  | t :: _ => topOf t
theorem keyF_inj {f f' : Int} : keyF f = keyF f' ↔ f = f' := by
  unfold keyF
  split <;> split <;> simp <;> omega
theorem key_top1 (t t' : Tm) : keyOf t = keyOf t' ↔ topOf t = topOf t' := by
  cases t <;> cases t' <;> simp [keyOf, topOf, keyF_inj] <;> (unfold keyF; split <;> simp)
theorem key_top (ts us : List Tm) : keyOfs ts = keyOfs us ↔ topOfs ts = topOfs us := by
  cases ts with
  | nil =>
    cases us with
    | nil => simp [keyOfs, topOfs]
    | cons u us => exact key_top1 (.v 0) u
  | cons t ts =>
    cases us with
    | nil => exact key_top1 t (.v 0)
    | cons u us => exact key_top1 t u
inductive TpIn (news : List (Addr × Obj)) : Value → Tp → Prop
  | any {t : Tok} : TpIn news (.str (PySem.Str.ofString "any") t) .any
  | a {x : Addr} {t t' : Tok} {n : Nat} {k : Int} : (x, tup [.str (PySem.Str.ofString "a") t, .int k t'] n) ∈ news → TpIn news (.ref x) (.a k)
  | i {x : Addr} {t t' : Tok} {n : Nat} {k : Int} : (x, tup [.str (PySem.Str.ofString "i") t, .int k t'] n) ∈ news → TpIn news (.ref x) (.i k)
  | s {x : Addr} {t t' : Tok} {n : Nat} {k : Int} : (x, tup [.str (PySem.Str.ofString "s") t, .int k t'] n) ∈ news → TpIn news (.ref x) (.s k)
theorem TpIn.mono {news news' : List (Addr × Obj)} (hs : ∀ p ∈ news, p ∈ news') {v : Value} {k : Tp} (h : TpIn news v k) : TpIn news' v k := by
  cases h with
  | any => exact .any
  | a h => exact .a (hs _ h)
  | i h => exact .i (hs _ h)
  | s h => exact .s (hs _ h)
def tpD : Tp → PyData
  | .any => .str (PySem.Str.ofString "any")
  | .a k => .tuple [.str (PySem.Str.ofString "a"), .int k]
  | .i k => .tuple [.str (PySem.Str.ofString "i"), .int k]
  | .s k => .tuple [.str (PySem.Str.ofString "s"), .int k]
theorem tpD_shaped (k : Tp) : PySem.SeqAt.shaped (tpD k) = true := by
  have e1 : PyData.strOk (PySem.Str.ofString "any") = true := by decide +kernel
  have e2 : PyData.strOk (PySem.Str.ofString "a") = true := by decide +kernel
  have e3 : PyData.strOk (PySem.Str.ofString "i") = true := by decide +kernel
  have e4 : PyData.strOk (PySem.Str.ofString "s") = true := by decide +kernel
  cases k <;> simp [PySem.SeqAt.shaped, tpD, PyData.canLay0, PyData.canLayAll0, PyData.depth, PyData.depthAll, e1, e2, e3, e4]
open Classical in
theorem tpD_eqv (k k' : Tp) : PyData.eqv (tpD k) (tpD k') = decide (k = k') := by
  have e1 : (PySem.Str.ofString "a" == PySem.Str.ofString "i") = false := by decide
  have e2 : (PySem.Str.ofString "i" == PySem.Str.ofString "a") = false := by decide
  have e3 : (PySem.Str.ofString "a" == PySem.Str.ofString "s") = false := by decide
  have e4 : (PySem.Str.ofString "s" == PySem.Str.ofString "a") = false := by decide
  have e5 : (PySem.Str.ofString "i" == PySem.Str.ofString "s") = false := by decide
  have e6 : (PySem.Str.ofString "s" == PySem.Str.ofString "i") = false := by decide
  have r1 : (PySem.Str.ofString "a" == PySem.Str.ofString "a") = true := by decide
  have r2 : (PySem.Str.ofString "i" == PySem.Str.ofString "i") = true := by decide
  have r3 : (PySem.Str.ofString "s" == PySem.Str.ofString "s") = true := by decide
  have r4 : (PySem.Str.ofString "any" == PySem.Str.ofString "any") = true := by decide
  cases k <;> cases k' <;> simp only [tpD, PyData.eqv, PyData.eqvAll, e1, e2, e3, e4, e5, e6, r1, r2, r3, r4, Bool.and_true, Bool.true_and, Bool.false_and, Bool.and_false, decide_true, reduceCtorEq, decide_false, Tp.a.injEq, Tp.i.injEq, Tp.s.injEq] <;> (rw [Bool.eq_iff_iff]; simp)
theorem tp_reads {h₀ h : Heap} {L : Addr} {v : Value} {news : List (Addr × Obj)} {k : Tp} (N : News h₀ L h news) (hk : TpIn news v k) : ∃ as, Reads h v (tpD k) as := by
  cases hk with
  | any => exact ⟨_, .str _ _⟩
  | a hm => exact ⟨_, reads_tuple_at (N.get hm) rfl rfl (.cons (.str _ _) (.cons (.int _ _) .nil))⟩
  | i hm => exact ⟨_, reads_tuple_at (N.get hm) rfl rfl (.cons (.str _ _) (.cons (.int _ _) .nil))⟩
  | s hm => exact ⟨_, reads_tuple_at (N.get hm) rfl rfl (.cons (.str _ _) (.cons (.int _ _) .nil))⟩
open Classical in
theorem tp_eq {prog : Program} {w : World} {A : Around} {E : Value → Shared → Prop} {s : Shared} {h₀ : Heap} {L : Addr} {v u : Value} {news na nb : List (Addr × Obj)} {k k' : Tp} {Q : Value → Shared → Prop}
    (N : News h₀ L s.heap news) (ha : TpIn na v k) (hb : TpIn nb u k') (sa : ∀ q ∈ na, q ∈ news) (sb : ∀ q ∈ nb, q ∈ news) (hu : A.units + 64 < cLine)
    (h : Q (.bool (decide (k = k'))) s) : wpAny (model prog w) A (compareOp .Eq v u) Q E s := by
  obtain ⟨as, ra⟩ := tp_reads N (ha.mono sa)
  obtain ⟨bs, rb⟩ := tp_reads N (hb.mono sb)
  exact eq_dataH ra rb (tpD_shaped k) (tpD_shaped k') hu (by rw [tpD_eqv]; exact h)
local macro_rules | `(tactic| walk_at "subscriptTail") => `(tactic| (k_here; (with_reducible show wpAny _ _ (subscriptTail _ _ (Value.ref _) (Value.int 0 _)) _ _ _); k_dflt (refine' item_tup0 ?k1 ?k2 ?_ ?k5; (case k1 => k_asm); (case k2 => k_mem); (case k5 => with_unfolding_all rfl); k_whole)))
local macro_rules | `(tactic| ktr_enter) => `(tactic| (refine' code_def ?k1 ?k2 ?k3 ?k4 ?k5 ?kA ?kF ?kK ?k6 ?k7 ?k8 ?k9 ?kB ?_ ?c2 ?c3 ?c4 ?c5; (case kA => exact rfl); (case kF => exact rfl); (case kK => first | assumption | exact rfl); (case k1 => k_asm); (case k2 => k_asm); (case k3 => k_asm); (case k4 => k_asm); (case k5 => k_asm); (case k6 => k_is); (case k7 => k_is); (case k8 => ((try simp only [depth_in1, depth_deeper, recursionLimit]); (try dsimp only [ktrTop]); omega)); (case k9 => exact BindsTo.of_eq rfl); (case c5 => decide); (case kB => exact locs rfl); (case c2 => exact rfl); (case c3 => exact rfl); (case c4 => exact rfl); k_whole; intro g' L' h' FG' F' N' B' X' T'; (try dsimp only); (try k_fold)))
local macro_rules | `(tactic| k_mem) => `(tactic| first | assumption | (refine mem_a ?_; k_mem))
local macro_rules | `(tactic| walk_at "call builtin:len") => `(tactic| (k_here; (with_reducible show wpAny _ _ (PySem.call (Value.builtin "len") [Value.ref _]) _ _ _); k_dflt (refine' len_tup ?k1 ?k2 ?k3 ?_; (case k1 => k_asm); (case k2 => k_mem); (case k3 => ((try simp only [List.length_cons, List.length_nil] at *); omega)); k_whole); intro tk9; (try simp only [List.length_cons, List.length_nil])))
local macro_rules | `(tactic| walk_at "call ref") => `(tactic| (k_here; (first | (with_reducible show wpAny _ _ (PySem.call (Value.ref 21) _) _ _ _) | (with_reducible show wpAny _ _ (PySem.call (Value.ref 37) _) _ _ _) | (with_reducible show wpAny _ _ (PySem.call (Value.ref 44) _) _ _ _)); (refine wpAny_call ?_); k_dflt ktr_enter))


/-- a call of _law_top -/
theorem top_c {w : World} {mean : ExcName → Option Value} {mg mb : PySem.Str → Option Value} {dp un : Nat} {gd : Option (List Code)} {cn : PySem.Str} {cs : Scope} {a : Addr} {ccd : Value} {cl : List (PySem.Str × Addr)} {outer : List Env} {A₀ : Around} {base h₀ : Heap} {L : Addr} {m : PySem.Str → Option Value} {s : Shared} {l imm : List (Addr × Obj)} {p : Addr} {vs : List Value} {ts : List Tm} {n : Nat} {Q E : Value → Shared → Prop}
   (B : Below A₀ base outer h₀) (F : Fr h₀ L s.heap m) (X : (hd.heap_39 w.params).In h₀) (Tp : Top hd.view_39 (looseW hd.view_39 []) mean mg mb h₀) (hk : cs.kind = .function) (N : News h₀ L s.heap l) (hp : (p, tup vs n) ∈ l) (hts : TmAll imm vs ts) (hsub : ∀ q ∈ imm, q ∈ l) (hlen : vs.length ≤ 16384)
   (hd : dp + 10 < 1000) (hu : un + 1000 < 9900)
   (ret : ∀ r tl h' tk', Fr h₀ L h' m → News h₀ L h' (tl ++ l) → Apart tl l → TpIn tl r (topOfs ts) → Q r { s with heap := h', toks := tk' }) :
   wpAny (model PySem.Challenge.rw_rh0062_01.row.prog w) (ktrTop dp un gd cn cs L a ccd cl outer) (call (.ref 84) [.ref p]) Q E s := by
  cases hts with
  | nil =>
    refine wpAny_call ?_
    k_dflt ktr_enter
    k_steps
    all_goals first
        | (exfalso; omega)
        | exact ret _ [] _ _ (by assumption) (by assumption) Apart.nil TpIn.any
        | exact ret _ [_] _ _ (by assumption) (by assumption) (Apart.lt (by first | assumption | exact allLt_of (by assumption)) Apart.nil) (TpIn.a (.head _))
        | exact ret _ [_] _ _ (by assumption) (by assumption) (Apart.lt (by first | assumption | exact allLt_of (by assumption)) Apart.nil) (TpIn.i (.head _))
        | exact ret _ [_] _ _ (by assumption) (by assumption) (Apart.lt (by first | assumption | exact allLt_of (by assumption)) Apart.nil) (TpIn.s (.head _))
        | fail "top: an end"
  | cons ht hts =>
    cases ht with
    | v ht k0 k4 =>
      have ht' := hsub _ ht
      refine wpAny_call ?_
      k_dflt ktr_enter
      k_steps
      all_goals first
        | (exfalso; omega)
        | exact ret _ [] _ _ (by assumption) (by assumption) Apart.nil TpIn.any
        | exact ret _ [_] _ _ (by assumption) (by assumption) (Apart.lt (by first | assumption | exact allLt_of (by assumption)) Apart.nil) (TpIn.a (.head _))
        | exact ret _ [_] _ _ (by assumption) (by assumption) (Apart.lt (by first | assumption | exact allLt_of (by assumption)) Apart.nil) (TpIn.i (.head _))
        | exact ret _ [_] _ _ (by assumption) (by assumption) (Apart.lt (by first | assumption | exact allLt_of (by assumption)) Apart.nil) (TpIn.s (.head _))
        | fail "top: an end"
    | a ht =>
      have ht' := hsub _ ht
      refine wpAny_call ?_
      k_dflt ktr_enter
      k_steps
      all_goals first
        | (exfalso; omega)
        | exact ret _ [] _ _ (by assumption) (by assumption) Apart.nil TpIn.any
        | exact ret _ [_] _ _ (by assumption) (by assumption) (Apart.lt (by first | assumption | exact allLt_of (by assumption)) Apart.nil) (TpIn.a (.head _))
        | exact ret _ [_] _ _ (by assumption) (by assumption) (Apart.lt (by first | assumption | exact allLt_of (by assumption)) Apart.nil) (TpIn.i (.head _))
        | exact ret _ [_] _ _ (by assumption) (by assumption) (Apart.lt (by first | assumption | exact allLt_of (by assumption)) Apart.nil) (TpIn.s (.head _))
        | fail "top: an end"
    | i ht =>
      have ht' := hsub _ ht
      refine wpAny_call ?_
      k_dflt ktr_enter
      k_steps
      all_goals first
        | (exfalso; omega)
        | exact ret _ [] _ _ (by assumption) (by assumption) Apart.nil TpIn.any
        | exact ret _ [_] _ _ (by assumption) (by assumption) (Apart.lt (by first | assumption | exact allLt_of (by assumption)) Apart.nil) (TpIn.a (.head _))
        | exact ret _ [_] _ _ (by assumption) (by assumption) (Apart.lt (by first | assumption | exact allLt_of (by assumption)) Apart.nil) (TpIn.i (.head _))
        | exact ret _ [_] _ _ (by assumption) (by assumption) (Apart.lt (by first | assumption | exact allLt_of (by assumption)) Apart.nil) (TpIn.s (.head _))
        | fail "top: an end"
    | s1 ht _ _ =>
      have ht' := hsub _ ht
      refine wpAny_call ?_
      k_dflt ktr_enter
      k_steps
      all_goals first
        | (exfalso; omega)
        | exact ret _ [] _ _ (by assumption) (by assumption) Apart.nil TpIn.any
        | exact ret _ [_] _ _ (by assumption) (by assumption) (Apart.lt (by first | assumption | exact allLt_of (by assumption)) Apart.nil) (TpIn.a (.head _))
        | exact ret _ [_] _ _ (by assumption) (by assumption) (Apart.lt (by first | assumption | exact allLt_of (by assumption)) Apart.nil) (TpIn.i (.head _))
        | exact ret _ [_] _ _ (by assumption) (by assumption) (Apart.lt (by first | assumption | exact allLt_of (by assumption)) Apart.nil) (TpIn.s (.head _))
        | fail "top: an end"
    | s2 ht _ _ _ =>
      have ht' := hsub _ ht
      refine wpAny_call ?_
      k_dflt ktr_enter
      k_steps
      all_goals first
        | (exfalso; omega)
        | exact ret _ [] _ _ (by assumption) (by assumption) Apart.nil TpIn.any
        | exact ret _ [_] _ _ (by assumption) (by assumption) (Apart.lt (by first | assumption | exact allLt_of (by assumption)) Apart.nil) (TpIn.a (.head _))
        | exact ret _ [_] _ _ (by assumption) (by assumption) (Apart.lt (by first | assumption | exact allLt_of (by assumption)) Apart.nil) (TpIn.i (.head _))
        | exact ret _ [_] _ _ (by assumption) (by assumption) (Apart.lt (by first | assumption | exact allLt_of (by assumption)) Apart.nil) (TpIn.s (.head _))
        | fail "top: an end"
end RhEq

section RhSlice
section
variable {prog : Program} {w : World} {A : Around} {E : Value → Shared → Prop} {s : Shared} {h₀ : Heap} {L : Addr} {m : PySem.Str → Option Value} {news : List (Addr × Obj)}

theorem adjust_one (n : Nat) : Builtin.Slice.sliceAdjust none (some 1) 1 (n : Int) = ((0 : Int), ((min 1 n : Nat) : Int)) := by
  unfold Builtin.Slice.sliceAdjust
  have h1 : ¬ ((1 : Int) < 0) := by omega
  simp only [h1, if_false]
  congr 1
  omega
theorem places_one (n : Nat) : Builtin.Slice.slicePlaces (0 : Int) (n : Int) 1 = n := by
  unfold Builtin.Slice.slicePlaces
  have h1 : (1 : Int) > 0 := by omega
  simp only [h1, if_true, Int.ediv_one]
  split <;> omega
theorem sliceApplied_one {sl : Addr} {n : Nat} {u : Tok} {Q : Int × Int × Nat → Shared → Prop} (hs : s.heap.IsSliceOf sl .none (.int 1 u) .none) (h : Q (0, 1, min 1 n) s) :
    wpAny (model prog w) A (Builtin.Slice.sliceApplied (.ref sl) (pure (n : Int))) Q E s := by
  obtain ⟨os, hos, hcs, hds⟩ := id hs
  unfold Builtin.Slice.sliceApplied Builtin.Slice.sliceFields
  refine wpAny_bind (wpAny_bind (wpAny_field hos hds (x := .none) rfl (wpAny_bind (wpAny_field hos hds (x := .int 1 u) rfl (wpAny_bind (wpAny_field hos hds (x := .none) rfl (wpAny_pure ?_)))))))
  refine wpAny_bind (slicePart_none ?_)
  show wpAny _ _ (if ((1 : Int) == 0) = true then _ else _) _ _ s
  rw [if_neg (by decide)]
  refine wpAny_bind (slicePart_none (wpAny_bind (slicePart_int (wpAny_bind (wpAny_pure ?_)))))
  show wpAny _ _ (match Builtin.Slice.sliceAdjust none (some (1 : Int)) 1 (n : Int) with | (lo, hi) => pure (lo, (1 : Int), Builtin.Slice.slicePlaces lo hi 1)) _ _ s
  rw [adjust_one n]
  show wpAny _ _ (pure ((0 : Int), (1 : Int), Builtin.Slice.slicePlaces (0 : Int) ((min 1 n : Nat) : Int) 1)) _ _ s
  rw [places_one]
  exact wpAny_pure h

theorem pick_one (xs : Array Value) (n : Nat) : ((List.range n).filterMap fun (k : Nat) => xs[((0 : Int) + (k : Int) * 1).toNat]?).toArray = (xs.toList.take n).toArray := by
  have e : (fun (k : Nat) => xs[((0 : Int) + (k : Int) * 1).toNat]?) = fun k => xs[0 + k]? := by
    funext k
    have : ((0 : Int) + (k : Int) * 1).toNat = 0 + k := by omega
    rw [this]
  rw [e]
  have := pick_run xs 0 n
  rw [List.filterMap_map] at this
  have e2 : ((fun x => xs[x]?) ∘ fun x => 0 + x) = fun k => xs[0 + k]? := rfl
  rw [e2] at this
  rw [this, List.drop_zero]

theorem getItem_tuple_one {t sl : Addr} {items : Array Value} {u : Tok} {Q : Value → Shared → Prop} (ht : IsTup s.heap t items) (hs : s.heap.IsSliceOf sl .none (.int 1 u) .none)
    (h1 : items.size ≤ 1 → Q (.ref t) s)
    (h2 : ¬ items.size ≤ 1 → Q (.ref s.heap.objs.size) { s with heap := s.heap.push { cls := .type "tuple", data := .seq (items.toList.take 1).toArray } }) :
    wpAny (model prog w) A (getItem (.ref t) (.ref sl)) Q E s := by
  obtain ⟨os, hos, hcs, hds⟩ := id hs
  have hTs : s.TypeIs (.ref sl) "slice" := ⟨os, hos, hcs⟩
  unfold getItem
  refine wpAny_holding ?_
  refine wpAny_bind (wpAny_sequenceKey ht.typeIs (by decide) ?_)
  refine wpAny_bind (wpAny_callSpecial?_slot (name := PySem.Str.ofString "__getitem__") ht.typeIs slot_tuple_getitem
    (wpAny_call_entry slot_tuple_getitem ht.typeIs entry_tuple_getitem ?_ (args_tuple_getitem _ _)))
  show wpAny _ _ (Builtin.Tuple.tupleItemsOf (.ref t) >>= _) _ _ s
  refine wpAny_bind (tupleItemsOf_ ht ?_)
  refine wpAny_bind (wpAny_typeOf hTs ?_)
  rw [if_pos (by decide)]
  refine wpAny_bind (sliceApplied_one hs ?_)
  show wpAny _ _ (if ((0 : Int) == 0 && (1 : Int) == 1 && (min 1 items.size) == items.size) = true then _ else _) _ _ s
  by_cases hc : items.size ≤ 1
  · have e : min 1 items.size = items.size := by omega
    rw [if_pos (by rw [e]; simp)]
    refine wpAny_bind (wpAny_bind (wpAny_typeOf ht.typeIs (wpAny_pure ?_)))
    rw [if_pos (by decide)]
    exact wpAny_bind (wpAny_rule (wpAny_pure ⟨_, rfl, wpAny_pure (h1 hc)⟩))
  · have e : (min 1 items.size == items.size) = false := by rw [beq_eq_false_iff_ne]; omega
    rw [if_neg (by rw [e]; simp), pick_one items, show min 1 items.size = 1 by omega]
    have hsz : sizeOk (.seq (items.toList.take 1).toArray) := by
      show (items.toList.take 1).toArray.size ≤ sizeLine
      rw [List.size_toArray, List.length_take, sizeLine_eq]
      omega
    refine wpAny_bind (m := Builtin.Tuple.tupleExact _) (wpAny_newObj_type ?_ hsz)
    exact wpAny_pure ⟨_, rfl, wpAny_pure (h2 hc)⟩

/-- t[:1] of a tuple of the ledger: a tuple of the ledger, the same or a new one -/
theorem slice_one {value slice : PySem.Expr} {t : Addr} {vs : List Value} {k : Nat} {u : Tok} {Q : Value → Shared → Prop}
    (F : Fr h₀ L s.heap m) (N : News h₀ L s.heap news) (hm : (t, tup vs k) ∈ news)
    (h : ∀ D k' add h', Fr h₀ L h' m → News h₀ L h' (add ++ news) → Apart add news → (D, tup (vs.take 1) k') ∈ add ++ news → Q (.ref D) { s with heap := h' })
    (hs : subscripted slice false (.ref t) (.ref s.heap.objs.size) = operate [.ref s.heap.objs.size, .ref t] (getItem (.ref t) (.ref s.heap.objs.size)) := by with_unfolding_all rfl)
    (hg : ∀ r, letTemporaryGo value (.ref t) r = pure () := by intro _; with_unfolding_all rfl) :
    wpAny (model prog w) A (subscriptTail value slice (.ref t) (.ref s.heap.objs.size)) Q E { s with heap := s.heap.push { cls := .type "slice", data := .fields #[.none, .int 1 u, .none] } } := by
  have ht : IsTup s.heap t vs.toArray := News.isTup N hm
  have ht' : IsTup (s.heap.push { cls := .type "slice", data := .fields #[.none, .int 1 u, .none] }) t vs.toArray := ht.keeps fun _ _ e => Heap.get?_push_of_some _ e
  refine subscriptTail_ops (s := { s with heap := s.heap.push { cls := .type "slice", data := .fields #[.none, .int 1 u, .none] } }) ht'.typeIs slot_tuple_getitem.lookup
    (getItem_tuple_one ht' (Heap.IsSliceOf.new ..) (fun hc => ?_) (fun hc => ?_)) hs hg
  · have e : vs.take 1 = vs := List.take_of_length_le (by rw [List.size_toArray] at hc; exact hc)
    exact h t k [] _ (F.push _) (N.grown fun _ _ e => Heap.get?_push_of_some _ e) Apart.nil (by rw [e]; exact hm)
  · have N1 := News.push (F.push { cls := .type "slice", data := .fields #[.none, .int 1 u, .none] }) (N.grown fun _ _ e => Heap.get?_push_of_some _ e) (tup (vs.take 1) 0)
    refine h _ 0 [_] _ ((F.push _).push _) N1 (Apart.cons (fun p hp => ?_) Apart.nil) (.head _)
    have := Heap.lt_size (N p hp).1
    rw [Heap.size_push]
    exact Nat.ne_of_gt (Nat.lt_succ_of_lt this)
end
end RhSlice

section RhOne

theorem TmAll.take1 {news : List (Addr × Obj)} {vs : List Value} {ts : List Tm} (h : TmAll news vs ts) : TmAll news (vs.take 1) (ts.take 1) := by
  cases h with
  | nil => exact .nil
  | cons h _ => exact .cons h .nil
theorem len_tup_cons {prog : Program} {w : World} {A : Around} {E : Value → Shared → Prop} {s : Shared} {h₀ : Heap} {L t : Addr} {news : List (Addr × Obj)} {v : Value} {vs : List Value} {k : Nat} {Q : Value → Shared → Prop}
    (N : News h₀ L s.heap news) (hm : (t, tup (v :: vs) k) ∈ news) (hz : (v :: vs).length ≤ 16) (h : ∀ tk (n : Int), 1 ≤ n → Q (.int n tk) { s with toks := s.toks + 1 + 1 }) :
    wpAny (model prog w) A (call (.builtin "len") [.ref t]) Q E s :=
  len_tup N hm (by omega) fun tk => h tk _ (by rw [List.length_cons]; omega)
theorem len_tup_nil {prog : Program} {w : World} {A : Around} {E : Value → Shared → Prop} {s : Shared} {h₀ : Heap} {L t : Addr} {news : List (Addr × Obj)} {k : Nat} {Q : Value → Shared → Prop}
    (N : News h₀ L s.heap news) (hm : (t, tup [] k) ∈ news) (h : ∀ tk, Q (.int 0 tk) { s with toks := s.toks + 1 + 1 }) :
    wpAny (model prog w) A (call (.builtin "len") [.ref t]) Q E s := len_tup N hm (Nat.zero_le _) h
theorem sub_l {t l : List (Addr × Obj)} : ∀ q ∈ t, q ∈ t ++ l := fun _ h => List.mem_append.mpr (.inl h)

section
variable {w : World} {A : Around} {E : Value → Shared → Prop} {prog : Program} {s : Shared} {h₀ : Heap} {L x y : Addr} {m : PySem.Str → Option Value} {news na nb : List (Addr × Obj)} {k k' : Key} {Q : Value → Shared → Prop}
open Classical in
theorem key_eq_same (X : (hd.heap_39 w.params).In h₀) (F : Fr h₀ L s.heap m) (N : News h₀ L s.heap news) (ha : KeyIn na x k) (hb : KeyIn nb y k') (sa : ∀ q ∈ na, q ∈ news) (sb : ∀ q ∈ nb, q ∈ news) (hu : A.units + 64 < cLine) (e : k = k')
    (h : Q (.bool true) s) : wpAny (model prog w) A (compareOp .Eq (.ref x) (.ref y)) Q E s := key_eq X F N ha hb sa sb hu (by rw [decide_eq_true e]; exact h)
open Classical in
theorem key_ne_same (X : (hd.heap_39 w.params).In h₀) (F : Fr h₀ L s.heap m) (N : News h₀ L s.heap news) (ha : KeyIn na x k) (hb : KeyIn nb y k') (sa : ∀ q ∈ na, q ∈ news) (sb : ∀ q ∈ nb, q ∈ news) (hu : A.units + 64 < cLine) (e : k = k')
    (h : Q (.bool false) s) : wpAny (model prog w) A (compareOp .NotEq (.ref x) (.ref y)) Q E s := key_ne X F N ha hb sa sb hu (by rw [decide_eq_true e]; exact h)
end

local macro_rules | `(tactic| ktr_enter) => `(tactic| (refine' code_def ?k1 ?k2 ?k3 ?k4 ?k5 ?kA ?kF ?kK ?k6 ?k7 ?k8 ?k9 ?kB ?_ ?c2 ?c3 ?c4 ?c5; (case kA => exact rfl); (case kF => exact rfl); (case kK => first | assumption | exact rfl); (case k1 => k_asm); (case k2 => k_asm); (case k3 => k_asm); (case k4 => k_asm); (case k5 => k_asm); (case k6 => k_is); (case k7 => k_is); (case k8 => ((try simp only [depth_in1, depth_deeper, recursionLimit]); (try dsimp only [ktrTop]); omega)); (case k9 => exact BindsTo.of_eq rfl); (case c5 => decide); (case kB => exact locs rfl); (case c2 => exact rfl); (case c3 => exact rfl); (case c4 => exact rfl); k_whole; intro g' L' h' FG' F' N' B' X' T'; (try dsimp only); (try k_fold)))
local macro_rules | `(tactic| ktr_enter) => `(tactic| (refine' code_defC ?k1 ?k2 ?k3 ?k4 ?k5 ?kA ?kF ?kK ?k6 ?k7 ?k8 ?k9 ?kB ?kD ?_ ?c2 ?c3 ?c4; (case kA => exact rfl); (case kF => exact rfl); (case kK => assumption); (case k1 => k_asm); (case k2 => k_asm); (case k3 => k_asm); (case k4 => k_asm); (case k5 => k_asm); (case k6 => k_is); (case k7 => k_is); (case k8 => ((try simp only [depth_in1, depth_deeper, recursionLimit]); (try dsimp only [ktrTop]); omega)); (case k9 => exact BindsTo.of_eq rfl); (case kB => exact rfl); (case kD => decide +kernel); (case c2 => exact rfl); (case c3 => exact rfl); (case c4 => exact rfl); k_whole; intro g' L' h' tk' cells' FG' F' N' Y' B' X' T' l1; (try k_lt l1); k_cells Y'; (try simp only [List.cons_append, List.nil_append] at N'); (try dsimp only); (try k_fold)))
local macro_rules | `(tactic| k_mem) => `(tactic| first | assumption | (refine mem_a ?_; k_mem))
local macro_rules | `(tactic| kqd_sub) => `(tactic| first | assumption | exact fun _ h => h | exact sub_l | (refine sub_c ?_; kqd_sub) | (refine sub_a ?_; kqd_sub))
local macro_rules | `(tactic| walk_at "subscriptTail") => `(tactic| (k_here; (with_reducible show wpAny _ _ (subscriptTail _ _ (Value.ref _) (Value.int 0 _)) _ _ _); k_dflt (refine' item_tup0 ?k1 ?k2 ?_ ?k5; (case k1 => k_asm); (case k2 => k_mem); (case k5 => with_unfolding_all rfl); k_whole)))
local macro_rules | `(tactic| walk_at "subscriptTail") => `(tactic| (k_here; (with_reducible show wpAny _ _ (subscriptTail _ _ (Value.ref _) (Value.int _ _)) _ _ _); k_dflt (refine' item_pick ?k1 ?k2 ?k3 ?k4 ?_ ?k5; (case k1 => k_asm); (case k2 => k_mem); (case k3 => assumption); (case k4 => assumption); (case k5 => with_unfolding_all rfl); k_whole)))
local macro_rules | `(tactic| walk_at "subscriptTail Name Slice ref ref") => `(tactic| (k_here; (with_reducible show wpAny _ _ (subscriptTail _ (PySem.Expr.Slice _ _ none _) (Value.ref _) (Value.ref _)) _ _ _); k_dflt (refine' slice_one ?F ?N ?l ?_ ?s ?t; (case F => k_asm); (case N => k_asm); (case l => k_mem); (case s => with_unfolding_all rfl); (case t => (intro _; with_unfolding_all rfl)); k_whole); intro D9 k9 add9 h9 F9 N9 hap9 hm9; (try dsimp only)))
local macro_rules | `(tactic| walk_at "call builtin:len") => `(tactic| (k_here; (with_reducible show wpAny _ _ (PySem.call (Value.builtin "len") [Value.ref _]) _ _ _); k_dflt (refine' len_tup_cons ?k1 ?k2 ?k3 ?_; (case k1 => k_asm); (case k2 => k_mem); (case k3 => first | assumption | omega); k_whole); intro tk9 n9 hn9))
local macro_rules | `(tactic| walk_at "call builtin:len") => `(tactic| (k_here; (with_reducible show wpAny _ _ (PySem.call (Value.builtin "len") [Value.ref _]) _ _ _); k_dflt (refine' len_tup_nil ?k1 ?k2 ?_; (case k1 => k_asm); (case k2 => k_mem); k_whole); intro tk9))
local macro_rules | `(tactic| walk_at "eval ListComp") => `(tactic| (k_here; k_dflt (refine comp_tup (by k_asm) (by with_unfolding_all rfl) (by decide) (by rfl) (by decide) (by rfl) ?_)))
local macro_rules | `(tactic| walk_at "SrcT") => `(tactic| (k_dflt (refine' srcT_fill ?kf ?kD ?k1 ?k2 ?k3 ?k4 ?k5 ?k6 ?_ ?_; (case k1 => rfl); (case k2 => k_asm); (case k3 => k_asm); (case k4 => k_mem); (case k5 => (rw [sizeLine_eq]; omega)); (case k6 => assumption); (case kf => assumption); (case kD => assumption)); intros))
local macro_rules | `(tactic| walk_at "call type:tuple") => `(tactic| (k_here; (with_reducible show wpAny _ _ (PySem.call (Value.type _) [Value.ref _]) _ _ _); k_dflt (refine' tuple_lst ?k1 ?k2 ?k3 ?k4 ?_; (case k1 => k_asm); (case k2 => k_asm); (case k3 => k_mem); (case k4 => omega); k_whole); intro D' h' F' N' l1; (try k_lt l1); (try k_sweep)))
local macro_rules | `(tactic| walk_at "compareOp Eq ref ref") => `(tactic| (k_here; (with_reducible show wpAny _ _ (compareOp CmpOp.Eq (Value.ref _) (Value.ref _)) _ _ _); k_dflt (refine' key_eq_same ?k1 ?k2 ?k3 ?k4 ?k5 ?k6 ?k7 ?k8 ?k9 ?_; (case k1 => k_asm); (case k2 => k_asm); (case k3 => k_asm); (case k4 => assumption); (case k5 => first | assumption | exact (KeyIn.gvar (news := []))); (case k6 => kqd_sub); (case k7 => first | kqd_sub | exact List.forall_mem_nil _); (case k8 => ((try simp only [units_in1, units_deeper, cLine]); (try dsimp only [ktrTop]); omega)); (case k9 => first | rfl | assumption); k_whole)))
local macro_rules | `(tactic| walk_at "compareOp NotEq ref ref") => `(tactic| (k_here; (with_reducible show wpAny _ _ (compareOp CmpOp.NotEq (Value.ref _) (Value.ref _)) _ _ _); k_dflt (refine' key_ne_same ?k1 ?k2 ?k3 ?k4 ?k5 ?k6 ?k7 ?k8 ?k9 ?_; (case k1 => k_asm); (case k2 => k_asm); (case k3 => k_asm); (case k4 => assumption); (case k5 => first | assumption | exact (KeyIn.gvar (news := []))); (case k6 => kqd_sub); (case k7 => first | kqd_sub | exact List.forall_mem_nil _); (case k8 => ((try simp only [units_in1, units_deeper, cLine]); (try dsimp only [ktrTop]); omega)); (case k9 => first | rfl | assumption); k_whole)))
local macro_rules | `(tactic| walk_at "call ref") => `(tactic| (k_here; (with_reducible show wpAny _ _ (PySem.call (Value.ref 58) _) _ _ _); (refine wpAny_call ?_); k_dflt ktr_enter))
local macro_rules | `(tactic| walk_at "call ref") => `(tactic| (k_here; (with_reducible show wpAny _ _ (PySem.call (Value.ref 51) _) _ _ _); k_dflt (refine' tk_c ?k1 ?k2 ?k3 ?k4 ?k5 ?kN ?kt ?ks ?kd ?ku ?_; (case k1 => k_asm); (case k2 => k_asm); (case k3 => k_asm); (case k4 => k_asm); (case k5 => first | rfl | assumption); (case kN => k_asm); (case kt => assumption); (case ks => kqd_sub); (case kd => ((try simp only [depth_in1, depth_deeper]); (try dsimp only [ktrTop]); omega)); (case ku => ((try simp only [units_in1, units_deeper]); (try dsimp only [ktrTop]); omega)); k_whole; intro r9 tl9 h9 tk9 F9 N9 hap9 hK9; (try dsimp only); (try k_fold))))
local macro_rules | `(tactic| walk_at "call ref") => `(tactic| (k_here; (with_reducible show wpAny _ _ (PySem.call (Value.ref 28) _) _ _ _); k_dflt (refine' fak_c ?k1 ?k2 ?k3 ?k4 ?k5 ?kN ?kp ?kt ?ks ?kl ?kd ?ku ?_; (case k1 => k_asm); (case k2 => k_asm); (case k3 => k_asm); (case k4 => k_asm); (case k5 => first | rfl | assumption); (case kN => k_asm); (case kp => k_mem); (case kt => assumption); (case ks => kqd_sub); (case kl => first | assumption | omega | exact Nat.le_of_ble_eq_true rfl); (case kd => ((try simp only [depth_in1, depth_deeper]); (try dsimp only [ktrTop]); omega)); (case ku => ((try simp only [units_in1, units_deeper]); (try dsimp only [ktrTop]); omega)); k_whole; intro r9 tl9 h9 tk9 F9 N9 hap9 hK9; (try dsimp only); (try k_fold))))
local macro_rules | `(tactic| walk_at "call ref") => `(tactic| (k_here; (with_reducible show wpAny _ _ (PySem.call (Value.ref 77) _) _ _ _); k_dflt (refine' fill_use ?kC ?k1 ?k2 ?k3 ?k4 ?k5 ?kN ?kT ?kp ?ks ?k20 ?k21 ?k22 ?k23 ?kt ?kd ?ku ?_; (case k1 => k_asm); (case k2 => k_asm); (case k3 => k_asm); (case k4 => k_asm); (case k5 => first | rfl | assumption); (case kN => k_asm); (case kT => k_mem); (case kp => assumption); (case ks => kqd_sub); (case k20 => assumption); (case k21 => assumption); (case k22 => assumption); (case k23 => assumption); (case kC => assumption); (case kt => omega); (case kd => ((try simp only [depth_in1, depth_deeper]); (try dsimp only [ktrTop]); omega)); (case ku => ((try simp only [units_in1, units_deeper]); (try dsimp only [ktrTop]); omega)); k_whole; intro r9 tl9 h9 tk9 F9 N9 hlt9 hR9; (try dsimp only); (try k_fold))))

theorem nonvar {imm : List (Addr × Obj)} {x : Addr} {t : Tm} (h : TmIn imm x t) : (∃ k t1 t2 n, t = .v k ∧ (x, tup [.str (PySem.Str.ofString "v") t1, .int k t2] n) ∈ imm ∧ 0 ≤ k ∧ k < 4) ∨
    (∃ tag tk rest n, (x, tup (.str tag tk :: rest) n) ∈ imm ∧ (tag != PySem.Str.ofString "v") = true ∧ ∀ t0 t1 t2 t3, keyOf (Tm.fill t0 t1 t2 t3 t) = keyOf t) := by
  cases h with
  | v h a b => exact .inl ⟨_, _, _, _, rfl, h, a, b⟩
  | a h => exact .inr ⟨_, _, _, _, h, by decide, fun _ _ _ _ => rfl⟩
  | i h => exact .inr ⟨_, _, _, _, h, by decide, fun _ _ _ _ => rfl⟩
  | s1 h _ _ => exact .inr ⟨_, _, _, _, h, by decide, fun _ _ _ _ => rfl⟩
  | s2 h _ _ _ => exact .inr ⟨_, _, _, _, h, by decide, fun _ _ _ _ => rfl⟩

/-- a call of _law_one_right gives True -/
theorem one_c {w : World} {mean : ExcName → Option Value} {mg mb : PySem.Str → Option Value} {dp un : Nat} {gd : Option (List Code)} {cn : PySem.Str} {cs : Scope} {a : Addr} {ccd : Value} {cl : List (PySem.Str × Addr)} {outer : List Env} {A₀ : Around} {base h₀ : Heap} {L : Addr} {m : PySem.Str → Option Value} {s : Shared} {l imm : List (Addr × Obj)} {p TB a0 a1 a2 a3 : Addr} {t0 t1 t2 t3 : Tm} {vs : List Value} {ts : List Tm} {n nt : Nat} {Q E : Value → Shared → Prop}
   (B : Below A₀ base outer h₀) (F : Fr h₀ L s.heap m) (X : (hd.heap_39 w.params).In h₀) (Tp : Top hd.view_39 (looseW hd.view_39 []) mean mg mb h₀) (hk : cs.kind = .function) (N : News h₀ L s.heap l) (hp : (p, tup vs n) ∈ l) (hTB : (TB, PySem.W.listOf #[.ref a0, .ref a1, .ref a2, .ref a3] nt) ∈ l) (hts : TmAll imm vs ts) (hsub : ∀ q ∈ imm, q ∈ l) (hlen : vs.length ≤ 16)
   (h0 : TmIn imm a0 t0) (h1 : TmIn imm a1 t1) (h2 : TmIn imm a2 t2) (h3 : TmIn imm a3 t3) (hD : ∀ t ∈ ts, t.dep ≤ 3)
   (hd : dp + 30 < 1000) (hu : un + 1500 < 9900)
   (ret : ∀ h' tk', Fr h₀ L h' m → News h₀ L h' l → Q (.bool true) { s with heap := h', toks := tk' }) :
   wpAny (model PySem.Challenge.rw_rh0062_01.row.prog w) (ktrTop dp un gd cn cs L a ccd cl outer) (call (.ref 89) [.ref p, .ref TB]) Q E s := by
  have hC : ∀ t : Tm, t.dep < 8 → FillSpec w mean mg mb t0 t1 t2 t3 t := fun t _ => fill_all t
  have hM : OfFill (Tm.fill t0 t1 t2 t3) 3 := ⟨⟩
  have htk := hts.take1
  have htl : (vs.take 1).length ≤ 16384 := by rw [List.length_take]; omega
  have hts0 := hts
  cases hts with
  | nil =>
    refine wpAny_call ?_
    k_dflt ktr_enter
    k_steps
    all_goals first
      | (exfalso; omega)
      | exact ret _ _ (by assumption) (News.sub (by assumption) (by kqd_sub))
      | (rename (∀ (r : Addr) (tl' : List (Addr × Obj)), _) => ret'; exact ret' _ _ _ _ (by assumption) (by assumption) (by assumption) (by assumption))
      | fail "one: an end"
  | @cons a t _ _ ht hts =>
    rcases nonvar ht with ⟨k, t1', t2', n', rfl, hv, k0, k4⟩ | ⟨tag, tk, rest, n', hv, htag, hkey⟩
    · have hv' := hsub _ hv
      have hpk : TmAll imm [.ref (pickA a0 a1 a2 a3 k)] [Tm.pick t0 t1 t2 t3 k] := .cons (pick_in h0 h1 h2 h3) .nil
      refine wpAny_call ?_
      k_dflt ktr_enter
      k_steps
      all_goals first
        | (exfalso; omega)
        | exact ret _ _ (by assumption) (News.sub (by assumption) (by kqd_sub))
        | (rename (∀ (r : Addr) (tl' : List (Addr × Obj)), _) => ret'; exact ret' _ _ _ _ (by assumption) (by assumption) (by assumption) (by assumption))
        | fail "one: an end"
    · have hv' := hsub _ hv
      have hkey' := hkey t0 t1 t2 t3
      refine wpAny_call ?_
      k_dflt ktr_enter
      k_steps
      all_goals first
        | (exfalso; omega)
        | exact ret _ _ (by assumption) (News.sub (by assumption) (by kqd_sub))
        | (rename (∀ (r : Addr) (tl' : List (Addr × Obj)), _) => ret'; exact ret' _ _ _ _ (by assumption) (by assumption) (by assumption) (by assumption))
        | fail "one: an end"
end RhOne

section RhLawA
abbrev TO (S : Addr) (i : Int) (ti : Tok) (j : Int) (tj : Tok) (n : Nat) : Obj := PySem.W.listOf #[.ref S, .int i ti, .int j tj] n
abbrev IO' (vs : List Value) (n : Nat) : Obj := PySem.W.listOf vs.toArray n

theorem arg_use2 {w : World} {mean : ExcName → Option Value} {mg mb : PySem.Str → Option Value} {dp un : Nat} {gd : Option (List Code)} {cn : PySem.Str} {cs : Scope} {a : Addr} {ccd : Value} {cl : List (PySem.Str × Addr)} {outer : List Env} {A₀ : Around} {base h₀ : Heap} {L : Addr} {m : PySem.Str → Option Value} {s : Shared} {fr : List (Addr × Obj)}
   {T S : Addr} {i j x : Int} {ti tj tx : Tok} {vs : List Value} {ns : List Int} {n n' : Nat} {Q E : Value → Shared → Prop}
   (B : Below A₀ base outer h₀) (F : Fr h₀ L s.heap m) (X : (hd.heap_39 w.params).In h₀) (Tp : Top hd.view_39 (looseW hd.view_39 []) mean mg mb h₀) (hk : cs.kind = .function)
   (N : News h₀ L s.heap ((T, TO S i ti j tj n) :: (S, IO' vs n') :: fr))
   (hTS : @LT.lt Nat _ S T) (hT : ∀ p ∈ fr, p.1 ≠ T) (hS : ∀ p ∈ fr, p.1 ≠ S) (hi : 0 ≤ i) (hns : IntsAre vs ns) (hlen : ns.length ≤ 60)
   (h0 : 0 ≤ x) (h1 : x < 4) (hd : dp + 230 < 1000) (hu : un + 1200 < 9900)
   (ret : ∀ r t tl i' j' ti' tj' vs' ns' h' tk', Fr h₀ L h' m → News h₀ L h' ((T, TO S i' ti' j' tj' n) :: (S, IO' vs' n') :: (tl ++ fr)) → 0 ≤ i' → IntsAre vs' ns' → ns'.length ≤ 60 →
     (∀ p ∈ tl, p.1 ≠ T) → (∀ p ∈ tl, p.1 ≠ S) → Apart tl fr → TmIn tl r t → (t.dep : Int) ≤ x → Q (.ref r) { s with heap := h', toks := tk' }) :
   wpAny (model PySem.Challenge.rw_rh0062_01.row.prog w) (ktrTop dp un gd cn cs L a ccd cl outer) (call (.ref 72) [.ref T, .int x tx]) Q E s :=
  arg_use (d := 4) (fun k _ => arg_all k) B F X Tp hk N hTS hT hS hi hns hlen h0 h1 (by omega) (by omega)
    fun r t tl i' j' ti' tj' vs' ns' h' tk' F' N' hi' hns' hlen' hT' hS' hlt hR hd' =>
      ret r t tl i' j' ti' tj' vs' ns' h' tk' F' N' hi' hns' hlen' hT' hS' (fun q hq p hp => Nat.ne_of_gt (ktn_ltOf (hlt q hq).2.2 p hp)) hR hd'

section
variable {prog : Program} {w : World} {A : Around} {E : Value → Shared → Prop} {s : Shared} {h₀ : Heap} {L : Addr} {m : PySem.Str → Option Value} {env : Env}

def ArgTurn (prog : Program) (w : World) (A : Around) (s : Shared) (h₀ : Heap) (L : Addr) (m : PySem.Str → Option Value) (env : Env) (elt : PySem.Expr) (scope : Scope) (cl : List (PySem.Str × Addr)) (T S : Addr) (n n' : Nat) (fr : List (Addr × Obj)) (dm : Int) : Prop :=
  ∀ I oI C oC D ys m₂ h tk (E' : Value → Shared → Prop) tl i j ti tj vs ns (Q : Value → Shared → Prop),
    LCg.NsObj oC m₂ → Fr h₀ L h m → News h₀ L h ((T, TO S i ti j tj n) :: (S, IO' vs n') :: (I, oI) :: (C, oC) :: (D, LCg.lst ys) :: (tl ++ fr)) →
    (∀ p ∈ (I, oI) :: (C, oC) :: (D, LCg.lst ys) :: (tl ++ fr), p.1 ≠ T) → (∀ p ∈ (I, oI) :: (C, oC) :: (D, LCg.lst ys) :: (tl ++ fr), p.1 ≠ S) → 0 ≤ i → IntsAre vs ns → ns.length ≤ 60 →
    (∀ r t tl' i' j' ti' tj' vs' ns' h' tk', Fr h₀ L h' m → News h₀ L h' ((T, TO S i' ti' j' tj' n) :: (S, IO' vs' n') :: (tl' ++ ((I, oI) :: (C, oC) :: (D, LCg.lst ys) :: (tl ++ fr)))) → 0 ≤ i' → IntsAre vs' ns' → ns'.length ≤ 60 →
      (∀ p ∈ tl', p.1 ≠ T) → (∀ p ∈ tl', p.1 ≠ S) → Apart tl' ((I, oI) :: (C, oC) :: (D, LCg.lst ys) :: (tl ++ fr)) → TmIn tl' r t → (t.dep : Int) ≤ dm → Q (.ref r) { s with heap := h', toks := tk' }) →
    wpAny (model prog w) A (eval elt (compEnvC scope cl C env)) Q E' { s with heap := h, toks := tk }

theorem off3_mem {I C D : Addr} {l : List (Addr × Obj)} (h : LCg.Off3 I C D l) {p : Addr × Obj} (hp : p ∈ l) : p.1 ≠ I ∧ p.1 ≠ C ∧ p.1 ≠ D := h.mem p hp
theorem all_c {T : Addr} {x : Addr × Obj} {l : List (Addr × Obj)} (h : x.1 ≠ T) (h' : ∀ p ∈ l, p.1 ≠ T) : ∀ p ∈ x :: l, p.1 ≠ T := List.forall_mem_cons.mpr ⟨h, h'⟩

theorem rest_args {elt : PySem.Expr} {x : PySem.Str} {scope : Scope} {cl : List (PySem.Str × Addr)} {P : Nat → Value → Prop} {Fin : List Value → List (Addr × Obj) → Prop} {T S : Addr} {n n' : Nat} {fr : List (Addr × Obj)} {dm : Int} {c : Nat}
    (turn : ArgTurn prog w A s h₀ L m env elt scope cl T S n n' fr dm) (hT : ∀ p ∈ fr, p.1 ≠ T) (hS : ∀ p ∈ fr, p.1 ≠ S)
    (fin : ∀ ys ts tl i j ti tj vs ns, ys.length = c → 0 ≤ i → IntsAre vs ns → ns.length ≤ 60 → TmAll tl ys ts → (∀ t ∈ ts, (t.dep : Int) ≤ dm) → Apart tl fr → (∀ p ∈ tl, p.1 ≠ T) → (∀ p ∈ tl, p.1 ≠ S) → Fin ys ((T, TO S i ti j tj n) :: (S, IO' vs n') :: (tl ++ fr))) :
    ∀ k i0 ys ts tl i j ti tj vs ns, ys.length + k = c → 0 ≤ i → IntsAre vs ns → ns.length ≤ 60 → TmAll tl ys ts → (∀ t ∈ ts, (t.dep : Int) ≤ dm) → Apart tl fr → (∀ p ∈ tl, p.1 ≠ T) → (∀ p ∈ tl, p.1 ≠ S) →
      LCg.CompRest prog w A h₀ L m env elt x scope cl s (fun _ => True) P Fin k i0 ys ((T, TO S i ti j tj n) :: (S, IO' vs n') :: (tl ++ fr)) := by
  intro k
  induction k with
  | zero =>
    intro i0 ys ts tl i j ti tj vs ns hc hi hns hl hall hdep hap h1 h2
    exact LCg.CompRest.zero (fin ys ts tl i j ti tj vs ns (by omega) hi hns hl hall hdep hap h1 h2)
  | succ k ih =>
    intro i0 ys ts tl i j ti tj vs ns hc hi hns hl hall hdep hap h1 h2
    refine LCg.CompRest.succ fun v I oI C oC D m₂ h tk E' hP hC hx F N off ne => ?_
    have oT := off.1
    have oS := off.2.1
    have oR := off.2.2
    refine turn I oI C oC D ys m₂ h tk E' tl i j ti tj vs ns _ hC F ?_ ?_ ?_ hi hns hl ?_
    · exact News.sub N (by intro p hp; simp only [List.mem_cons, List.mem_append] at hp ⊢; grind)
    · exact all_c (Ne.symm oT.1) (all_c (Ne.symm oT.2.1) (all_c (Ne.symm oT.2.2) (all_app h1 hT)))
    · exact all_c (Ne.symm oS.1) (all_c (Ne.symm oS.2.1) (all_c (Ne.symm oS.2.2) (all_app h2 hS)))
    · intro r t tl' i' j' ti' tj' vs' ns' h' tk' F' N' hi' hns' hl' hT' hS' hap' hR hd
      refine LCg.CompEnd.intro F' N' ((T, TO S i' ti' j' tj' n) :: (S, IO' vs' n') :: ((tl' ++ tl) ++ fr)) ?_ ?_ True.intro ?_
      · intro p hp; simp only [List.mem_cons, List.mem_append] at hp ⊢; grind
      · refine ⟨oT, oS, ?_⟩
        rw [List.append_assoc]
        exact off3_app oR fun p hp => ⟨hap' p hp _ (.head _), hap' p hp _ (.tail _ (.head _)), hap' p hp _ (.tail _ (.tail _ (.head _)))⟩
      · refine ih (i0 + 1) (ys ++ [.ref r]) (ts ++ [t]) (tl' ++ tl) i' j' ti' tj' vs' ns' (by rw [List.length_append, List.length_singleton]; omega) hi' hns' hl' ?_ ?_ ?_ (all_app hT' h1) (all_app hS' h2)
        · exact TmAll.snoc (hall.mono fun _ h => List.mem_append.mpr (.inr h)) (hR.mono fun _ h => List.mem_append.mpr (.inl h))
        · intro t' ht'
          rcases List.mem_append.mp ht' with ht' | ht'
          · exact hdep t' ht'
          · rw [List.mem_singleton.mp ht']; exact hd
        · refine Apart.app (hap'.sub fun p hp => .tail _ (.tail _ (.tail _ (List.mem_append.mpr (.inr hp))))) hap

theorem range_five {b : Int} (h0 : 0 ≤ b) (h4 : b ≤ 4) : Builtin.Range.small 0 b 1 = true ∧ Builtin.Range.rangeSize 0 b 1 = ((b.toNat : Nat) : Int) := by
  obtain rfl | rfl | rfl | rfl | rfl : b = 0 ∨ b = 1 ∨ b = 2 ∨ b = 3 ∨ b = 4 := by omega
  all_goals exact ⟨by decide, by decide⟩

theorem compSrc_args {elt : PySem.Expr} {x : PySem.Str} {scope : Scope} {cl : List (PySem.Str × Addr)} {Fin : Shared → List Value → List (Addr × Obj) → Prop} {T S : Addr} {n n' : Nat} {fr : List (Addr × Obj)} {r : Addr} {b i j : Int} {ti tj t u v : Tok} {vs : List Value} {ns : List Int} {s₁ : Shared} (dm : Int)
    (hh : A.handled = none) (F : Fr h₀ L s₁.heap m) (N : News h₀ L s₁.heap ((T, TO S i ti j tj n) :: (S, IO' vs n') :: fr)) (hr : IsRange s₁.heap r 0 b 1 t u v) (h0 : 0 ≤ b) (h4 : b ≤ 4)
    (hT : ∀ p ∈ fr, p.1 ≠ T) (hS : ∀ p ∈ fr, p.1 ≠ S) (hi : 0 ≤ i) (hns : IntsAre vs ns) (hl : ns.length ≤ 60)
    (turn : ArgTurn prog w A s₁ h₀ L m env elt scope cl T S n n' fr dm)
    (fin : ∀ g ys ts tl i j ti tj vs ns, ys.length = b.toNat → ys.length ≤ 4 → 0 ≤ i → IntsAre vs ns → ns.length ≤ 60 → TmAll tl ys ts → (∀ t ∈ ts, (t.dep : Int) ≤ dm) → Apart tl fr → (∀ p ∈ tl, p.1 ≠ T) → (∀ p ∈ tl, p.1 ≠ S) → Fin { s₁ with heap := g } ys ((T, TO S i ti j tj n) :: (S, IO' vs n') :: (tl ++ fr))) :
    LCg.CompSrc prog w A h₀ L m env elt x scope cl Fin (.ref r) s₁ := by
  obtain ⟨hsm, hn⟩ := range_five h0 h4
  refine LCg.CompSrc.range (n := b.toNat) hh F N hr hsm hn (by rw [sizeLine_eq]; omega) fun g => ?_
  exact rest_args (s := { s₁ with heap := g }) turn hT hS (fun ys ts tl i j ti tj vs ns e => fin g ys ts tl i j ti tj vs ns e (by omega)) b.toNat 0 [] [] [] i j ti tj vs ns (by simp) hi hns hl .nil (fun _ h => nomatch h) Apart.nil (fun _ h => nomatch h) (fun _ h => nomatch h)
end
end RhLawA

section RhLawB
section
variable {prog : Program} {w : World} {A : Around} {E : Value → Shared → Prop} {s : Shared} {h₀ : Heap} {L : Addr} {m : PySem.Str → Option Value} {env : Env}

theorem append_lap {pX pD pT pS pI : Addr × Obj} {H : Addr} {its : Array Value} {k : Nat} {tl rest : List (Addr × Obj)} {v : Value} {Q : Value → Shared → Prop}
    (F : Fr h₀ L s.heap m) (N : News h₀ L s.heap (pX :: pD :: pT :: pS :: (tl ++ (pI :: (H, PySem.W.listOf its k) :: rest))))
    (hX : AllLt pX.1 (pD :: pT :: pS :: (tl ++ (pI :: (H, PySem.W.listOf its k) :: rest)))) (hD : LCg.Off1 pD.1 (pT :: pS :: (tl ++ (pI :: (H, PySem.W.listOf its k) :: rest))))
    (hap : Apart tl (pI :: (H, PySem.W.listOf its k) :: rest)) (hT : ∀ p ∈ tl, p.1 ≠ pT.1) (hS : ∀ p ∈ tl, p.1 ≠ pS.1)
    (h1 : pT.1 ≠ H) (h2 : pS.1 ≠ H) (h3 : pI.1 ≠ H) (h4 : ∀ p ∈ rest, p.1 ≠ H) (hz : its.size ≤ 16)
    (h : ∀ h', Fr h₀ L h' m → News h₀ L h' (pT :: pS :: pI :: (H, PySem.W.listOf (its.push v) (k + 1)) :: ((pX :: pD :: tl) ++ rest)) → (∀ p ∈ pX :: pD :: tl, p.1 ≠ pT.1) → (∀ p ∈ pX :: pD :: tl, p.1 ≠ pS.1) → (∀ p ∈ pX :: pD :: tl, p.1 ≠ pI.1) → (∀ p ∈ pX :: pD :: tl, p.1 ≠ H) → Q .none { s with heap := h' }) :
    wpAny (model prog w) A (call (.builtin "list.append") [.ref H, v]) Q E s := by
  have xx := ktn_ltOf hX
  have dd := off1_of hD
  have eT : ∀ p ∈ pX :: pD :: tl, p.1 ≠ pT.1 := all_c (Nat.ne_of_gt (xx _ (.tail _ (.head _)))) (all_c (dd _ (.head _)) hT)
  have eS : ∀ p ∈ pX :: pD :: tl, p.1 ≠ pS.1 := all_c (Nat.ne_of_gt (xx _ (.tail _ (.tail _ (.head _))))) (all_c (dd _ (.tail _ (.head _))) hS)
  have mI : ∀ {q : Addr × Obj}, q ∈ pI :: (H, PySem.W.listOf its k) :: rest → q ∈ pD :: pT :: pS :: (tl ++ (pI :: (H, PySem.W.listOf its k) :: rest)) := fun hq => .tail _ (.tail _ (.tail _ (List.mem_append.mpr (.inr hq))))
  have mI' : ∀ {q : Addr × Obj}, q ∈ pI :: (H, PySem.W.listOf its k) :: rest → q ∈ pT :: pS :: (tl ++ (pI :: (H, PySem.W.listOf its k) :: rest)) := fun hq => .tail _ (.tail _ (List.mem_append.mpr (.inr hq)))
  have eI : ∀ p ∈ pX :: pD :: tl, p.1 ≠ pI.1 := all_c (Nat.ne_of_gt (xx _ (mI (.head _)))) (all_c (dd _ (mI' (.head _))) fun p hp => hap p hp _ (.head _))
  have eH : ∀ p ∈ pX :: pD :: tl, p.1 ≠ H := all_c (Nat.ne_of_gt (xx _ (mI (.tail _ (.head _))))) (all_c (dd _ (mI' (.tail _ (.head _)))) fun p hp => hap p hp _ (.tail _ (.head _)))
  have N' : News h₀ L s.heap ((H, PySem.W.listOf its k) :: pT :: pS :: pI :: ((pX :: pD :: tl) ++ rest)) := News.sub N (by intro p hp; simp only [List.mem_cons, List.mem_append] at hp ⊢; grind)
  refine append_K F N' (Upd.head (all_c h1 (all_c h2 (all_c h3 (all_app eH h4))))) (fun h' F' N'' => h h' F' ?_ eT eS eI eH) (by rw [sizeLine_eq]; omega)
  exact News.sub N'' (by intro p hp; simp only [List.mem_cons, List.mem_append] at hp ⊢; grind)

/-- what stands behind a lap of the first loop -/
def LapPost (h₀ : Heap) (L : Addr) (m : PySem.Str → Option Value) (T S I H : Addr) (oI : Obj) (its : Array Value) (kH n n' : Nat) (rest : List (Addr × Obj)) (s : Shared) (f : Flow) (s' : Shared) : Prop :=
  f = .next ∧ ∃ X kX ys ts tl i ti j tj vs ns h tk, s' = { s with heap := h, toks := tk } ∧ Fr h₀ L h m ∧ News h₀ L h ((T, TO S i ti j tj n) :: (S, IO' vs n') :: (I, oI) :: (H, PySem.W.listOf (its.push (.ref X)) (kH + 1)) :: (tl ++ rest)) ∧
    0 ≤ i ∧ IntsAre vs ns ∧ ns.length ≤ 60 ∧ (X, tup ys kX) ∈ tl ∧ TmAll tl ys ts ∧ (∀ t ∈ ts, t.dep ≤ 3) ∧ ys.length ≤ 16 ∧ (∀ p ∈ tl, p.1 ≠ T) ∧ (∀ p ∈ tl, p.1 ≠ S) ∧ (∀ p ∈ tl, p.1 ≠ I) ∧ (∀ p ∈ tl, p.1 ≠ H)

theorem LapPost.intro {T S I H X : Addr} {oI : Obj} {its : Array Value} {kH n n' kX : Nat} {rest tl : List (Addr × Obj)} {pD : Addr × Obj} {ys : List Value} {ts : List Tm} {i j : Int} {ti tj : Tok} {vs : List Value} {ns : List Int} {h : Heap} {tk : Nat}
    (F : Fr h₀ L h m) (N : News h₀ L h ((T, TO S i ti j tj n) :: (S, IO' vs n') :: (I, oI) :: (H, PySem.W.listOf (its.push (.ref X)) (kH + 1)) :: (((X, tup ys kX) :: pD :: tl) ++ rest)))
    (hi : 0 ≤ i) (hns : IntsAre vs ns) (hl : ns.length ≤ 60) (hall : TmAll tl ys ts) (hdep : ∀ t ∈ ts, (t.dep : Int) ≤ 3) (hlen : ys.length ≤ 4)
    (hT : ∀ p ∈ (X, tup ys kX) :: pD :: tl, p.1 ≠ T) (hS : ∀ p ∈ (X, tup ys kX) :: pD :: tl, p.1 ≠ S) (hI : ∀ p ∈ (X, tup ys kX) :: pD :: tl, p.1 ≠ I) (hH : ∀ p ∈ (X, tup ys kX) :: pD :: tl, p.1 ≠ H) :
    LapPost h₀ L m T S I H oI its kH n n' rest s .next { s with heap := h, toks := tk } :=
  ⟨rfl, X, kX, ys, ts, (X, tup ys kX) :: pD :: tl, i, ti, j, tj, vs, ns, h, tk, rfl, F, N, hi, hns, hl, .head _, hall.mono fun _ h => .tail _ (.tail _ h), fun t ht => by have := hdep t ht; omega, by omega, hT, hS, hI, hH⟩

theorem lap_cut {M : Model} {stmt : PySem.Stmt} {T S I H : Addr} {oI : Obj} {its : Array Value} {kH n n' : Nat} {rest : List (Addr × Obj)} {i j : Int} {ti tj : Tok} {vs : List Value} {Q : Flow → Shared → Prop}
    (F : Fr h₀ L s.heap m) (N : News h₀ L s.heap ((T, TO S i ti j tj n) :: (S, IO' vs n') :: (I, oI) :: (H, PySem.W.listOf its kH) :: rest))
    (walk : wpAny M A (exec stmt env) (LapPost h₀ L m T S I H oI its kH n n' rest s) E s)
    (k : ∀ X kX ys ts tl i ti j tj vs ns h tk, Fr h₀ L h m → News h₀ L h ((T, TO S i ti j tj n) :: (S, IO' vs n') :: (I, oI) :: (H, PySem.W.listOf (its.push (.ref X)) (kH + 1)) :: (tl ++ rest)) →
      0 ≤ i → IntsAre vs ns → ns.length ≤ 60 → (X, tup ys kX) ∈ tl → TmAll tl ys ts → (∀ t ∈ ts, t.dep ≤ 3) → ys.length ≤ 16 → (∀ p ∈ tl, p.1 ≠ T) → (∀ p ∈ tl, p.1 ≠ S) → (∀ p ∈ tl, p.1 ≠ I) → (∀ p ∈ tl, p.1 ≠ H) → Q .next { s with heap := h, toks := tk }) :
    wpAny M A (exec stmt env) Q E s := by
  refine wpAny_mono walk (fun f s' hp => ?_) fun _ _ e => e
  obtain ⟨rfl, X, kX, ys, ts, tl, i, ti, j, tj, vs, ns, h, tk, rfl, F', N', a, b, c, d, e, f, g, t1, t2, t3, t4⟩ := hp
  exact k X kX ys ts tl i ti j tj vs ns h tk F' N' a b c d e f g t1 t2 t3 t4

theorem unr_lap {s₁ : Shared} {I : Addr} {it : Obj} {pT pS pH : Addr × Obj} {rest : List (Addr × Obj)} {R : (PySem.Str → Option Value) → List (Addr × Obj) → Prop} {h' : Heap} {tk : Nat} {m' : PySem.Str → Option Value}
    (F : Fr h₀ L h' m') (N : News h₀ L h' (pT :: pS :: (I, it) :: pH :: rest)) (h1 : pT.1 ≠ I) (h2 : pS.1 ≠ I) (h3 : pH.1 ≠ I) (h4 : ∀ p ∈ rest, p.1 ≠ I) (r : R m' (pT :: pS :: pH :: rest)) :
    UnrEnd h₀ L s₁ I it R { s₁ with heap := h', toks := tk } :=
  UnrEnd.intro F N (pT :: pS :: pH :: rest) (by intro p hp; simp only [List.mem_cons] at hp ⊢; grind) (all_c h1 (all_c h2 (all_c h3 h4))) r
theorem unr_one {s₁ : Shared} {I : Addr} {it : Obj} {l : List (Addr × Obj)} {R : (PySem.Str → Option Value) → List (Addr × Obj) → Prop} {h' : Heap} {tk : Nat} {m' : PySem.Str → Option Value}
    (F : Fr h₀ L h' m') (N : News h₀ L h' ((I, it) :: l)) (h1 : AllLt I l) (r : R m' l) :
    UnrEnd h₀ L s₁ I it R { s₁ with heap := h', toks := tk } :=
  UnrEnd.intro F N l (fun _ h => h) (fun p hp => Nat.ne_of_lt (ktn_ltOf h1 p hp)) r

theorem table_cut {G : Prop} {h : Heap} {D X1 X2 : Addr} {k1 k2 : Nat} {H : Addr} {pT pS : Addr × Obj} {tl3 tl2 tl1 rest : List (Addr × Obj)} {ys ys1 ys2 : List Value} {ts ts1 ts2 : List Tm}
    (N : News h₀ L h ((D, LCg.lst ys) :: pT :: pS :: (tl3 ++ ((H, PySem.W.listOf ((#[].push (.ref X1)).push (.ref X2)) (0 + 1 + 1)) :: (tl2 ++ (tl1 ++ rest)))))) (hlen : ys.length = 4) (h3 : TmAll tl3 ys ts)
    (hX1 : (X1, tup ys1 k1) ∈ tl1) (hX2 : (X2, tup ys2 k2) ∈ tl2) (ha1 : TmAll tl1 ys1 ts1) (ha2 : TmAll tl2 ys2 ts2)
    (k : ∀ big a0 a1 a2 a3 t0 t1 t2 t3 nt, News h₀ L h ((D, PySem.W.listOf #[.ref a0, .ref a1, .ref a2, .ref a3] nt) :: (H, PySem.W.listOf #[.ref X1, .ref X2] 2) :: big) → (X1, tup ys1 k1) ∈ big → (X2, tup ys2 k2) ∈ big → TmAll big ys1 ts1 → TmAll big ys2 ts2 →
      TmIn big a0 t0 → TmIn big a1 t1 → TmIn big a2 t2 → TmIn big a3 t3 → G) : G := by
  cases h3 with
  | nil => cases hlen
  | @cons a0 t0 _ _ b0 h3 =>
  cases h3 with
  | nil => cases hlen
  | @cons a1 t1 _ _ b1 h3 =>
  cases h3 with
  | nil => cases hlen
  | @cons a2 t2 _ _ b2 h3 =>
  cases h3 with
  | nil => cases hlen
  | @cons a3 t3 _ _ b3 h3 =>
  cases h3 with
  | cons b4 h3 => simp only [List.length_cons] at hlen; omega
  | nil =>
    have s3 : ∀ p ∈ tl3, p ∈ tl3 ++ (tl2 ++ tl1) := fun _ h => List.mem_append.mpr (.inl h)
    have s2 : ∀ p ∈ tl2, p ∈ tl3 ++ (tl2 ++ tl1) := fun _ h => List.mem_append.mpr (.inr (List.mem_append.mpr (.inl h)))
    have s1 : ∀ p ∈ tl1, p ∈ tl3 ++ (tl2 ++ tl1) := fun _ h => List.mem_append.mpr (.inr (List.mem_append.mpr (.inr h)))
    have N' : News h₀ L h ((D, PySem.W.listOf #[.ref a0, .ref a1, .ref a2, .ref a3] 4) :: pT :: pS :: (tl3 ++ ((H, PySem.W.listOf #[.ref X1, .ref X2] 2) :: (tl2 ++ (tl1 ++ rest))))) := N
    exact k (tl3 ++ (tl2 ++ tl1)) a0 a1 a2 a3 t0 t1 t2 t3 4 (News.sub N' (by intro p hp; simp only [List.mem_cons, List.mem_append] at hp ⊢; grind)) (s1 _ hX1) (s2 _ hX2) (ha1.mono s1) (ha2.mono s2) (b0.mono s3) (b1.mono s3) (b2.mono s3) (b3.mono s3)
end
end RhLawB

section RhLaw
theorem rot3 {h₀ h : Heap} {L : Addr} {x y z p q : Addr × Obj} {r : List (Addr × Obj)} (N : News h₀ L h (x :: y :: z :: p :: q :: r)) : News h₀ L h (p :: q :: x :: y :: z :: r) := News.sub N (by intro a ha; simp only [List.mem_cons] at ha ⊢; grind)

local macro_rules | `(tactic| k_all) => `(tactic| first | assumption | ((with_reducible refine all_app ?_ ?_) <;> k_all))
local macro_rules | `(tactic| k_mem) => `(tactic| first | assumption | (refine mem_a ?_; k_mem))
local macro_rules | `(tactic| kqd_sub) => `(tactic| first | assumption | exact fun _ h => h | exact sub_l | (refine sub_c ?_; kqd_sub) | (refine sub_a ?_; kqd_sub))
local macro_rules | `(tactic| walk_at "call ref") => `(tactic| (k_here; (with_reducible show wpAny _ _ (PySem.call (Value.ref 65) _) _ _ _); k_dflt (refine' digit_c ?k1 ?k2 ?k3 ?k4 ?k5 ?kN ?kTS ?kT ?kS ?ki ?kns ?klen ?klim ?kd ?ku ?_; (case k1 => k_asm); (case k2 => k_asm); (case k3 => k_asm); (case k4 => k_asm); (case k5 => first | rfl | assumption); (case kN => first | assumption | exact rot1 (by assumption) | exact rot2 (by assumption)); (case kTS => first | assumption | omega); (case kT => k_all); (case kS => k_all); (case ki => first | assumption | decide); (case kns => assumption); (case klen => first | assumption | omega); (case klim => decide); (case kd => ((try simp only [depth_in1, depth_deeper, depth_caller]); omega)); (case ku => ((try simp only [units_in1, units_deeper, units_caller]); omega)); k_whole; intro r9 tr9 i9 j9 ti9 tj9 vs9 ns9 h9 tk9 F9 N9 hi9 hns9 hlen9 hr09 hr9; (try dsimp only); (try k_fold))))
local macro_rules | `(tactic| walk_at "call ref") => `(tactic| (k_here; (with_reducible show wpAny _ _ (PySem.call (Value.ref 72) _) _ _ _); k_dflt (refine' arg_use2 ?k1 ?k2 ?k3 ?k4 ?k5 ?kN ?kTS ?kT ?kS ?ki ?kns ?klen ?kx0 ?kx1 ?kd ?ku ?_; (case k1 => k_asm); (case k2 => k_asm); (case k3 => k_asm); (case k4 => k_asm); (case k5 => first | rfl | assumption); (case kN => assumption); (case kTS => first | assumption | omega); (case kT => assumption); (case kS => assumption); (case ki => assumption); (case kns => assumption); (case klen => assumption); (case kx0 => decide); (case kx1 => decide); (case kd => ((try simp only [depth_in1, depth_deeper, depth_caller]); omega)); (case ku => ((try simp only [units_in1, units_deeper, units_caller]); omega)); k_whole; intro r9 t9 tl9 i9 j9 ti9 tj9 vs9 ns9 h9 tk9 F9 N9 hi9 hns9 hlen9 hT9 hS9 hap9 hR9 hd9; (try dsimp only); (try k_fold))))
local macro_rules | `(tactic| walk_at "exec Expr") => `(tactic| (goal_lacks LapPost; k_dflt (refine' lap_cut ?F ?N ?_ ?_; (case F => k_asm); (case N => assumption)); rotate_left 1; (intro X9 kX9 ys9 ts9 tl9 i9 ti9 j9 tj9 vs9 ns9 h9 tk9 F9 N9 hi9 hns9 hl9 hX9 hall9 hdep9 hlen9 hT9 hS9 hI9 hH9)))
local macro_rules | `(tactic| walk_at "eval ListComp") => `(tactic| (k_here; k_dflt (refine LCg.ListComp_U (F₀ := by k_asm) (by with_unfolding_all rfl) (by decide) (by rfl) (by decide) (by rfl) ?_)))
local macro_rules | `(tactic| walk_at "CompSrc") => `(tactic| (k_here; k_dflt (refine' compSrc_args 3 ?k1 ?k2 ?k3 ?k4 ?k5 ?k6 ?k7 ?k8 ?k9 ?k10 ?k11 ?_ ?_; (case k1 => rfl); (case k2 => k_asm); (case k3 => assumption); (case k4 => assumption); (case k5 => first | decide | exact Int.fmod_nonneg_of_pos _ (by decide)); (case k6 => first | decide | exact Int.lt_add_one_iff.mp (Int.fmod_lt_of_pos _ (by decide))); (case k7 => k_all); (case k8 => k_all); (case k9 => assumption); (case k10 => assumption); (case k11 => assumption))))

local macro_rules | `(tactic| walk_at "UnrEnd") => `(tactic| (k_dflt (refine' unr_lap ?F ?N ?h1 ?h2 ?h3 ?h4 ?_; (case F => assumption); (case N => assumption); (case h1 => k_ne); (case h2 => k_ne); (case h3 => k_ne); (case h4 => k_all))))
local macro_rules | `(tactic| walk_at "ArgTurn") => `(tactic| (unfold ArgTurn; intros))
local macro_rules | `(tactic| walk_at "call builtin:list.append") => `(tactic| (k_here; (with_reducible show wpAny _ _ (PySem.call (Value.builtin _) [Value.ref _, _]) _ _ _); k_dflt (refine' append_lap ?k1 ?k2 ?k3 ?k4 ?k5 ?k6 ?k7 ?k8 ?k9 ?k10 ?k11 ?k12 ?_; (case k1 => k_asm); (case k2 => assumption); (case k3 => assumption); (case k4 => assumption); (case k5 => assumption); (case k6 => assumption); (case k7 => assumption); (case k8 => k_ne); (case k9 => k_ne); (case k10 => k_ne); (case k11 => k_all); (case k12 => exact Nat.le_of_ble_eq_true rfl); k_whole); intro h' F' N' hT' hS' hI' hH'))
local macro_rules | `(tactic| walk_at "LapPost") => `(tactic| (k_dflt (exact LapPost.intro (by assumption) (by assumption) (by assumption) (by assumption) (by assumption) (by assumption) (by assumption) (by assumption) (by assumption) (by assumption) (by assumption) (by assumption))))

local macro_rules | `(tactic| walk_at "call ref") => `(tactic| (k_here; (with_reducible show wpAny _ _ (PySem.call (Value.ref 28) _) _ _ _); k_dflt (refine' fak_c ?k1 ?k2 ?k3 ?k4 ?k5 ?kN ?kp ?kt ?ks ?kl ?kd ?ku ?_; (case k1 => k_asm); (case k2 => k_asm); (case k3 => k_asm); (case k4 => k_asm); (case k5 => first | rfl | assumption); (case kN => k_asm); (case kp => k_mem); (case kt => assumption); (case ks => kqd_sub); (case kl => first | assumption | omega | exact Nat.le_of_ble_eq_true rfl); (case kd => ((try simp only [depth_in1, depth_deeper, depth_caller]); omega)); (case ku => ((try simp only [units_in1, units_deeper, units_caller]); omega)); k_whole; intro r9 tl9 h9 tk9 F9 N9 hap9 hK9; (try dsimp only); (try k_fold))))
local macro_rules | `(tactic| walk_at "call ref") => `(tactic| (k_here; (with_reducible show wpAny _ _ (PySem.call (Value.ref 84) _) _ _ _); k_dflt (refine' top_c ?k1 ?k2 ?k3 ?k4 ?k5 ?kN ?kp ?kt ?ks ?kl ?kd ?ku ?_; (case k1 => k_asm); (case k2 => k_asm); (case k3 => k_asm); (case k4 => k_asm); (case k5 => first | rfl | assumption); (case kN => k_asm); (case kp => k_mem); (case kt => assumption); (case ks => kqd_sub); (case kl => first | assumption | omega | exact Nat.le_of_ble_eq_true rfl); (case kd => ((try simp only [depth_in1, depth_deeper, depth_caller]); omega)); (case ku => ((try simp only [units_in1, units_deeper, units_caller]); omega)); k_whole; intro r9 tl9 h9 tk9 F9 N9 hap9 hP9; (try dsimp only); (try k_fold))))
local macro_rules | `(tactic| walk_at "call type:tuple") => `(tactic| (k_here; (with_reducible show wpAny _ _ (PySem.call (Value.type _) [Value.ref _]) _ _ _); k_dflt (refine' tuple_lst ?k1 ?k2 ?k3 ?k4 ?_; (case k1 => k_asm); (case k2 => k_asm); (case k3 => k_mem); (case k4 => omega); k_whole); intro D' h' F' N' l1; (try k_lt l1); (try k_sweep)))
local macro_rules | `(tactic| walk_at "call ref") => `(tactic| (k_here; (with_reducible show wpAny _ _ (PySem.call (Value.ref 89) _) _ _ _); k_dflt (refine' one_c ?k1 ?k2 ?k3 ?k4 ?k5 ?kN ?kp ?kT ?kt ?ks ?kl ?h0 ?h1 ?h2 ?h3 ?hD ?kd ?ku ?_; (case k1 => k_asm); (case k2 => k_asm); (case k3 => k_asm); (case k4 => k_asm); (case k5 => first | rfl | assumption); (case kN => k_asm); (case kp => k_mem); (case kT => k_mem); (case kt => assumption); (case ks => kqd_sub); (case kl => assumption); (case h0 => assumption); (case h1 => assumption); (case h2 => assumption); (case h3 => assumption); (case hD => assumption); (case kd => ((try simp only [depth_in1, depth_deeper, depth_caller]); omega)); (case ku => ((try simp only [units_in1, units_deeper, units_caller]); omega)); k_whole; intro h9 tk9 F9 N9; (try dsimp only); (try k_fold))))
local macro_rules | `(tactic| walk_at "compareOp Eq") => `(tactic| (k_here; k_dflt (refine' tp_eq ?k2 ?k3 ?k4 ?k5 ?k6 ?k7 ?_; (case k2 => k_asm); (case k3 => assumption); (case k4 => assumption); (case k5 => kqd_sub); (case k6 => kqd_sub); (case k7 => ((try simp only [units_in1, units_deeper, units_caller, cLine]); omega)); k_whole)))
local macro_rules | `(tactic| walk_at "compareOp Eq ref ref") => `(tactic| (k_here; (with_reducible show wpAny _ _ (compareOp CmpOp.Eq (Value.ref _) (Value.ref _)) _ _ _); k_dflt (refine' key_eq ?k1 ?k2 ?k3 ?k4 ?k5 ?k6 ?k7 ?k8 ?_; (case k1 => k_asm); (case k2 => k_asm); (case k3 => k_asm); (case k4 => assumption); (case k5 => assumption); (case k6 => kqd_sub); (case k7 => kqd_sub); (case k8 => ((try simp only [units_in1, units_deeper, units_caller, cLine]); omega)); k_whole)))
local macro_rules | `(tactic| walk_at "FinA") => `(tactic| ((unfold LCg.FinA); intro D' h' tk' F' N' o1'; k_dflt (refine' table_cut ?k1 ?k2 ?k3 ?k4 ?k5 ?k6 ?k7 ?_; (case k1 => assumption); (case k2 => assumption); (case k3 => assumption); (case k4 => assumption); (case k5 => assumption); (case k6 => assumption); (case k7 => assumption)); clear N'; intro big9 a09 a19 a29 a39 t09 t19 t29 t39 nt9 N9 hX19 hX29 hA19 hA29 h09 h19 h29 h39; (try dsimp only)))
local macro_rules | `(tactic| walk_at "pyIter ref") => `(tactic| ((with_reducible show wpAny _ _ (pyIter (Value.ref _)) (fun it s₂ => LoopAtV _ _ _ _ _ _ _ _ _ it s₂) _ _); k_here; k_dflt (refine' iter_listUnr ?k1 ?k2 ?k3 ?k4 ?k5 ?k6 ?_; (case k1 => rfl); (case k2 => k_asm); (case k3 => k_asm); (case k4 => k_mem); (case k5 => rfl); (case k6 => rfl)); intro i' l1; (try k_lt l1)))
local macro_rules | `(tactic| walk_at "UnrEnd") => `(tactic| (k_dflt (refine' unr_one ?F ?N ?h1 ⟨?h2, ?_⟩; (case F => assumption); (case N => assumption); (case h1 => first | assumption | exact allLt_of (by assumption)); (case h2 => k_mem))))

open Classical in
theorem key_top_bool (ts us : List Tm) : (decide (keyOfs ts = keyOfs us) == decide (topOfs ts = topOfs us)) = true := by
  rw [beq_iff_eq, decide_eq_decide]
  exact key_top ts us

theorem law_holds : PySem.Challenge.rw_rh0062_01.Holds := hd (by
  k_go0
  all_goals try k_fold
  k_steps
  all_goals first
    | (rename (∀ (r : Addr) (t : Tm), _) => ret'; exact ret' _ _ _ _ _ _ _ _ _ _ _ (by assumption) (by assumption) (by assumption) (by assumption) (by assumption) (by assumption) (by assumption) (by assumption) (by assumption) (by omega))
    | (rw [key_top_bool]; wrow_close)
    | fail "law: an end")
end RhLaw
end Mine

theorem PySem.Challenge.cw_rh0062_01_holds : PySem.Challenge.rw_rh0062_01.Holds := by
  exact Mine.law_holds
