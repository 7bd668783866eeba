import PyProof.Rows.All
import Wide.All
import OpenK.AllK
import Wide.FinOn
import PySem.Challenge.RW_nt0342_01
set_option Elab.async false
set_option compiler.extract_closed false
section
open PySem PySem.W PyProof.Rows
namespace Mine
set_option maxRecDepth 100000 in
set_option maxHeartbeats 8000000 in
open_top hd for PySem.Challenge.rw_nt0342_01
end Mine
end
open PySem PySem.W PySem.Calls PyProof.Rows PySem.Spec
set_option maxRecDepth 100000
namespace Mine
/- the head leaves a switch of the walk on: off for the defs; the law's own walk turns it on again -/
theorem switch_off : True := by
  w_top off
  exact True.intro
/- which address is not which: looked up among the facts of the context; omega where none says it (its proofs are long) -/
theorem viaLt {x y D : Nat} {Q : Prop} (h : y < D ∧ Q) (k : y < D ∧ Q → x < D) : x < D := k h
theorem viaNe {x y D : Nat} {Q : Prop} (h : y ≠ D ∧ Q) (k : y ≠ D ∧ Q → x ≠ D) : x ≠ D := k h
theorem px {P Q R : Prop} (k : Q → R) : P ∧ Q → R := fun h => k h.2
theorem lt1 {a b : Nat} (h : a < b) : a < b + 1 := Nat.lt_succ_of_lt h
theorem lt2 {a b c : Nat} (h : b < c) (k : a < b) : a < c := Nat.lt_trans k h
local macro_rules | `(tactic| walk_at "mine asm") => `(tactic| with_reducible assumption)
local macro_rules | `(tactic| walk_at "mine proj") => `(tactic| first | exact And.left | exact id | (refine px ?_; walk_at "mine proj"))
local macro_rules | `(tactic| walk_at "mine lt") => `(tactic| exact viaLt (by walk_at "mine asm") (by walk_at "mine proj"))
local macro_rules | `(tactic| walk_at "mine nq") => `(tactic| exact viaNe (by walk_at "mine asm") (by walk_at "mine proj"))
local macro_rules | `(tactic| k_ne) => `(tactic| (refine neN ?_; (try dsimp only); first | walk_at "mine asm" | exact Ne.symm (by walk_at "mine asm") | exact Nat.ne_of_gt (by walk_at "mine lt") | exact Nat.ne_of_lt (by walk_at "mine lt") | walk_at "mine nq" | exact Ne.symm (by walk_at "mine nq") | exact Nat.ne_of_gt (by walk_at "mine asm") | exact Nat.ne_of_lt (by walk_at "mine asm") | exact Nat.ne_of_gt (lt1 (by walk_at "mine lt")) | exact Nat.ne_of_lt (lt1 (by walk_at "mine lt")) | exact Nat.ne_of_gt (lt2 (by walk_at "mine asm") (by walk_at "mine lt")) | exact Nat.ne_of_lt (lt2 (by walk_at "mine asm") (by walk_at "mine lt")) | omega))
theorem rm {dp k j : Nat} (h : dp + k < recursionLimit) (hj : Nat.ble (1 + j) k = true) : dp + 1 + j < recursionLimit := by have := Nat.le_of_ble_eq_true hj; omega
theorem ru {un k j : Nat} (h : un + k < cLine) (hj : Nat.ble (3 + j) k = true) : un + 3 + j < cLine := by have := Nat.le_of_ble_eq_true hj; omega
theorem rmd {dp d : Nat} (h : dp + (d + 4) < recursionLimit) : dp + 1 + 2 < recursionLimit := by omega
theorem rud {un d : Nat} (h : un + 8 * (d + 4) < cLine) : un + 3 + 20 < cLine := by omega
local macro_rules | `(tactic| walk_at "mine room") => `(tactic| first | exact Nat.le_of_ble_eq_true rfl | exact rm (by walk_at "mine asm") rfl | exact rmd (by walk_at "mine asm") | ktr_room | fail "room")
local macro_rules | `(tactic| walk_at "mine units") => `(tactic| first | exact Nat.le_of_ble_eq_true rfl | exact ru (by walk_at "mine asm") rfl | exact rud (by walk_at "mine asm") | ktr_units | fail "units")
local macro_rules | `(tactic| walk_at "mine enter") => `(tactic| first
  | (refine' code_def ?k1 ?k2 ?k3 ?k4 ?k5 ?kA ?kF ?kK ?k6 ?k7 ?k8 ?k9 ?kB ?_ ?c2 ?c3 ?c4 ?c5; (case kA => exact rfl); (case kF => exact rfl); (case kK => first | exact rfl | assumption); (case k1 => k_asm); (case k2 => k_asm); (case k3 => k_asm); (case k4 => k_asm); (case k5 => k_asm); (case k6 => k_is); (case k7 => k_is); (case k8 => ktr_room); (case k9 => exact BindsTo.of_eq rfl); (case c5 => decide); (case kB => exact locs rfl); (case c2 => exact rfl); (case c3 => exact rfl); (case c4 => exact rfl); k_whole; intro g' L' h' FG' F' N' B' X' T'; (try dsimp only); (try k_fold))
  | (refine' code_defC ?k1 ?k2 ?k3 ?k4 ?k5 ?kA ?kF ?kK ?k6 ?k7 ?k8 ?k9 ?kB ?kD ?_ ?c2 ?c3 ?c4; (case kA => exact rfl); (case kF => exact rfl); (case kK => first | exact rfl | assumption); (case k1 => k_asm); (case k2 => k_asm); (case k3 => k_asm); (case k4 => k_asm); (case k5 => k_asm); (case k6 => k_is); (case k7 => k_is); (case k8 => ktr_room); (case k9 => exact BindsTo.of_eq rfl); (case kB => exact rfl); (case kD => decide +kernel); (case c2 => exact rfl); (case c3 => exact rfl); (case c4 => exact rfl); k_whole; intro g' L' h' tk' cells' FG' F' N' Y' B' X' T' l1; (try k_lt l1); k_cells Y'; (try simp only [List.cons_append, List.nil_append] at N'); (try dsimp only); (try k_fold)))
local macro_rules | `(tactic| walk_at "call ref") => `(tactic| (k_here; k_dflt (first
  | (refine' call_cls0 ?k1 ?k2 ?k3 ?k4 ?k5 ?_; (case k1 => k_asm); (case k2 => k_asm); (case k3 => k_asm); (case k4 => k_is); (case k5 => k_is); k_whole; intro x' d' h' F' N' l1 l2; (try k_lt l1); (try k_lt2 l2); (try k_sweep))
  | (refine' call_cls ?k1 ?k2 ?k3 ?k4 ?k5 ?k6 ?_; (case k1 => k_asm); (case k2 => k_asm); (case k3 => k_asm); (case k4 => k_is); (case k5 => k_is); (case k6 => k_is); k_whole; intro x' d' h' F' N' l1 l2; (try k_lt l1); (try k_lt2 l2); (try k_sweep); walk_at "mine enter")
  | (refine wpAny_call ?_; walk_at "mine enter"))))
-- M1
abbrev Ledger := List (Addr × Obj)
/-- the box: place and state -/
structure Bx where
  p : Int
  tp : Tok
  st : Int
  ts : Tok
  nb : Nat
def Bx.obj (x : Bx) (sl : Addr) : Obj := listOf #[.ref sl, .int x.p x.tp, .int x.st x.ts] x.nb
def Bx.Ok (x : Bx) : Prop := 0 ≤ x.p
/-- what stands around a call, and its room -/
structure Cx (w : World) (mean : ExcName → Option Value) (mg mb : Str → Option Value) (dp un nd nu : Nat) (cs : Scope) (outer : List Env) (A₀ : Around) (base h₀ : Heap) (L : Addr) (h : Heap) (m : Str → Option Value) : Prop where
  B : Below A₀ base outer h₀
  F : Fr h₀ L h m
  X : (hd.heap_39 w.params).In h₀
  T : Top hd.view_39 (looseW hd.view_39 []) mean mg mb h₀
  hk : cs.kind = .function
  hd : dp + nd < recursionLimit
  hu : un + nu < cLine
theorem off_of {h₀ h : Heap} {L a : Addr} {o : Obj} {news rest : Ledger} (N : News h₀ L h news) (R : ∀ p ∈ rest, p.2.cls = .type "tuple") (hm : (a, o) ∈ news) (hs : ∀ p ∈ rest, p ∈ news) (ho : o.cls ≠ .type "tuple") : ∀ p ∈ rest, p.1 ≠ a := by
  intro p hp e
  have h1 := (N p (hs p hp)).1
  have h2 := (N _ hm).1
  rw [e] at h1
  have h3 : p.2 = o := Option.some.inj (h1.symm.trans h2)
  exact ho (h3 ▸ R p hp)
section
local macro_rules | `(tactic| k_all) => `(tactic| assumption)
variable {w : World} {mean : ExcName → Option Value} {mg mb : Str → Option Value} {dp un : Nat} {gd : Option (List Code)} {cn : Str} {cs : Scope} {a : Addr} {ccd : Value} {cl : List (Str × Addr)} {outer : List Env}
    {A₀ : Around} {base h₀ : Heap} {L : Addr} {m : Str → Option Value} {s : Shared} {Q : Value → Shared → Prop} {E : Value → Shared → Prop}
set_option maxHeartbeats 8000000 in
theorem take0 {b sl : Addr} {many : Int} {tk : Tok} {x : Bx} {nl : Nat} {vs : List Value} {ns : List Int} {rest : Ledger}
    (C : Cx w mean mg mb dp un 2 20 cs outer A₀ base h₀ L s.heap m)
    (N : News h₀ L s.heap ((b, x.obj sl) :: (sl, listOf vs.toArray nl) :: rest))
    (hi : IntsAre vs ns) (hln : ns.length ≤ 40) (hb : @Ne Nat b sl) (hr : ∀ q ∈ rest, q.1 ≠ b) (hm : 0 < many) (hp : x.Ok)
    (hret : ∀ (x' : Bx) v tv h' tk', Fr h₀ L h' m → News h₀ L h' ((b, x'.obj sl) :: (sl, listOf vs.toArray nl) :: rest) → x'.Ok → 0 ≤ v → v < many → Q (.int v tv) { s with heap := h', toks := tk' }) :
    wpAny (model PySem.Challenge.rw_nt0342_01.row.prog w) (ktrTop dp un gd cn cs L a ccd cl outer) (call (.ref 119) [.ref b, .int many tk]) Q E s := by
  obtain ⟨B, F, X, T, hk, hd, hu⟩ := C
  obtain ⟨p, tp, st, ts, nb⟩ := x
  change 0 ≤ p at hp
  dsimp only [Bx.obj] at N
  revert X; k_fill; intro X
  refine wpAny_call ?_
  k_dflt ktr_enter
  k_steps
  all_goals (refine hret ⟨_, _, _, _, _⟩ _ _ _ _ (by assumption) (by assumption) ?_ ?_ ?_)
  all_goals (try dsimp only [Bx.Ok])
  all_goals first | exact fmod_lo _ hm | exact fmod_hi _ hm | omega
end
-- M2
/-- one entry taken out of a ledger -/
inductive Pick (q : Addr × Obj) : Ledger → Ledger → Prop
  | head {r} : Pick q (q :: r) r
  | tail {p r r'} : Pick q r r' → Pick q (p :: r) (p :: r')
theorem Pick.mem {q : Addr × Obj} {l r : Ledger} (h : Pick q l r) : ∀ p, p ∈ l ↔ p = q ∨ p ∈ r := by
  induction h with
  | head => intro p; exact List.mem_cons
  | tail _ ih => intro p; rw [List.mem_cons, ih p, List.mem_cons]; constructor <;> (rintro (h | h | h) <;> simp [h])
theorem newsSub {h₀ h : Heap} {L : Addr} {l l' : Ledger} (N : News h₀ L h l) (hs : ∀ p ∈ l', p ∈ l) : News h₀ L h l' := fun p hp => N p (hs p hp)
def Tups (l : Ledger) : Prop := ∀ p ∈ l, p.2.cls = .type "tuple"
theorem list_no : Value.type "list" ≠ Value.type "tuple" := by decide
theorem dict_no : Value.type "dict" ≠ Value.type "tuple" := by decide
theorem ref_no {a : Addr} : Value.ref a ≠ Value.type "tuple" := by intro h; cases h
theorem off_tup {h₀ h : Heap} {L a : Addr} {o : Obj} {news rest : Ledger} (N : News h₀ L h news) (R : Tups rest) (hm : (a, o) ∈ news) (hs : ∀ p ∈ rest, p ∈ news) (ho : o.cls ≠ .type "tuple") : ∀ p ∈ rest, p.1 ≠ a := off_of N R hm hs ho
theorem off_app {a : Addr} {l r : Ledger} (h1 : ∀ p ∈ l, p.1 ≠ a) (h2 : ∀ p ∈ r, p.1 ≠ a) : ∀ p ∈ l ++ r, p.1 ≠ a := fun p hp => (List.mem_append.mp hp).elim (h1 p) (h2 p)
section
variable {w : World} {mean : ExcName → Option Value} {mg mb : Str → Option Value} {dp un : Nat} {gd : Option (List Code)} {cn : Str} {cs : Scope} {a : Addr} {ccd : Value} {cl : List (Str × Addr)} {outer : List Env}
    {A₀ : Around} {base h₀ : Heap} {L : Addr} {m : Str → Option Value} {s : Shared} {Q : Value → Shared → Prop} {E : Value → Shared → Prop}
theorem take_call {b sl : Addr} {many : Int} {tk : Tok} {x : Bx} {nl : Nat} {vs : List Value} {ns : List Int} {news n1 : Ledger}
    (B : Below A₀ base outer h₀) (F : Fr h₀ L s.heap m) (X : (hd.heap_39 w.params).In h₀) (T : Top hd.view_39 (looseW hd.view_39 []) mean mg mb h₀) (hk : cs.kind = .function)
    (hd : dp + 2 < recursionLimit) (hu : un + 20 < cLine)
    (N : News h₀ L s.heap news) (P : Pick (b, x.obj sl) news n1) (hsl : (sl, listOf vs.toArray nl) ∈ news) (hi : IntsAre vs ns) (hln : ns.length ≤ 40)
    (hr : ∀ q ∈ n1, q.1 ≠ b) (hm : 0 < many) (hp : x.Ok)
    (hret : ∀ (x' : Bx) v tv h' tk', Fr h₀ L h' m → News h₀ L h' ((b, x'.obj sl) :: n1) → x'.Ok → 0 ≤ v → v < many → Q (.int v tv) { s with heap := h', toks := tk' }) :
    wpAny (model PySem.Challenge.rw_nt0342_01.row.prog w) (ktrTop dp un gd cn cs L a ccd cl outer) (call (.ref 119) [.ref b, .int many tk]) Q E s := by
  have hsl1 : (sl, listOf vs.toArray nl) ∈ n1 := by
    rcases (P.mem _).mp hsl with h | h
    · exfalso
      have h2 : listOf vs.toArray nl = x.obj sl := (Prod.mk.inj h).2
      have h3 := congrArg Obj.data h2
      dsimp only [Bx.obj] at h3
      have h4 : vs = [Value.ref sl, Value.int x.p x.tp, Value.int x.st x.ts] := by simpa using congrArg Array.toList (Data.seq.inj h3).1
      rw [h4] at hi
      cases hi
    · exact h
  refine take0 (rest := n1) (nl := nl) ⟨B, F, X, T, hk, hd, hu⟩ (newsSub N fun p hp => ?_) hi hln (fun e => hr _ hsl1 e.symm) hr hm hp fun x' v tv h' tk' F' N' => hret x' v tv h' tk' F' (newsSub N' fun p hp => ?_)
  · rcases List.mem_cons.mp hp with rfl | hp
    · exact (P.mem _).mpr (.inl rfl)
    · rcases List.mem_cons.mp hp with rfl | hp
      · exact hsl
      · exact (P.mem _).mpr (.inr hp)
  · rcases List.mem_cons.mp hp with rfl | hp
    · exact .head _
    · exact .tail _ (.tail _ hp)
end
-- M3
/-! ### the ranges, in plain Lean -/
structure Hd where
  lo : Int
  hi : Int
  dep : Int
  fin : Bool
abbrev tupOf (vs : List Value) : Obj := { cls := .type "tuple", data := .seq vs.toArray }
def HdIn (l : Ledger) (v : Value) (h : Hd) : Prop :=
  ∃ a t1 t2 t3 t4, v = .ref a ∧ (a, tupOf [.int h.lo t1, .int h.hi t2, .int h.hi t3, .int h.dep t4, .bool h.fin]) ∈ l
inductive HdsIn (l : Ledger) : List Value → List Hd → Prop
  | nil : HdsIn l [] []
  | cons {v h vs hs} : HdIn l v h → HdsIn l vs hs → HdsIn l (v :: vs) (h :: hs)
theorem HdIn.mono {l l' : Ledger} (hs : ∀ p ∈ l, p ∈ l') {v : Value} {h : Hd} : HdIn l v h → HdIn l' v h
  | ⟨a, t1, t2, t3, t4, e, hm⟩ => ⟨a, t1, t2, t3, t4, e, hs _ hm⟩
theorem HdsIn.mono {l l' : Ledger} (hs : ∀ p ∈ l, p ∈ l') {vs : List Value} {h : List Hd} (H : HdsIn l vs h) : HdsIn l' vs h := by
  induction H with
  | nil => exact .nil
  | cons a _ ih => exact .cons (a.mono hs) ih
theorem HdsIn.append {l : Ledger} {vs us : List Value} {h k : List Hd} (H : HdsIn l vs h) (K : HdsIn l us k) : HdsIn l (vs ++ us) (h ++ k) := by
  induction H with
  | nil => exact K
  | cons a _ ih => exact .cons a ih
/-- what stands earlier ends before what stands later, or lies strictly within it -/
def Aft (g h : Hd) : Prop := g.hi ≤ h.lo ∨ (h.lo ≤ g.lo ∧ g.hi < h.hi)
structure Nest (lo hi : Int) (hs : List Hd) : Prop where
  adv : lo ≤ hi
  within : ∀ h ∈ hs, lo ≤ h.lo ∧ h.lo < h.hi ∧ h.hi < hi ∧ 0 ≤ h.dep ∧ h.dep ≤ 1000
  post : hs.Pairwise Aft
theorem Nest.nil {lo hi : Int} (h : lo ≤ hi) : Nest lo hi [] := ⟨h, fun _ h => (nomatch h), .nil⟩
theorem Nest.seq {lo mid hi : Int} {hs ks : List Hd} (a : Nest lo mid hs) (b : Nest mid hi ks) : Nest lo hi (hs ++ ks) := by
  have h1 := a.adv; have h2 := b.adv
  refine ⟨by omega, fun h hm => ?_, List.pairwise_append.mpr ⟨a.post, b.post, fun g hg h hh => ?_⟩⟩
  · rcases List.mem_append.mp hm with hm | hm
    · have := a.within h hm; omega
    · have := b.within h hm; omega
  · have := a.within g hg; have := b.within h hh
    exact .inl (by omega)
theorem Nest.try {lo mid hi d : Int} {f : Bool} {hs ks : List Hd} (a : Nest lo mid hs) (b : Nest mid hi ks) (h1 : lo < mid) (h2 : mid < hi) (h3 : 0 ≤ d) (h4 : d ≤ 1000) : Nest lo hi (hs ++ ⟨lo, mid, d, f⟩ :: ks) := by
  refine ⟨by omega, fun h hm => ?_, List.pairwise_append.mpr ⟨a.post, List.pairwise_cons.mpr ⟨fun h hh => ?_, b.post⟩, fun g hg h hh => ?_⟩⟩
  · rcases List.mem_append.mp hm with hm | hm
    · have := a.within h hm; omega
    · rcases List.mem_cons.mp hm with rfl | hm
      · exact ⟨Int.le_refl _, h1, h2, h3, h4⟩
      · have := b.within h hm; omega
  · have := b.within h hh
    exact .inl (by show mid ≤ _; omega)
  · have := a.within g hg
    rcases List.mem_cons.mp hh with rfl | hh
    · exact .inr ⟨by show lo ≤ _; omega, by show _ < mid; omega⟩
    · have := b.within h hh
      exact .inl (by omega)
theorem Nest.more {lo mid hi : Int} {hs : List Hd} (a : Nest lo mid hs) (h : mid ≤ hi) : Nest lo hi hs := by
  have h1 := a.adv
  exact ⟨by omega, fun g hm => by have := a.within g hm; omega, a.post⟩
def cnt : Nat → Nat
  | 0 => 0
  | d + 1 => 2 * (1 + 2 * cnt d)
/-! ### a loop over a range, by what holds between its turns -/
def Stop (p : Prop) : Prop := p
theorem Stop.mk {p : Prop} (h : Stop p) : p := h
section
variable {prog : Program} {w : World} {A : Around} {E : Value → Shared → Prop} {s : Shared} {env : Env} {h₀ : Heap} {x : Str} {body : List Stmt} {Q : Flow → Shared → Prop}
theorem unrPost_mono {L I : Addr} {it : Obj} {s₁ : Shared} {r r' : (Str → Option Value) → Ledger → Prop} {f : Flow} {s₂ : Shared} (h : UnrPost h₀ L s₁ I it r Q f s₂) (hr : ∀ m n, (∀ p ∈ n, p.1 ≠ I) → r m n → r' m n) : UnrPost h₀ L s₁ I it r' Q f s₂ := by
  have k : UnrEnd h₀ L s₁ I it r s₂ → UnrEnd h₀ L s₁ I it r' s₂ := by
    rintro ⟨h', tk, m', news', e, F, N, off, q⟩
    exact ⟨h', tk, m', news', e, F, N, off, hr _ _ off q⟩
  cases f with
  | ret v => exact h
  | brk => exact h
  | next => exact k h
  | cont => exact k h
theorem rangeJ {I : Addr} {a : Int} {n : Nat} (J : Nat → (Str → Option Value) → Ledger → Prop)
    (turn : ∀ i m news t h tk, i < n → J i m news → (∀ p ∈ news, p.1 ≠ I) → Fr h₀ env.locals h (fun y => if y = x then some (.int (a + (i : Int)) t) else m y) →
      News h₀ env.locals h ((I, itR (a + ((i + 1 : Nat) : Int)) ((n : Int) - ((i + 1 : Nat) : Int))) :: news) →
      wpAny (model prog w) A (execs body env) (UnrPost h₀ env.locals { s with heap := h, toks := tk } I (itR (a + ((i + 1 : Nat) : Int)) ((n : Int) - ((i + 1 : Nat) : Int))) (J (i + 1)) Q) E { s with heap := h, toks := tk })
    (done : ∀ m news h tk, J n m news → Fr h₀ env.locals h m → News h₀ env.locals h news → Q .next { s with heap := h, toks := tk }) :
    ∀ k i m news, i + k = n → J i m news → (∀ p ∈ news, p.1 ≠ I) → RangeRest prog w A E h₀ env x body Q s I a n k i m news := by
  intro k
  induction k with
  | zero =>
    intro i m news e hj _
    have e' : i = n := e
    subst e'
    exact RangeRest.zero fun h tk F N => done m news h tk hj F N
  | succ k ih =>
    intro i m news e hj off
    refine RangeRest.succ fun t h tk F N => wpAny_mono (turn i m news t h tk (by omega) hj off F N) (fun f s₂ p => unrPost_mono p fun m' n' off' q => ih (i + 1) m' n' (by omega) q off') fun _ _ e => e
theorem small12 {v : Int} (h0 : 0 ≤ v) (h1 : v < 2) : Builtin.Range.small 0 (1 + v) 1 = true := by
  have h : v = 0 ∨ v = 1 := by omega
  rcases h with rfl | rfl <;> decide
theorem size12 {v : Int} (h0 : 0 ≤ v) (h1 : v < 2) : Builtin.Range.rangeSize 0 (1 + v) 1 = (((1 + v).toNat : Nat) : Int) := by
  have h : v = 0 ∨ v = 1 := by omega
  rcases h with rfl | rfl <;> decide
/-- a loop of one turn or two -/
theorem range12 {r : Addr} {v : Int} {t₀ u₀ v₀ : Tok} {m₀ : Str → Option Value} {news : Ledger} (hR : IsRange s.heap r 0 (1 + v) 1 t₀ u₀ v₀) (hv0 : 0 ≤ v) (hv1 : v < 2) (hh : A.handled = none)
    (F : Fr h₀ env.locals s.heap m₀) (N : News h₀ env.locals s.heap news) (J : Nat → (Str → Option Value) → Ledger → Prop) (j0 : J 0 m₀ news)
    (turn : ∀ i m nx t h tk I it, i < 2 → J i m nx → it.cls = .type "range_iterator" → (∀ p ∈ nx, p.1 ≠ I) → Fr h₀ env.locals h (fun y => if y = x then some (.int (0 + (i : Int)) t) else m y) →
      News h₀ env.locals h ((I, it) :: nx) →
      wpAny (model prog w) A (execs body env) (UnrPost h₀ env.locals { s with heap := h, toks := tk } I it (J (i + 1)) Q) E { s with heap := h, toks := tk })
    (done : ∀ n m nx h tk, 1 ≤ n → n ≤ 2 → J n m nx → Fr h₀ env.locals h m → News h₀ env.locals h nx → Q .next { s with heap := h, toks := tk }) :
    wpAny (model prog w) A (pyIter (.ref r)) (fun it s₂ => LoopAtV prog w A h₀ env x body Q E it s₂) E s := by
  refine iter_rangeUnr (n := (1 + v).toNat) hh hR (small12 hv0 hv1) (size12 hv0 hv1) F N fun I hI =>
    rangeJ J (fun i m nx t h tk hi hj off F' N' => turn i m nx t h tk I _ (by omega) hj rfl off F' N') (fun m nx h tk hj F' N' => done _ m nx h tk (by omega) (by omega) hj F' N') _ 0 m₀ news (by omega) j0 fun p hp => Nat.ne_of_lt (hI p hp)
end
-- M4
section
variable {prog : Program} {w : World} {A : Around} {E : Value → Shared → Prop} {s : Shared} {h₀ : Heap} {L : Addr} {m : Str → Option Value}
theorem append_call {D : Addr} {x : Value} {vs : List Value} {n : Nat} {news n1 : Ledger} {Q : Value → Shared → Prop} (F : Fr h₀ L s.heap m) (N : News h₀ L s.heap news) (P : Pick (D, listOf vs.toArray n) news n1)
    (off : ∀ q ∈ n1, q.1 ≠ D) (hsz : vs.length ≤ 16000000) (h : ∀ h', Fr h₀ L h' m → News h₀ L h' ((D, listOf (vs ++ [x]).toArray (n + 1)) :: n1) → Q .none { s with heap := h' }) :
    wpAny (model prog w) A (call (.builtin "list.append") [.ref D, x]) Q E s := by
  have N1 : News h₀ L s.heap ((D, listOf vs.toArray n) :: n1) := newsSub N fun p hp => (P.mem p).mpr (List.mem_cons.mp hp)
  refine append_K F N1 (.head off) (fun h' F' N' => h h' F' ?_) (by rw [List.size_toArray]; exact Nat.le_trans hsz (by decide))
  rw [List.push_toArray] at N'
  exact N'
end
theorem cnt_half (d : Nat) : ∃ H, cnt d = 2 * H ∧ (1 ≤ d → H = 1 + 2 * cnt (d - 1)) := by
  cases d with
  | zero => exact ⟨0, rfl, by omega⟩
  | succ d => exact ⟨1 + 2 * cnt d, rfl, fun _ => rfl⟩
theorem tups_app {l r : Ledger} (h1 : Tups l) (h2 : Tups r) : Tups (l ++ r) := fun p hp => (List.mem_append.mp hp).elim (h1 p) (h2 p)
theorem tups_nil : Tups [] := fun _ h => (nomatch h)
theorem tups_cons {a : Addr} {vs : List Value} {l : Ledger} (h : Tups l) : Tups ((a, tupOf vs) :: l) := fun p hp => by
  rcases List.mem_cons.mp hp with rfl | hp
  · rfl
  · exact h p hp
/-- the block's loop, between its turns -/
def BJ (b t sl : Addr) (first depth z : Int) (td tz : Tok) (tv : List Value) (fixd rest : Ledger) (H : Nat) (i : Nat) (m : Str → Option Value) (nx : Ledger) : Prop :=
  ∃ (x : Bx) (atv : Int) (ta : Tok) (new : List Value) (hs : List Hd) (nt : Nat) (tl : Ledger), nx = (b, x.obj sl) :: (t, listOf (tv ++ new).toArray nt) :: (fixd ++ (rest ++ tl)) ∧ x.Ok ∧ Tups tl ∧ HdsIn tl new hs ∧ Nest first atv hs ∧
    (i = 0 → new.length = 0) ∧ (i ≤ 1 → new.length ≤ H) ∧ new.length ≤ 2 * H ∧ (1 ≤ i → first < atv) ∧
    m (Str.ofString "box") = some (.ref b) ∧ m (Str.ofString "depth") = some (.int depth td) ∧ m (Str.ofString "deep") = some (.int z tz) ∧ m (Str.ofString "told") = some (.ref t) ∧ m (Str.ofString "at") = some (.int atv ta)
section
variable {g h' : Heap} {L b t sl I : Addr} {m' : Str → Option Value} {all rest tl : Ledger} {it : Obj} {x : Bx} {first depth z atv : Int} {td tz ta : Tok} {tv new tvn : List Value} {hs : List Hd} {nt nl H i : Nat} {vs : List Value} {s₁ : Shared} {tk : Nat}
theorem blk_end (F : Fr g L h' m') (N : News g L h' all) (hI : (I, it) ∈ all) (hbm : (b, x.obj sl) ∈ all) (htm : (t, listOf tvn.toArray nt) ∈ all) (hsm : (sl, listOf vs.toArray nl) ∈ all)
    (e1 : m' (Str.ofString "box") = some (.ref b)) (e2 : m' (Str.ofString "depth") = some (.int depth td)) (e3 : m' (Str.ofString "deep") = some (.int z tz)) (e4 : m' (Str.ofString "told") = some (.ref t)) (e5 : m' (Str.ofString "at") = some (.int atv ta))
    (hrest : ∀ p ∈ rest, p ∈ all) (htl : ∀ p ∈ tl, p ∈ all) (hit : it.cls = .type "range_iterator") (hbI : @Ne Nat b I) (htI : @Ne Nat t I) (hsI : @Ne Nat sl I) (hrI : ∀ p ∈ rest, p.1 ≠ I)
    (e : tvn = tv ++ new) (hx : x.Ok) (ht : Tups tl) (hin : HdsIn tl new hs) (hne : Nest first atv hs) (c0 : i + 1 ≤ 1 → new.length ≤ H) (c1 : new.length ≤ 2 * H) (had : first < atv) :
    UnrEnd g L s₁ I it (BJ b t sl first depth z td tz tv [(sl, listOf vs.toArray nl)] rest H (i + 1)) { s₁ with heap := h', toks := tk } := by
  subst e
  have htI' : ∀ p ∈ tl, p.1 ≠ I := off_tup N ht hI htl (by rw [hit]; decide)
  refine UnrEnd.intro F N ((b, x.obj sl) :: (t, listOf (tv ++ new).toArray nt) :: ([(sl, listOf vs.toArray nl)] ++ (rest ++ tl))) (fun p hp => ?_) (fun p hp => ?_)
    ⟨x, atv, ta, new, hs, nt, tl, rfl, hx, ht, hin, hne, fun h => absurd h (Nat.succ_ne_zero _), c0, c1, fun _ => had, e1, e2, e3, e4, e5⟩
  · rcases List.mem_cons.mp hp with rfl | hp
    · exact hI
    rcases List.mem_cons.mp hp with rfl | hp
    · exact hbm
    rcases List.mem_cons.mp hp with rfl | hp
    · exact htm
    rcases List.mem_cons.mp hp with rfl | hp
    · exact hsm
    have hp : p ∈ rest ++ tl := hp
    exact (List.mem_append.mp hp).elim (hrest p) (htl p)
  · rcases List.mem_cons.mp hp with rfl | hp
    · exact hbI
    rcases List.mem_cons.mp hp with rfl | hp
    · exact htI
    rcases List.mem_cons.mp hp with rfl | hp
    · exact hsI
    have hp : p ∈ rest ++ tl := hp
    exact (List.mem_append.mp hp).elim (hrI p) (htI' p)
theorem blk_try {D : Addr} {new1 new2 : List Value} {hs1 hs2 : List Hd} {tl1 tl2 : Ledger} {at0 at1 more : Int} {t1 t2 t3 t4 : Tok} {f : Bool} (F : Fr g L h' m') (N : News g L h' all) (hI : (I, it) ∈ all) (hbm : (b, x.obj sl) ∈ all)
    (htm : (t, listOf (tv ++ new ++ new1 ++ [Value.ref D] ++ new2).toArray nt) ∈ all) (hD : (D, tupOf [.int at0 t1, .int at1 t2, .int at1 t3, .int more t4, .bool f]) ∈ all) (hsm : (sl, listOf vs.toArray nl) ∈ all)
    (hin1 : HdsIn tl1 new1 hs1) (hin2 : HdsIn tl2 new2 hs2)
    (hrest : ∀ p ∈ rest, p ∈ all) (htl : ∀ p ∈ tl, p ∈ all) (htl1 : ∀ p ∈ tl1, p ∈ all) (htl2 : ∀ p ∈ tl2, p ∈ all) (hit : it.cls = .type "range_iterator") (hbI : @Ne Nat b I) (htI : @Ne Nat t I) (hsI : @Ne Nat sl I) (hrI : ∀ p ∈ rest, p.1 ≠ I)
    (hx : x.Ok) (ht : Tups tl) (ht1 : Tups tl1) (ht2 : Tups tl2) (hin : HdsIn tl new hs) (hne : Nest first at0 hs) (hne1 : Nest at0 at1 hs1) (hne2 : Nest at1 atv hs2) (had1 : at0 < at1) (had2 : at1 < atv) (hd0 : 0 ≤ more) (hd1 : more ≤ 1000)
    (c0 : i + 1 ≤ 1 → new.length + (new1.length + (new2.length + 1)) ≤ H) (c1 : new.length + (new1.length + (new2.length + 1)) ≤ 2 * H)
    (e1 : m' (Str.ofString "box") = some (.ref b)) (e2 : m' (Str.ofString "depth") = some (.int depth td)) (e3 : m' (Str.ofString "deep") = some (.int z tz)) (e4 : m' (Str.ofString "told") = some (.ref t)) (e5 : m' (Str.ofString "at") = some (.int atv ta)) :
    UnrEnd g L s₁ I it (BJ b t sl first depth z td tz tv [(sl, listOf vs.toArray nl)] rest H (i + 1)) { s₁ with heap := h', toks := tk } := by
  have q1 := hne.adv
  refine blk_end (tl := tl ++ ((D, tupOf [.int at0 t1, .int at1 t2, .int at1 t3, .int more t4, .bool f]) :: (tl1 ++ tl2))) (new := new ++ (new1 ++ (Value.ref D :: new2))) (hs := hs ++ (hs1 ++ (⟨at0, at1, more, f⟩ :: hs2))) F N hI hbm htm hsm e1 e2 e3 e4 e5 hrest (fun p hp => ?_) hit hbI htI hsI hrI
    (by simp only [List.append_assoc, List.cons_append, List.nil_append]) hx (tups_app ht (tups_cons (tups_app ht1 ht2))) ?_ ?_ (fun h => by simp only [List.length_append, List.length_cons]; exact c0 h) (by simp only [List.length_append, List.length_cons]; exact c1) (by omega)
  · rcases List.mem_append.mp hp with hp | hp
    · exact htl p hp
    rcases List.mem_cons.mp hp with rfl | hp
    · exact hD
    exact (List.mem_append.mp hp).elim (htl1 p) (htl2 p)
  · refine (hin.mono fun p hp => List.mem_append_left _ hp).append ((hin1.mono fun p hp => List.mem_append_right _ (.tail _ (List.mem_append_left _ hp))).append (.cons ?_ (hin2.mono fun p hp => List.mem_append_right _ (.tail _ (List.mem_append_right _ hp)))))
    exact ⟨D, t1, t2, t3, t4, rfl, List.mem_append_right _ (.head _)⟩
  · exact hne.seq (Nest.try hne1 hne2 had1 had2 hd0 hd1)
end
/-! the turns' arithmetic, said once -/
section
variable {z depth v : Int} {d H T n n1 n2 i : Nat}
theorem bz (hz : z = (d : Int)) (h : z ≠ 0) : z - 1 = ((d - 1 : Nat) : Int) := by omega
theorem b1 (hz : z = (d : Int)) (h : z ≠ 0) : 1 ≤ d := by omega
theorem bcA (hz : z = (d : Int)) (h : z ≠ 0) (hH1 : 1 ≤ d → H = 1 + 2 * cnt (d - 1)) (hT : T + 2 * H ≤ 1000) (hn : n ≤ H) : T + n + cnt (d - 1) ≤ 1000 := by omega
theorem bcB (hz : z = (d : Int)) (h : z ≠ 0) (hH1 : 1 ≤ d → H = 1 + 2 * cnt (d - 1)) (hT : T + 2 * H ≤ 1000) (hn : n ≤ H) (h1 : n1 ≤ cnt (d - 1)) : T + n + n1 + (0 + 1) + cnt (d - 1) ≤ 1000 := by omega
theorem bcC (hz : z = (d : Int)) (h : z ≠ 0) (hH1 : 1 ≤ d → H = 1 + 2 * cnt (d - 1)) (hT : T + 2 * H ≤ 1000) (hn : n ≤ H) (h1 : n1 ≤ cnt (d - 1)) : T + n + n1 ≤ 16000000 := by omega
theorem bt0 (hz : z = (d : Int)) (h : z ≠ 0) (hH1 : 1 ≤ d → H = 1 + 2 * cnt (d - 1)) (hl0 : i = 0 → n = 0) (h1 : n1 ≤ cnt (d - 1)) (h2 : n2 ≤ cnt (d - 1)) : i + 1 ≤ 1 → n + (n1 + (n2 + 1)) ≤ H := by omega
theorem bt1 (hz : z = (d : Int)) (h : z ≠ 0) (hH1 : 1 ≤ d → H = 1 + 2 * cnt (d - 1)) (hn : n ≤ H) (h1 : n1 ≤ cnt (d - 1)) (h2 : n2 ≤ cnt (d - 1)) : n + (n1 + (n2 + 1)) ≤ 2 * H := by omega
theorem bt2 (hl0 : i = 0 → n = 0) : i + 1 ≤ 1 → n ≤ H := by omega
theorem brm {dp : Nat} (hz : z = (d : Int)) (h : z ≠ 0) (hd : dp + (d + 4) < recursionLimit) : dp + 1 + (d - 1 + 4) < recursionLimit := by omega
theorem bru {un : Nat} (hz : z = (d : Int)) (h : z ≠ 0) (hd : un + 8 * (d + 4) < cLine) : un + 3 + 8 * (d - 1 + 4) < cLine := by omega
theorem bdA (hz : z = (d : Int)) (h : z ≠ 0) (hd1 : depth + 3 * (d : Int) ≤ 900) (hv : v < 2) : depth + v + 3 * ((d - 1 : Nat) : Int) ≤ 900 := by omega
theorem bdB (hz : z = (d : Int)) (h : z ≠ 0) (hd1 : depth + 3 * (d : Int) ≤ 900) (hv : v < 2) : depth + v + 2 + 3 * ((d - 1 : Nat) : Int) ≤ 900 := by omega
theorem bdC (hz : z = (d : Int)) (h : z ≠ 0) (hd1 : depth + 3 * (d : Int) ≤ 900) (hv : v < 2) : depth + v + 1 + 3 * ((d - 1 : Nat) : Int) ≤ 900 := by omega
end
/- the range's call itself: no split -/
local macro_rules | `(tactic| walk_at "mine pick") => `(tactic| first | exact Pick.head | (refine' Pick.tail ?a; (case a => walk_at "mine pick")))
local macro_rules | `(tactic| walk_at "mine off") => `(tactic| first | assumption | exact List.forall_mem_nil _ | (refine' List.forall_mem_cons.mpr ⟨?a, ?b⟩; (case a => k_ne); (case b => walk_at "mine off")) | (refine tbn_neAll ?_; first | tbn_find | exact allLt_of (by assumption)) | (refine off_app ?_ ?_ <;> walk_at "mine off") | (refine' off_tup ?N ?R ?hm ?hs ?ho; (case R => assumption); (case N => k_asm); (case hm => k_mem); (case hs => (intro p hp; walk_at "mine sub")); (case ho => first | exact list_no | exact dict_no | exact ref_no)))
local macro_rules | `(tactic| walk_at "mine sub") => `(tactic| first | assumption | (refine List.mem_cons_of_mem _ ?_; walk_at "mine sub") | (refine List.mem_append_right _ ?_; walk_at "mine sub") | (refine List.mem_append_left _ ?_; walk_at "mine sub"))
local macro_rules | `(tactic| k_all) => `(tactic| walk_at "mine off")
local macro_rules | `(tactic| walk_at "mine look") => `(tactic| first | exact rfl | assumption)
local macro_rules | `(tactic| walk_at "eval Name") => `(tactic| (k_here; k_dflt (refine' ld ?k1 ?k2 ?_; (case k1 => k_asm); (case k2 => walk_at "mine look"); k_whole)))
local macro_rules | `(tactic| walk_at "mine size") => `(tactic| (simp only [List.length_append, List.length_cons, List.length_nil]; omega))
local macro_rules | `(tactic| walk_at "call builtin:list.append") => `(tactic| (k_here; (with_reducible show wpAny _ _ (call (Value.builtin _) [Value.ref _, _]) _ _ _); k_dflt (refine' append_call (by k_asm) (by k_asm) (by walk_at "mine pick") (by k_all) (by walk_at "mine size") ?_; k_whole); intro h' F' N'; (try k_sweep)))
local macro_rules | `(tactic| k_mem) => `(tactic| first | (refine' List.mem_append_left _ ?_; k_mem) | (refine' List.mem_append_right _ ?_; k_mem))
local macro_rules | `(tactic| walk_at "mine take") => `(tactic| (k_dflt (refine' take_call (by k_asm) (by k_asm) (by k_asm) (by k_asm) (by first | exact rfl | assumption) (by walk_at "mine room") (by walk_at "mine units") (by k_asm) (by walk_at "mine pick") (by k_mem) (by assumption) (by assumption) (by k_all) (by first | decide | assumption | omega) (by assumption) ?_; k_whole); intro x' v' tv' h' tk' F' N' hx' hv0' hv1'; (try dsimp only); (try k_fold); (try k_sweep)))
local macro_rules | `(tactic| walk_at "call ref") => `(tactic| (k_here; (with_reducible show wpAny _ _ (call (Value.ref 119) [Value.ref _, Value.int _ _]) _ _ _); walk_at "mine take"))
local macro_rules | `(tactic| walk_at "pyIter ref") => `(tactic| ((with_reducible show wpAny _ _ (pyIter (Value.ref _)) (fun it s₂ => LoopAtV _ _ _ _ _ _ _ _ _ it s₂) _ _); refine Stop.mk ?_))
local macro_rules | `(tactic| walk_at "call type:range") => `(tactic| ((rename Fr _ _ _ _ => F'); (rename News _ _ _ _ => N'); (with_unfolding_all refine range1_rows F' N' ?_; intro _ _ _ _ _ _ _ _ _)))
section
variable {w : World} {mean : ExcName → Option Value} {mg mb : Str → Option Value}
def BlockC (w : World) (mean : ExcName → Option Value) (mg mb : Str → Option Value) (d : Nat) : Prop :=
  ∀ {dp un : Nat} {gd : Option (List Code)} {cn : Str} {cs : Scope} {a : Addr} {ccd : Value} {cl : List (Str × Addr)} {outer : List Env} {A₀ : Around} {base h₀ : Heap} {L : Addr} {m : Str → Option Value} {s : Shared} {Q E : Value → Shared → Prop}
    {b sl t : Addr} {first depth z : Int} {tf td tz : Tok} {x : Bx} {nl nt : Nat} {vs tv : List Value} {ns : List Int} {news n1 n2 : Ledger},
    Below A₀ base outer h₀ → Fr h₀ L s.heap m → (hd.heap_39 w.params).In h₀ → Top hd.view_39 (looseW hd.view_39 []) mean mg mb h₀ → cs.kind = .function → dp + (d + 4) < recursionLimit → un + 8 * (d + 4) < cLine →
    News h₀ L s.heap news → Pick (b, x.obj sl) news n1 → Pick (t, listOf tv.toArray nt) n1 n2 → (sl, listOf vs.toArray nl) ∈ n2 → IntsAre vs ns → ns.length ≤ 40 → (∀ q ∈ n2, q.1 ≠ b) → (∀ q ∈ n2, q.1 ≠ t) → @Ne Nat t b → x.Ok →
    z = (d : Int) → tv.length + cnt d ≤ 1000 → 0 ≤ depth → depth + 3 * d ≤ 900 →
    (∀ (x' : Bx) new hs nt' tl at' ta h' tk', Fr h₀ L h' m → News h₀ L h' ((b, x'.obj sl) :: (t, listOf (tv ++ new).toArray nt') :: (n2 ++ tl)) → x'.Ok → Tups tl → HdsIn tl new hs → new.length ≤ cnt d → Nest first at' hs → first < at' →
      Q (.int at' ta) { s with heap := h', toks := tk' }) →
    wpAny (model PySem.Challenge.rw_nt0342_01.row.prog w) (ktrTop dp un gd cn cs L a ccd cl outer) (call (.ref 126) [.ref b, .int first tf, .int depth td, .int z tz, .ref t]) Q E s
local macro_rules | `(tactic| walk_at "mine size") => `(tactic| (simp only [List.length_append, List.length_cons, List.length_nil]; exact bcC (by assumption) (by assumption) (by assumption) (by assumption) (by assumption) (by assumption)))
local macro_rules | `(tactic| walk_at "mine block") => `(tactic| ((rename (1 ≤ _ → BlockC _ _ _ _ _) => IHm); k_dflt (refine' IHm ?lt ?B ?F ?X ?T ?hk ?hd ?hu ?N ?P1 ?P2 ?hsl ?hi ?hln ?hb ?ht ?htb ?hx ?hz ?hcap ?hd0 ?hd1 ?_; (case lt => first | exact b1 (by assumption) (by assumption) | omega); (case B => k_asm); (case F => k_asm); (case X => k_asm); (case T => k_asm); (case hk => first | exact rfl | assumption); (case N => k_asm); (case P1 => walk_at "mine pick"); (case P2 => walk_at "mine pick"); (case hsl => k_mem); (case hi => assumption); (case hln => assumption); (case hb => k_all); (case ht => k_all); (case htb => first | assumption | omega); (case hx => assumption); (case hz => first | exact bz (by assumption) (by assumption) | omega); (case hcap => (simp only [List.length_append, List.length_cons, List.length_nil]; first | exact bcA (by assumption) (by assumption) (by assumption) (by assumption) (by assumption) | exact bcB (by assumption) (by assumption) (by assumption) (by assumption) (by assumption) (by assumption) | omega)); (case hd0 => first | exact Int.add_nonneg (by assumption) (by assumption) | omega); (case hd1 => first | exact bdA (by assumption) (by assumption) (by assumption) (by assumption) | exact bdB (by assumption) (by assumption) (by assumption) (by assumption) | exact bdC (by assumption) (by assumption) (by assumption) (by assumption) | omega); (case hd => first | exact brm (by assumption) (by assumption) (by assumption) | walk_at "mine room"); (case hu => first | exact bru (by assumption) (by assumption) (by assumption) | walk_at "mine units"); k_whole); intro x' new' hs' nt' tl' at' ta' h' tk' F' N' hx' ht' hin' hln' hne' had'; (simp only [List.cons_append, List.nil_append] at N'); (try dsimp only); (try k_fold); (try k_sweep)))
local macro_rules | `(tactic| walk_at "call ref") => `(tactic| (k_here; (with_reducible show wpAny _ _ (call (Value.ref 126) [Value.ref _, Value.int _ _, Value.int _ _, Value.int _ _, Value.ref _]) _ _ _); walk_at "mine block"))
set_option maxHeartbeats 8000000 in
theorem block0 {d : Nat} (IH : ∀ e, e < d → BlockC w mean mg mb e) {dp un : Nat} {gd : Option (List Code)} {cn : Str} {cs : Scope} {a : Addr} {ccd : Value} {cl : List (Str × Addr)} {outer : List Env} {A₀ : Around} {base h₀ : Heap} {L : Addr} {m : Str → Option Value} {s : Shared} {Q E : Value → Shared → Prop}
    {b sl t : Addr} {first depth z : Int} {tf td tz : Tok} {x : Bx} {nl nt : Nat} {vs tv : List Value} {ns : List Int} {rest : Ledger}
    (B : Below A₀ base outer h₀) (F : Fr h₀ L s.heap m) (X : (hd.heap_39 w.params).In h₀) (T : Top hd.view_39 (looseW hd.view_39 []) mean mg mb h₀) (hk : cs.kind = .function) (hd : dp + (d + 4) < recursionLimit) (hu : un + 8 * (d + 4) < cLine)
    (N : News h₀ L s.heap ((b, x.obj sl) :: (t, listOf tv.toArray nt) :: (sl, listOf vs.toArray nl) :: rest)) (hi : IntsAre vs ns) (hln : ns.length ≤ 40) (hb : ∀ q ∈ rest, q.1 ≠ b) (ht : ∀ q ∈ rest, q.1 ≠ t) (htb : @Ne Nat t b) (hsb : @Ne Nat sl b) (hst : @Ne Nat sl t) (hx : x.Ok)
    (hz : z = (d : Int)) (hcap : tv.length + cnt d ≤ 1000) (hd0 : 0 ≤ depth) (hd1 : depth + 3 * d ≤ 900)
    (hret : ∀ (x' : Bx) new hs nt' tl at' ta h' tk', Fr h₀ L h' m → News h₀ L h' ((b, x'.obj sl) :: (t, listOf (tv ++ new).toArray nt') :: (sl, listOf vs.toArray nl) :: (rest ++ tl)) → x'.Ok → Tups tl → HdsIn tl new hs → new.length ≤ cnt d → Nest first at' hs → first < at' →
      Q (.int at' ta) { s with heap := h', toks := tk' }) :
    wpAny (model PySem.Challenge.rw_nt0342_01.row.prog w) (ktrTop dp un gd cn cs L a ccd cl outer) (call (.ref 126) [.ref b, .int first tf, .int depth td, .int z tz, .ref t]) Q E s := by
  revert X; k_fill; intro X
  refine wpAny_call ?_
  k_dflt ktr_enter
  k_steps
  unfold Stop
  obtain ⟨H, hH, hH1⟩ := cnt_half d
  refine range12 (by assumption) (by assumption) (by assumption) rfl (by assumption) (by assumption) (BJ b t sl first depth z td tz tv [(sl, listOf vs.toArray nl)] rest H) ?j0 ?turn ?done
  case j0 =>
    exact ⟨_, first, tf, [], [], nt, [], by (simp only [List.append_nil, List.cons_append, List.nil_append]; rfl), by assumption, tups_nil, .nil, .nil (Int.le_refl _), fun _ => rfl, fun _ => Nat.zero_le _, Nat.zero_le _, fun h => absurd h (by decide), rfl, rfl, rfl, rfl, rfl⟩
  case done =>
    rintro n m₁ nx h₁ tk₁ hn1 hn2 ⟨x₁, atv, ta, new, hs, nt₁, tl, rfl, hx₁, ht₁, hin, hnest, -, -, hlen, hadv, e1, e2, e3, e4, e5⟩ F₁ N₁
    dsimp only [envOf] at F₁ N₁
    dsimp only
    try k_fold
    k_steps
    all_goals (refine hret x₁ new hs nt₁ tl atv _ _ _ (by assumption) (by assumption) hx₁ ht₁ hin (by omega) hnest (hadv hn1))
  case turn =>
    rintro i m₁ nx tk₀ h₁ tk₁ I it hi2 ⟨x₁, atv, ta, new, hs, nt₁, tl, rfl, hx₁, ht₁, hin, hnest, hl0, hl1, hlen, hadv, e1, e2, e3, e4, e5⟩ hit off F₁ N₁
    have IH1 : 1 ≤ d → BlockC w mean mg mb (d - 1) := fun h => IH _ (by omega)
    clear IH
    dsimp only [envOf] at F₁ N₁
    simp only [List.cons_append, List.nil_append] at N₁ off
    have hbI : @Ne Nat b I := off _ (.head _)
    have htI : @Ne Nat t I := off _ (.tail _ (.head _))
    have hsI : @Ne Nat sl I := off _ (.tail _ (.tail _ (.head _)))
    have hrI : ∀ p ∈ rest, p.1 ≠ I := fun p hp => off p (.tail _ (.tail _ (.tail _ (List.mem_append_left _ hp))))
    have had0 := hnest.adv
    have hnl : new.length ≤ H := hl1 (by omega)
    have hT : tv.length + 2 * H ≤ 1000 := hH ▸ hcap
    try k_fold
    k_steps
    all_goals first
      | (refine blk_end (new := new) (hs := hs) (tl := tl) (by assumption) (by assumption) (by k_mem) (by k_mem) (by k_mem) (by k_mem) (by walk_at "mine look") (by walk_at "mine look") (by walk_at "mine look") (by walk_at "mine look") (by walk_at "mine look") (by intro p hp; walk_at "mine sub") (by intro p hp; walk_at "mine sub") hit hbI htI hsI hrI rfl (by assumption) ht₁ hin (hnest.more (by omega)) (bt2 hl0) hlen (by omega))
      | (refine blk_try (new := new) (hs := hs) (tl := tl) (by assumption) (by assumption) (by k_mem) (by k_mem) (by k_mem) (by k_mem) (by k_mem) (by assumption) (by assumption) (by intro p hp; walk_at "mine sub") (by intro p hp; walk_at "mine sub") (by intro p hp; walk_at "mine sub") (by intro p hp; walk_at "mine sub") hit hbI htI hsI hrI (by assumption) ht₁ (by assumption) (by assumption) hin hnest (by assumption) (by assumption) (by assumption) (by assumption) (by first | exact Int.add_nonneg (by assumption) (by assumption) | omega) (by omega) (bt0 hz (by assumption) hH1 hl0 (by assumption) (by assumption)) (bt1 hz (by assumption) hH1 hnl (by assumption) (by assumption)) (by walk_at "mine look") (by walk_at "mine look") (by walk_at "mine look") (by walk_at "mine look") (by walk_at "mine look"))
end
-- M5
theorem block_all {w : World} {mean : ExcName → Option Value} {mg mb : Str → Option Value} (d : Nat) : BlockC w mean mg mb d := by
  induction d using Nat.strongRecOn with
  | ind d ih =>
    intro dp un gd cn cs a ccd cl outer A₀ base h₀ L m s Q E b sl t first depth z tf td tz x nl nt vs tv ns news n1 n2 B F X T hk hd hu N P1 P2 hsl hi hln hb ht htb hx hz hcap hd0 hd1 hret
    refine block0 ih B F X T hk hd hu (rest := n2) (nl := nl) (nt := nt) (newsSub N fun p hp => ?_) hi hln hb ht htb (hb _ hsl) (ht _ hsl) hx hz hcap hd0 hd1 fun x' new hs nt' tl at' ta h' tk' F' N' => hret x' new hs nt' tl at' ta h' tk' F' (newsSub N' fun p hp => ?_)
    · rcases List.mem_cons.mp hp with rfl | hp
      · exact (P1.mem _).mpr (.inl rfl)
      rcases List.mem_cons.mp hp with rfl | hp
      · exact (P1.mem _).mpr (.inr ((P2.mem _).mpr (.inl rfl)))
      rcases List.mem_cons.mp hp with rfl | hp
      · exact (P1.mem _).mpr (.inr ((P2.mem _).mpr (.inr hsl)))
      exact (P1.mem _).mpr (.inr ((P2.mem _).mpr (.inr hp)))
    · rcases List.mem_cons.mp hp with rfl | hp
      · exact .head _
      rcases List.mem_cons.mp hp with rfl | hp
      · exact .tail _ (.head _)
      exact .tail _ (.tail _ (.tail _ hp))
-- M6
/-! ### the first range around a place, the least one -/
local macro_rules | `(tactic| k_mem) => `(tactic| first | exact List.Mem.head _ | (refine' List.mem_cons_of_mem _ ?_; k_mem) | (refine' List.mem_append_left _ ?_; k_mem) | (refine' List.mem_append_right _ ?_; k_mem) | assumption)
local macro_rules | `(tactic| walk_at "exec For Name Name cons nil") => `(tactic| (k_here; (rename Fr _ _ _ _ => lF'); (with_unfolding_all refine' For_invVF lF' ?k1 ?k2 ?_; (case k1 => exact rfl); (case k2 => exact rfl); k_whole)))
abbrev Hd.at (h : Hd) (pc : Int) : Prop := h.lo ≤ pc ∧ pc < h.hi
def firstAt (pc : Int) : List Value → List Hd → Option (Value × Hd)
  | v :: vs, h :: hs => if h.at pc then some (v, h) else firstAt pc vs hs
  | _, _ => none
def lessThan (h : Hd) : Option (Value × Hd) → Bool
  | none => true
  | some (_, g) => decide (h.hi - h.lo < g.hi - g.lo)
def leastFrom (pc : Int) : Option (Value × Hd) → List Value → List Hd → Option (Value × Hd)
  | f, v :: vs, h :: hs => leastFrom pc (if h.at pc ∧ lessThan h f = true then some (v, h) else f) vs hs
  | f, _, _ => f
def hitV : Option (Value × Hd) → Value
  | none => .none
  | some (v, _) => v
theorem least_keeps (pc : Int) (v : Value) (g : Hd) (hg : g.at pc) : ∀ (vs : List Value) (hs : List Hd), (∀ h ∈ hs, Aft g h) → leastFrom pc (some (v, g)) vs hs = some (v, g)
  | [], _, _ => by unfold leastFrom; rfl
  | _ :: _, [], _ => by unfold leastFrom; rfl
  | u :: vs, h :: hs, H => by
    unfold leastFrom
    have h1 := H h (.head _)
    have e : ¬ (h.at pc ∧ lessThan h (some (v, g)) = true) := by
      rintro ⟨a, b⟩
      have b' : h.hi - h.lo < g.hi - g.lo := of_decide_eq_true b
      obtain ⟨a1, a2⟩ := a
      obtain ⟨g1, g2⟩ := hg
      rcases h1 with h1 | ⟨h1, h2⟩ <;> omega
    rw [if_neg e]
    exact least_keeps pc v g hg vs hs fun k hk => H k (.tail _ hk)
theorem least_first (pc : Int) : ∀ (vs : List Value) (hs : List Hd), hs.Pairwise Aft → leastFrom pc none vs hs = firstAt pc vs hs
  | [], _, _ => by unfold leastFrom firstAt; rfl
  | _ :: _, [], _ => by unfold leastFrom firstAt; rfl
  | v :: vs, h :: hs, H => by
    obtain ⟨H1, H2⟩ := List.pairwise_cons.mp H
    unfold leastFrom firstAt
    by_cases c : h.at pc
    · rw [if_pos ⟨c, rfl⟩, if_pos c]
      exact least_keeps pc v h c vs hs H1
    · rw [if_neg fun q => c q.1, if_neg c]
      exact least_first pc vs hs H2
theorem firstAt_yes {pc : Int} {v : Value} {h : Hd} {vs : List Value} {hs : List Hd} (c : h.at pc) : firstAt pc (v :: vs) (h :: hs) = some (v, h) := by
  rw [firstAt, if_pos c]
theorem firstAt_no {pc : Int} {v : Value} {h : Hd} {vs : List Value} {hs : List Hd} (c : ¬ h.at pc) : firstAt pc (v :: vs) (h :: hs) = firstAt pc vs hs := by
  rw [firstAt, if_neg c]
theorem firstAt_in {l : Ledger} {pc : Int} : ∀ {vs : List Value} {hs : List Hd}, HdsIn l vs hs → ∀ {v : Value} {h : Hd}, firstAt pc vs hs = some (v, h) → HdIn l v h ∧ h ∈ hs
  | _, _, .nil, _, _, e => by unfold firstAt at e; cases e
  | _, _, .cons (h := h₀) a r, v, h, e => by
    unfold firstAt at e
    by_cases c : h₀.at pc
    · rw [if_pos c] at e
      cases e
      exact ⟨a, .head _⟩
    · rw [if_neg c] at e
      have z := firstAt_in r e
      exact ⟨z.1, .tail _ z.2⟩
/-! ### a loop over a list of the ledger, by what holds of the rest -/
section
variable {prog : Program} {w : World} {A : Around} {E : Value → Shared → Prop} {s : Shared} {env : Env} {h₀ : Heap} {x : Str} {body : List Stmt} {Q : Flow → Shared → Prop}
theorem listJ {I : Addr} {lp : Addr × Obj} (J : List Value → (Str → Option Value) → Ledger → Prop)
    (turn : ∀ v r m news it h tk, J (v :: r) m news → lp ∈ news → (∀ p ∈ news, p.1 ≠ I) → it.cls = .type "list_iterator" → Fr h₀ env.locals h (fun y => if y = x then some v else m y) → News h₀ env.locals h ((I, it) :: news) →
      wpAny (model prog w) A (execs body env) (UnrPost h₀ env.locals { s with heap := h, toks := tk } I it (fun m' n' => lp ∈ n' ∧ J r m' n') Q) E { s with heap := h, toks := tk })
    (done : ∀ m news h tk, J [] m news → Fr h₀ env.locals h m → News h₀ env.locals h news → Q .next { s with heap := h, toks := tk }) :
    ∀ vs m news, J vs m news → lp ∈ news → (∀ p ∈ news, p.1 ≠ I) → ListRest prog w A E h₀ env x body Q s I lp vs m news := by
  intro vs
  induction vs with
  | nil => exact fun m news hj _ _ => ListRest.zero fun h tk F N => done m news h tk hj F N
  | cons v r ih =>
    intro m news hj hm off
    exact ListRest.succ fun it h tk hit F N => wpAny_mono (turn v r m news it h tk hj hm off hit F N) (fun f s₂ p => unrPost_mono p fun m' n' off' q => ⟨q.1, ih m' n' q.2 q.1 off'⟩) fun _ _ e => e
theorem iter_listJ {ax : Addr} {vs : List Value} {n : Nat} {m₀ : Str → Option Value} {news : Ledger} (F : Fr h₀ env.locals s.heap m₀) (N : News h₀ env.locals s.heap news) (hm : (ax, listOf vs.toArray n) ∈ news) (hh : A.handled = none)
    (J : List Value → (Str → Option Value) → Ledger → Prop) (j0 : J vs m₀ news)
    (turn : ∀ v r m nx I it h tk, J (v :: r) m nx → (ax, listOf vs.toArray n) ∈ nx → (∀ p ∈ nx, p.1 ≠ I) → it.cls = .type "list_iterator" → Fr h₀ env.locals h (fun y => if y = x then some v else m y) → News h₀ env.locals h ((I, it) :: nx) →
      wpAny (model prog w) A (execs body env) (UnrPost h₀ env.locals { s with heap := h, toks := tk } I it (fun m' n' => (ax, listOf vs.toArray n) ∈ n' ∧ J r m' n') Q) E { s with heap := h, toks := tk })
    (done : ∀ m nx h tk, J [] m nx → Fr h₀ env.locals h m → News h₀ env.locals h nx → Q .next { s with heap := h, toks := tk }) :
    wpAny (model prog w) A (pyIter (.ref ax)) (fun it s₂ => LoopAtV prog w A h₀ env x body Q E it s₂) E s :=
  iter_listUnr hh F N hm rfl rfl fun I hI => listJ J (fun v r m nx it h tk hj hl off hit F' N' => turn v r m nx I it h tk hj hl off hit F' N') done vs m₀ news j0 hm fun p hp => Nat.ne_of_lt (hI p hp)
end
section
variable {w : World} {mean : ExcName → Option Value} {mg mb : Str → Option Value} {dp un : Nat} {gd : Option (List Code)} {cn : Str} {cs : Scope} {a : Addr} {ccd : Value} {cl : List (Str × Addr)} {outer : List Env}
    {A₀ : Around} {base h₀ : Heap} {L : Addr} {m : Str → Option Value} {s : Shared} {Q : Value → Shared → Prop} {E : Value → Shared → Prop}
/-- find_handler's loop -/
def FJ (news : Ledger) (pc : Int) (tp : Tok) (goal : Option (Value × Hd)) (r : List Value) (m : Str → Option Value) (nx : Ledger) : Prop :=
  nx = news ∧ (∃ hr, HdsIn news r hr ∧ goal = firstAt pc r hr) ∧ m (Str.ofString "pc") = some (.int pc tp)
set_option maxHeartbeats 8000000 in
theorem find0 {t : Addr} {pc : Int} {tp : Tok} {tv : List Value} {nt : Nat} {hs : List Hd} {news : Ledger}
    (B : Below A₀ base outer h₀) (F : Fr h₀ L s.heap m) (X : (hd.heap_39 w.params).In h₀) (T : Top hd.view_39 (looseW hd.view_39 []) mean mg mb h₀) (hk : cs.kind = .function) (hd : dp + 2 < recursionLimit) (hu : un + 20 < cLine)
    (N : News h₀ L s.heap news) (hm : (t, listOf tv.toArray nt) ∈ news) (hin : HdsIn news tv hs)
    (hret : ∀ h' tk', Fr h₀ L h' m → News h₀ L h' news → Q (hitV (firstAt pc tv hs)) { s with heap := h', toks := tk' }) :
    wpAny (model PySem.Challenge.rw_nt0342_01.row.prog w) (ktrTop dp un gd cn cs L a ccd cl outer) (call (.ref 77) [.ref t, .int pc tp]) Q E s := by
  revert X; k_fill; intro X
  refine wpAny_call ?_
  k_dflt ktr_enter
  k_steps
  unfold Stop
  generalize hgoal : firstAt pc tv hs = goal at hret
  refine iter_listJ (by assumption) (by assumption) hm rfl (FJ news pc tp goal) ⟨rfl, ⟨hs, hin, hgoal.symm⟩, rfl⟩ ?turn ?done
  case done =>
    rintro m₁ nx h₁ tk₁ ⟨rfl, ⟨hr, hinr, e⟩, e1⟩ F₁ N₁
    cases hinr
    have e' : goal = none := e
    dsimp only [envOf] at F₁ N₁
    dsimp only
    k_steps
    subst e'
    exact hret _ _ (by assumption) (by assumption)
  case turn =>
    rintro v r m₁ nx I it h₁ tk₁ ⟨rfl, ⟨hr, hinr, e⟩, e1⟩ hl off hit F₁ N₁
    cases hinr with
    | @cons _ g _ hr' hv hrest =>
    obtain ⟨D, t1, t2, t3, t4, rfl, hD⟩ := hv
    dsimp only [envOf] at F₁ N₁
    try k_fold
    k_steps
    all_goals first
      | (have e2 := e.trans (firstAt_yes (v := .ref D) (h := g) ⟨by assumption, by assumption⟩); subst e2; exact hret _ _ (by assumption) (newsSub (by assumption) fun p hp => .tail _ hp))
      | (refine UnrEnd.intro (by assumption) (by assumption) nx (fun p hp => hp) off ⟨hl, rfl, ⟨_, hrest, e.trans (firstAt_no fun q => ?_)⟩, by walk_at "mine look"⟩; (obtain ⟨q1, q2⟩ := q; omega))
end
-- M7
theorem leastFrom_nil {pc : Int} {f : Option (Value × Hd)} {hs : List Hd} : leastFrom pc f [] hs = f := by rw [leastFrom]; simp
theorem leastFrom_yes {pc : Int} {f : Option (Value × Hd)} {v : Value} {h : Hd} {vs : List Value} {hs : List Hd} (c : h.at pc) (d : lessThan h f = true) : leastFrom pc f (v :: vs) (h :: hs) = leastFrom pc (some (v, h)) vs hs := by
  rw [leastFrom, if_pos ⟨c, d⟩]
theorem leastFrom_no {pc : Int} {f : Option (Value × Hd)} {v : Value} {h : Hd} {vs : List Value} {hs : List Hd} (c : ¬ (h.at pc ∧ lessThan h f = true)) : leastFrom pc f (v :: vs) (h :: hs) = leastFrom pc f vs hs := by
  rw [leastFrom, if_neg c]
section
variable {w : World} {mean : ExcName → Option Value} {mg mb : Str → Option Value} {dp un : Nat} {gd : Option (List Code)} {cn : Str} {cs : Scope} {a : Addr} {ccd : Value} {cl : List (Str × Addr)} {outer : List Env}
    {A₀ : Around} {base h₀ : Heap} {L : Addr} {m : Str → Option Value} {s : Shared} {Q : Value → Shared → Prop} {E : Value → Shared → Prop}
def RJ (news : Ledger) (pc : Int) (tp : Tok) (goal : Option (Value × Hd)) (r : List Value) (m : Str → Option Value) (nx : Ledger) : Prop :=
  nx = news ∧ (∃ f hr, HdsIn news r hr ∧ goal = leastFrom pc f r hr ∧ (∀ v g, f = some (v, g) → HdIn news v g) ∧ m (Str.ofString "found") = some (hitV f)) ∧ m (Str.ofString "place") = some (.int pc tp)
set_option maxHeartbeats 8000000 in
theorem around0 {t : Addr} {pc : Int} {tp : Tok} {tv : List Value} {nt : Nat} {hs : List Hd} {news : Ledger}
    (B : Below A₀ base outer h₀) (F : Fr h₀ L s.heap m) (X : (hd.heap_39 w.params).In h₀) (T : Top hd.view_39 (looseW hd.view_39 []) mean mg mb h₀) (hk : cs.kind = .function) (hd : dp + 2 < recursionLimit) (hu : un + 20 < cLine)
    (N : News h₀ L s.heap news) (hm : (t, listOf tv.toArray nt) ∈ news) (hin : HdsIn news tv hs)
    (hret : ∀ h' tk', Fr h₀ L h' m → News h₀ L h' news → Q (hitV (leastFrom pc none tv hs)) { s with heap := h', toks := tk' }) :
    wpAny (model PySem.Challenge.rw_nt0342_01.row.prog w) (ktrTop dp un gd cn cs L a ccd cl outer) (call (.ref 138) [.ref t, .int pc tp]) Q E s := by
  revert X; k_fill; intro X
  refine wpAny_call ?_
  k_dflt ktr_enter
  k_steps
  unfold Stop
  generalize hgoal : leastFrom pc none tv hs = goal at hret
  refine iter_listJ (by assumption) (by assumption) hm rfl (RJ news pc tp goal) ⟨rfl, ⟨none, hs, hin, hgoal.symm, fun _ _ h => (nomatch h), rfl⟩, rfl⟩ ?turn ?done
  case done =>
    rintro m₁ nx h₁ tk₁ ⟨rfl, ⟨f, hr, hinr, e, -, e2⟩, e1⟩ F₁ N₁
    cases hinr
    rw [leastFrom_nil] at e
    dsimp only [envOf] at F₁ N₁
    dsimp only
    k_steps
    subst e
    all_goals (refine hret _ _ (by assumption) (by assumption))
  case turn =>
    rintro v r m₁ nx I it h₁ tk₁ ⟨rfl, ⟨f, hr, hinr, e, hf, e2⟩, e1⟩ hl off hit F₁ N₁
    cases hinr with
    | @cons _ g _ hr' hv hrest =>
    have hv' := hv
    obtain ⟨D, t1, t2, t3, t4, rfl, hD⟩ := hv
    dsimp only [envOf] at F₁ N₁
    rcases f with _ | ⟨v2, g2⟩
    · simp only [hitV] at e2
      try k_fold
      k_steps
      all_goals first
        | (refine UnrEnd.intro (by assumption) (by assumption) nx (fun p hp => hp) off ⟨hl, rfl, ⟨some (.ref D, g), hr', hrest, e.trans (leastFrom_yes ⟨by assumption, by assumption⟩ (by first | rfl | exact decide_eq_true (by assumption))), fun _ _ q => by cases q; exact hv', by walk_at "mine look"⟩, by walk_at "mine look"⟩)
        | (refine UnrEnd.intro (by assumption) (by assumption) nx (fun p hp => hp) off ⟨hl, rfl, ⟨_, hr', hrest, e.trans (leastFrom_no fun q => ?_), hf, by walk_at "mine look"⟩, by walk_at "mine look"⟩; (obtain ⟨⟨q1, q2⟩, q3⟩ := q; (try have q4 := of_decide_eq_true q3); omega))
    · obtain ⟨D2, u1, u2, u3, u4, rfl, hD2⟩ := hf _ _ rfl
      simp only [hitV] at e2
      try k_fold
      k_steps
      all_goals first
        | (refine UnrEnd.intro (by assumption) (by assumption) nx (fun p hp => hp) off ⟨hl, rfl, ⟨some (.ref D, g), hr', hrest, e.trans (leastFrom_yes ⟨by assumption, by assumption⟩ (by first | rfl | exact decide_eq_true (by assumption))), fun _ _ q => by cases q; exact hv', by walk_at "mine look"⟩, by walk_at "mine look"⟩)
        | (refine UnrEnd.intro (by assumption) (by assumption) nx (fun p hp => hp) off ⟨hl, rfl, ⟨_, hr', hrest, e.trans (leastFrom_no fun q => ?_), hf, by walk_at "mine look"⟩, by walk_at "mine look"⟩; (obtain ⟨⟨q1, q2⟩, q3⟩ := q; (try have q4 := of_decide_eq_true q3); omega))
end
-- M8
section
variable {prog : Program} {w : World} {A : Around} {E : Value → Shared → Prop} {s : Shared} {h₀ : Heap} {L : Addr} {m : Str → Option Value}
theorem kl_last_app : ∀ (p : List Value) (y : Value), kl_last (p ++ [y]) = some (p, y)
  | [], y => rfl
  | x :: p, y => by
    show (match kl_last (p ++ [y]) with | some (p, y) => some (x :: p, y) | none => some ([], x)) = _
    rw [kl_last_app p y]
theorem pop_call {D : Addr} {us : List Value} {n : Nat} {news n1 : Ledger} {Q : Value → Shared → Prop} (F : Fr h₀ L s.heap m) (N : News h₀ L s.heap news) (P : Pick (D, listOf us.toArray n) news n1)
    (off : ∀ q ∈ n1, q.1 ≠ D) (hne : 0 < us.length) (hsz : us.length ≤ 16000000) (h : ∀ y h', us = us.dropLast ++ [y] → Fr h₀ L h' m → News h₀ L h' ((D, listOf us.dropLast.toArray (n + 1)) :: n1) → Q y { s with heap := h' }) :
    wpAny (model prog w) A (call (.builtin "list.pop") [.ref D]) Q E s := by
  have N1 : News h₀ L s.heap ((D, listOf us.toArray n) :: n1) := newsSub N fun p hp => (P.mem p).mpr (List.mem_cons.mp hp)
  have hn : us ≠ [] := by intro e; subst e; exact absurd hne (Nat.lt_irrefl _)
  have e := List.dropLast_concat_getLast hn
  refine kl_pop F N1 (p := us.dropLast) (y := us.getLast hn) (by show kl_last us = _; exact (congrArg kl_last e.symm).trans (kl_last_app _ _)) (.head off) (by exact Nat.le_trans hsz (by decide)) fun h' F' N' => h _ h' e.symm F' N'
theorem len_call {D : Addr} {us : List Value} {n : Nat} {news : Ledger} {Q : Value → Shared → Prop} (N : News h₀ L s.heap news) (hm : (D, listOf us.toArray n) ∈ news) (hsz : us.length ≤ 16000000)
    (h : Q (.int (us.length : Int) (s.toks + 1)) { s with toks := s.toks + 1 + 1 }) : wpAny (model prog w) A (call (.builtin "len") [.ref D]) Q E s :=
  kst_len N hm rfl (by omega) h
end
local macro_rules | `(tactic| walk_at "mine size") => `(tactic| first | omega | (simp only [List.length_append, List.length_cons, List.length_nil, List.length_take, List.length_map, List.length_dropLast, List.length_replicate, List.length_reverse, List.size_toArray] at *; omega))
local macro_rules | `(tactic| walk_at "call builtin:list.pop") => `(tactic| (k_here; (with_reducible show wpAny _ _ (call (Value.builtin _) [Value.ref _]) _ _ _); k_dflt (refine' pop_call (by k_asm) (by k_asm) (by walk_at "mine pick") (by k_all) (by walk_at "mine size") (by walk_at "mine size") ?_; k_whole); intro y' h' ye' F' N'; (try k_sweep)))
local macro_rules | `(tactic| walk_at "call builtin:len") => `(tactic| (k_here; (with_reducible show wpAny _ _ (call (Value.builtin "len") [Value.ref _]) _ _ _); k_dflt (refine' len_call (by k_asm) (by k_mem) (by walk_at "mine size") ?_; k_whole)))
local macro_rules | `(tactic| walk_at "exec While") => `(tactic| (k_here; refine Stop.mk ?_))
local macro_rules | `(tactic| walk_at "exec While Compare cons nil") => `(tactic| (k_here; refine Stop.mk ?_))
section
variable {w : World} {mean : ExcName → Option Value} {mg mb : Str → Option Value} {dp un : Nat} {gd : Option (List Code)} {cn : Str} {cs : Scope} {a : Addr} {ccd : Value} {cl : List (Str × Addr)} {outer : List Env}
    {A₀ : Around} {base h₀ : Heap} {L : Addr} {m : Str → Option Value} {s : Shared} {Q : Value → Shared → Prop} {E : Value → Shared → Prop}
/-- what a handler leaves on the stack -/
def behind (d : Int) (f : Bool) (sv : List Value) (v : Value) (tn : Tok) : List Value := sv.take d.toNat ++ (v :: if f then [.int (-1) tn] else [])
theorem take_same {sv : List Value} {n d : Nat} (h1 : n ≤ sv.length) (h2 : min d sv.length ≤ n) (h3 : n ≤ d) : sv.take n = sv.take d := by
  by_cases c : d ≤ sv.length
  · have : n = d := by omega
    rw [this]
  · have : n = sv.length := by omega
    rw [this, List.take_length, List.take_of_length_le (by omega)]
theorem drop_last_take {sv : List Value} {n : Nat} (h1 : n ≤ sv.length) : (sv.take n).dropLast = sv.take (n - 1) := by
  rw [List.dropLast_eq_take, List.take_take, List.length_take]
  rw [Nat.min_eq_left h1, Nat.min_eq_left (Nat.sub_le _ _)]
def EJ (k : Addr) (sv : List Value) (rest : Ledger) (g : Hd) (t3 t4 : Tok) (v : Value) (n : Nat) (m : Str → Option Value) (nx : Ledger) : Prop :=
  (∃ nk, nx = (k, listOf (sv.take n).toArray nk) :: rest) ∧ n ≤ sv.length ∧ min g.dep.toNat sv.length ≤ n ∧ m (Str.ofString "stack") = some (.ref k) ∧ m (Str.ofString "depth") = some (.int g.dep t4) ∧ m (Str.ofString "target") = some (.int g.hi t3) ∧
    m (Str.ofString "is_finally") = some (.bool g.fin) ∧ m (Str.ofString "value") = some v
set_option maxHeartbeats 8000000 in
theorem enter0 {D k : Addr} {g : Hd} {t1 t2 t3 t4 : Tok} {sv : List Value} {nk : Nat} {v : Value} {rest : Ledger}
    (B : Below A₀ base outer h₀) (F : Fr h₀ L s.heap m) (X : (hd.heap_39 w.params).In h₀) (T : Top hd.view_39 (looseW hd.view_39 []) mean mg mb h₀) (hk : cs.kind = .function) (hd : dp + 2 < recursionLimit) (hu : un + 20 < cLine)
    (N : News h₀ L s.heap ((k, listOf sv.toArray nk) :: rest)) (off : ∀ q ∈ rest, q.1 ≠ k) (hD : (D, tupOf [.int g.lo t1, .int g.hi t2, .int g.hi t3, .int g.dep t4, .bool g.fin]) ∈ rest) (hsz : sv.length ≤ 100000) (hd0 : 0 ≤ g.dep)
    (hret : ∀ nk' tn h' tk', Fr h₀ L h' m → News h₀ L h' ((k, listOf (behind g.dep g.fin sv v tn).toArray nk') :: rest) → Q (.int g.hi t3) { s with heap := h', toks := tk' }) :
    wpAny (model PySem.Challenge.rw_nt0342_01.row.prog w) (ktrTop dp un gd cn cs L a ccd cl outer) (call (.ref 84) [.ref D, .ref k, v]) Q E s := by
  revert X; k_fill; intro X
  refine wpAny_call ?_
  k_dflt ktr_enter
  k_steps
  unfold Stop
  refine While_inv2 (EJ k sv rest g t3 t4 v) (n₀ := sv.length) (by assumption) (by assumption) ⟨⟨nk, by rw [List.take_length]⟩, Nat.le_refl _, Nat.min_le_right _ _, rfl, rfl, rfl, rfl, rfl⟩ ?turn
  case turn =>
    rintro n m₁ nx h₁ tk₁ F₁ N₁ ⟨⟨nk₁, rfl⟩, hn1, hn2, e1, e2, e3, e4, e5⟩
    try k_fold
    k_steps
    · rename (g.dep < _) => hlt
      rw [List.length_take] at hlt
      rename News _ _ _ _ => N2
      rw [drop_last_take hn1] at N2
      exact ⟨_, _, _, _, n - 1, rfl, by assumption, N2, by omega, ⟨_, rfl⟩, by omega, by omega, e1, e2, e3, e4, e5⟩
    all_goals (
      rename (¬ g.dep < _) => hlt
      rw [List.length_take] at hlt
      rename News _ _ _ _ => N2
      rename (g.fin = _) => hfin
      have e9 : sv.take n = sv.take g.dep.toNat := take_same hn1 hn2 (by omega)
      first
        | (have key : ∀ tn, behind g.dep g.fin sv v tn = sv.take n ++ [v] ++ [Value.int (-1) tn] := fun tn => by
            rw [hfin, behind, e9, if_pos rfl, List.append_assoc]; rfl
           rw [← key] at N2
           exact hret _ _ _ _ (by assumption) N2)
        | (have key : ∀ tn, behind g.dep g.fin sv v tn = sv.take n ++ [v] := fun tn => by
            rw [hfin, behind, e9, if_neg Bool.false_ne_true]
           rw [← key 0] at N2
           exact hret _ _ _ _ (by assumption) N2))
end
-- M9
/-! ### lists by their last item; parts, sums; fields by what is said of the entries -/
theorem ki_setL_last : ∀ (p : List Value) (y v : Value), ki_setL (p ++ [y]) p.length v = some (p ++ [v])
  | [], _, _ => rfl
  | x :: p, y, v => by
    show (match ki_setL (p ++ [y]) p.length v with | some q => some (x :: q) | none => none) = _
    rw [ki_setL_last p y v]; rfl
theorem pick_take (l : List Value) {d : Int} (h : 0 ≤ d) : kms_pick l none (some d) = l.take d.toNat := by
  unfold kms_pick kms_lo kms_hi
  simp only [if_neg (Int.not_lt.mpr h), List.drop_zero, Nat.sub_zero]
  exact kmk_take_min l _
theorem entry_ne {name name' : Str} (h : name ≠ name') {v : Value} (hv : v.isStr name = true) : v.isStr name' = false := by
  cases v <;> first | exact Bool.noConfusion hv | rfl | skip
  case str s t =>
    have e : s = name := by simpa [Value.isStr] using hv
    subst e
    simpa [Value.isStr] using h
theorem getL_put_same {name : Str} {hs : Int} {key v : Value} : ∀ {es : List DictEntry} {u : Value}, getL name es = some (some u) → getL name (putL name hs key v es) = some (some v)
  | [], u, h => by simp [getL] at h
  | e :: r, u, h => by
    unfold putL
    cases q : e.key.isStr name with
    | true => simp [getL, q]
    | false =>
      have hr : ∃ u', r.find? (·.key.isStr name) = some u' := by
        simp only [getL, List.find?_cons, q] at h
        cases q2 : r.find? (·.key.isStr name) with
        | some u' => exact ⟨u', rfl⟩
        | none =>
          rw [q2] at h
          simp only at h
          split at h <;> cases h
      obtain ⟨u', hu⟩ := hr
      have h' : getL name r = some (some u'.val) := by simp only [getL, hu]
      have ih := getL_put_same (hs := hs) (key := key) (v := v) h'
      simp only [Bool.false_eq_true, if_false]
      simp only [getL] at ih ⊢
      simp only [List.find?_cons, q]
      cases q3 : (putL name hs key v r).find? (·.key.isStr name) with
      | some e' => rw [q3] at ih; simpa using ih
      | none => rw [q3] at ih; simp only at ih; split at ih <;> cases ih
theorem getL_put_ne {name name' : Str} (hne : name ≠ name') {hs : Int} {key v : Value} : ∀ {es : List DictEntry} {u u' : Value}, getL name es = some (some u) → getL name' es = some (some u') → getL name' (putL name hs key v es) = some (some u')
  | [], u, _, h, _ => by simp [getL] at h
  | e :: r, u, u', h, h' => by
    unfold putL
    cases q : e.key.isStr name with
    | true =>
      have q' := entry_ne hne q
      simp only [if_true]
      simp only [getL, List.find?_cons, q'] at h' ⊢
      cases q2 : r.find? (·.key.isStr name') with
      | some e' => rw [q2] at h'; simpa using h'
      | none => rw [q2] at h'; simp only at h'; split at h' <;> cases h'
    | false =>
      simp only [Bool.false_eq_true, if_false]
      cases q' : e.key.isStr name' with
      | true =>
        simp only [getL, List.find?_cons, q'] at h' ⊢
        exact h'
      | false =>
        have up : ∀ {x : Str} {z : Value}, e.key.isStr x = false → getL x (e :: r) = some (some z) → getL x r = some (some z) := by
          intro x z qx hx
          simp only [getL, List.find?_cons, qx] at hx ⊢
          cases q2 : r.find? (·.key.isStr x) with
          | some e' => rw [q2] at hx; simpa using hx
          | none => rw [q2] at hx; simp only at hx; split at hx <;> cases hx
        have ih := getL_put_ne hne (hs := hs) (key := key) (v := v) (up q h) (up q' h')
        simp only [getL] at ih ⊢
        simp only [List.find?_cons, q']
        cases q3 : (putL name hs key v r).find? (·.key.isStr name') with
        | some e' => rw [q3] at ih; simpa using ih
        | none => rw [q3] at ih; simp only at ih; split at ih <;> cases ih
theorem putL_len {name : Str} {hs : Int} {key v : Value} : ∀ {es : List DictEntry}, (putL name hs key v es).length ≤ es.length + 1
  | [] => Nat.le_refl _
  | e :: r => by
    unfold putL
    split
    · exact Nat.le_succ _
    · exact Nat.succ_le_succ putL_len
theorem putL_len_same {name : Str} {hs : Int} {key v : Value} : ∀ {es : List DictEntry} {u : Value}, getL name es = some (some u) → (putL name hs key v es).length = es.length
  | [], u, h => by simp [getL] at h
  | e :: r, u, h => by
    unfold putL
    cases q : e.key.isStr name with
    | true => rfl
    | false =>
      have hr : getL name r = some (some u) := by
        simp only [getL, List.find?_cons, q] at h ⊢
        cases q2 : r.find? (·.key.isStr name) with
        | some e' => rw [q2] at h; simpa using h
        | none => rw [q2] at h; simp only at h; split at h <;> cases h
      simp only [Bool.false_eq_true, if_false, List.length_cons, putL_len_same hr]
section
variable {prog : Program} {w : World} {A : Around} {E : Value → Shared → Prop} {s : Shared} {h₀ : Heap} {L : Addr} {m : Str → Option Value}
theorem last_call {value slice : PySem.Expr} {D : Addr} {p : List Value} {y : Value} {n : Nat} {u : Tok} {news : Ledger} {Q : Value → Shared → Prop} (N : News h₀ L s.heap news) (hm : (D, listOf (p ++ [y]).toArray n) ∈ news) (h : Q y s)
    (hs : subscripted slice false (.ref D) (.int (-1) u) = operate [.ref D, .int (-1) u] (getItem (.ref D) (.int (-1) u)) := by with_unfolding_all rfl) :
    wpAny (model prog w) A (subscriptTail value slice (.ref D) (.int (-1) u)) Q E s := by
  have hl : s.heap.IsList D (p ++ [y]).toArray := News.isList N hm
  refine tail_any hl.typeIs slot_list_getitem.lookup (wpAny_getItem_list_neg (x := y) hl (by decide) (by rw [List.size_toArray, List.length_append]; simp only [List.length_cons, List.length_nil]; omega) (by decide) ?_ h) hs
  have e : ((-1 : Int) + ((p ++ [y]).toArray.size : Nat)).toNat = p.length := by rw [List.size_toArray, List.length_append]; simp only [List.length_cons, List.length_nil]; omega
  rw [e]; simp
theorem setlast_call {D : Addr} {p : List Value} {y v : Value} {n : Nat} {t : Tok} {news n1 : Ledger} {Q : Unit → Shared → Prop} (F : Fr h₀ L s.heap m) (N : News h₀ L s.heap news) (P : Pick (D, listOf (p ++ [y]).toArray n) news n1) (off : ∀ q ∈ n1, q.1 ≠ D)
    (h : ∀ h', Fr h₀ L h' m → News h₀ L h' ((D, listOf (p ++ [v]).toArray n) :: n1) → Q () { s with heap := h' }) : wpAny (model prog w) A (setItem (.ref D) (.int (-1) t) v) Q E s := by
  have N1 : News h₀ L s.heap ((D, listOf (p ++ [y]).toArray n) :: n1) := newsSub N fun p hp => (P.mem p).mpr (List.mem_cons.mp hp)
  refine ki_setNeg F N1 (by decide) (by decide) (j := p.length) ?_ (q := p ++ [v]) (ki_setL_last p y v) (.head off) h
  rw [PySem.seqIndex_neg (by decide) (by rw [List.size_toArray, List.length_append]; simp only [List.length_cons, List.length_nil]; omega)]
  congr 1
  rw [List.size_toArray, List.length_append]; simp only [List.length_cons, List.length_nil]; omega
theorem poplast_call {D : Addr} {p : List Value} {y : Value} {n : Nat} {news n1 : Ledger} {Q : Value → Shared → Prop} (F : Fr h₀ L s.heap m) (N : News h₀ L s.heap news) (P : Pick (D, listOf (p ++ [y]).toArray n) news n1)
    (off : ∀ q ∈ n1, q.1 ≠ D) (hsz : p.length ≤ 1000000) (h : ∀ h', Fr h₀ L h' m → News h₀ L h' ((D, listOf p.toArray (n + 1)) :: n1) → Q y { s with heap := h' }) :
    wpAny (model prog w) A (call (.builtin "list.pop") [.ref D]) Q E s := by
  have N1 : News h₀ L s.heap ((D, listOf (p ++ [y]).toArray n) :: n1) := newsSub N fun p hp => (P.mem p).mpr (List.mem_cons.mp hp)
  refine kl_pop F N1 (p := p) (y := y) (kl_last_app p y) (.head off) ?_ h
  show (p ++ [y]).length ≤ sizeLine
  rw [List.length_append]
  have h9 : sizeLine = 16777216 := rfl
  simp only [List.length_cons, List.length_nil]
  omega
theorem add_call {l b : Addr} {vs ws : List Value} {n k : Nat} {news : Ledger} {Q : Value → Shared → Prop} (F : Fr h₀ L s.heap m) (N : News h₀ L s.heap news) (hl : (l, listOf vs.toArray n) ∈ news) (hb : (b, listOf ws.toArray k) ∈ news) (hsz : vs.length + ws.length ≤ 1000000)
    (h : ∀ D h', Fr h₀ L h' m → News h₀ L h' ((D, listOf (vs ++ ws).toArray 0) :: news) → (∀ p ∈ news, p.1 < D) → Q (.ref D) { s with heap := h' }) : wpAny (model prog w) A (binaryOp .Add (.ref l) (.ref b)) Q E s :=
  add_lists F N (News.isList N hl) (News.isList N hb) (fun h' F' N' => h _ h' F' N' fun p hp => Heap.lt_size (N p hp).1) (Nat.le_trans hsz (by decide))
theorem setf_call {K : Frag} {x C dx : Addr} {es : List DictEntry} {n : Nat} {name : Str} {v u : Value} {news n1 : Ledger} {Q : Unit → Shared → Prop} (F : Fr h₀ L s.heap m) (X₀ : K.In h₀) (N : News h₀ L s.heap news) (hx : (x, instObj C dx) ∈ news) (P : Pick (dx, dictOf es n) news n1)
    (hs : findIn K (.ref C) "__setattr__" = some (some (.builtin "object.__setattr__"))) (hp : plainOver K C = true) (ht : takerIn K C name = some none) (hh : hasDictIn K C = true) (hl : getL name es = some (some u)) (off : ∀ q ∈ n1, q.1 ≠ dx) (hz : es.length ≤ 500)
    (h : ∀ h' hs key n', Fr h₀ L h' m → News h₀ L h' ((dx, dictOf (putL name hs key v es) n') :: n1) → Q () { s with heap := h', toks := s.toks + 2 }) :
    wpAny (model prog w) A (setAttr (.ref x) name v) Q E s := by
  have N1 : News h₀ L s.heap ((x, instObj C dx) :: (dx, dictOf es n) :: n1) := newsSub N fun p hp => by
    rcases List.mem_cons.mp hp with rfl | hp
    · exact hx
    · exact (P.mem p).mpr (List.mem_cons.mp hp)
  have hne : @Ne Nat x dx := fun e => by
    have e1 := (N1 _ (.head _)).1
    have e2 := (N1 _ (.tail _ (.head _))).1
    rw [show x = dx from e] at e1
    have e3 := congrArg Obj.cls (Option.some.inj (e1.symm.trans e2))
    cases e3
  refine set_dict F X₀ N1 (InstAt.of_news N1 (.head _) (.tail _ (.head _))) rfl hs hp ht hh (by rw [hl]; rfl) rfl (.tail hne (.head off)) (Nat.le_trans putL_len (by omega)) fun h' F' N' => h h' _ _ _ F' (newsSub N' fun p hp => .tail _ hp)
end
-- M10
/-! ### frames as data -/
local macro_rules | `(tactic| walk_at "call builtin:list.pop") => `(tactic| (k_here; (with_reducible show wpAny _ _ (call (Value.builtin _) [Value.ref _]) _ _ _); k_dflt (refine' poplast_call (by k_asm) (by k_asm) (by walk_at "mine pick") (by k_all) (by walk_at "mine size") ?_; k_whole); intro h' F' N'; (try k_sweep)))
local macro_rules | `(tactic| walk_at "mine hds") => `(tactic| (refine' HdsIn.mono ?s ?a; (case a => assumption); (case s => (intro p hp; walk_at "mine sub"))))
local macro_rules | `(tactic| walk_at "mine getl") => `(tactic| assumption)
local macro_rules | `(tactic| walk_at "mine len") => `(tactic| first | assumption | omega)
local macro_rules | `(tactic| walk_at "getAttr ref") => `(tactic| (k_here; k_dflt (refine' get_own ?k1 ?k2 ?k3 ?k4 ?k5 ?k6 ?k7 ?k8 ?k9 ?_; (case k1 => k_asm); (case k2 => k_asm); (case k3 => (refine' InstAt.of_news ?N ?h1 ?h2; (case N => k_asm); (case h1 => k_mem); (case h2 => k_mem))); (case k4 => k_is); (case k5 => k_is); (case k6 => k_is); (case k7 => k_is); (case k8 => walk_at "mine getl"); (case k9 => k_handed); k_whole)))
local macro_rules | `(tactic| walk_at "setAttr ref") => `(tactic| (k_here; k_dflt (refine' setf_call ?F ?X ?N ?hx ?P ?hs ?hp ?ht ?hh ?hl ?off ?hz ?_; (case F => k_asm); (case X => k_asm); (case N => k_asm); (case hx => k_mem); (case P => walk_at "mine pick"); (case hl => walk_at "mine getl"); (case hs => k_is); (case hp => k_is); (case ht => k_is); (case hh => k_is); (case off => k_all); (case hz => walk_at "mine len"); k_whole); intro h' hs' key' n' F' N'; (try k_sweep)))
local macro_rules | `(tactic| walk_at "subscriptTail Name UnaryOp ref int") => `(tactic| (k_here; (with_reducible show wpAny _ _ (subscriptTail _ _ (Value.ref _) (Value.int _ _)) _ _ _); (with_unfolding_all refine' last_call ?N ?hm ?_ ?hs; (case N => k_asm); (case hm => k_mem); (case hs => with_unfolding_all rfl); k_whole)))
local macro_rules | `(tactic| walk_at "setItem ref int") => `(tactic| (k_here; k_dflt (refine' setlast_call (by k_asm) (by k_asm) (by walk_at "mine pick") (by k_all) ?_; k_whole); intro h' F' N'; (try k_sweep)))
local macro_rules | `(tactic| walk_at "binaryOp Add ref ref") => `(tactic| (k_here; (with_reducible show wpAny _ _ (binaryOp _ (Value.ref _) (Value.ref _)) _ _ _); k_dflt (refine' add_call (by k_asm) (by k_asm) (by k_mem) (by k_mem) (by walk_at "mine size") ?_; k_whole); intro D' h' F' N' l1; (try k_lt l1); (try k_sweep)))
structure AF where
  hs : List Hd
  sv : List PyData
  pc : Int
  fl : Bool
def findH (pc : Int) (hs : List Hd) : Option Hd := hs.find? fun h => decide (h.at pc)
def behindD (d : Int) (f : Bool) (sv : List PyData) (v : PyData) : List PyData := sv.take d.toNat ++ (v :: if f then [.int (-1)] else [])
/-- what a value thrown does to the frames, the newest first -/
def stepR (v : PyData) : List AF → Bool × List AF
  | [] => (false, [])
  | x :: r => match findH (x.pc - 1) x.hs with
    | some g => (true, ⟨x.hs, behindD g.dep g.fin x.sv v, g.hi, x.fl⟩ :: r)
    | none => if x.fl then (false, r) else stepR v r
structure FD where
  f : Addr
  fd : Addr
  u : Addr
  ud : Addr
  t : Addr
  k : Addr
  es : List DictEntry
  n : Nat
  us : List DictEntry
  un : Nat
  tv : List Value
  nt : Nat
  sv : List Value
  nk : Nat
  hs : List Hd
  ds : List PyData
  pc : Int
  tp : Tok
  fl : Bool
abbrev FD.muts (x : FD) : Ledger := [(x.fd, dictOf x.es x.n), (x.k, listOf x.sv.toArray x.nk)]
abbrev FD.mutA (x : FD) : List Addr := [x.fd, x.k]
def FD.abs (x : FD) : AF := ⟨x.hs, x.ds, x.pc, x.fl⟩
abbrev FD.ref (x : FD) : Value := .ref x.f
structure FdIn (M : Nat) (rest : Ledger) (x : FD) : Prop where
  hf : (x.f, instObj 59 x.fd) ∈ rest
  hu : (x.u, instObj 108 x.ud) ∈ rest
  hud : (x.ud, dictOf x.us x.un) ∈ rest
  ht : (x.t, listOf x.tv.toArray x.nt) ∈ rest
  hin : HdsIn rest x.tv x.hs
  aft : x.hs.Pairwise Aft
  dep : ∀ g ∈ x.hs, 0 ≤ g.dep ∧ g.dep ≤ 1000
  gU : getL (Str.ofString "unit") x.es = some (some (.ref x.u))
  gK : getL (Str.ofString "stack") x.es = some (some (.ref x.k))
  gP : getL (Str.ofString "pc") x.es = some (some (.int x.pc x.tp))
  gF : getL (Str.ofString "is_floor") x.es = some (some (.bool x.fl))
  gH : getL (Str.ofString "handlers") x.us = some (some (.ref x.t))
  len : x.es.length ≤ 100
  car : CarriedAll x.sv x.ds
  small : x.sv.length ≤ M
  many : x.tv.length ≤ 1000
theorem carried_take : ∀ {vs : List Value} {ds : List PyData}, CarriedAll vs ds → ∀ n : Nat, CarriedAll (vs.take n) (ds.take n)
  | _, _, _, 0 => .nil
  | _, _, .nil, _ + 1 => .nil
  | _, _, .cons a r, n + 1 => .cons a (carried_take r n)
theorem carried_app : ∀ {vs us : List Value} {ds es : List PyData}, CarriedAll vs ds → CarriedAll us es → CarriedAll (vs ++ us) (ds ++ es)
  | _, _, _, _, .nil, h => h
  | _, _, _, _, .cons a r, h => .cons a (carried_app r h)
theorem carried_behind {dp : Int} {f : Bool} {sv : List Value} {ds : List PyData} {v : Value} {d : PyData} {tn : Tok} (c : CarriedAll sv ds) (hv : Carried v d) : CarriedAll (behind dp f sv v tn) (behindD dp f ds d) := by
  unfold behind behindD
  refine carried_app (carried_take c _) (.cons hv ?_)
  cases f with
  | false => exact .nil
  | true => exact .cons (.int _ _) .nil
theorem behind_len {dp : Int} {f : Bool} {sv : List Value} {v : Value} {tn : Tok} : (behind dp f sv v tn).length ≤ sv.length + 2 := by
  unfold behind
  rw [List.length_append, List.length_take]
  cases f <;> simp only [if_true, Bool.false_eq_true, if_false, List.length_cons, List.length_nil] <;> omega
theorem first_find {l : Ledger} {pc : Int} : ∀ {tv : List Value} {hs : List Hd}, HdsIn l tv hs → (firstAt pc tv hs = none ∧ findH pc hs = none) ∨
    ∃ D t1 t2 t3 t4 g, firstAt pc tv hs = some (.ref D, g) ∧ (D, tupOf [.int g.lo t1, .int g.hi t2, .int g.hi t3, .int g.dep t4, .bool g.fin]) ∈ l ∧ findH pc hs = some g
  | _, _, .nil => .inl ⟨by rw [firstAt]; simp, rfl⟩
  | _, _, .cons (h := h₀) a r => by
    by_cases c : h₀.at pc
    · obtain ⟨D, t1, t2, t3, t4, rfl, hm⟩ := a
      exact .inr ⟨D, t1, t2, t3, t4, h₀, firstAt_yes c, hm, by unfold findH; rw [List.find?_cons]; simp [c]⟩
    · have e : ∀ hs', findH pc (h₀ :: hs') = findH pc hs' := fun hs' => by unfold findH; rw [List.find?_cons]; simp [c]
      rw [firstAt_no c, e]
      exact first_find r
theorem findH_mem {pc : Int} {hs : List Hd} {g : Hd} (h : findH pc hs = some g) : g ∈ hs := List.mem_of_find?_eq_some h
section
variable {w : World} {mean : ExcName → Option Value} {mg mb : Str → Option Value} {dp un : Nat} {gd : Option (List Code)} {cn : Str} {cs : Scope} {a : Addr} {ccd : Value} {cl : List (Str × Addr)} {outer : List Env}
    {A₀ : Around} {base h₀ : Heap} {L : Addr} {m : Str → Option Value} {s : Shared} {Q : Value → Shared → Prop} {E : Value → Shared → Prop}
theorem find_call {t : Addr} {pc : Int} {tp : Tok} {tv : List Value} {nt : Nat} {hs : List Hd} {news : Ledger}
    (B : Below A₀ base outer h₀) (F : Fr h₀ L s.heap m) (X : (hd.heap_39 w.params).In h₀) (T : Top hd.view_39 (looseW hd.view_39 []) mean mg mb h₀) (hk : cs.kind = .function) (hd : dp + 2 < recursionLimit) (hu : un + 20 < cLine)
    (N : News h₀ L s.heap news) (hm : (t, listOf tv.toArray nt) ∈ news) (hin : HdsIn news tv hs)
    (h1 : ∀ h' tk', findH pc hs = none → Fr h₀ L h' m → News h₀ L h' news → Q .none { s with heap := h', toks := tk' })
    (h2 : ∀ D t1 t2 t3 t4 g h' tk', findH pc hs = some g → g ∈ hs → (D, tupOf [.int g.lo t1, .int g.hi t2, .int g.hi t3, .int g.dep t4, .bool g.fin]) ∈ news → Fr h₀ L h' m → News h₀ L h' news → Q (.ref D) { s with heap := h', toks := tk' }) :
    wpAny (model PySem.Challenge.rw_nt0342_01.row.prog w) (ktrTop dp un gd cn cs L a ccd cl outer) (call (.ref 77) [.ref t, .int pc tp]) Q E s := by
  refine find0 B F X T hk hd hu N hm hin fun h' tk' F' N' => ?_
  rcases first_find (pc := pc) hin with ⟨e, e'⟩ | ⟨D, t1, t2, t3, t4, g, e, hD, e'⟩
  · rw [e]; exact h1 h' tk' e' F' N'
  · rw [e]; exact h2 D t1 t2 t3 t4 g h' tk' e' (findH_mem e') hD F' N'
theorem around_call {t : Addr} {pc : Int} {tp : Tok} {tv : List Value} {nt : Nat} {hs : List Hd} {news : Ledger}
    (B : Below A₀ base outer h₀) (F : Fr h₀ L s.heap m) (X : (hd.heap_39 w.params).In h₀) (T : Top hd.view_39 (looseW hd.view_39 []) mean mg mb h₀) (hk : cs.kind = .function) (hd : dp + 2 < recursionLimit) (hu : un + 20 < cLine)
    (N : News h₀ L s.heap news) (hm : (t, listOf tv.toArray nt) ∈ news) (hin : HdsIn news tv hs) (haft : hs.Pairwise Aft)
    (h1 : ∀ h' tk', findH pc hs = none → Fr h₀ L h' m → News h₀ L h' news → Q .none { s with heap := h', toks := tk' })
    (h2 : ∀ D t1 t2 t3 t4 g h' tk', findH pc hs = some g → g ∈ hs → (D, tupOf [.int g.lo t1, .int g.hi t2, .int g.hi t3, .int g.dep t4, .bool g.fin]) ∈ news → Fr h₀ L h' m → News h₀ L h' news → Q (.ref D) { s with heap := h', toks := tk' }) :
    wpAny (model PySem.Challenge.rw_nt0342_01.row.prog w) (ktrTop dp un gd cn cs L a ccd cl outer) (call (.ref 138) [.ref t, .int pc tp]) Q E s := by
  refine around0 B F X T hk hd hu N hm hin fun h' tk' F' N' => ?_
  rw [least_first pc tv hs haft]
  rcases first_find (pc := pc) hin with ⟨e, e'⟩ | ⟨D, t1, t2, t3, t4, g, e, hD, e'⟩
  · rw [e]; exact h1 h' tk' e' F' N'
  · rw [e]; exact h2 D t1 t2 t3 t4 g h' tk' e' (findH_mem e') hD F' N'
theorem enter_call {D k : Addr} {g : Hd} {t1 t2 t3 t4 : Tok} {sv : List Value} {nk : Nat} {v : Value} {news n1 : Ledger}
    (B : Below A₀ base outer h₀) (F : Fr h₀ L s.heap m) (X : (hd.heap_39 w.params).In h₀) (T : Top hd.view_39 (looseW hd.view_39 []) mean mg mb h₀) (hk : cs.kind = .function) (hd : dp + 2 < recursionLimit) (hu : un + 20 < cLine)
    (N : News h₀ L s.heap news) (P : Pick (k, listOf sv.toArray nk) news n1) (off : ∀ q ∈ n1, q.1 ≠ k) (hD : (D, tupOf [.int g.lo t1, .int g.hi t2, .int g.hi t3, .int g.dep t4, .bool g.fin]) ∈ news) (hsz : sv.length ≤ 100000) (hd0 : 0 ≤ g.dep)
    (hret : ∀ nk' tn h' tk', Fr h₀ L h' m → News h₀ L h' ((k, listOf (behind g.dep g.fin sv v tn).toArray nk') :: n1) → Q (.int g.hi t3) { s with heap := h', toks := tk' }) :
    wpAny (model PySem.Challenge.rw_nt0342_01.row.prog w) (ktrTop dp un gd cn cs L a ccd cl outer) (call (.ref 84) [.ref D, .ref k, v]) Q E s :=
  enter0 B F X T hk hd hu (newsSub N fun p hp => (P.mem p).mpr (List.mem_cons.mp hp)) off (((P.mem _).mp hD).resolve_left fun e => list_no (congrArg (fun q : Addr × Obj => q.2.cls) e).symm) hsz hd0 hret
end
-- M11
local macro_rules | `(tactic| walk_at "call ref") => `(tactic| (k_here; (with_reducible show wpAny _ _ (call (Value.ref 77) [Value.ref _, Value.int _ _]) _ _ _); k_dflt (refine' find_call (by k_asm) (by k_asm) (by k_asm) (by k_asm) (by first | exact rfl | assumption) ?hd ?hu ?N ?hm ?hin ?h1 ?h2; (case N => k_asm); (case hm => k_mem); (case hin => walk_at "mine hds"); (case hd => walk_at "mine room"); (case hu => walk_at "mine units")); walk_at "mine hit"))
local macro_rules | `(tactic| walk_at "call ref") => `(tactic| (k_here; (with_reducible show wpAny _ _ (call (Value.ref 138) [Value.ref _, Value.int _ _]) _ _ _); k_dflt (refine' around_call (by k_asm) (by k_asm) (by k_asm) (by k_asm) (by first | exact rfl | assumption) ?hd ?hu ?N ?hm ?hin ?ha ?h1 ?h2; (case N => k_asm); (case hm => k_mem); (case hin => walk_at "mine hds"); (case ha => assumption); (case hd => walk_at "mine room"); (case hu => walk_at "mine units")); walk_at "mine hit"))
local macro_rules | `(tactic| walk_at "call ref") => `(tactic| (k_here; (with_reducible show wpAny _ _ (call (Value.ref 84) [Value.ref _, Value.ref _, _]) _ _ _); k_dflt (refine' enter_call (by k_asm) (by k_asm) (by k_asm) (by k_asm) (by first | exact rfl | assumption) ?hd ?hu ?N ?P ?off ?hD ?hz ?h0 ?_; (case N => k_asm); (case P => walk_at "mine pick"); (case off => k_all); (case hD => k_mem); (case hz => walk_at "mine size"); (case h0 => walk_at "mine dep"); (case hd => walk_at "mine room"); (case hu => walk_at "mine units"); k_whole); intro nk' tn' h' tk' F' N'; (try dsimp only); (try k_fold); (try k_sweep)))
local macro_rules | `(tactic| walk_at "mine hit") => `(tactic| ((case' h1 => (intro h' tk' hf' F' N'; (try dsimp only); (try k_fold); (try k_sweep))); (case' h2 => (intro D' t1' t2' t3' t4' g' h' tk' hf' hg' hD' F' N'; (try dsimp only); (try k_fold); (try k_sweep)))))
local macro_rules | `(tactic| walk_at "mine dep") => `(tactic| ((rename (∀ g ∈ _, 0 ≤ Hd.dep g ∧ _) => hDp9); (exact (hDp9 _ (by assumption)).1)))
local macro_rules | `(tactic| walk_at "WhileStep2") => `(tactic| ((with_reducible show WhileStep2 _ _ _ _ _ _ (Flow.ret _) _); dsimp only [WhileStep2]))
theorem mut_addr {q : Addr × Obj} {r : List FD} (h : q ∈ r.flatMap FD.muts) : q.1 ∈ r.flatMap FD.mutA := by
  obtain ⟨x, hx, hq⟩ := List.mem_flatMap.mp h
  refine List.mem_flatMap.mpr ⟨x, hx, ?_⟩
  rcases List.mem_cons.mp hq with rfl | hq
  · exact .head _
  rcases List.mem_cons.mp hq with rfl | hq
  · exact .tail _ (.head _)
  · cases hq
theorem mut_sub {r rfds : List FD} (h : r <:+ rfds) : (r.flatMap FD.mutA).Sublist (rfds.flatMap FD.mutA) := by
  obtain ⟨pre, rfl⟩ := h
  rw [List.flatMap_append]
  exact List.sublist_append_right _ _
theorem off_muts {b : Addr} {r : List FD} (h : b ∉ r.flatMap FD.mutA) : ∀ q ∈ r.flatMap FD.muts, q.1 ≠ b := fun _ hq e => h (e ▸ mut_addr hq)
structure Sep (fr : Addr) (x : FD) (r : List FD) : Prop where
  g1 : @Ne Nat x.fd fr
  g2 : @Ne Nat x.k fr
  g3 : @Ne Nat x.k x.fd
  o1 : ∀ q ∈ r.flatMap FD.muts, q.1 ≠ fr
  o2 : ∀ q ∈ r.flatMap FD.muts, q.1 ≠ x.fd
  o3 : ∀ q ∈ r.flatMap FD.muts, q.1 ≠ x.k
theorem sep_of {fr : Addr} {x : FD} {r : List FD} (h : (fr :: (x :: r).flatMap FD.mutA).Nodup) : Sep fr x r := by
  have h : (fr :: x.fd :: x.k :: r.flatMap FD.mutA).Nodup := h
  obtain ⟨h1, h⟩ := List.nodup_cons.mp h
  obtain ⟨h2, h⟩ := List.nodup_cons.mp h
  obtain ⟨h3, h⟩ := List.nodup_cons.mp h
  exact ⟨fun e => h1 (by rw [← show x.fd = fr from e]; exact .head _), fun e => h1 (by rw [← show x.k = fr from e]; exact .tail _ (.head _)), fun e => h2 (by rw [← show x.k = x.fd from e]; exact .head _),
    off_muts fun q => h1 (.tail _ (.tail _ q)), off_muts fun q => h2 (.tail _ q), off_muts h3⟩
theorem stepR_hit {v : PyData} {x : AF} {r : List AF} {g : Hd} (h : findH (x.pc - 1) x.hs = some g) : stepR v (x :: r) = (true, ⟨x.hs, behindD g.dep g.fin x.sv v, g.hi, x.fl⟩ :: r) := by
  rw [stepR, h]
theorem stepR_floor {v : PyData} {x : AF} {r : List AF} (h : findH (x.pc - 1) x.hs = none) (hf : x.fl = true) : stepR v (x :: r) = (false, r) := by
  rw [stepR, h]; simp [hf]
theorem stepR_pop {v : PyData} {x : AF} {r : List AF} (h : findH (x.pc - 1) x.hs = none) (hf : x.fl = false) : stepR v (x :: r) = stepR v r := by
  rw [stepR, h]; simp [hf]
theorem FdIn.more {M M' : Nat} {rest : Ledger} {x : FD} (h : FdIn M rest x) (hM : M ≤ M') : FdIn M' rest x := { h with small := Nat.le_trans h.small hM }
theorem FdIn.mono {M : Nat} {imm rest : Ledger} {x : FD} (h : FdIn M imm x) (hs : ∀ p ∈ imm, p ∈ rest) : FdIn M rest x := { h with hf := hs _ h.hf, hu := hs _ h.hu, hud := hs _ h.hud, ht := hs _ h.ht, hin := h.hin.mono hs }
/-- the frame after a hit -/
def FD.hit (x : FD) (g : Hd) (v : Value) (d : PyData) (tn : Tok) (hs : Int) (key : Value) (t3 : Tok) (n' nk' : Nat) : FD :=
  { x with es := putL (Str.ofString "pc") hs key (.int g.hi t3) x.es, n := n', sv := behind g.dep g.fin x.sv v tn, nk := nk', ds := behindD g.dep g.fin x.ds d, pc := g.hi, tp := t3 }
theorem FdIn.hit {M : Nat} {rest : Ledger} {x : FD} (h : FdIn M rest x) {g : Hd} {v : Value} {d : PyData} (hv : Carried v d) {tn : Tok} {hs : Int} {key : Value} {t3 : Tok} {n' nk' : Nat} : FdIn (M + 2) rest (x.hit g v d tn hs key t3 n' nk') where
  hf := h.hf
  hu := h.hu
  hud := h.hud
  ht := h.ht
  hin := h.hin
  aft := h.aft
  dep := h.dep
  gU := getL_put_ne (by decide) h.gP h.gU
  gK := getL_put_ne (by decide) h.gP h.gK
  gP := getL_put_same h.gP
  gF := getL_put_ne (by decide) h.gP h.gF
  gH := h.gH
  len := by show (putL _ _ _ _ _).length ≤ _; rw [putL_len_same h.gP]; exact h.len
  car := carried_behind h.car hv
  small := Nat.le_trans behind_len (Nat.add_le_add_right h.small 2)
  many := h.many
theorem hit_news {h₀ h : Heap} {L fr : Addr} {x : FD} {g : Hd} {v : Value} (d : PyData) {tn : Tok} {hs : Int} {key : Value} {t3 : Tok} {n' nk' nf : Nat} {r : List FD} {rest : Ledger}
    (N : News h₀ L h ((x.fd, dictOf (putL (Str.ofString "pc") hs key (.int g.hi t3) x.es) n') :: (x.k, listOf (behind g.dep g.fin x.sv v tn).toArray nk') :: (fr, listOf ((r.map FD.ref).reverse ++ [Value.ref x.f]).toArray nf) :: (r.flatMap FD.muts ++ rest))) :
    News h₀ L h ((fr, listOf (((x.hit g v d tn hs key t3 n' nk' :: r).map FD.ref).reverse).toArray nf) :: ((x.hit g v d tn hs key t3 n' nk' :: r).flatMap FD.muts ++ rest)) := by
  refine newsSub N fun p hp => ?_
  rw [List.map_cons, List.reverse_cons] at hp
  rcases List.mem_cons.mp hp with rfl | hp
  · exact .tail _ (.tail _ (.head _))
  have hp : p ∈ (x.fd, dictOf (putL (Str.ofString "pc") hs key (.int g.hi t3) x.es) n') :: (x.k, listOf (behind g.dep g.fin x.sv v tn).toArray nk') :: (r.flatMap FD.muts ++ rest) := hp
  rcases List.mem_cons.mp hp with rfl | hp
  · exact .head _
  rcases List.mem_cons.mp hp with rfl | hp
  · exact .tail _ (.head _)
  · exact .tail _ (.tail _ (.tail _ hp))
section
variable {w : World} {mean : ExcName → Option Value} {mg mb : Str → Option Value} {dp un : Nat} {gd : Option (List Code)} {cn : Str} {cs : Scope} {a : Addr} {ccd : Value} {cl : List (Str × Addr)} {outer : List Env}
    {A₀ : Around} {base h₀ : Heap} {L : Addr} {m : Str → Option Value} {s : Shared} {Q : Value → Shared → Prop} {E : Value → Shared → Prop}
def UJ (fr : Addr) (rfds : List FD) (rest : Ledger) (v : Value) (d : PyData) (n : Nat) (m : Str → Option Value) (nx : Ledger) : Prop :=
  ∃ r nf, r.length = n ∧ r <:+ rfds ∧ stepR d (rfds.map FD.abs) = stepR d (r.map FD.abs) ∧ nx = (fr, listOf ((r.map FD.ref).reverse).toArray nf) :: (r.flatMap FD.muts ++ rest) ∧ m (Str.ofString "frames") = some (.ref fr) ∧ m (Str.ofString "value") = some v
set_option maxHeartbeats 8000000 in
theorem unwind0 {fr : Addr} {nf M : Nat} {rfds : List FD} {rest imm : Ledger} {v : Value} {d : PyData}
    (B : Below A₀ base outer h₀) (F : Fr h₀ L s.heap m) (X : (hd.heap_39 w.params).In h₀) (T : Top hd.view_39 (looseW hd.view_39 []) mean mg mb h₀) (hk : cs.kind = .function) (hd : dp + 4 < recursionLimit) (hu : un + 40 < cLine)
    (N : News h₀ L s.heap ((fr, listOf ((rfds.map FD.ref).reverse).toArray nf) :: (rfds.flatMap FD.muts ++ rest))) (hok : ∀ x ∈ rfds, FdIn M imm x) (himm : ∀ p ∈ imm, p ∈ rest) (hM : M ≤ 10000) (hlen : rfds.length ≤ 10)
    (hnd : (fr :: rfds.flatMap FD.mutA).Nodup) (hoff : ∀ b ∈ fr :: rfds.flatMap FD.mutA, ∀ q ∈ rest, q.1 ≠ b) (hv : Carried v d)
    (hret : ∀ (rf' : List FD) nf' h' tk', Fr h₀ L h' m → News h₀ L h' ((fr, listOf ((rf'.map FD.ref).reverse).toArray nf') :: (rf'.flatMap FD.muts ++ rest)) → (∀ x ∈ rf', FdIn (M + 2) imm x) → rf'.map FD.abs = (stepR d (rfds.map FD.abs)).2 →
      (fr :: rf'.flatMap FD.mutA).Sublist (fr :: rfds.flatMap FD.mutA) → rf'.length ≤ rfds.length → Q (.bool (stepR d (rfds.map FD.abs)).1) { s with heap := h', toks := tk' }) :
    wpAny (model PySem.Challenge.rw_nt0342_01.row.prog w) (ktrTop dp un gd cn cs L a ccd cl outer) (call (.ref 91) [.ref fr, v]) Q E s := by
  revert X; k_fill; intro X
  refine wpAny_call ?_
  k_dflt ktr_enter
  k_steps
  unfold Stop
  refine While_inv2 (UJ fr rfds rest v d) (n₀ := rfds.length) (by assumption) (by assumption) ⟨rfds, nf, rfl, List.suffix_refl _, rfl, rfl, rfl, rfl⟩ ?turn
  case turn =>
    rintro n m₁ nx h₁ tk₁ F₁ N₁ ⟨r, nf₁, rfl, hsuf, hstep, rfl, e1, e2⟩
    rcases r with _ | ⟨x, r⟩
    · simp only [List.map_nil, List.reverse_nil, List.flatMap_nil, List.nil_append] at N₁
      try k_fold
      k_steps
      rw [show stepR d (rfds.map FD.abs) = (false, []) from hstep] at hret
      exact hret [] nf₁ _ _ (by assumption) (by assumption) (fun _ h => (nomatch h)) rfl (List.Sublist.cons_cons _ (List.nil_sublist _)) (Nat.zero_le _)
    · have hx := hok x (hsuf.mem (.head _))
      have hX := hx
      replace hx := hx.mono himm
      obtain ⟨hf, hu', hud, ht, hin, aft, dep, gU, gK, gP, gF, gH, len, car, small, many⟩ := hx
      simp only [List.map_cons, List.reverse_cons, List.flatMap_cons, FD.muts, List.cons_append, List.nil_append, FD.ref] at N₁
      have hsz : r.length ≤ 10 := by have := hsuf.length_le; simp only [List.length_cons] at this; omega
      have hsz2 : ((r.map fun x => Value.ref x.f).reverse).length ≤ 10 := by simp only [List.length_reverse, List.length_map]; exact hsz
      have hnd2 : (fr :: (x :: r).flatMap FD.mutA).Nodup := hnd.sublist (List.Sublist.cons_cons _ (mut_sub hsuf))
      obtain ⟨g1, g2, g3, o1, o2, o3⟩ := sep_of hnd2
      have hin2 : ∀ b ∈ [x.fd, x.k], b ∈ fr :: rfds.flatMap FD.mutA := fun b hb => .tail _ (List.mem_flatMap.mpr ⟨x, hsuf.mem (.head _), hb⟩)
      have o4 : ∀ q ∈ rest, q.1 ≠ fr := hoff _ (.head _)
      have o5 : ∀ q ∈ rest, q.1 ≠ x.fd := hoff _ (hin2 _ (.head _))
      have o6 : ∀ q ∈ rest, q.1 ≠ x.k := hoff _ (hin2 _ (.tail _ (.head _)))
      try k_fold
      k_steps
      · rw [show stepR d (rfds.map FD.abs) = _ from hstep.trans (stepR_hit (by assumption))] at hret
        rename News _ _ _ _ => kN9
        refine hret _ nf₁ _ _ (by assumption) (hit_news d kN9) (fun y hy => ?_) rfl (List.Sublist.cons_cons _ (mut_sub (r := x :: r) hsuf)) hsuf.length_le
        · rcases List.mem_cons.mp hy with rfl | hy
          · exact hX.hit hv
          · exact (hok y (hsuf.mem (.tail _ hy))).more (by omega)
      · rw [show stepR d (rfds.map FD.abs) = _ from hstep.trans (stepR_floor (by assumption) (by assumption))] at hret
        refine hret r (nf₁ + 1) _ _ (by assumption) (newsSub (by assumption) fun p hp => ?_) (fun y hy => (hok y (hsuf.mem (.tail _ hy))).more (by omega)) rfl (List.Sublist.cons_cons _ (mut_sub (List.IsSuffix.trans (List.suffix_cons _ _) hsuf))) (Nat.le_trans (Nat.le_succ _) hsuf.length_le)
        rcases List.mem_cons.mp hp with rfl | hp
        · exact .head _
        · exact .tail _ (.tail _ (.tail _ hp))
      · refine ⟨_, _, _, _, r.length, rfl, by assumption, newsSub (by assumption) (l' := (fr, listOf ((r.map FD.ref).reverse).toArray (nf₁ + 1)) :: (r.flatMap FD.muts ++ rest)) fun p hp => ?_, Nat.lt_succ_self _, r, nf₁ + 1, rfl, List.IsSuffix.trans (List.suffix_cons _ _) hsuf, hstep.trans (stepR_pop (by assumption) (by assumption)), rfl, by walk_at "mine look", by walk_at "mine look"⟩
        rcases List.mem_cons.mp hp with rfl | hp
        · exact .head _
        · exact .tail _ (.tail _ (.tail _ hp))
      · rename (¬ (0 : Int) < _) => hno
        simp only [List.length_append, List.length_cons, List.length_nil] at hno
        omega
end
-- M12
theorem size_ok {vs : List Value} (h : vs.length ≤ 1000000) : vs.toArray.size ≤ sizeLine := by
  rw [List.size_toArray]; exact Nat.le_trans h (by decide)
section
variable {prog : Program} {w : World} {A : Around} {E : Value → Shared → Prop} {s : Shared} {h₀ : Heap} {L : Addr} {m : Str → Option Value}
theorem slice_call {value slice : PySem.Expr} {l : Addr} {us : List Value} {n : Nat} {vl vu : Value} {d : Int} {news : Ledger} {Q : Value → Shared → Prop} (F : Fr h₀ L s.heap m) (N : News h₀ L s.heap news) (hl : (l, listOf us.toArray n) ∈ news) (pl : IsPart vl none) (pu : IsPart vu (some d)) (hd0 : 0 ≤ d)
    (h : ∀ D h', Fr h₀ L h' m → News h₀ L h' ((D, listOf (us.take d.toNat).toArray 0) :: news) → (∀ p ∈ news, p.1 < D) → Q (.ref D) { s with heap := h' })
    (hs : subscripted slice false (.ref l) (.ref s.heap.objs.size) = operate [.ref s.heap.objs.size, .ref l] (getItem (.ref l) (.ref s.heap.objs.size))) (ht : ∀ r, letTemporaryGo value (.ref l) r = pure ()) (hz : us.length ≤ 1000000) :
    wpAny (model prog w) A (subscriptTail value slice (.ref l) (.ref s.heap.objs.size)) Q E { s with heap := s.heap.push { cls := .type "slice", data := .fields #[vl, vu, .none] } } :=
  kms_slice_lit F N (News.isList N hl) pl pu (pick_take us hd0) h hs ht (size_ok hz)
theorem tuple_call {vs : List Value} {news : Ledger} {Q : Value → Shared → Prop} (F : Fr h₀ L s.heap m) (N : News h₀ L s.heap news) (hz : vs.length ≤ 100)
    (h : ∀ D h', Fr h₀ L h' m → News h₀ L h' ((D, tupOf vs) :: news) → (∀ p ∈ news, p.1 < D) → Q (.ref D) { s with heap := h' }) : wpAny (model prog w) A (newTuple vs) Q E s :=
  newTuple_N F N (fun h' F' N' => h _ h' F' N' fun p hp => Heap.lt_size (N p hp).1) (Nat.le_trans hz (by decide))
end
/-! ### the model's entries -/
local macro_rules | `(tactic| walk_at "subscriptTail Name Slice ref ref") => `(tactic| (k_here; (with_reducible show wpAny _ _ (subscriptTail _ (PySem.Expr.Slice _ _ none _) (Value.ref _) (Value.ref _)) _ _ _); k_dflt (refine' slice_call ?F ?N ?l ?p ?q ?d ?_ ?s ?t ?z; (case F => k_asm); (case N => k_asm); (case l => k_mem); (case p => kmk_part); (case q => kmk_part); (case d => walk_at "mine dep"); (case s => with_unfolding_all rfl); (case t => kmk_pure); (case z => walk_at "mine size")); intro D' h' F' N' l1; (try k_lt l1); (try k_sweep)))
structure AfOk (x : AF) : Prop where
  aft : x.hs.Pairwise Aft
  dep : ∀ g ∈ x.hs, 0 ≤ g.dep ∧ g.dep ≤ 1000
  lay : PyData.canLayAll0 x.sv = true
  deep : PyData.depthAll x.sv = 0
def MdIn (M : Nat) (l : Ledger) (v : Value) (x : AF) : Prop :=
  ∃ p a k tv na sv nk tp, v = .ref p ∧ (p, tupOf [.ref a, .ref k, .int x.pc tp, .bool x.fl]) ∈ l ∧ (a, listOf (List.toArray tv) na) ∈ l ∧ HdsIn l tv x.hs ∧ (k, listOf (List.toArray sv) nk) ∈ l ∧ CarriedAll sv x.sv ∧ sv.length ≤ M ∧ tv.length ≤ 1000
inductive MdsIn (M : Nat) (l : Ledger) : List Value → List AF → Prop
  | nil : MdsIn M l [] []
  | cons {v x vs xs} : MdIn M l v x → MdsIn M l vs xs → MdsIn M l (v :: vs) (x :: xs)
theorem MdIn.mono {M M' : Nat} {l l' : Ledger} (hs : ∀ p ∈ l, p ∈ l') (hM : M ≤ M') {v : Value} {x : AF} (h : MdIn M l v x) : MdIn M' l' v x := by
  obtain ⟨p, a, k, tv, na, sv, nk, tp, e, h1, h2, h3, h4, h5, h6, h7⟩ := h
  exact ⟨p, a, k, tv, na, sv, nk, tp, e, hs _ h1, hs _ h2, h3.mono hs, hs _ h4, h5, Nat.le_trans h6 hM, h7⟩
theorem MdsIn.mono {M M' : Nat} {l l' : Ledger} (hs : ∀ p ∈ l, p ∈ l') (hM : M ≤ M') {vs : List Value} {xs : List AF} (H : MdsIn M l vs xs) : MdsIn M' l' vs xs := by
  induction H with
  | nil => exact .nil
  | cons a _ ih => exact .cons (a.mono hs hM) ih
theorem MdsIn.length {M : Nat} {l : Ledger} {vs : List Value} {xs : List AF} (H : MdsIn M l vs xs) : vs.length = xs.length := by
  induction H with
  | nil => rfl
  | cons _ _ ih => rw [List.length_cons, List.length_cons, ih]
def hdD (h : Hd) : PyData := .tuple [.int h.lo, .int h.hi, .int h.hi, .int h.dep, .bool h.fin]
def AF.data (x : AF) : PyData := .tuple [.list (x.hs.map hdD), .list x.sv, .int x.pc, .bool x.fl]
theorem readsAll_app {h : Heap} : ∀ {vs : List Value} {ds : List PyData} {as : List Addr} {us : List Value} {es : List PyData} {bs : List Addr}, ReadsAll h vs ds as → ReadsAll h us es bs → ∃ cs, ReadsAll h (vs ++ us) (ds ++ es) cs
  | _, _, _, _, _, _, .nil, h => ⟨_, h⟩
  | _, _, _, _, _, _, .cons a r, h => let ⟨_, k⟩ := readsAll_app r h; ⟨_, .cons a k⟩
theorem readsAll_rev {h : Heap} : ∀ {vs : List Value} {ds : List PyData} {as : List Addr}, ReadsAll h vs ds as → ∃ cs, ReadsAll h vs.reverse ds.reverse cs
  | _, _, _, .nil => ⟨_, .nil⟩
  | _, _, _, .cons a r => by
    obtain ⟨cs, k⟩ := readsAll_rev r
    rw [List.reverse_cons, List.reverse_cons]
    exact readsAll_app k (.cons a .nil)
theorem hds_reads {h₀ h : Heap} {L : Addr} {news : Ledger} (N : News h₀ L h news) {vs : List Value} {hs : List Hd} (H : HdsIn news vs hs) : ∃ as, ReadsAll h vs (hs.map hdD) as := by
  induction H with
  | nil => exact ⟨_, .nil⟩
  | cons a _ ih =>
    obtain ⟨D, t1, t2, t3, t4, e, hm⟩ := a
    obtain ⟨as, k⟩ := ih
    subst e
    exact ⟨_, .cons (reads_tuple_at (N _ hm).1 rfl rfl (.cons (.int _ _) (.cons (.int _ _) (.cons (.int _ _) (.cons (.int _ _) (.cons (.bool _) .nil)))))) k⟩
theorem mds_reads {h₀ h : Heap} {L : Addr} {M : Nat} {news : Ledger} (N : News h₀ L h news) {vs : List Value} {xs : List AF} (H : MdsIn M news vs xs) : ∃ as, ReadsAll h vs (xs.map AF.data) as := by
  induction H with
  | nil => exact ⟨_, .nil⟩
  | cons z _ ih =>
    obtain ⟨p, a, k, tv, na, sv, nk, tp, e, h1, h2, h3, h4, h5, _, _⟩ := z
    obtain ⟨as, q⟩ := ih
    subst e
    obtain ⟨bs, q1⟩ := hds_reads N h3
    exact ⟨_, .cons (reads_tuple_at (N _ h1).1 rfl rfl (.cons (reads_list_at (N _ h2).1 rfl rfl q1) (.cons (reads_newData (News.isList N h4) h5) (.cons (.int _ _) (.cons (.bool _) .nil))))) q⟩
theorem hds_lay : ∀ hs : List Hd, PyData.canLayAll0 (hs.map hdD) = true
  | [] => rfl
  | h :: hs => by simp [PyData.canLayAll0, PyData.canLay0, hdD, hds_lay hs]
theorem hds_deep : ∀ hs : List Hd, PyData.depthAll (hs.map hdD) ≤ 1
  | [] => Nat.zero_le _
  | h :: hs => by
    have := hds_deep hs
    simp only [List.map_cons, PyData.depthAll, PyData.depth, hdD]
    exact Nat.max_le.mpr ⟨by decide, this⟩
theorem afs_lay : ∀ {xs : List AF}, (∀ x ∈ xs, AfOk x) → PyData.canLayAll0 (xs.map AF.data) = true
  | [], _ => rfl
  | x :: xs, h => by
    have h1 := (h x (.head _)).lay
    have h2 := afs_lay fun y hy => h y (.tail _ hy)
    simp [PyData.canLayAll0, PyData.canLay0, AF.data, hds_lay, h1, h2]
theorem afs_deep : ∀ {xs : List AF}, (∀ x ∈ xs, AfOk x) → PyData.depthAll (xs.map AF.data) ≤ 4
  | [], _ => Nat.zero_le _
  | x :: xs, h => by
    have h1 := (h x (.head _)).deep
    have h2 := afs_deep fun y hy => h y (.tail _ hy)
    have h3 := hds_deep x.hs
    simp only [List.map_cons, PyData.depthAll, PyData.depth, AF.data, h1]
    exact Nat.max_le.mpr ⟨Nat.succ_le_succ (Nat.max_le.mpr ⟨Nat.le_trans (Nat.succ_le_succ h3) (by decide), by decide⟩), h2⟩
theorem afs_shaped {xs : List AF} (h : ∀ x ∈ xs, AfOk x) : SeqAt.shaped (.list (xs.map AF.data)) = true := by
  unfold SeqAt.shaped
  have h1 := afs_lay h
  have h2 := afs_deep h
  have e : PyData.depth (.list (xs.map AF.data)) ≤ 64 := by rw [PyData.depth]; omega
  rw [PyData.canLay0, h1]
  exact decide_eq_true e
theorem eqvAll_refl : ∀ (ds : List PyData), (∀ d ∈ ds, PyData.eqv d d = true) → PyData.eqvAll ds ds = true
  | [], _ => by simp [PyData.eqvAll]
  | d :: ds, h => by simp [PyData.eqvAll, h d (.head _), eqvAll_refl ds fun x hx => h x (.tail _ hx)]
theorem hd_eqv (h : Hd) : PyData.eqv (hdD h) (hdD h) = true := by simp [hdD, PyData.eqv, PyData.eqvAll]
theorem flat_eqv : ∀ {d : PyData}, PyData.depth d = 0 → PyData.canLay0 d = true → PyData.eqv d d = true
  | .none, _, _ => by simp [PyData.eqv]
  | .bool _, _, _ => by simp [PyData.eqv]
  | .int _, _, _ => by simp [PyData.eqv]
  | .str _, _, _ => by simp [PyData.eqv]
  | .list _, h, _ => by simp [PyData.depth] at h
  | .tuple _, h, _ => by simp [PyData.depth] at h
  | .dict _, h, _ => by simp [PyData.depth] at h
theorem flats_eqv : ∀ {ds : List PyData}, PyData.depthAll ds = 0 → PyData.canLayAll0 ds = true → ∀ d ∈ ds, PyData.eqv d d = true
  | [], _, _, _, h => nomatch h
  | d :: ds, h1, h2, e, he => by
    simp only [PyData.depthAll] at h1
    simp only [PyData.canLayAll0, Bool.and_eq_true] at h2
    rcases List.mem_cons.mp he with rfl | he
    · exact flat_eqv (by omega) h2.1
    · exact flats_eqv (by omega) h2.2 e he
theorem af_eqv {x : AF} (h : AfOk x) : PyData.eqv x.data x.data = true := by
  have h1 := eqvAll_refl x.sv (flats_eqv h.deep h.lay)
  have h2 := eqvAll_refl (x.hs.map hdD) (fun d hd => by obtain ⟨g, _, rfl⟩ := List.mem_map.mp hd; exact hd_eqv g)
  simp [AF.data, PyData.eqv, PyData.eqvAll, h1, h2]
theorem afs_eqv {xs : List AF} (h : ∀ x ∈ xs, AfOk x) : PyData.eqv (.list (xs.map AF.data)) (.list (xs.map AF.data)) = true := by
  have h1 := eqvAll_refl (xs.map AF.data) (fun d hd => by obtain ⟨g, hg, rfl⟩ := List.mem_map.mp hd; exact af_eqv (h g hg))
  simp [PyData.eqv, h1]
section
variable {prog : Program} {w : World} {A : Around} {E : Value → Shared → Prop} {s : Shared} {h₀ : Heap} {L : Addr} {m : Str → Option Value}
theorem ne_empty {l e : Addr} {us rv : List Value} {xs : List AF} {n k M : Nat} {news : Ledger} {Q : Value → Shared → Prop} (N : News h₀ L s.heap news) (hl : (l, listOf us.toArray n) ∈ news) (he : (e, listOf (List.toArray []) k) ∈ news) (H : MdsIn M news rv xs) (hok : ∀ x ∈ xs, AfOk x) (hu : A.units + 64 < cLine) (eu : us = rv.reverse)
    (h : Q (.bool (!rv.isEmpty)) s) : wpAny (model prog w) A (compareOp .NotEq (.ref l) (.ref e)) Q E s := by
  subst eu
  obtain ⟨as, R⟩ := mds_reads N H
  obtain ⟨cs, R⟩ := readsAll_rev R
  rw [← List.map_reverse] at R
  have hok' : ∀ x ∈ xs.reverse, AfOk x := fun x hx => hok x (List.mem_reverse.mp hx)
  refine ne_dataH (reads_list_at (N _ hl).1 rfl rfl R) (reads_list_at (N _ he).1 rfl rfl .nil) (afs_shaped hok') (by decide) hu ?_
  have e1 : PyData.eqv (.list (xs.reverse.map AF.data)) (.list []) = rv.isEmpty := by
    cases H with
    | nil => simp [PyData.eqv, PyData.eqvAll]
    | cons a r =>
      rw [List.reverse_cons, List.map_append]
      generalize (List.map AF.data _) = ds
      cases ds <;> simp [PyData.eqv, PyData.eqvAll]
  rw [e1]; exact h
theorem ne_same {l e : Addr} {rv ru : List Value} {xs : List AF} {n k M M' : Nat} {news : Ledger} {Q : Value → Shared → Prop} (N : News h₀ L s.heap news) (hl : (l, listOf rv.reverse.toArray n) ∈ news) (he : (e, listOf ru.reverse.toArray k) ∈ news) (H : MdsIn M news rv xs) (H' : MdsIn M' news ru xs) (hok : ∀ x ∈ xs, AfOk x) (hu : A.units + 64 < cLine)
    (h : Q (.bool false) s) : wpAny (model prog w) A (compareOp .NotEq (.ref l) (.ref e)) Q E s := by
  obtain ⟨as, R⟩ := mds_reads N H
  obtain ⟨cs, R⟩ := readsAll_rev R
  obtain ⟨as', R'⟩ := mds_reads N H'
  obtain ⟨cs', R'⟩ := readsAll_rev R'
  rw [← List.map_reverse] at R R'
  have hok' : ∀ x ∈ xs.reverse, AfOk x := fun x hx => hok x (List.mem_reverse.mp hx)
  refine ne_dataH (reads_list_at (N _ hl).1 rfl rfl R) (reads_list_at (N _ he).1 rfl rfl R') (afs_shaped hok') (afs_shaped hok') hu ?_
  rw [afs_eqv hok']; exact h
end
-- M13
local macro_rules | `(tactic| walk_at "mine mds") => `(tactic| (refine' MdsIn.mono ?s (Nat.le_refl _) ?a; (case a => assumption); (case s => (intro p hp; walk_at "mine sub"))))
local macro_rules | `(tactic| walk_at "compareOp NotEq ref ref") => `(tactic| (k_here; (with_reducible show wpAny _ _ (compareOp CmpOp.NotEq (Value.ref _) (Value.ref _)) _ _ _); k_dflt (refine' ne_empty ?N ?hl ?he ?H ?hok ?hu ?eu ?_; (case N => k_asm); (case hl => k_mem); (case he => k_mem); (case H => walk_at "mine mds"); (case hok => assumption); (case hu => walk_at "mine units"); (case eu => first | exact rfl | exact (List.reverse_cons).symm); k_whole)))
local macro_rules | `(tactic| walk_at "newTuple") => `(tactic| (k_here; k_dflt (refine' tuple_call (by k_asm) (by k_asm) (by exact Nat.le_of_ble_eq_true rfl) ?_; k_whole); intro D' h' F' N' l1; (try k_lt l1); (try k_sweep)))
theorem due_news {h₀ h : Heap} {L mo D K : Addr} {vs₀ bh tu : List Value} {nm : Nat} {q1 q2 q3 : Addr × Obj} {rest : Ledger}
    (N : News h₀ L h ((mo, listOf (vs₀.reverse ++ [Value.ref D]).toArray nm) :: (D, tupOf tu) :: (K, listOf (List.toArray bh) 0) :: q1 :: q2 :: q3 :: rest)) :
    News h₀ L h ((mo, listOf (List.reverse (Value.ref D :: vs₀)).toArray nm) :: (rest ++ [(D, tupOf tu), (K, listOf (List.toArray bh) 0)])) := by
  refine newsSub N fun p hp => ?_
  rw [List.reverse_cons] at hp
  rcases List.mem_cons.mp hp with rfl | hp
  · exact .head _
  rcases List.mem_append.mp hp with hp | hp
  · exact .tail _ (.tail _ (.tail _ (.tail _ (.tail _ (.tail _ hp)))))
  rcases List.mem_cons.mp hp with rfl | hp
  · exact .tail _ (.head _)
  rcases List.mem_cons.mp hp with rfl | hp
  · exact .tail _ (.tail _ (.head _))
  · cases hp
theorem due_md {M : Nat} {D aa K : Addr} {t3 : Tok} {x : AF} {vs₀ bh tv sv : List Value} {xs₀ : List AF} {na : Nat} {g : Hd} {v : Value} {d : PyData} {rest : Ledger} (hb : ∃ tn, bh = behind g.dep g.fin sv v tn) (hv : Carried v d)
    (q2 : (aa, listOf (List.toArray tv) na) ∈ rest) (q3 : HdsIn rest tv x.hs) (q5 : CarriedAll sv x.sv) (q6 : sv.length ≤ M) (q7 : tv.length ≤ 1000) (hr : MdsIn M rest vs₀ xs₀) :
    MdsIn (M + 2) (rest ++ [(D, tupOf [.ref aa, .ref K, .int g.hi t3, .bool x.fl]), (K, listOf (List.toArray bh) 0)]) (Value.ref D :: vs₀) (⟨x.hs, behindD g.dep g.fin x.sv d, g.hi, x.fl⟩ :: xs₀) := by
  obtain ⟨tn, rfl⟩ := hb
  refine .cons ⟨D, aa, K, tv, na, behind g.dep g.fin sv v tn, 0, t3, rfl, List.mem_append_right _ (.head _), List.mem_append_left _ q2, q3.mono fun p hp => List.mem_append_left _ hp, List.mem_append_right _ (.tail _ (.head _)), carried_behind q5 hv, ?_, q7⟩
    (hr.mono (fun p hp => List.mem_append_left _ hp) (Nat.le_add_right _ _))
  exact Nat.le_trans behind_len (Nat.add_le_add_right q6 2)
theorem due_fresh {D K mo a1 a2 a3 b1 b2 b3 b4 : Addr} {o o1 o2 : Obj} {rest : Ledger} (l1 : @LT.lt Nat _ a1 K ∧ @LT.lt Nat _ a2 K ∧ @LT.lt Nat _ a3 K ∧ @LT.lt Nat _ mo K ∧ AllLt K rest)
    (l2 : @LT.lt Nat _ b1 D ∧ @LT.lt Nat _ b2 D ∧ @LT.lt Nat _ b3 D ∧ @LT.lt Nat _ b4 D ∧ @LT.lt Nat _ mo D ∧ AllLt D rest) : ∀ q ∈ (mo, o) :: rest, ∀ p ∈ [(D, o1), (K, o2)], @LT.lt Nat _ q.1 p.1 := by
  obtain ⟨-, -, -, k1, k2⟩ := l1
  obtain ⟨-, -, -, -, d1, d2⟩ := l2
  intro q hq p hp
  rcases List.mem_cons.mp hp with rfl | hp
  · rcases List.mem_cons.mp hq with rfl | hq
    · exact d1
    · exact tb_ltOf d2 q hq
  rcases List.mem_cons.mp hp with rfl | hp
  · rcases List.mem_cons.mp hq with rfl | hq
    · exact k1
    · exact tb_ltOf k2 q hq
  · cases hp
section
variable {w : World} {mean : ExcName → Option Value} {mg mb : Str → Option Value} {dp un : Nat} {gd : Option (List Code)} {cn : Str} {cs : Scope} {a : Addr} {ccd : Value} {cl : List (Str × Addr)} {outer : List Env}
    {A₀ : Around} {base h₀ : Heap} {L : Addr} {m : Str → Option Value} {s : Shared} {Q : Value → Shared → Prop} {E : Value → Shared → Prop}
def DJ (mo M : Nat) (rafs : List AF) (rest imm : Ledger) (v : Value) (d : PyData) (n : Nat) (m : Str → Option Value) (nx : Ledger) : Prop :=
  ∃ rv r nm, rv.length = n ∧ MdsIn M imm rv r ∧ r <:+ rafs ∧ stepR d rafs = stepR d r ∧ nx = (mo, listOf rv.reverse.toArray nm) :: rest ∧ m (Str.ofString "model") = some (.ref mo) ∧ m (Str.ofString "value") = some v
set_option maxHeartbeats 8000000 in
theorem due0 {mo : Addr} {nm M : Nat} {rv : List Value} {rafs : List AF} {rest imm : Ledger} {v : Value} {d : PyData}
    (B : Below A₀ base outer h₀) (F : Fr h₀ L s.heap m) (X : (hd.heap_39 w.params).In h₀) (T : Top hd.view_39 (looseW hd.view_39 []) mean mg mb h₀) (hk : cs.kind = .function) (hd : dp + 4 < recursionLimit) (hu : un + 100 < cLine)
    (N : News h₀ L s.heap ((mo, listOf rv.reverse.toArray nm) :: rest)) (hmd : MdsIn M imm rv rafs) (himm : ∀ p ∈ imm, p ∈ rest) (hM : M ≤ 10000) (hlen : rv.length ≤ 10) (hok : ∀ x ∈ rafs, AfOk x) (hoff : ∀ q ∈ rest, q.1 ≠ mo) (hv : Carried v d)
    (hret : ∀ rv' nm' tl h' tk', Fr h₀ L h' m → News h₀ L h' ((mo, listOf (List.reverse rv').toArray nm') :: (rest ++ tl)) → MdsIn (M + 2) (imm ++ tl) rv' (stepR d rafs).2 → (∀ q ∈ (mo, listOf rv.reverse.toArray nm) :: rest, ∀ p ∈ tl, @LT.lt Nat _ q.1 p.1) → Q (.bool (stepR d rafs).1) { s with heap := h', toks := tk' }) :
    wpAny (model PySem.Challenge.rw_nt0342_01.row.prog w) (ktrTop dp un gd cn cs L a ccd cl outer) (call (.ref 145) [.ref mo, v]) Q E s := by
  revert X; k_fill; intro X
  refine wpAny_call ?_
  k_dflt ktr_enter
  k_steps
  unfold Stop
  refine While_inv2 (DJ mo M rafs rest imm v d) (n₀ := rv.length) (by assumption) (by assumption) ⟨rv, rafs, nm, rfl, hmd, List.suffix_refl _, rfl, rfl, rfl, rfl⟩ ?turn
  case turn =>
    rintro n m₁ nx h₁ tk₁ F₁ N₁ ⟨rv₁, r, nm₁, rfl, hmd₁, hsuf, hstep, rfl, e1, e2⟩
    have hok₁ : ∀ x ∈ r, AfOk x := fun x hx => hok x (hsuf.mem hx)
    have hlen₁ : rv₁.length ≤ 10 := by rw [hmd₁.length]; have := hsuf.length_le; rw [hmd.length] at hlen; omega
    rcases hmd₁ with _ | ⟨hx, hr⟩
    · have hmd₂ : MdsIn M rest [] [] := .nil
      try k_fold
      k_steps
      rw [show stepR d rafs = (false, []) from hstep] at hret
      refine hret [] nm₁ [] _ _ (by assumption) (newsSub (by assumption) fun p hp => ?_) .nil (fun _ _ _ h => nomatch h)
      rw [List.append_nil] at hp
      rcases List.mem_cons.mp hp with rfl | hp
      · exact .tail _ (.head _)
      · exact .tail _ (.tail _ hp)
    · rename_i v₀ x₀ vs₀ xs₀
      have hX := hok₁ x₀ (.head _)
      have hmd₂ : MdsIn M rest (v₀ :: vs₀) (x₀ :: xs₀) := (MdsIn.cons hx hr).mono himm (Nat.le_refl _)
      obtain ⟨p, aa, k, tv, na, sv, nk, tp, rfl, r1, r2, r3, r4, q5, q6, q7⟩ := hx
      have q1 := himm _ r1
      have q2 := himm _ r2
      have q3 := r3.mono himm
      have q4 := himm _ r4
      obtain ⟨aft, dep, lay, deep⟩ := hX
      have hlen₂ : vs₀.reverse.length ≤ 10 := by simp only [List.length_reverse]; simp only [List.length_cons] at hlen₁; omega
      simp only [List.reverse_cons] at N₁
      try k_fold
      k_steps
      · rename (List.isEmpty _ = true) => hno
        cases hno
      · rw [show stepR d rafs = _ from hstep.trans (stepR_hit (by assumption))] at hret
        rename News _ _ _ _ => kN9
        rename (_ = true) => hfin
        exact hret _ nm₁ _ _ _ (by assumption) (due_news kN9) (due_md ⟨_, by rw [hfin]; rfl⟩ hv r2 r3 q5 q6 q7 hr) (due_fresh (by assumption) (by assumption))
      · rw [show stepR d rafs = _ from hstep.trans (stepR_hit (by assumption))] at hret
        rename News _ _ _ _ => kN9
        rename (_ = false) => hfin
        exact hret _ nm₁ _ _ _ (by assumption) (due_news kN9) (due_md ⟨0, by rw [hfin]; rfl⟩ hv r2 r3 q5 q6 q7 hr) (due_fresh (by assumption) (by assumption))
      · rw [show stepR d rafs = _ from hstep.trans (stepR_floor (by assumption) (by assumption))] at hret
        refine hret vs₀ (nm₁ + 1) [] _ _ (by assumption) (newsSub (by assumption) fun p hp => ?_) (by rw [List.append_nil]; exact hr.mono (fun _ h => h) (Nat.le_add_right _ _)) (fun _ _ _ h => nomatch h)
        rw [List.append_nil] at hp
        rcases List.mem_cons.mp hp with rfl | hp
        · exact .head _
        · exact .tail _ (.tail _ hp)
      · refine ⟨_, _, _, _, vs₀.length, rfl, by assumption, newsSub (by assumption) (l' := (mo, listOf vs₀.reverse.toArray (nm₁ + 1)) :: rest) fun p hp => ?_, Nat.lt_succ_self _, vs₀, xs₀, nm₁ + 1, rfl, hr, List.IsSuffix.trans (List.suffix_cons _ _) hsuf, hstep.trans (stepR_pop (by assumption) (by assumption)), rfl, by walk_at "mine look", by walk_at "mine look"⟩
        rcases List.mem_cons.mp hp with rfl | hp
        · exact .head _
        · exact .tail _ (.tail _ hp)
end
-- M14
/-! ### a comprehension, by what holds between its turns -/
section
open PyProof.Rows.LCg
variable {prog : Program} {w : World} {A : Around} {s : Shared} {h₀ : Heap} {L : Addr} {m : Str → Option Value} {env : Env}
theorem compEnd_mono {s₁ s₂ : Shared} {I C D : Addr} {oI oC oD : Obj} {S : Ledger → Prop} {r r' : Value → Ledger → Prop} {y : Value} (h : CompEnd h₀ L m s₁ I oI C oC D oD S r y s₂) (hr : ∀ n, S n → r y n → r' y n) : CompEnd h₀ L m s₁ I oI C oC D oD S r' y s₂ := by
  obtain ⟨h', tk, news', e, F, N, off, hS, q⟩ := h
  exact ⟨h', tk, news', e, F, N, off, hS, hr _ hS q⟩
theorem compJ {elt : Expr} {x : Str} {scope : Scope} {cl : List (Str × Addr)} {S : Ledger → Prop} {P : Nat → Value → Prop} {Fin : List Value → Ledger → Prop} {n : Nat} (J : Nat → List Value → Ledger → Prop)
    (turn : ∀ i ys nx v I oI C oC D m₂ h tk (E' : Value → Shared → Prop), i < n → J i ys nx → P i v → NsObj oC m₂ → m₂ x = some v → Fr h₀ L h m → News h₀ L h ((I, oI) :: (C, oC) :: (D, lst ys) :: nx) → Off3 I C D nx → ((@Ne Nat I C) ∧ (@Ne Nat I D) ∧ (@Ne Nat C D)) →
      wpAny (model prog w) A (eval elt (compEnvC scope cl C env)) (CompEnd h₀ L m { s with heap := h, toks := tk } I oI C oC D (lst ys) S (fun y news' => J (i + 1) (ys ++ [y]) news')) E' { s with heap := h, toks := tk })
    (done : ∀ ys nx, J n ys nx → Fin ys nx) : ∀ k i ys nx, i + k = n → J i ys nx → CompRest prog w A h₀ L m env elt x scope cl s S P Fin k i ys nx := by
  intro k
  induction k with
  | zero =>
    intro i ys nx e hj
    have e' : i = n := e
    subst e'
    exact CompRest.zero (done ys nx hj)
  | succ k ih =>
    intro i ys nx e hj
    refine CompRest.succ fun v I oI C oC D m₂ h tk E' hP hC hx F N off ne => wpAny_mono (turn i ys nx v I oI C oC D m₂ h tk E' (by omega) hj hP hC hx F N off ne) (fun y s₂ p => ?_) fun _ _ e => e
    exact compEnd_mono p fun nw _ q => ih (i + 1) (ys ++ [y]) nw (by omega) q
theorem off3_cons {I C D : Addr} {q : Addr × Obj} {l : Ledger} (h : Off3 I C D l) (h1 : @Ne Nat q.1 I) (h2 : @Ne Nat q.1 C) (h3 : @Ne Nat q.1 D) : Off3 I C D (q :: l) := ⟨⟨h1, h2, h3⟩, h⟩
end
theorem comp_end {h₀ h' : Heap} {L I C D D' : Addr} {m : Str → Option Value} {s₁ : Shared} {oI oC oD o : Obj} {S : Ledger → Prop} {r : Value → Ledger → Prop} {y : Value} {tk : Nat} {nx : Ledger}
    (F : Fr h₀ L h' m) (N : News h₀ L h' ((D', o) :: (I, oI) :: (C, oC) :: (D, oD) :: nx)) (off : LCg.Off3 I C D nx) (l1 : @LT.lt Nat _ I D' ∧ @LT.lt Nat _ C D' ∧ @LT.lt Nat _ D D' ∧ AllLt D' nx) (hS : S ((D', o) :: nx)) (hr : r y ((D', o) :: nx)) :
    LCg.CompEnd h₀ L m s₁ I oI C oC D oD S r y { s₁ with heap := h', toks := tk } := by
  refine LCg.CompEnd.intro F N ((D', o) :: nx) (fun p hp => ?_) (off3_cons off (Nat.ne_of_gt l1.1) (Nat.ne_of_gt l1.2.1) (Nat.ne_of_gt l1.2.2.1)) hS hr
  rcases List.mem_cons.mp hp with rfl | hp
  · exact .tail _ (.head _)
  rcases List.mem_cons.mp hp with rfl | hp
  · exact .tail _ (.tail _ (.head _))
  rcases List.mem_cons.mp hp with rfl | hp
  · exact .tail _ (.tail _ (.tail _ (.head _)))
  rcases List.mem_cons.mp hp with rfl | hp
  · exact .head _
  · exact .tail _ (.tail _ (.tail _ (.tail _ hp)))
theorem take_next {α : Type} {l : List α} {i : Nat} {x : α} (h : l[i]? = some x) : l.take (i + 1) = l.take i ++ [x] := by rw [List.take_add_one, h]; rfl
theorem MdsIn.append {M : Nat} {l : Ledger} {vs us : List Value} {xs ys : List AF} (H : MdsIn M l vs xs) (K : MdsIn M l us ys) : MdsIn M l (vs ++ us) (xs ++ ys) := by
  induction H with
  | nil => exact K
  | cons a _ ih => exact .cons a ih
theorem MdsIn.reverse {M : Nat} {l : Ledger} {vs : List Value} {xs : List AF} (H : MdsIn M l vs xs) : MdsIn M l vs.reverse xs.reverse := by
  induction H with
  | nil => exact .nil
  | cons a _ ih => rw [List.reverse_cons, List.reverse_cons]; exact ih.append (.cons a .nil)
local macro_rules | `(tactic| walk_at "CompSrc") => `(tactic| (k_here; refine Stop.mk ?_))
local macro_rules | `(tactic| walk_at "CompEnd") => `(tactic| (refine Stop.mk ?_))
section
variable {w : World} {mean : ExcName → Option Value} {mg mb : Str → Option Value} {dp un : Nat} {gd : Option (List Code)} {cn : Str} {cs : Scope} {a : Addr} {ccd : Value} {cl : List (Str × Addr)} {outer : List Env}
    {A₀ : Around} {base h₀ : Heap} {L : Addr} {m : Str → Option Value} {s : Shared} {Q : Value → Shared → Prop} {E : Value → Shared → Prop}
def TJ (M : Nat) (fds : List FD) (bs : Ledger) (i : Nat) (ys : List Value) (nx : Ledger) : Prop :=
  ∃ tl, nx = tl ++ bs ∧ MdsIn M nx ys ((fds.take i).map FD.abs)
set_option maxHeartbeats 8000000 in
theorem told0 {fr : Addr} {nf M : Nat} {rfds : List FD} {rest : Ledger}
    (B : Below A₀ base outer h₀) (F : Fr h₀ L s.heap m) (X : (hd.heap_39 w.params).In h₀) (T : Top hd.view_39 (looseW hd.view_39 []) mean mg mb h₀) (hk : cs.kind = .function) (hd : dp + 4 < recursionLimit) (hu : un + 40 < cLine)
    (N : News h₀ L s.heap ((fr, listOf ((rfds.map FD.ref).reverse).toArray nf) :: (rfds.flatMap FD.muts ++ rest))) (hok : ∀ x ∈ rfds, FdIn M rest x) (hlen : rfds.length ≤ 10)
    (hret : ∀ l rv tl h' tk', Fr h₀ L h' m → News h₀ L h' ((l, listOf (List.reverse rv).toArray rv.length) :: (tl ++ ((fr, listOf ((rfds.map FD.ref).reverse).toArray nf) :: (rfds.flatMap FD.muts ++ rest)))) →
      MdsIn M (tl ++ ((fr, listOf ((rfds.map FD.ref).reverse).toArray nf) :: (rfds.flatMap FD.muts ++ rest))) rv (rfds.map FD.abs) → Q (.ref l) { s with heap := h', toks := tk' }) :
    wpAny (model PySem.Challenge.rw_nt0342_01.row.prog w) (ktrTop dp un gd cn cs L a ccd cl outer) (call (.ref 150) [.ref fr]) Q E s := by
  revert X; k_fill; intro X
  refine wpAny_call ?_
  k_dflt ktr_enter
  k_steps
  unfold Stop
  generalize hbs : (fr, listOf ((rfds.map FD.ref).reverse).toArray nf) :: (rfds.flatMap FD.muts ++ rest) = bs at *
  have hfr : (fr, listOf ((rfds.map FD.ref).reverse).toArray nf) ∈ bs := hbs ▸ .head _
  refine LCg.CompSrc.ledger (by rfl) (by assumption) (by assumption) hfr (size_ok (by simp only [List.length_reverse, List.length_map]; omega)) ?_
  intro g
  have hsize : ((rfds.map FD.ref).reverse).toArray.size = rfds.reverse.length := by simp
  refine compJ (TJ M rfds.reverse bs) ?turn ?done _ 0 [] bs (Nat.zero_add _) ⟨[], rfl, .nil⟩
  case done =>
    rintro ys nx ⟨tl, rfl, hmd⟩
    rw [hsize, List.take_length] at hmd
    k_steps
    refine hret _ ys.reverse tl _ _ (by assumption) (by rw [List.reverse_reverse, List.length_reverse]; assumption) ?_
    have q := hmd.reverse
    rw [← List.map_reverse, List.reverse_reverse] at q
    exact q
  case turn =>
    rintro i ys nx v I oI C oC D m₂ h₁ tk₁ E' hi ⟨tl, rfl, hmd⟩ hP hC hx F₁ N₁ off ne
    rw [hsize] at hi
    obtain ⟨x, hxi⟩ : ∃ x, rfds.reverse[i]? = some x := ⟨_, List.getElem?_eq_getElem hi⟩
    have hxm : x ∈ rfds := List.mem_reverse.mp (List.mem_of_getElem? hxi)
    have hv : v = .ref x.f := by
      have e : ((rfds.map FD.ref).reverse).toArray[i]? = some v := hP
      rw [List.getElem?_toArray, ← List.map_reverse, List.getElem?_map, hxi] at e
      exact (Option.some.inj e).symm
    subst hv
    obtain ⟨hf, hu', hud, ht, hin, aft, dep, gU, gK, gP, gF, gH, len, car, small, many⟩ := hok x hxm
    have sub1 : ∀ p ∈ rfds.flatMap FD.muts ++ rest, p ∈ bs := fun p hp => hbs ▸ .tail _ hp
    have hm1 : (x.fd, dictOf x.es x.n) ∈ bs := sub1 _ (List.mem_append_left _ (List.mem_flatMap.mpr ⟨x, hxm, .head _⟩))
    have hm2 : (x.k, listOf x.sv.toArray x.nk) ∈ bs := sub1 _ (List.mem_append_left _ (List.mem_flatMap.mpr ⟨x, hxm, .tail _ (.head _)⟩))
    have hm3 : (x.f, instObj 59 x.fd) ∈ bs := sub1 _ (List.mem_append_right _ hf)
    have hm4 : (x.u, instObj 108 x.ud) ∈ bs := sub1 _ (List.mem_append_right _ hu')
    have hm5 : (x.ud, dictOf x.us x.un) ∈ bs := sub1 _ (List.mem_append_right _ hud)
    have hm6 : (x.t, listOf x.tv.toArray x.nt) ∈ bs := sub1 _ (List.mem_append_right _ ht)
    try k_fold
    k_steps
    unfold Stop
    have up : ∀ p ∈ bs, ∀ q : Addr × Obj, p ∈ q :: (tl ++ bs) := fun p hp q => .tail _ (List.mem_append_right _ hp)
    refine comp_end (by assumption) (by assumption) off (by assumption) (.inr ⟨_, up _ hfr _, rfl, _, rfl⟩) ⟨_ :: tl, rfl, ?_⟩
    rw [take_next hxi, List.map_append]
    refine (hmd.mono (fun p hp => .tail _ hp) (Nat.le_refl _)).append (.cons ?_ .nil)
    exact ⟨_, x.t, x.k, x.tv, x.nt, x.sv, x.nk, x.tp, rfl, .head _, up _ hm6 _, hin.mono fun p hp => up _ (sub1 _ (List.mem_append_right _ hp)) _, up _ hm2 _, car, small, many⟩
end
-- M15
theorem pick_nil {t : Addr} {n : Nat} {l r : Ledger} (h : Pick (t, listOf #[] n) l r) : Pick (t, listOf (List.toArray []) n) l r := h
theorem news_two {h₀ h : Heap} {L : Addr} {q1 q2 : Addr × Obj} {l l' : Ledger} (N : News h₀ L h l) (h1 : q1 ∈ l) (h2 : q2 ∈ l) (hs : ∀ p ∈ l', p ∈ l) : News h₀ L h (q1 :: q2 :: l') := newsSub N fun p hp => by
  rcases List.mem_cons.mp hp with rfl | hp
  · exact h1
  rcases List.mem_cons.mp hp with rfl | hp
  · exact h2
  · exact hs p hp
theorem rep_sz {x : Int} {v : Value} (h : x ≤ 1000) : (#[v] : Array Value).size * x.toNat ≤ 2 ^ 24 := by
  have h1 : x.toNat ≤ 1000 := by omega
  show 1 * x.toNat ≤ 2 ^ 24
  rw [Nat.one_mul]
  exact Nat.le_trans h1 (by decide)
theorem rep_fold (v : Value) : ∀ (k : Nat) (acc : List Value), List.foldl (fun x1 x2 => x1 ++ x2) acc.toArray (List.replicate k #[v]) = (acc ++ List.replicate k v).toArray
  | 0, acc => by simp
  | k + 1, acc => by
    rw [List.replicate_succ, List.foldl_cons]
    have e : acc.toArray ++ #[v] = (acc ++ [v]).toArray := by simp
    rw [e, rep_fold v k (acc ++ [v]), List.replicate_succ, List.append_assoc]; rfl
section
variable {prog : Program} {w : World} {A : Around} {E : Value → Shared → Prop} {s : Shared} {h₀ : Heap} {L : Addr} {m : Str → Option Value}
theorem rep_call {l : Addr} {v : Value} {n : Nat} {x : Int} {u : Tok} {news : Ledger} {Q : Value → Shared → Prop} (F : Fr h₀ L s.heap m) (N : News h₀ L s.heap news) (hl : (l, listOf #[v] n) ∈ news) (hx0 : 0 ≤ x) (hx1 : x ≤ 1000)
    (h : ∀ D h', Fr h₀ L h' m → News h₀ L h' ((D, listOf (List.replicate x.toNat v).toArray 0) :: news) → (∀ p ∈ news, p.1 < D) → Q (.ref D) { s with heap := h' }) : wpAny (model prog w) A (binaryOp .Mult (.ref l) (.int x u)) Q E s := by
  refine mul_list F N (N _ hl).1 (Int.le_trans (by decide) hx0) (Int.lt_of_le_of_lt hx1 (by decide)) (rep_sz hx1) fun h' F' N' => h _ h' F' ?_ fun p hp => Heap.lt_size (N p hp).1
  have e := rep_fold v x.toNat []
  rw [List.nil_append] at e
  have e2 : (if (#[v] : Array Value).isEmpty = true then 0 else x.toNat) = x.toNat := by simp
  rw [e2, e] at N'
  exact N'
end
local macro_rules | `(tactic| walk_at "call ref") => `(tactic| (k_here; (with_reducible show wpAny _ _ (call (Value.ref 126) [Value.ref _, Value.int _ _, Value.int _ _, Value.int 2 _, Value.ref _]) _ _ _); walk_at "mine blk"))
local macro_rules | `(tactic| walk_at "mine blk") => `(tactic| (k_dflt (refine' block_all _ (by k_asm) (by k_asm) (by k_asm) (by k_asm) (by first | exact rfl | assumption) ?hd ?hu ?N ?P1 ?P2 ?hsl ?hi ?hln ?hb ?ht ?htb ?hx ?hz ?hcap ?hd0 ?hd1 ?_; (case N => k_asm); (case P1 => walk_at "mine pick"); (case P2 => (with_unfolding_all refine' pick_nil ?a; (case a => walk_at "mine pick"))); (case hsl => k_mem); (case hi => assumption); (case hln => assumption); (case hb => k_all); (case ht => k_all); (case htb => first | assumption | omega); (case hx => assumption); (case hz => exact rfl); (case hcap => decide); (case hd0 => decide); (case hd1 => decide); (case hd => walk_at "mine room"); (case hu => walk_at "mine units"); k_whole); intro x' new' hs' nt' tl' at' ta' h' tk' F' N' hx' ht' hin' hln' hne' had'; (simp only [List.cons_append, List.nil_append] at N'); (try dsimp only); (try k_fold); (try k_sweep)))
local macro_rules | `(tactic| walk_at "binaryOp Mult ref int") => `(tactic| (k_here; (with_reducible show wpAny _ _ (binaryOp Operator.Mult (Value.ref _) (Value.int _ _)) _ _ _); k_dflt (refine' rep_call (by k_asm) (by k_asm) (by k_mem) (by omega) (by omega) ?_; k_whole); intro D' h' F' N' l1; (try k_lt l1); (try k_sweep)))
local macro_rules | `(tactic| walk_at "mine subc") => `(tactic| first | (walk_at "mine sub") | ((rename _ ∈ _ :: _ => hpC9); (rcases List.mem_cons.mp hpC9 with hpD9 | hpD9); (· (subst hpD9; k_mem)); (· (clear hpC9; walk_at "mine subc"))))
section
variable {w : World} {mean : ExcName → Option Value} {mg mb : Str → Option Value} {dp un : Nat} {gd : Option (List Code)} {cn : Str} {cs : Scope} {a : Addr} {ccd : Value} {cl : List (Str × Addr)} {outer : List Env}
    {A₀ : Around} {base h₀ : Heap} {L : Addr} {m : Str → Option Value} {s : Shared} {Q : Value → Shared → Prop} {E : Value → Shared → Prop}
set_option maxHeartbeats 2000000 in
theorem unit0 {nm : Str} {tn : Tok} {ps : Addr} {news : Ledger}
    (B : Below A₀ base outer h₀) (F : Fr h₀ L s.heap m) (X : (hd.heap_39 w.params).In h₀) (T : Top hd.view_39 (looseW hd.view_39 []) mean mg mb h₀) (hk : cs.kind = .function) (hd : dp + 4 < recursionLimit) (hu : un + 40 < cLine)
    (N : News h₀ L s.heap news)
    (hret : ∀ u ud us n o t1 t2 h' tk', Fr h₀ L h' m → News h₀ L h' ((u, instObj 108 ud) :: (ud, dictOf us n) :: news) → (∀ p ∈ news, @LT.lt Nat _ p.1 ud) → @LT.lt Nat _ ud u → getL (Str.ofString "handlers") us = some (some o) → getL (Str.ofString "local_count") us = some (some (.int 0 t1)) → getL (Str.ofString "cell_count") us = some (some (.int 0 t2)) → us.length ≤ 100 →
      Q (.ref u) { s with heap := h', toks := tk' }) :
    wpAny (model PySem.Challenge.rw_nt0342_01.row.prog w) (ktrTop dp un gd cn cs L a ccd cl outer) (call (.ref 108) [.str nm tn, .ref ps]) Q E s := by
  revert X; k_fill; intro X
  k_steps
  all_goals (try k_data)
  refine hret _ _ _ _ _ _ _ _ _ (by assumption) (news_two (by assumption) (by k_mem) (by k_mem) (by intro p hp; walk_at "mine sub")) (by assumption) (by assumption) (by k_dflt k_get) (by k_dflt k_get) (by k_dflt k_get) (Nat.le_of_ble_eq_true rfl)
set_option maxHeartbeats 2000000 in
theorem newframe0 {u ud ups : Addr} {us : List DictEntry} {n : Nat} {t1 t2 : Tok} {rest : Ledger}
    (B : Below A₀ base outer h₀) (F : Fr h₀ L s.heap m) (X : (hd.heap_39 w.params).In h₀) (T : Top hd.view_39 (looseW hd.view_39 []) mean mg mb h₀) (hk : cs.kind = .function) (hd : dp + 6 < recursionLimit) (hu : un + 60 < cLine)
    (N : News h₀ L s.heap ((u, instObj 108 ud) :: (ud, dictOf us n) :: rest)) (g1 : getL (Str.ofString "local_count") us = some (some (.int 0 t1))) (g2 : getL (Str.ofString "cell_count") us = some (some (.int 0 t2)))
    (hret : ∀ f fd es n' k tp h' tk', Fr h₀ L h' m → News h₀ L h' ((f, instObj 59 fd) :: (fd, dictOf es n') :: (u, instObj 108 ud) :: (ud, dictOf us n) :: rest) → (∀ p ∈ (u, instObj 108 ud) :: (ud, dictOf us n) :: rest, @LT.lt Nat _ p.1 fd) → @LT.lt Nat _ fd f →
      getL (Str.ofString "unit") es = some (some (.ref u)) → getL (Str.ofString "stack") es = some (some k) → getL (Str.ofString "pc") es = some (some (.int 0 tp)) → getL (Str.ofString "is_floor") es = some (some (.bool false)) → es.length ≤ 100 → Q (.ref f) { s with heap := h', toks := tk' }) :
    wpAny (model PySem.Challenge.rw_nt0342_01.row.prog w) (ktrTop dp un gd cn cs L a ccd cl outer) (call (.ref 59) [.ref u, .ref ups, .none]) Q E s := by
  revert X; k_fill; intro X
  k_steps
  all_goals (try k_data)
  unfold Stop
  refine iter_rangeUnr (n := 0) rfl (by assumption) (by decide) (by decide) (by assumption) (by assumption) (fun I hI => RangeRest.zero fun h₁ tk₁ F₁ N₁ => ?_)
  dsimp only [envOf] at F₁ N₁
  dsimp only
  k_steps
  all_goals (try k_data)
  refine hret _ _ _ _ _ _ _ _ (by assumption) (news_two (by assumption) (by k_mem) (by k_mem) (by intro p hp; walk_at "mine subc")) (List.forall_mem_cons.mpr ⟨by dsimp only; omega, List.forall_mem_cons.mpr ⟨by dsimp only; omega, fun p hp => tb_ltOf (by tbn_find) p hp⟩⟩) (by assumption) (by k_dflt k_get) (by k_dflt k_get) (by k_dflt k_get) (by k_dflt k_get) (Nat.le_of_ble_eq_true rfl)
end
-- M16
theorem str_lit (x : String) : PyData.strOk (Str.ofString x) = true := by
  rw [Str.ofString_eq_toList]
  unfold PyData.strOk
  simp only [List.all_toArray, List.all_map, List.all_eq_true]
  intro c _
  have h := c.valid
  have h2 : c.toNat < 0x110000 := by
    rcases h with h | h
    · exact Nat.lt_trans h (by decide)
    · exact h.2
  simpa using h2
theorem str_app {x y : Str} (h : PyData.strOk x = true) (k : PyData.strOk y = true) : PyData.strOk (x ++ y) = true := by
  unfold PyData.strOk at *
  show (x.cps ++ y.cps).all _ = true
  rw [Array.all_append, h, k]; rfl
theorem lay_app : ∀ {xs ys : List PyData}, PyData.canLayAll0 xs = true → PyData.canLayAll0 ys = true → PyData.canLayAll0 (xs ++ ys) = true
  | [], _, _, h => h
  | x :: xs, ys, h, k => by
    have h' : PyData.canLay0 x = true ∧ PyData.canLayAll0 xs = true := by simpa [PyData.canLayAll0] using h
    show PyData.canLayAll0 (x :: (xs ++ ys)) = true
    unfold PyData.canLayAll0
    rw [h'.1, lay_app h'.2 k]; rfl
theorem dep_app : ∀ {xs ys : List PyData}, PyData.depthAll xs = 0 → PyData.depthAll ys = 0 → PyData.depthAll (xs ++ ys) = 0
  | [], _, _, h => h
  | x :: xs, ys, h, k => by
    have h' : max (PyData.depth x) (PyData.depthAll xs) = 0 := by simpa [PyData.depthAll] using h
    show PyData.depthAll (x :: (xs ++ ys)) = 0
    unfold PyData.depthAll
    rw [dep_app (by omega) k]; omega
def FrameGot (h₀ : Heap) (L : Addr) (m : Str → Option Value) (Q : Value → Shared → Prop) (s : Shared) (b : Addr) (ob' : Obj) (old : Ledger) : Prop :=
  ∀ p (D : FD) sz ts tl h' tk', FdIn 10 tl D → AfOk D.abs → (∀ q ∈ (b, ob') :: old, q.1 ≠ D.fd ∧ q.1 ≠ D.k) → @Ne Nat D.fd D.k → (∀ q ∈ tl, q.1 ≠ D.fd ∧ q.1 ≠ D.k) → (∀ a o, (a, o) ∈ (b, ob') :: old → o.cls ≠ .type "tuple" → ∀ q ∈ tl, q.1 ≠ a) →
    Fr h₀ L h' m → News h₀ L h' ((p, tupOf [.ref D.f, .int sz ts]) :: (b, ob') :: (D.muts ++ (tl ++ old))) → Q (.ref p) { s with heap := h', toks := tk' }
theorem off1_all {D : Addr} {l : Ledger} (h : LCg.Off1 D l) : ∀ p ∈ l, p.1 ≠ D := by
  induction l with
  | nil => exact fun _ h => nomatch h
  | cons p r ih =>
    have h' : (@Ne Nat p.1 D) ∧ LCg.Off1 D r := h
    exact List.forall_mem_cons.mpr ⟨h'.1, ih h'.2⟩
theorem frame_done {h₀ h' : Heap} {L : Addr} {m : Str → Option Value} {Q : Value → Shared → Prop} {s : Shared} {b sl p f fd u ud t k l D2 l2 L1 : Addr} {ob' osl ol oD ol2 oc : Obj} {rest tl : Ledger} {sz : Int} {ts tp : Tok} {es us : List DictEntry} {n un nt nk tk' : Nat} {tv sv : List Value} {hs : List Hd} {ds : List PyData} {pc : Int} {fl : Bool}
    (F : Fr h₀ L h' m) (N : News h₀ L h' ((p, tupOf [.ref f, .int sz ts]) :: (fd, dictOf es n) :: (b, ob') :: (k, listOf sv.toArray nk) :: (f, instObj 59 fd) :: (l, ol) :: (ud, dictOf us un) :: (t, listOf tv.toArray nt) :: (D2, oD) :: (u, instObj 108 ud) :: (l2, ol2) :: (L1, oc) :: (sl, osl) :: (rest ++ tl)))
    (hT : Tups tl) (hin : HdsIn tl tv hs) (hne : Nest 0 sz hs) (htv : tv.length ≤ cnt 2)
    (gU : getL (Str.ofString "unit") es = some (some (.ref u))) (gK : getL (Str.ofString "stack") es = some (some (.ref k))) (gP : getL (Str.ofString "pc") es = some (some (.int pc tp))) (gF : getL (Str.ofString "is_floor") es = some (some (.bool fl)))
    (gH : getL (Str.ofString "handlers") us = some (some (.ref t))) (len : es.length ≤ 100) (car : CarriedAll sv ds) (small : sv.length ≤ 10) (lay : PyData.canLayAll0 ds = true) (dep : PyData.depthAll ds = 0)
    (p1 : @LT.lt Nat _ l fd ∧ @LT.lt Nat _ ud fd ∧ @LT.lt Nat _ b fd ∧ @LT.lt Nat _ t fd ∧ @LT.lt Nat _ D2 fd ∧ @LT.lt Nat _ u fd ∧ @LT.lt Nat _ l2 fd ∧ @LT.lt Nat _ L1 fd ∧ @LT.lt Nat _ sl fd ∧ AllLt fd (rest ++ tl)) (q1 : @LT.lt Nat _ fd f)
    (p2 : @Ne Nat b k ∧ @Ne Nat f k ∧ @Ne Nat fd k ∧ @Ne Nat l k ∧ @Ne Nat ud k ∧ @Ne Nat t k ∧ @Ne Nat D2 k ∧ @Ne Nat u k ∧ @Ne Nat l2 k ∧ @Ne Nat L1 k ∧ @Ne Nat sl k ∧ LCg.Off1 k (rest ++ tl))
    (p6 : @LT.lt Nat _ l2 ud ∧ @LT.lt Nat _ L1 ud ∧ @LT.lt Nat _ b ud ∧ @LT.lt Nat _ sl ud ∧ AllLt ud rest) (q6 : @LT.lt Nat _ ud u)
    (p5 : ∀ q ∈ (b, ob') :: (sl, osl) :: (rest ++ tl), q.1 ≠ t)
    (hret : FrameGot h₀ L m Q s b ob' ((sl, osl) :: rest)) : Q (.ref p) { s with heap := h', toks := tk' } := by
  have cut : ∀ q ∈ (b, ob') :: (sl, osl) :: rest, q ∈ (b, ob') :: (sl, osl) :: (rest ++ tl) := fun q hq => by
    rcases List.mem_cons.mp hq with rfl | hq
    · exact .head _
    rcases List.mem_cons.mp hq with rfl | hq
    · exact .tail _ (.head _)
    · exact .tail _ (.tail _ (List.mem_append_left _ hq))
  obtain ⟨a1, a2, a3, a4, a5, a6, a7, a8, a9, a10⟩ := p1
  obtain ⟨c1, n5, n1, c4, n6, n3, c7, n9, c9, c10, c11, c12⟩ := p2
  obtain ⟨d1, d2, d3, d4, d5⟩ := p6
  have m1 : ∀ q ∈ (b, ob') :: (sl, osl) :: rest, @LT.lt Nat _ q.1 fd := fun q hq => by
    rcases List.mem_cons.mp hq with rfl | hq
    · exact a3
    rcases List.mem_cons.mp hq with rfl | hq
    · exact a9
    · exact tb_ltOf a10 q (List.mem_append_left _ hq)
  have m6 : ∀ q ∈ (b, ob') :: (sl, osl) :: rest, @LT.lt Nat _ q.1 ud := fun q hq => by
    rcases List.mem_cons.mp hq with rfl | hq
    · exact d3
    rcases List.mem_cons.mp hq with rfl | hq
    · exact d4
    · exact tb_ltOf d5 q hq
  have o1 : ∀ q ∈ (b, ob') :: (sl, osl) :: rest, q.1 ≠ fd := fun q hq => Nat.ne_of_lt (m1 q hq)
  have o3 : ∀ q ∈ (b, ob') :: (sl, osl) :: rest, q.1 ≠ f := fun q hq => Nat.ne_of_lt (Nat.lt_trans (m1 q hq) q1)
  have o4 : ∀ q ∈ (b, ob') :: (sl, osl) :: rest, q.1 ≠ ud := fun q hq => Nat.ne_of_lt (m6 q hq)
  have o6 : ∀ q ∈ (b, ob') :: (sl, osl) :: rest, q.1 ≠ u := fun q hq => Nat.ne_of_lt (Nat.lt_trans (m6 q hq) q6)
  have o5 : ∀ q ∈ (b, ob') :: (sl, osl) :: rest, q.1 ≠ t := fun q hq => p5 q (cut q hq)
  have o2 : ∀ q ∈ (b, ob') :: (sl, osl) :: rest, q.1 ≠ k := fun q hq => by
    rcases List.mem_cons.mp hq with rfl | hq
    · exact c1
    rcases List.mem_cons.mp hq with rfl | hq
    · exact c11
    · exact off1_all c12 q (List.mem_append_left _ hq)
  have n2 : @Ne Nat ud fd := Nat.ne_of_lt a2
  have n4 : @Ne Nat f fd := Nat.ne_of_gt q1
  have n7 : @Ne Nat t fd := Nat.ne_of_lt a4
  have n8 : @Ne Nat u fd := Nat.ne_of_lt a6
  have sub : ∀ q ∈ tl, q ∈ ((p, tupOf [.ref f, .int sz ts]) :: (fd, dictOf es n) :: (b, ob') :: (k, listOf sv.toArray nk) :: (f, instObj 59 fd) :: (l, ol) :: (ud, dictOf us un) :: (t, listOf tv.toArray nt) :: (D2, oD) :: (u, instObj 108 ud) :: (l2, ol2) :: (L1, oc) :: (sl, osl) :: (rest ++ tl)) := fun q hq => by
    iterate 13 refine .tail _ ?_
    exact List.mem_append_right _ hq
  have sub2 : ∀ q ∈ (b, ob') :: (sl, osl) :: rest, q ∈ ((p, tupOf [.ref f, .int sz ts]) :: (fd, dictOf es n) :: (b, ob') :: (k, listOf sv.toArray nk) :: (f, instObj 59 fd) :: (l, ol) :: (ud, dictOf us un) :: (t, listOf tv.toArray nt) :: (D2, oD) :: (u, instObj 108 ud) :: (l2, ol2) :: (L1, oc) :: (sl, osl) :: (rest ++ tl)) := fun q hq => by
    rcases List.mem_cons.mp hq with rfl | hq
    · exact .tail _ (.tail _ (.head _))
    rcases List.mem_cons.mp hq with rfl | hq
    · iterate 12 refine .tail _ ?_
      exact .head _
    · iterate 13 refine .tail _ ?_
      exact List.mem_append_left _ hq
  have e1 : ∀ q ∈ tl, q.1 ≠ fd := off_tup N hT (.tail _ (.head _)) sub dict_no
  have e2 : ∀ q ∈ tl, q.1 ≠ k := off_tup N hT (.tail _ (.tail _ (.tail _ (.head _)))) sub list_no
  have sub3 : ∀ q ∈ tl, q ∈ ((f, instObj 59 fd) :: (ud, dictOf us un) :: (t, listOf tv.toArray nt) :: (u, instObj 108 ud) :: tl : Ledger) := fun q hq => .tail _ (.tail _ (.tail _ (.tail _ hq)))
  refine hret p ⟨f, fd, u, ud, t, k, es, n, us, un, tv, nt, sv, nk, hs, ds, pc, tp, fl⟩ sz ts ((f, instObj 59 fd) :: (ud, dictOf us un) :: (t, listOf tv.toArray nt) :: (u, instObj 108 ud) :: tl) h' tk'
    ⟨.head _, .tail _ (.tail _ (.tail _ (.head _))), .tail _ (.head _), .tail _ (.tail _ (.head _)), hin.mono sub3, hne.post, fun g hg => ?_, gU, gK, gP, gF, gH, len, car, small, ?_⟩ ⟨hne.post, fun g hg => ?_, lay, dep⟩ (fun q hq => ⟨o1 q hq, o2 q hq⟩) n1 ?_ ?_ F ?_
  · have := hne.within g hg; omega
  · have : cnt 2 = 10 := rfl
    dsimp only at *; omega
  · have := hne.within g hg; omega
  · intro q hq
    rcases List.mem_cons.mp hq with rfl | hq
    · exact ⟨n4, n5⟩
    rcases List.mem_cons.mp hq with rfl | hq
    · exact ⟨n2, n6⟩
    rcases List.mem_cons.mp hq with rfl | hq
    · exact ⟨n7, n3⟩
    rcases List.mem_cons.mp hq with rfl | hq
    · exact ⟨n8, n9⟩
    · exact ⟨e1 q hq, e2 q hq⟩
  · intro a o ha ho q hq
    rcases List.mem_cons.mp hq with rfl | hq
    · exact Ne.symm (o3 _ ha)
    rcases List.mem_cons.mp hq with rfl | hq
    · exact Ne.symm (o4 _ ha)
    rcases List.mem_cons.mp hq with rfl | hq
    · exact Ne.symm (o5 _ ha)
    rcases List.mem_cons.mp hq with rfl | hq
    · exact Ne.symm (o6 _ ha)
    · exact off_tup N hT (sub2 _ ha) sub ho q hq
  · refine newsSub N fun q hq => ?_
    rcases List.mem_cons.mp hq with rfl | hq
    · exact .head _
    rcases List.mem_cons.mp hq with rfl | hq
    · exact .tail _ (.tail _ (.head _))
    rcases List.mem_append.mp hq with hq | hq
    · rcases List.mem_cons.mp hq with rfl | hq
      · exact .tail _ (.head _)
      · rw [List.mem_singleton.mp hq]
        exact .tail _ (.tail _ (.tail _ (.head _)))
    rcases List.mem_append.mp hq with hq | hq
    · rcases List.mem_cons.mp hq with rfl | hq
      · iterate 4 refine .tail _ ?_
        exact .head _
      rcases List.mem_cons.mp hq with rfl | hq
      · iterate 6 refine .tail _ ?_
        exact .head _
      rcases List.mem_cons.mp hq with rfl | hq
      · iterate 7 refine .tail _ ?_
        exact .head _
      rcases List.mem_cons.mp hq with rfl | hq
      · iterate 9 refine .tail _ ?_
        exact .head _
      · exact sub q hq
    · exact sub2 q (.tail _ hq)
section
variable {w : World} {mean : ExcName → Option Value} {mg mb : Str → Option Value} {dp un : Nat} {gd : Option (List Code)} {cn : Str} {cs : Scope} {a : Addr} {ccd : Value} {cl : List (Str × Addr)} {outer : List Env}
    {A₀ : Around} {base h₀ : Heap} {L : Addr} {m : Str → Option Value} {s : Shared} {Q : Value → Shared → Prop} {E : Value → Shared → Prop}
theorem newframe_call {u ud ups : Addr} {us : List DictEntry} {n : Nat} {t1 t2 : Tok} {news : Ledger}
    (B : Below A₀ base outer h₀) (F : Fr h₀ L s.heap m) (X : (hd.heap_39 w.params).In h₀) (T : Top hd.view_39 (looseW hd.view_39 []) mean mg mb h₀) (hk : cs.kind = .function) (hd : dp + 6 < recursionLimit) (hu : un + 60 < cLine)
    (N : News h₀ L s.heap news) (h1 : (u, instObj 108 ud) ∈ news) (h2 : (ud, dictOf us n) ∈ news) (g1 : getL (Str.ofString "local_count") us = some (some (.int 0 t1))) (g2 : getL (Str.ofString "cell_count") us = some (some (.int 0 t2)))
    (hret : ∀ f fd es n' k tp h' tk', Fr h₀ L h' m → News h₀ L h' ((f, instObj 59 fd) :: (fd, dictOf es n') :: news) → (∀ p ∈ news, @LT.lt Nat _ p.1 fd) → @LT.lt Nat _ fd f →
      getL (Str.ofString "unit") es = some (some (.ref u)) → getL (Str.ofString "stack") es = some (some k) → getL (Str.ofString "pc") es = some (some (.int 0 tp)) → getL (Str.ofString "is_floor") es = some (some (.bool false)) → es.length ≤ 100 → Q (.ref f) { s with heap := h', toks := tk' }) :
    wpAny (model PySem.Challenge.rw_nt0342_01.row.prog w) (ktrTop dp un gd cn cs L a ccd cl outer) (call (.ref 59) [.ref u, .ref ups, .none]) Q E s := by
  refine newframe0 (ud := ud) (n := n) B F X T hk hd hu (newsSub N fun p hp => ?_) g1 g2 fun f fd es n' k tp h' tk' F' N' l1 l2 g3 g4 g5 g6 g7 => hret f fd es n' k tp h' tk' F' (newsSub N' fun p hp => ?_) (fun p hp => l1 p (.tail _ (.tail _ hp))) l2 g3 g4 g5 g6 g7
  · rcases List.mem_cons.mp hp with rfl | hp
    · exact h1
    rcases List.mem_cons.mp hp with rfl | hp
    · exact h2
    · exact hp
  · rcases List.mem_cons.mp hp with rfl | hp
    · exact .head _
    rcases List.mem_cons.mp hp with rfl | hp
    · exact .tail _ (.head _)
    · exact .tail _ (.tail _ (.tail _ (.tail _ hp)))
end
local macro_rules | `(tactic| walk_at "call ref") => `(tactic| (k_here; (with_reducible show wpAny _ _ (call (Value.ref 108) [Value.str _ _, Value.ref _]) _ _ _); k_dflt (refine' unit0 (by k_asm) (by k_asm) (by k_asm) (by k_asm) (by first | exact rfl | assumption) ?hd ?hu ?N ?_; (case N => k_asm); (case hd => walk_at "mine room"); (case hu => walk_at "mine units"); k_whole); intro u' ud' us' n' o' t1' t2' h' tk' F' N' l1 l2 gh' gl' gc' ge'; (try k_lt l1); (try dsimp only); (try k_fold); (try k_sweep)))
local macro_rules | `(tactic| walk_at "call ref") => `(tactic| (k_here; (with_reducible show wpAny _ _ (call (Value.ref 59) [Value.ref _, Value.ref _, Value.none]) _ _ _); k_dflt (refine' newframe_call (by k_asm) (by k_asm) (by k_asm) (by k_asm) (by first | exact rfl | assumption) ?hd ?hu ?N ?h1 ?h2 ?g1 ?g2 ?_; (case N => k_asm); (case h1 => k_mem); (case h2 => k_mem); (case g1 => walk_at "mine getl"); (case g2 => walk_at "mine getl"); (case hd => walk_at "mine room"); (case hu => walk_at "mine units"); k_whole); intro f' fd' es' n' k' tp' h' tk' F' N' l1 l2 gU' gK' gP' gF' ge'; (try k_lt l1); (try dsimp only); (try k_fold); (try k_sweep)))
local macro_rules | `(tactic| walk_at "mine getl") => `(tactic| first | assumption | exact getL_put_same (by walk_at "mine getl") | exact getL_put_ne (by decide) (by walk_at "mine getl") (by walk_at "mine getl"))
local macro_rules | `(tactic| walk_at "mine len") => `(tactic| first | assumption | omega | (refine Nat.le_trans (Nat.le_of_eq (putL_len_same (by walk_at "mine getl"))) ?_; walk_at "mine len"))
section
variable {w : World} {mean : ExcName → Option Value} {mg mb : Str → Option Value} {dp un : Nat} {gd : Option (List Code)} {cn : Str} {cs : Scope} {a : Addr} {ccd : Value} {cl : List (Str × Addr)} {outer : List Env}
    {A₀ : Around} {base h₀ : Heap} {L : Addr} {m : Str → Option Value} {s : Shared} {Q : Value → Shared → Prop} {E : Value → Shared → Prop}
def SJ (bs : Ledger) (i : Nat) (ys : List Value) (nx : Ledger) : Prop :=
  nx = bs ∧ ys.length = i ∧ ∃ ds, CarriedAll ys ds ∧ PyData.canLayAll0 ds = true ∧ PyData.depthAll ds = 0
theorem ys10 {n : Nat} {v : Int} (h : n = (8 + v).toNat) (_ : 0 ≤ v) (_ : v < 3) : n ≤ 10 := by omega
theorem small813 {v : Int} (h0 : 0 ≤ v) (h1 : v < 3) : Builtin.Range.small 0 (8 + v) 1 = true := by
  have h : v = 0 ∨ v = 1 ∨ v = 2 := by omega
  rcases h with rfl | rfl | rfl <;> decide
theorem size813 {v : Int} (h0 : 0 ≤ v) (h1 : v < 3) : Builtin.Range.rangeSize 0 (8 + v) 1 = (((8 + v).toNat : Nat) : Int) := by
  have h : v = 0 ∨ v = 1 ∨ v = 2 := by omega
  rcases h with rfl | rfl | rfl <;> decide
set_option maxHeartbeats 4000000 in
theorem frame0 {b sl : Addr} {number : Int} {tn : Tok} {x : Bx} {nl : Nat} {vs : List Value} {ns : List Int} {rest : Ledger}
    (B : Below A₀ base outer h₀) (F : Fr h₀ L s.heap m) (X : (hd.heap_39 w.params).In h₀) (T : Top hd.view_39 (looseW hd.view_39 []) mean mg mb h₀) (hk : cs.kind = .function) (hd : dp + 10 < recursionLimit) (hu : un + 200 < cLine)
    (N : News h₀ L s.heap ((b, x.obj sl) :: (sl, listOf vs.toArray nl) :: rest)) (hi : IntsAre vs ns) (hln : ns.length ≤ 40) (hb : ∀ q ∈ rest, q.1 ≠ b) (hsb : @Ne Nat sl b) (hx : x.Ok) (hn0 : 0 ≤ number) (hn1 : number < 3)
    (hret : ∀ x' : Bx, x'.Ok → FrameGot h₀ L m Q s b (x'.obj sl) ((sl, listOf vs.toArray nl) :: rest)) :
    wpAny (model PySem.Challenge.rw_nt0342_01.row.prog w) (ktrTop dp un gd cn cs L a ccd cl outer) (call (.ref 131) [.ref b, .int number tn]) Q E s := by
  revert X; k_fill; intro X
  refine wpAny_call ?_
  k_dflt (walk_at "mine enter")
  k_steps
  all_goals (try k_data)
  unfold Stop
  rename News _ _ _ _ => kN9
  refine LCg.CompSrc.range (by rfl) (by assumption) kN9 (by assumption) (small813 (by assumption) (by assumption)) (size813 (by assumption) (by assumption)) (Nat.le_trans (m := 10) (by omega) (by decide)) ?_
  intro g
  refine compJ (SJ _) ?turn ?done _ 0 [] _ (Nat.zero_add _) ⟨rfl, rfl, [], .nil, rfl, rfl⟩
  case done =>
    rintro ys nx ⟨rfl, hlen, ds, hcar, hlay, hdep⟩
    k_steps
    all_goals (try k_data)
    refine frame_done (by assumption) (by assumption) (by assumption) (by assumption) (by assumption) (by assumption) (by walk_at "mine getl") (by walk_at "mine getl") (by walk_at "mine getl") (by walk_at "mine getl") (by walk_at "mine getl") (by walk_at "mine len") (by assumption) (ys10 hlen (by assumption) (by assumption)) (by assumption) (by assumption) (by assumption) (by assumption) (by assumption) (by assumption) (by assumption) (by walk_at "mine off") (hret _ (by assumption))
  case turn =>
    rintro i ys nx v I oI C oC D m₂ h₁ tk₁ E' hi ⟨rfl, hlen, ds, hcar, hlay, hdep⟩ hP hC hx F₁ N₁ off ne
    obtain ⟨t9, rfl⟩ := hP
    try k_fold
    k_steps
    all_goals (try k_data)
    unfold Stop
    refine LCg.CompEnd.intro (by assumption) (by assumption) _ (fun p hp => hp) off trivial ⟨rfl, by rw [List.length_append, hlen]; rfl, _, carried_app hcar (.cons (.str _ _) .nil), lay_app hlay ?_, dep_app hdep rfl⟩
    have q := str_app (str_app (str_lit "s") (str_lit (toString number))) (str_lit (toString (0 + (i : Int))))
    simpa [PyData.canLayAll0, PyData.canLay0] using q
end
-- M17
section
variable {prog : Program} {w : World} {A : Around} {s : Shared} {h₀ : Heap} {L : Addr} {m : Str → Option Value} {E : Value → Shared → Prop}
theorem copy_call {b : Addr} {vs : List Value} {n : Nat} {news : Ledger} {Q : Value → Shared → Prop} (F : Fr h₀ L s.heap m) (N : News h₀ L s.heap news) (hm : (b, listOf vs.toArray n) ∈ news) (hz : vs.length ≤ 1000000)
    (h : ∀ D c h', Fr h₀ L h' m → News h₀ L h' ((D, listOf vs.toArray c) :: news) → (∀ q ∈ news, q.1 < D) → Q (.ref D) { s with heap := h' }) : wpAny (model prog w) A (call (.type "list") [.ref b]) Q E s :=
  kup_listOf F N hm rfl h (Nat.le_trans hz (by decide))
end
theorem lay_take : ∀ {xs : List PyData} (n : Nat), PyData.canLayAll0 xs = true → PyData.canLayAll0 (xs.take n) = true
  | [], n, _ => by rw [List.take_nil]; rfl
  | x :: xs, 0, _ => rfl
  | x :: xs, n + 1, h => by
    have h' : PyData.canLay0 x = true ∧ PyData.canLayAll0 xs = true := by simpa [PyData.canLayAll0] using h
    rw [List.take_succ_cons]
    unfold PyData.canLayAll0
    rw [h'.1, lay_take n h'.2]; rfl
theorem dep_take : ∀ {xs : List PyData} (n : Nat), PyData.depthAll xs = 0 → PyData.depthAll (xs.take n) = 0
  | [], n, _ => by rw [List.take_nil]; rfl
  | x :: xs, 0, _ => rfl
  | x :: xs, n + 1, h => by
    have h' : max (PyData.depth x) (PyData.depthAll xs) = 0 := by simpa [PyData.depthAll] using h
    rw [List.take_succ_cons]
    unfold PyData.depthAll
    rw [dep_take n (by omega)]; omega
theorem stepR_ok {v : PyData} (hl : PyData.canLay0 v = true) (hd : PyData.depth v = 0) : ∀ {xs : List AF}, (∀ x ∈ xs, AfOk x) → ∀ x ∈ (stepR v xs).2, AfOk x
  | [], _, x, hx => by cases hx
  | y :: xs, h, x, hx => by
    have hy := h y (.head _)
    have hr : ∀ x ∈ xs, AfOk x := fun x hx => h x (.tail _ hx)
    cases e : findH (y.pc - 1) y.hs with
    | some g =>
      rw [stepR_hit e] at hx
      rcases List.mem_cons.mp hx with rfl | hx
      · refine ⟨hy.aft, hy.dep, ?_, ?_⟩
        · show PyData.canLayAll0 (behindD _ _ _ _) = true
          unfold behindD
          refine lay_app (lay_take _ hy.lay) ?_
          cases g.fin <;> simp [PyData.canLayAll0, PyData.canLay0, hl]
        · show PyData.depthAll (behindD _ _ _ _) = 0
          unfold behindD
          refine dep_app (dep_take _ hy.deep) ?_
          cases g.fin <;> simp [PyData.depthAll, PyData.depth, hd]
      · exact hr x hx
    | none =>
      cases f : y.fl with
      | true => rw [stepR_floor e f] at hx; exact hr x hx
      | false => rw [stepR_pop e f] at hx; exact stepR_ok hl hd hr x hx
section
variable {w : World} {mean : ExcName → Option Value} {mg mb : Str → Option Value} {dp un : Nat} {gd : Option (List Code)} {cn : Str} {cs : Scope} {a : Addr} {ccd : Value} {cl : List (Str × Addr)} {outer : List Env}
    {A₀ : Around} {base h₀ : Heap} {L : Addr} {m : Str → Option Value} {s : Shared} {Q : Value → Shared → Prop} {E : Value → Shared → Prop}
theorem frame_call {b sl : Addr} {number : Int} {tn : Tok} {x : Bx} {nl : Nat} {vs : List Value} {ns : List Int} {news n1 : Ledger}
    (B : Below A₀ base outer h₀) (F : Fr h₀ L s.heap m) (X : (hd.heap_39 w.params).In h₀) (T : Top hd.view_39 (looseW hd.view_39 []) mean mg mb h₀) (hk : cs.kind = .function) (hd : dp + 10 < recursionLimit) (hu : un + 200 < cLine)
    (N : News h₀ L s.heap news) (P : Pick (b, x.obj sl) news n1) (hsl : (sl, listOf vs.toArray nl) ∈ n1) (hi : IntsAre vs ns) (hln : ns.length ≤ 40) (hb : ∀ q ∈ n1, q.1 ≠ b) (hx : x.Ok) (hn0 : 0 ≤ number) (hn1 : number < 3)
    (hret : ∀ (x' : Bx) p (D : FD) sz ts tl h' tk', x'.Ok → FdIn 10 tl D → AfOk D.abs → (∀ q ∈ (b, x'.obj sl) :: n1, q.1 ≠ D.fd ∧ q.1 ≠ D.k) → @Ne Nat D.fd D.k → (∀ q ∈ tl, q.1 ≠ D.fd ∧ q.1 ≠ D.k) → (∀ a o, (a, o) ∈ (b, x'.obj sl) :: n1 → o.cls ≠ .type "tuple" → ∀ q ∈ tl, q.1 ≠ a) →
      Fr h₀ L h' m → News h₀ L h' ((p, tupOf [.ref D.f, .int sz ts]) :: (b, x'.obj sl) :: (D.fd, dictOf D.es D.n) :: (D.k, listOf D.sv.toArray D.nk) :: (tl ++ n1)) → Q (.ref p) { s with heap := h', toks := tk' }) :
    wpAny (model PySem.Challenge.rw_nt0342_01.row.prog w) (ktrTop dp un gd cn cs L a ccd cl outer) (call (.ref 131) [.ref b, .int number tn]) Q E s := by
  refine frame0 (rest := n1) (nl := nl) B F X T hk hd hu (newsSub (l' := (b, x.obj sl) :: (sl, listOf vs.toArray nl) :: n1) N fun p hp => (P.mem p).mpr ?_) hi hln hb (show @Ne Nat sl b from hb _ hsl) hx hn0 hn1 fun x' hx' p D sz ts tl h' tk' f1 f2 f3 f4 f5 f6 F' N' => hret x' p D sz ts tl h' tk' hx' f1 f2 (fun q hq => f3 q ?_) f4 f5 (fun a o ha => f6 a o ?_) F' (newsSub (l := (p, tupOf [.ref D.f, .int sz ts]) :: (b, x'.obj sl) :: (D.muts ++ (tl ++ ((sl, listOf vs.toArray nl) :: n1)))) N' fun q hq => ?_)
  · rcases List.mem_cons.mp hp with rfl | hp
    · exact .inl rfl
    rcases List.mem_cons.mp hp with rfl | hp
    · exact .inr hsl
    · exact .inr hp
  · rcases List.mem_cons.mp hq with rfl | hq
    · exact .head _
    · exact .tail _ (.tail _ hq)
  · rcases List.mem_cons.mp ha with e | ha
    · rw [e]; exact .head _
    · exact .tail _ (.tail _ ha)
  · rcases List.mem_cons.mp hq with rfl | hq
    · exact .head _
    rcases List.mem_cons.mp hq with rfl | hq
    · exact .tail _ (.head _)
    refine .tail _ (.tail _ ?_)
    show q ∈ (D.fd, dictOf D.es D.n) :: (D.k, listOf D.sv.toArray D.nk) :: (tl ++ ((sl, listOf vs.toArray nl) :: n1))
    rcases List.mem_cons.mp hq with rfl | hq
    · exact .head _
    rcases List.mem_cons.mp hq with rfl | hq
    · exact .tail _ (.head _)
    refine .tail _ (.tail _ ?_)
    rcases List.mem_append.mp hq with hq | hq
    · exact List.mem_append_left _ hq
    · exact List.mem_append_right _ (.tail _ hq)
end
theorem law_start {h₀ h : Heap} {L D sz fr b sl : Addr} {t1 t2 : Tok} {ws : List Value} {o : Obj} (N : News h₀ L h [(D, o), (sz, listOf #[] 0), (fr, listOf #[] 0), (b, listOf #[.ref sl, .int 0 t1, .int 3 t2] 0), (sl, listOf ws.toArray 0)]) :
    News h₀ L h [(b, (Bx.mk 0 t1 3 t2 0).obj sl), (fr, listOf #[] 0), (sz, listOf #[] 0), (sl, listOf ws.toArray 0)] := newsSub N fun p hp => by
  rcases List.mem_cons.mp hp with rfl | hp
  · exact .tail _ (.tail _ (.tail _ (.head _)))
  rcases List.mem_cons.mp hp with rfl | hp
  · exact .tail _ (.tail _ (.head _))
  rcases List.mem_cons.mp hp with rfl | hp
  · exact .tail _ (.head _)
  rcases List.mem_cons.mp hp with rfl | hp
  · exact .tail _ (.tail _ (.tail _ (.tail _ (.head _))))
  · cases hp
theorem box_start {t1 t2 : Tok} : (Bx.mk 0 t1 3 t2 0).Ok := by constructor <;> decide
theorem small13 {v : Int} (h0 : 0 ≤ v) (h1 : v < 3) : Builtin.Range.small 0 (1 + v) 1 = true := by
  have h : v = 0 ∨ v = 1 ∨ v = 2 := by omega
  rcases h with rfl | rfl | rfl <;> decide
theorem size13 {v : Int} (h0 : 0 ≤ v) (h1 : v < 3) : Builtin.Range.rangeSize 0 (1 + v) 1 = (((1 + v).toNat : Nat) : Int) := by
  have h : v = 0 ∨ v = 1 ∨ v = 2 := by omega
  rcases h with rfl | rfl | rfl <;> decide
section
variable {prog : Program} {w : World} {A : Around} {E : Value → Shared → Prop} {h₀ : Heap} {env : Env} {x : Str} {body : List Stmt} {Q : Flow → Shared → Prop} {s : Shared}
theorem range13 {r : Addr} {v : Int} {t₀ u₀ v₀ : Tok} {m₀ : Str → Option Value} {news : Ledger} (hR : IsRange s.heap r 0 (1 + v) 1 t₀ u₀ v₀) (hv0 : 0 ≤ v) (hv1 : v < 3) (hh : A.handled = none)
    (F : Fr h₀ env.locals s.heap m₀) (N : News h₀ env.locals s.heap news) (J : Nat → (Str → Option Value) → Ledger → Prop) (j0 : J 0 m₀ news)
    (turn : ∀ i m nx t h tk I it, i < 3 → J i m nx → it.cls = .type "range_iterator" → (∀ p ∈ nx, p.1 ≠ I) → Fr h₀ env.locals h (fun y => if y = x then some (.int (0 + (i : Int)) t) else m y) →
      News h₀ env.locals h ((I, it) :: nx) →
      wpAny (model prog w) A (execs body env) (UnrPost h₀ env.locals { s with heap := h, toks := tk } I it (J (i + 1)) Q) E { s with heap := h, toks := tk })
    (done : ∀ n m nx h tk, 1 ≤ n → n ≤ 3 → J n m nx → Fr h₀ env.locals h m → News h₀ env.locals h nx → Q .next { s with heap := h, toks := tk }) :
    wpAny (model prog w) A (pyIter (.ref r)) (fun it s₂ => LoopAtV prog w A h₀ env x body Q E it s₂) E s := by
  refine iter_rangeUnr (n := (1 + v).toNat) hh hR (small13 hv0 hv1) (size13 hv0 hv1) F N fun I hI =>
    rangeJ J (fun i m nx t h tk hi hj off F' N' => turn i m nx t h tk I _ (by omega) hj rfl off F' N') (fun m nx h tk hj F' N' => done _ m nx h tk (by omega) (by omega) hj F' N') _ 0 m₀ news (by omega) j0 fun p hp => Nat.ne_of_lt (hI p hp)
end
structure Safe (ms : List Addr) (imm : Ledger) : Prop where
  nd : ms.Nodup
  off : ∀ a ∈ ms, ∀ q ∈ imm, q.1 ≠ a
theorem mut_map (rfds : List FD) : rfds.flatMap FD.mutA = (rfds.flatMap FD.muts).map Prod.fst := by
  rw [List.map_flatMap]; rfl
theorem mut_obj {rfds : List FD} {a : Addr} (h : a ∈ rfds.flatMap FD.mutA) : ∃ o, (a, o) ∈ rfds.flatMap FD.muts ∧ o.cls ≠ .type "tuple" := by
  obtain ⟨x, hx, ha⟩ := List.mem_flatMap.mp h
  rcases List.mem_cons.mp ha with rfl | ha
  · exact ⟨_, List.mem_flatMap.mpr ⟨x, hx, .head _⟩, dict_no⟩
  · rw [List.mem_singleton.mp ha]
    exact ⟨_, List.mem_flatMap.mpr ⟨x, hx, .tail _ (.head _)⟩, list_no⟩
theorem not_mut {rfds : List FD} {a : Addr} (h : ∀ q ∈ rfds.flatMap FD.muts, q.1 ≠ a) : a ∉ rfds.flatMap FD.mutA := fun ha => by
  rw [mut_map] at ha
  obtain ⟨q, hq, e⟩ := List.mem_map.mp ha
  exact h q hq e
theorem safe_more {b fr sz I : Addr} {ob of os it : Obj} {rfds : List FD} {imm tl : Ledger} {D : FD} (S : Safe (b :: fr :: sz :: rfds.flatMap FD.mutA) imm) (c1 : ob.cls ≠ .type "tuple") (c2 : of.cls ≠ .type "tuple") (c3 : os.cls ≠ .type "tuple")
    (h1 : ∀ q ∈ (b, ob) :: (I, it) :: (fr, of) :: (sz, os) :: (rfds.flatMap FD.muts ++ imm), q.1 ≠ D.fd ∧ q.1 ≠ D.k) (h2 : @Ne Nat D.fd D.k) (h3 : ∀ q ∈ tl, q.1 ≠ D.fd ∧ q.1 ≠ D.k)
    (h4 : ∀ a o, (a, o) ∈ (b, ob) :: (I, it) :: (fr, of) :: (sz, os) :: (rfds.flatMap FD.muts ++ imm) → o.cls ≠ .type "tuple" → ∀ q ∈ tl, q.1 ≠ a) : Safe (b :: fr :: sz :: (D :: rfds).flatMap FD.mutA) (tl ++ imm) := by
  have e1 := h1 (b, ob) (.head _)
  have e2 := h1 (fr, of) (.tail _ (.tail _ (.head _)))
  have e3 := h1 (sz, os) (.tail _ (.tail _ (.tail _ (.head _))))
  have sub : ∀ q ∈ rfds.flatMap FD.muts ++ imm, q ∈ (b, ob) :: (I, it) :: (fr, of) :: (sz, os) :: (rfds.flatMap FD.muts ++ imm) := fun q hq => .tail _ (.tail _ (.tail _ (.tail _ hq)))
  have e4 : D.fd ∉ rfds.flatMap FD.mutA := not_mut fun q hq => (h1 q (sub q (List.mem_append_left _ hq))).1
  have e5 : D.k ∉ rfds.flatMap FD.mutA := not_mut fun q hq => (h1 q (sub q (List.mem_append_left _ hq))).2
  obtain ⟨nd, off⟩ := S
  obtain ⟨n1, nd⟩ := List.nodup_cons.mp nd
  obtain ⟨n2, nd⟩ := List.nodup_cons.mp nd
  obtain ⟨n3, nd⟩ := List.nodup_cons.mp nd
  have new : (D :: rfds).flatMap FD.mutA = D.fd :: D.k :: rfds.flatMap FD.mutA := rfl
  refine ⟨?_, ?_⟩
  · rw [new]
    have k0 : ∀ {y : Addr} {l : List Addr}, y ∉ l → @Ne Nat y D.fd → @Ne Nat y D.k → y ∉ D.fd :: D.k :: l := fun a b c h => by
      rcases List.mem_cons.mp h with h | h
      · exact b h
      rcases List.mem_cons.mp h with h | h
      · exact c h
      · exact a h
    refine List.nodup_cons.mpr ⟨fun h => ?_, List.nodup_cons.mpr ⟨fun h => ?_, List.nodup_cons.mpr ⟨fun h => ?_, List.nodup_cons.mpr ⟨fun h => ?_, List.nodup_cons.mpr ⟨e5, nd⟩⟩⟩⟩⟩
    · rcases List.mem_cons.mp h with h | h
      · exact n1 (h ▸ .head _)
      rcases List.mem_cons.mp h with h | h
      · exact n1 (h ▸ .tail _ (.head _))
      · exact k0 (fun h => n1 (.tail _ (.tail _ h))) e1.1 e1.2 h
    · rcases List.mem_cons.mp h with h | h
      · exact n2 (h ▸ .head _)
      · exact k0 (fun h => n2 (.tail _ h)) e2.1 e2.2 h
    · exact k0 n3 e3.1 e3.2 h
    · rcases List.mem_cons.mp h with h | h
      · exact h2 h
      · exact e4 h
  · rw [new]
    intro a ha q hq
    have old : (∃ o, (a, o) ∈ (b, ob) :: (I, it) :: (fr, of) :: (sz, os) :: (rfds.flatMap FD.muts ++ imm) ∧ o.cls ≠ .type "tuple") → a ∈ b :: fr :: sz :: rfds.flatMap FD.mutA → q.1 ≠ a := fun ⟨o, h, c⟩ hm => (List.mem_append.mp hq).elim (h4 a o h c q) (off a hm q)
    have fresh : a = D.fd ∨ a = D.k → q.1 ≠ a := fun h => by
      rcases List.mem_append.mp hq with hq | hq
      · rcases h with rfl | rfl
        · exact (h3 q hq).1
        · exact (h3 q hq).2
      · rcases h with rfl | rfl
        · exact (h1 q (sub q (List.mem_append_right _ hq))).1
        · exact (h1 q (sub q (List.mem_append_right _ hq))).2
    rcases List.mem_cons.mp ha with rfl | ha
    · exact old ⟨_, .head _, c1⟩ (.head _)
    rcases List.mem_cons.mp ha with rfl | ha
    · exact old ⟨_, .tail _ (.tail _ (.head _)), c2⟩ (.tail _ (.head _))
    rcases List.mem_cons.mp ha with rfl | ha
    · exact old ⟨_, .tail _ (.tail _ (.tail _ (.head _))), c3⟩ (.tail _ (.tail _ (.head _)))
    rcases List.mem_cons.mp ha with rfl | ha
    · exact fresh (.inl rfl)
    rcases List.mem_cons.mp ha with rfl | ha
    · exact fresh (.inr rfl)
    · obtain ⟨o, h, c⟩ := mut_obj ha
      exact old ⟨o, sub _ (List.mem_append_left _ h), c⟩ (.tail _ (.tail _ (.tail _ ha)))
/-- what three named things are to each other and to the rest -/
structure Far3 (b fr sz : Addr) (rfds : List FD) (imm : Ledger) : Prop where
  a1 : @Ne Nat b fr
  a2 : @Ne Nat b sz
  a3 : @Ne Nat fr sz
  a4 : @Ne Nat fr b
  a5 : @Ne Nat sz b
  a6 : @Ne Nat sz fr
  b1 : ∀ q ∈ rfds.flatMap FD.muts, q.1 ≠ b
  b2 : ∀ q ∈ rfds.flatMap FD.muts, q.1 ≠ fr
  b3 : ∀ q ∈ rfds.flatMap FD.muts, q.1 ≠ sz
  c1 : ∀ q ∈ imm, q.1 ≠ b
  c2 : ∀ q ∈ imm, q.1 ≠ fr
  c3 : ∀ q ∈ imm, q.1 ≠ sz
theorem Safe.far {b fr sz : Addr} {rfds : List FD} {imm : Ledger} (S : Safe (b :: fr :: sz :: rfds.flatMap FD.mutA) imm) : Far3 b fr sz rfds imm := by
  obtain ⟨nd, off⟩ := S
  obtain ⟨n1, nd⟩ := List.nodup_cons.mp nd
  obtain ⟨n2, nd⟩ := List.nodup_cons.mp nd
  obtain ⟨n3, nd⟩ := List.nodup_cons.mp nd
  have k1 : @Ne Nat b fr := fun h => n1 (by rw [show b = fr from h]; exact .head _)
  have k2 : @Ne Nat b sz := fun h => n1 (by rw [show b = sz from h]; exact .tail _ (.head _))
  have k3 : @Ne Nat fr sz := fun h => n2 (by rw [show fr = sz from h]; exact .head _)
  exact ⟨k1, k2, k3, k1.symm, k2.symm, k3.symm, off_muts fun h => n1 (.tail _ (.tail _ h)), off_muts fun h => n2 (.tail _ h), off_muts n3, off _ (.head _), off _ (.tail _ (.head _)), off _ (.tail _ (.tail _ (.head _)))⟩
def LJ (b fr sz sl : Addr) (nl : Nat) (vs : List Value) (i : Nat) (m : Str → Option Value) (nx : Ledger) : Prop :=
  ∃ (x : Bx) (rfds : List FD) (szs : List Value) (nf nz : Nat) (imm : Ledger), nx = (b, x.obj sl) :: (fr, listOf ((rfds.map FD.ref).reverse).toArray nf) :: (sz, listOf szs.toArray nz) :: (rfds.flatMap FD.muts ++ imm) ∧ (sl, listOf vs.toArray nl) ∈ imm ∧ x.Ok ∧ Safe (b :: fr :: sz :: rfds.flatMap FD.mutA) imm ∧
    rfds.length = i ∧ szs.length = i ∧ (∃ ks, IntsAre szs ks) ∧ (∀ x ∈ rfds, FdIn 10 imm x ∧ AfOk x.abs) ∧ m (Str.ofString "box") = some (.ref b) ∧ m (Str.ofString "frames") = some (.ref fr) ∧ m (Str.ofString "sizes") = some (.ref sz)
theorem law_news {h₀ h : Heap} {L I p b fr sz : Addr} {it ot ob : Obj} {nf nz : Nat} {rfds : List FD} {szs : List Value} {D : FD} {tl imm : Ledger}
    (N : News h₀ L h ((p, ot) :: (b, ob) :: (D.fd, dictOf D.es D.n) :: (D.k, listOf D.sv.toArray D.nk) :: (tl ++ (I, it) :: (fr, listOf ((rfds.map FD.ref).reverse).toArray nf) :: (sz, listOf szs.toArray nz) :: (rfds.flatMap FD.muts ++ imm)))) :
    News h₀ L h ((fr, listOf ((rfds.map FD.ref).reverse).toArray nf) :: (sz, listOf szs.toArray nz) :: (p, ot) :: (b, ob) :: (I, it) :: ((D :: rfds).flatMap FD.muts ++ (tl ++ imm))) := by
  refine newsSub N fun q hq => ?_
  have tlin : ∀ q ∈ tl, q ∈ (p, ot) :: (b, ob) :: (D.fd, dictOf D.es D.n) :: (D.k, listOf D.sv.toArray D.nk) :: (tl ++ (I, it) :: (fr, listOf ((rfds.map FD.ref).reverse).toArray nf) :: (sz, listOf szs.toArray nz) :: (rfds.flatMap FD.muts ++ imm)) := fun q hq => .tail _ (.tail _ (.tail _ (.tail _ (List.mem_append_left _ hq))))
  have n1in : ∀ q ∈ (I, it) :: (fr, listOf ((rfds.map FD.ref).reverse).toArray nf) :: (sz, listOf szs.toArray nz) :: (rfds.flatMap FD.muts ++ imm), q ∈ (p, ot) :: (b, ob) :: (D.fd, dictOf D.es D.n) :: (D.k, listOf D.sv.toArray D.nk) :: (tl ++ (I, it) :: (fr, listOf ((rfds.map FD.ref).reverse).toArray nf) :: (sz, listOf szs.toArray nz) :: (rfds.flatMap FD.muts ++ imm)) := fun q hq => .tail _ (.tail _ (.tail _ (.tail _ (List.mem_append_right _ hq))))
  rcases List.mem_cons.mp hq with rfl | hq
  · exact n1in _ (.tail _ (.head _))
  rcases List.mem_cons.mp hq with rfl | hq
  · exact n1in _ (.tail _ (.tail _ (.head _)))
  rcases List.mem_cons.mp hq with rfl | hq
  · exact .head _
  rcases List.mem_cons.mp hq with rfl | hq
  · exact .tail _ (.head _)
  rcases List.mem_cons.mp hq with rfl | hq
  · exact n1in _ (.head _)
  have hq : q ∈ (D.fd, dictOf D.es D.n) :: (D.k, listOf D.sv.toArray D.nk) :: (rfds.flatMap FD.muts ++ (tl ++ imm)) := hq
  rcases List.mem_cons.mp hq with rfl | hq
  · exact .tail _ (.tail _ (.head _))
  rcases List.mem_cons.mp hq with rfl | hq
  · exact .tail _ (.tail _ (.tail _ (.head _)))
  rcases List.mem_append.mp hq with hq | hq
  · exact n1in _ (.tail _ (.tail _ (.tail _ (List.mem_append_left _ hq))))
  rcases List.mem_append.mp hq with hq | hq
  · exact tlin _ hq
  · exact n1in _ (.tail _ (.tail _ (.tail _ (List.mem_append_right _ hq))))
-- M18
def Mark9 : Prop := True
theorem take_le {ws : List Value} {ns : List Int} (_ : IntsAre ws (List.take 40 ns)) : (List.take 40 ns).length ≤ 40 := by rw [List.length_take]; exact Nat.min_le_left _ _
theorem safe_start {b fr sz sl : Addr} {o : Obj} (h1 : @Ne Nat b fr) (h2 : @Ne Nat b sz) (h3 : @Ne Nat fr sz) (h4 : @Ne Nat sl b) (h5 : @Ne Nat sl fr) (h6 : @Ne Nat sl sz) : Safe (b :: fr :: sz :: ([] : List FD).flatMap FD.mutA) [(sl, o)] := by
  have no : ∀ {x y : Addr} {l : List Addr}, @Ne Nat x y → x ∉ l → x ∉ y :: l := fun h k q => by
    rcases List.mem_cons.mp q with q | q
    · exact h q
    · exact k q
  refine ⟨List.nodup_cons.mpr ⟨no h1 (no h2 (fun h => nomatch h)), List.nodup_cons.mpr ⟨no h3 (fun h => nomatch h), List.nodup_cons.mpr ⟨fun h => (nomatch h), List.nodup_nil⟩⟩⟩, fun a ha q hq => ?_⟩
  rw [List.mem_singleton.mp hq]
  rcases List.mem_cons.mp ha with rfl | ha
  · exact h4
  rcases List.mem_cons.mp ha with rfl | ha
  · exact h5
  rcases List.mem_cons.mp ha with rfl | ha
  · exact h6
  · cases ha
theorem lj_end {h₀ h' : Heap} {L I b fr sz sl : Addr} {it : Obj} {x' : Bx} {nf nz nl i tk' : Nat} {rfds : List FD} {szs vs : List Value} {ks : List Int} {D : FD} {tl imm : Ledger} {k : Int} {t : Tok} {s₁ : Shared} {m' : Str → Option Value} {all : Ledger}
    (F : Fr h₀ L h' m') (N : News h₀ L h' all)
    (k1 : (b, x'.obj sl) ∈ all) (k2 : (fr, listOf ((rfds.map FD.ref).reverse ++ [Value.ref D.f]).toArray (nf + 1)) ∈ all) (k3 : (sz, listOf (szs ++ [Value.int k t]).toArray (nz + 1)) ∈ all) (k4 : (I, it) ∈ all) (k5 : ∀ q ∈ (D :: rfds).flatMap FD.muts ++ (tl ++ imm), q ∈ all)
    (hs : (sl, listOf vs.toArray nl) ∈ imm) (hx : x'.Ok) (S : Safe (b :: fr :: sz :: (D :: rfds).flatMap FD.mutA) (tl ++ imm)) (e1 : rfds.length = i) (e2 : szs.length = i) (e3 : IntsAre szs ks) (hok : ∀ x ∈ rfds, FdIn 10 imm x ∧ AfOk x.abs) (hD : FdIn 10 tl D) (hA : AfOk D.abs)
    (g1 : m' (Str.ofString "box") = some (.ref b)) (g2 : m' (Str.ofString "frames") = some (.ref fr)) (g3 : m' (Str.ofString "sizes") = some (.ref sz))
    (o1 : @Ne Nat b I) (o2 : @Ne Nat fr I) (o3 : @Ne Nat sz I) (o4 : ∀ q ∈ (D :: rfds).flatMap FD.muts ++ (tl ++ imm), q.1 ≠ I) :
    UnrEnd h₀ L s₁ I it (LJ b fr sz sl nl vs (i + 1)) { s₁ with heap := h', toks := tk' } := by
  refine ⟨h', tk', m', _, rfl, F, newsSub N fun q hq => ?_, ?_, x', D :: rfds, szs ++ [Value.int k t], nf + 1, nz + 1, tl ++ imm, rfl, List.mem_append_right _ hs, hx, S, congrArg (· + 1) e1, by rw [List.length_append, e2]; rfl, ⟨_, e3.append (.cons _ _ .nil)⟩, fun y hy => ?_, g1, g2, g3⟩
  · rw [List.map_cons, List.reverse_cons] at hq
    rcases List.mem_cons.mp hq with rfl | hq
    · exact k4
    rcases List.mem_cons.mp hq with rfl | hq
    · exact k1
    rcases List.mem_cons.mp hq with rfl | hq
    · exact k2
    rcases List.mem_cons.mp hq with rfl | hq
    · exact k3
    · exact k5 q hq
  · intro q hq
    rcases List.mem_cons.mp hq with rfl | hq
    · exact o1
    rcases List.mem_cons.mp hq with rfl | hq
    · exact o2
    rcases List.mem_cons.mp hq with rfl | hq
    · exact o3
    · exact o4 q hq
  · rcases List.mem_cons.mp hy with rfl | hy
    · exact ⟨hD.mono fun q hq => List.mem_append_left _ hq, hA⟩
    · exact ⟨(hok y hy).1.mono fun q hq => List.mem_append_right _ hq, (hok y hy).2⟩
theorem lj_start {b fr sz sl : Addr} {nl : Nat} {vs : List Value} {m : Str → Option Value} {x : Bx} (hx : x.Ok) (h1 : @Ne Nat b fr) (h2 : @Ne Nat b sz) (h3 : @Ne Nat fr sz) (h4 : @Ne Nat sl b) (h5 : @Ne Nat sl fr) (h6 : @Ne Nat sl sz)
    (g1 : m (Str.ofString "box") = some (.ref b)) (g2 : m (Str.ofString "frames") = some (.ref fr)) (g3 : m (Str.ofString "sizes") = some (.ref sz)) :
    LJ b fr sz sl nl vs 0 m [(b, x.obj sl), (fr, listOf #[] 0), (sz, listOf #[] 0), (sl, listOf vs.toArray nl)] :=
  ⟨x, [], [], 0, 0, [(sl, listOf vs.toArray nl)], rfl, .head _, hx, safe_start h1 h2 h3 h4 h5 h6, rfl, rfl, ⟨_, .nil⟩, fun _ h => absurd h List.not_mem_nil, g1, g2, g3⟩
section
variable {prog : Program} {w : World} {A : Around} {E : Value → Shared → Prop} {h₀ : Heap} {env : Env} {y : Str} {body : List Stmt} {Q : Flow → Shared → Prop} {s : Shared}
theorem range13L {b fr sz sl : Addr} {nl : Nat} {vs : List Value} {x : Bx} {r : Addr} {v : Int} {t₀ u₀ v₀ : Tok} {m₀ : Str → Option Value} (hR : IsRange s.heap r 0 (1 + v) 1 t₀ u₀ v₀) (hv0 : 0 ≤ v) (hv1 : v < 3) (hh : A.handled = none)
    (F : Fr h₀ env.locals s.heap m₀) (N : News h₀ env.locals s.heap [(b, x.obj sl), (fr, listOf #[] 0), (sz, listOf #[] 0), (sl, listOf vs.toArray nl)])
    (hx : x.Ok) (h1 : @Ne Nat b fr) (h2 : @Ne Nat b sz) (h3 : @Ne Nat fr sz) (h4 : @Ne Nat sl b) (h5 : @Ne Nat sl fr) (h6 : @Ne Nat sl sz)
    (g1 : m₀ (Str.ofString "box") = some (.ref b)) (g2 : m₀ (Str.ofString "frames") = some (.ref fr)) (g3 : m₀ (Str.ofString "sizes") = some (.ref sz))
    (turn : ∀ i m nx t h tk I it, i < 3 → LJ b fr sz sl nl vs i m nx → it.cls = .type "range_iterator" → (∀ p ∈ nx, p.1 ≠ I) → Fr h₀ env.locals h (fun z => if z = y then some (.int (0 + (i : Int)) t) else m z) →
      News h₀ env.locals h ((I, it) :: nx) →
      wpAny (model prog w) A (execs body env) (UnrPost h₀ env.locals { s with heap := h, toks := tk } I it (LJ b fr sz sl nl vs (i + 1)) Q) E { s with heap := h, toks := tk })
    (done : ∀ n m nx h tk, 1 ≤ n → n ≤ 3 → LJ b fr sz sl nl vs n m nx → Fr h₀ env.locals h m → News h₀ env.locals h nx → Q .next { s with heap := h, toks := tk }) :
    wpAny (model prog w) A (pyIter (.ref r)) (fun it s₂ => LoopAtV prog w A h₀ env y body Q E it s₂) E s :=
  range13 hR hv0 hv1 hh F N (LJ b fr sz sl nl vs) (lj_start hx h1 h2 h3 h4 h5 h6 g1 g2 g3) turn done
end
theorem Far3.offB {b fr sz I : Addr} {it of os : Obj} {rfds : List FD} {imm : Ledger} (h : Far3 b fr sz rfds imm) (hI : @Ne Nat b I) : ∀ q ∈ (I, it) :: (fr, of) :: (sz, os) :: (rfds.flatMap FD.muts ++ imm), q.1 ≠ b := by
  refine List.forall_mem_cons.mpr ⟨hI.symm, List.forall_mem_cons.mpr ⟨h.a4, List.forall_mem_cons.mpr ⟨h.a5, off_app h.b1 h.c1⟩⟩⟩
theorem Far3.offF {b fr sz I p : Addr} {it ot ob : Obj} {rfds : List FD} {imm : Ledger} (h : Far3 b fr sz rfds imm) (hI : @Ne Nat fr I) (hp : @Ne Nat p fr) : ∀ q ∈ (p, ot) :: (b, ob) :: (I, it) :: (rfds.flatMap FD.muts ++ imm), q.1 ≠ fr := by
  refine List.forall_mem_cons.mpr ⟨hp, List.forall_mem_cons.mpr ⟨h.a1, List.forall_mem_cons.mpr ⟨hI.symm, off_app h.b2 h.c2⟩⟩⟩
theorem Far3.offS {b fr sz I p : Addr} {it ot ob : Obj} {rfds : List FD} {imm : Ledger} (h : Far3 b fr sz rfds imm) (hI : @Ne Nat sz I) (hp : @Ne Nat p sz) : ∀ q ∈ (p, ot) :: (b, ob) :: (I, it) :: (rfds.flatMap FD.muts ++ imm), q.1 ≠ sz := by
  refine List.forall_mem_cons.mpr ⟨hp, List.forall_mem_cons.mpr ⟨h.a2, List.forall_mem_cons.mpr ⟨hI.symm, off_app h.b3 h.c3⟩⟩⟩
theorem tup_ne {h₀ h : Heap} {L p a : Addr} {us vs : List Value} {n : Nat} {l : Ledger} (N : News h₀ L h l) (h1 : (p, tupOf us) ∈ l) (h2 : (a, listOf vs.toArray n) ∈ l) : @Ne Nat p a :=
  off_tup (rest := [(p, tupOf us)]) N (fun q hq => by rw [List.mem_singleton.mp hq]) h2 (fun q hq => by rw [List.mem_singleton.mp hq]; exact h1) list_no (p, tupOf us) (.head _)
theorem law_off {h₀ h : Heap} {L b fr sz I p : Addr} {it ob : Obj} {us fs ss : List Value} {nf nz : Nat} {rfds : List FD} {imm : Ledger} (Fa : Far3 b fr sz rfds imm) (h1 : @Ne Nat fr I) (h2 : @Ne Nat sz I)
    (N : News h₀ L h ((fr, listOf fs.toArray nf) :: (sz, listOf ss.toArray nz) :: (p, tupOf us) :: (b, ob) :: (I, it) :: (rfds.flatMap FD.muts ++ imm))) :
    (∀ q ∈ (p, tupOf us) :: (b, ob) :: (I, it) :: (rfds.flatMap FD.muts ++ imm), q.1 ≠ fr) ∧ (∀ q ∈ (p, tupOf us) :: (b, ob) :: (I, it) :: (rfds.flatMap FD.muts ++ imm), q.1 ≠ sz) :=
  ⟨Fa.offF h1 (tup_ne N (.tail _ (.tail _ (.head _))) (.head _)), Fa.offS h2 (tup_ne N (.tail _ (.tail _ (.head _))) (.tail _ (.head _)))⟩
theorem it_off {b fr sz I : Addr} {ob of os it : Obj} {rfds : List FD} {imm tl : Ledger} {D : FD} (hit : it.cls = .type "range_iterator") (h0 : ∀ q ∈ rfds.flatMap FD.muts ++ imm, q.1 ≠ I)
    (h1 : ∀ q ∈ (b, ob) :: (I, it) :: (fr, of) :: (sz, os) :: (rfds.flatMap FD.muts ++ imm), q.1 ≠ D.fd ∧ q.1 ≠ D.k)
    (h4 : ∀ a o, (a, o) ∈ (b, ob) :: (I, it) :: (fr, of) :: (sz, os) :: (rfds.flatMap FD.muts ++ imm) → o.cls ≠ .type "tuple" → ∀ q ∈ tl, q.1 ≠ a) : ∀ q ∈ (D :: rfds).flatMap FD.muts ++ (tl ++ imm), q.1 ≠ I := by
  intro q hq
  have e := h1 (I, it) (.tail _ (.head _))
  have hq : q ∈ (D.fd, dictOf D.es D.n) :: (D.k, listOf D.sv.toArray D.nk) :: (rfds.flatMap FD.muts ++ (tl ++ imm)) := hq
  rcases List.mem_cons.mp hq with rfl | hq
  · exact e.1.symm
  rcases List.mem_cons.mp hq with rfl | hq
  · exact e.2.symm
  rcases List.mem_append.mp hq with hq | hq
  · exact h0 q (List.mem_append_left _ hq)
  rcases List.mem_append.mp hq with hq | hq
  · exact h4 I it (.tail _ (.head _)) (by rw [hit]; decide) q hq
  · exact h0 q (List.mem_append_right _ hq)
def MJ (fds : List FD) (bs imm : Ledger) (i : Nat) (ys : List Value) (nx : Ledger) : Prop :=
  ∃ tl, nx = tl ++ bs ∧ MdsIn 10 (tl ++ imm) ys ((fds.take i).map FD.abs) ∧ ∀ q ∈ tl, ∀ p ∈ bs, @LT.lt Nat _ p.1 q.1
theorem mj_next {fds : List FD} {bs imm tl : Ledger} {i n1 n2 : Nat} {ys : List Value} {x : FD} {D' c1 c2 I C D : Addr} (hxi : fds[i]? = some x) (hmd : MdsIn 10 (tl ++ imm) ys ((fds.take i).map FD.abs)) (hf : ∀ q ∈ tl, ∀ p ∈ bs, @LT.lt Nat _ p.1 q.1) (hX : FdIn 10 imm x)
    (k1 : @LT.lt Nat _ I c1 ∧ @LT.lt Nat _ C c1 ∧ @LT.lt Nat _ D c1 ∧ AllLt c1 (tl ++ bs)) (k2 : @LT.lt Nat _ c1 c2 ∧ @LT.lt Nat _ I c2 ∧ @LT.lt Nat _ C c2 ∧ @LT.lt Nat _ D c2 ∧ AllLt c2 (tl ++ bs)) (k3 : @LT.lt Nat _ c2 D' ∧ @LT.lt Nat _ c1 D' ∧ @LT.lt Nat _ I D' ∧ @LT.lt Nat _ C D' ∧ @LT.lt Nat _ D D' ∧ AllLt D' (tl ++ bs)) :
    MJ fds bs imm (i + 1) (ys ++ [.ref D']) ((D', tupOf [.ref c1, .ref c2, .int x.pc x.tp, .bool x.fl]) :: (c2, listOf x.sv.toArray n2) :: (c1, listOf x.tv.toArray n1) :: (tl ++ bs)) := by
  refine ⟨(D', tupOf [.ref c1, .ref c2, .int x.pc x.tp, .bool x.fl]) :: (c2, listOf x.sv.toArray n2) :: (c1, listOf x.tv.toArray n1) :: tl, rfl, ?_, ?_⟩
  · rw [take_next hxi, List.map_append]
    refine (hmd.mono (fun p hp => .tail _ (.tail _ (.tail _ hp))) (Nat.le_refl _)).append (.cons ?_ .nil)
    exact ⟨D', c1, c2, x.tv, n1, x.sv, n2, x.tp, rfl, .head _, .tail _ (.tail _ (.head _)), hX.hin.mono fun p hp => .tail _ (.tail _ (.tail _ (List.mem_append_right _ hp))), .tail _ (.head _), hX.car, hX.small, hX.many⟩
  · intro q hq p hp
    rcases List.mem_cons.mp hq with rfl | hq
    · exact tb_ltOf k3.2.2.2.2.2 p (List.mem_append_right _ hp)
    rcases List.mem_cons.mp hq with rfl | hq
    · exact tb_ltOf k2.2.2.2.2 p (List.mem_append_right _ hp)
    rcases List.mem_cons.mp hq with rfl | hq
    · exact tb_ltOf k1.2.2.2 p (List.mem_append_right _ hp)
    · exact hf q hq p hp
theorem comp_end3 {h₀ h' : Heap} {L I C D D' c1 c2 : Addr} {m : Str → Option Value} {s₁ : Shared} {oI oC oD o o1 o2 : Obj} {S : Ledger → Prop} {r : Value → Ledger → Prop} {y : Value} {tk : Nat} {nx : Ledger}
    (F : Fr h₀ L h' m) (N : News h₀ L h' ((D', o) :: (c2, o2) :: (c1, o1) :: (I, oI) :: (C, oC) :: (D, oD) :: nx)) (off : LCg.Off3 I C D nx)
    (k1 : @LT.lt Nat _ I c1 ∧ @LT.lt Nat _ C c1 ∧ @LT.lt Nat _ D c1 ∧ AllLt c1 nx) (k2 : @LT.lt Nat _ c1 c2 ∧ @LT.lt Nat _ I c2 ∧ @LT.lt Nat _ C c2 ∧ @LT.lt Nat _ D c2 ∧ AllLt c2 nx) (k3 : @LT.lt Nat _ c2 D' ∧ @LT.lt Nat _ c1 D' ∧ @LT.lt Nat _ I D' ∧ @LT.lt Nat _ C D' ∧ @LT.lt Nat _ D D' ∧ AllLt D' nx)
    (hS : S ((D', o) :: (c2, o2) :: (c1, o1) :: nx)) (hr : r y ((D', o) :: (c2, o2) :: (c1, o1) :: nx)) :
    LCg.CompEnd h₀ L m s₁ I oI C oC D oD S r y { s₁ with heap := h', toks := tk } := by
  refine LCg.CompEnd.intro F N ((D', o) :: (c2, o2) :: (c1, o1) :: nx) (fun p hp => ?_) (off3_cons (off3_cons (off3_cons off (Nat.ne_of_gt k1.1) (Nat.ne_of_gt k1.2.1) (Nat.ne_of_gt k1.2.2.1)) (Nat.ne_of_gt k2.2.1) (Nat.ne_of_gt k2.2.2.1) (Nat.ne_of_gt k2.2.2.2.1)) (Nat.ne_of_gt k3.2.2.1) (Nat.ne_of_gt k3.2.2.2.1) (Nat.ne_of_gt k3.2.2.2.2.1)) hS hr
  rcases List.mem_cons.mp hp with rfl | hp
  · exact .tail _ (.tail _ (.tail _ (.head _)))
  rcases List.mem_cons.mp hp with rfl | hp
  · exact .tail _ (.tail _ (.tail _ (.tail _ (.head _))))
  rcases List.mem_cons.mp hp with rfl | hp
  · exact .tail _ (.tail _ (.tail _ (.tail _ (.tail _ (.head _)))))
  rcases List.mem_cons.mp hp with rfl | hp
  · exact .head _
  rcases List.mem_cons.mp hp with rfl | hp
  · exact .tail _ (.head _)
  rcases List.mem_cons.mp hp with rfl | hp
  · exact .tail _ (.tail _ (.head _))
  · exact .tail _ (.tail _ (.tail _ (.tail _ (.tail _ (.tail _ hp)))))
-- M20
structure Far4 (mo b fr sz : Addr) (rfds : List FD) (imm : Ledger) : Prop where
  m1 : @Ne Nat mo b
  m2 : @Ne Nat mo fr
  m3 : @Ne Nat mo sz
  a1 : @Ne Nat b fr
  a2 : @Ne Nat b sz
  a3 : @Ne Nat fr sz
  b0 : ∀ q ∈ rfds.flatMap FD.muts, q.1 ≠ mo
  b1 : ∀ q ∈ rfds.flatMap FD.muts, q.1 ≠ b
  b2 : ∀ q ∈ rfds.flatMap FD.muts, q.1 ≠ fr
  b3 : ∀ q ∈ rfds.flatMap FD.muts, q.1 ≠ sz
  c0 : ∀ q ∈ imm, q.1 ≠ mo
  c1 : ∀ q ∈ imm, q.1 ≠ b
  c2 : ∀ q ∈ imm, q.1 ≠ fr
  c3 : ∀ q ∈ imm, q.1 ≠ sz
theorem Safe.far4 {mo b fr sz : Addr} {rfds : List FD} {imm : Ledger} (S : Safe (mo :: b :: fr :: sz :: rfds.flatMap FD.mutA) imm) : Far4 mo b fr sz rfds imm := by
  obtain ⟨nd, off⟩ := S
  obtain ⟨n0, nd⟩ := List.nodup_cons.mp nd
  have far := Safe.far ⟨nd, fun a ha => off a (.tail _ ha)⟩
  exact ⟨fun h => n0 (by rw [show mo = b from h]; exact .head _), fun h => n0 (by rw [show mo = fr from h]; exact .tail _ (.head _)), fun h => n0 (by rw [show mo = sz from h]; exact .tail _ (.tail _ (.head _))), far.a1, far.a2, far.a3,
    off_muts fun h => n0 (.tail _ (.tail _ (.tail _ h))), far.b1, far.b2, far.b3, off _ (.head _), far.c1, far.c2, far.c3⟩
theorem safe2_start {mo b fr sz : Addr} {ob of os : Obj} {rfds : List FD} {imm tl : Ledger} (S : Safe (b :: fr :: sz :: rfds.flatMap FD.mutA) imm) (hO : LCg.Off1 mo (tl ++ (b, ob) :: (fr, of) :: (sz, os) :: (rfds.flatMap FD.muts ++ imm)))
    (hfr : ∀ q ∈ tl, ∀ p ∈ (b, ob) :: (fr, of) :: (sz, os) :: (rfds.flatMap FD.muts ++ imm), @LT.lt Nat _ p.1 q.1) : Safe (mo :: b :: fr :: sz :: rfds.flatMap FD.mutA) (tl ++ imm) := by
  have hO := off1_all hO
  have in2 : ∀ q ∈ (b, ob) :: (fr, of) :: (sz, os) :: (rfds.flatMap FD.muts ++ imm), q.1 ≠ mo := fun q hq => hO q (List.mem_append_right _ hq)
  refine ⟨List.nodup_cons.mpr ⟨fun h => ?_, S.nd⟩, fun a ha q hq => ?_⟩
  · rcases List.mem_cons.mp h with rfl | h
    · exact in2 (mo, ob) (.head _) rfl
    rcases List.mem_cons.mp h with rfl | h
    · exact in2 (mo, of) (.tail _ (.head _)) rfl
    rcases List.mem_cons.mp h with rfl | h
    · exact in2 (mo, os) (.tail _ (.tail _ (.head _))) rfl
    · exact not_mut (fun q hq => in2 q (.tail _ (.tail _ (.tail _ (List.mem_append_left _ hq))))) h
  · rcases List.mem_cons.mp ha with rfl | ha
    · rcases List.mem_append.mp hq with hq | hq
      · exact hO q (List.mem_append_left _ hq)
      · exact in2 q (.tail _ (.tail _ (.tail _ (List.mem_append_right _ hq))))
    · rcases List.mem_append.mp hq with hq | hq
      · have out : ∀ o, (a, o) ∈ (b, ob) :: (fr, of) :: (sz, os) :: (rfds.flatMap FD.muts ++ imm) → q.1 ≠ a := fun o h => Nat.ne_of_gt (hfr q hq _ h)
        rcases List.mem_cons.mp ha with rfl | ha
        · exact out _ (.head _)
        rcases List.mem_cons.mp ha with rfl | ha
        · exact out _ (.tail _ (.head _))
        rcases List.mem_cons.mp ha with rfl | ha
        · exact out _ (.tail _ (.tail _ (.head _)))
        · obtain ⟨o, h, -⟩ := mut_obj ha
          exact out o (.tail _ (.tail _ (.tail _ (List.mem_append_left _ h))))
      · exact S.off a ha q hq
theorem news2_start {h₀ h : Heap} {L mo b fr sz : Addr} {ob of os : Obj} {rfds : List FD} {imm tl : Ledger} {ys : List Value} (N : News h₀ L h ((mo, LCg.lst ys) :: (tl ++ (b, ob) :: (fr, of) :: (sz, os) :: (rfds.flatMap FD.muts ++ imm)))) :
    News h₀ L h ((mo, listOf ys.reverse.reverse.toArray ys.toArray.size) :: (b, ob) :: (fr, of) :: (sz, os) :: (rfds.flatMap FD.muts ++ (tl ++ imm))) := by
  rw [List.reverse_reverse]
  refine newsSub N fun q hq => ?_
  rcases List.mem_cons.mp hq with rfl | hq
  · exact .head _
  refine .tail _ ?_
  rcases List.mem_cons.mp hq with rfl | hq
  · exact List.mem_append_right _ (.head _)
  rcases List.mem_cons.mp hq with rfl | hq
  · exact List.mem_append_right _ (.tail _ (.head _))
  rcases List.mem_cons.mp hq with rfl | hq
  · exact List.mem_append_right _ (.tail _ (.tail _ (.head _)))
  rcases List.mem_append.mp hq with hq | hq
  · exact List.mem_append_right _ (.tail _ (.tail _ (.tail _ (List.mem_append_left _ hq))))
  rcases List.mem_append.mp hq with hq | hq
  · exact List.mem_append_left _ hq
  · exact List.mem_append_right _ (.tail _ (.tail _ (.tail _ (List.mem_append_right _ hq))))
def TJ2 (mo b fr sz sl : Addr) (nl : Nat) (vs : List Value) (i : Nat) (m : Str → Option Value) (nx : Ledger) : Prop :=
  ∃ (x : Bx) (rfds : List FD) (rv szs : List Value) (ks : List Int) (nf nm nz : Nat) (imm : Ledger), nx = (mo, listOf rv.reverse.toArray nm) :: (b, x.obj sl) :: (fr, listOf ((rfds.map FD.ref).reverse).toArray nf) :: (sz, listOf szs.toArray nz) :: (rfds.flatMap FD.muts ++ imm) ∧ (sl, listOf vs.toArray nl) ∈ imm ∧ x.Ok ∧ Safe (mo :: b :: fr :: sz :: rfds.flatMap FD.mutA) imm ∧
    rfds.length ≤ szs.length ∧ szs.length ≤ 3 ∧ IntsAre szs ks ∧ (∀ x ∈ rfds, FdIn (10 + 10 * i) imm x) ∧ (∀ x ∈ rfds.map FD.abs, AfOk x) ∧ MdsIn (10 + 10 * i) imm rv (rfds.map FD.abs) ∧ m (Str.ofString "box") = some (.ref b) ∧ m (Str.ofString "frames") = some (.ref fr) ∧ m (Str.ofString "sizes") = some (.ref sz) ∧ m (Str.ofString "model") = some (.ref mo)
section
variable {prog : Program} {w : World} {A : Around} {E : Value → Shared → Prop} {h₀ : Heap} {env : Env} {y : Str} {body : List Stmt} {Q : Flow → Shared → Prop} {s : Shared}
theorem range4L {mo b fr sz sl : Addr} {nl nf nz : Nat} {vs ys szs : List Value} {ks : List Int} {x : Bx} {rfds : List FD} {imm tl : Ledger} {r : Addr} {t₀ u₀ v₀ : Tok} {m₀ : Str → Option Value} (hR : IsRange s.heap r 0 4 1 t₀ u₀ v₀) (hh : A.handled = none)
    (F : Fr h₀ env.locals s.heap m₀) (N : News h₀ env.locals s.heap ((mo, LCg.lst ys) :: (tl ++ (b, x.obj sl) :: (fr, listOf ((rfds.map FD.ref).reverse).toArray nf) :: (sz, listOf szs.toArray nz) :: (rfds.flatMap FD.muts ++ imm))))
    (hs : (sl, listOf vs.toArray nl) ∈ imm) (hx : x.Ok) (S : Safe (b :: fr :: sz :: rfds.flatMap FD.mutA) imm) (hO : LCg.Off1 mo (tl ++ (b, x.obj sl) :: (fr, listOf ((rfds.map FD.ref).reverse).toArray nf) :: (sz, listOf szs.toArray nz) :: (rfds.flatMap FD.muts ++ imm)))
    (hfr : ∀ q ∈ tl, ∀ p ∈ (b, x.obj sl) :: (fr, listOf ((rfds.map FD.ref).reverse).toArray nf) :: (sz, listOf szs.toArray nz) :: (rfds.flatMap FD.muts ++ imm), @LT.lt Nat _ p.1 q.1)
    (e1 : rfds.length ≤ szs.length) (e2 : szs.length ≤ 3) (hks : IntsAre szs ks) (hok : ∀ x ∈ rfds, FdIn 10 imm x ∧ AfOk x.abs) (hmd : MdsIn 10 (tl ++ imm) ys (rfds.reverse.map FD.abs))
    (g1 : m₀ (Str.ofString "box") = some (.ref b)) (g2 : m₀ (Str.ofString "frames") = some (.ref fr)) (g3 : m₀ (Str.ofString "sizes") = some (.ref sz)) (g4 : m₀ (Str.ofString "model") = some (.ref mo))
    (turn : ∀ i m nx t h tk I it, i < 4 → TJ2 mo b fr sz sl nl vs i m nx → it.cls = .type "range_iterator" → (∀ p ∈ nx, p.1 ≠ I) → Fr h₀ env.locals h (fun z => if z = y then some (.int (0 + (i : Int)) t) else m z) →
      News h₀ env.locals h ((I, it) :: nx) →
      wpAny (model prog w) A (execs body env) (UnrPost h₀ env.locals { s with heap := h, toks := tk } I it (TJ2 mo b fr sz sl nl vs (i + 1)) Q) E { s with heap := h, toks := tk })
    (done : ∀ m nx h tk, Fr h₀ env.locals h m → News h₀ env.locals h nx → Q .next { s with heap := h, toks := tk }) :
    wpAny (model prog w) A (pyIter (.ref r)) (fun it s₂ => LoopAtV prog w A h₀ env y body Q E it s₂) E s := by
  have N := news2_start N
  have j0 : TJ2 mo b fr sz sl nl vs 0 m₀ ((mo, listOf ys.reverse.reverse.toArray ys.toArray.size) :: (b, x.obj sl) :: (fr, listOf ((rfds.map FD.ref).reverse).toArray nf) :: (sz, listOf szs.toArray nz) :: (rfds.flatMap FD.muts ++ (tl ++ imm))) := by
    refine ⟨x, rfds, ys.reverse, szs, ks, nf, ys.toArray.size, nz, tl ++ imm, rfl, List.mem_append_right _ hs, hx, safe2_start S hO hfr, e1, e2, hks, fun x hx => (hok x hx).1.mono fun q hq => List.mem_append_right _ hq, fun x hx => ?_, ?_, g1, g2, g3, g4⟩
    · obtain ⟨z, hz, rfl⟩ := List.mem_map.mp hx
      exact (hok z hz).2
    · have q := hmd.reverse
      rw [← List.map_reverse, List.reverse_reverse] at q
      exact q
  refine iter_rangeUnr (n := 4) hh hR (by decide) (by decide) F N fun I hI =>
    rangeJ (TJ2 mo b fr sz sl nl vs) (fun i m nx t h tk hi hj off F' N' => turn i m nx t h tk I _ (by omega) hj rfl off F' N') (fun m nx h tk hj F' N' => done m nx h tk F' N') _ 0 m₀ _ (by omega) j0 fun p hp => Nat.ne_of_lt (hI p hp)
end
section
variable {w : World} {mean : ExcName → Option Value} {mg mb : Str → Option Value} {dp un : Nat} {gd : Option (List Code)} {cn : Str} {cs : Scope} {a : Addr} {ccd : Value} {cl : List (Str × Addr)} {outer : List Env}
    {A₀ : Around} {base h₀ : Heap} {L : Addr} {m : Str → Option Value} {s : Shared} {Q : Value → Shared → Prop} {E : Value → Shared → Prop}
theorem due_law {I mo b fr sz : Addr} {it ob of os : Obj} {nm M : Nat} {rv : List Value} {rafs : List AF} {rfds : List FD} {imm : Ledger} {v : Value} {d : PyData}
    (B : Below A₀ base outer h₀) (F : Fr h₀ L s.heap m) (X : (hd.heap_39 w.params).In h₀) (T : Top hd.view_39 (looseW hd.view_39 []) mean mg mb h₀) (hk : cs.kind = .function) (hd : dp + 4 < recursionLimit) (hu : un + 100 < cLine)
    (N : News h₀ L s.heap ((I, it) :: (mo, listOf rv.reverse.toArray nm) :: (b, ob) :: (fr, of) :: (sz, os) :: (rfds.flatMap FD.muts ++ imm))) (hmd : MdsIn M imm rv rafs) (hM : M ≤ 10000) (hlen : rv.length ≤ 10) (hok : ∀ x ∈ rafs, AfOk x)
    (S : Safe (mo :: b :: fr :: sz :: rfds.flatMap FD.mutA) imm) (oI : ∀ q ∈ (mo, listOf rv.reverse.toArray nm) :: (b, ob) :: (fr, of) :: (sz, os) :: (rfds.flatMap FD.muts ++ imm), q.1 ≠ I) (hv : Carried v d) (hl : PyData.canLay0 d = true) (hd0 : PyData.depth d = 0)
    (hret : ∀ rv' nm' tl h' tk', Fr h₀ L h' m → News h₀ L h' ((fr, of) :: (rfds.flatMap FD.muts ++ ((I, it) :: (mo, listOf (List.reverse rv').toArray nm') :: (b, ob) :: (sz, os) :: (imm ++ tl)))) → MdsIn (M + 2) (imm ++ tl) rv' (stepR d rafs).2 →
      Safe (mo :: b :: fr :: sz :: rfds.flatMap FD.mutA) (imm ++ tl) → (∀ q ∈ imm ++ tl, q.1 ≠ I) → (∀ x ∈ (stepR d rafs).2, AfOk x) → Q (.bool (stepR d rafs).1) { s with heap := h', toks := tk' }) :
    wpAny (model PySem.Challenge.rw_nt0342_01.row.prog w) (ktrTop dp un gd cn cs L a ccd cl outer) (call (.ref 145) [.ref mo, v]) Q E s := by
  have fa := S.far4
  refine due0 (nm := nm) (rest := (I, it) :: (b, ob) :: (fr, of) :: (sz, os) :: (rfds.flatMap FD.muts ++ imm)) (imm := imm) B F X T hk hd hu (newsSub N fun q hq => ?_) hmd (fun q hq => .tail _ (.tail _ (.tail _ (.tail _ (List.mem_append_right _ hq))))) hM hlen hok ?_ hv fun rv' nm' tl h' tk' F' N' H' hfr => hret rv' nm' tl h' tk' F' (newsSub N' fun q hq => ?_) H' ⟨S.nd, fun y hy q hq => ?_⟩ (fun q hq => ?_) (stepR_ok hl hd0 hok)
  · rcases List.mem_cons.mp hq with rfl | hq
    · exact .tail _ (.head _)
    rcases List.mem_cons.mp hq with rfl | hq
    · exact .head _
    · exact .tail _ (.tail _ hq)
  · refine List.forall_mem_cons.mpr ⟨(oI _ (.head _)).symm, List.forall_mem_cons.mpr ⟨fa.m1.symm, List.forall_mem_cons.mpr ⟨fa.m2.symm, List.forall_mem_cons.mpr ⟨fa.m3.symm, off_app fa.b0 fa.c0⟩⟩⟩⟩
  · rcases List.mem_cons.mp hq with rfl | hq
    · exact .tail _ (List.mem_append_left _ (.tail _ (.tail _ (.head _))))
    rcases List.mem_append.mp hq with hq | hq
    · exact .tail _ (List.mem_append_left _ (.tail _ (.tail _ (.tail _ (.tail _ (List.mem_append_left _ hq))))))
    rcases List.mem_cons.mp hq with rfl | hq
    · exact .tail _ (List.mem_append_left _ (.head _))
    rcases List.mem_cons.mp hq with rfl | hq
    · exact .head _
    rcases List.mem_cons.mp hq with rfl | hq
    · exact .tail _ (List.mem_append_left _ (.tail _ (.head _)))
    rcases List.mem_cons.mp hq with rfl | hq
    · exact .tail _ (List.mem_append_left _ (.tail _ (.tail _ (.tail _ (.head _)))))
    rcases List.mem_append.mp hq with hq | hq
    · exact .tail _ (List.mem_append_left _ (.tail _ (.tail _ (.tail _ (.tail _ (List.mem_append_right _ hq))))))
    · exact .tail _ (List.mem_append_right _ hq)
  · rcases List.mem_append.mp hq with hq | hq
    · exact S.off y hy q hq
    have out : ∀ o, (y, o) ∈ (mo, listOf rv.reverse.toArray nm) :: (I, it) :: (b, ob) :: (fr, of) :: (sz, os) :: (rfds.flatMap FD.muts ++ imm) → q.1 ≠ y := fun o h => Nat.ne_of_gt (hfr _ h q hq)
    rcases List.mem_cons.mp hy with rfl | hy
    · exact out _ (.head _)
    rcases List.mem_cons.mp hy with rfl | hy
    · exact out _ (.tail _ (.tail _ (.head _)))
    rcases List.mem_cons.mp hy with rfl | hy
    · exact out _ (.tail _ (.tail _ (.tail _ (.head _))))
    rcases List.mem_cons.mp hy with rfl | hy
    · exact out _ (.tail _ (.tail _ (.tail _ (.tail _ (.head _)))))
    · obtain ⟨o, h, -⟩ := mut_obj hy
      exact out o (.tail _ (.tail _ (.tail _ (.tail _ (.tail _ (List.mem_append_left _ h))))))
  · rcases List.mem_append.mp hq with hq | hq
    · exact oI q (.tail _ (.tail _ (.tail _ (.tail _ (List.mem_append_right _ hq)))))
    · exact Nat.ne_of_gt (hfr (I, it) (.tail _ (.head _)) q hq)
theorem unwind_law {I mo b fr sz : Addr} {it om ob os : Obj} {nf M : Nat} {rfds : List FD} {imm : Ledger} {v : Value} {d : PyData}
    (B : Below A₀ base outer h₀) (F : Fr h₀ L s.heap m) (X : (hd.heap_39 w.params).In h₀) (T : Top hd.view_39 (looseW hd.view_39 []) mean mg mb h₀) (hk : cs.kind = .function) (hd : dp + 4 < recursionLimit) (hu : un + 40 < cLine)
    (N : News h₀ L s.heap ((fr, listOf ((rfds.map FD.ref).reverse).toArray nf) :: (rfds.flatMap FD.muts ++ ((I, it) :: (mo, om) :: (b, ob) :: (sz, os) :: imm)))) (hok : ∀ x ∈ rfds, FdIn M imm x) (hM : M ≤ 10000) (hlen : rfds.length ≤ 10)
    (S : Safe (mo :: b :: fr :: sz :: rfds.flatMap FD.mutA) imm) (oI : ∀ a ∈ mo :: b :: fr :: sz :: rfds.flatMap FD.mutA, @Ne Nat a I) (hv : Carried v d)
    (hret : ∀ (rf' : List FD) nf' h' tk', Fr h₀ L h' m → News h₀ L h' ((fr, listOf ((rf'.map FD.ref).reverse).toArray nf') :: (rf'.flatMap FD.muts ++ ((I, it) :: (mo, om) :: (b, ob) :: (sz, os) :: imm))) → (∀ x ∈ rf', FdIn (M + 2) imm x) → rf'.map FD.abs = (stepR d (rfds.map FD.abs)).2 →
      Safe (mo :: b :: fr :: sz :: rf'.flatMap FD.mutA) imm → (∀ a ∈ mo :: b :: fr :: sz :: rf'.flatMap FD.mutA, @Ne Nat a I) → rf'.length ≤ rfds.length → Q (.bool (stepR d (rfds.map FD.abs)).1) { s with heap := h', toks := tk' }) :
    wpAny (model PySem.Challenge.rw_nt0342_01.row.prog w) (ktrTop dp un gd cn cs L a ccd cl outer) (call (.ref 91) [.ref fr, v]) Q E s := by
  have nd := S.nd
  obtain ⟨n0, nd⟩ := List.nodup_cons.mp nd
  obtain ⟨n1, nd⟩ := List.nodup_cons.mp nd
  obtain ⟨n2, nd⟩ := List.nodup_cons.mp nd
  obtain ⟨n3, nd⟩ := List.nodup_cons.mp nd
  refine unwind0 (imm := imm) B F X T hk hd hu N hok (fun q hq => .tail _ (.tail _ (.tail _ (.tail _ hq)))) hM hlen (List.nodup_cons.mpr ⟨fun h => n2 (.tail _ h), nd⟩) (fun y hy q hq => ?_) hv fun rf' nf' h' tk' F' N' ok' ab sb le => ?_
  · have hy' : y ∈ mo :: b :: fr :: sz :: rfds.flatMap FD.mutA := by
      rcases List.mem_cons.mp hy with rfl | hy
      · exact .tail _ (.tail _ (.head _))
      · exact .tail _ (.tail _ (.tail _ (.tail _ hy)))
    have ymo : y ∈ fr :: sz :: rfds.flatMap FD.mutA := by
      rcases List.mem_cons.mp hy with rfl | hy
      · exact .head _
      · exact .tail _ (.tail _ hy)
    rcases List.mem_cons.mp hq with rfl | hq
    · exact (oI y hy').symm
    rcases List.mem_cons.mp hq with rfl | hq
    · exact fun h => n0 (by rw [show mo = y from h]; exact .tail _ ymo)
    rcases List.mem_cons.mp hq with rfl | hq
    · exact fun h => n1 (by rw [show b = y from h]; exact ymo)
    rcases List.mem_cons.mp hq with rfl | hq
    · intro h
      rcases List.mem_cons.mp hy with e | hy
      · exact n2 (by rw [← show y = fr from e, ← show sz = y from h]; exact .head _)
      · exact n3 (by rw [show sz = y from h]; exact hy)
    · exact S.off y hy' q hq
  · have sub : (mo :: b :: fr :: sz :: rf'.flatMap FD.mutA).Sublist (mo :: b :: fr :: sz :: rfds.flatMap FD.mutA) := by
      have sb' := (List.cons_sublist_cons).mp sb
      exact ((((sb'.cons_cons sz).cons_cons fr).cons_cons b).cons_cons mo)
    exact hret rf' nf' h' tk' F' N' ok' ab ⟨S.nd.sublist sub, fun y hy => S.off y (sub.subset hy)⟩ (fun y hy => oI y (sub.subset hy)) le
end
theorem mut_ne {mo b fr sz I : Addr} {om ob of os : Obj} {rfds : List FD} {imm : Ledger} (oI : ∀ q ∈ (mo, om) :: (b, ob) :: (fr, of) :: (sz, os) :: (rfds.flatMap FD.muts ++ imm), q.1 ≠ I) : ∀ a ∈ mo :: b :: fr :: sz :: rfds.flatMap FD.mutA, @Ne Nat a I := by
  intro a ha
  rcases List.mem_cons.mp ha with rfl | ha
  · exact oI _ (.head _)
  rcases List.mem_cons.mp ha with rfl | ha
  · exact oI _ (.tail _ (.head _))
  rcases List.mem_cons.mp ha with rfl | ha
  · exact oI _ (.tail _ (.tail _ (.head _)))
  rcases List.mem_cons.mp ha with rfl | ha
  · exact oI _ (.tail _ (.tail _ (.tail _ (.head _))))
  · obtain ⟨o, h, -⟩ := mut_obj ha
    exact oI (a, o) (.tail _ (.tail _ (.tail _ (.tail _ (List.mem_append_left _ h)))))
theorem stepR_true {v : PyData} : ∀ {xs : List AF} {out : List AF}, stepR v xs = (true, out) → ∃ z zs, out = z :: zs
  | [], out, h => by cases h
  | x :: xs, out, h => by
    cases e : findH (x.pc - 1) x.hs with
    | some g => rw [stepR_hit e] at h; cases h; exact ⟨_, _, rfl⟩
    | none =>
      cases f : x.fl with
      | true => rw [stepR_floor e f] at h; cases h
      | false => rw [stepR_pop e f] at h; exact stepR_true h
theorem law_news2 {h₀ h : Heap} {L l9 fr I mo b sz : Addr} {o9 it ob os : Obj} {nf nm : Nat} {y : FD} {r : List FD} {v0 : Value} {vs0 : List Value} {tl2 imm : Ledger}
    (N : News h₀ L h ((l9, o9) :: (tl2 ++ (fr, listOf (((y :: r).map FD.ref).reverse).toArray nf) :: ((y :: r).flatMap FD.muts ++ (I, it) :: (mo, listOf (List.reverse (v0 :: vs0)).toArray nm) :: (b, ob) :: (sz, os) :: imm)))) :
    News h₀ L h ((fr, listOf ((r.map FD.ref).reverse ++ [Value.ref y.f]).toArray nf) :: (mo, listOf (vs0.reverse ++ [v0]).toArray nm) :: (b, ob) :: (sz, os) :: (I, it) :: (y.fd, dictOf y.es y.n) :: (y.k, listOf y.sv.toArray y.nk) :: (r.flatMap FD.muts ++ imm)) := by
  rw [List.map_cons, List.reverse_cons, List.reverse_cons] at N
  have N : News h₀ L h ((l9, o9) :: (tl2 ++ (fr, listOf ((r.map FD.ref).reverse ++ [Value.ref y.f]).toArray nf) :: (y.fd, dictOf y.es y.n) :: (y.k, listOf y.sv.toArray y.nk) :: (r.flatMap FD.muts ++ (I, it) :: (mo, listOf (vs0.reverse ++ [v0]).toArray nm) :: (b, ob) :: (sz, os) :: imm))) := N
  refine newsSub N fun q hq => .tail _ (List.mem_append_right _ ?_)
  rcases List.mem_cons.mp hq with rfl | hq
  · exact .head _
  refine .tail _ ?_
  rcases List.mem_cons.mp hq with rfl | hq
  · exact .tail _ (.tail _ (List.mem_append_right _ (.tail _ (.head _))))
  rcases List.mem_cons.mp hq with rfl | hq
  · exact .tail _ (.tail _ (List.mem_append_right _ (.tail _ (.tail _ (.head _)))))
  rcases List.mem_cons.mp hq with rfl | hq
  · exact .tail _ (.tail _ (List.mem_append_right _ (.tail _ (.tail _ (.tail _ (.head _))))))
  rcases List.mem_cons.mp hq with rfl | hq
  · exact .tail _ (.tail _ (List.mem_append_right _ (.head _)))
  rcases List.mem_cons.mp hq with rfl | hq
  · exact .head _
  rcases List.mem_cons.mp hq with rfl | hq
  · exact .tail _ (.head _)
  rcases List.mem_append.mp hq with hq | hq
  · exact .tail _ (.tail _ (List.mem_append_left _ hq))
  · exact .tail _ (.tail _ (List.mem_append_right _ (.tail _ (.tail _ (.tail _ (.tail _ hq))))))
structure Far6 (mo b fr sz I fd k : Addr) (r : List FD) (imm : Ledger) : Prop where
  f1 : @Ne Nat fd mo
  f2 : @Ne Nat fd b
  f3 : @Ne Nat fd fr
  f4 : @Ne Nat fd sz
  f5 : @Ne Nat fd I
  k1 : @Ne Nat k mo
  k2 : @Ne Nat k b
  k3 : @Ne Nat k fr
  k4 : @Ne Nat k sz
  k5 : @Ne Nat k I
  k6 : @Ne Nat k fd
  i1 : @Ne Nat mo I
  i2 : @Ne Nat b I
  i3 : @Ne Nat fr I
  i4 : @Ne Nat sz I
  m1 : @Ne Nat mo b
  m2 : @Ne Nat mo fr
  m3 : @Ne Nat mo sz
  a1 : @Ne Nat b fr
  a2 : @Ne Nat b sz
  a3 : @Ne Nat fr sz
  b0 : ∀ q ∈ r.flatMap FD.muts, q.1 ≠ mo
  b1 : ∀ q ∈ r.flatMap FD.muts, q.1 ≠ b
  b2 : ∀ q ∈ r.flatMap FD.muts, q.1 ≠ fr
  b3 : ∀ q ∈ r.flatMap FD.muts, q.1 ≠ sz
  b4 : ∀ q ∈ r.flatMap FD.muts, q.1 ≠ fd
  b5 : ∀ q ∈ r.flatMap FD.muts, q.1 ≠ k
  b6 : ∀ q ∈ r.flatMap FD.muts, q.1 ≠ I
  c0 : ∀ q ∈ imm, q.1 ≠ mo
  c1 : ∀ q ∈ imm, q.1 ≠ b
  c2 : ∀ q ∈ imm, q.1 ≠ fr
  c3 : ∀ q ∈ imm, q.1 ≠ sz
  c4 : ∀ q ∈ imm, q.1 ≠ fd
  c5 : ∀ q ∈ imm, q.1 ≠ k
theorem Safe.far6 {mo b fr sz I : Addr} {y : FD} {r : List FD} {imm : Ledger} (S : Safe (mo :: b :: fr :: sz :: (y :: r).flatMap FD.mutA) imm) (oI : ∀ a ∈ mo :: b :: fr :: sz :: (y :: r).flatMap FD.mutA, @Ne Nat a I) : Far6 mo b fr sz I y.fd y.k r imm := by
  have fa := S.far4
  have S' : Safe (mo :: b :: fr :: sz :: y.fd :: y.k :: r.flatMap FD.mutA) imm := S
  have oI : ∀ a ∈ mo :: b :: fr :: sz :: y.fd :: y.k :: r.flatMap FD.mutA, @Ne Nat a I := oI
  have nd := S'.nd
  obtain ⟨n0, nd⟩ := List.nodup_cons.mp nd
  obtain ⟨n1, nd⟩ := List.nodup_cons.mp nd
  obtain ⟨n2, nd⟩ := List.nodup_cons.mp nd
  obtain ⟨n3, nd⟩ := List.nodup_cons.mp nd
  obtain ⟨n4, nd⟩ := List.nodup_cons.mp nd
  obtain ⟨n5, nd⟩ := List.nodup_cons.mp nd
  have cut : ∀ {z : Addr}, (∀ q ∈ (y :: r).flatMap FD.muts, q.1 ≠ z) → @Ne Nat y.fd z ∧ @Ne Nat y.k z ∧ ∀ q ∈ r.flatMap FD.muts, q.1 ≠ z := fun h =>
    ⟨h (y.fd, dictOf y.es y.n) (.head _), h (y.k, listOf y.sv.toArray y.nk) (.tail _ (.head _)), fun q hq => h q (.tail _ (.tail _ hq))⟩
  obtain ⟨f1, k1, b0⟩ := cut fa.b0
  obtain ⟨f2, k2, b1⟩ := cut fa.b1
  obtain ⟨f3, k3, b2⟩ := cut fa.b2
  obtain ⟨f4, k4, b3⟩ := cut fa.b3
  exact ⟨f1, f2, f3, f4, oI _ (.tail _ (.tail _ (.tail _ (.tail _ (.head _))))), k1, k2, k3, k4, oI _ (.tail _ (.tail _ (.tail _ (.tail _ (.tail _ (.head _)))))), fun h => n4 (by rw [← show y.k = y.fd from h]; exact .head _),
    oI _ (.head _), oI _ (.tail _ (.head _)), oI _ (.tail _ (.tail _ (.head _))), oI _ (.tail _ (.tail _ (.tail _ (.head _)))), fa.m1, fa.m2, fa.m3, fa.a1, fa.a2, fa.a3, b0, b1, b2, b3, off_muts fun h => n4 (.tail _ h), off_muts n5,
    fun q hq => oI q.1 (.tail _ (.tail _ (.tail _ (.tail _ (.tail _ (.tail _ (mut_addr hq))))))), fa.c0, fa.c1, fa.c2, fa.c3, S'.off _ (.tail _ (.tail _ (.tail _ (.tail _ (.head _))))), S'.off _ (.tail _ (.tail _ (.tail _ (.tail _ (.tail _ (.head _))))))⟩
theorem ints_get : ∀ {vs : List Value} {ks : List Int} {i : Nat}, IntsAre vs ks → i < vs.length → ∃ z t, vs[i]? = some (.int z t)
  | _, _, 0, .cons n t _, _ => ⟨n, t, rfl⟩
  | _ :: vs, _ :: ks, i + 1, .cons _ _ h, hi => by
    obtain ⟨z, t, e⟩ := ints_get h (Nat.lt_of_succ_lt_succ hi)
    exact ⟨z, t, by rw [List.getElem?_cons_succ]; exact e⟩
section
variable {prog : Program} {w : World} {A : Around} {s : Shared} {h₀ : Heap} {L : Addr} {E : Value → Shared → Prop}
theorem sub_call {value slice : PySem.Expr} {D : Addr} {k : Int} {u : Tok} {szs : List Value} {ks : List Int} {n : Nat} {news : Ledger} {Q : Value → Shared → Prop} (N : News h₀ L s.heap news) (hm : (D, listOf szs.toArray n) ∈ news) (hks : IntsAre szs ks) (h0 : 0 ≤ k) (h1 : k < (szs.length : Int)) (hz : szs.length ≤ 3) (h : ∀ z t, Q (.int z t) s)
    (hs : subscripted slice false (.ref D) (.int k u) = operate [.ref D, .int k u] (getItem (.ref D) (.int k u)) := by with_unfolding_all rfl) :
    wpAny (model prog w) A (subscriptTail value slice (.ref D) (.int k u)) Q E s := by
  have hl : s.heap.IsList D szs.toArray := News.isList N hm
  obtain ⟨z, t, e⟩ := ints_get (i := k.toNat) hks (by omega)
  refine tail_any hl.typeIs slot_list_getitem.lookup (wpAny_getItem_list (x := .int z t) hl h0 (Int.lt_of_lt_of_le (show k < 3 by omega) (by decide)) ?_ (h z t)) hs
  rw [List.getElem?_toArray]; exact e
end
-- M21
/-! ### the end of a turn: the code goes on a little -/
theorem law_news3 {h₀ h : Heap} {L D b l fd fr mo sz I k : Addr} {oD ob ol od of om os it ok : Obj} {rest : Ledger} (N : News h₀ L h ((D, oD) :: (b, ob) :: (l, ol) :: (fd, od) :: (fr, of) :: (mo, om) :: (sz, os) :: (I, it) :: (k, ok) :: rest)) :
    News h₀ L h ((k, ok) :: (D, oD) :: (b, ob) :: (fd, od) :: (fr, of) :: (mo, om) :: (sz, os) :: (I, it) :: rest) := by
  refine newsSub N fun q hq => ?_
  rcases List.mem_cons.mp hq with rfl | hq
  · exact .tail _ (.tail _ (.tail _ (.tail _ (.tail _ (.tail _ (.tail _ (.tail _ (.head _))))))))
  rcases List.mem_cons.mp hq with rfl | hq
  · exact .head _
  rcases List.mem_cons.mp hq with rfl | hq
  · exact .tail _ (.head _)
  rcases List.mem_cons.mp hq with rfl | hq
  · exact .tail _ (.tail _ (.tail _ (.head _)))
  rcases List.mem_cons.mp hq with rfl | hq
  · exact .tail _ (.tail _ (.tail _ (.tail _ (.head _))))
  rcases List.mem_cons.mp hq with rfl | hq
  · exact .tail _ (.tail _ (.tail _ (.tail _ (.tail _ (.head _)))))
  rcases List.mem_cons.mp hq with rfl | hq
  · exact .tail _ (.tail _ (.tail _ (.tail _ (.tail _ (.tail _ (.head _))))))
  rcases List.mem_cons.mp hq with rfl | hq
  · exact .tail _ (.tail _ (.tail _ (.tail _ (.tail _ (.tail _ (.tail _ (.head _)))))))
  · exact .tail _ (.tail _ (.tail _ (.tail _ (.tail _ (.tail _ (.tail _ (.tail _ (.tail _ hq))))))))
/-- what holds in the loop that appends: the rest of the items, the frame's names but the loop's own, the stack so far -/
def WJ (k : Addr) (sv : List Value) (wv : Value) (n : Nat) (m₀ : Str → Option Value) (base : Ledger) (r : List Value) (m : Str → Option Value) (nx : Ledger) : Prop :=
  ∃ j nk, j ≤ n ∧ r = List.replicate (n - j) wv ∧ nx = (k, listOf (sv ++ List.replicate j wv).toArray nk) :: base ∧ ∀ z, z ≠ Str.ofString "one" → m z = m₀ z
theorem wj_start {k : Addr} {sv : List Value} {wv : Value} {n nk : Nat} {m₀ : Str → Option Value} {base : Ledger} : WJ k sv wv n m₀ base (List.replicate n wv) m₀ ((k, listOf sv.toArray nk) :: base) :=
  ⟨0, nk, Nat.zero_le _, by rw [Nat.sub_zero], by rw [List.replicate_zero, List.append_nil], fun _ _ => rfl⟩
theorem wj_cons {n j : Nat} {v wv : Value} {r : List Value} (h : v :: r = List.replicate (n - j) wv) : j < n ∧ v = wv ∧ r = List.replicate (n - (j + 1)) wv := by
  cases e : n - j with
  | zero => rw [e] at h; cases h
  | succ i =>
    rw [e, List.replicate_succ] at h
    cases h
    refine ⟨by omega, rfl, ?_⟩
    rw [show n - (j + 1) = i by omega]
theorem wj_nil {n j : Nat} {wv : Value} (h : [] = List.replicate (n - j) wv) (hj : j ≤ n) : j = n := by
  cases e : n - j with
  | zero => omega
  | succ i => rw [e, List.replicate_succ] at h; cases h
theorem wj_next {k : Addr} {sv : List Value} {wv : Value} {n nk j : Nat} {m₀ m : Str → Option Value} {base : Ledger} (hj : j < n) (hm : ∀ z, z ≠ Str.ofString "one" → m z = m₀ z) :
    WJ k sv wv n m₀ base (List.replicate (n - (j + 1)) wv) (fun z => if z = Str.ofString "one" then some wv else m z) ((k, listOf (sv ++ List.replicate j wv ++ [wv]).toArray nk) :: base) := by
  refine ⟨j + 1, nk, hj, rfl, ?_, fun z hz => (if_neg hz).trans (hm z hz)⟩
  rw [List.append_assoc, show List.replicate j wv ++ [wv] = List.replicate (j + 1) wv from List.replicate_succ'.symm]
theorem wj_end {h₀ h' : Heap} {L k I : Addr} {it ob : Obj} {sv : List Value} {wv : Value} {n nk j tk : Nat} {m₀ m : Str → Option Value} {base : Ledger} {axp : Addr × Obj} {s₁ : Shared} (F : Fr h₀ L h' (fun z => if z = Str.ofString "one" then some wv else m z))
    (N : News h₀ L h' ((k, listOf (sv ++ List.replicate j wv ++ [wv]).toArray nk) :: (I, it) :: base)) (hax : axp ∈ base) (off : ∀ p ∈ (k, ob) :: base, p.1 ≠ I) (hj : j < n) (hm : ∀ z, z ≠ Str.ofString "one" → m z = m₀ z) :
    UnrEnd h₀ L s₁ I it (fun m' n' => axp ∈ n' ∧ WJ k sv wv n m₀ base (List.replicate (n - (j + 1)) wv) m' n') { s₁ with heap := h', toks := tk } := by
  refine UnrEnd.intro F N ((k, listOf (sv ++ List.replicate j wv ++ [wv]).toArray nk) :: base) (fun p hp => ?_) (List.forall_mem_cons.mpr ⟨off (k, ob) (.head _), fun p hp => off p (.tail _ hp)⟩) ⟨.tail _ hax, wj_next hj hm⟩
  rcases List.mem_cons.mp hp with rfl | hp
  · exact .tail _ (.head _)
  rcases List.mem_cons.mp hp with rfl | hp
  · exact .head _
  · exact .tail _ (.tail _ hp)
theorem carried_rep {v : Value} {d : PyData} (h : Carried v d) : ∀ n : Nat, CarriedAll (List.replicate n v) (List.replicate n d)
  | 0 => .nil
  | n + 1 => .cons h (carried_rep h n)
theorem lay_rep {d : PyData} (h : PyData.canLay0 d = true) : ∀ n : Nat, PyData.canLayAll0 (List.replicate n d) = true
  | 0 => rfl
  | n + 1 => by
    rw [List.replicate_succ]
    unfold PyData.canLayAll0
    rw [h, lay_rep h n]; rfl
theorem dep_rep {d : PyData} (h : PyData.depth d = 0) : ∀ n : Nat, PyData.depthAll (List.replicate n d) = 0
  | 0 => rfl
  | n + 1 => by
    rw [List.replicate_succ]
    unfold PyData.depthAll
    rw [h, dep_rep h n]; rfl
/-- the frame after the code has gone on -/
def FD.went (x : FD) (wv : Value) (wd : PyData) (n : Nat) (pc : Int) (tp : Tok) (hs : Int) (key : Value) (n' nk' : Nat) : FD :=
  { x with es := putL (Str.ofString "pc") hs key (.int pc tp) x.es, n := n', sv := x.sv ++ List.replicate n wv, nk := nk', ds := x.ds ++ List.replicate n wd, pc := pc, tp := tp }
theorem FdIn.went {M : Nat} {rest : Ledger} {x : FD} (h : FdIn M rest x) {wv : Value} {wd : PyData} {n : Nat} (hw : Carried wv wd) {pc : Int} {tp : Tok} {hs : Int} {key : Value} {n' nk' : Nat} : FdIn (M + n) rest (x.went wv wd n pc tp hs key n' nk') where
  hf := h.hf
  hu := h.hu
  hud := h.hud
  ht := h.ht
  hin := h.hin
  aft := h.aft
  dep := h.dep
  gU := getL_put_ne (by decide) h.gP h.gU
  gK := getL_put_ne (by decide) h.gP h.gK
  gP := getL_put_same h.gP
  gF := getL_put_ne (by decide) h.gP h.gF
  gH := h.gH
  len := by show (putL _ _ _ _ _).length ≤ _; rw [putL_len_same h.gP]; exact h.len
  car := carried_app h.car (carried_rep hw n)
  small := by
    show (x.sv ++ List.replicate n wv).length ≤ _
    rw [List.length_append, List.length_replicate]
    exact Nat.add_le_add_right h.small n
  many := h.many
theorem AfOk.went {x : FD} (h : AfOk x.abs) {wv : Value} {wd : PyData} {n : Nat} (hl : PyData.canLay0 wd = true) (hd : PyData.depth wd = 0) {pc : Int} {tp : Tok} {hs : Int} {key : Value} {n' nk' : Nat} : AfOk (x.went wv wd n pc tp hs key n' nk').abs :=
  ⟨h.aft, h.dep, lay_app h.lay (lay_rep hl n), dep_app h.deep (dep_rep hd n)⟩
theorem safe_imm {ms : List Addr} {imm : Ledger} {T S : Addr} {oT oS : Obj} (h : Safe ms imm) (hT : ∀ a ∈ ms, @Ne Nat T a) (hS : ∀ a ∈ ms, @Ne Nat S a) : Safe ms ((T, oT) :: (S, oS) :: imm) :=
  ⟨h.nd, fun a ha => List.forall_mem_cons.mpr ⟨hT a ha, List.forall_mem_cons.mpr ⟨hS a ha, h.off a ha⟩⟩⟩
theorem new_far {T mo b fr sz : Addr} {y : FD} {r : List FD} {imm : Ledger} (h1 : @Ne Nat T mo) (h2 : @Ne Nat T b) (h3 : @Ne Nat T fr) (h4 : @Ne Nat T sz) (h5 : @Ne Nat T y.fd) (h6 : @Ne Nat T y.k) (h7 : ∀ q ∈ r.flatMap FD.muts ++ imm, q.1 ≠ T) : ∀ a ∈ mo :: b :: fr :: sz :: (y :: r).flatMap FD.mutA, @Ne Nat T a := by
  intro a ha
  have ha : a ∈ mo :: b :: fr :: sz :: y.fd :: y.k :: r.flatMap FD.mutA := ha
  rcases List.mem_cons.mp ha with rfl | ha
  · exact h1
  rcases List.mem_cons.mp ha with rfl | ha
  · exact h2
  rcases List.mem_cons.mp ha with rfl | ha
  · exact h3
  rcases List.mem_cons.mp ha with rfl | ha
  · exact h4
  rcases List.mem_cons.mp ha with rfl | ha
  · exact h5
  rcases List.mem_cons.mp ha with rfl | ha
  · exact h6
  · obtain ⟨o, h, -⟩ := mut_obj ha
    exact (h7 _ (List.mem_append_left _ h)).symm
theorem tj_end {h₀ h' : Heap} {L I mo b fr sz sl T S aa : Addr} {it : Obj} {x' : Bx} {nm nf nz nl n1 nk ns na n tk' i : Nat} {y : FD} {r : List FD} {szs vs v0 tv9 sv9 : List Value} {ks : List Int} {imm all : Ledger} {s₁ : Shared} {m' : Str → Option Value}
    {wv : Value} {wd : PyData} {pc : Int} {tp1 tp2 : Tok} {hs : Int} {key : Value}
    (F : Fr h₀ L h' m') (N : News h₀ L h' all)
    (k1 : (mo, listOf (v0.reverse ++ [Value.ref T]).toArray nm) ∈ all) (k2 : (b, x'.obj sl) ∈ all) (k3 : (fr, listOf ((r.map FD.ref).reverse ++ [Value.ref y.f]).toArray nf) ∈ all) (k4 : (sz, listOf szs.toArray nz) ∈ all) (k5 : (I, it) ∈ all)
    (k6 : (y.fd, dictOf (putL (Str.ofString "pc") hs key (.int pc tp1) y.es) n1) ∈ all) (k7 : (y.k, listOf (y.sv ++ List.replicate n wv).toArray nk) ∈ all)
    (k8 : (T, tupOf [.ref aa, .ref S, .int pc tp2, .bool y.fl]) ∈ all) (k9 : (S, listOf (sv9 ++ List.replicate n wv).toArray ns) ∈ all) (k10 : ∀ q ∈ r.flatMap FD.muts ++ imm, q ∈ all)
    (S0 : Safe (mo :: b :: fr :: sz :: (y :: r).flatMap FD.mutA) imm) (oI : ∀ a ∈ mo :: b :: fr :: sz :: (y :: r).flatMap FD.mutA, @Ne Nat a I) (hT : ∀ a ∈ mo :: b :: fr :: sz :: (y :: r).flatMap FD.mutA, @Ne Nat T a) (hS : ∀ a ∈ mo :: b :: fr :: sz :: (y :: r).flatMap FD.mutA, @Ne Nat S a)
    (hTI : @Ne Nat T I) (hSI : @Ne Nat S I) (oimm : ∀ q ∈ imm, q.1 ≠ I)
    (hsl : (sl, listOf vs.toArray nl) ∈ imm) (hx : x'.Ok) (e1 : r.length + 1 ≤ szs.length) (e2 : szs.length ≤ 3) (hks : IntsAre szs ks)
    (hok : ∀ x ∈ y :: r, FdIn (10 + 10 * i + 2) imm x) (hab : ∀ x ∈ (y :: r).map FD.abs, AfOk x) (hn : n ≤ 3)
    (q2 : (aa, listOf tv9.toArray na) ∈ imm) (q3 : HdsIn imm tv9 y.hs) (q5 : CarriedAll sv9 y.ds) (q6 : sv9.length ≤ 10 + 10 * i + 2) (q7 : tv9.length ≤ 1000) (hmd : MdsIn (10 + 10 * i + 2) imm v0 (r.map FD.abs))
    (hw : Carried wv wd) (hwl : PyData.canLay0 wd = true) (hwd : PyData.depth wd = 0)
    (g1 : m' (Str.ofString "box") = some (.ref b)) (g2 : m' (Str.ofString "frames") = some (.ref fr)) (g3 : m' (Str.ofString "sizes") = some (.ref sz)) (g4 : m' (Str.ofString "model") = some (.ref mo)) :
    UnrEnd h₀ L s₁ I it (TJ2 mo b fr sz sl nl vs (i + 1)) { s₁ with heap := h', toks := tk' } := by
  have sub : ∀ p ∈ imm, p ∈ (T, tupOf [.ref aa, .ref S, .int pc tp2, .bool y.fl]) :: (S, listOf (sv9 ++ List.replicate n wv).toArray ns) :: imm := fun p hp => .tail _ (.tail _ hp)
  refine ⟨h', tk', m', (mo, listOf (List.reverse (Value.ref T :: v0)).toArray nm) :: (b, x'.obj sl) :: (fr, listOf ((((y.went wv wd n pc tp1 hs key n1 nk) :: r).map FD.ref).reverse).toArray nf) :: (sz, listOf szs.toArray nz) :: (((y.went wv wd n pc tp1 hs key n1 nk) :: r).flatMap FD.muts ++ ((T, tupOf [.ref aa, .ref S, .int pc tp2, .bool y.fl]) :: (S, listOf (sv9 ++ List.replicate n wv).toArray ns) :: imm)), rfl, F, newsSub N fun q hq => ?_, ?_,
    x', (y.went wv wd n pc tp1 hs key n1 nk) :: r, Value.ref T :: v0, szs, ks, nf, nm, nz, _, rfl, sub _ hsl, hx, safe_imm S0 hT hS, e1, e2, hks, fun x hx => ?_, fun x hx => ?_, .cons ?_ (hmd.mono sub (by omega)), g1, g2, g3, g4⟩
  · rw [List.map_cons, List.reverse_cons, List.reverse_cons] at hq
    rcases List.mem_cons.mp hq with rfl | hq
    · exact k5
    rcases List.mem_cons.mp hq with rfl | hq
    · exact k1
    rcases List.mem_cons.mp hq with rfl | hq
    · exact k2
    rcases List.mem_cons.mp hq with rfl | hq
    · exact k3
    rcases List.mem_cons.mp hq with rfl | hq
    · exact k4
    have hq : q ∈ (y.fd, dictOf (putL (Str.ofString "pc") hs key (.int pc tp1) y.es) n1) :: (y.k, listOf (y.sv ++ List.replicate n wv).toArray nk) :: (r.flatMap FD.muts ++ ((T, tupOf [.ref aa, .ref S, .int pc tp2, .bool y.fl]) :: (S, listOf (sv9 ++ List.replicate n wv).toArray ns) :: imm)) := hq
    rcases List.mem_cons.mp hq with rfl | hq
    · exact k6
    rcases List.mem_cons.mp hq with rfl | hq
    · exact k7
    rcases List.mem_append.mp hq with hq | hq
    · exact k10 q (List.mem_append_left _ hq)
    rcases List.mem_cons.mp hq with rfl | hq
    · exact k8
    rcases List.mem_cons.mp hq with rfl | hq
    · exact k9
    · exact k10 q (List.mem_append_right _ hq)
  · intro q hq
    rcases List.mem_cons.mp hq with rfl | hq
    · exact oI _ (.head _)
    rcases List.mem_cons.mp hq with rfl | hq
    · exact oI _ (.tail _ (.head _))
    rcases List.mem_cons.mp hq with rfl | hq
    · exact oI _ (.tail _ (.tail _ (.head _)))
    rcases List.mem_cons.mp hq with rfl | hq
    · exact oI _ (.tail _ (.tail _ (.tail _ (.head _))))
    rcases List.mem_append.mp hq with hq | hq
    · exact oI q.1 (.tail _ (.tail _ (.tail _ (.tail _ (by
        have e : ((y.went wv wd n pc tp1 hs key n1 nk) :: r).flatMap FD.mutA = (y :: r).flatMap FD.mutA := rfl
        rw [← e]; exact mut_addr hq)))))
    rcases List.mem_cons.mp hq with rfl | hq
    · exact hTI
    rcases List.mem_cons.mp hq with rfl | hq
    · exact hSI
    · exact oimm q hq
  · rcases List.mem_cons.mp hx with rfl | hx
    · exact (((hok y (.head _)).mono sub).went hw).more (by omega)
    · exact ((hok x (.tail _ hx)).mono sub).more (by omega)
  · rcases List.mem_cons.mp hx with rfl | hx
    · exact AfOk.went (hab _ (.head _)) hwl hwd
    · exact hab _ (.tail _ hx)
  · refine ⟨T, aa, S, tv9, na, sv9 ++ List.replicate n wv, ns, tp2, rfl, .head _, .tail _ (.tail _ q2), q3.mono sub, .tail _ (.head _), carried_app q5 (carried_rep hw n), ?_, q7⟩
    rw [List.length_append, List.length_replicate]
    omega
-- M19
local macro_rules | `(tactic| walk_at "call ref") => `(tactic| (k_here; (with_reducible show wpAny _ _ (call (Value.ref 131) [Value.ref _, Value.int _ _]) _ _ _); refine Stop.mk ?_))
local macro_rules | `(tactic| walk_at "call ref") => `(tactic| (k_here; (with_reducible show wpAny _ _ (call (Value.ref 145) [Value.ref _, _]) _ _ _); refine Stop.mk ?_))
local macro_rules | `(tactic| walk_at "call ref") => `(tactic| (k_here; (with_reducible show wpAny _ _ (call (Value.ref 91) [Value.ref _, _]) _ _ _); refine Stop.mk ?_))
local macro_rules | `(tactic| walk_at "call ref") => `(tactic| (k_here; (with_reducible show wpAny _ _ (call (Value.ref 150) [Value.ref _]) _ _ _); refine Stop.mk ?_))
local macro_rules | `(tactic| walk_at "call ref") => `(tactic| (k_here; (with_reducible show wpAny _ _ (call (Value.ref 119) [Value.ref _, Value.int _ _]) _ _ _); (rename Mark9 => hM9); clear hM9; refine Stop.mk ?_))
local macro_rules | `(tactic| walk_at "compareOp NotEq ref ref") => `(tactic| (k_here; (with_reducible show wpAny _ _ (compareOp CmpOp.NotEq (Value.ref _) (Value.ref _)) _ _ _); refine Stop.mk ?_))
local macro_rules | `(tactic| walk_at "call type:list") => `(tactic| (k_here; (with_reducible show wpAny _ _ (call (Value.type "list") [Value.ref _]) _ _ _); k_dflt (refine' copy_call (by k_asm) (by k_asm) (by k_mem) (by walk_at "mine size") ?_; k_whole); intro D' c' h' F' N' l1; (try k_lt l1); (try k_sweep)))
local macro_rules | `(tactic| walk_at "mine idx") => `(tactic| (simp only [List.length_append, List.length_cons, List.length_nil, List.length_reverse, List.length_map]; omega))
local macro_rules | `(tactic| walk_at "subscriptTail Name BinOp ref int") => `(tactic| (k_here; (with_reducible show wpAny _ _ (subscriptTail _ _ (Value.ref _) (Value.int _ _)) _ _ _); (with_unfolding_all refine' sub_call ?N ?hm ?hks ?h0 ?h1 ?hz ?_ ?hs; (case N => k_asm); (case hm => k_mem); (case hks => assumption); (case h0 => walk_at "mine idx"); (case h1 => walk_at "mine idx"); (case hz => assumption); (case hs => with_unfolding_all rfl); k_whole); intro z' tz'))
set_option maxHeartbeats 2000000 in
theorem law_holds : PySem.Challenge.rw_nt0342_01.Holds := Mine.hd (by
  k_go0
  all_goals try k_fold
  have mark9 : Mark9 := trivial
  k_steps
  unfold Stop
  rename News _ _ _ _ => kN9
  replace kN9 := law_start kN9
  rename (IntsAre _ (List.take 40 _)) => hI9
  have hln9 := take_le hI9
  k_dflt (refine' take_call ?B ?F ?X ?T ?hk ?hd ?hu kN9 .head ?hsl ?hi ?hln ?hr ?hm box_start ?_; (case B => k_asm); (case F => k_asm); (case X => k_asm); (case T => k_asm); (case hk => first | exact rfl | assumption); (case hsl => k_mem); (case hi => exact hI9); (case hln => exact hln9); (case hr => k_all); (case hm => decide); (case hd => walk_at "mine room"); (case hu => walk_at "mine units"); k_whole)
  intro x9 v9 tv9 h9 tk9 F9 N9 hx9 hv90 hv91
  try dsimp only
  try k_fold
  k_steps
  unfold Stop
  rename News _ _ _ _ => kN9
  refine' range13L (by assumption) (by assumption) (by assumption) rfl (by assumption) kN9 hx9 (by k_ne) (by k_ne) (by k_ne) (by k_ne) (by k_ne) (by k_ne) (by walk_at "mine look") (by walk_at "mine look") (by walk_at "mine look") ?turn ?done
  case done =>
    rintro n m₁ nx h₁ tk₁ hn1 hn3 ⟨x₁, rfds, szs, nf, nz, imm, rfl, hs₁, hx₁, S, hl1, hl2, ⟨ks, hks⟩, hok, g1, g2, g3⟩ F₁ N₁
    dsimp only [envOf] at F₁ N₁
    try dsimp only
    try k_fold
    k_steps
    unfold Stop
    have hr9 : rfds.length ≤ 3 := by omega
    refine LCg.CompSrc.ledger (by rfl) (by assumption) (by assumption) (.tail _ (.head _)) (size_ok (by simp only [List.length_reverse, List.length_map]; omega)) ?_
    intro g
    have hsize : ((rfds.map FD.ref).reverse).toArray.size = rfds.reverse.length := by simp
    refine compJ (MJ rfds.reverse _ imm) ?turn2 ?done2 _ 0 [] _ (Nat.zero_add _) ⟨[], rfl, .nil, fun _ h => absurd h List.not_mem_nil⟩
    case done2 =>
      rintro ys nx ⟨tl, rfl, hmd, hfr⟩
      rw [hsize, List.take_length] at hmd
      k_steps
      unfold Stop
      rename LCg.Off1 _ _ => hO9
      rename News _ _ _ _ => kN9
      refine' range4L (by assumption) rfl (by assumption) kN9 hs₁ hx₁ S hO9 hfr (by omega) (by omega) hks hok hmd (by walk_at "mine look") (by walk_at "mine look") (by walk_at "mine look") (by walk_at "mine look") ?turn3 ?done3
      case done3 =>
        rintro m₂ nx h₂ tk₂ F₂ N₂
        dsimp only [envOf] at F₂ N₂
        try dsimp only
        try k_fold
        k_steps
      case turn3 =>
        clear kN9 hO9 hfr hmd hok S
        rintro i m₂ nx tk₀ h₂ tk₂ I it hi4 ⟨x₂, rf, rv, szs₂, ks₂, nf₂, nm₂, nz₂, imm₂, rfl, hs₂, hx₂, S₂, d1, d2, hks₂, hok₂, hab, hmd₂, g1, g2, g3, g4⟩ hit off F₂ N₂
        have hr2 : rf.length ≤ 3 := by omega
        have hr3 : rv.length ≤ 10 := by rw [hmd₂.length, List.length_map]; omega
        dsimp only [envOf] at F₂ N₂
        try k_fold
        k_steps
        unfold Stop
        k_dflt (refine' due_law ?B ?F ?X ?T ?hk ?hd ?hu ?N hmd₂ ?hM hr3 hab S₂ off (.str _ _) ?hl rfl ?_; (case B => k_asm); (case F => k_asm); (case X => k_asm); (case T => k_asm); (case hk => first | exact rfl | assumption); (case N => k_asm); (case hM => omega); (case hd => walk_at "mine room"); (case hu => walk_at "mine units"); (case hl => exact str_app (str_lit _) (str_lit _)); k_whole)
        intro rv' nm' tl3 h' tk' F' N' H' S' oI' hOk
        generalize hst : stepR _ (rf.map FD.abs) = r9 at H' hOk ⊢
        obtain ⟨due9, out9⟩ := r9
        cases due9
        all_goals (
          dsimp only at H' hOk
          try dsimp only
          try k_fold
          k_steps
          unfold Stop
          k_dflt (refine' unwind_law (rfds := rf) ?B ?F ?X ?T ?hk ?hd ?hu ?N (fun y hy => (hok₂ y hy).mono fun q hq => List.mem_append_left _ hq) ?hM ?hl S' (mut_ne off) (.str _ _) ?_; (case B => k_asm); (case F => k_asm); (case X => k_asm); (case T => k_asm); (case hk => first | exact rfl | assumption); (case N => k_asm); (case hM => omega); (case hl => omega); (case hd => walk_at "mine room"); (case hu => walk_at "mine units"); k_whole)
          intro rf' nf' h' tk' F' N' ok' ab' S'' oI'' le'
          rw [hst] at ab' ⊢
          dsimp only at ab'
          try dsimp only
          try k_fold
          k_steps
          unfold Stop
          k_dflt (refine' told0 (rfds := rf') ?B ?F ?X ?T ?hk ?hd ?hu ?N ?hok9 ?hl ?_; (case B => k_asm); (case F => k_asm); (case X => k_asm); (case T => k_asm); (case hk => first | exact rfl | assumption); (case N => k_asm); (case hok9 => exact fun y hy => (ok' y hy).mono fun q hq => .tail _ (.tail _ (.tail _ (.tail _ hq)))); (case hl => omega); (case hd => walk_at "mine room"); (case hu => walk_at "mine units"); k_whole)
          intro l9 rv2 tl2 h' tk' F' N' H2'
          rw [ab'] at H2'
          try dsimp only
          try k_fold
          k_steps
          unfold Stop
          k_dflt (refine' ne_same (xs := out9) ?N ?hl ?he ?H1 ?H2 hOk ?hu ?_; (case N => k_asm); (case hl => exact .head _); (case he => k_mem); (case H1 => exact H2'.mono (fun q hq => .tail _ hq) (Nat.le_refl _)); (case H2 => exact H'.mono (fun q hq => .tail _ (List.mem_append_right _ (.tail _ (List.mem_append_right _ (.tail _ (.tail _ (.tail _ (.tail _ hq)))))))) (Nat.le_refl _)); (case hu => walk_at "mine units"); k_whole))
        · k_steps
        · have mark10 : True := trivial
          obtain ⟨z9, zs9, hz9⟩ := stepR_true hst
          rcases rf' with _ | ⟨y, r⟩
          · rw [hz9] at ab'; cases ab'
          rw [← ab'] at H' hOk
          rename News _ _ _ _ => kN9
          clear N'
          rcases H' with _ | ⟨hx9, hr9⟩
          rename_i v0 vs0
          obtain ⟨p9, aa, kk, tv9, na, sv9, nk9, tp9, rfl, q1, q2, q3, q4, q5, q6, q7⟩ := hx9
          replace kN9 := law_news2 kN9
          obtain ⟨f1, f2, f3, f4, f5, k1, k2, k3, k4, k5, k6, i1, i2, i3, i4, m1, m2, m3, a1, a2, a3, b0, b1, b2, b3, b4, b5, b6, c0, c1, c2, c3, c4, c5⟩ := S''.far6 oI''
          have hX := ok' y (.head _)
          obtain ⟨hf, hu', hud, ht, hin, aft, dep, gU, gK, gP, gF, gH, len, car, small, many⟩ := hX
          dsimp only [FD.abs] at q1 q3 q5
          have hr1 : r.length ≤ 2 := by have := le'; simp only [List.length_cons] at this; omega
          have hr4 : r.length + 1 ≤ szs₂.length := by have := le'; simp only [List.length_cons] at this; omega
          have hr2' : (r.map FD.ref).reverse.length ≤ 2 := by rw [List.length_reverse, List.length_map]; exact hr1
          k_steps
          unfold Stop
          rename News _ _ _ _ => kN8
          replace kN8 := law_news3 kN8
          refine iter_listJ (by assumption) kN8 (.tail _ (.head _)) rfl (WJ y.k y.sv _ _ _ _) wj_start ?turn4 ?done4
          case turn4 =>
            rintro v9 r9 m₃ nx I₂ it₂ h₃ tk₃ ⟨j9, nk₂, hj9, hr8, rfl, hm9⟩ hl9 off9 hit9 F₃ N₃
            obtain ⟨hj8, rfl, rfl⟩ := wj_cons hr8
            have oK9 : @Ne Nat y.k I₂ := off9 _ (.head _)
            have e91 := (hm9 (Str.ofString "frames") (by decide)).trans g2
            dsimp only [envOf] at F₃ N₃
            try k_fold
            k_steps
            refine wj_end (by assumption) (by assumption) (by k_mem) off9 hj8 hm9
          case done4 =>
            rintro m₃ nx h₃ tk₃ ⟨j9, nk₂, hj9, hr8, rfl, hm9⟩ F₃ N₃
            obtain rfl := wj_nil hr8 hj9
            have t1 : m₃ (Str.ofString "told") = some _ := (hm9 _ (by decide)).trans rfl
            have t2 : m₃ (Str.ofString "stack") = some _ := (hm9 _ (by decide)).trans rfl
            have t3 : m₃ (Str.ofString "place") = some _ := (hm9 _ (by decide)).trans rfl
            have t4 : m₃ (Str.ofString "is_floor") = some _ := (hm9 _ (by decide)).trans rfl
            have t5 : m₃ (Str.ofString "more") = some _ := (hm9 _ (by decide)).trans rfl
            have t6 : m₃ (Str.ofString "step") = some _ := (hm9 _ (by decide)).trans rfl
            have t7 : m₃ (Str.ofString "size") = some _ := (hm9 _ (by decide)).trans rfl
            have t8 := (hm9 (Str.ofString "box") (by decide)).trans g1
            have t9 := (hm9 (Str.ofString "frames") (by decide)).trans g2
            have t10 := (hm9 (Str.ofString "sizes") (by decide)).trans g3
            have t11 := (hm9 (Str.ofString "model") (by decide)).trans g4
            dsimp only [envOf] at F₃ N₃
            try dsimp only
            try k_fold
            k_steps
            refine tj_end (r := r) (y := y) (imm := imm₂ ++ tl3) (nl := 0) (by assumption) (by assumption) (by k_mem) (by k_mem) (by k_mem) (by k_mem) (by k_mem) (by k_mem) (by k_mem) (by k_mem) (by k_mem) (by intro q hq; walk_at "mine sub") S'' oI'' (new_far (imm := imm₂ ++ tl3) (by k_ne) (by k_ne) (by k_ne) (by k_ne) (by k_ne) (by k_ne) (by walk_at "mine off")) (new_far (imm := imm₂ ++ tl3) (by k_ne) (by k_ne) (by k_ne) (by k_ne) (by k_ne) (by k_ne) (by walk_at "mine off")) (by k_ne) (by k_ne) oI' (List.mem_append_left _ hs₂) (by assumption) hr4 d2 hks₂ ok' hOk (by omega) q2 q3 q5 q6 q7 hr9 (.str _ _) (str_lit _) rfl t8 t9 t10 t11
    case turn2 =>
      rintro i ys nx v I oI C oC D m₂ h₁ tk₁ E' hi ⟨tl, rfl, hmd, hfr⟩ hP hC hx F₁ N₁ off ne
      rw [hsize] at hi
      obtain ⟨x, hxi⟩ : ∃ x, rfds.reverse[i]? = some x := ⟨_, List.getElem?_eq_getElem hi⟩
      have hxm : x ∈ rfds := List.mem_reverse.mp (List.mem_of_getElem? hxi)
      have hv : v = .ref x.f := by
        have e : ((rfds.map FD.ref).reverse).toArray[i]? = some v := hP
        rw [List.getElem?_toArray, ← List.map_reverse, List.getElem?_map, hxi] at e
        exact (Option.some.inj e).symm
      subst hv
      have hX := (hok x hxm).1
      obtain ⟨hf, hu', hud, ht, hin, aft, dep, gU, gK, gP, gF, gH, len, car, small, many⟩ := (hok x hxm).1
      have hm1 : (x.fd, dictOf x.es x.n) ∈ rfds.flatMap FD.muts := List.mem_flatMap.mpr ⟨x, hxm, .head _⟩
      have hm2 : (x.k, listOf x.sv.toArray x.nk) ∈ rfds.flatMap FD.muts := List.mem_flatMap.mpr ⟨x, hxm, .tail _ (.head _)⟩
      try k_fold
      k_steps
      unfold Stop
      refine comp_end3 (by assumption) (by assumption) off (by assumption) (by assumption) (by assumption) (.inr ⟨_, .tail _ (.tail _ (.tail _ (List.mem_append_right _ (.tail _ (.head _))))), rfl, _, rfl⟩) (mj_next hxi hmd hfr hX (by assumption) (by assumption) (by assumption))
  case turn =>
    rintro i m₁ nx tk₀ h₁ tk₁ I it hi3 ⟨x₁, rfds, szs, nf, nz, imm, rfl, hs₁, hx₁, S, hl1, hl2, ⟨ks, hks⟩, hok, g1, g2, g3⟩ hit off F₁ N₁
    have Fa := S.far
    have oI1 := off _ (.head _)
    have oI2 := off _ (.tail _ (.head _))
    have oI3 := off _ (.tail _ (.tail _ (.head _)))
    dsimp only at oI1 oI2 oI3
    have oI4 := fun q hq => off q (.tail _ (.tail _ (.tail _ hq)))
    dsimp only [envOf] at F₁ N₁
    try k_fold
    k_steps
    unfold Stop
    k_dflt (refine' frame_call ?B ?F ?X ?T ?hk ?hd ?hu ?N (.tail .head) ?hsl hI9 hln9 ?hb hx₁ ?hn0 ?hn1 ?_; (case B => k_asm); (case F => k_asm); (case X => k_asm); (case T => k_asm); (case hk => first | exact rfl | assumption); (case N => k_asm); (case hsl => k_mem); (case hb => exact Fa.offB oI1); (case hn0 => omega); (case hn1 => omega); (case hd => walk_at "mine room"); (case hu => walk_at "mine units"); k_whole)
    intro x' p D sz' ts tl h' tk' hx' hFd hAf ho1 ho2 ho3 ho4 F' N'
    have S' := safe_more S list_no list_no list_no ho1 ho2 ho3 ho4
    replace N' := law_news N'
    have Fa' := S'.far
    obtain ⟨oF, oS⟩ := law_off Fa' oI2 oI3 N'
    have aFS := Fa'.a3
    have aSF := Fa'.a6
    have hr9 : ((rfds.map FD.ref).reverse).length ≤ 10 := by rw [List.length_reverse, List.length_map]; omega
    clear N₁
    try dsimp only
    try k_fold
    k_steps
    refine lj_end (D := D) (tl := tl) (imm := imm) (rfds := rfds) (ks := ks) (by assumption) (by assumption) (by k_mem) (by k_mem) (by k_mem) (by k_mem) (by intro q hq; walk_at "mine sub") hs₁ hx' S' hl1 hl2 hks hok hFd hAf (by walk_at "mine look") (by walk_at "mine look") (by walk_at "mine look") oI1 oI2 oI3 (it_off hit oI4 ho1 ho4))
end Mine
theorem PySem.Challenge.cw_nt0342_01_holds : PySem.Challenge.rw_nt0342_01.Holds :=
  Mine.law_holds
