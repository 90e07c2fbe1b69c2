import PyProof.Rows.All
import Wide.All
import OpenK.AllK
import Wide.FinOn
import Lean
import PySem.Challenge.RW_nn0248_01
set_option Elab.async false
section
open PySem PySem.W PyProof.Rows PySem.Spec PySem.Calls
set_option maxRecDepth 100000
set_option maxHeartbeats 8000000
namespace Mine
open_top hd for PySem.Challenge.rw_nn0248_01
theorem fillK : (PySem.Challenge.rw_nn0248_01 = PySem.Challenge.rw_nn0248_01) ∧ Mine.hd.heap_39 = Mine.hd.heap_39 := by w_top off; k_fill; exact ⟨rfl, rfl⟩
abbrev Led := List (Addr × Obj)
abbrev tupO (vs : List Value) (n : Nat) : Obj := { cls := .type "tuple", data := .seq vs.toArray n }
def Grows (news all : Led) : Prop := ∀ p ∈ news, p ∈ all
theorem Grows.refl {news : Led} : Grows news news := fun _ h => h
theorem Grows.cons {news all : Led} {q : Addr × Obj} (G : Grows news all) : Grows news (q :: all) := fun p hp => .tail _ (G p hp)
theorem Grows.app {news all tl : Led} (G : Grows news all) : Grows news (tl ++ all) := fun p hp => List.mem_append.mpr (.inr (G p hp))
theorem Grows.trans {a b c : Led} (G : Grows a b) (H : Grows b c) : Grows a c := fun p hp => H p (G p hp)
theorem Grows.sub {a b : Led} (G : Grows a b) : ∀ p ∈ a, p ∈ b := G
def Says (f : Addr) (n : Nat) (Pre : Led → Prop) (vs : List Value) (Out : Led → Value → Prop) : Prop :=
  ∀ (w : World) (mean : ExcName → Option Value) (mg mb : Str → Option Value)
   (dp un : Nat) (gd : Option (List Code)) (cn : Str) (cs : Scope) (a : Addr) (ccd : Value) (cl : List (Str × Addr)) (outer : List Env) (A₀ : Around) (base h₀ : Heap) (L : Addr) (m : Str → Option Value) (news : Led) (s : Shared)
    (Q E : Value → Shared → Prop),
    Below A₀ base outer h₀ → Fr h₀ L s.heap m → (hd.heap_39 w.params).In h₀ → News h₀ L s.heap news → Top hd.view_39 (looseW hd.view_39 []) mean mg mb h₀ → cs.kind = .function → Pre news → dp + n < recursionLimit → un + 8 * n < cLine →
    (∀ r all h' tk', Fr h₀ L h' m → News h₀ L h' all → Grows news all → Out all r → Q r { s with heap := h', toks := tk' }) →
    wpAny (model PySem.Challenge.pw_nn0248_01 w) (ktrTop dp un gd cn cs L a ccd cl outer) (call (.ref f) vs) Q E s
theorem says_use {f : Addr} {n : Nat} {Pre : Led → Prop} {vs : List Value} {Out : Led → Value → Prop} (S : Says f n Pre vs Out)
  {w : World} {mean : ExcName → Option Value} {mg mb : Str → Option Value}
   {dp un : Nat} {gd : Option (List Code)} {cn : Str} {cs : Scope} {a : Addr} {ccd : Value} {cl : List (Str × Addr)} {outer : List Env} {A₀ : Around} {base h₀ : Heap} {L : Addr} {m : Str → Option Value} {news : Led} {s : Shared}
    {Q E : Value → Shared → Prop} (B : Below A₀ base outer h₀) (F : Fr h₀ L s.heap m) (X : (hd.heap_39 w.params).In h₀) (N : News h₀ L s.heap news) (T : Top hd.view_39 (looseW hd.view_39 []) mean mg mb h₀) (hk : cs.kind = .function)
    (hp : Pre news) (hd1 : dp + n < recursionLimit) (hu : un + 8 * n < cLine)
    (ret : ∀ r tl h' tk', Fr h₀ L h' m → News h₀ L h' (tl ++ news) → Out tl r → Q r { s with heap := h', toks := tk' }) :
    wpAny (model PySem.Challenge.pw_nn0248_01 w) (ktrTop dp un gd cn cs L a ccd cl outer) (call (.ref f) vs) Q E s :=
  S _ _ _ _ _ _ _ _ _ _ _ _ _ _ _ _ _ _ _ _ _ _ B F X N T hk hp hd1 hu (fun r all h' tk' F' N' G O => ret r all h' tk' F' (fun p hp => (List.mem_append.mp hp).elim (N' p) fun h => N' p (G p h)) O)
def SaysW (f : Addr) (n : Nat) (Pre : World → Heap → Led → Prop) (vs : List Value) (Out : World → Led → Led → Value → Prop) : Prop :=
  ∀ (w : World) (mean : ExcName → Option Value) (mg mb : Str → Option Value)
   (dp un : Nat) (gd : Option (List Code)) (cn : Str) (cs : Scope) (a : Addr) (ccd : Value) (cl : List (Str × Addr)) (outer : List Env) (A₀ : Around) (base h₀ : Heap) (L : Addr) (m : Str → Option Value) (news : Led) (s : Shared)
    (Q E : Value → Shared → Prop),
    Below A₀ base outer h₀ → Fr h₀ L s.heap m → (hd.heap_39 w.params).In h₀ → News h₀ L s.heap news → Top hd.view_39 (looseW hd.view_39 []) mean mg mb h₀ → cs.kind = .function → Pre w h₀ news → dp + n < recursionLimit → un + 8 * n < cLine →
    (∀ r all h' tk', Fr h₀ L h' m → News h₀ L h' all → Out w news all r → Q r { s with heap := h', toks := tk' }) →
    wpAny (model PySem.Challenge.pw_nn0248_01 w) (ktrTop dp un gd cn cs L a ccd cl outer) (call (.ref f) vs) Q E s
theorem saysW_use {f : Addr} {n : Nat} {Pre : World → Heap → Led → Prop} {vs : List Value} {Out : World → Led → Led → Value → Prop} (S : SaysW f n Pre vs Out)
  {w : World} {mean : ExcName → Option Value} {mg mb : Str → Option Value}
   {dp un : Nat} {gd : Option (List Code)} {cn : Str} {cs : Scope} {a : Addr} {ccd : Value} {cl : List (Str × Addr)} {outer : List Env} {A₀ : Around} {base h₀ : Heap} {L : Addr} {m : Str → Option Value} {news : Led} {s : Shared}
    {Q E : Value → Shared → Prop} (B : Below A₀ base outer h₀) (F : Fr h₀ L s.heap m) (X : (hd.heap_39 w.params).In h₀) (N : News h₀ L s.heap news) (T : Top hd.view_39 (looseW hd.view_39 []) mean mg mb h₀) (hk : cs.kind = .function)
    (hp : Pre w h₀ news) (hd1 : dp + n < recursionLimit) (hu : un + 8 * n < cLine)
    (ret : ∀ r all h' tk', Fr h₀ L h' m → News h₀ L h' all → Out w news all r → Q r { s with heap := h', toks := tk' }) :
    wpAny (model PySem.Challenge.pw_nn0248_01 w) (ktrTop dp un gd cn cs L a ccd cl outer) (call (.ref f) vs) Q E s :=
  S _ _ _ _ _ _ _ _ _ _ _ _ _ _ _ _ _ _ _ _ _ _ B F X N T hk hp hd1 hu ret
abbrev OutF (P : Led → Addr → Prop) (news all : Led) (r : Value) : Prop := Grows news all ∧ ∃ c, r = .ref c ∧ P all c ∧ ∀ q ∈ news, q.1 ≠ c
theorem saysF_use {f : Addr} {n : Nat} {Pre : Led → Prop} {vs : List Value} {P : Led → Addr → Prop} (S : SaysW f n (fun _ _ l => Pre l) vs (fun _ news all r => OutF P news all r))
  {w : World} {mean : ExcName → Option Value} {mg mb : Str → Option Value}
   {dp un : Nat} {gd : Option (List Code)} {cn : Str} {cs : Scope} {a : Addr} {ccd : Value} {cl : List (Str × Addr)} {outer : List Env} {A₀ : Around} {base h₀ : Heap} {L : Addr} {m : Str → Option Value} {news : Led} {s : Shared}
    {Q E : Value → Shared → Prop} (B : Below A₀ base outer h₀) (F : Fr h₀ L s.heap m) (X : (hd.heap_39 w.params).In h₀) (N : News h₀ L s.heap news) (T : Top hd.view_39 (looseW hd.view_39 []) mean mg mb h₀) (hk : cs.kind = .function)
    (hp : Pre news) (hd1 : dp + n < recursionLimit) (hu : un + 8 * n < cLine)
    (ret : ∀ r tl h' tk', Fr h₀ L h' m → News h₀ L h' (tl ++ news) → (∃ c, r = .ref c ∧ P tl c ∧ ∀ q ∈ news, q.1 ≠ c) → Q r { s with heap := h', toks := tk' }) :
    wpAny (model PySem.Challenge.pw_nn0248_01 w) (ktrTop dp un gd cn cs L a ccd cl outer) (call (.ref f) vs) Q E s :=
  S _ _ _ _ _ _ _ _ _ _ _ _ _ _ _ _ _ _ _ _ _ _ B F X N T hk hp hd1 hu (fun r all h' tk' F' N' O => ret r all h' tk' F' (fun p hp => (List.mem_append.mp hp).elim (N' p) fun h => N' p (O.1 p h)) O.2)
theorem SaysW.says {f : Addr} {n : Nat} {Pre : Led → Prop} {vs : List Value} {P : Led → Addr → Prop} (S : SaysW f n (fun _ _ l => Pre l) vs (fun _ news all r => OutF P news all r)) :
    Says f n Pre vs (fun all r => ∃ c, r = .ref c ∧ P all c) :=
  fun _ _ _ _ _ _ _ _ _ _ _ _ _ _ _ _ _ _ _ _ _ _ B F X N T hk hp hd1 hu ret => S _ _ _ _ _ _ _ _ _ _ _ _ _ _ _ _ _ _ _ _ _ _ B F X N T hk hp hd1 hu fun r all h' tk' F' N' O => ret r all h' tk' F' N' O.1 ⟨O.2.choose, O.2.choose_spec.1, O.2.choose_spec.2.1⟩
def RatAt (news : Led) (a : Addr) (x : Int × Int) : Prop :=
  (∃ t u n, (a, tupO [.int x.1 t, .int x.2 u] n) ∈ news) ∨ (a = 42 ∧ x = (0, 1)) ∨ (a = 43 ∧ x = (1, 1))
theorem RatAt.mono {l l' : Led} {a : Addr} {x : Int × Int} (h : RatAt l a x) (hs : ∀ p ∈ l, p ∈ l') : RatAt l' a x := by
  rcases h with ⟨t, u, n, h⟩ | h
  · exact .inl ⟨t, u, n, hs _ h⟩
  · exact .inr h
theorem RatAt.new {l : Led} {a : Addr} {p q : Int} {t u : Tok} {n : Nat} {x : Int × Int} (h : (a, tupO [.int p t, .int q u] n) ∈ l) (e : x = (p, q)) : RatAt l a x := by
  subst e; exact .inl ⟨t, u, n, h⟩
theorem RatAt.mk {l : Led} {a : Addr} {p q : Int} {t u : Tok} {n : Nat} (h : (a, tupO [.int p t, .int q u] n) ∈ l) : RatAt l a (p, q) := .new h rfl
theorem RatAt.zero {l : Led} : RatAt l 42 (0, 1) := .inr (.inl ⟨rfl, rfl⟩)
theorem ratTop {h₀ h : Heap} {L : Addr} {l : Led} {a : Addr} {p q : Int} {t u : Tok} {n : Nat} (_N : News h₀ L h ((a, tupO [.int p t, .int q u] n) :: l)) : RatAt ((a, tupO [.int p t, .int q u] n) :: l) a (p, q) := .mk (.head _)
theorem k42 (w : World) : ∃ t u n o, (hd.heap_39 w.params).lookup 42 = some o ∧ o.cls = .type "tuple" ∧ o.data = .seq [.int 0 t, .int 1 u].toArray n := ⟨_, _, _, _, rfl, rfl, rfl⟩
theorem k43 (w : World) : ∃ t u n o, (hd.heap_39 w.params).lookup 43 = some o ∧ o.cls = .type "tuple" ∧ o.data = .seq [.int 1 t, .int 1 u].toArray n := ⟨_, _, _, _, rfl, rfl, rfl⟩
theorem RatAt.tup {w : World} {h₀ h : Heap} {L a : Addr} {m : Str → Option Value} {news l : Led} {x : Int × Int} (R : RatAt l a x) (hs : ∀ p ∈ l, p ∈ news) (F : Fr h₀ L h m) (X : (hd.heap_39 w.params).In h₀) (N : News h₀ L h news) :
    ∃ t u, IsTup h a [Value.int x.1 t, .int x.2 u].toArray := by
  rcases R with ⟨t, u, n, hm⟩ | ⟨rfl, rfl⟩ | ⟨rfl, rfl⟩
  · exact ⟨t, u, _, (N _ (hs _ hm)).1, rfl, n, rfl⟩
  · obtain ⟨t, u, n, o, h1, h2, h3⟩ := k42 w
    exact ⟨t, u, o, F.keep _ _ (X _ _ h1), h2, n, h3⟩
  · obtain ⟨t, u, n, o, h1, h2, h3⟩ := k43 w
    exact ⟨t, u, o, F.keep _ _ (X _ _ h1), h2, n, h3⟩
section
variable {prog : Program} {w : World} {A : Around} {E : Value → Shared → Prop} {s : Shared} {h₀ : Heap} {L a : Addr} {m : Str → Option Value} {news l : Led} {x : Int × Int}
theorem rat_item0 {value slice : PySem.Expr} {u : Tok} {Q : Value → Shared → Prop} (F : Fr h₀ L s.heap m) (X : (hd.heap_39 w.params).In h₀) (N : News h₀ L s.heap news) (R : RatAt l a x) (hs : ∀ p ∈ l, p ∈ news)
    (h : ∀ t, Q (.int x.1 t) s) (he : subscripted slice false (.ref a) (.int 0 u) = operate [.ref a, .int 0 u] (getItem (.ref a) (.int 0 u)) := by with_unfolding_all rfl) :
    wpAny (model prog w) A (subscriptTail value slice (.ref a) (.int 0 u)) Q E s := by
  obtain ⟨t, u', T⟩ := R.tup hs F X N
  exact item_tupleT T (by decide) (by decide) (j := 0) rfl rfl (h t) he
theorem rat_item1 {value slice : PySem.Expr} {u : Tok} {Q : Value → Shared → Prop} (F : Fr h₀ L s.heap m) (X : (hd.heap_39 w.params).In h₀) (N : News h₀ L s.heap news) (R : RatAt l a x) (hs : ∀ p ∈ l, p ∈ news)
    (h : ∀ t, Q (.int x.2 t) s) (he : subscripted slice false (.ref a) (.int 1 u) = operate [.ref a, .int 1 u] (getItem (.ref a) (.int 1 u)) := by with_unfolding_all rfl) :
    wpAny (model prog w) A (subscriptTail value slice (.ref a) (.int 1 u)) Q E s := by
  obtain ⟨t, u', T⟩ := R.tup hs F X N
  exact item_tupleT T (by decide) (by decide) (j := 1) rfl rfl (h u') he
end
theorem fr_know {h₀ h : Heap} {L : Addr} {m : Str → Option Value} {v : Value} (F : Fr h₀ L h m) (x : Str) (e : m x = some v) : Fr h₀ L h (fun y => if y = x then some v else m y) := by
  have q : (fun y => if y = x then some v else m y) = m := funext fun y => by by_cases h : y = x <;> simp [h, e]
  rw [q]; exact F
theorem While2.end {h₀ h' : Heap} {L : Addr} {s : Shared} {J : Nat → (Str → Option Value) → Led → Prop} {Q : Flow → Shared → Prop} {n n' tk : Nat} {m₂ : Str → Option Value} {news₂ : Led}
    (F : Fr h₀ L h' m₂) (N : News h₀ L h' news₂) (hn : n' < n) (hJ : J n' m₂ news₂) : WhileStep2 h₀ L s J Q n .next { s with heap := h', toks := tk } :=
  ⟨h', tk, m₂, news₂, n', rfl, F, N, hn, hJ⟩
theorem room_le {dp n k d : Nat} (e : d = dp + 1) (h : dp + n < recursionLimit) (hk : k + 1 ≤ n) : d + k < recursionLimit := by omega
theorem units_le {un n k c u : Nat} (e : u = un + c) (h : un + 8 * n < cLine) (hk : c + 8 * k ≤ 8 * n) : u + 8 * k < cLine := by omega
def Stop (P : Prop) : Prop := P
theorem Stop.out {P : Prop} (h : Stop P) : P := h
theorem Stop.mk {P : Prop} (h : P) : Stop P := h
local macro_rules | `(tactic| walk_at $s:str) => `(tactic| k_extra $s)
local macro_rules | `(tactic| bits_by_make) => `(tactic| with_reducible assumption)
theorem words1 : True := by
  k_with_none
  k_with "exec While Compare cons nil" => (k_here; refine Stop.out ?_)
  k_with "grows" => (first | exact Grows.refl | assumption | (refine Grows.cons ?_; walk_at "grows") | (refine Grows.app ?_; walk_at "grows"))
  trivial
def gcdJ (g : Nat) (news : Led) (n : Nat) (m : Str → Option Value) (nx : Led) : Prop :=
  ∃ a b t u, m (Str.ofString "a") = some (Value.int a t) ∧ m (Str.ofString "b") = some (Value.int b u) ∧ Int.gcd a b = g ∧ 0 ≤ a ∧ 0 ≤ b ∧ n = b.toNat ∧ Grows news nx
theorem gcd_turn {x y : Int} (_hx : 0 ≤ x) (hy : 0 ≤ y) : Int.gcd y (x.fmod y) = Int.gcd x y := by
  rw [Int.fmod_eq_emod_of_nonneg _ hy, Int.gcd_comm x y]
  conv => rhs; rw [← Int.mul_ediv_add_emod x y]
  rw [Int.gcd_mul_left_add_right]
theorem gcd_says (a b : Int) (t u : Tok) : Says 41 1 (fun _ => True) [.int a t, .int b u] (fun _ r => ∃ t, r = .int (Int.gcd a b) t) := by
  intro w mean mg mb dp un gd cn cs ca ccd cl outer A₀ base h₀ L m news s Q E B F X N T hk hR hd hu hret
  refine wpAny_call ?_
  k_dflt ktr_enter
  k_steps
  refine Stop.mk ?_
  rename Fr _ _ _ _ => F1
  rename News _ _ _ _ => N1
  refine While_inv2 (gcdJ (Int.gcd a b) news) F1 N1 (n₀ := b.natAbs) ?_ ?_
  · refine ⟨_, _, _, _, rfl, rfl, ?_, ?_, ?_, ?_, by walk_at "grows"⟩
    · have e1 : (if a < 0 then -a else a) = a.natAbs := by split <;> omega
      have e2 : (if b < 0 then -b else b) = b.natAbs := by split <;> omega
      rw [e1, e2]; simp [Int.gcd]
    · split <;> omega
    · split <;> omega
    · split <;> omega
  · intro n m₁ news₁ h₁ tk₁ F2 N2 J
    obtain ⟨x, y, t1, u1, ha, hb, hg, hx, hy, hn, G⟩ := J
    replace F2 := fr_know (fr_know F2 _ ha) (Str.ofString "b") hb
    clear F1 N1
    k_steps
    · have h1 := Int.fmod_nonneg_of_pos x (b := y) (by omega)
      have h2 := Int.fmod_lt_of_pos x (b := y) (by omega)
      refine While2.end (n' := (x.fmod y).toNat) (by assumption) (by assumption) (by omega) ⟨_, _, _, _, rfl, rfl, (gcd_turn hx hy).trans hg, hy, h1, rfl, by walk_at "grows"⟩
    · have e : (Int.gcd a b : Int) = x := by rw [← hg]; subst y; rw [Int.gcd_zero]; omega
      exact hret _ _ _ _ (by assumption) (by assumption) (by walk_at "grows") ⟨t1, by rw [e]⟩
theorem words2 : True := by
  k_with_none
  k_with "exec While Compare cons nil" => (k_here; refine Stop.out ?_)
  k_with "exec While BoolOp cons nil" => (k_here; refine Stop.out ?_)
  k_with "grows" => (first | exact Grows.refl | assumption | (refine Grows.cons ?_; walk_at "grows") | (refine Grows.app ?_; walk_at "grows"))
  k_with "sub9" => (first | exact (fun _ h9 => h9) | (intro p9 h9; simp only [List.mem_append, List.mem_cons, h9, or_true, true_or]; done))
  k_with "bits9" => (refine' Nat.le_trans ?b91 ?b92; (case b91 => bits_by_make); (case b92 => decide))
  k_with "binaryOp FloorDiv int int" => (k_here; (with_reducible refine floordiv_int ?n91 ?_ (Or.inl ?n92)); (case n91 => omega); (case n92 => first | assumption | exact PyProof.noPylong_small (by omega)))
  k_with "binaryOp Mod int int" => (k_here; (with_reducible refine mod_int' ?n91 ?_); (case n91 => omega))
  k_with "subscriptTail Name Constant ref int" => (k_here; k_dflt (first | ((with_reducible show wpAny _ _ (subscriptTail _ _ (Value.ref _) (Value.int 0 _)) _ _ _); refine' rat_item0 ?k1 ?k2 ?k3 ?k4 ?k5 ?_; (case k1 => k_asm); (case k2 => k_asm); (case k3 => k_asm); (case k4 => assumption); (case k5 => walk_at "sub9"); k_whole) | ((with_reducible show wpAny _ _ (subscriptTail _ _ (Value.ref _) (Value.int 1 _)) _ _ _); refine' rat_item1 ?k1 ?k2 ?k3 ?k4 ?k5 ?_; (case k1 => k_asm); (case k2 => k_asm); (case k3 => k_asm); (case k4 => assumption); (case k5 => walk_at "sub9"); k_whole)); intro t9; (try dsimp only))
  k_with "fresh9" => (intro q9 hq9; first | (rename ∀ (p : Addr × Obj), p ∈ _ → p.1 < _ => l9; exact Nat.ne_of_lt (l9 q9 ((by walk_at "sub9" : ∀ p ∈ news, p ∈ _) q9 hq9))) | (rename _ < _ ∧ AllLt _ _ => l9; exact Nat.ne_of_lt (ktn_ltOf l9.2 q9 ((by walk_at "sub9" : ∀ p ∈ news, p ∈ _) q9 hq9))))
  trivial
abbrev bits := Builtin.Int.intBits
structure BR (k : Nat) (x : Int × Int) : Prop where
  top : bits x.1 ≤ k
  bot : bits x.2 ≤ k
  pos : 0 < x.2
def ratF (a b : Int) : Int × Int :=
  (a.fdiv (if b > 0 then (Int.gcd a b : Int) else 0 - (Int.gcd a b : Int)), b.fdiv (if b > 0 then (Int.gcd a b : Int) else 0 - (Int.gcd a b : Int)))
theorem gcd_pos' {a b : Int} (hb : b ≠ 0) : 0 < ((Int.gcd a b : Nat) : Int) := by
  have : Int.gcd a b ≠ 0 := by rw [Ne, Int.gcd_eq_zero_iff]; omega
  omega
theorem gcd_bits {a b : Int} {k : Nat} (hb : b ≠ 0) (h : bits b ≤ k) : bits (Int.gcd a b : Int) ≤ k := by
  refine intBits_le_of_natAbs ?_ h
  exact Int.gcd_le_natAbs_right a hb
theorem noPy {x g : Int} (h : bits g ≤ 8000) : Builtin.divisionGoesByPylong x g = false := by
  refine PyProof.noPylong_of_log2 ?_
  have h1 := intBits_le_iff.mp h
  by_cases h0 : g.natAbs = 0
  · rw [h0]; decide +kernel
  · have := (Nat.log2_lt h0).mpr h1
    omega
def raddF (x y : Int × Int) : Int × Int := ratF (x.1 * y.2 + y.1 * x.2) (x.2 * y.2)
def rmulF (x y : Int × Int) : Int × Int := ratF (x.1 * y.1) (x.2 * y.2)
def rdivF (x y : Int × Int) : Int × Int := ratF (x.1 * y.2) (x.2 * y.1)
def rnegF (x : Int × Int) : Int × Int := (0 - x.1, x.2)
theorem words3 : True := by
  k_with "call ref" => (k_here; (with_reducible show wpAny _ _ (call (Value.ref 41) _) _ _ _); k_dflt (refine' says_use (gcd_says _ _ _ _) ?k1 ?k2 ?k3 ?k4 ?k5 ?kK ?kp ?kd ?ku ?_; (case k1 => k_asm); (case k2 => k_asm); (case k3 => k_asm); (case k4 => k_asm); (case k5 => k_asm); (case kK => first | exact rfl | assumption); (case kp => trivial); (case kd => first | exact room_le rfl (by assumption) (by decide) | ktr_room); (case ku => first | exact units_le rfl (by assumption) (by decide) | ktr_units); intro r9 tl9 h9 tk9 F9 N9 ho9; obtain ⟨t9, e9⟩ := ho9; subst e9; (try dsimp only); (try k_fold)))
  trivial
theorem rat_saysF (a b : Int) (t u : Tok) (hb : b ≠ 0) (hk9 : bits b ≤ 8000) : SaysW 50 2 (fun _ _ _ => True) [.int a t, .int b u] (fun _ news all r => OutF (fun all c => RatAt all c (ratF a b)) news all r) := by
  intro w mean mg mb dp un gd cn cs ca ccd cl outer A₀ base h₀ L m news s Q E B F X N T hk hR hd hu hret
  have hgp := gcd_pos' (a := a) hb
  have hb9 : (b == 0) = false := by simpa using hb
  have p1 : ∀ x, Builtin.divisionGoesByPylong x (Int.gcd a b : Int) = false := fun x => noPy (gcd_bits hb hk9)
  have p2 : ∀ x, Builtin.divisionGoesByPylong x (0 - (Int.gcd a b : Int)) = false := fun x => noPy (intBits_le_of_natAbs (y := (Int.gcd a b : Int)) (by omega) (gcd_bits hb hk9))
  have q1 := p1 a
  have q2 := p1 b
  have q3 := p2 a
  have q4 := p2 b
  refine wpAny_call ?_
  k_dflt ktr_enter
  k_steps
  · exact hret _ _ _ _ (by assumption) (by assumption) ⟨by walk_at "grows", _, rfl, .new (.head _) (by unfold ratF; rw [if_pos ((by assumption : 0 < b))]), by walk_at "fresh9"⟩
  · exact hret _ _ _ _ (by assumption) (by assumption) ⟨by walk_at "grows", _, rfl, .new (.head _) (by unfold ratF; rw [if_neg ((by assumption : ¬ 0 < b))]), by walk_at "fresh9"⟩
theorem rat_says (a b : Int) (t u : Tok) (hb : b ≠ 0) (hk9 : bits b ≤ 8000) : Says 50 2 (fun _ => True) [.int a t, .int b u] (fun all r => ∃ c, r = .ref c ∧ RatAt all c (ratF a b)) := (rat_saysF a b t u hb hk9).says
theorem words4 : True := by
  k_with "call ref" => (k_here; (with_reducible show wpAny _ _ (call (Value.ref 50) _) _ _ _); k_dflt (refine' saysF_use (rat_saysF _ _ _ _ ?kx ?ky) ?k1 ?k2 ?k3 ?k4 ?k5 ?kK ?kp ?kd ?ku ?_; (case k1 => k_asm); (case k2 => k_asm); (case k3 => k_asm); (case k4 => k_asm); (case k5 => k_asm); (case kK => first | exact rfl | assumption); (case kp => trivial); (case kx => first | assumption | omega); (case ky => first | decide | walk_at "bits9"); (case kd => first | exact room_le rfl (by assumption) (by decide) | ktr_room); (case ku => first | exact units_le rfl (by assumption) (by decide) | ktr_units); intro r9 tl9 h9 tk9 F9 N9 ho9; obtain ⟨c9, e9, R9, hq9⟩ := ho9; subst e9; (try dsimp only); (try k_fold)))
  trivial
theorem BR.le {j k : Nat} {x : Int × Int} (h : BR j x) (hk : j ≤ k) : BR k x := ⟨Nat.le_trans h.top hk, Nat.le_trans h.bot hk, h.pos⟩
theorem fdiv_pos' {b g : Int} (hg : 0 < g) (hb : 0 < b) (hd : g ∣ b) : 0 < b.fdiv g := by
  obtain ⟨c, rfl⟩ := hd
  rw [Int.mul_fdiv_cancel_left _ (by omega)]
  exact Int.pos_of_mul_pos_right hb (by omega)
theorem BR.rat {j k n : Nat} {a b : Int} (ha : bits a ≤ j) (hb : bits b ≤ k) (hj : j ≤ n) (hk : k ≤ n) (hp : 0 < b) : BR n (ratF a b) := by
  have hg := gcd_pos' (a := a) (b := b) (by omega)
  unfold ratF
  rw [if_pos hp]
  exact ⟨Nat.le_trans (intBits_fdiv_le ha) hj, Nat.le_trans (intBits_fdiv_le hb) hk, fdiv_pos' hg hp (Int.gcd_dvd_right ..)⟩
theorem BR.radd {j k n : Nat} {x y : Int × Int} (hx : BR j x) (hy : BR k y) (hn : j + k + 1 ≤ n) : BR n (raddF x y) :=
  BR.rat (intBits_add_le (intBits_mul_le hx.top hy.bot) (intBits_mul_le hy.top hx.bot)) (intBits_mul_le hx.bot hy.bot) (by omega) (by omega) (Int.mul_pos hx.pos hy.pos)
theorem BR.rmul {j k n : Nat} {x y : Int × Int} (hx : BR j x) (hy : BR k y) (hn : j + k ≤ n) : BR n (rmulF x y) :=
  BR.rat (intBits_mul_le hx.top hy.top) (intBits_mul_le hx.bot hy.bot) hn hn (Int.mul_pos hx.pos hy.pos)
theorem BR.rdiv {j k n : Nat} {x y : Int × Int} (hx : BR j x) (hy : BR k y) (hn : j + k ≤ n) (h0 : 0 < y.1) : BR n (rdivF x y) :=
  BR.rat (intBits_mul_le hx.top hy.bot) (intBits_mul_le hx.bot hy.top) hn hn (Int.mul_pos hx.pos h0)
theorem BR.rneg {j : Nat} {x : Int × Int} (hx : BR j x) : BR j (rnegF x) := ⟨intBits_le_of_natAbs (y := x.1) (by show (0 - x.1).natAbs ≤ _; omega) hx.top, hx.bot, hx.pos⟩
theorem radd_saysF (a b : Addr) (x y : Int × Int) (hx : BR 2000 x) (hy : BR 2000 y) : SaysW 57 3 (fun _ _ l => RatAt l a x ∧ RatAt l b y) [.ref a, .ref b] (fun _ news all r => OutF (fun all c => RatAt all c (raddF x y)) news all r) := by
  have hn : x.2 * y.2 ≠ 0 := Int.ne_of_gt (Int.mul_pos hx.pos hy.pos)
  have hx1 := hx.top
  have hx2 := hx.bot
  have hy1 := hy.top
  have hy2 := hy.bot
  clear hx hy
  intro w mean mg mb dp un gd cn cs ca ccd cl outer A₀ base h₀ L m news s Q E B F X N T hk hR hd hu hret
  obtain ⟨hR1, hR2⟩ := hR
  refine wpAny_call ?_
  k_dflt ktr_enter
  k_steps
  all_goals exact hret _ _ _ _ (by assumption) (by assumption) ⟨by walk_at "grows", _, rfl, by first | assumption | exact RatAt.mono (by assumption) (by walk_at "sub9"), fun q hq => hq9 q ((by walk_at "sub9" : ∀ p ∈ news, p ∈ _) q hq)⟩
theorem radd_says (a b : Addr) (x y : Int × Int) (hx : BR 2000 x) (hy : BR 2000 y) : Says 57 3 (fun l => RatAt l a x ∧ RatAt l b y) [.ref a, .ref b] (fun all r => ∃ c, r = .ref c ∧ RatAt all c (raddF x y)) := (radd_saysF a b x y hx hy).says
theorem rmul_saysF (a b : Addr) (x y : Int × Int) (hx : BR 2000 x) (hy : BR 2000 y) : SaysW 64 3 (fun _ _ l => RatAt l a x ∧ RatAt l b y) [.ref a, .ref b] (fun _ news all r => OutF (fun all c => RatAt all c (rmulF x y)) news all r) := by
  have hn : x.2 * y.2 ≠ 0 := Int.ne_of_gt (Int.mul_pos hx.pos hy.pos)
  have hx1 := hx.top
  have hx2 := hx.bot
  have hy1 := hy.top
  have hy2 := hy.bot
  clear hx hy
  intro w mean mg mb dp un gd cn cs ca ccd cl outer A₀ base h₀ L m news s Q E B F X N T hk hR hd hu hret
  obtain ⟨hR1, hR2⟩ := hR
  refine wpAny_call ?_
  k_dflt ktr_enter
  k_steps
  all_goals exact hret _ _ _ _ (by assumption) (by assumption) ⟨by walk_at "grows", _, rfl, by first | assumption | exact RatAt.mono (by assumption) (by walk_at "sub9"), fun q hq => hq9 q ((by walk_at "sub9" : ∀ p ∈ news, p ∈ _) q hq)⟩
theorem rmul_says (a b : Addr) (x y : Int × Int) (hx : BR 2000 x) (hy : BR 2000 y) : Says 64 3 (fun l => RatAt l a x ∧ RatAt l b y) [.ref a, .ref b] (fun all r => ∃ c, r = .ref c ∧ RatAt all c (rmulF x y)) := (rmul_saysF a b x y hx hy).says
theorem rdiv_saysF (a b : Addr) (x y : Int × Int) (hx : BR 2000 x) (hy : BR 2000 y) (h0 : 0 < y.1) : SaysW 71 3 (fun _ _ l => RatAt l a x ∧ RatAt l b y) [.ref a, .ref b] (fun _ news all r => OutF (fun all c => RatAt all c (rdivF x y)) news all r) := by
  have hn : x.2 * y.1 ≠ 0 := Int.ne_of_gt (Int.mul_pos hx.pos h0)
  have hx1 := hx.top
  have hx2 := hx.bot
  have hy1 := hy.top
  have hy2 := hy.bot
  clear hx hy
  intro w mean mg mb dp un gd cn cs ca ccd cl outer A₀ base h₀ L m news s Q E B F X N T hk hR hd hu hret
  obtain ⟨hR1, hR2⟩ := hR
  refine wpAny_call ?_
  k_dflt ktr_enter
  k_steps
  all_goals exact hret _ _ _ _ (by assumption) (by assumption) ⟨by walk_at "grows", _, rfl, by first | assumption | exact RatAt.mono (by assumption) (by walk_at "sub9"), fun q hq => hq9 q ((by walk_at "sub9" : ∀ p ∈ news, p ∈ _) q hq)⟩
theorem rdiv_says (a b : Addr) (x y : Int × Int) (hx : BR 2000 x) (hy : BR 2000 y) (h0 : 0 < y.1) : Says 71 3 (fun l => RatAt l a x ∧ RatAt l b y) [.ref a, .ref b] (fun all r => ∃ c, r = .ref c ∧ RatAt all c (rdivF x y)) := (rdiv_saysF a b x y hx hy h0).says
theorem rneg_says (a : Addr) (x : Int × Int) : Says 78 1 (fun l => RatAt l a x) [.ref a] (fun all r => ∃ c, r = .ref c ∧ RatAt all c (rnegF x)) := by
  intro w mean mg mb dp un gd cn cs ca ccd cl outer A₀ base h₀ L m news s Q E B F X N T hk hR hd hu hret
  refine wpAny_call ?_
  k_dflt ktr_enter
  k_steps
  all_goals exact hret _ _ _ _ (by assumption) (by assumption) (by walk_at "grows") ⟨_, rfl, .new (.head _) rfl⟩
section
set_option maxHeartbeats 4000000
def Off (I : Addr) (news : Led) : Led := news.filter fun p => decide (p.1 ≠ I)
theorem Off.mem {I : Addr} {news : Led} {p : Addr × Obj} : p ∈ Off I news ↔ p ∈ news ∧ p.1 ≠ I := by simp [Off]
theorem Off.of {I : Addr} {oI : Obj} {news : Led} {h₀ h : Heap} {L : Addr} (N : News h₀ L h news) (hI : (I, oI) ∈ news) : ∀ p ∈ news, p.2.cls ≠ oI.cls → p ∈ Off I news := by
  intro p hp hc
  refine Off.mem.mpr ⟨hp, fun e => hc ?_⟩
  have h1 := (N _ hp).1
  have h2 := (N _ hI).1
  rw [e] at h1
  rw [h1] at h2
  rw [Option.some.inj h2]
theorem Off.all {I : Addr} : ∀ {news : Led}, (∀ q ∈ news, q.1 ≠ I) → Off I news = news := by
  intro news h
  exact List.filter_eq_self.mpr fun q hq => by simpa using h q hq
theorem Grows.off {I : Addr} {news all : Led} (G : Grows news all) (h : ∀ q ∈ news, q.1 ≠ I) : Grows news (Off I all) := fun p hp => Off.mem.mpr ⟨G p hp, h p hp⟩
theorem Grows.upd {l : Addr} {o : Obj} {news all : Led} (G : Grows news all) (h : ∀ q ∈ news, q.1 ≠ l) : Grows news ((l, o) :: Off l all) := (G.off h).cons
theorem RatAt.mono' {l l' : Led} {a : Addr} {x : Int × Int} (h : RatAt l a x) (hs : ∀ p ∈ l, p.2.cls = .type "tuple" → p ∈ l') : RatAt l' a x := by
  rcases h with ⟨t, u, n, h⟩ | h
  · exact .inl ⟨t, u, n, hs _ h rfl⟩
  · exact .inr h
inductive Rats (l : Led) : List Value → List (Int × Int) → Prop
  | nil : Rats l [] []
  | cons {a : Addr} {x : Int × Int} {vs : List Value} {xs : List (Int × Int)} : RatAt l a x → Rats l vs xs → Rats l (.ref a :: vs) (x :: xs)
theorem Rats.mono' {l l' : Led} {vs : List Value} {xs : List (Int × Int)} (h : Rats l vs xs) (hs : ∀ p ∈ l, p.2.cls = .type "tuple" → p ∈ l') : Rats l' vs xs := by
  induction h with
  | nil => exact .nil
  | cons h _ ih => exact .cons (h.mono' hs) ih
theorem Rats.mono {l l' : Led} {vs : List Value} {xs : List (Int × Int)} (h : Rats l vs xs) (hs : ∀ p ∈ l, p ∈ l') : Rats l' vs xs := h.mono' fun p hp _ => hs p hp
theorem Rats.length {l : Led} {vs : List Value} {xs : List (Int × Int)} (h : Rats l vs xs) : vs.length = xs.length := by
  induction h with
  | nil => rfl
  | cons _ _ ih => simp [ih]
theorem Rats.snoc {l : Led} {vs : List Value} {xs : List (Int × Int)} {a : Addr} {x : Int × Int} (h : Rats l vs xs) (h1 : RatAt l a x) : Rats l (vs ++ [.ref a]) (xs ++ [x]) := by
  induction h with
  | nil => exact .cons h1 .nil
  | cons h _ ih => exact .cons h ih
theorem Rats.get {l : Led} {vs : List Value} {xs : List (Int × Int)} (h : Rats l vs xs) : ∀ {k : Nat} {x : Int × Int}, xs[k]? = some x → ∃ a, vs[k]? = some (.ref a) ∧ RatAt l a x := by
  induction h with
  | nil => intro k x e; simp at e
  | cons h _ ih =>
    intro k x e
    cases k with
    | zero => simp at e; exact ⟨_, rfl, e ▸ h⟩
    | succ k => simpa using ih (by simpa using e)
theorem Rats.at {l : Led} {vs : List Value} {xs : List (Int × Int)} (h : Rats l vs xs) : ∀ {k : Nat} {v : Value}, vs[k]? = some v → ∃ a x, v = .ref a ∧ xs[k]? = some x ∧ RatAt l a x := by
  induction h with
  | nil => intro k x e; simp at e
  | @cons a x vs xs h _ ih =>
    intro k v e
    cases k with
    | zero => simp at e; exact ⟨a, x, e.symm, rfl, h⟩
    | succ k => simpa using ih (by simpa using e)
section
variable {prog : Program} {w : World} {A : Around} {E : Value → Shared → Prop} {s : Shared} {h₀ : Heap} {L l : Addr} {m : Str → Option Value} {news : Led}
theorem append_mem {vs : List Value} {n : Nat} {v : Value} {Q : Value → Shared → Prop} (F : Fr h₀ L s.heap m) (N : News h₀ L s.heap news) (hl : (l, listOf vs.toArray n) ∈ news)
    (h : ∀ h', Fr h₀ L h' m → News h₀ L h' ((l, listOf (vs ++ [v]).toArray (n + 1)) :: Off l news) → (∀ p ∈ news, p.2.cls ≠ .type "list" → p ∈ Off l news) → Q .none { s with heap := h' }) (hsz : vs.length ≤ sizeLine) :
    wpAny (model prog w) A (call (.builtin "list.append") [.ref l, v]) Q E s := by
  have N' : News h₀ L s.heap ((l, listOf vs.toArray n) :: Off l news) := by
    intro p hp
    rcases List.mem_cons.mp hp with rfl | hp
    · exact N _ hl
    · exact N _ (Off.mem.mp hp).1
  refine append_K F N' (.head fun p hp => (Off.mem.mp hp).2) (fun h' F' N9 => ?_) (by simpa using hsz)
  rw [List.push_toArray] at N9
  exact h h' F' N9 (Off.of N hl)
end
section
variable {prog : Program} {w : World} {A : Around} {E : Value → Shared → Prop} {s : Shared} {h₀ : Heap} {L l : Addr} {m : Str → Option Value} {news l' : Led} {vs : List Value} {xs : List (Int × Int)}
theorem rats_item {c : Nat} {z : Int} {u : Tok} {value slice : PySem.Expr} {Q : Value → Shared → Prop} (F : Fr h₀ L s.heap m) (N : News h₀ L s.heap news) (hl : (l, listOf vs.toArray c) ∈ news) (R : Rats l' vs xs) (h0 : 0 ≤ z) (h1 : z < (xs.length : Int)) (h2 : xs.length < 1000000)
    (h : ∀ a, RatAt l' a (xs.getD z.toNat (0, 1)) → Q (.ref a) s)
    (he : subscripted slice false (.ref l) (.int z u) = operate [.ref l, .int z u] (getItem (.ref l) (.int z u)) := by with_unfolding_all rfl) :
    wpAny (model prog w) A (subscriptTail value slice (.ref l) (.int z u)) Q E s := by
  have hL : s.heap.IsList l vs.toArray := ⟨_, (N _ hl).1, rfl, c, rfl⟩
  have hk : z.toNat < xs.length := by omega
  obtain ⟨a, e, r⟩ := R.get (List.getElem?_eq_getElem hk)
  have e2 : xs.getD z.toNat (0, 1) = xs[z.toNat] := by rw [List.getD_eq_getElem?_getD, List.getElem?_eq_getElem hk]; rfl
  rw [e2] at h
  exact tail_any hL.typeIs slot_list_getitem.lookup (wpAny_getItem_list hL h0 (by omega) (by simpa using e) (h a r)) he
theorem rats_item_nat {c k : Nat} {u : Tok} {value slice : PySem.Expr} {Q : Value → Shared → Prop} (F : Fr h₀ L s.heap m) (N : News h₀ L s.heap news) (hl : (l, listOf vs.toArray c) ∈ news) (R : Rats l' vs xs) (h1 : k < xs.length) (h2 : xs.length < 1000000)
    (h : ∀ a, RatAt l' a (xs.getD k (0, 1)) → Q (.ref a) s)
    (he : subscripted slice false (.ref l) (.int (k : Int) u) = operate [.ref l, .int (k : Int) u] (getItem (.ref l) (.int (k : Int) u)) := by with_unfolding_all rfl) :
    wpAny (model prog w) A (subscriptTail value slice (.ref l) (.int (k : Int) u)) Q E s :=
  rats_item F N hl R (by omega) (by omega) h2 (by rw [Int.toNat_natCast]; exact h) he
theorem ints_item_nat {c k : Nat} {u : Tok} {ns : List Int} {value slice : PySem.Expr} {Q : Value → Shared → Prop} (F : Fr h₀ L s.heap m) (N : News h₀ L s.heap news) (hl : (l, listOf vs.toArray c) ∈ news) (R : IntsAre vs ns) (h1 : k < ns.length) (h2 : ns.length < 1000000)
    (h : ∀ t, Q (.int (ns.getD k 0) t) s)
    (he : subscripted slice false (.ref l) (.int (k : Int) u) = operate [.ref l, .int (k : Int) u] (getItem (.ref l) (.int (k : Int) u)) := by with_unfolding_all rfl) :
    wpAny (model prog w) A (subscriptTail value slice (.ref l) (.int (k : Int) u)) Q E s := by
  have hL : s.heap.IsList l vs.toArray := ⟨_, (N _ hl).1, rfl, c, rfl⟩
  obtain ⟨t, e⟩ := R.get k ns[k] (List.getElem?_eq_getElem h1)
  have e2 : ns.getD k 0 = ns[k] := by rw [List.getD_eq_getElem?_getD, List.getElem?_eq_getElem h1]; rfl
  rw [e2] at h
  exact tail_any hL.typeIs slot_list_getitem.lookup (wpAny_getItem_list hL (by omega) (by omega) (by simpa using e) (h t)) he
end
def TurnEnd (h₀ : Heap) (L : Addr) (J : (Str → Option Value) → Led → Prop) (I : Addr) (oI : Obj) (s₁ : Shared) (Q : Flow → Shared → Prop) (f : Flow) (s₂ : Shared) : Prop :=
  match f with
  | .ret v => Q (.ret v) s₂
  | .brk => Q .next s₂
  | _ => ∃ h' tk m' news', s₂ = { s₁ with heap := h', toks := tk } ∧ Fr h₀ L h' m' ∧ News h₀ L h' news' ∧ (I, oI) ∈ news' ∧ J m' (Off I news')
theorem TurnEnd.next {h₀ h' : Heap} {L : Addr} {J : (Str → Option Value) → Led → Prop} {I : Addr} {oI : Obj} {s₁ : Shared} {Q : Flow → Shared → Prop} {m' : Str → Option Value} {news' : Led} {tk : Nat}
    (F : Fr h₀ L h' m') (N : News h₀ L h' news') (hI : (I, oI) ∈ news') (hJ : (∀ p ∈ news', p.2.cls ≠ oI.cls → p ∈ Off I news') → J m' (Off I news')) : TurnEnd h₀ L J I oI s₁ Q .next { s₁ with heap := h', toks := tk } :=
  ⟨h', tk, m', news', rfl, F, N, hI, hJ (Off.of N hI)⟩
section
variable {prog : Program} {w : World} {A : Around} {E : Value → Shared → Prop} {s : Shared} {env : Env} {h₀ : Heap} {x : Str} {body : List Stmt} {Q : Flow → Shared → Prop}
theorem loop_range {r : Addr} {a₀ b₀ : Int} {t₀ u₀ v₀ : Tok} {n : Nat} {m₀ : Str → Option Value} {news : Led} (J : Nat → (Str → Option Value) → Led → Prop)
    (hh : A.handled = none) (hr : IsRange s.heap r a₀ b₀ 1 t₀ u₀ v₀) (hsmall : Builtin.Range.small a₀ b₀ 1 = true) (hsz : Builtin.Range.rangeSize a₀ b₀ 1 = (n : Int)) (F : Fr h₀ env.locals s.heap m₀) (N : News h₀ env.locals s.heap news) (hj : J 0 m₀ news)
    (turn : ∀ (i : Nat) t m₁ nx h tk I oI, i < n → J i m₁ nx → oI.cls = .type "range_iterator" → (∀ p ∈ nx, p.1 ≠ I) → Fr h₀ env.locals h (fun y => if y = x then some (.int (a₀ + (i : Int)) t) else m₁ y) → News h₀ env.locals h ((I, oI) :: nx) →
      wpAny (model prog w) A (execs body env) (TurnEnd h₀ env.locals (J (i + 1)) I oI { s with heap := h, toks := tk } Q) E { s with heap := h, toks := tk })
    (done : ∀ m₁ nx h tk, J n m₁ nx → Fr h₀ env.locals h m₁ → News h₀ env.locals h nx → Q .next { s with heap := h, toks := tk }) :
    wpAny (model prog w) A (pyIter (.ref r)) (fun it s₂ => LoopAtV prog w A h₀ env x body Q E it s₂) E s := by
  refine wpAny_pyIter_range hr hsmall ?_
  have W : Walks prog w A s.heap.objs.size [s.heap.objs.size] [s.heap.objs.size] n (fun i v => i < n ∧ ∃ t, v = .int (a₀ + i * 1) t)
      (fun i h => IsRangeIter h s.heap.objs.size (a₀ + (i : Nat) * 1) ((n : Int) - (i : Nat)) 1) := (Walks.range hh _ a₀ 1 n).bound
  refine ⟨_, _, _, n, _, _, m₀, news, J, rfl, W, ?_, ?_, ?_, (by show IsRangeIter _ _ _ _ _; rw [hsz]; simpa using Heap.get?_push_size _ rfl), F.push _, (fun p hp => ⟨Heap.get?_push_of_some _ (N p hp).1, (N p hp).2⟩), hj, ?_, ?_⟩
  · intro hm
    exact absurd F.ns.lt ((List.mem_singleton.mp hm) ▸ Nat.lt_irrefl _)
  · intro b hb
    rw [List.mem_singleton.mp hb]
    exact next_is_new F
  · intro p hp hI
    exact absurd (Heap.lt_size (N p hp).1) ((List.mem_singleton.mp hI) ▸ Nat.lt_irrefl _)
  · rintro i v m₁ nx s₁ own ⟨hh', tk', rfl⟩ hin ⟨_, t, rfl⟩ hJ hoff hown hget hfp hst F₁ N₁
    have e1 : a₀ + (i : Int) * 1 = a₀ + (i : Int) := by omega
    rw [e1] at F₁
    obtain ⟨oI, hoI, hcI⟩ : ∃ oI, hh'.get? s.heap.objs.size = some oI ∧ oI.cls = .type "range_iterator" := ⟨_, hst, rfl⟩
    have hIown := hfp _ (List.mem_singleton.mpr rfl) (next_is_new F) _ hoI
    have own1 : ∀ p ∈ own, p = (s.heap.objs.size, oI) := by
      intro p hp
      have h1 := List.mem_singleton.mp (hown p hp)
      have h2 := hget p hp
      rw [h1] at h2
      have h3 : hh'.get? s.heap.objs.size = some p.2 := h2
      rw [hoI] at h3
      exact Prod.ext h1 (Option.some.inj h3).symm
    have N₂ : News h₀ env.locals hh' ((s.heap.objs.size, oI) :: nx) := by
      intro p hp
      rcases List.mem_cons.mp hp with rfl | hp
      · exact N₁ _ (List.mem_append.mpr (.inl hIown))
      · exact N₁ _ (List.mem_append.mpr (.inr hp))
    refine wpAny_mono (turn i t m₁ nx hh' tk' _ oI hin hJ hcI (fun p hp e => hoff p hp (List.mem_singleton.mpr e)) F₁ N₂) (fun f s₂ p => ?_) fun _ _ e => e
    have fin : (∃ h' tk m' news', s₂ = { s with heap := h', toks := tk } ∧ Fr h₀ env.locals h' m' ∧ News h₀ env.locals h' news' ∧ (s.heap.objs.size, oI) ∈ news' ∧ J (i + 1) m' (Off s.heap.objs.size news')) →
        LoopStepU h₀ env.locals [s.heap.objs.size] own (J (i + 1)) { s with heap := hh', toks := tk' } .next s₂ := by
      rintro ⟨h', tk, m', news', rfl, F', N', hI, hm⟩
      refine ⟨rfl, h', tk, m', _, rfl, F', fun p hp => ?_, fun p hp hq => ?_, hm⟩
      · rcases List.mem_append.mp hp with hp | hp
        · rw [own1 p hp]; exact N' _ hI
        · exact N' _ (Off.mem.mp hp).1
      · exact (Off.mem.mp hp).2 (List.mem_singleton.mp hq)
    cases f with
    | ret v => exact .ret p
    | brk => exact .brk p
    | next => exact .next (fin p)
    | cont => exact .cont (fin p)
  · rintro h' tk m' news' F' N' _ hJ
    exact done m' news' h' tk hJ F' N'
theorem loop_range0 {r : Addr} {b₀ : Int} {t₀ u₀ v₀ : Tok} {n : Nat} {m₀ : Str → Option Value} {news : Led} (J : Nat → (Str → Option Value) → Led → Prop)
    (hh : A.handled = none) (hr : IsRange s.heap r 0 b₀ 1 t₀ u₀ v₀) (hsmall : Builtin.Range.small 0 b₀ 1 = true) (hsz : Builtin.Range.rangeSize 0 b₀ 1 = (n : Int)) (F : Fr h₀ env.locals s.heap m₀) (N : News h₀ env.locals s.heap news) (hj : J 0 m₀ news)
    (turn : ∀ (i : Nat) t m₁ nx h tk I oI, i < n → J i m₁ nx → oI.cls = .type "range_iterator" → (∀ p ∈ nx, p.1 ≠ I) → Fr h₀ env.locals h (fun y => if y = x then some (.int (i : Int) t) else m₁ y) → News h₀ env.locals h ((I, oI) :: nx) →
      wpAny (model prog w) A (execs body env) (TurnEnd h₀ env.locals (J (i + 1)) I oI { s with heap := h, toks := tk } Q) E { s with heap := h, toks := tk })
    (done : ∀ m₁ nx h tk, J n m₁ nx → Fr h₀ env.locals h m₁ → News h₀ env.locals h nx → Q .next { s with heap := h, toks := tk }) :
    wpAny (model prog w) A (pyIter (.ref r)) (fun it s₂ => LoopAtV prog w A h₀ env x body Q E it s₂) E s := by
  refine loop_range J hh hr hsmall hsz F N hj (fun i t m₁ nx h tk I oI hi hJ hc ho F1 N1 => ?_) done
  rw [Int.zero_add] at F1
  exact turn i t m₁ nx h tk I oI hi hJ hc ho F1 N1
end
section
variable {prog : Program} {w : World} {A : Around} {E : Value → Shared → Prop} {s : Shared} {env : Env} {h₀ : Heap} {x : Str} {body : List Stmt} {Q : Flow → Shared → Prop}
theorem loop_range1 {r : Addr} {b₀ : Int} {t₀ u₀ v₀ : Tok} {n : Nat} {m₀ : Str → Option Value} {news : Led} (J : Nat → (Str → Option Value) → Led → Prop)
    (hh : A.handled = none) (hr : IsRange s.heap r 1 b₀ 1 t₀ u₀ v₀) (hsmall : Builtin.Range.small 1 b₀ 1 = true) (hsz : Builtin.Range.rangeSize 1 b₀ 1 = (n : Int)) (F : Fr h₀ env.locals s.heap m₀) (N : News h₀ env.locals s.heap news) (hj : J 0 m₀ news)
    (turn : ∀ (i : Nat) t m₁ nx h tk I oI, i < n → J i m₁ nx → oI.cls = .type "range_iterator" → (∀ p ∈ nx, p.1 ≠ I) → Fr h₀ env.locals h (fun y => if y = x then some (.int ((i + 1 : Nat) : Int) t) else m₁ y) → News h₀ env.locals h ((I, oI) :: nx) →
      wpAny (model prog w) A (execs body env) (TurnEnd h₀ env.locals (J (i + 1)) I oI { s with heap := h, toks := tk } Q) E { s with heap := h, toks := tk })
    (done : ∀ m₁ nx h tk, J n m₁ nx → Fr h₀ env.locals h m₁ → News h₀ env.locals h nx → Q .next { s with heap := h, toks := tk }) :
    wpAny (model prog w) A (pyIter (.ref r)) (fun it s₂ => LoopAtV prog w A h₀ env x body Q E it s₂) E s := by
  refine loop_range J hh hr hsmall hsz F N hj (fun i t m₁ nx h tk I oI hi hJ hc ho F1 N1 => ?_) done
  rw [show (1 : Int) + (i : Int) = ((i + 1 : Nat) : Int) by omega] at F1
  exact turn i t m₁ nx h tk I oI hi hJ hc ho F1 N1
end
section
variable {prog : Program} {w : World} {A : Around} {E : Value → Shared → Prop} {s : Shared} {env : Env} {h₀ : Heap} {x : Str} {body : List Stmt} {Q : Flow → Shared → Prop}
theorem loop_list {l : Addr} {vs : List Value} {c : Nat} {m₀ : Str → Option Value} {news : Led} (J : Nat → (Str → Option Value) → Led → Prop)
    (hh : A.handled = none) (hl : (l, listOf vs.toArray c) ∈ news) (F : Fr h₀ env.locals s.heap m₀) (N : News h₀ env.locals s.heap news) (hj : J 0 m₀ news)
    (turn : ∀ i v m₁ nx h tk I oI, vs[i]? = some v → J i m₁ nx → (l, listOf vs.toArray c) ∈ nx → oI.cls = .type "list_iterator" → (∀ p ∈ nx, p.1 ≠ I) → Fr h₀ env.locals h (fun y => if y = x then some v else m₁ y) → News h₀ env.locals h ((I, oI) :: nx) →
      wpAny (model prog w) A (execs body env) (TurnEnd h₀ env.locals (fun m' nx' => (l, listOf vs.toArray c) ∈ nx' ∧ J (i + 1) m' nx') I oI { s with heap := h, toks := tk } Q) E { s with heap := h, toks := tk })
    (done : ∀ m₁ nx h tk, J vs.length m₁ nx → Fr h₀ env.locals h m₁ → News h₀ env.locals h nx → Q .next { s with heap := h, toks := tk }) :
    wpAny (model prog w) A (pyIter (.ref l)) (fun it s₂ => LoopAtV prog w A h₀ env x body Q E it s₂) E s := by
  have hol : s.heap.get? l = some (listOf vs.toArray c) := (N _ hl).1
  have hls : s.heap.IsList l vs.toArray := ⟨_, hol, rfl, c, rfl⟩
  have hne : l ≠ s.heap.objs.size := Nat.ne_of_lt (Heap.lt_size hol)
  refine wpAny_pyIter_list hls ?_
  have W := Walks.list (prog := prog) (w := w) hh s.heap.objs.size l hne vs.toArray
  have hlen : vs.toArray.size = vs.length := by simp
  rw [hlen] at W
  refine ⟨_, _, _, vs.length, _, _, m₀, news, (fun i m nx => (l, listOf vs.toArray c) ∈ nx ∧ J i m nx), rfl, W, ?_, ?_, ?_, ⟨⟨_, Heap.get?_push_size _ rfl, rfl, rfl⟩, hls.at fun o e => Heap.get?_push_of_some _ e⟩, F.push _, (fun p hp => ⟨Heap.get?_push_of_some _ (N p hp).1, (N p hp).2⟩), ⟨hl, hj⟩, ?_, ?_⟩
  · intro hm
    rcases List.mem_cons.mp hm with e | hm
    · exact absurd F.ns.lt (e ▸ Nat.lt_irrefl _)
    · exact (N _ hl).2.1 ((List.mem_singleton.mp hm).symm)
  · intro b hb
    rw [List.mem_singleton.mp hb]
    exact next_is_new F
  · intro p hp hI
    exact absurd (Heap.lt_size (N p hp).1) ((List.mem_singleton.mp hI) ▸ Nat.lt_irrefl _)
  · rintro i v m₁ nx s₁ own ⟨hh', tk', rfl⟩ hin hP ⟨hl₁, hJ⟩ hoff hown hget hfp hst F₁ N₁
    have hP' : vs[i]? = some v := by simpa using hP
    have hI0 : h₀.get? s.heap.objs.size = none := next_is_new F
    obtain ⟨⟨oI, hoI, hcI, _⟩, _⟩ := id hst
    have hIown : (s.heap.objs.size, oI) ∈ own := hfp _ (List.mem_cons.mpr (.inl rfl)) hI0 _ hoI
    have hlo : hh'.get? l = some (listOf vs.toArray c) := (N₁ _ (List.mem_append.mpr (.inr hl₁))).1
    have own1 : ∀ p ∈ own, p = (s.heap.objs.size, oI) ∨ p = (l, listOf vs.toArray c) := by
      intro p hp
      have h2 := hget p hp
      rcases List.mem_cons.mp (hown p hp) with h1 | h1
      · have h3 : hh'.get? s.heap.objs.size = some p.2 := h1 ▸ h2
        rw [hoI] at h3
        exact .inl (Prod.ext h1 (Option.some.inj h3).symm)
      · have h1 := List.mem_singleton.mp h1
        have h3 : hh'.get? l = some p.2 := h1 ▸ h2
        rw [hlo] at h3
        exact .inr (Prod.ext h1 (Option.some.inj h3).symm)
    have N₂ : News h₀ env.locals hh' ((s.heap.objs.size, oI) :: nx) := by
      intro p hp
      rcases List.mem_cons.mp hp with rfl | hp
      · exact N₁ _ (List.mem_append.mpr (.inl hIown))
      · exact N₁ _ (List.mem_append.mpr (.inr hp))
    refine wpAny_mono (turn i v m₁ nx hh' tk' _ oI hP' hJ hl₁ hcI (fun p hp e => hoff p hp (List.mem_singleton.mpr e)) F₁ N₂) (fun f s₂ p => ?_) fun _ _ e => e
    have fin : (∃ h' tk m' news', s₂ = { s with heap := h', toks := tk } ∧ Fr h₀ env.locals h' m' ∧ News h₀ env.locals h' news' ∧ (s.heap.objs.size, oI) ∈ news' ∧ ((l, listOf vs.toArray c) ∈ Off s.heap.objs.size news' ∧ J (i + 1) m' (Off s.heap.objs.size news'))) →
        LoopStepU h₀ env.locals [s.heap.objs.size] own (fun m nx => (l, listOf vs.toArray c) ∈ nx ∧ J (i + 1) m nx) { s with heap := hh', toks := tk' } .next s₂ := by
      rintro ⟨h', tk, m', news', rfl, F', N', hI, hm⟩
      refine ⟨rfl, h', tk, m', _, rfl, F', fun p hp => ?_, fun p hp hq => ?_, hm⟩
      · rcases List.mem_append.mp hp with hp | hp
        · rcases own1 p hp with rfl | rfl
          · exact N' _ hI
          · exact N' _ (Off.mem.mp hm.1).1
        · exact N' _ (Off.mem.mp hp).1
      · exact (Off.mem.mp hp).2 (List.mem_singleton.mp hq)
    cases f with
    | ret v => exact .ret p
    | brk => exact .brk p
    | next => exact .next (fin p)
    | cont => exact .cont (fin p)
  · rintro h' tk m' news' F' N' _ ⟨_, hJ⟩
    exact done m' news' h' tk hJ F' N'
end
theorem li_ne_tuple {o : Obj} (h : o.cls = .type "list_iterator") : Value.type "tuple" ≠ o.cls := by rw [h]; simp
theorem li_ne_list' {o : Obj} (h : o.cls = .type "list_iterator") : Value.type "list" ≠ o.cls := by rw [h]; simp
theorem Rats.reverse {l : Led} {vs : List Value} {xs : List (Int × Int)} (h : Rats l vs xs) : Rats l vs.reverse xs.reverse := by
  induction h with
  | nil => exact .nil
  | cons h _ ih => rw [List.reverse_cons, List.reverse_cons]; exact ih.snoc h
theorem tn3 (k i : Nat) : ((k : Int) + 1 - ((i + 1 : Nat) : Int)).toNat = k - i := by omega
theorem ri_ne_list {o : Obj} (h : o.cls = .type "range_iterator") : o.cls ≠ .type "list" := by rw [h]; simp
theorem ri_ne_tuple {o : Obj} (h : o.cls = .type "range_iterator") : Value.type "tuple" ≠ o.cls := by rw [h]; simp
theorem ri_ne_list' {o : Obj} (h : o.cls = .type "range_iterator") : Value.type "list" ≠ o.cls := by rw [h]; simp
end
local macro_rules | `(tactic| k_mem) => `(tactic| walk_at "mem9")
theorem words5 : True := by
  k_with_none
  k_with "exec While Compare cons nil" => (k_here; refine Stop.out ?_)
  k_with "exec While BoolOp cons nil" => (k_here; refine Stop.out ?_)
  k_with "grows" => (first | exact Grows.refl | assumption | (refine Grows.cons ?_; walk_at "grows") | (refine Grows.app ?_; walk_at "grows"))
  k_with "sub9" => (first | exact (fun _ h9 => h9) | (intro p9 h9; simp only [List.mem_append, List.mem_cons, h9, or_true, true_or]; done))
  k_with "bits9" => (refine' Nat.le_trans ?b91 ?b92; (case b91 => bits_by_make); (case b92 => decide))
  k_with "binaryOp FloorDiv int int" => (k_here; (with_reducible refine floordiv_int ?n91 ?_ (Or.inl ?n92)); (case n91 => omega); (case n92 => first | assumption | exact PyProof.noPylong_small (by omega)))
  k_with "binaryOp Mod int int" => (k_here; (with_reducible refine mod_int' ?n91 ?_); (case n91 => omega))
  k_with "subscriptTail Name Constant ref int" => (k_here; k_dflt (first | ((with_reducible show wpAny _ _ (subscriptTail _ _ (Value.ref _) (Value.int 0 _)) _ _ _); refine' rat_item0 ?k1 ?k2 ?k3 ?k4 ?k5 ?_; (case k1 => k_asm); (case k2 => k_asm); (case k3 => k_asm); (case k4 => assumption); (case k5 => walk_at "sub9"); k_whole) | ((with_reducible show wpAny _ _ (subscriptTail _ _ (Value.ref _) (Value.int 1 _)) _ _ _); refine' rat_item1 ?k1 ?k2 ?k3 ?k4 ?k5 ?_; (case k1 => k_asm); (case k2 => k_asm); (case k3 => k_asm); (case k4 => assumption); (case k5 => walk_at "sub9"); k_whole)); intro t9; (try dsimp only))
  k_with "exec For Name Call cons nil" => (k_here; (rename Fr _ _ _ _ => lF'); (with_unfolding_all refine' For_invVF lF' ?k1 ?k2 ?_; (case k1 => exact rfl); (case k2 => exact rfl); k_whole))
  k_with "exec For Name Subscript cons nil" => (k_here; (rename Fr _ _ _ _ => lF'); (with_unfolding_all refine' For_invVF lF' ?k1 ?k2 ?_; (case k1 => exact rfl); (case k2 => exact rfl); k_whole))
  k_with "pyIter ref" => (k_here; refine Stop.out ?_)
  k_with "mem9" => (first | assumption | exact .head _ | (refine List.mem_append.mpr (.inl ?_); assumption) | (refine .tail _ ?_; walk_at "mem9") | (refine List.mem_append.mpr (.inr ?_); walk_at "mem9"))
  k_with "getMethod ref" => (k_here; (with_reducible show wpAny _ _ (getMethod (Value.ref _) (PySem.Str.ofString "append") _) _ _ _); k_dflt (refine' listMethod_K ?N ?m PySem.F.slot_list_append PySem.F.type_list_append ?_; (case N => k_asm); (case m => walk_at "mem9")))
  k_with "call builtin:list.append" => (k_here; (with_reducible show wpAny _ _ (call (Value.builtin _) [Value.ref _, _]) _ _ _); k_dflt (refine' append_mem ?k1 ?k2 ?k3 ?_ ?z; (case k1 => k_asm); (case k2 => k_asm); (case k3 => walk_at "mem9"); (case z => first | assumption | size_fits); k_whole); intro h9 F9 N9 hoff9; (try k_sweep))
  trivial
def binL (n : Nat) : Nat → List Int
  | 0 => [1]
  | i + 1 => binL n i ++ [((binL n i).getD i 0 * ((n : Int) - (i : Int))).fdiv ((i : Int) + 1)]
theorem binL_length (n : Nat) : ∀ i, (binL n i).length = i + 1
  | 0 => rfl
  | i + 1 => by rw [binL, List.length_append, binL_length n i]; rfl
def IntsAt (l : Led) (a : Addr) (ns : List Int) : Prop := ∃ vs c, (a, listOf vs.toArray c) ∈ l ∧ IntsAre vs ns
def binJ (n : Nat) (news : Led) (i : Nat) (m : Str → Option Value) (nx : Led) : Prop :=
  ∃ l vs c t, m (Str.ofString "n") = some (Value.int n t) ∧ m (Str.ofString "found") = some (Value.ref l) ∧ (l, listOf vs.toArray c) ∈ nx ∧ IntsAre vs (binL n i) ∧ Grows news nx ∧ (∀ q ∈ news, q.1 ≠ l)
theorem binom_says (n : Nat) (t : Tok) (hn : n ≤ 20) : Says 102 1 (fun _ => True) [.int n t] (fun all r => ∃ c, r = .ref c ∧ IntsAt all c (binL n n)) := by
  intro w mean mg mb dp un gd cn cs ca ccd cl outer A₀ base h₀ L m news s Q E B F X N T hk hR hd hu hret
  refine wpAny_call ?_
  k_dflt ktr_enter
  k_steps
  refine Stop.mk ?_
  rename Fr _ _ _ _ => F1
  rename News _ _ _ _ => N1
  refine' loop_range0 (binJ n news) (n := n) rfl (by assumption) ?hs ?hz F1 N1 ?_ ?_ ?_
  case hs => exact small_one (by omega) (by omega) (by omega) (by omega)
  case hz => rw [rangeSize_nat]; omega
  · exact ⟨_, [_], _, _, rfl, rfl, .head _, .cons 1 _ .nil, by walk_at "grows", fun q hq => Nat.ne_of_lt (by first | exact (by assumption : ∀ p ∈ news, p.1 < _) q hq)⟩
  · intro i t1 m₁ nx h1 tk1 I oI hi J hoI hoff F2 N2
    obtain ⟨l, vs, c, t2, e1, e2, hl, hv, G, ho⟩ := J
    replace F2 := fr_know (fr_know F2 (Str.ofString "n") e1) (Str.ofString "found") e2
    have hlen := binL_length n i
    clear F1 N1
    k_steps
    have e : binL n (i + 1) = binL n i ++ [((binL n i).getD (i : Int).toNat 0 * ((n : Int) - (i : Int))).fdiv ((i : Int) + 1)] := by rw [Int.toNat_natCast, binL]
    exact TurnEnd.next F9 N9 (.tail _ (hoff9 _ (.head _) (ri_ne_list hoI))) fun h => ⟨l, _, _, _, rfl, rfl, h _ (.head _) (ri_ne_list' hoI), e ▸ hv.append (.cons _ _ .nil), ((G.cons).upd ho).off fun q hq => hoff q (G q hq), ho⟩
  · intro m₁ nx h1 tk1 J F2 N2
    obtain ⟨l, vs, c, t2, e1, e2, hl, hv, G, ho⟩ := J
    replace F2 := fr_know F2 _ e2
    clear F1 N1
    k_steps
    exact hret _ _ _ _ (by assumption) (by assumption) (by walk_at "grows") ⟨_, rfl, _, _, hl, hv⟩
theorem binom_says' (z : Int) (t : Tok) (h0 : 0 ≤ z) (h1 : z ≤ 20) : Says 102 1 (fun _ => True) [.int z t] (fun all r => ∃ c, r = .ref c ∧ IntsAt all c (binL z.toNat z.toNat)) := by
  have h := binom_says z.toNat t (by omega)
  rwa [Int.toNat_of_nonneg h0] at h
theorem tn2 (i : Nat) : (1 + (i : Int) + 1).toNat = i + 2 := by omega
theorem tn1 (i : Nat) : ((i : Int) + 1).toNat = i + 1 := by omega
theorem words6 : True := by
  k_with_none
  k_with "exec While Compare cons nil" => (k_here; refine Stop.out ?_)
  k_with "exec While BoolOp cons nil" => (k_here; refine Stop.out ?_)
  k_with "grows" => (first | exact Grows.refl | assumption | (refine Grows.cons ?_; walk_at "grows") | (refine Grows.app ?_; walk_at "grows"))
  k_with "sub9" => (first | exact (fun _ h9 => h9) | (intro p9 h9; simp only [List.mem_append, List.mem_cons, h9, or_true, true_or]; done))
  k_with "bits9" => (refine' Nat.le_trans ?b91 ?b92; (case b91 => bits_by_make); (case b92 => decide))
  k_with "binaryOp FloorDiv int int" => (k_here; (with_reducible refine floordiv_int ?n91 ?_ (Or.inl ?n92)); (case n91 => omega); (case n92 => first | assumption | exact PyProof.noPylong_small (by omega)))
  k_with "binaryOp Mod int int" => (k_here; (with_reducible refine mod_int' ?n91 ?_); (case n91 => omega))
  k_with "subscriptTail Name Constant ref int" => (k_here; k_dflt (first | ((with_reducible show wpAny _ _ (subscriptTail _ _ (Value.ref _) (Value.int 0 _)) _ _ _); refine' rat_item0 ?k1 ?k2 ?k3 ?k4 ?k5 ?_; (case k1 => k_asm); (case k2 => k_asm); (case k3 => k_asm); (case k4 => assumption); (case k5 => walk_at "sub9"); k_whole) | ((with_reducible show wpAny _ _ (subscriptTail _ _ (Value.ref _) (Value.int 1 _)) _ _ _); refine' rat_item1 ?k1 ?k2 ?k3 ?k4 ?k5 ?_; (case k1 => k_asm); (case k2 => k_asm); (case k3 => k_asm); (case k4 => assumption); (case k5 => walk_at "sub9"); k_whole)); intro t9; (try dsimp only))
  k_with "exec For Name Call cons nil" => (k_here; (rename Fr _ _ _ _ => lF'); (with_unfolding_all refine' For_invVF lF' ?k1 ?k2 ?_; (case k1 => exact rfl); (case k2 => exact rfl); k_whole))
  k_with "exec For Name Subscript cons nil" => (k_here; (rename Fr _ _ _ _ => lF'); (with_unfolding_all refine' For_invVF lF' ?k1 ?k2 ?_; (case k1 => exact rfl); (case k2 => exact rfl); k_whole))
  k_with "pyIter ref" => (k_here; refine Stop.out ?_)
  k_with "mem9" => (first | assumption | exact .head _ | (refine List.mem_append.mpr (.inl ?_); assumption) | (refine .tail _ ?_; walk_at "mem9") | (refine List.mem_append.mpr (.inr ?_); walk_at "mem9"))
  k_with "getMethod ref" => (k_here; (with_reducible show wpAny _ _ (getMethod (Value.ref _) (PySem.Str.ofString "append") _) _ _ _); k_dflt (refine' listMethod_K ?N ?m PySem.F.slot_list_append PySem.F.type_list_append ?_; (case N => k_asm); (case m => walk_at "mem9")))
  k_with "call builtin:list.append" => (k_here; (with_reducible show wpAny _ _ (call (Value.builtin _) [Value.ref _, _]) _ _ _); k_dflt (refine' append_mem ?k1 ?k2 ?k3 ?_ ?z; (case k1 => k_asm); (case k2 => k_asm); (case k3 => walk_at "mem9"); (case z => first | assumption | size_fits); k_whole); intro h9 F9 N9 hoff9; (try k_sweep))
  k_with "rats9" => (first | assumption | exact Rats.mono (by assumption) (by walk_at "sub9"))
  k_with "rat9" => (first | assumption | exact RatAt.mono (by assumption) (by walk_at "sub9") | (have hq9 := ratTop (by assumption); assumption) | exact RatAt.mk (by walk_at "mem9") | exact RatAt.zero)
  k_with "subscriptTail Name Name ref int" => (k_here; (with_reducible show wpAny _ _ (subscriptTail _ _ (Value.ref _) (Value.int _ _)) _ _ _); k_dflt (first | (refine' ints_item_nat ?k1 ?k2 ?k3 ?k4 ?k5 ?k6 ?_; (case k1 => k_asm); (case k2 => k_asm); (case k3 => walk_at "mem9"); (case k4 => assumption); (case k5 => omega); (case k6 => omega); k_whole; intro t9; (try dsimp only)) | (refine' rats_item_nat ?k1 ?k2 ?k3 ?k4 ?k5 ?k6 ?_; (case k1 => k_asm); (case k2 => k_asm); (case k3 => walk_at "mem9"); (case k4 => assumption); (case k5 => omega); (case k6 => omega); k_whole; intro a9 R9; (try dsimp only))))
  k_with "subscriptTail Name BinOp ref int" => (k_here; (with_reducible show wpAny _ _ (subscriptTail _ _ (Value.ref _) (Value.int _ _)) _ _ _); k_dflt (refine' rats_item ?k1 ?k2 ?k3 ?k4 ?k5 ?k6 ?k7 ?_; (case k1 => k_asm); (case k2 => k_asm); (case k3 => walk_at "mem9"); (case k4 => assumption); (case k5 => omega); (case k6 => omega); (case k7 => omega); k_whole; intro a9 R9; (try simp only [tn3] at R9); (try dsimp only)))
  trivial
def totF (row : List Int) (found : List (Int × Int)) : Nat → Int × Int
  | 0 => (0, 1)
  | j + 1 => raddF (totF row found j) (rmulF (ratF (row.getD j 0) 1) (found.getD j (0, 1)))
def bernL : Nat → List (Int × Int)
  | 0 => [(1, 1)]
  | i + 1 => bernL i ++ [rnegF (rdivF (totF (binL (i + 2) (i + 2)) (bernL i) (i + 1)) (1 + (i : Int) + 1, 1))]
theorem bernL_length : ∀ i, (bernL i).length = i + 1
  | 0 => rfl
  | i + 1 => by rw [bernL, List.length_append, bernL_length i]; rfl
def goodR (x : Int × Int) : Bool := decide (x.1.natAbs < 2 ^ 60) && decide (x.2.natAbs < 2 ^ 60) && decide (0 < x.2)
theorem goodR.br {x : Int × Int} (h : goodR x = true) : BR 60 x := by
  simp only [goodR, Bool.and_eq_true, decide_eq_true_eq] at h
  exact ⟨intBits_le_iff.mpr h.1.1, intBits_le_iff.mpr h.1.2, h.2⟩
def bernOk : Bool := (List.range 9).all fun i => (List.range (i + 2)).all fun j => goodR (ratF ((binL (i + 2) (i + 2)).getD j 0) 1) && goodR ((bernL i).getD j (0, 1)) && goodR (totF (binL (i + 2) (i + 2)) (bernL i) j)
theorem bernOk_true : bernOk = true := by decide +kernel
theorem bern_good {i j : Nat} (hi : i < 9) (hj : j < i + 2) : BR 60 (ratF ((binL (i + 2) (i + 2)).getD j 0) 1) ∧ BR 60 ((bernL i).getD j (0, 1)) ∧ BR 60 (totF (binL (i + 2) (i + 2)) (bernL i) j) := by
  have h := bernOk_true
  unfold bernOk at h
  have h1 := List.all_eq_true.mp (List.all_eq_true.mp h i (List.mem_range.mpr hi)) j (List.mem_range.mpr hj)
  simp only [Bool.and_eq_true] at h1
  exact ⟨goodR.br h1.1.1, goodR.br h1.1.2, goodR.br h1.2⟩
def RatsAt (l : Led) (a : Addr) (xs : List (Int × Int)) : Prop := ∃ vs c, (a, listOf vs.toArray c) ∈ l ∧ Rats l vs xs
def bernJ (n : Nat) (news : Led) (i : Nat) (m : Str → Option Value) (nx : Led) : Prop :=
  ∃ l vs c t, m (Str.ofString "n") = some (Value.int n t) ∧ m (Str.ofString "found") = some (Value.ref l) ∧ (l, listOf vs.toArray c) ∈ nx ∧ Rats nx vs (bernL i) ∧ Grows news nx ∧ (∀ q ∈ news, q.1 ≠ l)
def bernJ2 (n i : Nat) (l lr : Addr) (t1 t2 : Tok) (news : Led) (j : Nat) (m : Str → Option Value) (nx : Led) : Prop :=
  m (Str.ofString "n") = some (Value.int n t2) ∧ m (Str.ofString "m") = some (Value.int (1 + (i : Int)) t1) ∧ m (Str.ofString "found") = some (Value.ref l) ∧ m (Str.ofString "row") = some (Value.ref lr) ∧
  ∃ a, m (Str.ofString "total") = some (Value.ref a) ∧ RatAt nx a (totF (binL (i + 2) (i + 2)) (bernL i) j) ∧ Grows news nx
theorem words7 : True := by
  k_with "call ref" => (k_here; (with_reducible show wpAny _ _ (call (Value.ref 102) _) _ _ _); k_dflt (refine' says_use (binom_says' _ _ ?kx ?ky) ?k1 ?k2 ?k3 ?k4 ?k5 ?kK ?kp ?kd ?ku ?_; (case k1 => k_asm); (case k2 => k_asm); (case k3 => k_asm); (case k4 => k_asm); (case k5 => k_asm); (case kK => first | exact rfl | assumption); (case kp => trivial); (case kx => omega); (case ky => omega); (case kd => first | exact room_le rfl (by assumption) (by decide) | ktr_room); (case ku => first | exact units_le rfl (by assumption) (by decide) | ktr_units); intro r9 tl9 h9 tk9 F9 N9 ho9; obtain ⟨c9, e9, vs9, n9, hl9, hv9⟩ := ho9; (try simp only [tn1, tn2] at hv9); subst e9; (try dsimp only); (try k_fold)))
  k_with "call ref" => (k_here; (with_reducible show wpAny _ _ (call (Value.ref 50) _) _ _ _); k_dflt (refine' says_use (rat_says _ _ _ _ ?kx ?ky) ?k1 ?k2 ?k3 ?k4 ?k5 ?kK ?kp ?kd ?ku ?_; (case k1 => k_asm); (case k2 => k_asm); (case k3 => k_asm); (case k4 => k_asm); (case k5 => k_asm); (case kK => first | exact rfl | assumption); (case kp => trivial); (case kx => first | assumption | omega); (case ky => first | decide | walk_at "bits9"); (case kd => first | exact room_le rfl (by assumption) (by decide) | ktr_room); (case ku => first | exact units_le rfl (by assumption) (by decide) | ktr_units); intro r9 tl9 h9 tk9 F9 N9 ho9; obtain ⟨c9, e9, R9⟩ := ho9; subst e9; (try dsimp only); (try k_fold)))
  k_with "call ref" => (k_here; (with_reducible show wpAny _ _ (call (Value.ref 57) _) _ _ _); k_dflt (refine' says_use (radd_says _ _ _ _ ?kx ?ky) ?k1 ?k2 ?k3 ?k4 ?k5 ?kK ?kp ?kd ?ku ?_; (case k1 => k_asm); (case k2 => k_asm); (case k3 => k_asm); (case k4 => k_asm); (case k5 => k_asm); (case kK => first | exact rfl | assumption); (case kp => exact ⟨by walk_at "rat9", by walk_at "rat9"⟩); (case kx => assumption); (case ky => assumption); (case kd => first | exact room_le rfl (by assumption) (by decide) | ktr_room); (case ku => first | exact units_le rfl (by assumption) (by decide) | ktr_units); intro r9 tl9 h9 tk9 F9 N9 ho9; obtain ⟨c9, e9, R9⟩ := ho9; subst e9; (try dsimp only); (try k_fold)))
  k_with "call ref" => (k_here; (with_reducible show wpAny _ _ (call (Value.ref 64) _) _ _ _); k_dflt (refine' says_use (rmul_says _ _ _ _ ?kx ?ky) ?k1 ?k2 ?k3 ?k4 ?k5 ?kK ?kp ?kd ?ku ?_; (case k1 => k_asm); (case k2 => k_asm); (case k3 => k_asm); (case k4 => k_asm); (case k5 => k_asm); (case kK => first | exact rfl | assumption); (case kp => exact ⟨by walk_at "rat9", by walk_at "rat9"⟩); (case kx => assumption); (case ky => assumption); (case kd => first | exact room_le rfl (by assumption) (by decide) | ktr_room); (case ku => first | exact units_le rfl (by assumption) (by decide) | ktr_units); intro r9 tl9 h9 tk9 F9 N9 ho9; obtain ⟨c9, e9, R9⟩ := ho9; subst e9; (try dsimp only); (try k_fold)))
  k_with "call ref" => (k_here; (with_reducible show wpAny _ _ (call (Value.ref 71) _) _ _ _); k_dflt (refine' says_use (rdiv_says _ _ _ _ ?kx ?ky ?kz) ?k1 ?k2 ?k3 ?k4 ?k5 ?kK ?kp ?kd ?ku ?_; (case k1 => k_asm); (case k2 => k_asm); (case k3 => k_asm); (case k4 => k_asm); (case k5 => k_asm); (case kK => first | exact rfl | assumption); (case kp => exact ⟨by walk_at "rat9", by walk_at "rat9"⟩); (case kx => assumption); (case ky => assumption); (case kz => first | assumption | (dsimp only; omega)); (case kd => first | exact room_le rfl (by assumption) (by decide) | ktr_room); (case ku => first | exact units_le rfl (by assumption) (by decide) | ktr_units); intro r9 tl9 h9 tk9 F9 N9 ho9; obtain ⟨c9, e9, R9⟩ := ho9; subst e9; (try dsimp only); (try k_fold)))
  k_with "call ref" => (k_here; (with_reducible show wpAny _ _ (call (Value.ref 78) _) _ _ _); k_dflt (refine' says_use (rneg_says _ _) ?k1 ?k2 ?k3 ?k4 ?k5 ?kK ?kp ?kd ?ku ?_; (case k1 => k_asm); (case k2 => k_asm); (case k3 => k_asm); (case k4 => k_asm); (case k5 => k_asm); (case kK => first | exact rfl | assumption); (case kp => walk_at "rat9"); (case kd => first | exact room_le rfl (by assumption) (by decide) | ktr_room); (case ku => first | exact units_le rfl (by assumption) (by decide) | ktr_units); intro r9 tl9 h9 tk9 F9 N9 ho9; obtain ⟨c9, e9, R9⟩ := ho9; subst e9; (try dsimp only); (try k_fold)))
  trivial
theorem bern_says (n : Nat) (t : Tok) (hn : n ≤ 9) : Says 109 4 (fun _ => True) [.int n t] (fun all r => ∃ c, r = .ref c ∧ RatsAt all c (bernL n)) := by
  intro w mean mg mb dp un gd cn cs ca ccd cl outer A₀ base h₀ L m news s Q E B F X N T hk hR hd hu hret
  refine wpAny_call ?_
  k_dflt ktr_enter
  k_steps
  refine Stop.mk ?_
  rename Fr _ _ _ _ => F1
  rename News _ _ _ _ => N1
  refine' loop_range (bernJ n news) (n := n) rfl (by assumption) ?hs ?hz F1 N1 ?_ ?_ ?_
  case hs => exact small_one (by omega) (by omega) (by omega) (by omega)
  case hz => rw [rangeSize_nat]; omega
  · exact ⟨_, [.ref 43], _, _, rfl, rfl, .head _, .cons (.inr (.inr ⟨rfl, rfl⟩)) .nil, by walk_at "grows", fun q hq => Nat.ne_of_lt (by first | exact (by assumption : ∀ p ∈ news, p.1 < _) q hq)⟩
  · intro i t1 m₁ nx h1 tk1 I oI hi J hoI hoff F2 N2
    obtain ⟨l, vs, c, t2, e1, e2, hl, hv, G, ho⟩ := J
    replace F2 := fr_know (fr_know F2 (Str.ofString "n") e1) (Str.ofString "found") e2
    have hlen := bernL_length i
    have hlen2 := binL_length (i + 2) (i + 2)
    have hi9 : i < 9 := by omega
    clear F1 N1
    k_steps
    refine Stop.mk ?_
    rename Fr _ _ _ _ => F3
    rename News _ _ _ _ => N3
    obtain ⟨L3, N3, hG3, hI3, hc3⟩ : ∃ L3, News _ _ _ L3 ∧ Grows nx L3 ∧ (I, oI) ∈ L3 ∧ (c9, listOf vs9.toArray n9) ∈ L3 := ⟨_, N3, by walk_at "grows", by walk_at "mem9", by walk_at "mem9"⟩
    refine' loop_range0 (bernJ2 n i l c9 t1 t2 L3) (n := i + 1) rfl (by assumption) ?hs2 ?hz2 F3 N3 ?_ ?_ ?_
    case hs2 => exact small_one (by omega) (by omega) (by omega) (by omega)
    case hz2 => rw [rangeSize_nat]; omega
    · exact ⟨rfl, rfl, rfl, rfl, 42, rfl, .inr (.inl ⟨rfl, rfl⟩), .refl⟩
    · intro j t3 m₂ nx2 h2 tk2 I2 oI2 hj J2 hoI2 hoff2 F4 N4
      obtain ⟨g1, g2, g3, g4, a, g5, Ra, G2⟩ := J2
      replace F4 := fr_know (fr_know (fr_know F4 (Str.ofString "found") g3) (Str.ofString "row") g4) (Str.ofString "total") g5
      obtain ⟨b1, b2, b3⟩ := bern_good hi9 (show j < i + 2 by omega)
      have b4 := (b1.rmul b2 (Nat.le_refl _)).le (show 60 + 60 ≤ 2000 by decide)
      replace b1 := b1.le (show 60 ≤ 2000 by decide)
      replace b2 := b2.le (show 60 ≤ 2000 by decide)
      replace b3 := b3.le (show 60 ≤ 2000 by decide)
      clear F3 N3
      clear hl9
      replace hl9 := G2 _ hc3
      replace hl := G2 _ (hG3 _ hl)
      replace hv := hv.mono (hG3.trans G2)
      k_steps
      rename Fr _ _ _ _ => F5
      rename News _ _ _ _ => N5
      refine TurnEnd.next F5 N5 (by walk_at "mem9") fun h => ⟨g1, g2, rfl, rfl, _, rfl, R9.mono' fun p hp hc => h p ((by walk_at "sub9" : ∀ p ∈ tl9, p ∈ _) p hp) (by rw [hc]; exact ri_ne_tuple hoI2), Grows.off (by walk_at "grows") fun q hq => hoff2 q (G2 q hq)⟩
    · intro m₂ nx2 h2 tk2 J2 F4 N4
      obtain ⟨g1, g2, g3, g4, a, g5, Ra, G2⟩ := J2
      replace F4 := fr_know (fr_know (fr_know (fr_know F4 (Str.ofString "found") g3) (Str.ofString "m") g2) (Str.ofString "n") g1) (Str.ofString "total") g5
      obtain ⟨-, -, b3⟩ := bern_good hi9 (show i + 1 < i + 2 by omega)
      replace hl := G2 _ (hG3 _ hl)
      replace hv := hv.mono (hG3.trans G2)
      have b4 : BR 2000 ((1 + (i : Int) + 1, 1) : Int × Int) := ⟨intBits_le_iff.mpr (Nat.lt_of_lt_of_le (show (1 + (i : Int) + 1).natAbs < 2 ^ 5 by omega) (Nat.pow_le_pow_right (by decide) (by decide))), intBits_le_iff.mpr (Nat.lt_of_lt_of_le (show (1 : Int).natAbs < 2 ^ 1 by decide) (Nat.pow_le_pow_right (by decide) (by decide))), (by decide : (0 : Int) < 1)⟩
      have b5 := (b3.rdiv b4 (Nat.le_refl _) (by show (0 : Int) < 1 + (i : Int) + 1; omega))
      replace b3 := b3.le (show 60 ≤ 2000 by decide)
      have hsz : vs.length ≤ sizeLine := by rw [hv.length, hlen, sizeLine_eq]; omega
      clear F3 N3
      k_steps
      have hI4 := G2 _ hI3
      have G9 := (G.trans hG3).trans G2
      refine TurnEnd.next F9 N9 (.tail _ (hoff9 _ (by walk_at "mem9") (ri_ne_list hoI))) fun h => ?_
      have hs : ∀ p ∈ nx2, p.2.cls = .type "tuple" → p ∈ Off I ((l, listOf (vs ++ [Value.ref c9]).toArray (c + 1)) :: _) := fun p hp hc => h p (.tail _ (hoff9 p ((by walk_at "sub9" : ∀ p ∈ nx2, p ∈ _) p hp) (by rw [hc]; simp))) (by rw [hc]; exact ri_ne_tuple hoI)
      have hs2 : ∀ p ∈ tl9, p.2.cls = .type "tuple" → p ∈ Off I ((l, listOf (vs ++ [Value.ref c9]).toArray (c + 1)) :: _) := fun p hp hc => h p (.tail _ (hoff9 p ((by walk_at "sub9" : ∀ p ∈ tl9, p ∈ _) p hp) (by rw [hc]; simp))) (by rw [hc]; exact ri_ne_tuple hoI)
      exact ⟨l, _, _, _, rfl, rfl, h _ (.head _) (ri_ne_list' hoI), (hv.mono' hs).snoc (R9.mono' hs2), (Grows.upd (by walk_at "grows") ho).off fun q hq => hoff q (G q hq), ho⟩
  · intro m₁ nx h1 tk1 J F2 N2
    obtain ⟨l, vs, c, t2, e1, e2, hl, hv, G, ho⟩ := J
    replace F2 := fr_know F2 _ e2
    clear F1 N1
    k_steps
    exact hret _ _ _ _ (by assumption) (by assumption) (by walk_at "grows") ⟨_, rfl, _, _, hl, hv⟩
theorem words8 : True := by
  k_with_none
  k_with "exec While Compare cons nil" => (k_here; refine Stop.out ?_)
  k_with "exec While BoolOp cons nil" => (k_here; refine Stop.out ?_)
  k_with "grows" => (first | exact Grows.refl | assumption | (refine Grows.cons ?_; walk_at "grows") | (refine Grows.app ?_; walk_at "grows"))
  k_with "sub9" => (first | exact (fun _ h9 => h9) | (intro p9 h9; simp only [List.mem_append, List.mem_cons, h9, or_true, true_or]; done))
  k_with "bits9" => (refine' Nat.le_trans ?b91 ?b92; (case b91 => bits_by_make); (case b92 => decide))
  k_with "binaryOp FloorDiv int int" => (k_here; (with_reducible refine floordiv_int ?n91 ?_ (Or.inl ?n92)); (case n91 => omega); (case n92 => first | assumption | exact PyProof.noPylong_small (by omega)))
  k_with "binaryOp Mod int int" => (k_here; (with_reducible refine mod_int' ?n91 ?_); (case n91 => omega))
  k_with "subscriptTail Name Constant ref int" => (k_here; k_dflt (first | ((with_reducible show wpAny _ _ (subscriptTail _ _ (Value.ref _) (Value.int 0 _)) _ _ _); refine' rat_item0 ?k1 ?k2 ?k3 ?k4 ?k5 ?_; (case k1 => k_asm); (case k2 => k_asm); (case k3 => k_asm); (case k4 => assumption); (case k5 => walk_at "sub9"); k_whole) | ((with_reducible show wpAny _ _ (subscriptTail _ _ (Value.ref _) (Value.int 1 _)) _ _ _); refine' rat_item1 ?k1 ?k2 ?k3 ?k4 ?k5 ?_; (case k1 => k_asm); (case k2 => k_asm); (case k3 => k_asm); (case k4 => assumption); (case k5 => walk_at "sub9"); k_whole)); intro t9; (try dsimp only))
  k_with "exec For Name Call cons nil" => (k_here; (rename Fr _ _ _ _ => lF'); (with_unfolding_all refine' For_invVF lF' ?k1 ?k2 ?_; (case k1 => exact rfl); (case k2 => exact rfl); k_whole))
  k_with "exec For Name Subscript cons nil" => (k_here; (rename Fr _ _ _ _ => lF'); (with_unfolding_all refine' For_invVF lF' ?k1 ?k2 ?_; (case k1 => exact rfl); (case k2 => exact rfl); k_whole))
  k_with "pyIter ref" => (k_here; refine Stop.out ?_)
  k_with "mem9" => (first | assumption | exact .head _ | (refine List.mem_append.mpr (.inl ?_); assumption) | (refine .tail _ ?_; walk_at "mem9") | (refine List.mem_append.mpr (.inr ?_); walk_at "mem9"))
  k_with "getMethod ref" => (k_here; (with_reducible show wpAny _ _ (getMethod (Value.ref _) (PySem.Str.ofString "append") _) _ _ _); k_dflt (refine' listMethod_K ?N ?m PySem.F.slot_list_append PySem.F.type_list_append ?_; (case N => k_asm); (case m => walk_at "mem9")))
  k_with "call builtin:list.append" => (k_here; (with_reducible show wpAny _ _ (call (Value.builtin _) [Value.ref _, _]) _ _ _); k_dflt (refine' append_mem ?k1 ?k2 ?k3 ?_ ?z; (case k1 => k_asm); (case k2 => k_asm); (case k3 => walk_at "mem9"); (case z => first | assumption | size_fits); k_whole); intro h9 F9 N9 hoff9; (try k_sweep))
  k_with "rats9" => (first | assumption | exact Rats.mono (by assumption) (by walk_at "sub9"))
  k_with "rat9" => (first | assumption | exact RatAt.mono (by assumption) (by walk_at "sub9") | (have hq9 := ratTop (by assumption); assumption) | exact RatAt.mk (by walk_at "mem9") | exact RatAt.zero)
  k_with "subscriptTail Name Name ref int" => (k_here; (with_reducible show wpAny _ _ (subscriptTail _ _ (Value.ref _) (Value.int _ _)) _ _ _); k_dflt (first | (refine' ints_item_nat ?k1 ?k2 ?k3 ?k4 ?k5 ?k6 ?_; (case k1 => k_asm); (case k2 => k_asm); (case k3 => walk_at "mem9"); (case k4 => assumption); (case k5 => omega); (case k6 => omega); k_whole; intro t9; (try dsimp only)) | (refine' rats_item_nat ?k1 ?k2 ?k3 ?k4 ?k5 ?k6 ?_; (case k1 => k_asm); (case k2 => k_asm); (case k3 => walk_at "mem9"); (case k4 => assumption); (case k5 => omega); (case k6 => omega); k_whole; intro a9 R9; (try dsimp only))))
  k_with "subscriptTail Name BinOp ref int" => (k_here; (with_reducible show wpAny _ _ (subscriptTail _ _ (Value.ref _) (Value.int _ _)) _ _ _); k_dflt (refine' rats_item ?k1 ?k2 ?k3 ?k4 ?k5 ?k6 ?k7 ?_; (case k1 => k_asm); (case k2 => k_asm); (case k3 => walk_at "mem9"); (case k4 => assumption); (case k5 => omega); (case k6 => omega); (case k7 => omega); k_whole; intro a9 R9; (try simp only [tn3] at R9); (try dsimp only)))
  trivial
def psL (k : Nat) : Nat → List (Int × Int)
  | 0 => [(0, 1)]
  | i + 1 => psL k i ++ [rdivF (rmulF (ratF ((binL (k + 1) (k + 1)).getD (i + 1) 0) 1) ((bernL k).getD (k - i) (0, 1))) ((k : Int) + 1, 1)]
theorem psL_length (k : Nat) : ∀ i, (psL k i).length = i + 1
  | 0 => rfl
  | i + 1 => by rw [psL, List.length_append, psL_length k i]; rfl
def psOk : Bool := (List.range 10).all fun k => (List.range (k + 1)).all fun i => goodR (ratF ((binL (k + 1) (k + 1)).getD (i + 1) 0) 1) && goodR ((bernL k).getD (k - i) (0, 1))
theorem psOk_true : psOk = true := by decide +kernel
theorem ps_good {k i : Nat} (hk : k < 10) (hi : i < k + 1) : BR 60 (ratF ((binL (k + 1) (k + 1)).getD (i + 1) 0) 1) ∧ BR 60 ((bernL k).getD (k - i) (0, 1)) := by
  have h := psOk_true
  unfold psOk at h
  have h1 := List.all_eq_true.mp (List.all_eq_true.mp h k (List.mem_range.mpr hk)) i (List.mem_range.mpr hi)
  simp only [Bool.and_eq_true] at h1
  exact ⟨goodR.br h1.1, goodR.br h1.2⟩
theorem br_small {p q : Int} {n : Nat} (hp : p.natAbs < 2 ^ 60) (hq : q.natAbs < 2 ^ 60) (h0 : 0 < q) (hn : 60 ≤ n) : BR n (p, q) := BR.le ⟨intBits_le_iff.mpr hp, intBits_le_iff.mpr hq, h0⟩ hn
def psJ (k : Nat) (lr lk : Addr) (t : Tok) (news : Led) (i : Nat) (m : Str → Option Value) (nx : Led) : Prop :=
  m (Str.ofString "k") = some (Value.int k t) ∧ m (Str.ofString "row") = some (Value.ref lr) ∧ m (Str.ofString "known") = some (Value.ref lk) ∧
  (∃ vs c, (lr, listOf vs.toArray c) ∈ nx ∧ IntsAre vs (binL (k + 1) (k + 1))) ∧ (∃ vs c, (lk, listOf vs.toArray c) ∈ nx ∧ Rats nx vs (bernL k)) ∧
  ∃ l vs c, m (Str.ofString "found") = some (Value.ref l) ∧ (l, listOf vs.toArray c) ∈ nx ∧ Rats nx vs (psL k i) ∧ Grows news nx ∧ (∀ q ∈ news, q.1 ≠ l) ∧ lr ≠ l ∧ lk ≠ l
theorem words9 : True := by
  k_with "call ref" => (k_here; (with_reducible show wpAny _ _ (call (Value.ref 102) _) _ _ _); k_dflt (refine' says_use (binom_says' _ _ ?kx ?ky) ?k1 ?k2 ?k3 ?k4 ?k5 ?kK ?kp ?kd ?ku ?_; (case k1 => k_asm); (case k2 => k_asm); (case k3 => k_asm); (case k4 => k_asm); (case k5 => k_asm); (case kK => first | exact rfl | assumption); (case kp => trivial); (case kx => omega); (case ky => omega); (case kd => first | exact room_le rfl (by assumption) (by decide) | ktr_room); (case ku => first | exact units_le rfl (by assumption) (by decide) | ktr_units); intro r9 tl9 h9 tk9 F9 N9 ho9; obtain ⟨d9, e9, vs9, n9, hl9, hv9⟩ := ho9; (try simp only [tn1, tn2] at hv9); subst e9; (try dsimp only); (try k_fold)))
  k_with "call ref" => (k_here; (with_reducible show wpAny _ _ (call (Value.ref 109) _) _ _ _); k_dflt (refine' says_use (bern_says _ _ ?kx) ?k1 ?k2 ?k3 ?k4 ?k5 ?kK ?kp ?kd ?ku ?_; (case k1 => k_asm); (case k2 => k_asm); (case k3 => k_asm); (case k4 => k_asm); (case k5 => k_asm); (case kK => first | exact rfl | assumption); (case kp => trivial); (case kx => omega); (case kd => first | exact room_le rfl (by assumption) (by decide) | ktr_room); (case ku => first | exact units_le rfl (by assumption) (by decide) | ktr_units); intro r9 tl9 h9 tk9 F9 N9 ho9; obtain ⟨c9, e9, us9, n8, hl8, hv8⟩ := ho9; subst e9; (try dsimp only); (try k_fold)))
  k_with "call ref" => (k_here; (with_reducible show wpAny _ _ (call (Value.ref 50) _) _ _ _); k_dflt (refine' says_use (rat_says _ _ _ _ ?kx ?ky) ?k1 ?k2 ?k3 ?k4 ?k5 ?kK ?kp ?kd ?ku ?_; (case k1 => k_asm); (case k2 => k_asm); (case k3 => k_asm); (case k4 => k_asm); (case k5 => k_asm); (case kK => first | exact rfl | assumption); (case kp => trivial); (case kx => first | assumption | omega); (case ky => first | decide | walk_at "bits9"); (case kd => first | exact room_le rfl (by assumption) (by decide) | ktr_room); (case ku => first | exact units_le rfl (by assumption) (by decide) | ktr_units); intro r9 tl9 h9 tk9 F9 N9 ho9; obtain ⟨c9, e9, R9⟩ := ho9; subst e9; (try dsimp only); (try k_fold)))
  k_with "call ref" => (k_here; (with_reducible show wpAny _ _ (call (Value.ref 57) _) _ _ _); k_dflt (refine' says_use (radd_says _ _ _ _ ?kx ?ky) ?k1 ?k2 ?k3 ?k4 ?k5 ?kK ?kp ?kd ?ku ?_; (case k1 => k_asm); (case k2 => k_asm); (case k3 => k_asm); (case k4 => k_asm); (case k5 => k_asm); (case kK => first | exact rfl | assumption); (case kp => exact ⟨by walk_at "rat9", by walk_at "rat9"⟩); (case kx => assumption); (case ky => assumption); (case kd => first | exact room_le rfl (by assumption) (by decide) | ktr_room); (case ku => first | exact units_le rfl (by assumption) (by decide) | ktr_units); intro r9 tl9 h9 tk9 F9 N9 ho9; obtain ⟨c9, e9, R9⟩ := ho9; subst e9; (try dsimp only); (try k_fold)))
  k_with "call ref" => (k_here; (with_reducible show wpAny _ _ (call (Value.ref 64) _) _ _ _); k_dflt (refine' says_use (rmul_says _ _ _ _ ?kx ?ky) ?k1 ?k2 ?k3 ?k4 ?k5 ?kK ?kp ?kd ?ku ?_; (case k1 => k_asm); (case k2 => k_asm); (case k3 => k_asm); (case k4 => k_asm); (case k5 => k_asm); (case kK => first | exact rfl | assumption); (case kp => exact ⟨by walk_at "rat9", by walk_at "rat9"⟩); (case kx => assumption); (case ky => assumption); (case kd => first | exact room_le rfl (by assumption) (by decide) | ktr_room); (case ku => first | exact units_le rfl (by assumption) (by decide) | ktr_units); intro r9 tl9 h9 tk9 F9 N9 ho9; obtain ⟨c9, e9, R9⟩ := ho9; subst e9; (try dsimp only); (try k_fold)))
  k_with "call ref" => (k_here; (with_reducible show wpAny _ _ (call (Value.ref 71) _) _ _ _); k_dflt (refine' says_use (rdiv_says _ _ _ _ ?kx ?ky ?kz) ?k1 ?k2 ?k3 ?k4 ?k5 ?kK ?kp ?kd ?ku ?_; (case k1 => k_asm); (case k2 => k_asm); (case k3 => k_asm); (case k4 => k_asm); (case k5 => k_asm); (case kK => first | exact rfl | assumption); (case kp => exact ⟨by walk_at "rat9", by walk_at "rat9"⟩); (case kx => assumption); (case ky => assumption); (case kz => first | assumption | (dsimp only; omega)); (case kd => first | exact room_le rfl (by assumption) (by decide) | ktr_room); (case ku => first | exact units_le rfl (by assumption) (by decide) | ktr_units); intro r9 tl9 h9 tk9 F9 N9 ho9; obtain ⟨c9, e9, R9⟩ := ho9; subst e9; (try dsimp only); (try k_fold)))
  k_with "call ref" => (k_here; (with_reducible show wpAny _ _ (call (Value.ref 78) _) _ _ _); k_dflt (refine' says_use (rneg_says _ _) ?k1 ?k2 ?k3 ?k4 ?k5 ?kK ?kp ?kd ?ku ?_; (case k1 => k_asm); (case k2 => k_asm); (case k3 => k_asm); (case k4 => k_asm); (case k5 => k_asm); (case kK => first | exact rfl | assumption); (case kp => walk_at "rat9"); (case kd => first | exact room_le rfl (by assumption) (by decide) | ktr_room); (case ku => first | exact units_le rfl (by assumption) (by decide) | ktr_units); intro r9 tl9 h9 tk9 F9 N9 ho9; obtain ⟨c9, e9, R9⟩ := ho9; subst e9; (try dsimp only); (try k_fold)))
  trivial
theorem ps_says (k : Nat) (t : Tok) (hk9 : k ≤ 9) : Says 116 5 (fun _ => True) [.int k t] (fun all r => ∃ c, r = .ref c ∧ RatsAt all c (psL k (k + 1))) := by
  intro w mean mg mb dp un gd cn cs ca ccd cl outer A₀ base h₀ L m news s Q E B F X N T hk hR hd hu hret
  refine wpAny_call ?_
  k_dflt ktr_enter
  k_steps
  refine Stop.mk ?_
  rename Fr _ _ _ _ => F1
  rename News _ _ _ _ => N1
  rename _ < _ ∧ AllLt _ _ => l1
  replace l1 := ktn_ltOf l1.2
  refine' loop_range1 (psJ k d9 c9 t news) (n := k + 1) rfl (by assumption) ?hs ?hz F1 N1 ?_ ?_ ?_
  case hs => exact small_one (by omega) (by omega) (by omega) (by omega)
  case hz => rw [rangeSize_nat]; omega
  · exact ⟨rfl, rfl, rfl, ⟨vs9, n9, by walk_at "mem9", hv9⟩, ⟨us9, n8, by walk_at "mem9", hv8.mono (by walk_at "sub9")⟩, _, [.ref 42], _, rfl, .head _, .cons (.inr (.inl ⟨rfl, rfl⟩)) .nil, by walk_at "grows", fun q hq => Nat.ne_of_lt (l1 q ((by walk_at "sub9" : ∀ p ∈ news, p ∈ _) q hq)), Nat.ne_of_lt (l1 _ (by walk_at "mem9" : (d9, listOf vs9.toArray n9) ∈ _)), Nat.ne_of_lt (l1 _ (by walk_at "mem9" : (c9, listOf us9.toArray n8) ∈ _))⟩
  · intro i t1 m₁ nx h1 tk1 I oI hi J hoI hoff F2 N2
    obtain ⟨e1, e2, e3, ⟨vs1, c1, hl1, hv1⟩, ⟨vs2, c2, hl2, hv2⟩, l, vs, c, e4, hl, hv, G, ho, ho1, ho2⟩ := J
    replace F2 := fr_know (fr_know (fr_know (fr_know F2 (Str.ofString "k") e1) (Str.ofString "row") e2) (Str.ofString "known") e3) (Str.ofString "found") e4
    have hlen := psL_length k i
    have hlen1 := binL_length (k + 1) (k + 1)
    have hlen2 := bernL_length k
    have hsz : vs.length ≤ sizeLine := by rw [hv.length, hlen, sizeLine_eq]; omega
    obtain ⟨b1, b2⟩ := ps_good (show k < 10 by omega) hi
    have b4 := b1.rmul b2 (Nat.le_refl _)
    have b3 : BR 2000 (((k : Int) + 1, 1) : Int × Int) := br_small (by omega) (by decide) (by decide) (by decide)
    replace b1 := b1.le (show 60 ≤ 2000 by decide)
    replace b2 := b2.le (show 60 ≤ 2000 by decide)
    replace b4 := b4.le (show 60 + 60 ≤ 2000 by decide)
    clear F1 N1 hl9 hl8 hv9 hv8
    k_steps
    refine TurnEnd.next F9 N9 (.tail _ (hoff9 _ (by walk_at "mem9") (ri_ne_list hoI))) fun h => ?_
    have hs : ∀ p ∈ nx, p.2.cls = .type "tuple" → p ∈ Off I ((l, listOf (vs ++ [Value.ref c9]).toArray (c + 1)) :: _) := fun p hp hc => h p (.tail _ (hoff9 p ((by walk_at "sub9" : ∀ p ∈ nx, p ∈ _) p hp) (by rw [hc]; simp))) (by rw [hc]; exact ri_ne_tuple hoI)
    have hs2 : ∀ p ∈ tl9, p.2.cls = .type "tuple" → p ∈ Off I ((l, listOf (vs ++ [Value.ref c9]).toArray (c + 1)) :: _) := fun p hp hc => h p (.tail _ (hoff9 p ((by walk_at "sub9" : ∀ p ∈ tl9, p ∈ _) p hp) (by rw [hc]; simp))) (by rw [hc]; exact ri_ne_tuple hoI)
    exact ⟨rfl, rfl, rfl, ⟨vs1, c1, h _ (.tail _ (Off.mem.mpr ⟨by walk_at "mem9", ho1⟩)) (ri_ne_list' hoI), hv1⟩, ⟨vs2, c2, h _ (.tail _ (Off.mem.mpr ⟨by walk_at "mem9", ho2⟩)) (ri_ne_list' hoI), hv2.mono' hs⟩,
      l, _, _, rfl, h _ (.head _) (ri_ne_list' hoI), (hv.mono' hs).snoc (R9.mono' hs2), (Grows.upd (by walk_at "grows") ho).off fun q hq => hoff q (G q hq), ho, ho1, ho2⟩
  · intro m₁ nx h1 tk1 J F2 N2
    obtain ⟨e1, e2, e3, -, -, l, vs, c, e4, hl, hv, G, ho, -⟩ := J
    replace F2 := fr_know F2 _ e4
    clear F1 N1
    k_steps
    exact hret _ _ _ _ (by assumption) (by assumption) (by walk_at "grows") ⟨_, rfl, _, _, hl, hv⟩
theorem words10 : True := by
  k_with_none
  k_with "exec While Compare cons nil" => (k_here; refine Stop.out ?_)
  k_with "exec While BoolOp cons nil" => (k_here; refine Stop.out ?_)
  k_with "grows" => (first | exact Grows.refl | assumption | (refine Grows.cons ?_; walk_at "grows") | (refine Grows.app ?_; walk_at "grows"))
  k_with "sub9" => (first | exact (fun _ h9 => h9) | (intro p9 h9; simp only [List.mem_append, List.mem_cons, h9, or_true, true_or]; done))
  k_with "bits9" => (refine' Nat.le_trans ?b91 ?b92; (case b91 => bits_by_make); (case b92 => decide))
  k_with "binaryOp FloorDiv int int" => (k_here; (with_reducible refine floordiv_int ?n91 ?_ (Or.inl ?n92)); (case n91 => omega); (case n92 => first | assumption | exact PyProof.noPylong_small (by omega)))
  k_with "binaryOp Mod int int" => (k_here; (with_reducible refine mod_int' ?n91 ?_); (case n91 => omega))
  k_with "subscriptTail Name Constant ref int" => (k_here; k_dflt (first | ((with_reducible show wpAny _ _ (subscriptTail _ _ (Value.ref _) (Value.int 0 _)) _ _ _); refine' rat_item0 ?k1 ?k2 ?k3 ?k4 ?k5 ?_; (case k1 => k_asm); (case k2 => k_asm); (case k3 => k_asm); (case k4 => assumption); (case k5 => walk_at "sub9"); k_whole) | ((with_reducible show wpAny _ _ (subscriptTail _ _ (Value.ref _) (Value.int 1 _)) _ _ _); refine' rat_item1 ?k1 ?k2 ?k3 ?k4 ?k5 ?_; (case k1 => k_asm); (case k2 => k_asm); (case k3 => k_asm); (case k4 => assumption); (case k5 => walk_at "sub9"); k_whole)); intro t9; (try dsimp only))
  k_with "exec For Name Call cons nil" => (k_here; (rename Fr _ _ _ _ => lF'); (with_unfolding_all refine' For_invVF lF' ?k1 ?k2 ?_; (case k1 => exact rfl); (case k2 => exact rfl); k_whole))
  k_with "exec For Name Subscript cons nil" => (k_here; (rename Fr _ _ _ _ => lF'); (with_unfolding_all refine' For_invVF lF' ?k1 ?k2 ?_; (case k1 => exact rfl); (case k2 => exact rfl); k_whole))
  k_with "pyIter ref" => (k_here; refine Stop.out ?_)
  k_with "mem9" => (first | assumption | exact .head _ | (refine List.mem_append.mpr (.inl ?_); assumption) | (refine .tail _ ?_; walk_at "mem9") | (refine List.mem_append.mpr (.inr ?_); walk_at "mem9"))
  k_with "getMethod ref" => (k_here; (with_reducible show wpAny _ _ (getMethod (Value.ref _) (PySem.Str.ofString "append") _) _ _ _); k_dflt (refine' listMethod_K ?N ?m PySem.F.slot_list_append PySem.F.type_list_append ?_; (case N => k_asm); (case m => walk_at "mem9")))
  k_with "call builtin:list.append" => (k_here; (with_reducible show wpAny _ _ (call (Value.builtin _) [Value.ref _, _]) _ _ _); k_dflt (refine' append_mem ?k1 ?k2 ?k3 ?_ ?z; (case k1 => k_asm); (case k2 => k_asm); (case k3 => walk_at "mem9"); (case z => first | assumption | size_fits); k_whole); intro h9 F9 N9 hoff9; (try k_sweep))
  k_with "rats9" => (first | assumption | exact Rats.mono (by assumption) (by walk_at "sub9"))
  k_with "rat9" => (first | assumption | exact RatAt.mono (by assumption) (by walk_at "sub9") | (have hq9 := ratTop (by assumption); assumption) | exact RatAt.mk (by walk_at "mem9") | exact RatAt.zero)
  k_with "subscriptTail Name Name ref int" => (k_here; (with_reducible show wpAny _ _ (subscriptTail _ _ (Value.ref _) (Value.int _ _)) _ _ _); k_dflt (first | (refine' ints_item_nat ?k1 ?k2 ?k3 ?k4 ?k5 ?k6 ?_; (case k1 => k_asm); (case k2 => k_asm); (case k3 => walk_at "mem9"); (case k4 => assumption); (case k5 => omega); (case k6 => omega); k_whole; intro t9; (try dsimp only)) | (refine' rats_item_nat ?k1 ?k2 ?k3 ?k4 ?k5 ?k6 ?_; (case k1 => k_asm); (case k2 => k_asm); (case k3 => walk_at "mem9"); (case k4 => assumption); (case k5 => omega); (case k6 => omega); k_whole; intro a9 R9; (try dsimp only))))
  k_with "subscriptTail Name BinOp ref int" => (k_here; (with_reducible show wpAny _ _ (subscriptTail _ _ (Value.ref _) (Value.int _ _)) _ _ _); k_dflt (refine' rats_item ?k1 ?k2 ?k3 ?k4 ?k5 ?k6 ?k7 ?_; (case k1 => k_asm); (case k2 => k_asm); (case k3 => walk_at "mem9"); (case k4 => assumption); (case k5 => omega); (case k6 => omega); (case k7 => omega); k_whole; intro a9 R9; (try simp only [tn3] at R9); (try dsimp only)))
  k_with "subscriptTail Name Slice ref ref" => (k_here; (with_reducible show wpAny _ _ (subscriptTail _ (PySem.Expr.Slice none none (some _) _) (Value.ref _) (Value.ref _)) _ _ _); k_dflt (refine' krv_lit ?F ?N (News.isList ?N1 ?l) ?k ?e ?_ ?s ?t ?z; (case F => k_asm); (case N => k_asm); (case N1 => k_asm); (case l => walk_at "mem9"); (case k => exact IsPart.int _ _); (case e => exact rfl); (case s => with_unfolding_all rfl); (case t => kmk_pure); (case z => first | assumption | kmk_size)); intro D9 h9 F9 N9 l1; (try k_sweep))
  trivial
def atStep (n : Int) (T one : Int × Int) : Int × Int := (T.1 * n * one.2 + one.1 * T.2, T.2 * one.2)
def lawAtF (xs : List (Int × Int)) (n : Int) : Int × Int := xs.reverse.foldl (atStep n) (0, 1)
theorem at_bits {n : Int} (hn : bits n ≤ 10) : ∀ (ys : List (Int × Int)) (T : Int × Int) (b : Nat), (∀ y ∈ ys, BR 200 y) → bits T.1 ≤ b → bits T.2 ≤ b → bits (ys.foldl (atStep n) T).1 ≤ b + 300 * ys.length ∧ bits (ys.foldl (atStep n) T).2 ≤ b + 300 * ys.length
  | [], T, b, _, h1, h2 => ⟨h1, h2⟩
  | y :: ys, T, b, hy, h1, h2 => by
    have hb := hy y (.head _)
    have a1 : bits (atStep n T y).1 ≤ b + 300 := Nat.le_trans (intBits_add_le (intBits_mul_le (intBits_mul_le h1 hn) hb.bot) (intBits_mul_le hb.top h2)) (by omega)
    have a2 : bits (atStep n T y).2 ≤ b + 300 := Nat.le_trans (intBits_mul_le h2 hb.bot) (by omega)
    have ih := at_bits hn ys (atStep n T y) (b + 300) (fun z hz => hy z (.tail _ hz)) a1 a2
    rw [List.foldl_cons, List.length_cons]
    exact ⟨Nat.le_trans ih.1 (by omega), Nat.le_trans ih.2 (by omega)⟩
def atJ (n : Int) (t : Tok) (ys : List (Int × Int)) (ws : List Value) (news : Led) (i : Nat) (m : Str → Option Value) (nx : Led) : Prop :=
  ∃ T t1 t2, T = (ys.take i).foldl (atStep n) (0, 1) ∧ m (Str.ofString "n") = some (Value.int n t) ∧ m (Str.ofString "top") = some (Value.int T.1 t1) ∧ m (Str.ofString "bottom") = some (Value.int T.2 t2) ∧ Rats nx ws ys ∧ Grows news nx
theorem at_says (a : Addr) (xs : List (Int × Int)) (n : Int) (t : Tok) (hx : ∀ x ∈ xs, BR 200 x) (hl : xs.length ≤ 12) (hn : bits n ≤ 10) : Says 142 1 (fun l => RatsAt l a xs) [.ref a, .int n t] (fun all r => ∃ c, r = .ref c ∧ RatAt all c (lawAtF xs n)) := by
  intro w mean mg mb dp un gd cn cs ca ccd cl outer A₀ base h₀ L m news s Q E B F X N T hk hR hd hu hret
  obtain ⟨vs, c, hl1, hv⟩ := hR
  have hsz : vs.toArray.size ≤ sizeLine := by rw [List.size_toArray, hv.length, sizeLine_eq]; omega
  refine wpAny_call ?_
  k_dflt ktr_enter
  k_steps
  refine Stop.mk ?_
  rename Fr _ _ _ _ => F1
  refine' loop_list (vs := vs.reverse) (c := 0) (atJ n t xs.reverse vs.reverse news) rfl (.head _) F1 N9 ?_ ?_ ?_
  · exact ⟨(0, 1), _, _, rfl, rfl, rfl, rfl, hv.reverse.mono (by walk_at "sub9"), by walk_at "grows"⟩
  · intro i v m₁ nx h1 tk1 I oI hi J hlm hoI hoff F2 N2
    obtain ⟨T, t1, t2, hT, e1, e2, e3, R, G⟩ := J
    obtain ⟨b, y, rfl, hy, Rb⟩ := R.at hi
    replace F2 := fr_know (fr_know (fr_know F2 (Str.ofString "n") e1) (Str.ofString "top") e2) (Str.ofString "bottom") e3
    have hym : y ∈ xs := List.mem_reverse.mp (List.mem_of_getElem? hy)
    have hb := hx y hym
    have hb1 := hb.top
    have hb2 := hb.bot
    have hil : i < 12 := by have := (List.getElem?_eq_some_iff.mp hy).1; rw [List.length_reverse] at this; omega
    have hTb := at_bits hn (xs.reverse.take i) (0, 1) 1 (fun z hz => hx z (List.mem_reverse.mp (List.mem_of_mem_take hz))) (by decide) (by decide)
    rw [← hT] at hTb
    have hTl : (xs.reverse.take i).length ≤ i := by rw [List.length_take]; omega
    have hT1 : bits T.1 ≤ 4000 := Nat.le_trans hTb.1 (by omega)
    have hT2 : bits T.2 ≤ 4000 := Nat.le_trans hTb.2 (by omega)
    have hT9 : (xs.reverse.take (i + 1)).foldl (atStep n) (0, 1) = atStep n T y := by rw [List.take_add_one, hy, List.foldl_append, ← hT]; rfl
    clear F1 N9
    k_steps
    rename Fr _ _ _ _ => F5
    rename News _ _ _ _ => N5
    exact TurnEnd.next F5 N5 (by walk_at "mem9") fun h => ⟨h _ (by walk_at "mem9") (li_ne_list' hoI), atStep n T y, _, _, hT9.symm, rfl, rfl, rfl, R.mono' fun p hp hc => h p ((by walk_at "sub9" : ∀ p ∈ nx, p ∈ _) p hp) (by rw [hc]; exact li_ne_tuple hoI), Grows.off (by walk_at "grows") fun q hq => hoff q (G q hq)⟩
  · intro m₁ nx h1 tk1 J F2 N2
    obtain ⟨T, t1, t2, hT, e1, e2, e3, R, G⟩ := J
    replace F2 := fr_know (fr_know F2 (Str.ofString "top") e2) (Str.ofString "bottom") e3
    rw [List.length_reverse, hv.length, ← List.length_reverse, List.take_length] at hT
    clear F1 N9
    k_steps
    exact hret _ _ _ _ (by assumption) (by assumption) (by walk_at "grows") ⟨_, rfl, .new (.head _) (by unfold lawAtF; rw [← hT])⟩
theorem is_says (a b : Addr) (x y : Int × Int) (hx1 : bits x.1 ≤ 5000) (hx2 : bits x.2 ≤ 5000) (hy1 : bits y.1 ≤ 5000) (hy2 : bits y.2 ≤ 5000) : Says 149 1 (fun l => RatAt l a x ∧ RatAt l b y) [.ref a, .ref b] (fun _ r => r = .bool (x.1 * y.2 == y.1 * x.2)) := by
  intro w mean mg mb dp un gd cn cs ca ccd cl outer A₀ base h₀ L m news s Q E B F X N T hk hR hd hu hret
  obtain ⟨hR1, hR2⟩ := hR
  refine wpAny_call ?_
  k_dflt ktr_enter
  k_steps
  exact hret _ _ _ _ (by assumption) (by assumption) (by walk_at "grows") rfl
theorem is_true (a b : Addr) (x y : Int × Int) (hx1 : bits x.1 ≤ 5000) (hx2 : bits x.2 ≤ 5000) (hy1 : bits y.1 ≤ 5000) (hy2 : bits y.2 ≤ 5000) (h : x.1 * y.2 = y.1 * x.2) : Says 149 1 (fun l => RatAt l a x ∧ RatAt l b y) [.ref a, .ref b] (fun _ r => r = .bool true) := by
  have h1 := is_says a b x y hx1 hx2 hy1 hy2
  rwa [show (x.1 * y.2 == y.1 * x.2) = true by simpa using h] at h1
section
open PySem PySem.W PyProof.Rows PySem.SeqAt PySem.Spec PySem.Calls
set_option maxHeartbeats 4000000
abbrev ratD (x : Int × Int) : PyData := .tuple [.int x.1, .int x.2]
theorem ratD_shaped (x : Int × Int) : shaped (ratD x) = true := by
  show (PyData.canLay0 (ratD x) && decide (PyData.depth (ratD x) ≤ 64)) = true
  simp [ratD, PyData.canLay0, PyData.canLayAll0, PyData.depth, PyData.depthAll]
theorem ratD_noMix (x y : Int × Int) : noMix (ratD x) (ratD y) = true := by simp [ratD, noMix, noMixAll]
theorem ratD_same (x y : Int × Int) : PySem.Spec.same (ratD x) (ratD y) = decide (x = y) := by
  obtain ⟨a, b⟩ := x
  obtain ⟨c, d⟩ := y
  simp only [ratD, PySem.Spec.same, PySem.Spec.sameAll]
  by_cases h1 : a = c <;> by_cases h2 : b = d <;> simp [h1, h2]
theorem ratD_canLayAll : ∀ xs : List (Int × Int), PyData.canLayAll0 (xs.map ratD) = true
  | [] => by simp [PyData.canLayAll0]
  | x :: r => by simp [PyData.canLayAll0, PyData.canLay0, ratD_canLayAll r]
theorem ratD_depthAll : ∀ xs : List (Int × Int), PyData.depthAll (xs.map ratD) ≤ 2
  | [] => by simp [PyData.depthAll]
  | x :: r => by
    have := ratD_depthAll r
    simp only [List.map_cons, PyData.depthAll, PyData.depth]
    omega
theorem ratsD_shaped (xs : List (Int × Int)) : shaped (.list (xs.map ratD)) = true := by
  have h1 := ratD_depthAll xs
  have h2 : PyData.depth (.list (xs.map ratD)) ≤ 64 := by simp only [PyData.depth]; omega
  show (PyData.canLay0 (.list (xs.map ratD)) && decide (PyData.depth (.list (xs.map ratD)) ≤ 64)) = true
  rw [Bool.and_eq_true]
  exact ⟨by simp only [PyData.canLay0]; exact ratD_canLayAll xs, decide_eq_true h2⟩
theorem RatAt.reads {w : World} {h₀ h : Heap} {L a : Addr} {m : Str → Option Value} {news l : Led} {x : Int × Int} (R : RatAt l a x) (hs : ∀ p ∈ l, p ∈ news) (F : Fr h₀ L h m) (X : (hd.heap_39 w.params).In h₀) (N : News h₀ L h news) :
    ∃ as, Reads h (.ref a) (ratD x) as := by
  obtain ⟨t, u, o, ho, hc, n, hd⟩ := R.tup hs F X N
  exact ⟨_, Reads.tuple ho hc hd (.cons (.int _ _) (.cons (.int _ _) .nil))⟩
theorem Rats.reads {w : World} {h₀ h : Heap} {L : Addr} {m : Str → Option Value} {news l : Led} {vs : List Value} {xs : List (Int × Int)} (R : Rats l vs xs) (hs : ∀ p ∈ l, p ∈ news) (F : Fr h₀ L h m) (X : (hd.heap_39 w.params).In h₀) (N : News h₀ L h news) :
    ∃ as, ReadsAll h vs (xs.map ratD) as := by
  induction R with
  | nil => exact ⟨_, .nil⟩
  | cons r _ ih =>
    obtain ⟨as, h1⟩ := r.reads hs F X N
    obtain ⟨bs, h2⟩ := ih
    exact ⟨_, .cons h1 h2⟩
section
variable {prog : Program} {w : World} {A : Around} {E : Value → Shared → Prop} {s : Shared} {h₀ : Heap} {L l : Addr} {m : Str → Option Value} {news l' : Led} {vs : List Value} {xs : List (Int × Int)} {c : Nat}
theorem rats_len {Q : Value → Shared → Prop} (N : News h₀ L s.heap news) (hl : (l, listOf vs.toArray c) ∈ news) (R : Rats l' vs xs) (hs : xs.length < 1000000)
    (h : Q (.int (xs.length : Nat) (s.toks + 1)) { s with toks := s.toks + 1 + 1 }) : wpAny (model prog w) A (call (.builtin "len") [.ref l]) Q E s := by
  have hL : s.heap.IsList l vs.toArray := ⟨_, (N _ hl).1, rfl, c, rfl⟩
  refine len_list hL (by rw [List.size_toArray, R.length]; omega) ?_
  rw [List.size_toArray, R.length]
  exact h
theorem rats_last {u : Tok} {value slice : PySem.Expr} {Q : Value → Shared → Prop} (N : News h₀ L s.heap news) (hl : (l, listOf vs.toArray c) ∈ news) (R : Rats l' vs xs) (h0 : 0 < xs.length) (h1 : xs.length < 1000000)
    (h : ∀ a, RatAt l' a (xs.getD (xs.length - 1) (0, 1)) → Q (.ref a) s)
    (he : subscripted slice false (.ref l) (.int (-1) u) = operate [.ref l, .int (-1) u] (getItem (.ref l) (.int (-1) u)) := by with_unfolding_all rfl) :
    wpAny (model prog w) A (subscriptTail value slice (.ref l) (.int (-1) u)) Q E s := by
  have hL : s.heap.IsList l vs.toArray := ⟨_, (N _ hl).1, rfl, c, rfl⟩
  have hk : xs.length - 1 < xs.length := by omega
  obtain ⟨a, e, r⟩ := R.get (List.getElem?_eq_getElem hk)
  have e2 : xs.getD (xs.length - 1) (0, 1) = xs[xs.length - 1] := by rw [List.getD_eq_getElem?_getD, List.getElem?_eq_getElem hk]; rfl
  rw [e2] at h
  have hsz : vs.toArray.size = xs.length := by rw [List.size_toArray, R.length]
  refine tail_any hL.typeIs slot_list_getitem.lookup (wpAny_getItem_list_neg hL (by omega) (by rw [hsz]; omega) (by decide) ?_ (h a r)) he
  have e3 : ((-1 : Int) + (vs.toArray.size : Nat)).toNat = xs.length - 1 := by rw [hsz]; omega
  rw [e3]
  simpa using e
theorem rat_ne {a b : Addr} {x y : Int × Int} {l1 l2 : Led} {Q : Value → Shared → Prop} (F : Fr h₀ L s.heap m) (X : (hd.heap_39 w.params).In h₀) (N : News h₀ L s.heap news) (R1 : RatAt l1 a x) (h1 : ∀ p ∈ l1, p ∈ news) (R2 : RatAt l2 b y) (h2 : ∀ p ∈ l2, p ∈ news) (hu : A.units + 64 < cLine)
    (h : Q (.bool (!decide (x = y))) s) : wpAny (model prog w) A (compareOp .NotEq (.ref a) (.ref b)) Q E s := by
  obtain ⟨as, r1⟩ := R1.reads h1 F X N
  obtain ⟨bs, r2⟩ := R2.reads h2 F X N
  refine ne_dataH_same r1 r2 (ratD_shaped x) (ratD_shaped y) hu (ratD_noMix x y) ?_
  rw [ratD_same]
  exact h
theorem rat_ne_same {a b : Addr} {x y : Int × Int} {l1 l2 : Led} {Q : Value → Shared → Prop} (F : Fr h₀ L s.heap m) (X : (hd.heap_39 w.params).In h₀) (N : News h₀ L s.heap news) (R1 : RatAt l1 a x) (h1 : ∀ p ∈ l1, p ∈ news) (R2 : RatAt l2 b y) (h2 : ∀ p ∈ l2, p ∈ news) (hu : A.units + 64 < cLine) (e : x = y)
    (h : Q (.bool false) s) : wpAny (model prog w) A (compareOp .NotEq (.ref a) (.ref b)) Q E s := rat_ne F X N R1 h1 R2 h2 hu (by rw [decide_eq_true e]; exact h)
theorem rats_ne_nil {b : Addr} {c2 : Nat} {Q : Value → Shared → Prop} (F : Fr h₀ L s.heap m) (X : (hd.heap_39 w.params).In h₀) (N : News h₀ L s.heap news) (hl : (l, listOf vs.toArray c) ∈ news) (R : Rats l' vs xs) (hs : ∀ p ∈ l', p ∈ news) (hb : (b, listOf #[] c2) ∈ news) (hu : A.units + 64 < cLine)
    (h : Q (.bool (!decide (xs = []))) s) : wpAny (model prog w) A (compareOp .NotEq (.ref l) (.ref b)) Q E s := by
  obtain ⟨as, r1⟩ := R.reads hs F X N
  have r1' : Reads s.heap (.ref l) (.list (xs.map ratD)) (l :: as) := Reads.list (N _ hl).1 rfl rfl (by simpa using r1)
  have r2' : Reads s.heap (.ref b) (.list []) [b] := Reads.list (N _ hb).1 rfl rfl (by simpa using ReadsAll.nil)
  refine ne_dataH_same r1' r2' (ratsD_shaped xs) (by decide) hu (by cases xs <;> simp [noMix, noMixAll]) ?_
  have e : PySem.Spec.same (.list (xs.map ratD)) (.list []) = decide (xs = []) := by cases xs <;> simp [PySem.Spec.same, PySem.Spec.sameAll]
  rw [e]
  exact h
theorem rats_eq_nil {b : Addr} {c2 : Nat} {Q : Value → Shared → Prop} (F : Fr h₀ L s.heap m) (X : (hd.heap_39 w.params).In h₀) (N : News h₀ L s.heap news) (hl : (l, listOf vs.toArray c) ∈ news) (R : Rats l' vs xs) (hs : ∀ p ∈ l', p ∈ news) (hb : (b, listOf #[] c2) ∈ news) (hu : A.units + 64 < cLine)
    (h : Q (.bool (decide (xs = []))) s) : wpAny (model prog w) A (compareOp .Eq (.ref l) (.ref b)) Q E s := by
  obtain ⟨as, r1⟩ := R.reads hs F X N
  have r1' : Reads s.heap (.ref l) (.list (xs.map ratD)) (l :: as) := Reads.list (N _ hl).1 rfl rfl (by simpa using r1)
  have r2' : Reads s.heap (.ref b) (.list []) [b] := Reads.list (N _ hb).1 rfl rfl (by simpa using ReadsAll.nil)
  refine eq_dataH_same r1' r2' (ratsD_shaped xs) (by decide) hu (by cases xs <;> simp [noMix, noMixAll]) ?_
  have e : PySem.Spec.same (.list (xs.map ratD)) (.list []) = decide (xs = []) := by cases xs <;> simp [PySem.Spec.same, PySem.Spec.sameAll]
  rw [e]
  exact h
end
theorem units64 {un n c u : Nat} (e : u = un + c) (h : un + 8 * n < cLine) (hk : c + 64 ≤ 8 * n) : u + 64 < cLine := by omega
end
theorem words11 : True := by
  k_with_none
  k_with "exec While Compare cons nil" => (k_here; refine Stop.out ?_)
  k_with "exec While BoolOp cons nil" => (k_here; refine Stop.out ?_)
  k_with "grows" => (first | exact Grows.refl | assumption | (refine Grows.cons ?_; walk_at "grows") | (refine Grows.app ?_; walk_at "grows"))
  k_with "sub9" => (first | exact (fun _ h9 => h9) | (intro p9 h9; simp only [List.mem_append, List.mem_cons, h9, or_true, true_or]; done))
  k_with "bits9" => (refine' Nat.le_trans ?b91 ?b92; (case b91 => bits_by_make); (case b92 => decide))
  k_with "binaryOp FloorDiv int int" => (k_here; (with_reducible refine floordiv_int ?n91 ?_ (Or.inl ?n92)); (case n91 => omega); (case n92 => first | assumption | exact PyProof.noPylong_small (by omega)))
  k_with "binaryOp Mod int int" => (k_here; (with_reducible refine mod_int' ?n91 ?_); (case n91 => omega))
  k_with "subscriptTail Name Constant ref int" => (k_here; k_dflt (first | ((with_reducible show wpAny _ _ (subscriptTail _ _ (Value.ref _) (Value.int 0 _)) _ _ _); refine' rat_item0 ?k1 ?k2 ?k3 ?k4 ?k5 ?_; (case k1 => k_asm); (case k2 => k_asm); (case k3 => k_asm); (case k4 => assumption); (case k5 => walk_at "sub9"); k_whole) | ((with_reducible show wpAny _ _ (subscriptTail _ _ (Value.ref _) (Value.int 1 _)) _ _ _); refine' rat_item1 ?k1 ?k2 ?k3 ?k4 ?k5 ?_; (case k1 => k_asm); (case k2 => k_asm); (case k3 => k_asm); (case k4 => assumption); (case k5 => walk_at "sub9"); k_whole)); intro t9; (try dsimp only))
  k_with "exec For Name Call cons nil" => (k_here; (rename Fr _ _ _ _ => lF'); (with_unfolding_all refine' For_invVF lF' ?k1 ?k2 ?_; (case k1 => exact rfl); (case k2 => exact rfl); k_whole))
  k_with "exec For Name Subscript cons nil" => (k_here; (rename Fr _ _ _ _ => lF'); (with_unfolding_all refine' For_invVF lF' ?k1 ?k2 ?_; (case k1 => exact rfl); (case k2 => exact rfl); k_whole))
  k_with "pyIter ref" => (k_here; refine Stop.out ?_)
  k_with "mem9" => (first | assumption | exact .head _ | (refine List.mem_append.mpr (.inl ?_); assumption) | (refine .tail _ ?_; walk_at "mem9") | (refine List.mem_append.mpr (.inr ?_); walk_at "mem9"))
  k_with "getMethod ref" => (k_here; (with_reducible show wpAny _ _ (getMethod (Value.ref _) (PySem.Str.ofString "append") _) _ _ _); k_dflt (refine' listMethod_K ?N ?m PySem.F.slot_list_append PySem.F.type_list_append ?_; (case N => k_asm); (case m => walk_at "mem9")))
  k_with "call builtin:list.append" => (k_here; (with_reducible show wpAny _ _ (call (Value.builtin _) [Value.ref _, _]) _ _ _); k_dflt (refine' append_mem ?k1 ?k2 ?k3 ?_ ?z; (case k1 => k_asm); (case k2 => k_asm); (case k3 => walk_at "mem9"); (case z => first | assumption | size_fits); k_whole); intro h9 F9 N9 hoff9; (try k_sweep))
  k_with "rats9" => (first | assumption | exact Rats.mono (by assumption) (by walk_at "sub9"))
  k_with "rat9" => (first | assumption | exact RatAt.mono (by assumption) (by walk_at "sub9") | (have hq9 := ratTop (by assumption); assumption) | exact RatAt.mk (by walk_at "mem9") | exact RatAt.zero)
  k_with "subscriptTail Name Name ref int" => (k_here; (with_reducible show wpAny _ _ (subscriptTail _ _ (Value.ref _) (Value.int _ _)) _ _ _); k_dflt (first | (refine' ints_item_nat ?k1 ?k2 ?k3 ?k4 ?k5 ?k6 ?_; (case k1 => k_asm); (case k2 => k_asm); (case k3 => walk_at "mem9"); (case k4 => assumption); (case k5 => omega); (case k6 => omega); k_whole; intro t9; (try dsimp only)) | (refine' rats_item_nat ?k1 ?k2 ?k3 ?k4 ?k5 ?k6 ?_; (case k1 => k_asm); (case k2 => k_asm); (case k3 => walk_at "mem9"); (case k4 => assumption); (case k5 => omega); (case k6 => omega); k_whole; intro a9 R9; (try dsimp only))))
  k_with "subscriptTail Name BinOp ref int" => (k_here; (with_reducible show wpAny _ _ (subscriptTail _ _ (Value.ref _) (Value.int _ _)) _ _ _); k_dflt (refine' rats_item ?k1 ?k2 ?k3 ?k4 ?k5 ?k6 ?k7 ?_; (case k1 => k_asm); (case k2 => k_asm); (case k3 => walk_at "mem9"); (case k4 => assumption); (case k5 => omega); (case k6 => omega); (case k7 => omega); k_whole; intro a9 R9; (try simp only [tn3] at R9); (try dsimp only)))
  k_with "subscriptTail Name Slice ref ref" => (k_here; (with_reducible show wpAny _ _ (subscriptTail _ (PySem.Expr.Slice none none (some _) _) (Value.ref _) (Value.ref _)) _ _ _); k_dflt (refine' krv_lit ?F ?N (News.isList ?N1 ?l) ?k ?e ?_ ?s ?t ?z; (case F => k_asm); (case N => k_asm); (case N1 => k_asm); (case l => walk_at "mem9"); (case k => exact IsPart.int _ _); (case e => exact rfl); (case s => with_unfolding_all rfl); (case t => kmk_pure); (case z => first | assumption | kmk_size)); intro D9 h9 F9 N9 l1; (try k_sweep))
  k_with "call builtin:len" => (k_here; (with_reducible show wpAny _ _ (call (Value.builtin "len") [Value.ref _]) _ _ _); k_dflt (refine' rats_len ?k2 ?k3 ?k4 ?k5 ?_; (case k2 => k_asm); (case k3 => walk_at "mem9"); (case k4 => assumption); (case k5 => omega); k_whole; (try dsimp only)))
  k_with "subscriptTail Name UnaryOp ref int" => (k_here; (with_reducible show wpAny _ _ (subscriptTail _ _ (Value.ref _) (Value.int _ _)) _ _ _); k_dflt (refine' rats_last ?k2 ?k3 ?k4 ?k5 ?k6 ?_; (case k2 => k_asm); (case k3 => walk_at "mem9"); (case k4 => assumption); (case k5 => omega); (case k6 => omega); k_whole; intro a9 R9; (try dsimp only)))
  k_with "units9" => (exact units64 rfl (by assumption) (by decide))
  k_with "compareOp NotEq ref ref" => (k_here; (with_reducible show wpAny _ _ (compareOp CmpOp.NotEq (Value.ref _) (Value.ref _)) _ _ _); k_dflt (first | (refine' rat_ne_same ?k1 ?k2 ?k3 ?k4 ?k5 ?k6 ?k7 ?k8 ?k9 ?_; (case k1 => k_asm); (case k2 => k_asm); (case k3 => k_asm); (case k4 => walk_at "ratl9"); (case k5 => walk_at "sub9"); (case k6 => walk_at "ratl9"); (case k7 => walk_at "sub9"); (case k8 => walk_at "units9"); (case k9 => assumption); k_whole)))
  k_with "ratl9" => (first | assumption | (have hq9 := ratTop (by assumption); assumption))
  trivial
def sumP (k : Nat) : Nat → Int
  | 0 => 0
  | n + 1 => sumP k n + (n : Int) ^ k
def prOk : Bool := (List.range 10).all fun k => (psL k (k + 1)).all goodR && decide ((psL k (k + 1)).getD (k + 1) (0, 1) = (1, (k : Int) + 1)) && (List.range (k + 3)).all fun n => decide ((lawAtF (psL k (k + 1)) n).1 * 1 = sumP k n * (lawAtF (psL k (k + 1)) n).2) && decide ((sumP k n).natAbs < 2 ^ 60)
theorem prOk_true : prOk = true := by decide +kernel
theorem pr_good {k : Nat} (hk : k < 10) : (∀ x ∈ psL k (k + 1), BR 60 x) ∧ (psL k (k + 1)).getD (k + 1) (0, 1) = (1, (k : Int) + 1) ∧ ∀ n, n < k + 3 → (lawAtF (psL k (k + 1)) n).1 * 1 = sumP k n * (lawAtF (psL k (k + 1)) n).2 ∧ (sumP k n).natAbs < 2 ^ 60 := by
  have h := prOk_true
  unfold prOk at h
  have h1 := List.all_eq_true.mp h k (List.mem_range.mpr hk)
  simp only [Bool.and_eq_true, decide_eq_true_eq] at h1
  refine ⟨fun x hx => goodR.br (List.all_eq_true.mp h1.1.1 x hx), h1.1.2, fun n hn => ?_⟩
  have h2 := List.all_eq_true.mp h1.2 n (List.mem_range.mpr hn)
  simpa only [Bool.and_eq_true, decide_eq_true_eq] using h2
theorem lawAt_bits {n : Int} {xs : List (Int × Int)} (hn : bits n ≤ 10) (hx : ∀ x ∈ xs, BR 200 x) (hl : xs.length ≤ 12) : bits (lawAtF xs n).1 ≤ 5000 ∧ bits (lawAtF xs n).2 ≤ 5000 := by
  have h := at_bits hn xs.reverse (0, 1) 1 (fun y hy => hx y (List.mem_reverse.mp hy)) (by decide) (by decide)
  rw [List.length_reverse] at h
  exact ⟨Nat.le_trans h.1 (by omega), Nat.le_trans h.2 (by omega)⟩
theorem bits_of60 {z : Int} {n : Nat} (h : z.natAbs < 2 ^ 60) (hn : 60 ≤ n) : bits z ≤ n := Nat.le_trans (intBits_le_iff.mpr h) hn
def prJ (k : Nat) (lt : Addr) (vs : List Value) (c : Nat) (t : Tok) (news : Led) (i : Nat) (m : Str → Option Value) (nx : Led) : Prop :=
  m (Str.ofString "k") = some (Value.int k t) ∧ m (Str.ofString "told") = some (Value.ref lt) ∧ (lt, listOf vs.toArray c) ∈ nx ∧ Rats nx vs (psL k (k + 1)) ∧ ∃ t', m (Str.ofString "total") = some (Value.int (sumP k i) t') ∧ Grows news nx
theorem words12 : True := by
  k_with "call ref" => (k_here; (with_reducible show wpAny _ _ (call (Value.ref 116) _) _ _ _); k_dflt (refine' says_use (ps_says _ _ ?kx) ?k1 ?k2 ?k3 ?k4 ?k5 ?kK ?kp ?kd ?ku ?_; (case k1 => k_asm); (case k2 => k_asm); (case k3 => k_asm); (case k4 => k_asm); (case k5 => k_asm); (case kK => first | exact rfl | assumption); (case kp => trivial); (case kx => omega); (case kd => first | exact room_le rfl (by assumption) (by decide) | ktr_room); (case ku => first | exact units_le rfl (by assumption) (by decide) | ktr_units); intro r9 tl9 h9 tk9 F9 N9 ho9; obtain ⟨d9, e9, us9, n8, hl8, hv8⟩ := ho9; subst e9; (try dsimp only); (try k_fold)))
  k_with "call ref" => (k_here; (with_reducible show wpAny _ _ (call (Value.ref 142) _) _ _ _); k_dflt (refine' says_use (at_says _ _ _ _ ?kx ?ky ?kz) ?k1 ?k2 ?k3 ?k4 ?k5 ?kK ?kp ?kd ?ku ?_; (case k1 => k_asm); (case k2 => k_asm); (case k3 => k_asm); (case k4 => k_asm); (case k5 => k_asm); (case kK => first | exact rfl | assumption); (case kp => exact ⟨_, _, by walk_at "mem9", by walk_at "rats9"⟩); (case kx => assumption); (case ky => omega); (case kz => assumption); (case kd => first | exact room_le rfl (by assumption) (by decide) | ktr_room); (case ku => first | exact units_le rfl (by assumption) (by decide) | ktr_units); intro r9 tl9 h9 tk9 F9 N9 ho9; obtain ⟨c9, e9, R9⟩ := ho9; subst e9; (try dsimp only); (try k_fold)))
  k_with "call ref" => (k_here; (with_reducible show wpAny _ _ (call (Value.ref 149) _) _ _ _); k_dflt (refine' says_use (is_true _ _ _ _ ?kx ?ky ?kz ?kt ?kv) ?k1 ?k2 ?k3 ?k4 ?k5 ?kK ?kp ?kd ?ku ?_; (case k1 => k_asm); (case k2 => k_asm); (case k3 => k_asm); (case k4 => k_asm); (case k5 => k_asm); (case kK => first | exact rfl | assumption); (case kp => exact ⟨by walk_at "rat9", by walk_at "rat9"⟩); (case kx => assumption); (case ky => assumption); (case kz => assumption); (case kt => assumption); (case kv => assumption); (case kd => first | exact room_le rfl (by assumption) (by decide) | ktr_room); (case ku => first | exact units_le rfl (by assumption) (by decide) | ktr_units); intro r9 tl9 h9 tk9 F9 N9 ho9; obtain ⟨e9⟩ : Nonempty (r9 = _) := ⟨ho9⟩; subst e9; (try dsimp only); (try k_fold)))
  trivial
theorem pr_says (k : Nat) (t : Tok) (hk9 : k ≤ 9) : Says 156 14 (fun _ => True) [.int k t] (fun _ r => r = .bool true) := by
  intro w mean mg mb dp un gd cn cs ca ccd cl outer A₀ base h₀ L m news s Q E B F X N T hk hR hd hu hret
  obtain ⟨g1, g2, g3⟩ := pr_good (k := k) (by omega)
  have hlen := psL_length k (k + 1)
  have hlast : (psL k (k + 1)).getD ((psL k (k + 1)).length - 1) (0, 1) = (1, (k : Int) + 1) := by rw [hlen]; exact g2
  refine wpAny_call ?_
  k_dflt ktr_enter
  k_steps
  · exfalso; omega
  refine Stop.mk ?_
  rename Fr _ _ _ _ => F1
  rename News _ _ _ _ => N1
  refine' loop_range0 (prJ k d9 us9 n8 t news) (n := k + 3) rfl (by assumption) ?hs ?hz F1 N1 ?_ ?_ ?_
  case hs => exact small_one (by omega) (by omega) (by omega) (by omega)
  case hz => rw [rangeSize_nat]; omega
  · exact ⟨rfl, rfl, by walk_at "mem9", hv8.mono (by walk_at "sub9"), _, rfl, by walk_at "grows"⟩
  · intro i t1 m₁ nx h1 tk1 I oI hi J hoI hoff F2 N2
    obtain ⟨e1, e2, hl, hv, t2, e3, G⟩ := J
    replace F2 := fr_know (fr_know (fr_know F2 (Str.ofString "k") e1) (Str.ofString "told") e2) (Str.ofString "total") e3
    have hni : bits ((i : Nat) : Int) ≤ 10 := intBits_le_iff.mpr (by omega)
    have hx2 : ∀ x ∈ psL k (k + 1), BR 200 x := fun x hx => (g1 x hx).le (by decide)
    obtain ⟨hb1, hb2⟩ := lawAt_bits hni hx2 (by omega)
    obtain ⟨hq1, hq2⟩ := g3 i hi
    have hq3 : bits ((sumP k i, (1 : Int)) : Int × Int).1 ≤ 5000 := bits_of60 hq2 (by decide)
    have hq4 : bits ((sumP k i, (1 : Int)) : Int × Int).2 ≤ 5000 := bits_of60 (z := 1) (by decide) (by decide)
    clear F1 N1 hl8 hv8
    k_steps
    rename Fr _ _ _ _ => F5
    rename News _ _ _ _ => N5
    have eS : sumP k i + (i : Int) ^ ((k : Nat) : Int).toNat = sumP k (i + 1) := by rw [Int.toNat_natCast, sumP]
    exact TurnEnd.next F5 N5 (by walk_at "mem9") fun h => ⟨rfl, rfl, h _ (by walk_at "mem9") (ri_ne_list' hoI), hv.mono' fun p hp hc => h p ((by walk_at "sub9" : ∀ p ∈ nx, p ∈ _) p hp) (by rw [hc]; exact ri_ne_tuple hoI), _, congrArg (fun z => some (Value.int z _)) eS, Grows.off (by walk_at "grows") fun q hq => hoff q (G q hq)⟩
  · intro m₁ nx h1 tk1 J F2 N2
    obtain ⟨e1, e2, hl, hv, t2, e3, G⟩ := J
    clear F1 N1
    k_steps
    exact hret _ _ _ _ (by assumption) (by assumption) (by walk_at "grows") rfl
def val (x : Int × Int) : Rat := (x.1 : Rat) / (x.2 : Rat)
def Pos2 (xs : List (Int × Int)) : Prop := ∀ x ∈ xs, 0 < x.2
theorem icast_ne {b : Int} (h : b ≠ 0) : (b : Rat) ≠ 0 := by
  intro e; exact h (by exact_mod_cast e)
theorem icast_pos_ne {b : Int} (h : 0 < b) : (b : Rat) ≠ 0 := icast_ne (by omega)
theorem ratF_eq {a b : Int} (hb : 0 < b) : ratF a b = (a / (Int.gcd a b : Int), b / (Int.gcd a b : Int)) := by
  have hg : 0 < ((Int.gcd a b : Nat) : Int) := gcd_pos' (by omega)
  unfold ratF
  rw [if_pos hb, Int.fdiv_eq_ediv_of_nonneg _ (by omega), Int.fdiv_eq_ediv_of_nonneg _ (by omega)]
theorem ratF_pos {a b : Int} (hb : 0 < b) : 0 < (ratF a b).2 := by
  rw [ratF_eq hb]
  have hg : 0 < ((Int.gcd a b : Nat) : Int) := gcd_pos' (by omega)
  obtain ⟨c, hc⟩ := Int.gcd_dvd_right (a := a) (b := b)
  show 0 < b / (Int.gcd a b : Int)
  generalize ((Int.gcd a b : Nat) : Int) = g at *
  subst hc
  rw [Int.mul_ediv_cancel_left _ (by omega)]
  exact Int.pos_of_mul_pos_right hb (by omega)
theorem ratF_cross {a b : Int} (hb : 0 < b) : (ratF a b).1 * b = a * (ratF a b).2 := by
  rw [ratF_eq hb]
  have hg : 0 < ((Int.gcd a b : Nat) : Int) := gcd_pos' (by omega)
  obtain ⟨c, hc⟩ := Int.gcd_dvd_right (a := a) (b := b)
  obtain ⟨d, hd⟩ := Int.gcd_dvd_left (a := a) (b := b)
  show a / (Int.gcd a b : Int) * b = a * (b / (Int.gcd a b : Int))
  generalize ((Int.gcd a b : Nat) : Int) = g at *
  subst hc
  subst hd
  rw [Int.mul_ediv_cancel_left _ (by omega), Int.mul_ediv_cancel_left _ (by omega)]
  simp only [Int.mul_left_comm, Int.mul_comm, Int.mul_assoc]
theorem val_of_cross {x y : Int × Int} (hx : 0 < x.2) (hy : 0 < y.2) (h : x.1 * y.2 = y.1 * x.2) : val x = val y := by
  have h1 := icast_pos_ne hx
  have h2 := icast_pos_ne hy
  have h3 : (x.1 : Rat) * (y.2 : Rat) = (y.1 : Rat) * (x.2 : Rat) := by rw [← Rat.intCast_mul, ← Rat.intCast_mul, h]
  unfold val
  grind
theorem cross_of_val {x y : Int × Int} (hx : 0 < x.2) (hy : 0 < y.2) (h : val x = val y) : x.1 * y.2 = y.1 * x.2 := by
  have h1 := icast_pos_ne hx
  have h2 := icast_pos_ne hy
  unfold val at h
  have h3 : (x.1 : Rat) * (y.2 : Rat) = (y.1 : Rat) * (x.2 : Rat) := by grind
  rw [← Rat.intCast_mul, ← Rat.intCast_mul] at h3
  exact_mod_cast h3
theorem val_ratF {a b : Int} (hb : 0 < b) : val (ratF a b) = (a : Rat) / (b : Rat) :=
  val_of_cross (y := (a, b)) (ratF_pos hb) hb (ratF_cross hb)
theorem raddF_pos {x y : Int × Int} (hx : 0 < x.2) (hy : 0 < y.2) : 0 < (raddF x y).2 := ratF_pos (Int.mul_pos hx hy)
theorem rmulF_pos {x y : Int × Int} (hx : 0 < x.2) (hy : 0 < y.2) : 0 < (rmulF x y).2 := ratF_pos (Int.mul_pos hx hy)
theorem val_raddF {x y : Int × Int} (hx : 0 < x.2) (hy : 0 < y.2) : val (raddF x y) = val x + val y := by
  have h1 := icast_pos_ne hx
  have h2 := icast_pos_ne hy
  unfold raddF
  rw [val_ratF (Int.mul_pos hx hy), Rat.intCast_add, Rat.intCast_mul, Rat.intCast_mul, Rat.intCast_mul]
  unfold val
  grind
theorem val_rmulF {x y : Int × Int} (hx : 0 < x.2) (hy : 0 < y.2) : val (rmulF x y) = val x * val y := by
  have h1 := icast_pos_ne hx
  have h2 := icast_pos_ne hy
  unfold rmulF
  rw [val_ratF (Int.mul_pos hx hy), Rat.intCast_mul, Rat.intCast_mul]
  unfold val
  grind
theorem val_zero {x : Int × Int} (hx : x.1 = 0) : val x = 0 := by unfold val; rw [hx]; grind
theorem ne_of_val {x : Int × Int} (h : val x ≠ 0) : x.1 ≠ 0 := fun e => h (val_zero e)
def evN (f : Nat → Int × Int) (n : Rat) : Nat → Rat
  | 0 => 0
  | k + 1 => evN f n k + val (f k) * n ^ k
abbrev nth (xs : List (Int × Int)) (i : Nat) : Int × Int := xs.getD i (0, 1)
theorem nth_ge {xs : List (Int × Int)} {i : Nat} (h : xs.length ≤ i) : nth xs i = (0, 1) := by
  show xs.getD i (0, 1) = _
  rw [List.getD_eq_getElem?_getD, List.getElem?_eq_none h]; rfl
theorem nth_mem {xs : List (Int × Int)} {i : Nat} (h : i < xs.length) : nth xs i ∈ xs := by
  show xs.getD i (0, 1) ∈ _
  rw [List.getD_eq_getElem?_getD, List.getElem?_eq_getElem h]; exact List.getElem_mem h
theorem nth_pos {xs : List (Int × Int)} (hx : Pos2 xs) (i : Nat) : 0 < (nth xs i).2 := by
  rcases Nat.lt_or_ge i xs.length with h | h
  · exact hx _ (nth_mem h)
  · rw [nth_ge h]; decide
theorem evN_ext {f g : Nat → Int × Int} {n : Rat} : ∀ {k : Nat}, (∀ i < k, val (f i) = val (g i)) → evN f n k = evN g n k
  | 0, _ => rfl
  | k + 1, h => by rw [evN, evN, h k (by omega), evN_ext fun i hi => h i (by omega)]
theorem evN_more {f : Nat → Int × Int} {n : Rat} {k : Nat} : ∀ {j : Nat}, k ≤ j → (∀ i, k ≤ i → i < j → val (f i) = 0) → evN f n j = evN f n k
  | 0, h, _ => by obtain rfl : k = 0 := by omega
                  rfl
  | j + 1, h, hz => by
    rcases Nat.lt_or_ge j k with hj | hj
    · obtain rfl : k = j + 1 := by omega
      rfl
    · rw [evN, hz j hj (by omega), evN_more hj fun i h1 h2 => hz i h1 (by omega)]; grind
theorem evN_add {f g h : Nat → Int × Int} {n : Rat} : ∀ {k : Nat}, (∀ i < k, val (h i) = val (f i) + val (g i)) → evN h n k = evN f n k + evN g n k
  | 0, _ => by simp only [evN]; grind
  | k + 1, q => by rw [evN, evN, evN, q k (by omega), evN_add fun i hi => q i (by omega)]; grind
theorem evN_mul {f h : Nat → Int × Int} {n c : Rat} : ∀ {k : Nat}, (∀ i < k, val (h i) = val (f i) * c) → evN h n k = evN f n k * c
  | 0, _ => by simp only [evN]; grind
  | k + 1, q => by rw [evN, evN, q k (by omega), evN_mul fun i hi => q i (by omega)]; grind
theorem evN_shift {f : Nat → Int × Int} {n : Rat} : ∀ {k : Nat}, evN f n (k + 1) = val (f 0) + n * evN (fun i => f (i + 1)) n k
  | 0 => by simp only [evN]; grind
  | k + 1 => by
    rw [evN, evN_shift (k := k)]
    show _ = val (f 0) + n * (evN (fun i => f (i + 1)) n k + val (f (k + 1)) * n ^ k)
    rw [Rat.pow_succ]
    grind
def ev (xs : List (Int × Int)) (n : Rat) : Rat := evN (nth xs) n xs.length
theorem ev_len {xs : List (Int × Int)} {n : Rat} {k : Nat} (h : xs.length ≤ k) : evN (nth xs) n k = ev xs n :=
  evN_more h fun i h1 _ => val_zero (by rw [nth_ge h1])
theorem ev_cons {x : Int × Int} {xs : List (Int × Int)} {n : Rat} : ev (x :: xs) n = val x + n * ev xs n := by
  show evN (nth (x :: xs)) n (xs.length + 1) = _
  rw [evN_shift]
  rfl
theorem lawAt_ok {n : Int} : ∀ {xs : List (Int × Int)}, Pos2 xs → 0 < (lawAtF xs n).2 ∧ val (lawAtF xs n) = ev xs n
  | [], _ => ⟨show (0 : Int) < 1 by decide, by show val (0, 1) = 0; exact val_zero rfl⟩
  | x :: xs, h => by
    obtain ⟨h1, h2⟩ := lawAt_ok (n := n) (xs := xs) fun y hy => h y (.tail _ hy)
    have hx := h x (.head _)
    have e : lawAtF (x :: xs) n = atStep n (lawAtF xs n) x := by simp only [lawAtF, List.reverse_cons, List.foldl_append, List.foldl_cons, List.foldl_nil]
    rw [e, ev_cons, ← h2]
    refine ⟨Int.mul_pos h1 hx, ?_⟩
    have a1 := icast_pos_ne h1
    have a2 := icast_pos_ne hx
    show (((lawAtF xs n).1 * n * x.2 + x.1 * (lawAtF xs n).2 : Int) : Rat) / (((lawAtF xs n).2 * x.2 : Int) : Rat) = _
    unfold val
    simp only [Rat.intCast_add, Rat.intCast_mul]
    grind
def trimN (xs : List (Int × Int)) : Nat → Nat
  | 0 => 0
  | k + 1 => if (nth xs k).1 = 0 then trimN xs k else k + 1
def trimF (xs : List (Int × Int)) : List (Int × Int) := xs.take (trimN xs xs.length)
theorem trimN_le {xs : List (Int × Int)} : ∀ {k : Nat}, trimN xs k ≤ k
  | 0 => Nat.le_refl _
  | k + 1 => by
    rw [trimN]; split
    · exact Nat.le_succ_of_le trimN_le
    · exact Nat.le_refl _
theorem trimN_zero {xs : List (Int × Int)} : ∀ {k i : Nat}, trimN xs k ≤ i → i < k → (nth xs i).1 = 0
  | 0, i, _, h => absurd h (Nat.not_lt_zero _)
  | k + 1, i, h1, h2 => by
    rw [trimN] at h1
    split at h1
    · rcases Nat.lt_or_ge i k with h | h
      · exact trimN_zero h1 h
      · obtain rfl : i = k := by omega
        assumption
    · omega
theorem trimF_length {xs : List (Int × Int)} : (trimF xs).length = trimN xs xs.length := by
  rw [trimF, List.length_take]; have := trimN_le (xs := xs) (k := xs.length); omega
theorem nth_take {xs : List (Int × Int)} {k i : Nat} (h : i < k) : nth (xs.take k) i = nth xs i := by
  show (xs.take k).getD i (0, 1) = xs.getD i (0, 1)
  rw [List.getD_eq_getElem?_getD, List.getD_eq_getElem?_getD, List.getElem?_take_of_lt h]
theorem ev_trim {xs : List (Int × Int)} {n : Rat} : ev (trimF xs) n = ev xs n := by
  show evN _ n (trimF xs).length = evN _ n xs.length
  rw [trimF_length, evN_more (k := trimN xs xs.length) trimN_le fun i h1 h2 => val_zero (trimN_zero h1 h2)]
  exact evN_ext fun i hi => by rw [trimF, nth_take hi]
theorem trim_sub {xs : List (Int × Int)} : ∀ x ∈ trimF xs, x ∈ xs := fun x hx => List.mem_of_mem_take hx
theorem trimF_full {xs : List (Int × Int)} {k : Nat} (h : xs.length = k + 1) (h0 : (nth xs k).1 ≠ 0) : trimF xs = xs := by
  rw [trimF, h, trimN, if_neg h0, ← h, List.take_length]
def qaddL (a b : List (Int × Int)) : List (Int × Int) := (List.range (max a.length b.length)).map fun i => raddF (nth a i) (nth b i)
def qaddF (a b : List (Int × Int)) : List (Int × Int) := trimF (qaddL a b)
def qscaleF (p : List (Int × Int)) (r : Int × Int) : List (Int × Int) := if r.1 ≠ 0 then p.map fun x => rmulF x r else []
theorem qaddL_length {a b : List (Int × Int)} : (qaddL a b).length = max a.length b.length := by simp [qaddL]
theorem qaddL_nth {a b : List (Int × Int)} {i : Nat} (h : i < max a.length b.length) : nth (qaddL a b) i = raddF (nth a i) (nth b i) := by
  show (qaddL a b).getD i (0, 1) = _
  rw [List.getD_eq_getElem?_getD, qaddL, List.getElem?_map, List.getElem?_range h]; rfl
theorem qaddF_pos {a b : List (Int × Int)} (ha : Pos2 a) (hb : Pos2 b) : Pos2 (qaddF a b) := by
  intro x hx
  obtain ⟨i, -, rfl⟩ := List.mem_map.mp (trim_sub x hx)
  exact raddF_pos (nth_pos ha i) (nth_pos hb i)
theorem qaddF_br {j k : Nat} {a b : List (Int × Int)} (ha : ∀ x ∈ a, BR j x) (hb : ∀ x ∈ b, BR k x) (hj : 1 ≤ j) (hk : 1 ≤ k) : ∀ x ∈ qaddF a b, BR (j + k + 1) x := by
  have z : BR 1 (0, 1) := ⟨by decide, by decide, by decide⟩
  have n1 : ∀ {c : List (Int × Int)} {l : Nat}, (∀ x ∈ c, BR l x) → 1 ≤ l → ∀ i, BR l (nth c i) := fun {c l} h hl i => by
    rcases Nat.lt_or_ge i c.length with q | q
    · exact h _ (nth_mem q)
    · rw [nth_ge q]; exact z.le hl
  intro x hx
  obtain ⟨i, -, rfl⟩ := List.mem_map.mp (trim_sub x hx)
  exact (n1 ha hj i).radd (n1 hb hk i) (Nat.le_refl _)
theorem ev_qadd {a b : List (Int × Int)} {n : Rat} (ha : Pos2 a) (hb : Pos2 b) : ev (qaddF a b) n = ev a n + ev b n := by
  rw [qaddF, ev_trim]
  show evN _ n (qaddL a b).length = _
  rw [qaddL_length, evN_add (f := nth a) (g := nth b) fun i hi => by rw [qaddL_nth hi, val_raddF (nth_pos ha i) (nth_pos hb i)], ev_len (Nat.le_max_left ..), ev_len (Nat.le_max_right ..)]
theorem ev_qscale {p : List (Int × Int)} {r : Int × Int} {n : Rat} (hp : Pos2 p) (hr : 0 < r.2) : ev (qscaleF p r) n = ev p n * val r := by
  unfold qscaleF
  split
  · show evN _ n (p.map _).length = evN _ n p.length * _
    rw [List.length_map]
    refine evN_mul fun i hi => ?_
    have e : nth (p.map fun x => rmulF x r) i = rmulF (nth p i) r := by
      show (p.map _).getD i (0, 1) = rmulF (p.getD i (0, 1)) r
      rw [List.getD_eq_getElem?_getD, List.getD_eq_getElem?_getD, List.getElem?_map, List.getElem?_eq_getElem hi]; rfl
    rw [e, val_rmulF (nth_pos hp i) hr]
  · rename_i h
    have h0 : r.1 = 0 := by omega
    rw [val_zero h0]
    show (0 : Rat) = _
    grind
theorem qscaleF_pos {p : List (Int × Int)} {r : Int × Int} (hp : Pos2 p) (hr : 0 < r.2) : Pos2 (qscaleF p r) := by
  unfold qscaleF
  split
  · intro x hx
    obtain ⟨y, hy, rfl⟩ := List.mem_map.mp hx
    exact rmulF_pos (hp y hy) hr
  · intro x hx; exact nomatch hx
theorem qscaleF_br {j k : Nat} {p : List (Int × Int)} {r : Int × Int} (hp : ∀ x ∈ p, BR j x) (hr : BR k r) : ∀ x ∈ qscaleF p r, BR (j + k) x := by
  unfold qscaleF
  split
  · intro x hx
    obtain ⟨y, hy, rfl⟩ := List.mem_map.mp hx
    exact (hp y hy).rmul hr (Nat.le_refl _)
  · intro x hx; exact nomatch hx
theorem words13 : True := by
  k_with_none
  k_with "exec While Compare cons nil" => (k_here; refine Stop.out ?_)
  k_with "exec While BoolOp cons nil" => (k_here; refine Stop.out ?_)
  k_with "grows" => (first | exact Grows.refl | assumption | (refine Grows.cons ?_; walk_at "grows") | (refine Grows.app ?_; walk_at "grows"))
  k_with "sub9" => (first | exact (fun _ h9 => h9) | (intro p9 h9; simp only [List.mem_append, List.mem_cons, h9, or_true, true_or]; done))
  k_with "bits9" => (refine' Nat.le_trans ?b91 ?b92; (case b91 => bits_by_make); (case b92 => decide))
  k_with "binaryOp FloorDiv int int" => (k_here; (with_reducible refine floordiv_int ?n91 ?_ (Or.inl ?n92)); (case n91 => omega); (case n92 => first | assumption | exact PyProof.noPylong_small (by omega)))
  k_with "binaryOp Mod int int" => (k_here; (with_reducible refine mod_int' ?n91 ?_); (case n91 => omega))
  k_with "subscriptTail Name Constant ref int" => (k_here; k_dflt (first | ((with_reducible show wpAny _ _ (subscriptTail _ _ (Value.ref _) (Value.int 0 _)) _ _ _); refine' rat_item0 ?k1 ?k2 ?k3 ?k4 ?k5 ?_; (case k1 => k_asm); (case k2 => k_asm); (case k3 => k_asm); (case k4 => assumption); (case k5 => walk_at "sub9"); k_whole) | ((with_reducible show wpAny _ _ (subscriptTail _ _ (Value.ref _) (Value.int 1 _)) _ _ _); refine' rat_item1 ?k1 ?k2 ?k3 ?k4 ?k5 ?_; (case k1 => k_asm); (case k2 => k_asm); (case k3 => k_asm); (case k4 => assumption); (case k5 => walk_at "sub9"); k_whole)); intro t9; (try dsimp only))
  k_with "exec For Name Call cons nil" => (k_here; (rename Fr _ _ _ _ => lF'); (with_unfolding_all refine' For_invVF lF' ?k1 ?k2 ?_; (case k1 => exact rfl); (case k2 => exact rfl); k_whole))
  k_with "exec For Name Subscript cons nil" => (k_here; (rename Fr _ _ _ _ => lF'); (with_unfolding_all refine' For_invVF lF' ?k1 ?k2 ?_; (case k1 => exact rfl); (case k2 => exact rfl); k_whole))
  k_with "pyIter ref" => (k_here; refine Stop.out ?_)
  k_with "mem9" => (first | assumption | exact .head _ | (refine List.mem_append.mpr (.inl ?_); assumption) | (refine .tail _ ?_; walk_at "mem9") | (refine List.mem_append.mpr (.inr ?_); walk_at "mem9"))
  k_with "getMethod ref" => (k_here; (with_reducible show wpAny _ _ (getMethod (Value.ref _) (PySem.Str.ofString "append") _) _ _ _); k_dflt (refine' listMethod_K ?N ?m PySem.F.slot_list_append PySem.F.type_list_append ?_; (case N => k_asm); (case m => walk_at "mem9")))
  k_with "call builtin:list.append" => (k_here; (with_reducible show wpAny _ _ (call (Value.builtin _) [Value.ref _, _]) _ _ _); k_dflt (refine' append_mem ?k1 ?k2 ?k3 ?_ ?z; (case k1 => k_asm); (case k2 => k_asm); (case k3 => walk_at "mem9"); (case z => first | assumption | size_fits); k_whole); intro h9 F9 N9 hoff9; (try k_sweep))
  k_with "rats9" => (first | assumption | exact Rats.mono (by assumption) (by walk_at "sub9"))
  k_with "rat9" => (first | assumption | exact RatAt.mono (by assumption) (by walk_at "sub9") | (have hq9 := ratTop (by assumption); assumption) | exact RatAt.mk (by walk_at "mem9") | exact RatAt.zero)
  k_with "subscriptTail Name Name ref int" => (k_here; (with_reducible show wpAny _ _ (subscriptTail _ _ (Value.ref _) (Value.int _ _)) _ _ _); k_dflt (first | (refine' ints_item_nat ?k1 ?k2 ?k3 ?k4 ?k5 ?k6 ?_; (case k1 => k_asm); (case k2 => k_asm); (case k3 => walk_at "mem9"); (case k4 => assumption); (case k5 => omega); (case k6 => omega); k_whole; intro t9; (try dsimp only)) | (refine' rats_item_nat ?k1 ?k2 ?k3 ?k4 ?k5 ?k6 ?_; (case k1 => k_asm); (case k2 => k_asm); (case k3 => walk_at "mem9"); (case k4 => assumption); (case k5 => omega); (case k6 => omega); k_whole; intro a9 R9; (try dsimp only))))
  k_with "subscriptTail Name BinOp ref int" => (k_here; (with_reducible show wpAny _ _ (subscriptTail _ _ (Value.ref _) (Value.int _ _)) _ _ _); k_dflt (refine' rats_item ?k1 ?k2 ?k3 ?k4 ?k5 ?k6 ?k7 ?_; (case k1 => k_asm); (case k2 => k_asm); (case k3 => walk_at "mem9"); (case k4 => assumption); (case k5 => omega); (case k6 => omega); (case k7 => omega); k_whole; intro a9 R9; (try simp only [tn3] at R9); (try dsimp only)))
  k_with "subscriptTail Name Slice ref ref" => (k_here; (with_reducible show wpAny _ _ (subscriptTail _ (PySem.Expr.Slice none none (some _) _) (Value.ref _) (Value.ref _)) _ _ _); k_dflt (refine' krv_lit ?F ?N (News.isList ?N1 ?l) ?k ?e ?_ ?s ?t ?z; (case F => k_asm); (case N => k_asm); (case N1 => k_asm); (case l => walk_at "mem9"); (case k => exact IsPart.int _ _); (case e => exact rfl); (case s => with_unfolding_all rfl); (case t => kmk_pure); (case z => first | assumption | kmk_size)); intro D9 h9 F9 N9 l1; (try k_sweep))
  k_with "call builtin:len" => (k_here; (with_reducible show wpAny _ _ (call (Value.builtin "len") [Value.ref _]) _ _ _); k_dflt (refine' rats_len ?k2 ?k3 ?k4 ?k5 ?_; (case k2 => k_asm); (case k3 => walk_at "mem9"); (case k4 => assumption); (case k5 => omega); k_whole; (try dsimp only)))
  k_with "subscriptTail Name UnaryOp ref int" => (k_here; (with_reducible show wpAny _ _ (subscriptTail _ _ (Value.ref _) (Value.int _ _)) _ _ _); k_dflt (refine' rats_last ?k2 ?k3 ?k4 ?k5 ?k6 ?_; (case k2 => k_asm); (case k3 => walk_at "mem9"); (case k4 => assumption); (case k5 => omega); (case k6 => omega); k_whole; intro a9 R9; (try dsimp only)))
  k_with "units9" => (exact units64 rfl (by assumption) (by decide))
  k_with "compareOp NotEq ref ref" => (k_here; (with_reducible show wpAny _ _ (compareOp CmpOp.NotEq (Value.ref _) (Value.ref _)) _ _ _); k_dflt (first | (refine' rat_ne_same ?k1 ?k2 ?k3 ?k4 ?k5 ?k6 ?k7 ?k8 ?k9 ?_; (case k1 => k_asm); (case k2 => k_asm); (case k3 => k_asm); (case k4 => walk_at "ratl9"); (case k5 => walk_at "sub9"); (case k6 => walk_at "ratl9"); (case k7 => walk_at "sub9"); (case k8 => walk_at "units9"); (case k9 => assumption); k_whole)))
  k_with "ratl9" => (first | assumption | (have hq9 := ratTop (by assumption); assumption))
  k_with "subscriptTail Name Slice ref ref" => (k_here; (with_reducible show wpAny _ _ (subscriptTail _ (PySem.Expr.Slice none (some _) none _) (Value.ref _) (Value.ref _)) _ _ _); k_dflt (refine' kmk_slice_lit ?F ?N (News.isList ?N1 ?l) IsPart.none (IsPart.int _ _) (pick_upto _ _) ?_ ?s ?t ?z; (case F => k_asm); (case N => k_asm); (case N1 => k_asm); (case l => walk_at "mem9"); (case s => with_unfolding_all rfl); (case t => kmk_pure); (case z => first | assumption | kmk_size)); intro D9 h9 F9 N9 l1; (try k_sweep))
  trivial
theorem pick_upto (vs : List Value) (k : Nat) : (slicePick vs.toArray none (some (k : Int)) none).toList = vs.take k := by
  have e : sliceBounds none (some (k : Int)) none vs.toArray.size = (((0 : Nat) : Int), ((min k vs.toArray.size : Nat) : Int), 1) := by
    simp only [sliceBounds, Option.getD_none, show (1 : Int) > 0 by decide, if_true, if_neg (show ¬ ((k : Int) < 0) by omega)]
    congr 1
    congr 1
    omega
  rw [kmk_pick_nat _ e]
  show (vs.drop 0).take (min k vs.toArray.size - 0) = _
  rw [List.drop_zero, Nat.sub_zero, List.size_toArray, kmk_take_min]
theorem Rats.take {l : Led} {vs : List Value} {xs : List (Int × Int)} (h : Rats l vs xs) : ∀ k, Rats l (vs.take k) (xs.take k) := by
  induction h with
  | nil => intro k; simpa using .nil
  | cons h _ ih => intro k; cases k with
    | zero => exact .nil
    | succ k => exact .cons h (ih k)
def trimJ (a : Addr) (xs : List (Int × Int)) (news : Led) (n : Nat) (m : Str → Option Value) (nx : Led) : Prop :=
  ∃ k t, m (Str.ofString "row") = some (Value.ref a) ∧ m (Str.ofString "size") = some (Value.int ((k : Nat) : Int) t) ∧ k ≤ xs.length ∧ trimN xs k = trimN xs xs.length ∧ n = k ∧ Grows news nx
theorem trim_go {xs : List (Int × Int)} {k : Nat} (h : 0 < (k : Int)) (e : (xs.getD ((k : Int) - 1).toNat (0, 1)).1 = 0) : trimN xs (k - 1) = trimN xs k := by
  obtain ⟨j, rfl⟩ : ∃ j, k = j + 1 := ⟨k - 1, by omega⟩
  rw [show (((j + 1 : Nat) : Int) - 1).toNat = j by omega] at e
  rw [trimN, if_pos e]; rfl
theorem trim_stop {xs : List (Int × Int)} {k : Nat} (h : 0 < (k : Int)) (e : ¬ (xs.getD ((k : Int) - 1).toNat (0, 1)).1 = 0) : trimN xs k = k := by
  obtain ⟨j, rfl⟩ : ∃ j, k = j + 1 := ⟨k - 1, by omega⟩
  rw [show (((j + 1 : Nat) : Int) - 1).toNat = j by omega] at e
  rw [trimN, if_neg e]
theorem trim_says (a : Addr) (xs : List (Int × Int)) (hl9 : xs.length ≤ 12) : Says 85 1 (fun l => RatsAt l a xs) [.ref a] (fun all r => ∃ c, r = .ref c ∧ RatsAt all c (trimF xs)) := by
  intro w mean mg mb dp un gd cn cs ca ccd cl outer A₀ base h₀ L m news s Q E B F X N T hk hR hd hu hret
  obtain ⟨vs, c, hl1, hv⟩ := hR
  have hsz : vs.toArray.size ≤ sizeLine := by rw [List.size_toArray, hv.length, sizeLine_eq]; omega
  have hsz2 : ∀ k, (vs.take k).toArray.size ≤ sizeLine := fun k => by rw [List.size_toArray, List.length_take, hv.length, sizeLine_eq]; omega
  refine wpAny_call ?_
  k_dflt ktr_enter
  k_steps
  refine Stop.mk ?_
  rename Fr _ _ _ _ => F1
  rename News _ _ _ _ => N1
  refine While_inv2 (trimJ a xs news) F1 N1 (n₀ := xs.length) ?_ ?_
  · exact ⟨_, _, rfl, rfl, Nat.le_refl _, rfl, rfl, by walk_at "grows"⟩
  · intro n m₁ news₁ h₁ tk₁ F2 N2 J
    obtain ⟨k, t1, e1, e2, hk1, hk2, hn, G⟩ := J
    replace F2 := fr_know (fr_know F2 _ e1) (Str.ofString "size") e2
    replace hl1 := G _ hl1
    replace hv := hv.mono G
    have hszk := hsz2 k
    clear F1 N1
    k_steps
    · rename 0 < (k : Int) => hp
      rename (xs.getD _ _).1 = 0 => hz
      refine While2.end (n' := k - 1) (by assumption) (by assumption) (by omega) ⟨k - 1, _, rfl, (show some (Value.int ((k : Int) - 1) _) = some (Value.int ((k - 1 : Nat) : Int) _) from congrArg (fun z => some (Value.int z _)) (by omega)), by omega, (trim_go hp hz).trans hk2, rfl, by walk_at "grows"⟩
    · rename 0 < (k : Int) => hp
      rename ¬ (xs.getD _ _).1 = 0 => hz
      have e9 := (trim_stop hp hz).symm.trans hk2
      exact hret _ _ _ _ (by assumption) (by assumption) (by walk_at "grows") ⟨_, rfl, _, _, .head _, by rw [trimF, ← e9]; exact (hv.take k).mono (by walk_at "sub9")⟩
    · have e9 : k = trimN xs xs.length := by rw [← hk2, show k = 0 by omega]; rfl
      exact hret _ _ _ _ (by assumption) (by assumption) (by walk_at "grows") ⟨_, rfl, _, _, .head _, by rw [trimF, ← e9]; exact (hv.take k).mono (by walk_at "sub9")⟩
section
open PySem PySem.W PyProof.Rows PySem.SeqAt PySem.Spec PySem.Calls
set_option maxHeartbeats 4000000
abbrev drawsD (w : World) (o : Obj) (g m : Int) (t u : Tok) : Prop := o.IsDictOf (strKind PySem.Challenge.pw_nn0248_01 w) [(Str.ofString "great", Value.int g t), (Str.ofString "mixed", Value.int m u)]
def DrawsAt (w : World) (l : Led) (d : Addr) : Prop := ∃ o g m t u, (d, o) ∈ l ∧ drawsD w o g m t u ∧ 0 ≤ g ∧ 0 ≤ m ∧ m < 2147483647
theorem DrawsAt.mono {w : World} {l l' : Led} {d : Addr} (h : DrawsAt w l d) (hs : ∀ p ∈ l, p.2.cls = .type "dict" → p ∈ l') : DrawsAt w l' d := by
  obtain ⟨o, g, m, t, u, h1, h2, h3⟩ := h
  exact ⟨o, g, m, t, u, hs _ h1 (by obtain ⟨_, _, h, _⟩ := h2; exact h.1), h2, h3⟩
section
variable {prog : Program} {w : World} {K : Type} [DecidableEq K] {knd : KeyKind prog w K} {A : Around} {E : Value → Shared → Prop} {s : Shared} {h₀ : Heap} {L d : Addr} {m : Str → Option Value} {news : Led} {o : Obj} {kvs : List (K × Value)} {k : K} {key v : Value}
theorem dict_set_mem {Q : Unit → Shared → Prop} (F : Fr h₀ L s.heap m) (N : News h₀ L s.heap news) (hp : (d, o) ∈ news) (hd : o.IsDictOf knd kvs) (hkey : knd.is k key = true) (hsz : kvs.length ≤ sizeLine)
    (h : ∀ h' o', Fr h₀ L h' m → News h₀ L h' ((d, o') :: Off d news) → o'.IsDictOf knd (stored kvs k v) → Q () { s with heap := h', toks := s.toks + 1 }) : wpAny (model prog w) A (setItem (.ref d) key v) Q E s := by
  have N' : News h₀ L s.heap ((d, o) :: Off d news) := by
    intro p hp'
    rcases List.mem_cons.mp hp' with rfl | hp'
    · exact N _ hp
    · exact N _ (Off.mem.mp hp').1
  exact kda_set F N' (.head fun p hp => (Off.mem.mp hp).2) hd hkey hsz h
end
section
variable {w : World} {A : Around} {E : Value → Shared → Prop} {s : Shared} {h₀ : Heap} {L d : Addr} {m : Str → Option Value} {news : Led} {o : Obj} {g y z : Int} {t u tz tk : Tok} {Q : Unit → Shared → Prop}
theorem draws_set_great (F : Fr h₀ L s.heap m) (N : News h₀ L s.heap news) (hp : (d, o) ∈ news) (hd : drawsD w o g y t u)
    (h : ∀ h' o', Fr h₀ L h' m → News h₀ L h' ((d, o') :: Off d news) → drawsD w o' z y tz u → Q () { s with heap := h', toks := s.toks + 1 }) :
    wpAny (model PySem.Challenge.pw_nn0248_01 w) A (setItem (.ref d) (.str (Str.ofString "great") tk) (.int z tz)) Q E s :=
  dict_set_mem F N hp hd (strKind_is _ _ _ _) (by rw [sizeLine_eq]; exact Nat.le_of_ble_eq_true rfl) fun h' o' F' N' D' => h h' o' F' N' D'
theorem draws_set_mixed (F : Fr h₀ L s.heap m) (N : News h₀ L s.heap news) (hp : (d, o) ∈ news) (hd : drawsD w o g y t u)
    (h : ∀ h' o', Fr h₀ L h' m → News h₀ L h' ((d, o') :: Off d news) → drawsD w o' g z t tz → Q () { s with heap := h', toks := s.toks + 1 }) :
    wpAny (model PySem.Challenge.pw_nn0248_01 w) A (setItem (.ref d) (.str (Str.ofString "mixed") tk) (.int z tz)) Q E s :=
  dict_set_mem F N hp hd (strKind_is _ _ _ _) (by rw [sizeLine_eq]; exact Nat.le_of_ble_eq_true rfl) fun h' o' F' N' D' => h h' o' F' N' D'
theorem draws_great {value slice : PySem.Expr} {Q : Value → Shared → Prop} (N : News h₀ L s.heap news) (hp : (d, o) ∈ news) (hd : drawsD w o g y t u) (h : Q (.int g t) { s with toks := s.toks + 1 })
    (hs : subscripted slice false (.ref d) (.str (Str.ofString "great") tk) = operate [.ref d, .str (Str.ofString "great") tk] (getItem (.ref d) (.str (Str.ofString "great") tk)) := by with_unfolding_all rfl) (hg : ∀ r, letTemporaryGo value (.ref d) r = pure () := by intro _; with_unfolding_all rfl) :
    wpAny (model PySem.Challenge.pw_nn0248_01 w) A (subscriptTail value slice (.ref d) (.str (Str.ofString "great") tk)) Q E s := kda_item N hp hd (strKind_is _ _ _ _) rfl h hs hg
theorem draws_mixed {value slice : PySem.Expr} {Q : Value → Shared → Prop} (N : News h₀ L s.heap news) (hp : (d, o) ∈ news) (hd : drawsD w o g y t u) (h : Q (.int y u) { s with toks := s.toks + 1 })
    (hs : subscripted slice false (.ref d) (.str (Str.ofString "mixed") tk) = operate [.ref d, .str (Str.ofString "mixed") tk] (getItem (.ref d) (.str (Str.ofString "mixed") tk)) := by with_unfolding_all rfl) (hg : ∀ r, letTemporaryGo value (.ref d) r = pure () := by intro _; with_unfolding_all rfl) :
    wpAny (model PySem.Challenge.pw_nn0248_01 w) A (subscriptTail value slice (.ref d) (.str (Str.ofString "mixed") tk)) Q E s := kda_item N hp hd (strKind_is _ _ _ _) rfl h hs hg
end
def CompTurn (h₀ : Heap) (L : Addr) (m : Str → Option Value) (s₁ : Shared) (I : Addr) (oI : Obj) (C : Addr) (oC : Obj) (D : Addr) (oD : Obj) (J : Value → Led → Prop) (y : Value) (s₂ : Shared) : Prop :=
  ∃ h' tk all, s₂ = { s₁ with heap := h', toks := tk } ∧ Fr h₀ L h' m ∧ News h₀ L h' all ∧ (I, oI) ∈ all ∧ (C, oC) ∈ all ∧ (D, oD) ∈ all ∧ J y (Off I (Off C (Off D all)))
theorem Off.keep {I : Addr} {l l' : Led} (h : ∀ p ∈ l, p ∈ l') (ho : ∀ p ∈ l, p.1 ≠ I) : ∀ p ∈ l, p ∈ Off I l' := fun p hp => Off.mem.mpr ⟨h p hp, ho p hp⟩
theorem CompTurn.intro {h₀ h' : Heap} {L I C D : Addr} {m : Str → Option Value} {s₁ : Shared} {oI oC oD : Obj} {J : Value → Led → Prop} {y : Value} {tk : Nat} {all nx : Led}
    (F : Fr h₀ L h' m) (N : News h₀ L h' all) (hI : (I, oI) ∈ all) (hC : (C, oC) ∈ all) (hD : (D, oD) ∈ all) (hs : ∀ p ∈ nx, p ∈ all) (off : ∀ p ∈ nx, p.1 ≠ I ∧ p.1 ≠ C ∧ p.1 ≠ D)
    (hJ : (∀ p ∈ nx, p ∈ Off I (Off C (Off D all))) → (∀ p ∈ all, p.2.cls ≠ oI.cls → p.2.cls ≠ oC.cls → p.2.cls ≠ oD.cls → p ∈ Off I (Off C (Off D all))) → J y (Off I (Off C (Off D all)))) :
    CompTurn h₀ L m s₁ I oI C oC D oD J y { s₁ with heap := h', toks := tk } :=
  ⟨h', tk, all, rfl, F, N, hI, hC, hD, hJ (fun p hp => Off.mem.mpr ⟨Off.mem.mpr ⟨Off.mem.mpr ⟨hs p hp, (off p hp).2.2⟩, (off p hp).2.1⟩, (off p hp).1⟩) fun p hp h1 h2 h3 => by
    have n : ∀ {a : Addr} {o : Obj}, (a, o) ∈ all → p.2.cls ≠ o.cls → p.1 ≠ a := fun ha hc e => hc (by
      have q1 := (N _ hp).1
      have q2 := (N _ ha).1
      rw [e] at q1
      rw [q1] at q2
      rw [Option.some.inj q2])
    exact Off.mem.mpr ⟨Off.mem.mpr ⟨Off.mem.mpr ⟨hp, n hD h3⟩, n hC h2⟩, n hI h1⟩⟩
theorem CompTurn.fresh {h₀ h' : Heap} {L I C D c9 : Addr} {m : Str → Option Value} {s₁ : Shared} {oI oC oD : Obj} {J : Value → Led → Prop} {y : Value} {tk : Nat} {tl nx : Led} {x : Int × Int}
    (F : Fr h₀ L h' m) (N : News h₀ L h' (tl ++ ((I, oI) :: (C, oC) :: (D, oD) :: nx))) (off : ∀ p ∈ nx, p.1 ≠ I ∧ p.1 ≠ C ∧ p.1 ≠ D) (R : RatAt tl c9 x) (hq : ∀ q ∈ ((I, oI) :: (C, oC) :: (D, oD) :: nx), q.1 ≠ c9)
    (hJ : ∀ l, (∀ p ∈ nx, p ∈ l) → RatAt l c9 x → J y l) : CompTurn h₀ L m s₁ I oI C oC D oD J y { s₁ with heap := h', toks := tk } := by
  have hs : ∀ p ∈ nx, p ∈ Off I (Off C (Off D (tl ++ ((I, oI) :: (C, oC) :: (D, oD) :: nx)))) := fun p hp => Off.mem.mpr ⟨Off.mem.mpr ⟨Off.mem.mpr ⟨List.mem_append.mpr (.inr (.tail _ (.tail _ (.tail _ hp)))), (off p hp).2.2⟩, (off p hp).2.1⟩, (off p hp).1⟩
  refine ⟨h', tk, _, rfl, F, N, List.mem_append.mpr (.inr (.head _)), List.mem_append.mpr (.inr (.tail _ (.head _))), List.mem_append.mpr (.inr (.tail _ (.tail _ (.head _)))), hJ _ hs ?_⟩
  rcases R with ⟨t, u, n, hm⟩ | R
  · exact .inl ⟨t, u, n, Off.mem.mpr ⟨Off.mem.mpr ⟨Off.mem.mpr ⟨List.mem_append.mpr (.inl hm), (hq _ (.tail _ (.tail _ (.head _)))).symm⟩, (hq _ (.tail _ (.head _))).symm⟩, (hq _ (.head _)).symm⟩⟩
  · exact .inr R
theorem Rats.snocF {l l' : Led} {vs : List Value} {xs : List (Int × Int)} {a : Addr} {x : Int × Int} (h : Rats l vs xs) (hs : ∀ p ∈ l, p ∈ l') (h1 : RatAt l' a x) : Rats l' (vs ++ [.ref a]) (xs ++ [x]) := (h.mono hs).snoc h1
theorem range_map_snoc {α : Type} (f : Nat → α) (i : Nat) : (List.range (i + 1)).map f = (List.range i).map f ++ [f i] := by rw [List.range_succ, List.map_append]; rfl
theorem off3_of {I C D : Addr} {l : Led} : LCg.Off3 I C D (Off I (Off C (Off D l))) := LCg.Off3.of fun p hp => by
  have h1 := Off.mem.mp hp
  have h2 := Off.mem.mp h1.1
  have h3 := Off.mem.mp h2.1
  exact ⟨h1.2, h2.2, h3.2⟩
theorem off3_sub {I C D : Addr} {l : Led} {p : Addr × Obj} (hp : p ∈ Off I (Off C (Off D l))) : p ∈ l := (Off.mem.mp (Off.mem.mp (Off.mem.mp hp).1).1).1
section
variable {prog : Program} {w : World} {A : Around} {E : Value → Shared → Prop} {s : Shared} {h₀ : Heap} {L : Addr} {m : Str → Option Value} {env : Env} {elt : Expr} {x : Str} {scope : Scope} {cl : List (Str × Addr)} {S : Led → Prop} {P : Nat → Value → Prop} {Fin : List Value → Led → Prop} {n : Nat}
theorem comp_rest (J : Nat → List Value → Led → Prop) (hS : ∀ i ys l, J i ys l → S l) (fin : ∀ ys nx, J n ys nx → Fin ys nx)
    (turn : ∀ i ys nx v I oI C oC D m₂ h tk E', i < n → J i ys nx → ys.length = i → P i v → LCg.NsObj oC m₂ → m₂ x = some v → Fr h₀ L h m → News h₀ L h ((I, oI) :: (C, oC) :: (D, LCg.lst ys) :: nx) → (∀ p ∈ nx, p.1 ≠ I ∧ p.1 ≠ C ∧ p.1 ≠ D) → (I ≠ C ∧ I ≠ D ∧ C ≠ D) →
      wpAny (model prog w) A (eval elt (compEnvC scope cl C env)) (CompTurn h₀ L m { s with heap := h, toks := tk } I oI C oC D (LCg.lst ys) (fun y nx' => J (i + 1) (ys ++ [y]) nx')) E' { s with heap := h, toks := tk }) :
    ∀ k i ys nx, i + k = n → ys.length = i → J i ys nx → LCg.CompRest prog w A h₀ L m env elt x scope cl s S P Fin k i ys nx
  | 0, i, ys, nx, e, _, hJ => .zero (fin ys nx (by rw [← e]; exact hJ))
  | k + 1, i, ys, nx, e, hl, hJ => by
    refine .succ fun v I oI C oC D m₂ h tk E' hP hC hx F N off ne => ?_
    refine wpAny_mono (turn i ys nx v I oI C oC D m₂ h tk E' (by omega) hJ hl hP hC hx F N off.mem ne) (fun y s₂ r => ?_) fun _ _ e => e
    obtain ⟨h', tk', all, rfl, F', N', hI, hC', hD, hJ'⟩ := r
    refine LCg.CompEnd.intro F' N' (Off I (Off C (Off D all))) (fun p hp => ?_) off3_of (hS _ _ _ hJ') (comp_rest J hS fin turn k (i + 1) _ _ (by omega) (by simp [hl]) hJ')
    rcases List.mem_cons.mp hp with rfl | hp
    · exact hI
    · rcases List.mem_cons.mp hp with rfl | hp
      · exact hC'
      · rcases List.mem_cons.mp hp with rfl | hp
        · exact hD
        · exact off3_sub hp
end
section
variable {prog : Program} {w : World} {A : Around} {s₁ : Shared} {h₀ : Heap} {L : Addr} {m : Str → Option Value} {env : Env} {elt : Expr} {x : Str} {scope : Scope} {cl : List (Str × Addr)} {Fin : Shared → List Value → Led → Prop} {news : Led}
theorem comp_range {r : Addr} {a b : Int} {t u v : Tok} {n : Nat} (J : Nat → List Value → Led → Prop) (hh : A.handled = none) (F : Fr h₀ L s₁.heap m) (N : News h₀ L s₁.heap news) (hr : IsRange s₁.heap r a b 1 t u v) (hsm : Builtin.Range.small a b 1 = true) (hn : Builtin.Range.rangeSize a b 1 = ((n : Nat) : Int)) (hsz : n ≤ sizeLine)
    (hj : J 0 [] news) (fin : ∀ g ys nx, J n ys nx → Fin { s₁ with heap := g } ys nx)
    (turn : ∀ g i ys nx t I oI C oC D m₂ h tk E', i < n → J i ys nx → ys.length = i → LCg.NsObj oC m₂ → m₂ x = some (.int (a + (i : Int)) t) → Fr h₀ L h m → News h₀ L h ((I, oI) :: (C, oC) :: (D, LCg.lst ys) :: nx) → (∀ p ∈ nx, p.1 ≠ I ∧ p.1 ≠ C ∧ p.1 ≠ D) → (I ≠ C ∧ I ≠ D ∧ C ≠ D) →
      wpAny (model prog w) A (eval elt (compEnvC scope cl C env)) (CompTurn h₀ L m { s₁ with heap := h, toks := tk } I oI C oC D (LCg.lst ys) (fun y nx' => J (i + 1) (ys ++ [y]) nx')) E' { { s₁ with heap := g } with heap := h, toks := tk }) :
    LCg.CompSrc prog w A h₀ L m env elt x scope cl Fin (.ref r) s₁ := by
  refine LCg.CompSrc.range hh F N hr hsm hn hsz fun g => ?_
  refine comp_rest J (fun _ _ _ _ => trivial) (fin g) (fun i ys nx v I oI C oC D m₂ h tk E' hi hJ hl hP hC hx F N off ne => ?_) n 0 [] news (by omega) rfl hj
  obtain ⟨t, rfl⟩ := hP
  exact turn g i ys nx t I oI C oC D m₂ h tk E' hi hJ hl hC hx F N off ne
theorem comp_range0 {r : Addr} {b : Int} {t u v : Tok} {n : Nat} (J : Nat → List Value → Led → Prop) (hh : A.handled = none) (F : Fr h₀ L s₁.heap m) (N : News h₀ L s₁.heap news) (hr : IsRange s₁.heap r 0 b 1 t u v) (hsm : Builtin.Range.small 0 b 1 = true) (hn : Builtin.Range.rangeSize 0 b 1 = ((n : Nat) : Int)) (hsz : n ≤ sizeLine)
    (hj : J 0 [] news) (fin : ∀ g ys nx, J n ys nx → Fin { s₁ with heap := g } ys nx)
    (turn : ∀ g i ys nx t I oI C oC D m₂ h tk E', i < n → J i ys nx → ys.length = i → LCg.NsObj oC m₂ → m₂ x = some (.int (i : Int) t) → Fr h₀ L h m → News h₀ L h ((I, oI) :: (C, oC) :: (D, LCg.lst ys) :: nx) → (∀ p ∈ nx, p.1 ≠ I ∧ p.1 ≠ C ∧ p.1 ≠ D) → (I ≠ C ∧ I ≠ D ∧ C ≠ D) →
      wpAny (model prog w) A (eval elt (compEnvC scope cl C env)) (CompTurn h₀ L m { s₁ with heap := h, toks := tk } I oI C oC D (LCg.lst ys) (fun y nx' => J (i + 1) (ys ++ [y]) nx')) E' { { s₁ with heap := g } with heap := h, toks := tk }) :
    LCg.CompSrc prog w A h₀ L m env elt x scope cl Fin (.ref r) s₁ :=
  comp_range J hh F N hr hsm hn hsz hj fin fun g i ys nx t I oI C oC D m₂ h tk E' hi hJ hl hC hx => turn g i ys nx t I oI C oC D m₂ h tk E' hi hJ hl hC (by rw [hx, Int.zero_add])
theorem comp_list {ax : Addr} {vs : List Value} {c : Nat} (J : Nat → List Value → Led → Prop) (hh : A.handled = none) (F : Fr h₀ L s₁.heap m) (N : News h₀ L s₁.heap news) (hm : (ax, listOf vs.toArray c) ∈ news) (hsz : vs.length ≤ sizeLine)
    (hj : J 0 [] news) (hJm : ∀ i ys nx, J i ys nx → (ax, listOf vs.toArray c) ∈ nx) (fin : ∀ g ys nx, J vs.length ys nx → Fin { s₁ with heap := g } ys nx)
    (turn : ∀ g i ys nx v I oI C oC D m₂ h tk E', vs[i]? = some v → J i ys nx → ys.length = i → LCg.NsObj oC m₂ → m₂ x = some v → Fr h₀ L h m → News h₀ L h ((I, oI) :: (C, oC) :: (D, LCg.lst ys) :: nx) → (∀ p ∈ nx, p.1 ≠ I ∧ p.1 ≠ C ∧ p.1 ≠ D) → (I ≠ C ∧ I ≠ D ∧ C ≠ D) →
      wpAny (model prog w) A (eval elt (compEnvC scope cl C env)) (CompTurn h₀ L m { s₁ with heap := h, toks := tk } I oI C oC D (LCg.lst ys) (fun y nx' => J (i + 1) (ys ++ [y]) nx')) E' { { s₁ with heap := g } with heap := h, toks := tk }) :
    LCg.CompSrc prog w A h₀ L m env elt x scope cl Fin (.ref ax) s₁ := by
  refine LCg.CompSrc.ledger hh F N hm (by simpa using hsz) fun g => ?_
  have e : vs.toArray.size = vs.length := by simp
  rw [e]
  refine comp_rest J (fun i ys l hJ => .inr ⟨_, hJm i ys l hJ, rfl, _, rfl⟩) (fin g) (fun i ys nx v I oI C oC D m₂ h tk E' hi hJ hl hP hC hx F N off ne => ?_) vs.length 0 [] news (by omega) rfl hj
  exact turn g i ys nx v I oI C oC D m₂ h tk E' (by simpa using hP) hJ hl hC hx F N off ne
end
end
theorem words14 : True := by
  k_with_none
  k_with "exec While Compare cons nil" => (k_here; refine Stop.out ?_)
  k_with "exec While BoolOp cons nil" => (k_here; refine Stop.out ?_)
  k_with "grows" => (first | exact Grows.refl | assumption | (refine Grows.cons ?_; walk_at "grows") | (refine Grows.app ?_; walk_at "grows"))
  k_with "sub9" => (first | exact (fun _ h9 => h9) | (intro p9 h9; simp only [List.mem_append, List.mem_cons, h9, or_true, true_or]; done))
  k_with "bits9" => (refine' Nat.le_trans ?b91 ?b92; (case b91 => bits_by_make); (case b92 => decide))
  k_with "binaryOp FloorDiv int int" => (k_here; (with_reducible refine floordiv_int ?n91 ?_ (Or.inl ?n92)); (case n91 => omega); (case n92 => first | assumption | exact PyProof.noPylong_small (by omega)))
  k_with "binaryOp Mod int int" => (k_here; (with_reducible refine mod_int' ?n91 ?_); (case n91 => omega))
  k_with "subscriptTail Name Constant ref int" => (k_here; k_dflt (first | ((with_reducible show wpAny _ _ (subscriptTail _ _ (Value.ref _) (Value.int 0 _)) _ _ _); refine' rat_item0 ?k1 ?k2 ?k3 ?k4 ?k5 ?_; (case k1 => k_asm); (case k2 => k_asm); (case k3 => k_asm); (case k4 => assumption); (case k5 => walk_at "sub9"); k_whole) | ((with_reducible show wpAny _ _ (subscriptTail _ _ (Value.ref _) (Value.int 1 _)) _ _ _); refine' rat_item1 ?k1 ?k2 ?k3 ?k4 ?k5 ?_; (case k1 => k_asm); (case k2 => k_asm); (case k3 => k_asm); (case k4 => assumption); (case k5 => walk_at "sub9"); k_whole)); intro t9; (try dsimp only))
  k_with "exec For Name Call cons nil" => (k_here; (rename Fr _ _ _ _ => lF'); (with_unfolding_all refine' For_invVF lF' ?k1 ?k2 ?_; (case k1 => exact rfl); (case k2 => exact rfl); k_whole))
  k_with "exec For Name Subscript cons nil" => (k_here; (rename Fr _ _ _ _ => lF'); (with_unfolding_all refine' For_invVF lF' ?k1 ?k2 ?_; (case k1 => exact rfl); (case k2 => exact rfl); k_whole))
  k_with "pyIter ref" => (k_here; refine Stop.out ?_)
  k_with "mem9" => (first | assumption | exact .head _ | (refine List.mem_append.mpr (.inl ?_); assumption) | (refine .tail _ ?_; walk_at "mem9") | (refine List.mem_append.mpr (.inr ?_); walk_at "mem9"))
  k_with "getMethod ref" => (k_here; (with_reducible show wpAny _ _ (getMethod (Value.ref _) (PySem.Str.ofString "append") _) _ _ _); k_dflt (refine' listMethod_K ?N ?m PySem.F.slot_list_append PySem.F.type_list_append ?_; (case N => k_asm); (case m => walk_at "mem9")))
  k_with "call builtin:list.append" => (k_here; (with_reducible show wpAny _ _ (call (Value.builtin _) [Value.ref _, _]) _ _ _); k_dflt (refine' append_mem ?k1 ?k2 ?k3 ?_ ?z; (case k1 => k_asm); (case k2 => k_asm); (case k3 => walk_at "mem9"); (case z => first | assumption | size_fits); k_whole); intro h9 F9 N9 hoff9; (try k_sweep))
  k_with "rats9" => (first | assumption | exact Rats.mono (by assumption) (by walk_at "sub9"))
  k_with "rat9" => (first | assumption | exact RatAt.mono (by assumption) (by walk_at "sub9") | (have hq9 := ratTop (by assumption); assumption) | exact RatAt.mk (by walk_at "mem9") | exact RatAt.zero)
  k_with "subscriptTail Name Name ref int" => (k_here; (with_reducible show wpAny _ _ (subscriptTail _ _ (Value.ref _) (Value.int _ _)) _ _ _); k_dflt (first | (refine' ints_item_nat ?k1 ?k2 ?k3 ?k4 ?k5 ?k6 ?_; (case k1 => k_asm); (case k2 => k_asm); (case k3 => walk_at "mem9"); (case k4 => assumption); (case k5 => omega); (case k6 => omega); k_whole; intro t9; (try dsimp only)) | (refine' rats_item_nat ?k1 ?k2 ?k3 ?k4 ?k5 ?k6 ?_; (case k1 => k_asm); (case k2 => k_asm); (case k3 => walk_at "mem9"); (case k4 => assumption); (case k5 => omega); (case k6 => omega); k_whole; intro a9 R9; (try dsimp only))))
  k_with "subscriptTail Name BinOp ref int" => (k_here; (with_reducible show wpAny _ _ (subscriptTail _ _ (Value.ref _) (Value.int _ _)) _ _ _); k_dflt (refine' rats_item ?k1 ?k2 ?k3 ?k4 ?k5 ?k6 ?k7 ?_; (case k1 => k_asm); (case k2 => k_asm); (case k3 => walk_at "mem9"); (case k4 => assumption); (case k5 => omega); (case k6 => omega); (case k7 => omega); k_whole; intro a9 R9; (try simp only [tn3] at R9); (try dsimp only)))
  k_with "subscriptTail Name Slice ref ref" => (k_here; (with_reducible show wpAny _ _ (subscriptTail _ (PySem.Expr.Slice none none (some _) _) (Value.ref _) (Value.ref _)) _ _ _); k_dflt (refine' krv_lit ?F ?N (News.isList ?N1 ?l) ?k ?e ?_ ?s ?t ?z; (case F => k_asm); (case N => k_asm); (case N1 => k_asm); (case l => walk_at "mem9"); (case k => exact IsPart.int _ _); (case e => exact rfl); (case s => with_unfolding_all rfl); (case t => kmk_pure); (case z => first | assumption | kmk_size)); intro D9 h9 F9 N9 l1; (try k_sweep))
  k_with "call builtin:len" => (k_here; (with_reducible show wpAny _ _ (call (Value.builtin "len") [Value.ref _]) _ _ _); k_dflt (refine' rats_len ?k2 ?k3 ?k4 ?k5 ?_; (case k2 => k_asm); (case k3 => walk_at "mem9"); (case k4 => assumption); (case k5 => omega); k_whole; (try dsimp only)))
  k_with "subscriptTail Name UnaryOp ref int" => (k_here; (with_reducible show wpAny _ _ (subscriptTail _ _ (Value.ref _) (Value.int _ _)) _ _ _); k_dflt (refine' rats_last ?k2 ?k3 ?k4 ?k5 ?k6 ?_; (case k2 => k_asm); (case k3 => walk_at "mem9"); (case k4 => assumption); (case k5 => omega); (case k6 => omega); k_whole; intro a9 R9; (try dsimp only)))
  k_with "units9" => (exact units64 rfl (by assumption) (by decide))
  k_with "compareOp NotEq ref ref" => (k_here; (with_reducible show wpAny _ _ (compareOp CmpOp.NotEq (Value.ref _) (Value.ref _)) _ _ _); k_dflt (first | (refine' rat_ne_same ?k1 ?k2 ?k3 ?k4 ?k5 ?k6 ?k7 ?k8 ?k9 ?_; (case k1 => k_asm); (case k2 => k_asm); (case k3 => k_asm); (case k4 => walk_at "ratl9"); (case k5 => walk_at "sub9"); (case k6 => walk_at "ratl9"); (case k7 => walk_at "sub9"); (case k8 => walk_at "units9"); (case k9 => assumption); k_whole)))
  k_with "ratl9" => (first | assumption | (have hq9 := ratTop (by assumption); assumption))
  k_with "enterC9" => (refine' code_defC ?k1 ?k2 ?k3 ?k4 ?k5 ?kA ?kF ?kK ?k6 ?k7 ?k8 ?k9 ?kB ?kD ?_ ?c2 ?c3 ?c4; (case kA => exact rfl); (case kF => exact rfl); (case kK => assumption); (case k1 => k_asm); (case k2 => k_asm); (case k3 => k_asm); (case k4 => k_asm); (case k5 => k_asm); (case k6 => k_is); (case k7 => k_is); (case k8 => ktr_room); (case k9 => exact BindsTo.of_eq rfl); (case kB => exact rfl); (case kD => decide +kernel); (case c2 => exact rfl); (case c3 => exact rfl); (case c4 => exact rfl); k_whole; intro gC LC hC tkC cellsC FGC FC NC YC BC XC TC lC; (first | (obtain ⟨oA, hEC, dA⟩ := CellsAre.one YC; subst hEC) | (obtain ⟨oA, oB, hEC, dA, dB⟩ := CellsAre.two YC; subst hEC)); (try simp only [List.cons_append, List.nil_append] at NC); (try dsimp only); (try k_fold))
  k_with "CompSrc" => (k_here; refine Stop.out ?_)
  k_with "CompTurn" => (k_here; refine Stop.out ?_)
  k_with "call ref" => (k_here; (with_reducible show wpAny _ _ (call (Value.ref 57) _) _ _ _); k_dflt (refine' saysF_use (radd_saysF _ _ _ _ ?kx ?ky) ?k1 ?k2 ?k3 ?k4 ?k5 ?kK ?kp ?kd ?ku ?_; (case k1 => k_asm); (case k2 => k_asm); (case k3 => k_asm); (case k4 => k_asm); (case k5 => k_asm); (case kK => first | exact rfl | assumption); (case kp => exact ⟨by walk_at "rat9", by walk_at "rat9"⟩); (case kx => assumption); (case ky => assumption); (case kd => first | exact room_le rfl (by assumption) (by decide) | ktr_room); (case ku => first | exact units_le rfl (by assumption) (by decide) | ktr_units); intro r9 tl9 h9 tk9 F9 N9 ho9; obtain ⟨c9, e9, R9, hq9⟩ := ho9; subst e9; (try dsimp only); (try k_fold)))
  k_with "call ref" => (k_here; (with_reducible show wpAny _ _ (call (Value.ref 85) _) _ _ _); k_dflt (refine' says_use (trim_says _ _ ?kx) ?k1 ?k2 ?k3 ?k4 ?k5 ?kK ?kp ?kd ?ku ?_; (case k1 => k_asm); (case k2 => k_asm); (case k3 => k_asm); (case k4 => k_asm); (case k5 => k_asm); (case kK => first | exact rfl | assumption); (case kp => exact ⟨_, _, by walk_at "mem9", by walk_at "rats9"⟩); (case kx => first | assumption | (simp; omega)); (case kd => first | exact room_le rfl (by assumption) (by decide) | ktr_room); (case ku => first | exact units_le rfl (by assumption) (by decide) | ktr_units); intro r9 tl9 h9 tk9 F9 N9 ho9; obtain ⟨d9, e9, us9, n8, hl8, hv8⟩ := ho9; subst e9; (try dsimp only); (try k_fold)))
  trivial
def qaddJ (a b cA cB : Addr) (oA oB : Obj) (vs us : List Value) (c c2 : Nat) (xs ys : List (Int × Int)) (news : Led) (i : Nat) (zs : List Value) (nx : Led) : Prop :=
  (cA, oA) ∈ nx ∧ (cB, oB) ∈ nx ∧ (a, listOf vs.toArray c) ∈ nx ∧ (b, listOf us.toArray c2) ∈ nx ∧ Rats nx vs xs ∧ Rats nx us ys ∧ Rats nx zs ((List.range i).map fun j => raddF (nth xs j) (nth ys j)) ∧ Grows news nx
theorem br_nth {k : Nat} {xs : List (Int × Int)} (hx : ∀ x ∈ xs, BR k x) (h0 : BR k (0, 1)) (i : Nat) : BR k (xs.getD i (0, 1)) := by
  rcases Nat.lt_or_ge i xs.length with h | h
  · exact hx _ (nth_mem h)
  · rw [show xs.getD i (0, 1) = (0, 1) from nth_ge h]; exact h0
theorem qadd_says (a b : Addr) (xs ys : List (Int × Int)) (hl9 : xs.length ≤ 12) (hl8 : ys.length ≤ 12) (hx : ∀ x ∈ xs, BR 2000 x) (hy : ∀ y ∈ ys, BR 2000 y) : Says 90 6 (fun l => RatsAt l a xs ∧ RatsAt l b ys) [.ref a, .ref b] (fun all r => ∃ c, r = .ref c ∧ RatsAt all c (qaddF xs ys)) := by
  intro w mean mg mb dp un gd cn cs ca ccd cl outer A₀ base h₀ L m news s Q E B F X N T hk hR hd hu hret
  obtain ⟨⟨vs, c, hl1, hv⟩, us, c2, hl2, hu2⟩ := hR
  refine wpAny_call ?_
  k_dflt (walk_at "enterC9")
  change oA.data = .cell (some (.ref b)) at dA
  change oB.data = .cell (some (.ref a)) at dB
  k_steps
  refine Stop.mk ?_
  rename Fr _ _ _ _ => F1
  rename News _ _ _ _ => N1
  rename IsRange _ _ _ _ _ _ _ _ => hr
  have e9 : (if (ys.length : Int) > xs.length then (ys.length : Int) else xs.length) = ((max xs.length ys.length : Nat) : Int) := by split <;> omega
  refine' comp_range0 (qaddJ a b (LC + 1 + 1) (LC + 1) oA oB vs us c c2 xs ys news) (n := max xs.length ys.length) rfl F1 N1 hr ?hs ?hz ?hk ?_ ?_ ?_
  case hs => exact small_one (by omega) (by omega) (by rw [e9]; omega) (by rw [e9]; omega)
  case hz => rw [e9, rangeSize_nat]; omega
  case hk => rw [sizeLine_eq]; omega
  · exact ⟨.head _, .tail _ (.head _), by walk_at "mem9", by walk_at "mem9", by walk_at "rats9", by walk_at "rats9", .nil, by walk_at "grows"⟩
  · intro g zs nx J
    obtain ⟨-, -, -, -, -, -, hz, G⟩ := J
    unfold LCg.FinE
    intro D h tk F2 N2 o1
    clear F1 N1 hv hu2
    have hzl : ((List.range (max xs.length ys.length)).map fun j => raddF (nth xs j) (nth ys j)).length ≤ 12 := by simp; omega
    k_steps
    exact hret _ _ _ _ (by assumption) (by assumption) (by walk_at "grows") ⟨_, rfl, _, _, by walk_at "mem9", hv8.mono (by walk_at "sub9")⟩
  · intro g i zs nx t I oI C oC D m₂ h tk E' hi J hzl hoC hm₂ F2 N2 off ne
    obtain ⟨hcA, hcB, h1, h2, hv2, hu3, hz, G⟩ := J
    have hb0 : BR 2000 ((0, 1) : Int × Int) := ⟨by decide, by decide, by decide⟩
    have hbx : BR 2000 (xs.getD i (0, 1)) := br_nth hx hb0 i
    have hby : BR 2000 (ys.getD i (0, 1)) := br_nth hy hb0 i
    clear F1 N1 hv hu2 hl1 hl2
    k_steps
    all_goals refine Stop.mk ?_
    all_goals refine CompTurn.fresh F9 N9 off R9 hq9 fun l hs hR => ⟨hs _ hcA, hs _ hcB, hs _ h1, hs _ h2, hv2.mono hs, hu3.mono hs, ?_, fun p hp => hs p (G p hp)⟩
    · rw [range_map_snoc]; exact hz.snocF hs hR
    · rw [range_map_snoc, nth_ge (xs := ys) (i := i) (by omega)]; exact hz.snocF hs hR
    · rw [range_map_snoc, nth_ge (xs := xs) (i := i) (by omega)]; exact hz.snocF hs hR
theorem words15 : True := by
  k_with_none
  k_with "exec While Compare cons nil" => (k_here; refine Stop.out ?_)
  k_with "exec While BoolOp cons nil" => (k_here; refine Stop.out ?_)
  k_with "grows" => (first | exact Grows.refl | assumption | (refine Grows.cons ?_; walk_at "grows") | (refine Grows.app ?_; walk_at "grows"))
  k_with "sub9" => (first | exact (fun _ h9 => h9) | (intro p9 h9; simp only [List.mem_append, List.mem_cons, h9, or_true, true_or]; done))
  k_with "bits9" => (refine' Nat.le_trans ?b91 ?b92; (case b91 => bits_by_make); (case b92 => decide))
  k_with "binaryOp FloorDiv int int" => (k_here; (with_reducible refine floordiv_int ?n91 ?_ (Or.inl ?n92)); (case n91 => omega); (case n92 => first | assumption | exact PyProof.noPylong_small (by omega)))
  k_with "binaryOp Mod int int" => (k_here; (with_reducible refine mod_int' ?n91 ?_); (case n91 => omega))
  k_with "subscriptTail Name Constant ref int" => (k_here; k_dflt (first | ((with_reducible show wpAny _ _ (subscriptTail _ _ (Value.ref _) (Value.int 0 _)) _ _ _); refine' rat_item0 ?k1 ?k2 ?k3 ?k4 ?k5 ?_; (case k1 => k_asm); (case k2 => k_asm); (case k3 => k_asm); (case k4 => assumption); (case k5 => walk_at "sub9"); k_whole) | ((with_reducible show wpAny _ _ (subscriptTail _ _ (Value.ref _) (Value.int 1 _)) _ _ _); refine' rat_item1 ?k1 ?k2 ?k3 ?k4 ?k5 ?_; (case k1 => k_asm); (case k2 => k_asm); (case k3 => k_asm); (case k4 => assumption); (case k5 => walk_at "sub9"); k_whole)); intro t9; (try dsimp only))
  k_with "exec For Name Call cons nil" => (k_here; (rename Fr _ _ _ _ => lF'); (with_unfolding_all refine' For_invVF lF' ?k1 ?k2 ?_; (case k1 => exact rfl); (case k2 => exact rfl); k_whole))
  k_with "exec For Name Subscript cons nil" => (k_here; (rename Fr _ _ _ _ => lF'); (with_unfolding_all refine' For_invVF lF' ?k1 ?k2 ?_; (case k1 => exact rfl); (case k2 => exact rfl); k_whole))
  k_with "pyIter ref" => (k_here; refine Stop.out ?_)
  k_with "mem9" => (first | assumption | exact .head _ | (refine List.mem_append.mpr (.inl ?_); assumption) | (refine .tail _ ?_; walk_at "mem9") | (refine List.mem_append.mpr (.inr ?_); walk_at "mem9"))
  k_with "getMethod ref" => (k_here; (with_reducible show wpAny _ _ (getMethod (Value.ref _) (PySem.Str.ofString "append") _) _ _ _); k_dflt (refine' listMethod_K ?N ?m PySem.F.slot_list_append PySem.F.type_list_append ?_; (case N => k_asm); (case m => walk_at "mem9")))
  k_with "call builtin:list.append" => (k_here; (with_reducible show wpAny _ _ (call (Value.builtin _) [Value.ref _, _]) _ _ _); k_dflt (refine' append_mem ?k1 ?k2 ?k3 ?_ ?z; (case k1 => k_asm); (case k2 => k_asm); (case k3 => walk_at "mem9"); (case z => first | assumption | size_fits); k_whole); intro h9 F9 N9 hoff9; (try k_sweep))
  k_with "rats9" => (first | assumption | exact Rats.mono (by assumption) (by walk_at "sub9"))
  k_with "rat9" => (first | assumption | exact RatAt.mono (by assumption) (by walk_at "sub9") | (have hq9 := ratTop (by assumption); assumption) | exact RatAt.mk (by walk_at "mem9") | exact RatAt.zero)
  k_with "subscriptTail Name Name ref int" => (k_here; (with_reducible show wpAny _ _ (subscriptTail _ _ (Value.ref _) (Value.int _ _)) _ _ _); k_dflt (first | (refine' ints_item_nat ?k1 ?k2 ?k3 ?k4 ?k5 ?k6 ?_; (case k1 => k_asm); (case k2 => k_asm); (case k3 => walk_at "mem9"); (case k4 => assumption); (case k5 => omega); (case k6 => omega); k_whole; intro t9; (try dsimp only)) | (refine' rats_item_nat ?k1 ?k2 ?k3 ?k4 ?k5 ?k6 ?_; (case k1 => k_asm); (case k2 => k_asm); (case k3 => walk_at "mem9"); (case k4 => assumption); (case k5 => omega); (case k6 => omega); k_whole; intro a9 R9; (try dsimp only))))
  k_with "subscriptTail Name BinOp ref int" => (k_here; (with_reducible show wpAny _ _ (subscriptTail _ _ (Value.ref _) (Value.int _ _)) _ _ _); k_dflt (refine' rats_item ?k1 ?k2 ?k3 ?k4 ?k5 ?k6 ?k7 ?_; (case k1 => k_asm); (case k2 => k_asm); (case k3 => walk_at "mem9"); (case k4 => assumption); (case k5 => omega); (case k6 => omega); (case k7 => omega); k_whole; intro a9 R9; (try simp only [tn3] at R9); (try dsimp only)))
  k_with "subscriptTail Name Slice ref ref" => (k_here; (with_reducible show wpAny _ _ (subscriptTail _ (PySem.Expr.Slice none none (some _) _) (Value.ref _) (Value.ref _)) _ _ _); k_dflt (refine' krv_lit ?F ?N (News.isList ?N1 ?l) ?k ?e ?_ ?s ?t ?z; (case F => k_asm); (case N => k_asm); (case N1 => k_asm); (case l => walk_at "mem9"); (case k => exact IsPart.int _ _); (case e => exact rfl); (case s => with_unfolding_all rfl); (case t => kmk_pure); (case z => first | assumption | kmk_size)); intro D9 h9 F9 N9 l1; (try k_sweep))
  k_with "call builtin:len" => (k_here; (with_reducible show wpAny _ _ (call (Value.builtin "len") [Value.ref _]) _ _ _); k_dflt (refine' rats_len ?k2 ?k3 ?k4 ?k5 ?_; (case k2 => k_asm); (case k3 => walk_at "mem9"); (case k4 => assumption); (case k5 => omega); k_whole; (try dsimp only)))
  k_with "subscriptTail Name UnaryOp ref int" => (k_here; (with_reducible show wpAny _ _ (subscriptTail _ _ (Value.ref _) (Value.int _ _)) _ _ _); k_dflt (refine' rats_last ?k2 ?k3 ?k4 ?k5 ?k6 ?_; (case k2 => k_asm); (case k3 => walk_at "mem9"); (case k4 => assumption); (case k5 => omega); (case k6 => omega); k_whole; intro a9 R9; (try dsimp only)))
  k_with "units9" => (exact units64 rfl (by assumption) (by decide))
  k_with "compareOp NotEq ref ref" => (k_here; (with_reducible show wpAny _ _ (compareOp CmpOp.NotEq (Value.ref _) (Value.ref _)) _ _ _); k_dflt (first | (refine' rat_ne_same ?k1 ?k2 ?k3 ?k4 ?k5 ?k6 ?k7 ?k8 ?k9 ?_; (case k1 => k_asm); (case k2 => k_asm); (case k3 => k_asm); (case k4 => walk_at "ratl9"); (case k5 => walk_at "sub9"); (case k6 => walk_at "ratl9"); (case k7 => walk_at "sub9"); (case k8 => walk_at "units9"); (case k9 => assumption); k_whole)))
  k_with "ratl9" => (first | assumption | (have hq9 := ratTop (by assumption); assumption))
  k_with "enterC9" => (refine' code_defC ?k1 ?k2 ?k3 ?k4 ?k5 ?kA ?kF ?kK ?k6 ?k7 ?k8 ?k9 ?kB ?kD ?_ ?c2 ?c3 ?c4; (case kA => exact rfl); (case kF => exact rfl); (case kK => assumption); (case k1 => k_asm); (case k2 => k_asm); (case k3 => k_asm); (case k4 => k_asm); (case k5 => k_asm); (case k6 => k_is); (case k7 => k_is); (case k8 => ktr_room); (case k9 => exact BindsTo.of_eq rfl); (case kB => exact rfl); (case kD => decide +kernel); (case c2 => exact rfl); (case c3 => exact rfl); (case c4 => exact rfl); k_whole; intro gC LC hC tkC cellsC FGC FC NC YC BC XC TC lC; (first | (obtain ⟨oA, hEC, dA⟩ := CellsAre.one YC; subst hEC) | (obtain ⟨oA, oB, hEC, dA, dB⟩ := CellsAre.two YC; subst hEC)); (try simp only [List.cons_append, List.nil_append] at NC); (try dsimp only); (try k_fold))
  k_with "CompSrc" => (k_here; refine Stop.out ?_)
  k_with "CompTurn" => (k_here; refine Stop.out ?_)
  k_with "call ref" => (k_here; (with_reducible show wpAny _ _ (call (Value.ref 64) _) _ _ _); k_dflt (refine' saysF_use (rmul_saysF _ _ _ _ ?kx ?ky) ?k1 ?k2 ?k3 ?k4 ?k5 ?kK ?kp ?kd ?ku ?_; (case k1 => k_asm); (case k2 => k_asm); (case k3 => k_asm); (case k4 => k_asm); (case k5 => k_asm); (case kK => first | exact rfl | assumption); (case kp => exact ⟨by walk_at "rat9", by walk_at "rat9"⟩); (case kx => assumption); (case ky => assumption); (case kd => first | exact room_le rfl (by assumption) (by decide) | ktr_room); (case ku => first | exact units_le rfl (by assumption) (by decide) | ktr_units); intro r9 tl9 h9 tk9 F9 N9 ho9; obtain ⟨c9, e9, R9, hq9⟩ := ho9; subst e9; (try dsimp only); (try k_fold)))
  trivial
def qscaleJ (a b cA : Addr) (oA : Obj) (vs : List Value) (c : Nat) (xs : List (Int × Int)) (y : Int × Int) (news : Led) (i : Nat) (zs : List Value) (nx : Led) : Prop :=
  (cA, oA) ∈ nx ∧ (a, listOf vs.toArray c) ∈ nx ∧ Rats nx vs xs ∧ RatAt nx b y ∧ Rats nx zs ((xs.take i).map fun x => rmulF x y) ∧ Grows news nx
theorem qscale_says (a b : Addr) (xs : List (Int × Int)) (y : Int × Int) (hl9 : xs.length ≤ 12) (hx : ∀ x ∈ xs, BR 2000 x) (hy : BR 2000 y) : Says 95 6 (fun l => RatsAt l a xs ∧ RatAt l b y) [.ref a, .ref b] (fun all r => ∃ c, r = .ref c ∧ RatsAt all c (qscaleF xs y)) := by
  intro w mean mg mb dp un gd cn cs ca ccd cl outer A₀ base h₀ L m news s Q E B F X N T hk hR hd hu hret
  obtain ⟨⟨vs, c, hl1, hv⟩, hR2⟩ := hR
  refine wpAny_call ?_
  k_dflt (walk_at "enterC9")
  change oA.data = .cell (some (.ref b)) at dA
  k_steps
  · refine Stop.mk ?_
    rename Fr _ _ _ _ => F1
    rename News _ _ _ _ => N1
    have hqs : qscaleF xs y = (xs.take vs.length).map fun x => rmulF x y := by rw [hv.length, List.take_length, qscaleF, if_pos (by omega)]
    refine' comp_list (vs := vs) (c := c) (qscaleJ a b (LC + 1) oA vs c xs y news) rfl F1 N1 (by walk_at "mem9") ?hk ?_ ?_ ?_ ?_
    case hk => rw [hv.length, sizeLine_eq]; omega
    · exact ⟨.head _, by walk_at "mem9", by walk_at "rats9", by walk_at "rat9", .nil, by walk_at "grows"⟩
    · exact fun i ys nx J => J.2.1
    · intro g zs nx J
      obtain ⟨-, -, -, -, hz, G⟩ := J
      unfold LCg.FinE
      intro D h tk F2 N2 o1
      clear F1 N1 hv
      k_steps
      exact hret _ _ _ _ (by assumption) (by assumption) (by walk_at "grows") ⟨_, rfl, zs, _, .head _, hqs ▸ hz.mono (by walk_at "sub9")⟩
    · intro g i zs nx v I oI C oC D m₂ h tk E' hi J hzl hoC hm₂ F2 N2 off ne
      obtain ⟨hcA, h1, hv2, hR3, hz, G⟩ := J
      obtain ⟨n9, x, rfl, hxi, Rn⟩ := hv2.at hi
      have hbx : BR 2000 x := hx _ (List.mem_of_getElem? hxi)
      clear F1 N1 hv hl1
      k_steps
      refine Stop.mk ?_
      refine CompTurn.fresh F9 N9 off R9 hq9 fun l hs hR => ⟨hs _ hcA, hs _ h1, hv2.mono hs, hR3.mono hs, ?_, fun p hp => hs p (G p hp)⟩
      rw [List.take_add_one, hxi, List.map_append]; exact hz.snocF hs hR
  · exact hret _ _ _ _ (by assumption) (by assumption) (by walk_at "grows") ⟨_, rfl, [], _, .head _, by rw [qscaleF, if_neg (by omega)]; exact .nil⟩
section
set_option maxHeartbeats 4000000
def good10 (x : Int × Int) : Bool := decide (x.1.natAbs < 2 ^ 10) && decide (x.2.natAbs < 2 ^ 10) && decide (0 < x.2)
theorem good10.br {x : Int × Int} (h : good10 x = true) : BR 10 x := by
  simp only [good10, Bool.and_eq_true, decide_eq_true_eq] at h
  exact ⟨intBits_le_iff.mpr h.1.1, intBits_le_iff.mpr h.1.2, h.2⟩
def ps4Ok : Bool := (List.range 4).all fun k => (psL k (k + 1)).all good10 && (List.range 7).all fun (n : Nat) => decide ((lawAtF (psL k (k + 1)) (n : Int)).1 * 1 = sumP k n * (lawAtF (psL k (k + 1)) (n : Int)).2)
theorem ps4Ok_true : ps4Ok = true := by decide +kernel
theorem ps4_good {k : Nat} (hk : k < 4) : (∀ x ∈ psL k (k + 1), BR 10 x) ∧ ∀ n : Nat, n < 7 → (lawAtF (psL k (k + 1)) (n : Int)).1 * 1 = sumP k n * (lawAtF (psL k (k + 1)) (n : Int)).2 := by
  have h := ps4Ok_true
  unfold ps4Ok at h
  have h1 := List.all_eq_true.mp h k (List.mem_range.mpr hk)
  simp only [Bool.and_eq_true] at h1
  refine ⟨fun x hx => good10.br (List.all_eq_true.mp h1.1 x hx), fun n hn => ?_⟩
  simpa only [decide_eq_true_eq] using List.all_eq_true.mp h1.2 n (List.mem_range.mpr hn)
theorem BR.pos2 {k : Nat} {xs : List (Int × Int)} (h : ∀ x ∈ xs, BR k x) : Pos2 xs := fun x hx => (h x hx).pos
theorem val_int {z : Int} : val (z, 1) = (z : Rat) := by
  show (z : Rat) / ((1 : Int) : Rat) = z
  have : ((1 : Int) : Rat) = 1 := rfl
  rw [this]; grind
theorem ev_ps {k n : Nat} (hk : k < 4) (hn : n < 7) : ev (psL k (k + 1)) (n : Int) = (sumP k n : Rat) := by
  obtain ⟨h1, h2⟩ := ps4_good hk
  obtain ⟨h3, h4⟩ := lawAt_ok (n := (n : Int)) (BR.pos2 h1)
  rw [← h4, ← val_int]
  exact val_of_cross (y := (sumP k n, 1)) h3 (show (0 : Int) < 1 by decide) (h2 n hn)
def polyF (p : List (Int × Int)) : Nat → List (Int × Int)
  | 0 => []
  | i + 1 => if nth p i = (0, 1) then polyF p i else qaddF (polyF p i) (qscaleF (psL i (i + 1)) (nth p i))
theorem br_nth' {k : Nat} {xs : List (Int × Int)} (hx : ∀ x ∈ xs, BR k x) (hk : 1 ≤ k) (i : Nat) : BR k (nth xs i) := by
  rcases Nat.lt_or_ge i xs.length with h | h
  · exact hx _ (nth_mem h)
  · rw [nth_ge h]; exact BR.le ⟨by decide, by decide, by decide⟩ hk
theorem poly_br {p : List (Int × Int)} (hp : ∀ x ∈ p, BR 4 x) : ∀ {i : Nat}, i ≤ 4 → ∀ x ∈ polyF p i, BR (15 * i + 1) x
  | 0, _ => fun x hx => nomatch hx
  | i + 1, hi => by
    rw [polyF]
    split
    · exact fun x hx => (poly_br hp (by omega) x hx).le (by omega)
    · exact fun x hx => (qaddF_br (poly_br hp (i := i) (by omega)) (qscaleF_br (ps4_good (k := i) (by omega)).1 (br_nth' hp (by decide) i)) (by omega) (by decide) x hx).le (by omega)
theorem poly_len {p : List (Int × Int)} : ∀ {i : Nat}, (polyF p i).length ≤ i + 1
  | 0 => by simp [polyF]
  | i + 1 => by
    rw [polyF]
    split
    · exact Nat.le_trans poly_len (by omega)
    · refine Nat.le_trans (Nat.le_trans (by rw [qaddF, trimF_length]; exact trimN_le) (Nat.le_of_eq qaddL_length)) ?_
      have h1 := poly_len (p := p) (i := i)
      have h2 : (qscaleF (psL i (i + 1)) (nth p i)).length ≤ i + 2 := by
        unfold qscaleF; split
        · rw [List.length_map, psL_length]; omega
        · exact Nat.zero_le _
      omega
def psm (p : List (Int × Int)) (n : Nat) : Nat → Rat
  | 0 => 0
  | i + 1 => psm p n i + val (nth p i) * (sumP i n : Rat)
theorem ev_poly {p : List (Int × Int)} (hp : ∀ x ∈ p, BR 4 x) {n : Nat} (hn : n < 7) : ∀ {i : Nat}, i ≤ 4 → ev (polyF p i) (n : Int) = psm p n i
  | 0, _ => rfl
  | i + 1, hi => by
    rw [polyF, psm, ← ev_poly hp hn (i := i) (by omega)]
    split
    · rename_i h
      rw [h, val_zero rfl]; grind
    · have hps := BR.pos2 (ps4_good (k := i) (by omega)).1
      have hc := (br_nth' hp (by decide) i).pos
      rw [ev_qadd (BR.pos2 (poly_br hp (i := i) (by omega))) (qscaleF_pos hps hc), ev_qscale hps hc, ev_ps (by omega) hn]; grind
theorem sumP_succ (k n : Nat) : (sumP k (n + 1) : Rat) = (sumP k n : Rat) + ((n : Int) : Rat) ^ k := by
  rw [sumP, Rat.intCast_add, Rat.intCast_pow]
theorem psm_step {p : List (Int × Int)} {n : Nat} : ∀ {i : Nat}, psm p (n + 1) i = psm p n i + evN (nth p) (n : Int) i
  | 0 => by simp only [psm, evN]; grind
  | i + 1 => by rw [psm, psm, evN, psm_step (i := i), sumP_succ]; grind
theorem psm_zero {p : List (Int × Int)} : ∀ {i : Nat}, psm p 0 i = 0
  | 0 => rfl
  | i + 1 => by
    rw [psm, psm_zero (i := i)]
    have : ((sumP i 0 : Int) : Rat) = 0 := rfl
    rw [this]; grind
def totStep (t one : Int × Int) : Int × Int := (t.1 * one.2 + one.1 * t.2, t.2 * one.2)
def tot2 (p : List (Int × Int)) : Nat → Int × Int
  | 0 => (0, 1)
  | n + 1 => totStep (tot2 p n) (lawAtF p (n : Int))
theorem tot2_ok {p : List (Int × Int)} (hp : Pos2 p) : ∀ {n : Nat}, 0 < (tot2 p n).2 ∧ val (tot2 p n) = psm p n p.length
  | 0 => ⟨show (0 : Int) < 1 by decide, by rw [psm_zero]; exact val_zero rfl⟩
  | n + 1 => by
    obtain ⟨h1, h2⟩ := tot2_ok hp (n := n)
    obtain ⟨h3, h4⟩ := lawAt_ok (n := (n : Int)) hp
    refine ⟨Int.mul_pos h1 h3, ?_⟩
    rw [psm_step, ← h2]
    show _ = _ + ev p (n : Int)
    rw [← h4, tot2]
    have a1 := icast_pos_ne h1
    have a2 := icast_pos_ne h3
    show (((tot2 p n).1 * (lawAtF p n).2 + (lawAtF p n).1 * (tot2 p n).2 : Int) : Rat) / (((tot2 p n).2 * (lawAtF p n).2 : Int) : Rat) = _
    unfold val
    simp only [Rat.intCast_add, Rat.intCast_mul]
    grind
theorem law_eq {p : List (Int × Int)} (hp : ∀ x ∈ p, BR 4 x) (hl : p.length ≤ 4) {n : Nat} (hn : n < 7) :
    (lawAtF (polyF p p.length) n).1 * (tot2 p n).2 = (tot2 p n).1 * (lawAtF (polyF p p.length) n).2 := by
  obtain ⟨h1, h2⟩ := lawAt_ok (n := (n : Int)) (BR.pos2 (poly_br hp hl))
  obtain ⟨h3, h4⟩ := tot2_ok (BR.pos2 hp) (n := n)
  exact cross_of_val h1 h3 (by rw [h2, h4, ev_poly hp hn hl])
theorem poly_nil {p : List (Int × Int)} (h : p = []) : polyF p p.length = [] := by subst h; rfl
theorem poly_lead {p : List (Int × Int)} (hp : ∀ x ∈ p, BR 4 x) (hl : p.length ≤ 4) (h0 : p ≠ []) (ha : (nth p (p.length - 1)).1 ≠ 0) :
    (polyF p p.length).length = p.length + 1 ∧ ((polyF p p.length).getD p.length (0, 1)).1 ≠ 0 := by
  obtain ⟨i, hi⟩ : ∃ i, p.length = i + 1 := ⟨p.length - 1, by have := List.length_pos_iff.mpr h0; omega⟩
  rw [hi] at ha ⊢
  rw [show i + 1 - 1 = i by omega] at ha
  rw [polyF, if_neg (fun e => ha (by rw [e]))]
  have hq : (qscaleF (psL i (i + 1)) (nth p i)) = (psL i (i + 1)).map fun x => rmulF x (nth p i) := by rw [qscaleF, if_pos ha]
  have h1 := poly_len (p := p) (i := i)
  have h2 : ((psL i (i + 1)).map fun x => rmulF x (nth p i)).length = i + 2 := by rw [List.length_map, psL_length]
  have h3 : (qaddL (polyF p i) (qscaleF (psL i (i + 1)) (nth p i))).length = i + 2 := by rw [qaddL_length, hq, h2]; omega
  have hlast : nth (qaddL (polyF p i) (qscaleF (psL i (i + 1)) (nth p i))) (i + 1) = raddF (0, 1) (rmulF (1, (i : Int) + 1) (nth p i)) := by
    rw [qaddL_nth (by rw [hq, h2]; omega), nth_ge (xs := polyF p i) (by omega), hq]
    congr 1
    show ((psL i (i + 1)).map _).getD (i + 1) (0, 1) = _
    rw [List.getD_eq_getElem?_getD, List.getElem?_map, List.getElem?_eq_getElem (by rw [psL_length]; omega)]
    have e := (pr_good (k := i) (by omega)).2.1
    rw [List.getD_eq_getElem?_getD, List.getElem?_eq_getElem (by rw [psL_length]; omega)] at e
    show rmulF _ _ = _
    rw [show (psL i (i + 1))[i + 1]'(by rw [psL_length]; omega) = (1, (i : Int) + 1) from e]
  have hc := (br_nth' hp (by decide) i).pos
  have hne : (raddF (0, 1) (rmulF (1, (i : Int) + 1) (nth p i))).1 ≠ 0 := by
    apply ne_of_val
    have hi0 : (0 : Int) < (i : Int) + 1 := by omega
    rw [val_raddF (by decide) (rmulF_pos hi0 hc), val_rmulF (x := (1, (i : Int) + 1)) hi0 hc, val_zero rfl]
    have a1 := icast_pos_ne hi0
    have a2 := icast_pos_ne hc
    have a3 := icast_ne ha
    have a4 : val (1, (i : Int) + 1) ≠ 0 := by
      show ((1 : Int) : Rat) / (((i : Int) + 1 : Int) : Rat) ≠ 0
      have : ((1 : Int) : Rat) = 1 := rfl
      rw [this]; grind
    have a5 : val (nth p i) ≠ 0 := by unfold val; grind
    grind
  have hfull : qaddF (polyF p i) (qscaleF (psL i (i + 1)) (nth p i)) = qaddL (polyF p i) (qscaleF (psL i (i + 1)) (nth p i)) := trimF_full (k := i + 1) h3 (by rw [hlast]; exact hne)
  rw [hfull]
  exact ⟨h3, by rw [show (qaddL (polyF p i) (qscaleF (psL i (i + 1)) (nth p i))).getD (i + 1) (0, 1) = _ from hlast]; exact hne⟩
theorem at_bitsG {n : Int} {c d : Nat} (hn : bits n ≤ c) : ∀ (ys : List (Int × Int)) (T : Int × Int) (b : Nat), (∀ y ∈ ys, BR d y) → bits T.1 ≤ b → bits T.2 ≤ b → bits (ys.foldl (atStep n) T).1 ≤ b + (c + d + 1) * ys.length ∧ bits (ys.foldl (atStep n) T).2 ≤ b + (c + d + 1) * ys.length
  | [], T, b, _, h1, h2 => ⟨h1, h2⟩
  | y :: ys, T, b, hy, h1, h2 => by
    have hb := hy y (.head _)
    have a1 : bits (atStep n T y).1 ≤ b + (c + d + 1) := Nat.le_trans (intBits_add_le (intBits_mul_le (intBits_mul_le h1 hn) hb.bot) (intBits_mul_le hb.top h2)) (by omega)
    have a2 : bits (atStep n T y).2 ≤ b + (c + d + 1) := Nat.le_trans (intBits_mul_le h2 hb.bot) (by omega)
    have ih := at_bitsG hn ys (atStep n T y) (b + (c + d + 1)) (fun z hz => hy z (.tail _ hz)) a1 a2
    rw [List.foldl_cons, List.length_cons, Nat.mul_add, Nat.mul_one]
    exact ⟨Nat.le_trans ih.1 (by omega), Nat.le_trans ih.2 (by omega)⟩
theorem p_at_bits {p : List (Int × Int)} (hp : ∀ x ∈ p, BR 4 x) (hl : p.length ≤ 4) {n : Nat} (hn : n < 8) : bits (lawAtF p n).1 ≤ 33 ∧ bits (lawAtF p n).2 ≤ 33 := by
  have h := at_bitsG (n := (n : Int)) (c := 3) (d := 4) (intBits_le_iff.mpr (by omega)) p.reverse (0, 1) 1 (fun y hy => hp y (List.mem_reverse.mp hy)) (by decide) (by decide)
  rw [List.length_reverse] at h
  exact ⟨Nat.le_trans h.1 (by omega), Nat.le_trans h.2 (by omega)⟩
theorem tot2_bits {p : List (Int × Int)} (hp : ∀ x ∈ p, BR 4 x) (hl : p.length ≤ 4) : ∀ {n : Nat}, n ≤ 7 → bits (tot2 p n).1 ≤ 40 * n + 1 ∧ bits (tot2 p n).2 ≤ 40 * n + 1
  | 0, _ => ⟨show bits (0 : Int) ≤ 1 by decide, show bits (1 : Int) ≤ 1 by decide⟩
  | n + 1, hn => by
    obtain ⟨h1, h2⟩ := tot2_bits hp hl (n := n) (by omega)
    obtain ⟨h3, h4⟩ := p_at_bits hp hl (n := n) (by omega)
    exact ⟨Nat.le_trans (intBits_add_le (intBits_mul_le h1 h4) (intBits_mul_le h3 h2)) (by omega), Nat.le_trans (intBits_mul_le h2 h4) (by omega)⟩
end
section
open PySem PySem.W PyProof.Rows PySem.SeqAt PySem.Spec PySem.Calls
set_option maxHeartbeats 4000000
theorem en_ne_list {o : Obj} (h : o.cls = .type "enumerate") : Value.type "list" ≠ o.cls := by rw [h]; simp
theorem en_ne_tuple {o : Obj} (h : o.cls = .type "enumerate") : Value.type "tuple" ≠ o.cls := by rw [h]; simp
def TurnEnd2 (h₀ : Heap) (L : Addr) (J : (Str → Option Value) → Led → Prop) (I I2 : Addr) (oI oI2 : Obj) (s₁ : Shared) (Q : Flow → Shared → Prop) (f : Flow) (s₂ : Shared) : Prop :=
  match f with
  | .ret v => Q (.ret v) s₂
  | .brk => Q .next s₂
  | _ => ∃ h' tk m' news', s₂ = { s₁ with heap := h', toks := tk } ∧ Fr h₀ L h' m' ∧ News h₀ L h' news' ∧ (I, oI) ∈ news' ∧ (I2, oI2) ∈ news' ∧ J m' (Off I (Off I2 news'))
theorem TurnEnd2.next {h₀ h' : Heap} {L : Addr} {J : (Str → Option Value) → Led → Prop} {I I2 : Addr} {oI oI2 : Obj} {s₁ : Shared} {Q : Flow → Shared → Prop} {m' : Str → Option Value} {news' nx : Led} {tk : Nat}
    (F : Fr h₀ L h' m') (N : News h₀ L h' news') (hI : (I, oI) ∈ news') (hI2 : (I2, oI2) ∈ news') (hs : ∀ p ∈ nx, p ∈ news') (off : ∀ p ∈ nx, p.1 ≠ I ∧ p.1 ≠ I2)
    (hJ : (∀ p ∈ nx, p ∈ Off I (Off I2 news')) → (∀ p ∈ news', p.2.cls ≠ oI.cls → p.2.cls ≠ oI2.cls → p ∈ Off I (Off I2 news')) → J m' (Off I (Off I2 news'))) : TurnEnd2 h₀ L J I I2 oI oI2 s₁ Q .next { s₁ with heap := h', toks := tk } :=
  ⟨h', tk, m', news', rfl, F, N, hI, hI2, hJ (fun p hp => Off.mem.mpr ⟨Off.mem.mpr ⟨hs p hp, (off p hp).2⟩, (off p hp).1⟩) fun p hp h1 h2 => Off.mem.mpr ⟨Off.of N hI2 p hp h2, fun e => (Off.mem.mp (Off.of N hI p hp h1)).2 e⟩⟩
section
variable {prog : Program} {w : World} {A : Around} {E : Value → Shared → Prop} {s : Shared} {env : Env} {h₀ : Heap} {body : List Stmt} {Q : Flow → Shared → Prop} {elts : List Expr} {k : Nat} {pos : Pos}
theorem enum_rest {l : Addr} {lo : Obj} {vs : List Value} {I : Addr} (J : Nat → (Str → Option Value) → Led → Prop)
    (turn : ∀ i v m₁ nx T t h tk oI oI2, vs[i]? = some v → J i m₁ nx → (l, lo) ∈ nx → oI.cls = .type "enumerate" → oI2.cls = .type "list_iterator" → IsTup h T #[.int (i : Int) t, v] → (∀ p ∈ nx, p.1 ≠ I + 1 ∧ p.1 ≠ I) → Fr h₀ env.locals h m₁ → News h₀ env.locals h ((I + 1, oI) :: (I, oI2) :: nx) →
      wpAny (model prog w) A (assign (.Tuple elts k pos) env (.ref T)) (fun _ s₂ => wpAny (model prog w) A (execs body env) (TurnEnd2 h₀ env.locals (fun m' nx' => (l, lo) ∈ nx' ∧ J (i + 1) m' nx') (I + 1) I oI oI2 { s with heap := h, toks := tk } Q) E s₂) E { s with heap := h, toks := tk })
    (done : ∀ m₁ nx h tk, J vs.length m₁ nx → Fr h₀ env.locals h m₁ → News h₀ env.locals h nx → Q .next { s with heap := h, toks := tk }) :
    ∀ (ws : List Value) (i : Nat) (m : Str → Option Value) (nx : Led), vs.drop i = ws → i ≤ vs.length → J i m nx → (l, lo) ∈ nx → (∀ p ∈ nx, p.1 ≠ I + 1 ∧ p.1 ≠ I) →
      ItemsRest prog w A E h₀ env (.Tuple elts k pos) body Q s [(I + 1, "enumerate"), (I, "list_iterator")] [(l, lo)] (enumItems i ws) m nx
  | [], i, m, nx, e, hi, hJ, hm, _ => by
    have hi : i = vs.length := by have := List.drop_eq_nil_iff.mp e; omega
    subst hi
    exact ItemsRest.zero fun h tk F N => done m nx h tk hJ F N
  | v :: ws, i, m, nx, e, hi, hJ, hm, ho => by
    have hv : vs[i]? = some v := by
      have := congrArg (·[0]?) e
      simpa using this
    have hil : i < vs.length := (List.getElem?_eq_some_iff.mp hv).1
    refine ItemsRest.pair fun T t h tk hT F => ?_
    refine AllObj.cons fun oI hI => AllObj.cons fun oI2 hI2 => AllObj.nil fun N => ?_
    refine wpAny_mono (turn i v m nx T t h tk oI oI2 hv hJ hm hI hI2 hT ho F N) (fun _ s₂ r => wpAny_mono r (fun f s₃ q => ?_) fun _ _ e => e) fun _ _ e => e
    have fin : (∃ h' tk' m' news', s₃ = { ({ s with heap := h, toks := tk } : Shared) with heap := h', toks := tk' } ∧ Fr h₀ env.locals h' m' ∧ News h₀ env.locals h' news' ∧ (I + 1, oI) ∈ news' ∧ (I, oI2) ∈ news' ∧ ((l, lo) ∈ Off (I + 1) (Off I news') ∧ J (i + 1) m' (Off (I + 1) (Off I news')))) →
        UnrEndW h₀ env.locals { s with heap := h, toks := tk } [(I + 1, oI), (I, oI2)] (fun m' n' => SubL [(l, lo)] n' ∧ ItemsRest prog w A E h₀ env (.Tuple elts k pos) body Q s [(I + 1, "enumerate"), (I, "list_iterator")] [(l, lo)] (enumItems (i + 1) ws) m' n') s₃ := by
      rintro ⟨h', tk', m', news', rfl, F', N', a1, a2, hl, hJ'⟩
      refine ⟨h', tk', m', Off (I + 1) (Off I news'), rfl, F', fun p hp => ?_, fun p hp q hq => ?_, ⟨hl, trivial⟩, enum_rest J turn done ws (i + 1) m' _ ?_ hil hJ' hl fun p hp => ⟨(Off.mem.mp hp).2, (Off.mem.mp (Off.mem.mp hp).1).2⟩⟩
      · rcases List.mem_cons.mp hp with rfl | hp
        · exact N' _ a1
        · rcases List.mem_cons.mp hp with rfl | hp
          · exact N' _ a2
          · exact N' _ (Off.mem.mp (Off.mem.mp hp).1).1
      · have b1 := (Off.mem.mp hp).2
        have b2 := (Off.mem.mp (Off.mem.mp hp).1).2
        rcases List.mem_cons.mp hq with rfl | hq
        · exact b1
        · rw [List.mem_singleton.mp hq]; exact b2
      · rw [← List.drop_drop, e]; rfl
    cases f with
    | ret v => exact q
    | brk => exact q
    | next => exact fin q
    | cont => exact fin q
theorem loop_enum {l : Addr} {vs : List Value} {c : Nat} {m₀ : Str → Option Value} {news : Led} (J : Nat → (Str → Option Value) → Led → Prop) (hh : A.handled = none) (F : Fr h₀ env.locals s.heap m₀) (N : News h₀ env.locals s.heap news) (hl : (l, listOf vs.toArray c) ∈ news) (hj : J 0 m₀ news)
    (turn : ∀ i v m₁ nx T t h tk I oI oI2, vs[i]? = some v → J i m₁ nx → (l, listOf vs.toArray c) ∈ nx → oI.cls = .type "enumerate" → oI2.cls = .type "list_iterator" → IsTup h T #[.int (i : Int) t, v] → (∀ p ∈ nx, p.1 ≠ I + 1 ∧ p.1 ≠ I) → Fr h₀ env.locals h m₁ → News h₀ env.locals h ((I + 1, oI) :: (I, oI2) :: nx) →
      wpAny (model prog w) A (assign (.Tuple elts k pos) env (.ref T)) (fun _ s₂ => wpAny (model prog w) A (execs body env) (TurnEnd2 h₀ env.locals (fun m' nx' => (l, listOf vs.toArray c) ∈ nx' ∧ J (i + 1) m' nx') (I + 1) I oI oI2 { s with heap := h, toks := tk } Q) E s₂) E { s with heap := h, toks := tk })
    (done : ∀ m₁ nx h tk, J vs.length m₁ nx → Fr h₀ env.locals h m₁ → News h₀ env.locals h nx → Q .next { s with heap := h, toks := tk }) :
    wpAny (model prog w) A (call (.type "enumerate") [.ref l]) (fun xv s₁ => wpAny (model prog w) A (pyIter xv) (fun it s₂ => TurnsAt prog w A h₀ env (.Tuple elts k pos) body Q E it s₂) E s₁) E s :=
  ktu_enum hh F N hl rfl rfl rfl fun I hlt => enum_rest J (fun i v m₁ nx T t h tk oI oI2 => turn i v m₁ nx T t h tk I oI oI2) done vs 0 m₀ news rfl (Nat.zero_le _) hj hl fun p hp => ⟨Nat.ne_of_lt (Nat.lt_succ_of_lt (hlt p hp)), Nat.ne_of_lt (hlt p hp)⟩
end
section
variable {prog : Program} {w : World} {A : Around} {E : Value → Shared → Prop} {s : Shared} {h₀ : Heap} {L : Addr} {m : Str → Option Value} {news : Led}
theorem rat_ne_diff {a b : Addr} {x y : Int × Int} {l1 l2 : Led} {Q : Value → Shared → Prop} (F : Fr h₀ L s.heap m) (X : (hd.heap_39 w.params).In h₀) (N : News h₀ L s.heap news) (R1 : RatAt l1 a x) (h1 : ∀ p ∈ l1, p ∈ news) (R2 : RatAt l2 b y) (h2 : ∀ p ∈ l2, p ∈ news) (hu : A.units + 64 < cLine) (e : x ≠ y)
    (h : Q (.bool true) s) : wpAny (model prog w) A (compareOp .NotEq (.ref a) (.ref b)) Q E s := rat_ne F X N R1 h1 R2 h2 hu (by rw [decide_eq_false e]; exact h)
end
end
theorem words16 : True := by
  k_with_none
  k_with "exec While Compare cons nil" => (k_here; refine Stop.out ?_)
  k_with "exec While BoolOp cons nil" => (k_here; refine Stop.out ?_)
  k_with "grows" => (first | exact Grows.refl | assumption | (refine Grows.cons ?_; walk_at "grows") | (refine Grows.app ?_; walk_at "grows"))
  k_with "sub9" => (first | exact (fun _ h9 => h9) | (intro p9 h9; simp only [List.mem_append, List.mem_cons, h9, or_true, true_or]; done))
  k_with "bits9" => (refine' Nat.le_trans ?b91 ?b92; (case b91 => bits_by_make); (case b92 => decide))
  k_with "binaryOp FloorDiv int int" => (k_here; (with_reducible refine floordiv_int ?n91 ?_ (Or.inl ?n92)); (case n91 => omega); (case n92 => first | assumption | exact PyProof.noPylong_small (by omega)))
  k_with "binaryOp Mod int int" => (k_here; (with_reducible refine mod_int' ?n91 ?_); (case n91 => omega))
  k_with "subscriptTail Name Constant ref int" => (k_here; k_dflt (first | ((with_reducible show wpAny _ _ (subscriptTail _ _ (Value.ref _) (Value.int 0 _)) _ _ _); refine' rat_item0 ?k1 ?k2 ?k3 ?k4 ?k5 ?_; (case k1 => k_asm); (case k2 => k_asm); (case k3 => k_asm); (case k4 => assumption); (case k5 => walk_at "sub9"); k_whole) | ((with_reducible show wpAny _ _ (subscriptTail _ _ (Value.ref _) (Value.int 1 _)) _ _ _); refine' rat_item1 ?k1 ?k2 ?k3 ?k4 ?k5 ?_; (case k1 => k_asm); (case k2 => k_asm); (case k3 => k_asm); (case k4 => assumption); (case k5 => walk_at "sub9"); k_whole)); intro t9; (try dsimp only))
  k_with "exec For Name Call cons nil" => (k_here; (rename Fr _ _ _ _ => lF'); (with_unfolding_all refine' For_invVF lF' ?k1 ?k2 ?_; (case k1 => exact rfl); (case k2 => exact rfl); k_whole))
  k_with "exec For Name Subscript cons nil" => (k_here; (rename Fr _ _ _ _ => lF'); (with_unfolding_all refine' For_invVF lF' ?k1 ?k2 ?_; (case k1 => exact rfl); (case k2 => exact rfl); k_whole))
  k_with "pyIter ref" => (k_here; refine Stop.out ?_)
  k_with "mem9" => (first | assumption | exact .head _ | (refine List.mem_append.mpr (.inl ?_); assumption) | (refine .tail _ ?_; walk_at "mem9") | (refine List.mem_append.mpr (.inr ?_); walk_at "mem9"))
  k_with "getMethod ref" => (k_here; (with_reducible show wpAny _ _ (getMethod (Value.ref _) (PySem.Str.ofString "append") _) _ _ _); k_dflt (refine' listMethod_K ?N ?m PySem.F.slot_list_append PySem.F.type_list_append ?_; (case N => k_asm); (case m => walk_at "mem9")))
  k_with "call builtin:list.append" => (k_here; (with_reducible show wpAny _ _ (call (Value.builtin _) [Value.ref _, _]) _ _ _); k_dflt (refine' append_mem ?k1 ?k2 ?k3 ?_ ?z; (case k1 => k_asm); (case k2 => k_asm); (case k3 => walk_at "mem9"); (case z => first | assumption | size_fits); k_whole); intro h9 F9 N9 hoff9; (try k_sweep))
  k_with "rats9" => (first | assumption | exact Rats.mono (by assumption) (by walk_at "sub9"))
  k_with "rat9" => (first | assumption | exact RatAt.mono (by assumption) (by walk_at "sub9") | (have hq9 := ratTop (by assumption); assumption) | exact RatAt.mk (by walk_at "mem9") | exact RatAt.zero)
  k_with "subscriptTail Name Name ref int" => (k_here; (with_reducible show wpAny _ _ (subscriptTail _ _ (Value.ref _) (Value.int _ _)) _ _ _); k_dflt (first | (refine' ints_item_nat ?k1 ?k2 ?k3 ?k4 ?k5 ?k6 ?_; (case k1 => k_asm); (case k2 => k_asm); (case k3 => walk_at "mem9"); (case k4 => assumption); (case k5 => omega); (case k6 => omega); k_whole; intro t9; (try dsimp only)) | (refine' rats_item_nat ?k1 ?k2 ?k3 ?k4 ?k5 ?k6 ?_; (case k1 => k_asm); (case k2 => k_asm); (case k3 => walk_at "mem9"); (case k4 => assumption); (case k5 => omega); (case k6 => omega); k_whole; intro a9 R9; (try dsimp only))))
  k_with "subscriptTail Name BinOp ref int" => (k_here; (with_reducible show wpAny _ _ (subscriptTail _ _ (Value.ref _) (Value.int _ _)) _ _ _); k_dflt (refine' rats_item ?k1 ?k2 ?k3 ?k4 ?k5 ?k6 ?k7 ?_; (case k1 => k_asm); (case k2 => k_asm); (case k3 => walk_at "mem9"); (case k4 => assumption); (case k5 => omega); (case k6 => omega); (case k7 => omega); k_whole; intro a9 R9; (try simp only [tn3] at R9); (try dsimp only)))
  k_with "subscriptTail Name Slice ref ref" => (k_here; (with_reducible show wpAny _ _ (subscriptTail _ (PySem.Expr.Slice none none (some _) _) (Value.ref _) (Value.ref _)) _ _ _); k_dflt (refine' krv_lit ?F ?N (News.isList ?N1 ?l) ?k ?e ?_ ?s ?t ?z; (case F => k_asm); (case N => k_asm); (case N1 => k_asm); (case l => walk_at "mem9"); (case k => exact IsPart.int _ _); (case e => exact rfl); (case s => with_unfolding_all rfl); (case t => kmk_pure); (case z => first | assumption | kmk_size)); intro D9 h9 F9 N9 l1; (try k_sweep))
  k_with "call builtin:len" => (k_here; (with_reducible show wpAny _ _ (call (Value.builtin "len") [Value.ref _]) _ _ _); k_dflt (refine' rats_len ?k2 ?k3 ?k4 ?k5 ?_; (case k2 => k_asm); (case k3 => walk_at "mem9"); (case k4 => assumption); (case k5 => omega); k_whole; (try dsimp only)))
  k_with "subscriptTail Name UnaryOp ref int" => (k_here; (with_reducible show wpAny _ _ (subscriptTail _ _ (Value.ref _) (Value.int _ _)) _ _ _); k_dflt (refine' rats_last ?k2 ?k3 ?k4 ?k5 ?k6 ?_; (case k2 => k_asm); (case k3 => walk_at "mem9"); (case k4 => assumption); (case k5 => omega); (case k6 => omega); k_whole; intro a9 R9; (try dsimp only)))
  k_with "units9" => (exact units64 rfl (by assumption) (by decide))
  k_with "compareOp NotEq ref ref" => (k_here; (with_reducible show wpAny _ _ (compareOp CmpOp.NotEq (Value.ref _) (Value.ref _)) _ _ _); k_dflt (first | (refine' rat_ne_same ?k1 ?k2 ?k3 ?k4 ?k5 ?k6 ?k7 ?k8 ?k9 ?_; (case k1 => k_asm); (case k2 => k_asm); (case k3 => k_asm); (case k4 => walk_at "ratl9"); (case k5 => walk_at "sub9"); (case k6 => walk_at "ratl9"); (case k7 => walk_at "sub9"); (case k8 => walk_at "units9"); (case k9 => assumption); k_whole)))
  k_with "ratl9" => (first | assumption | (have hq9 := ratTop (by assumption); assumption))
  k_with "ratl8" => (first | assumption | (have hq9 := ratTop (by assumption); assumption) | exact RatAt.zero (l := []))
  k_with "compareOp NotEq ref ref" => (k_here; (with_reducible show wpAny _ _ (compareOp CmpOp.NotEq (Value.ref _) (Value.ref _)) _ _ _); k_dflt (first | (refine' rat_ne_same ?k1 ?k2 ?k3 ?k4 ?k5 ?k6 ?k7 ?k8 ?k9 ?_; (case k1 => k_asm); (case k2 => k_asm); (case k3 => k_asm); (case k4 => walk_at "ratl8"); (case k5 => walk_at "sub9"); (case k6 => walk_at "ratl8"); (case k7 => first | exact List.forall_mem_nil _ | walk_at "sub9"); (case k8 => walk_at "units9"); (case k9 => assumption); k_whole) | (refine' rat_ne_diff ?k1 ?k2 ?k3 ?k4 ?k5 ?k6 ?k7 ?k8 ?k9 ?_; (case k1 => k_asm); (case k2 => k_asm); (case k3 => k_asm); (case k4 => walk_at "ratl8"); (case k5 => walk_at "sub9"); (case k6 => walk_at "ratl8"); (case k7 => first | exact List.forall_mem_nil _ | walk_at "sub9"); (case k8 => walk_at "units9"); (case k9 => assumption); k_whole)))
  k_with "exec For Tuple Call cons nil" => (k_here; (rename Fr _ _ _ _ => lF'); (with_unfolding_all refine' For_turns lF' ?_; k_whole))
  k_with "call type:enumerate" => (k_here; refine Stop.out ?_)
  k_with "call ref" => (k_here; (with_reducible show wpAny _ _ (call (Value.ref 116) _) _ _ _); k_dflt (refine' says_use (ps_says _ _ ?kx) ?k1 ?k2 ?k3 ?k4 ?k5 ?kK ?kp ?kd ?ku ?_; (case k1 => k_asm); (case k2 => k_asm); (case k3 => k_asm); (case k4 => k_asm); (case k5 => k_asm); (case kK => first | exact rfl | assumption); (case kp => trivial); (case kx => omega); (case kd => first | exact room_le rfl (by assumption) (by decide) | ktr_room); (case ku => first | exact units_le rfl (by assumption) (by decide) | ktr_units); intro r9 tl9 h9 tk9 F9 N9 ho9; obtain ⟨d9, e9, us9, n8, hl8, hv8⟩ := ho9; subst e9; (try dsimp only); (try k_fold)))
  k_with "call ref" => (k_here; (with_reducible show wpAny _ _ (call (Value.ref 95) _) _ _ _); k_dflt (refine' says_use (qscale_says _ _ _ _ ?kx ?ky ?kz) ?k1 ?k2 ?k3 ?k4 ?k5 ?kK ?kp ?kd ?ku ?_; (case k1 => k_asm); (case k2 => k_asm); (case k3 => k_asm); (case k4 => k_asm); (case k5 => k_asm); (case kK => first | exact rfl | assumption); (case kp => exact ⟨⟨_, _, by walk_at "mem9", by walk_at "rats9"⟩, by walk_at "rat9"⟩); (case kx => first | assumption | omega); (case ky => assumption); (case kz => assumption); (case kd => first | exact room_le rfl (by assumption) (by decide) | ktr_room); (case ku => first | exact units_le rfl (by assumption) (by decide) | ktr_units); intro r9 tl9 h9 tk9 F9 N9 ho9; obtain ⟨d9, e9, us9, n8, hl8, hv8⟩ := ho9; subst e9; (try dsimp only); (try k_fold)))
  k_with "call ref" => (k_here; (with_reducible show wpAny _ _ (call (Value.ref 90) _) _ _ _); k_dflt (refine' says_use (qadd_says _ _ _ _ ?kx ?ky ?kz ?kt) ?k1 ?k2 ?k3 ?k4 ?k5 ?kK ?kp ?kd ?ku ?_; (case k1 => k_asm); (case k2 => k_asm); (case k3 => k_asm); (case k4 => k_asm); (case k5 => k_asm); (case kK => first | exact rfl | assumption); (case kp => exact ⟨⟨_, _, by walk_at "mem9", by walk_at "rats9"⟩, ⟨_, _, by walk_at "mem9", by walk_at "rats9"⟩⟩); (case kx => first | assumption | omega); (case ky => first | assumption | omega); (case kz => assumption); (case kt => assumption); (case kd => first | exact room_le rfl (by assumption) (by decide) | ktr_room); (case ku => first | exact units_le rfl (by assumption) (by decide) | ktr_units); intro r9 tl9 h9 tk9 F9 N9 ho9; obtain ⟨d9, e9, us9, n8, hl8, hv8⟩ := ho9; subst e9; (try dsimp only); (try k_fold)))
  trivial
def polyJ (vs : List Value) (c : Nat) (a : Addr) (xs : List (Int × Int)) (news : Led) (i : Nat) (m : Str → Option Value) (nx : Led) : Prop :=
  ∃ l ws c2, m (Str.ofString "found") = some (Value.ref l) ∧ (l, listOf ws.toArray c2) ∈ nx ∧ Rats nx ws (polyF xs i) ∧ Rats nx vs xs ∧ Grows news nx
theorem psum_says (a : Addr) (xs : List (Int × Int)) (hl9 : xs.length ≤ 4) (hx : ∀ x ∈ xs, BR 4 x) : Says 123 14 (fun l => RatsAt l a xs) [.ref a] (fun all r => ∃ c, r = .ref c ∧ RatsAt all c (polyF xs xs.length)) := by
  intro w mean mg mb dp un gd cn cs ca ccd cl outer A₀ base h₀ L m news s Q E B F X N T hk hR hd hu hret
  obtain ⟨vs, c, hl1, hv⟩ := hR
  refine wpAny_call ?_
  k_dflt ktr_enter
  k_steps
  refine Stop.mk ?_
  rename Fr _ _ _ _ => F1
  rename News _ _ _ _ => N1
  refine' loop_enum (vs := vs) (c := c) (polyJ vs c a xs news) rfl F1 N1 (by walk_at "mem9") ?_ ?_ ?_
  · exact ⟨_, [], _, rfl, .head _, .nil, hv.mono (by walk_at "sub9"), by walk_at "grows"⟩
  · intro i v m₁ nx Tu t1 h1 tk1 I oI oI2 hi J hl2 hc1 hc2 hTu hoff F2 N2
    obtain ⟨l, ws, c2, e1, hl3, hw, hv2, G⟩ := J
    obtain ⟨b, x, rfl, hxi, Rx⟩ := hv2.at hi
    have hxm := List.mem_of_getElem? hxi
    have hil : i < 4 := by have := (List.getElem?_eq_some_iff.mp hxi).1; omega
    replace F2 := fr_know F2 (Str.ofString "found") e1
    clear F1 N1 hv hl1
    have hb4 := hx x hxm
    have hbx := hb4.le (show 4 ≤ 2000 by decide)
    have hbp : ∀ y ∈ psL i (i + 1), BR 2000 y := fun y hy => ((ps4_good hil).1 y hy).le (by decide)
    have hlp : (psL i (i + 1)).length ≤ 12 := by rw [psL_length]; omega
    have hbq : ∀ y ∈ qscaleF (psL i (i + 1)) x, BR 2000 y := fun y hy => (qscaleF_br (ps4_good hil).1 hb4 y hy).le (by decide)
    have hlq : (qscaleF (psL i (i + 1)) x).length ≤ 12 := by unfold qscaleF; split <;> simp <;> omega
    have hbf : ∀ y ∈ polyF xs i, BR 2000 y := fun y hy => (poly_br hx (by omega) y hy).le (by omega)
    have hlf : (polyF xs i).length ≤ 12 := Nat.le_trans poly_len (by omega)
    have hnx : nth xs i = x := by show xs.getD i (0, 1) = x; rw [List.getD_eq_getElem?_getD, hxi]; rfl
    by_cases h0 : x = (0, 1)
    · have ep : polyF xs (i + 1) = polyF xs i := by rw [polyF, if_pos (by rw [hnx, h0])]
      k_steps
      rename Fr _ _ _ _ => F5
      rename News _ _ _ _ => N5
      refine TurnEnd2.next F5 N5 (by walk_at "mem9") (by walk_at "mem9") (nx := nx) (by walk_at "sub9") hoff fun hs h => ?_
      exact ⟨hs _ hl2, l, ws, c2, rfl, hs _ hl3, ep ▸ hw.mono hs, hv2.mono hs, fun p hp => hs p (G p hp)⟩
    · have ep : polyF xs (i + 1) = qaddF (polyF xs i) (qscaleF (psL i (i + 1)) x) := by rw [polyF, if_neg (by rw [hnx]; exact h0), hnx]
      k_steps
      rename Fr _ _ _ _ => F5
      rename News _ _ _ _ => N5
      refine TurnEnd2.next F5 N5 (by walk_at "mem9") (by walk_at "mem9") (nx := nx) (by walk_at "sub9") hoff fun hs h => ?_
      exact ⟨hs _ hl2, d9, us9, n8, rfl, h _ (by walk_at "mem9") (en_ne_list hc1) (li_ne_list' hc2), ep ▸ hv8.mono' fun p hp hc => h p ((by walk_at "sub9" : ∀ p ∈ tl9, p ∈ _) p hp) (by rw [hc]; exact en_ne_tuple hc1) (by rw [hc]; exact li_ne_tuple hc2), hv2.mono hs, fun p hp => hs p (G p hp)⟩
  · intro m₁ nx h1 tk1 J F2 N2
    obtain ⟨l, ws, c2, e1, hl3, hw, hv2, G⟩ := J
    have hvl := hv.length
    rw [hvl] at hw
    replace F2 := fr_know F2 _ e1
    clear F1 N1
    k_steps
    exact hret _ _ _ _ (by assumption) (by assumption) (by walk_at "grows") ⟨_, rfl, _, _, hl3, hw⟩
section
open PySem PySem.W PyProof.Rows PySem.SeqAt PySem.Spec PySem.Calls
set_option maxHeartbeats 4000000
theorem CompTurn.done {h₀ : Heap} {L I C D : Addr} {m : Str → Option Value} {s₁ s₂ : Shared} {oI oC oD : Obj} {J : Value → Led → Prop} {y : Value} {S : Led → Prop} {rest : Value → Led → Prop}
    (r : CompTurn h₀ L m s₁ I oI C oC D oD J y s₂) (k : ∀ nx, J y nx → S nx ∧ rest y nx) : LCg.CompEnd h₀ L m s₁ I oI C oC D oD S rest y s₂ := by
  obtain ⟨h', tk', all, rfl, F', N', hI, hC', hD, hJ'⟩ := r
  refine LCg.CompEnd.intro F' N' (Off I (Off C (Off D all))) (fun p hp => ?_) off3_of (k _ hJ').1 (k _ hJ').2
  rcases List.mem_cons.mp hp with rfl | hp
  · exact hI
  · rcases List.mem_cons.mp hp with rfl | hp
    · exact hC'
    · rcases List.mem_cons.mp hp with rfl | hp
      · exact hD
      · exact off3_sub hp
theorem CompTurn.same {h₀ h' : Heap} {L I C D : Addr} {m : Str → Option Value} {s₁ : Shared} {oI oC oD : Obj} {J : Value → Led → Prop} {y : Value} {tk : Nat} {all nx : Led}
    (F : Fr h₀ L h' m) (N : News h₀ L h' all) (hs : ∀ p ∈ ((I, oI) :: (C, oC) :: (D, oD) :: nx), p ∈ all) (off : ∀ p ∈ nx, p.1 ≠ I ∧ p.1 ≠ C ∧ p.1 ≠ D)
    (hJ : ∀ l, (∀ p ∈ nx, p ∈ l) → J y l) : CompTurn h₀ L m s₁ I oI C oC D oD J y { s₁ with heap := h', toks := tk } :=
  CompTurn.intro F N (hs _ (.head _)) (hs _ (.tail _ (.head _))) (hs _ (.tail _ (.tail _ (.head _)))) (fun p hp => hs p (.tail _ (.tail _ (.tail _ hp)))) off fun h _ => hJ _ h
section
variable {prog : Program} {w : World} {A : Around} {E : Value → Shared → Prop} {s : Shared} {h₀ : Heap} {L : Addr} {m : Str → Option Value} {env : Env} {ct elt : Expr} {x : Str} {scope : Scope} {cl : List (Str × Addr)} {S : Led → Prop} {P : Nat → Value → Prop} {Fin : List Value → Led → Prop} {n : Nat}
theorem comp_restT (J : Nat → List Value → Led → Prop) (hS : ∀ i ys l, J i ys l → S l) (fin : ∀ ys nx, J n ys nx → Fin ys nx)
    (turn : ∀ i ys nx v I oI C oC D m₂ h tk E', i < n → J i ys nx → P i v → LCg.NsObj oC m₂ → m₂ x = some v → Fr h₀ L h m → News h₀ L h ((I, oI) :: (C, oC) :: (D, LCg.lst ys) :: nx) → (∀ p ∈ nx, p.1 ≠ I ∧ p.1 ≠ C ∧ p.1 ≠ D) → (I ≠ C ∧ I ≠ D ∧ C ≠ D) →
      wpAny (model prog w) A (isTrue ct (compEnvC scope cl C env) (eval ct (compEnvC scope cl C env))) (fun ok s' => if ok = true then
        wpAny (model prog w) A (eval elt (compEnvC scope cl C env)) (CompTurn h₀ L m { s with heap := h, toks := tk } I oI C oC D (LCg.lst ys) (fun y nx' => J (i + 1) (ys ++ [y]) nx')) E' s'
        else CompTurn h₀ L m { s with heap := h, toks := tk } I oI C oC D (LCg.lst ys) (fun _ nx' => J (i + 1) ys nx') Value.none s') E' { s with heap := h, toks := tk }) :
    ∀ k i ys nx, i + k = n → J i ys nx → LCt.CompRestT prog w A h₀ L m env ct elt x scope cl s S P Fin k i ys nx
  | 0, i, ys, nx, e, hJ => .zero (fin ys nx (by rw [← e]; exact hJ))
  | k + 1, i, ys, nx, e, hJ => by
    refine .succ fun v I oI C oC D m₂ h tk E' hP hC hx F N off ne => ?_
    refine wpAny_mono (turn i ys nx v I oI C oC D m₂ h tk E' (by omega) hJ hP hC hx F N off.mem ne) (fun ok s₂ r => ?_) fun _ _ e => e
    split at r
    · rename_i hok
      rw [if_pos hok]
      exact wpAny_mono r (fun y s₃ r => r.done fun nx' hJ' => ⟨hS _ _ _ hJ', comp_restT J hS fin turn k (i + 1) _ _ (by omega) hJ'⟩) fun _ _ e => e
    · rename_i hok
      rw [if_neg hok]
      exact r.done fun nx' hJ' => ⟨hS _ _ _ hJ', comp_restT J hS fin turn k (i + 1) _ _ (by omega) hJ'⟩
end
section
variable {prog : Program} {w : World} {A : Around} {s₁ : Shared} {h₀ : Heap} {L : Addr} {m : Str → Option Value} {env : Env} {ct elt : Expr} {x : Str} {scope : Scope} {cl : List (Str × Addr)} {Fin : Shared → List Value → Led → Prop} {news : Led}
theorem comp_listT {ax : Addr} {vs : List Value} {c : Nat} (J : Nat → List Value → Led → Prop) (hh : A.handled = none) (F : Fr h₀ L s₁.heap m) (N : News h₀ L s₁.heap news) (hm : (ax, listOf vs.toArray c) ∈ news) (hsz : vs.length ≤ sizeLine)
    (hj : J 0 [] news) (hJm : ∀ i ys nx, J i ys nx → (ax, listOf vs.toArray c) ∈ nx) (fin : ∀ g ys nx, J vs.length ys nx → Fin { s₁ with heap := g } ys nx)
    (turn : ∀ g i ys nx v I oI C oC D m₂ h tk E', vs[i]? = some v → J i ys nx → LCg.NsObj oC m₂ → m₂ x = some v → Fr h₀ L h m → News h₀ L h ((I, oI) :: (C, oC) :: (D, LCg.lst ys) :: nx) → (∀ p ∈ nx, p.1 ≠ I ∧ p.1 ≠ C ∧ p.1 ≠ D) → (I ≠ C ∧ I ≠ D ∧ C ≠ D) →
      wpAny (model prog w) A (isTrue ct (compEnvC scope cl C env) (eval ct (compEnvC scope cl C env))) (fun ok s' => if ok = true then
        wpAny (model prog w) A (eval elt (compEnvC scope cl C env)) (CompTurn h₀ L m { s₁ with heap := h, toks := tk } I oI C oC D (LCg.lst ys) (fun y nx' => J (i + 1) (ys ++ [y]) nx')) E' s'
        else CompTurn h₀ L m { s₁ with heap := h, toks := tk } I oI C oC D (LCg.lst ys) (fun _ nx' => J (i + 1) ys nx') Value.none s') E' { { s₁ with heap := g } with heap := h, toks := tk }) :
    LCt.CompSrcT prog w A h₀ L m env ct elt x scope cl Fin (.ref ax) s₁ := by
  refine LCt.CompSrcT.ledger hh F N hm (by simpa using hsz) fun g => ?_
  have e : vs.toArray.size = vs.length := by simp
  rw [e]
  refine comp_restT J (fun i ys l hJ => .inr ⟨_, hJm i ys l hJ, rfl, _, rfl⟩) (fin g) (fun i ys nx v I oI C oC D m₂ h tk E' hi hJ hP hC hx F N off ne => ?_) vs.length 0 [] news (by omega) hj
  exact turn g i ys nx v I oI C oC D m₂ h tk E' (by simpa using hP) hJ hC hx F N off ne
theorem comp_listT' {ax : Addr} {vs : List Value} {c : Nat} (J : Nat → List Value → Led → Prop) (hh : A.handled = none) (F : Fr h₀ L s₁.heap m) (N : News h₀ L s₁.heap news) (hm : (ax, listOf vs.toArray c) ∈ news) (hsz : vs.length ≤ sizeLine)
    (hj : J 0 [] news) (fin : ∀ g ys nx, J vs.length ys nx → Fin { s₁ with heap := g } ys nx)
    (turn : ∀ g i ys nx v I oI C oC D m₂ h tk E', vs[i]? = some v → (ax, listOf vs.toArray c) ∈ nx → J i ys nx → LCg.NsObj oC m₂ → m₂ x = some v → Fr h₀ L h m → News h₀ L h ((I, oI) :: (C, oC) :: (D, LCg.lst ys) :: nx) → (∀ p ∈ nx, p.1 ≠ I ∧ p.1 ≠ C ∧ p.1 ≠ D) → (I ≠ C ∧ I ≠ D ∧ C ≠ D) →
      wpAny (model prog w) A (isTrue ct (compEnvC scope cl C env) (eval ct (compEnvC scope cl C env))) (fun ok s' => if ok = true then
        wpAny (model prog w) A (eval elt (compEnvC scope cl C env)) (CompTurn h₀ L m { s₁ with heap := h, toks := tk } I oI C oC D (LCg.lst ys) (fun y nx' => (ax, listOf vs.toArray c) ∈ nx' ∧ J (i + 1) (ys ++ [y]) nx')) E' s'
        else CompTurn h₀ L m { s₁ with heap := h, toks := tk } I oI C oC D (LCg.lst ys) (fun _ nx' => (ax, listOf vs.toArray c) ∈ nx' ∧ J (i + 1) ys nx') Value.none s') E' { { s₁ with heap := g } with heap := h, toks := tk }) :
    LCt.CompSrcT prog w A h₀ L m env ct elt x scope cl Fin (.ref ax) s₁ :=
  comp_listT (fun i ys nx => (ax, listOf vs.toArray c) ∈ nx ∧ J i ys nx) hh F N hm hsz ⟨hm, hj⟩ (fun _ _ _ h => h.1) (fun g ys nx h => fin g ys nx h.2) fun g i ys nx v I oI C oC D m₂ h tk E' hv hJ => turn g i ys nx v I oI C oC D m₂ h tk E' hv hJ.1 hJ.2
end
section
variable {w : World} {A : Around} {E : Value → Shared → Prop} {s : Shared} {h₀ : Heap} {L d : Addr} {m : Str → Option Value} {news : Led} {o : Obj} {z y : Int} {t u tk tk2 : Tok} {Q : Value → Shared → Prop}
theorem kdn_made_mem (F : Fr h₀ L s.heap m) (N : News h₀ L s.heap news) (hp : (d, o) ∈ news) (hd : o.IsDictOf (strKind PySem.Challenge.pw_nn0248_01 w) [])
    (h : ∀ h' o', Fr h₀ L h' m → News h₀ L h' ((d, o') :: Off d news) → drawsD w o' z y t u → Q (.ref d) { s with heap := h', toks := s.toks + 2 }) :
    KdnMade PySem.Challenge.pw_nn0248_01 w (strKind PySem.Challenge.pw_nn0248_01 w) d Q [(.str (Str.ofString "great") tk, .int z t), (.str (Str.ofString "mixed") tk2, .int y u)] s := by
  have N' : News h₀ L s.heap ((d, o) :: Off d news) := by
    intro p hp'
    rcases List.mem_cons.mp hp' with rfl | hp'
    · exact N _ hp
    · exact N _ (Off.mem.mp hp').1
  exact kdn_made_str F N' (.head fun p hp => (Off.mem.mp hp).2) hd rfl (of_decide_eq_true (by rfl)) fun h' o' F' N' D => h h' o' F' N' D
theorem sum_mem {l : Addr} {vs : List Value} {ns : List Int} {c : Nat} (hh : A.handled = none) (F : Fr h₀ L s.heap m) (N : News h₀ L s.heap news) (hm : (l, listOf vs.toArray c) ∈ news) (hi : IntsAre vs ns)
    (h : ∀ h' tk t, Fr h₀ L h' m → News h₀ L h' news → Q (.int ns.sum t) { s with heap := h', toks := tk }) : wpAny (model PySem.Challenge.pw_nn0248_01 w) A (call (.builtin "sum") [.ref l]) Q E s := by
  have hL : s.heap.IsList l vs.toArray := ⟨_, (N _ hm).1, rfl, c, rfl⟩
  obtain ⟨xs, e⟩ := hi.allInts.items
  have e2 : numsOf vs = ns := hi.numsOf
  have e3 := nums_intItems xs
  rw [← e] at e3
  rw [e] at hL
  refine sum_intListG hh hL fun h' tk t' hk => ?_
  rw [preSum_eq, List.take_of_length_le (by simp), ← e3, show numsOf vs.toArray.toList = ns from e2]
  exact h h' tk t' (F.keeps hk) (N.grown hk)
end
end
theorem words17 : True := by
  k_with_none
  k_with "exec While Compare cons nil" => (k_here; refine Stop.out ?_)
  k_with "exec While BoolOp cons nil" => (k_here; refine Stop.out ?_)
  k_with "grows" => (first | exact Grows.refl | assumption | (refine Grows.cons ?_; walk_at "grows") | (refine Grows.app ?_; walk_at "grows"))
  k_with "sub9" => (first | exact (fun _ h9 => h9) | (intro p9 h9; simp only [List.mem_append, List.mem_cons, h9, or_true, true_or]; done))
  k_with "bits9" => (refine' Nat.le_trans ?b91 ?b92; (case b91 => bits_by_make); (case b92 => decide))
  k_with "binaryOp FloorDiv int int" => (k_here; (with_reducible refine floordiv_int ?n91 ?_ (Or.inl ?n92)); (case n91 => omega); (case n92 => first | assumption | exact PyProof.noPylong_small (by omega)))
  k_with "binaryOp Mod int int" => (k_here; (with_reducible refine mod_int' ?n91 ?_); (case n91 => omega))
  k_with "subscriptTail Name Constant ref int" => (k_here; k_dflt (first | ((with_reducible show wpAny _ _ (subscriptTail _ _ (Value.ref _) (Value.int 0 _)) _ _ _); refine' rat_item0 ?k1 ?k2 ?k3 ?k4 ?k5 ?_; (case k1 => k_asm); (case k2 => k_asm); (case k3 => k_asm); (case k4 => assumption); (case k5 => walk_at "sub9"); k_whole) | ((with_reducible show wpAny _ _ (subscriptTail _ _ (Value.ref _) (Value.int 1 _)) _ _ _); refine' rat_item1 ?k1 ?k2 ?k3 ?k4 ?k5 ?_; (case k1 => k_asm); (case k2 => k_asm); (case k3 => k_asm); (case k4 => assumption); (case k5 => walk_at "sub9"); k_whole)); intro t9; (try dsimp only))
  k_with "exec For Name Call cons nil" => (k_here; (rename Fr _ _ _ _ => lF'); (with_unfolding_all refine' For_invVF lF' ?k1 ?k2 ?_; (case k1 => exact rfl); (case k2 => exact rfl); k_whole))
  k_with "exec For Name Subscript cons nil" => (k_here; (rename Fr _ _ _ _ => lF'); (with_unfolding_all refine' For_invVF lF' ?k1 ?k2 ?_; (case k1 => exact rfl); (case k2 => exact rfl); k_whole))
  k_with "pyIter ref" => (k_here; refine Stop.out ?_)
  k_with "mem9" => (first | assumption | exact .head _ | (refine List.mem_append.mpr (.inl ?_); assumption) | (refine .tail _ ?_; walk_at "mem9") | (refine List.mem_append.mpr (.inr ?_); walk_at "mem9"))
  k_with "getMethod ref" => (k_here; (with_reducible show wpAny _ _ (getMethod (Value.ref _) (PySem.Str.ofString "append") _) _ _ _); k_dflt (refine' listMethod_K ?N ?m PySem.F.slot_list_append PySem.F.type_list_append ?_; (case N => k_asm); (case m => walk_at "mem9")))
  k_with "call builtin:list.append" => (k_here; (with_reducible show wpAny _ _ (call (Value.builtin _) [Value.ref _, _]) _ _ _); k_dflt (refine' append_mem ?k1 ?k2 ?k3 ?_ ?z; (case k1 => k_asm); (case k2 => k_asm); (case k3 => walk_at "mem9"); (case z => first | assumption | size_fits); k_whole); intro h9 F9 N9 hoff9; (try k_sweep))
  k_with "CompSrcT" => (k_here; refine Stop.out ?_)
  k_with "enterC9" => (refine' code_defC ?k1 ?k2 ?k3 ?k4 ?k5 ?kA ?kF ?kK ?k6 ?k7 ?k8 ?k9 ?kB ?kD ?_ ?c2 ?c3 ?c4; (case kA => exact rfl); (case kF => exact rfl); (case kK => assumption); (case k1 => k_asm); (case k2 => k_asm); (case k3 => k_asm); (case k4 => k_asm); (case k5 => k_asm); (case k6 => k_is); (case k7 => k_is); (case k8 => ktr_room); (case k9 => exact BindsTo.of_eq rfl); (case kB => exact rfl); (case kD => decide +kernel); (case c2 => exact rfl); (case c3 => exact rfl); (case c4 => exact rfl); k_whole; intro gC LC hC tkC cellsC FGC FC NC YC BC XC TC lC; (first | (obtain ⟨oA, hEC, dA⟩ := CellsAre.one YC; subst hEC) | (obtain ⟨oA, oB, hEC, dA, dB⟩ := CellsAre.two YC; subst hEC)); (try simp only [List.cons_append, List.nil_append] at NC); (try dsimp only); (try k_fold))
  k_with "CompSrc" => (k_here; refine Stop.out ?_)
  k_with "CompTurn" => (k_here; refine Stop.out ?_)
  k_with "eval Dict" => (k_here; k_dflt (refine' kdn_str ?q ?F ?N ?b ?a ?l ?e ?n ?_; (case q => rfl); (case F => k_asm); (case N => k_asm); (case b => exact Top.nolimit (by k_asm)); (case a => rfl); (case l => rfl); (case e => exact List.cons_ne_nil _ _); (case n => exact Nat.le_of_ble_eq_true rfl)); intro d9 h9 o9 F9 N9 l9 lo9 hD9)
  k_with "KdnMade" => (k_here; k_dflt (refine' kdn_made_mem ?F ?N ?p ?d ?_; (case F => k_asm); (case N => k_asm); (case p => walk_at "mem9"); (case d => assumption)); intro h9 o8 F9 N9 hd8)
  k_with "call builtin:sum" => (k_here; k_dflt (refine' sum_mem ?h ?F ?N ?m ?i ?_; (case h => exact rfl); (case F => k_asm); (case N => k_asm); (case m => walk_at "mem9"); (case i => assumption)); intro h9 tk9 t9 F9 N9; (try k_sweep))
  trivial
theorem ints_at {ws : List Value} {zs : List Int} (h : IntsAre ws zs) : ∀ {i : Nat} {v : Value}, ws[i]? = some v → ∃ z t, v = .int z t := by
  induction h with
  | nil => intro i v e; simp at e
  | cons z t _ ih =>
    intro i v e
    cases i with
    | zero => simp at e; exact ⟨_, _, e.symm⟩
    | succ i => exact ih (by simpa using e)
theorem sum_snoc {zs : List Int} {y : Int} (h : ∀ z ∈ zs, 0 ≤ z) (hy : 0 ≤ y) : ∀ z ∈ zs ++ [y], 0 ≤ z := fun z hz => by
  rcases List.mem_append.mp hz with h1 | h1
  · exact h z h1
  · rw [List.mem_singleton.mp h1]; exact hy
theorem sum_nonneg : ∀ {zs : List Int}, (∀ z ∈ zs, 0 ≤ z) → 0 ≤ zs.sum
  | [], _ => by simp
  | z :: zs, h => by
    have h1 := h z (.head _)
    have h2 := sum_nonneg fun y hy => h y (.tail z hy)
    rw [List.sum_cons]; omega
def sumJ (news : Led) (i : Nat) (ys : List Value) (nx : Led) : Prop := ∃ zs, IntsAre ys zs ∧ (∀ z ∈ zs, 0 ≤ z) ∧ zs.length ≤ i ∧ Grows news nx
def mixJ (l : Addr) (i : Nat) (m : Str → Option Value) (news nx : Led) : Prop :=
  ∃ z t, m (Str.ofString "script") = some (Value.ref l) ∧ m (Str.ofString "mixed_here") = some (Value.int z t) ∧ 0 ≤ z ∧ z < 2147483647 ∧ Grows news nx
theorem draws_says (l : Addr) (vs : List Value) (ns : List Int) (hlen : ns.length ≤ 1048576) : SaysW 135 2 (fun _ h₀ _ => h₀.IsList l vs.toArray ∧ IntsAre vs ns) [.ref l] (fun w news all r => Grows news all ∧ ∃ d, r = .ref d ∧ DrawsAt w all d) := by
  intro w mean mg mb dp un gd cn cs ca ccd cl outer A₀ base h₀ L m news s Q E B F X N T hk hR hd hu hret
  obtain ⟨hL, hns⟩ := hR
  refine wpAny_call ?_
  k_dflt ktr_enter
  rename Fr h₀ L _ m => FG
  replace hL := FG.lst hL
  k_steps
  refine Stop.mk ?_
  rename Fr _ _ _ _ => F1
  rename News _ _ _ _ => N1
  rename IntsAre _ (List.take _ ns) => hw
  refine' loop_list (fun i m nx => mixJ l i m news nx) rfl (.head _) F1 N1 ?_ ?_ ?_
  · exact ⟨_, _, rfl, rfl, by decide, by decide, by walk_at "grows"⟩
  · intro i v m₁ nx h1 tk1 I oI hi J hlm hoI hoff F2 N2
    obtain ⟨z, t, e1, e2, hz1, hz2, G⟩ := J
    obtain ⟨y, u, rfl⟩ := ints_at hw hi
    replace F2 := fr_know (fr_know F2 (Str.ofString "script") e1) (Str.ofString "mixed_here") e2
    clear F1 N1
    k_steps
    rename Fr _ _ _ _ => F5
    rename News _ _ _ _ => N5
    exact TurnEnd.next F5 N5 (by walk_at "mem9") fun h => ⟨h _ (by walk_at "mem9") (li_ne_list' hoI), _, _, rfl, rfl, Int.fmod_nonneg_of_pos _ (by omega), Int.fmod_lt_of_pos _ (by omega), Grows.off (by walk_at "grows") fun q hq => hoff q (G q hq)⟩
  · intro m₁ nx h1 tk1 J F2 N2
    obtain ⟨z, t, e1, e2, hz1, hz2, G⟩ := J
    replace F2 := fr_know (fr_know F2 (Str.ofString "script") e1) (Str.ofString "mixed_here") e2
    clear F1 N1
    k_steps
    refine Stop.mk ?_
    rename Fr _ _ _ _ => F1
    rename News _ _ _ _ => N1
    rename IntsAre _ (List.take _ ns) => hw2
    have hwl := hw2.length
    rw [List.length_take] at hwl
    have hfr : ∀ q ∈ news, q.1 ≠ d9 := fun q hq => Nat.ne_of_lt (l9 q (G q hq))
    refine' comp_listT' (fun i ys nx2 => (d9, o9) ∈ nx2 ∧ sumJ news i ys nx2) rfl F1 N1 (.head _) ?hk ?_ ?_ ?_
    case hk => rw [sizeLine_eq]; omega
    · exact ⟨by walk_at "mem9", [], .nil, (fun _ h => by cases h), Nat.le_refl _, by walk_at "grows"⟩
    · rintro g ys nx2 ⟨hm9, zs, hz, hz0, hzl, G2⟩
      unfold LCg.FinE
      intro D h tk F2 N2 o1
      clear F1 N1 hw2 G
      have hz9 : zs.length ≤ 24 := by omega
      k_steps
      refine kdn_made_mem (by assumption) (by assumption) (by walk_at "mem9") hD9 fun h8 o8 F8 N8 hd8 => ?_
      k_steps
      exact hret _ _ _ _ (by assumption) (by assumption) ⟨((by walk_at "grows" : Grows news _).off hfr).cons, _, rfl, o8, _, _, _, _, .head _, hd8, sum_nonneg hz0, hz1, hz2⟩
    · rintro g i ys nx2 v I oI C oC D m₂ h tk E' hi hm ⟨hm9, zs, hz, hz0, hzl, G2⟩ hoC hm₂ F2 N2 off ne
      obtain ⟨y, u, rfl⟩ := ints_at hw2 hi
      clear F1 N1
      k_steps
      · refine Stop.mk ?_
        rename Fr _ _ _ _ => F5
        rename News _ _ _ _ => N5
        exact CompTurn.same F5 N5 (by walk_at "sub9") off fun l hs => ⟨hs _ hm, hs _ hm9, zs ++ [_], hz.append (.cons _ _ .nil), sum_snoc hz0 (by split <;> omega), by rw [List.length_append]; exact Nat.succ_le_succ hzl, fun p hp => hs p (G2 p hp)⟩
      · refine Stop.mk ?_
        rename Fr _ _ _ _ => F5
        rename News _ _ _ _ => N5
        exact CompTurn.same F5 N5 (by walk_at "sub9") off fun l hs => ⟨hs _ hm, hs _ hm9, zs, hz, hz0, Nat.le_succ_of_le hzl, fun p hp => hs p (G2 p hp)⟩
section
open PySem PySem.W PyProof.Rows PySem.SeqAt PySem.Spec PySem.Calls
set_option maxHeartbeats 4000000
theorem Off.data {I : Addr} {oI : Obj} {v₀ : Option Value} {news : Led} {h₀ h : Heap} {L : Addr} (N : News h₀ L h news) (hI : (I, oI) ∈ news) (hd : oI.data = .cell v₀) : ∀ p ∈ news, (∀ v, p.2.data ≠ .cell v) → p ∈ Off I news := by
  intro p hp hc
  refine Off.mem.mpr ⟨hp, fun e => hc v₀ ?_⟩
  have h1 := (N _ hp).1
  have h2 := (N _ hI).1
  rw [e] at h1
  rw [h1] at h2
  rw [Option.some.inj h2]; exact hd
section
variable {M : Model} {A : Around} {E : Value → Shared → Prop} {s : Shared} {h₀ : Heap} {L a : Addr} {m : Str → Option Value} {cn : Str} {cs : Scope} {ccd : Value} {cl : List (Str × Addr)}
  {x : Str} {v : Value} {Q : Unit → Shared → Prop} {news : Led} {c : Addr} {o : Obj} {v₀ : Option Value}
theorem cell_store (F : Fr h₀ L s.heap m) (N : News h₀ L s.heap news) (hc : cl.lookup x = some c) (hp : (c, o) ∈ news) (hd : o.data = .cell v₀)
    (h : ∀ h' o', Fr h₀ L h' m → News h₀ L h' ((c, o') :: Off c news) → o'.data = .cell (some v) → (∀ p ∈ news, (∀ v, p.2.data ≠ .cell v) → p ∈ Off c news) → Q () { s with heap := h' })
    (hk : cs.kind = .function := by rfl) (hx : (envX cn cs L a ccd cl).kindOf x = some .cell := by rfl) : wpAny M A (storeName (envX cn cs L a ccd cl) x v) Q E s := by
  have N' : News h₀ L s.heap ((c, o) :: Off c news) := by
    intro p hp'
    rcases List.mem_cons.mp hp' with rfl | hp'
    · exact N _ hp
    · exact N _ (Off.mem.mp hp').1
  exact storeX_C F N' hc (.head fun p hp => (Off.mem.mp hp).2) hd (fun h' o' F' N9 hd' => h h' o' F' N9 hd' (Off.data N hp hd)) hk hx
end
def CompSrcS (prog : Program) (w : World) (A : Around) (h₀ : Heap) (L : Addr) (m : Str → Option Value) (env : Env) (ct elt : Expr) (x : Str) (scope : Scope) (cl : List (Str × Addr)) (Fin : Shared → List Value → Led → Prop) (xv : Value) (s₁ : Shared) : Prop :=
  ∃ r a b c t u v n news, xv = .ref r ∧ A.handled = none ∧ Fr h₀ L s₁.heap m ∧ News h₀ L s₁.heap news ∧ IsRange s₁.heap r a b c t u v ∧ Builtin.Range.small a b c = true ∧ Builtin.Range.rangeSize a b c = ((n : Nat) : Int) ∧ n ≤ sizeLine ∧
    ∀ g, LCt.CompRestT prog w A h₀ L m env ct elt x scope cl { s₁ with heap := g } (fun _ => True) (fun i v => ∃ t, v = .int (a + (i : Int) * c) t) (Fin { s₁ with heap := g }) n 0 [] news
section
variable {prog : Program} {w : World} {A : Around} {E : Value → Shared → Prop} {s : Shared} {h₀ : Heap} {L : Addr} {m : Str → Option Value} {env : Env}
theorem ListComp_S {ct elt iter : Expr} {x : Str} {px : Pos} {scope : Scope} {cl : List (Str × Addr)} {pos : Pos} {Q : Value → Shared → Prop} (_F : Fr h₀ L s.heap m)
    (hclos : closureFor scope env = pure cl) (hcell : ∀ y ∈ scope.names, y.2 ≠ .cell) (hkind : scope.kind = .function)
    (hnames : ∀ y ∈ scope.names, y.2 = .local → scope.names.lookup y.1 = some .local) (hx : scope.names.lookup x = some .local)
    (h : wpAny (model prog w) A (eval iter env) (CompSrcS prog w A h₀ L m env ct elt x scope cl (fun s₂ => LCg.FinE h₀ L m s₂ Q)) E s)
    (hs : ∀ x, foldedSetIterable iter env x = pure x := by intro _; rfl) :
    wpAny (model prog w) A (eval (.ListComp elt [⟨.Name x px, iter, [ct], 0⟩] scope pos) env) Q E s := by
  rw [eval_ListComp]
  refine wpAny_comprehension_free (use := none) rfl hs hclos hkind hnames (wpAny_mono h (fun xv s₁ r => ?_) fun _ _ e => e)
  obtain ⟨r, a, b, c, t, u, v, n, news, rfl, hh, F, N, hr, hsm, hn, hsz, R⟩ := r
  refine wpAny_pyIter_range hr hsm (LCt.block_T (Walks.range hh s₁.heap.objs.size a c n) hsz (fun i h st => ⟨_, st⟩) (fun i h h' o nw st e e' _ _ _ => ?_) hcell hkind hx ?_ (fun b hb => ?_)
    (F.push _) (N.grown fun _ _ e => Heap.get?_push_of_some _ e) (Nat.ne_of_lt F.ns.lt) (next_is_new F) (fun p hp => Nat.ne_of_lt (Heap.lt_size (N p hp).1)) trivial (R _) fun D C h tk m' ys news' F' N' o1 hns hC hD hCL hDL hCD off fin => ?_)
  · have q : h.get? s₁.heap.objs.size = some _ := st
    show h'.get? s₁.heap.objs.size = some _
    rw [e', ← e, q]
  · show IsRangeIter _ _ _ _ _
    rw [hn]
    simpa using Heap.get?_push_size _ rfl
  · rw [List.mem_singleton.mp hb]
    show s₁.heap.objs.size < (s₁.heap.push _).objs.size
    rw [Heap.size_push]; exact Nat.lt_succ_self _
  · refine ⟨m', hns, fun g hg => fin D g tk (F'.change hg hCL hC) (fun p hp => ⟨hg.extBut _ _ ?_ (N' p hp).1, (N' p hp).2⟩) o1⟩
    rcases List.mem_cons.mp hp with rfl | hp
    · exact hCD.symm
    · exact off p hp
theorem comp_rangeS {ct elt : Expr} {x : Str} {scope : Scope} {cl : List (Str × Addr)} {Fin : Shared → List Value → Led → Prop} {news : Led} {s₁ : Shared} {r : Addr} {a b c : Int} {t u v : Tok} {n : Nat} (J : Nat → List Value → Led → Prop) (hh : A.handled = none) (F : Fr h₀ L s₁.heap m) (N : News h₀ L s₁.heap news)
    (hr : IsRange s₁.heap r a b c t u v) (hsm : Builtin.Range.small a b c = true) (hn : Builtin.Range.rangeSize a b c = ((n : Nat) : Int)) (hsz : n ≤ sizeLine)
    (hj : J 0 [] news) (fin : ∀ g ys nx, J n ys nx → Fin { s₁ with heap := g } ys nx)
    (turn : ∀ g i ys nx t I oI C oC D m₂ h tk E', i < n → J i ys nx → LCg.NsObj oC m₂ → m₂ x = some (.int (a + (i : Int) * c) t) → Fr h₀ L h m → News h₀ L h ((I, oI) :: (C, oC) :: (D, LCg.lst ys) :: nx) → (∀ p ∈ nx, p.1 ≠ I ∧ p.1 ≠ C ∧ p.1 ≠ D) → (I ≠ C ∧ I ≠ D ∧ C ≠ D) →
      wpAny (model prog w) A (isTrue ct (compEnvC scope cl C env) (eval ct (compEnvC scope cl C env))) (fun ok s' => if ok = true then
        wpAny (model prog w) A (eval elt (compEnvC scope cl C env)) (CompTurn h₀ L m { s₁ with heap := h, toks := tk } I oI C oC D (LCg.lst ys) (fun y nx' => J (i + 1) (ys ++ [y]) nx')) E' s'
        else CompTurn h₀ L m { s₁ with heap := h, toks := tk } I oI C oC D (LCg.lst ys) (fun _ nx' => J (i + 1) ys nx') Value.none s') E' { { s₁ with heap := g } with heap := h, toks := tk }) :
    CompSrcS prog w A h₀ L m env ct elt x scope cl Fin (.ref r) s₁ := by
  refine ⟨r, a, b, c, t, u, v, n, news, rfl, hh, F, N, hr, hsm, hn, hsz, fun g => ?_⟩
  refine comp_restT J (fun _ _ _ _ => trivial) (fin g) (fun i ys nx v I oI C oC D m₂ h tk E' hi hJ hP hC hx F N off ne => ?_) n 0 [] news (by omega) hj
  obtain ⟨t, rfl⟩ := hP
  exact turn g i ys nx t I oI C oC D m₂ h tk E' hi hJ hC hx F N off ne
end
theorem nil_ne_nil {prog : Program} {w : World} {A : Around} {E : Value → Shared → Prop} {s : Shared} {h₀ : Heap} {L l b : Addr} {m : Str → Option Value} {news : Led} {c c2 : Nat} {Q : Value → Shared → Prop} (F : Fr h₀ L s.heap m) (X : (hd.heap_39 w.params).In h₀) (N : News h₀ L s.heap news) (hl : (l, listOf ([] : List Value).toArray c) ∈ news) (hb : (b, listOf #[] c2) ∈ news) (hu : A.units + 64 < cLine)
    (h : Q (.bool false) s) : wpAny (model prog w) A (compareOp .NotEq (.ref l) (.ref b)) Q E s :=
  rats_ne_nil (l' := []) (xs := []) F X N hl .nil (fun _ h => nomatch h) hb hu h
theorem rsz2 : ∀ k : Nat, k < 10 → Builtin.Range.rangeSize 3 ((k : Int) + 1) 2 = (((k - 1) / 2 : Nat) : Int) ∧ Builtin.Range.small 3 ((k : Int) + 1) 2 = true := by decide +kernel
theorem ints_item {prog : Program} {w : World} {A : Around} {E : Value → Shared → Prop} {s : Shared} {h₀ : Heap} {L l : Addr} {m : Str → Option Value} {news : Led} {vs : List Value} {c : Nat} {z : Int} {u : Tok} {ns : List Int} {value slice : PySem.Expr} {Q : Value → Shared → Prop} (F : Fr h₀ L s.heap m) (N : News h₀ L s.heap news) (hl : (l, listOf vs.toArray c) ∈ news) (R : IntsAre vs ns) (h0 : 0 ≤ z) (h1 : z < (ns.length : Int)) (h2 : ns.length < 1000000)
    (h : ∀ t, Q (.int (ns.getD z.toNat 0) t) s)
    (he : subscripted slice false (.ref l) (.int z u) = operate [.ref l, .int z u] (getItem (.ref l) (.int z u)) := by with_unfolding_all rfl) :
    wpAny (model prog w) A (subscriptTail value slice (.ref l) (.int z u)) Q E s := by
  obtain ⟨k, rfl⟩ : ∃ k : Nat, z = (k : Int) := ⟨z.toNat, by omega⟩
  exact ints_item_nat F N hl R (by omega) h2 (by simpa only [Int.toNat_natCast] using h) he
theorem ints_len {prog : Program} {w : World} {A : Around} {E : Value → Shared → Prop} {s : Shared} {h₀ : Heap} {L l : Addr} {news : Led} {vs : List Value} {c : Nat} {ns : List Int} {Q : Value → Shared → Prop} (N : News h₀ L s.heap news) (hl : (l, listOf vs.toArray c) ∈ news) (R : IntsAre vs ns) (hs : ns.length < 1000000)
    (h : Q (.int (ns.length : Nat) (s.toks + 1)) { s with toks := s.toks + 1 + 1 }) : wpAny (model prog w) A (call (.builtin "len") [.ref l]) Q E s := by
  have hL : s.heap.IsList l vs.toArray := ⟨_, (N _ hl).1, rfl, c, rfl⟩
  refine len_list hL (by rw [List.size_toArray, R.length]; omega) ?_
  rw [List.size_toArray, R.length]
  exact h
theorem ints_ne_same {prog : Program} {w : World} {A : Around} {E : Value → Shared → Prop} {s : Shared} {h₀ : Heap} {L l b : Addr} {news : Led} {vs us : List Value} {c c2 : Nat} {ns ms : List Int} {Q : Value → Shared → Prop} (N : News h₀ L s.heap news) (hl : (l, listOf vs.toArray c) ∈ news) (hi : IntsAre vs ns) (hb : (b, listOf us.toArray c2) ∈ news) (hi2 : IntsAre us ms) (hu : A.units + 64 < cLine) (e : ns = ms)
    (h : Q (.bool false) s) : wpAny (model prog w) A (compareOp .NotEq (.ref l) (.ref b)) Q E s := by
  refine ne_intsK ⟨_, (N _ hl).1, rfl, c, rfl⟩ hi ⟨_, (N _ hb).1, rfl, c2, rfl⟩ hi2 hu ?_
  rw [decide_eq_true e]
  exact h
def pasL : Nat → List Int
  | 0 => [1]
  | i + 1 => [1] ++ ((List.range i).map fun j => (pasL i).getD j 0 + (pasL i).getD (j + 1) 0) ++ [1]
theorem pasL_length : ∀ i, (pasL i).length = i + 1
  | 0 => rfl
  | i + 1 => by rw [pasL]; simp
def numF (k : Nat) : Nat → Int × Int
  | 0 => (0, 1)
  | i + 1 => ((numF k i).1 * ((bernL k).getD i (0, 1)).2 + (pasL (k + 1)).getD i 0 * ((bernL k).getD i (0, 1)).1 * (numF k i).2, (numF k i).2 * ((bernL k).getD i (0, 1)).2)
def small200 (z : Int) : Bool := decide (z.natAbs < 2 ^ 200)
theorem small200.bits {z : Int} (h : small200 z = true) : bits z ≤ 200 := intBits_le_iff.mpr (of_decide_eq_true h)
def numOk : Bool := (List.range 10).all fun k => (k == 0 || decide ((numF k (k + 1)).1 = 0)) && (List.range (k + 1)).all fun i => small200 (numF k i).1 && small200 (numF k i).2 && small200 ((pasL (k + 1)).getD i 0) && goodR ((bernL k).getD i (0, 1))
theorem numOk_true : numOk = true := by decide +kernel
theorem num_good {k : Nat} (hk : k < 10) : (k = 0 ∨ (numF k (k + 1)).1 = 0) ∧ ∀ i, i < k + 1 → bits (numF k i).1 ≤ 200 ∧ bits (numF k i).2 ≤ 200 ∧ bits ((pasL (k + 1)).getD i 0) ≤ 200 ∧ BR 60 ((bernL k).getD i (0, 1)) := by
  have h := numOk_true
  unfold numOk at h
  have h1 := List.all_eq_true.mp h k (List.mem_range.mpr hk)
  simp only [Bool.and_eq_true, Bool.or_eq_true, decide_eq_true_eq, beq_iff_eq] at h1
  refine ⟨h1.1, fun i hi => ?_⟩
  have h2 := List.all_eq_true.mp h1.2 i (List.mem_range.mpr hi)
  simp only [Bool.and_eq_true] at h2
  exact ⟨small200.bits h2.1.1.1, small200.bits h2.1.1.2, small200.bits h2.1.2, goodR.br h2.2⟩
theorem pas_bin : ∀ k : Nat, k < 10 → pasL (k + 1) = binL (k + 1) (k + 1) := by decide +kernel
def Joined (h₀ : Heap) (L : Addr) (m : Str → Option Value) (s : Shared) (news : Led) (f : Flow) (s' : Shared) : Prop :=
  f = .next ∧ ∃ h' tk nx, s' = { s with heap := h', toks := tk } ∧ Fr h₀ L h' m ∧ News h₀ L h' nx ∧ Grows news nx
theorem Joined.intro {h₀ h' : Heap} {L : Addr} {m : Str → Option Value} {s : Shared} {news nx : Led} {tk : Nat} (F : Fr h₀ L h' m) (N : News h₀ L h' nx) (G : Grows news nx) : Joined h₀ L m s news .next { s with heap := h', toks := tk } := ⟨rfl, h', tk, nx, rfl, F, N, G⟩
theorem joined {M : Model} {A : Around} {E : Value → Shared → Prop} {st : Stmt} {rest : List Stmt} {env : Env} {Q : Flow → Shared → Prop} {h₀ : Heap} {L : Addr} {m : Str → Option Value} {s s₀ : Shared} {news : Led}
    (h : wpAny M A (exec st env) (Joined h₀ L m s₀ news) E s) (k : ∀ h' tk nx, Fr h₀ L h' m → News h₀ L h' nx → Grows news nx → wpAny M A (execs rest env) Q E { s₀ with heap := h', toks := tk }) : wpAny M A (execs (st :: rest) env) Q E s := by
  refine wpAny_execs_cons (wpAny_mono h (fun f s' r => ?_) fun _ _ e => e)
  obtain ⟨rfl, h', tk, nx, rfl, F, N, G⟩ := r
  exact k h' tk nx F N G
def Seqs (l l' : Led) : Prop := ∀ p ∈ l, (∀ v, p.2.data ≠ .cell v) → p ∈ l'
theorem Rats.seqs {l l' : Led} {vs : List Value} {xs : List (Int × Int)} (h : Rats l vs xs) (hs : Seqs l l') : Rats l' vs xs := by
  induction h with
  | nil => exact .nil
  | cons h _ ih =>
    refine .cons ?_ ih
    rcases h with ⟨t, u, n, h⟩ | h
    · exact .inl ⟨t, u, n, hs _ h (by simp)⟩
    · exact .inr h
theorem ints_snoc1 {vs : List Value} {ns : List Int} (h : IntsAre vs ns) (z : Int) (t : Tok) : IntsAre (vs ++ [.int z t]) (ns ++ [z]) := h.append (.cons z t .nil)
end
theorem words18 : True := by
  k_with_none
  k_with "exec While Compare cons nil" => (k_here; refine Stop.out ?_)
  k_with "exec While BoolOp cons nil" => (k_here; refine Stop.out ?_)
  k_with "grows" => (first | exact Grows.refl | assumption | (refine Grows.cons ?_; walk_at "grows") | (refine Grows.app ?_; walk_at "grows"))
  k_with "sub9" => (first | exact (fun _ h9 => h9) | (intro p9 h9; simp only [List.mem_append, List.mem_cons, h9, or_true, true_or]; done))
  k_with "bits9" => (refine' Nat.le_trans ?b91 ?b92; (case b91 => bits_by_make); (case b92 => decide))
  k_with "binaryOp FloorDiv int int" => (k_here; (with_reducible refine floordiv_int ?n91 ?_ (Or.inl ?n92)); (case n91 => omega); (case n92 => first | assumption | exact PyProof.noPylong_small (by omega)))
  k_with "binaryOp Mod int int" => (k_here; (with_reducible refine mod_int' ?n91 ?_); (case n91 => omega))
  k_with "subscriptTail Name Constant ref int" => (k_here; k_dflt (first | ((with_reducible show wpAny _ _ (subscriptTail _ _ (Value.ref _) (Value.int 0 _)) _ _ _); refine' rat_item0 ?k1 ?k2 ?k3 ?k4 ?k5 ?_; (case k1 => k_asm); (case k2 => k_asm); (case k3 => k_asm); (case k4 => assumption); (case k5 => walk_at "sub9"); k_whole) | ((with_reducible show wpAny _ _ (subscriptTail _ _ (Value.ref _) (Value.int 1 _)) _ _ _); refine' rat_item1 ?k1 ?k2 ?k3 ?k4 ?k5 ?_; (case k1 => k_asm); (case k2 => k_asm); (case k3 => k_asm); (case k4 => assumption); (case k5 => walk_at "sub9"); k_whole)); intro t9; (try dsimp only))
  k_with "exec For Name Call cons nil" => (k_here; (rename Fr _ _ _ _ => lF'); (with_unfolding_all refine' For_invVF lF' ?k1 ?k2 ?_; (case k1 => exact rfl); (case k2 => exact rfl); k_whole))
  k_with "exec For Name Subscript cons nil" => (k_here; (rename Fr _ _ _ _ => lF'); (with_unfolding_all refine' For_invVF lF' ?k1 ?k2 ?_; (case k1 => exact rfl); (case k2 => exact rfl); k_whole))
  k_with "pyIter ref" => (k_here; refine Stop.out ?_)
  k_with "mem9" => (first | assumption | exact .head _ | (refine List.mem_append.mpr (.inl ?_); assumption) | (refine .tail _ ?_; walk_at "mem9") | (refine List.mem_append.mpr (.inr ?_); walk_at "mem9"))
  k_with "getMethod ref" => (k_here; (with_reducible show wpAny _ _ (getMethod (Value.ref _) (PySem.Str.ofString "append") _) _ _ _); k_dflt (refine' listMethod_K ?N ?m PySem.F.slot_list_append PySem.F.type_list_append ?_; (case N => k_asm); (case m => walk_at "mem9")))
  k_with "call builtin:list.append" => (k_here; (with_reducible show wpAny _ _ (call (Value.builtin _) [Value.ref _, _]) _ _ _); k_dflt (refine' append_mem ?k1 ?k2 ?k3 ?_ ?z; (case k1 => k_asm); (case k2 => k_asm); (case k3 => walk_at "mem9"); (case z => first | assumption | size_fits); k_whole); intro h9 F9 N9 hoff9; (try k_sweep))
  k_with "rats9" => (first | assumption | exact Rats.mono (by assumption) (by walk_at "sub9"))
  k_with "rat9" => (first | assumption | exact RatAt.mono (by assumption) (by walk_at "sub9") | (have hq9 := ratTop (by assumption); assumption) | exact RatAt.mk (by walk_at "mem9") | exact RatAt.zero)
  k_with "subscriptTail Name Name ref int" => (k_here; (with_reducible show wpAny _ _ (subscriptTail _ _ (Value.ref _) (Value.int _ _)) _ _ _); k_dflt (first | (refine' ints_item_nat ?k1 ?k2 ?k3 ?k4 ?k5 ?k6 ?_; (case k1 => k_asm); (case k2 => k_asm); (case k3 => walk_at "mem9"); (case k4 => assumption); (case k5 => omega); (case k6 => omega); k_whole; intro t9; (try dsimp only)) | (refine' rats_item_nat ?k1 ?k2 ?k3 ?k4 ?k5 ?k6 ?_; (case k1 => k_asm); (case k2 => k_asm); (case k3 => walk_at "mem9"); (case k4 => assumption); (case k5 => omega); (case k6 => omega); k_whole; intro a9 R9; (try dsimp only))))
  k_with "subscriptTail Name BinOp ref int" => (k_here; (with_reducible show wpAny _ _ (subscriptTail _ _ (Value.ref _) (Value.int _ _)) _ _ _); k_dflt (refine' rats_item ?k1 ?k2 ?k3 ?k4 ?k5 ?k6 ?k7 ?_; (case k1 => k_asm); (case k2 => k_asm); (case k3 => walk_at "mem9"); (case k4 => assumption); (case k5 => omega); (case k6 => omega); (case k7 => omega); k_whole; intro a9 R9; (try simp only [tn3] at R9); (try dsimp only)))
  k_with "subscriptTail Name Slice ref ref" => (k_here; (with_reducible show wpAny _ _ (subscriptTail _ (PySem.Expr.Slice none none (some _) _) (Value.ref _) (Value.ref _)) _ _ _); k_dflt (refine' krv_lit ?F ?N (News.isList ?N1 ?l) ?k ?e ?_ ?s ?t ?z; (case F => k_asm); (case N => k_asm); (case N1 => k_asm); (case l => walk_at "mem9"); (case k => exact IsPart.int _ _); (case e => exact rfl); (case s => with_unfolding_all rfl); (case t => kmk_pure); (case z => first | assumption | kmk_size)); intro D9 h9 F9 N9 l1; (try k_sweep))
  k_with "call builtin:len" => (k_here; (with_reducible show wpAny _ _ (call (Value.builtin "len") [Value.ref _]) _ _ _); k_dflt (refine' rats_len ?k2 ?k3 ?k4 ?k5 ?_; (case k2 => k_asm); (case k3 => walk_at "mem9"); (case k4 => assumption); (case k5 => omega); k_whole; (try dsimp only)))
  k_with "subscriptTail Name UnaryOp ref int" => (k_here; (with_reducible show wpAny _ _ (subscriptTail _ _ (Value.ref _) (Value.int _ _)) _ _ _); k_dflt (refine' rats_last ?k2 ?k3 ?k4 ?k5 ?k6 ?_; (case k2 => k_asm); (case k3 => walk_at "mem9"); (case k4 => assumption); (case k5 => omega); (case k6 => omega); k_whole; intro a9 R9; (try dsimp only)))
  k_with "units9" => (exact units64 rfl (by assumption) (by decide))
  k_with "compareOp NotEq ref ref" => (k_here; (with_reducible show wpAny _ _ (compareOp CmpOp.NotEq (Value.ref _) (Value.ref _)) _ _ _); k_dflt (first | (refine' rat_ne_same ?k1 ?k2 ?k3 ?k4 ?k5 ?k6 ?k7 ?k8 ?k9 ?_; (case k1 => k_asm); (case k2 => k_asm); (case k3 => k_asm); (case k4 => walk_at "ratl9"); (case k5 => walk_at "sub9"); (case k6 => walk_at "ratl9"); (case k7 => walk_at "sub9"); (case k8 => walk_at "units9"); (case k9 => assumption); k_whole)))
  k_with "ratl9" => (first | assumption | (have hq9 := ratTop (by assumption); assumption))
  k_with "CompSrcT" => (k_here; refine Stop.out ?_)
  k_with "enterC9" => (refine' code_defC ?k1 ?k2 ?k3 ?k4 ?k5 ?kA ?kF ?kK ?k6 ?k7 ?k8 ?k9 ?kB ?kD ?_ ?c2 ?c3 ?c4; (case kA => exact rfl); (case kF => exact rfl); (case kK => assumption); (case k1 => k_asm); (case k2 => k_asm); (case k3 => k_asm); (case k4 => k_asm); (case k5 => k_asm); (case k6 => k_is); (case k7 => k_is); (case k8 => ktr_room); (case k9 => exact BindsTo.of_eq rfl); (case kB => exact rfl); (case kD => decide +kernel); (case c2 => exact rfl); (case c3 => exact rfl); (case c4 => exact rfl); k_whole; intro gC LC hC tkC cellsC FGC FC NC YC BC XC TC lC; (first | (obtain ⟨oA, hEC, dA⟩ := CellsAre.one YC; subst hEC) | (obtain ⟨oA, oB, hEC, dA, dB⟩ := CellsAre.two YC; subst hEC)); (try simp only [List.cons_append, List.nil_append] at NC); (try dsimp only); (try k_fold))
  k_with "CompSrc" => (k_here; refine Stop.out ?_)
  k_with "CompTurn" => (k_here; refine Stop.out ?_)
  k_with "ne9" => (assumption)
  k_with "ratl8" => (first | assumption | (have hq9 := ratTop (by assumption); assumption) | exact RatAt.zero (l := []))
  k_with "compareOp NotEq ref ref" => (k_here; (with_reducible show wpAny _ _ (compareOp CmpOp.NotEq (Value.ref _) (Value.ref _)) _ _ _); k_dflt (first | (refine' rat_ne_same ?k1 ?k2 ?k3 ?k4 ?k5 ?k6 ?k7 ?k8 ?k9 ?_; (case k1 => k_asm); (case k2 => k_asm); (case k3 => k_asm); (case k4 => walk_at "ratl8"); (case k5 => walk_at "sub9"); (case k6 => walk_at "ratl8"); (case k7 => first | exact List.forall_mem_nil _ | walk_at "sub9"); (case k8 => walk_at "units9"); (case k9 => walk_at "ne9"); k_whole) | (refine' rat_ne_diff ?k1 ?k2 ?k3 ?k4 ?k5 ?k6 ?k7 ?k8 ?k9 ?_; (case k1 => k_asm); (case k2 => k_asm); (case k3 => k_asm); (case k4 => walk_at "ratl8"); (case k5 => walk_at "sub9"); (case k6 => walk_at "ratl8"); (case k7 => first | exact List.forall_mem_nil _ | walk_at "sub9"); (case k8 => walk_at "units9"); (case k9 => walk_at "ne9"); k_whole)))
  k_with "storeName" => (k_here; (first | (with_reducible show wpAny _ _ (storeName _ (Str.ofString "known") _) _ _ _) | (with_reducible show wpAny _ _ (storeName _ (Str.ofString "row") _) _ _ _)); refine Stop.out ?_)
  k_with "subscriptTail Name Constant ref int" => (k_here; (with_reducible show wpAny _ _ (subscriptTail _ _ (Value.ref _) (Value.int _ _)) _ _ _); k_dflt (refine' rats_item ?k1 ?k2 ?k3 ?k4 ?k5 ?k6 ?k7 ?_; (case k1 => k_asm); (case k2 => k_asm); (case k3 => walk_at "mem9"); (case k4 => assumption); (case k5 => omega); (case k6 => omega); (case k7 => omega); k_whole; intro a9 R9; (try simp only [Int.toNat_zero, Int.toNat_one] at R9); (try dsimp only)))
  k_with "binaryOp Add ref ref" => (k_here; (with_reducible show wpAny _ _ (binaryOp _ (Value.ref _) (Value.ref _)) _ _ _); k_dflt (refine' kmk_add_ints ?q91 ?q92 (News.isList ?q93 ?q94) (News.isList ?q95 ?q96) ?q97 ?q98 ?_ ?q99; (case q91 => k_asm); (case q92 => k_asm); (case q93 => k_asm); (case q95 => k_asm); (case q94 => walk_at "mem9"); (case q96 => walk_at "mem9"); (case q97 => first | assumption | exact IntsAre.cons 1 _ IntsAre.nil); (case q98 => first | assumption | exact IntsAre.cons 1 _ IntsAre.nil); (case q99 => (simp only [sizeLine_eq, List.length_append, List.length_map, List.length_range, List.length_cons, List.length_nil]; omega))); intro D9 ws8 h9 F9 N9 l1 hI9; (try k_sweep))
  k_with "subscriptTail Name BinOp ref int" => (k_here; (with_reducible show wpAny _ _ (subscriptTail _ _ (Value.ref _) (Value.int _ _)) _ _ _); k_dflt (refine' ints_item ?k1 ?k2 ?k3 ?k4 ?k5 ?k6 ?k7 ?_; (case k1 => k_asm); (case k2 => k_asm); (case k3 => walk_at "mem9"); (case k4 => assumption); (case k5 => omega); (case k6 => omega); (case k7 => omega); k_whole; intro t9; (try simp only [tn1]); (try dsimp only)))
  k_with "call builtin:len" => (k_here; (with_reducible show wpAny _ _ (call (Value.builtin "len") [Value.ref _]) _ _ _); k_dflt (refine' ints_len ?k2 ?k3 ?k4 ?k5 ?_; (case k2 => k_asm); (case k3 => walk_at "mem9"); (case k4 => assumption); (case k5 => omega); k_whole; (try dsimp only)))
  k_with "call ref" => (k_here; (with_reducible show wpAny _ _ (call (Value.ref 109) _) _ _ _); k_dflt (refine' says_use (bern_says _ _ ?kx) ?k1 ?k2 ?k3 ?k4 ?k5 ?kK ?kp ?kd ?ku ?_; (case k1 => k_asm); (case k2 => k_asm); (case k3 => k_asm); (case k4 => k_asm); (case k5 => k_asm); (case kK => first | exact rfl | assumption); (case kp => trivial); (case kx => omega); (case kd => first | exact room_le rfl (by assumption) (by decide) | ktr_room); (case ku => first | exact units_le rfl (by assumption) (by decide) | ktr_units); intro r9 tl9 h9 tk9 F9 N9 ho9; obtain ⟨c9, e9, us9, n8, hl8, hv8⟩ := ho9; subst e9; (try dsimp only); (try k_fold)))
  k_with "call ref" => (k_here; (with_reducible show wpAny _ _ (call (Value.ref 102) _) _ _ _); k_dflt (refine' says_use (binom_says' _ _ ?kx ?ky) ?k1 ?k2 ?k3 ?k4 ?k5 ?kK ?kp ?kd ?ku ?_; (case k1 => k_asm); (case k2 => k_asm); (case k3 => k_asm); (case k4 => k_asm); (case k5 => k_asm); (case kK => first | exact rfl | assumption); (case kp => trivial); (case kx => omega); (case ky => omega); (case kd => first | exact room_le rfl (by assumption) (by decide) | ktr_room); (case ku => first | exact units_le rfl (by assumption) (by decide) | ktr_units); intro r9 tl9 h9 tk9 F9 N9 ho9; obtain ⟨d9, e9, vs9, n9, hl9, hv9⟩ := ho9; (try simp only [tn1, tn2] at hv9); subst e9; (try dsimp only); (try k_fold)))
  k_with "ne9" => (first | assumption | exact he1 (by omega))
  k_with "eval ListComp" => (k_here; (with_reducible show wpAny _ _ (eval (Expr.ListComp (Expr.Subscript _ _ _) _ _ _) _) _ _ _); k_dflt (refine ListComp_S (by k_asm) (by with_unfolding_all rfl) (by decide) (by rfl) (by decide) (by rfl) ?_))
  k_with "CompSrcS" => (k_here; refine Stop.out ?_)
  k_with "subscriptTail Name Name ref int" => (k_here; (with_reducible show wpAny _ _ (subscriptTail _ _ (Value.ref _) (Value.int (3 + _ * 2) _)) _ _ _); k_dflt (refine' rats_item ?k1 ?k2 ?k3 ?k4 ?k5 ?k6 ?k7 ?_; (case k1 => k_asm); (case k2 => k_asm); (case k3 => walk_at "mem9"); (case k4 => assumption); (case k5 => omega); (case k6 => omega); (case k7 => omega); k_whole; intro a9 R9))
  k_with "compareOp NotEq ref ref" => (k_here; (with_reducible show wpAny _ _ (compareOp CmpOp.NotEq (Value.ref _) (Value.ref _)) _ _ _); k_dflt (refine' nil_ne_nil ?k1 ?k2 ?k3 ?k4 ?k5 ?k6 ?_; (case k1 => k_asm); (case k2 => k_asm); (case k3 => k_asm); (case k4 => walk_at "mem9"); (case k5 => walk_at "mem9"); (case k6 => walk_at "units9"); k_whole))
  k_with "compareOp NotEq ref ref" => (k_here; (with_reducible show wpAny _ _ (compareOp CmpOp.NotEq (Value.ref _) (Value.ref _)) _ _ _); k_dflt (refine' ints_ne_same ?k3 ?k4 ?k1 ?k5 ?k2 ?k6 ?k7 ?_; (case k3 => k_asm); (case k4 => walk_at "mem9"); (case k1 => assumption); (case k5 => walk_at "mem9"); (case k2 => assumption); (case k6 => walk_at "units9"); (case k7 => assumption); k_whole))
  k_with "eval ListComp" => (k_here; (with_reducible show wpAny _ _ (eval (Expr.ListComp (Expr.BinOp _ _ _ _) _ _ _) _) _ _ _); k_dflt (refine LCg.ListComp_U (by k_asm) (by with_unfolding_all rfl) (by decide) (by rfl) (by decide) (by rfl) ?_))
  trivial
def bn1Ok : Bool := (List.range 10).all fun k => decide ((bernL k).getD 0 (0, 1) = (1, 1)) && (k == 0 || decide ((bernL k).getD 1 (0, 1) = (-1, 2))) && (List.range 5).all fun i => !decide (2 * i + 3 ≤ k) || decide ((bernL k).getD (2 * i + 3) (0, 1) = (0, 1))
theorem bn1Ok_true : bn1Ok = true := by decide +kernel
theorem bn1_good {k : Nat} (hk : k < 10) : (bernL k).getD 0 (0, 1) = (1, 1) ∧ (0 < k → (bernL k).getD 1 (0, 1) = (-1, 2)) ∧ ∀ i, 2 * i + 3 ≤ k → (bernL k).getD (2 * i + 3) (0, 1) = (0, 1) := by
  have h := bn1Ok_true
  unfold bn1Ok at h
  have h1 := List.all_eq_true.mp h k (List.mem_range.mpr hk)
  simp only [Bool.and_eq_true, Bool.or_eq_true, decide_eq_true_eq, beq_iff_eq] at h1
  refine ⟨h1.1.1, fun h0 => h1.1.2.resolve_left (by omega), fun i hi => ?_⟩
  have h2 := List.all_eq_true.mp h1.2 i (List.mem_range.mpr (by omega))
  simp only [Bool.or_eq_true, Bool.not_eq_true', decide_eq_false_iff_not, decide_eq_true_eq] at h2
  exact h2.resolve_left (by omega)
def oddJ (k : Nat) (LC : Addr) (oK oA : Obj) (c9 : Addr) (us9 : List Value) (n8 : Nat) (news : Led) (_i : Nat) (ys : List Value) (nx : Led) : Prop :=
  ys = [] ∧ (LC + 1, oK) ∈ nx ∧ (LC + 1 + 1, oA) ∈ nx ∧ (c9, listOf us9.toArray n8) ∈ nx ∧ Rats nx us9 (bernL k) ∧ Grows news nx
def pasJ (k : Nat) (t : Tok) (LC : Addr) (oK : Obj) (c9 d9 : Addr) (us9 vs9 : List Value) (n8 n9 : Nat) (news : Led) (i : Nat) (m : Str → Option Value) (nx : Led) : Prop :=
  ∃ oR lr ws cr, m (Str.ofString "k") = some (Value.int k t) ∧ m (Str.ofString "due") = some (Value.ref d9) ∧ (LC + 1, oK) ∈ nx ∧ (LC + 1 + 1, oR) ∈ nx ∧ oR.data = .cell (some (.ref lr)) ∧ (lr, listOf ws.toArray cr) ∈ nx ∧ IntsAre ws (pasL i) ∧
    (c9, listOf us9.toArray n8) ∈ nx ∧ Rats nx us9 (bernL k) ∧ (d9, listOf vs9.toArray n9) ∈ nx ∧ Grows news nx
def numJ (k : Nat) (t : Tok) (LC : Addr) (oK oR : Obj) (lr c9 : Addr) (us9 ws : List Value) (n8 cr : Nat) (news : Led) (i : Nat) (m : Str → Option Value) (nx : Led) : Prop :=
  ∃ t1 t2, m (Str.ofString "k") = some (Value.int k t) ∧ m (Str.ofString "top") = some (Value.int (numF k i).1 t1) ∧ m (Str.ofString "bottom") = some (Value.int (numF k i).2 t2) ∧ (LC + 1, oK) ∈ nx ∧ (LC + 1 + 1, oR) ∈ nx ∧ (lr, listOf ws.toArray cr) ∈ nx ∧
    (c9, listOf us9.toArray n8) ∈ nx ∧ Rats nx us9 (bernL k) ∧ Grows news nx
theorem nums_says (k : Nat) (t : Tok) (hk9 : k ≤ 9) : Says 161 14 (fun _ => True) [.int k t] (fun _ r => r = .bool true) := by
  intro w mean mg mb dp un gd cn cs ca ccd cl outer A₀ base h₀ L m news s Q E B F X N T hk hR hd hu hret
  obtain ⟨he0, he1, he2⟩ := bn1_good (k := k) (by omega)
  have hlen := bernL_length k
  refine wpAny_call ?_
  k_dflt (walk_at "enterC9")
  change oA.data = .cell none at dA
  change oB.data = .cell none at dB
  obtain ⟨mm, em, F1⟩ : ∃ mm, mm (Str.ofString "k") = some (Value.int k t) ∧ Fr gC LC hC mm := ⟨_, rfl, FC⟩
  replace F1 := fr_know F1 _ em
  clear FC YC
  k_steps
  refine Stop.mk ?_
  rename Fr gC LC _ _ => F2
  refine cell_store F2 N9 rfl (by walk_at "mem9") dB fun h2 oK F3 N3 dK hoff => ?_
  obtain ⟨L1, N4, hKc, hRc, hl, hv, G⟩ : ∃ L1, News gC LC h2 L1 ∧ (LC + 1, oK) ∈ L1 ∧ (LC + 1 + 1, oA) ∈ L1 ∧ (c9, listOf us9.toArray n8) ∈ L1 ∧ Rats L1 us9 (bernL k) ∧ Grows news L1 :=
    ⟨_, N3, .head _, .tail _ (Off.mem.mpr ⟨by walk_at "mem9", Nat.succ_ne_self _⟩), .tail _ (hoff _ (by walk_at "mem9") (by simp)), hv8.seqs fun p hp hc => .tail _ (hoff p ((by walk_at "sub9" : ∀ p ∈ tl9, p ∈ _) p hp) hc), fun p hp => .tail _ (Off.mem.mpr ⟨(by walk_at "sub9" : ∀ p ∈ news, p ∈ _) p hp, Nat.ne_of_lt (Nat.lt_succ_of_lt (lC p hp))⟩)⟩
  clear N3 F2 N9 hl8 hv8 hoff
  refine joined (h₀ := gC) (L := LC) (m := fun y => if y = Str.ofString "k" then some (Value.int k t) else mm y) (s₀ := s) (news := L1) ?_ fun h3 tk3 L2 F5 N5 G5 => ?_
  · k_steps
    · exfalso; omega
    · exact Joined.intro (by assumption) (by assumption) (by walk_at "grows")
    · exact Joined.intro (by assumption) (by assumption) (by walk_at "grows")
  replace hKc := G5 _ hKc
  replace hRc := G5 _ hRc
  replace hl := G5 _ hl
  replace hv := hv.mono G5
  replace G := G.trans G5
  clear F3 N4 G5
  k_steps
  refine Stop.mk ?_
  rename Fr gC LC _ _ => F6
  rename News _ _ _ _ => N6
  rename IsRange _ _ _ _ _ _ _ _ => hr
  obtain ⟨rs1, rs2⟩ := rsz2 k (by omega)
  refine' comp_rangeS (oddJ k LC oK oA c9 us9 n8 news) (n := (k - 1) / 2) rfl F6 N6 hr rs2 rs1 ?hk ?_ ?_ ?_
  case hk => rw [sizeLine_eq]; omega
  · exact ⟨rfl, hKc, hRc, hl, hv, G⟩
  · rintro g ys L3 ⟨rfl, hKc, hRc, hl, hv, G⟩
    unfold LCg.FinE
    intro D h tk F2 N2 o1
    clear F6 N6
    k_steps
    refine Stop.mk ?_
    rename Fr gC LC _ _ => F7
    rename News gC LC _ _ => N7
    refine cell_store F7 N7 rfl (by walk_at "mem9") dA fun h4 oR F8 N8 dR hoff => ?_
    obtain ⟨L4, lr, ws, cr, N9, hKc, hRc, dR, hrow, hrv, hl, hv, hdue, G⟩ : ∃ L4 lr ws cr, News gC LC h4 L4 ∧ (LC + 1, oK) ∈ L4 ∧ (LC + 1 + 1, oR) ∈ L4 ∧ oR.data = .cell (some (.ref lr)) ∧ (lr, listOf ws.toArray cr) ∈ L4 ∧ IntsAre ws [1] ∧ (c9, listOf us9.toArray n8) ∈ L4 ∧ Rats L4 us9 (bernL k) ∧ (d9, listOf vs9.toArray n9) ∈ L4 ∧ Grows news L4 :=
      ⟨_, _, [_], _, N8, .tail _ (Off.mem.mpr ⟨by walk_at "mem9", (Nat.succ_ne_self _).symm⟩), .head _, dR, .tail _ (hoff _ (by walk_at "mem9") (by simp)), .cons 1 _ .nil, .tail _ (hoff _ (by walk_at "mem9") (by simp)), hv.seqs fun p hp hc => .tail _ (hoff p ((by walk_at "sub9" : ∀ p ∈ L3, p ∈ _) p hp) hc), .tail _ (hoff _ (by walk_at "mem9") (by simp)),
        fun p hp => .tail _ (Off.mem.mpr ⟨(by walk_at "sub9" : ∀ p ∈ L3, p ∈ _) p (G p hp), Nat.ne_of_lt (Nat.lt_succ_of_lt (Nat.lt_succ_of_lt (lC p hp)))⟩)⟩
    clear F7 N7 N8 hoff hl9
    have hk10 : k < 10 := by omega
    k_steps
    refine Stop.mk ?_
    rename Fr gC LC _ _ => F8
    rename News gC LC _ _ => N8
    refine' loop_range0 (pasJ k t LC oK c9 d9 us9 vs9 n8 n9 news) (n := k + 1) rfl (by assumption) ?hs ?hz F8 N8 ?_ ?_ ?_
    case hs => exact small_one (by omega) (by omega) (by omega) (by omega)
    case hz => rw [rangeSize_nat]; omega
    · exact ⟨oR, lr, ws, cr, rfl, rfl, hKc, hRc, dR, hrow, hrv, hl, hv, hdue, G⟩
    · intro i t1 m₁ nx h1 tk1 I oI hi J hoI hoff F2 N2
      clear F8 N8 hKc hRc dR hrow hrv hl hv hdue G
      obtain ⟨oR, lr, ws, cr, e1, e2, hKc, hRc, dR, hrow, hrv, hl, hv, hdue, G⟩ := J
      replace F2 := fr_know (fr_know F2 (Str.ofString "k") e1) (Str.ofString "due") e2
      have hpl := pasL_length i
      k_steps
      refine Stop.mk ?_
      rename Fr gC _ _ _ => F5
      rename News gC _ _ _ => N5
      rename IsRange _ _ _ _ _ _ _ _ => hr5
      obtain ⟨L5, N5, hone, hs5⟩ : ∃ L5, News gC _ _ L5 ∧ (_, listOf [Value.int 1 _].toArray _) ∈ L5 ∧ (∀ p ∈ (I, oI) :: nx, p ∈ L5) := ⟨_, N5, List.Mem.head _, fun p hp => .tail _ hp⟩
      refine' comp_range0 (fun j ys nx2 => Grows L5 nx2 ∧ IntsAre ys ((List.range j).map fun j => (pasL i).getD j 0 + (pasL i).getD (j + 1) 0)) (n := i) rfl F5 N5 hr5 ?hs3 ?hz3 ?hk3 ?_ ?_ ?_
      case hs3 => exact small_one (by omega) (by omega) (by omega) (by omega)
      case hz3 => rw [hpl, show ((i + 1 : Nat) : Int) - 1 = (i : Int) by omega, rangeSize_nat]; omega
      case hk3 => rw [sizeLine_eq]; omega
      · exact ⟨.refl, .nil⟩
      · rintro g ys L6 ⟨G6, hys⟩
        unfold LCg.FinE
        intro D h tk F3 N3 o1
        clear F5 N5
        replace hone := G6 _ hone
        replace hs5 : ∀ p ∈ (I, oI) :: nx, p ∈ L6 := fun p hp => G6 _ (hs5 p hp)
        have hRc6 := hs5 _ (.tail _ hRc)
        k_steps
        refine Stop.mk ?_
        rename Fr gC _ _ _ => F7
        rename News gC _ _ _ => N7
        obtain ⟨L7, N7, hD9, hs7⟩ : ∃ L7, News gC _ _ L7 ∧ (D9, listOf ws8.toArray 0) ∈ L7 ∧ ∀ p ∈ L6, p ∈ L7 := ⟨_, N7, by walk_at "mem9", by walk_at "sub9"⟩
        refine cell_store F7 N7 rfl (hs7 _ hRc6) dR fun h4 oR' F8 N8 dR' hoff2 => ?_
        k_steps
        rename Fr gC _ _ _ => F9
        rename News gC _ _ _ => N9
        have hs9 : ∀ p ∈ (I, oI) :: nx, p ∈ L7 := fun p hp => hs7 p (hs5 p hp)
        have keepF : ∀ p ∈ nx, p.1 ≠ LC + 1 + 1 → p ∈ Off I ((LC + 1 + 1, oR') :: Off (LC + 1 + 1) L7) := fun p hp hn => Off.mem.mpr ⟨.tail _ (Off.mem.mpr ⟨hs9 p (.tail _ hp), hn⟩), hoff p hp⟩
        have keepS : Seqs nx (Off I ((LC + 1 + 1, oR') :: Off (LC + 1 + 1) L7)) := fun p hp hc => Off.mem.mpr ⟨.tail _ (hoff2 p (hs9 p (.tail _ hp)) hc), hoff p hp⟩
        exact TurnEnd.next F9 N9 (.tail _ (Off.mem.mpr ⟨hs9 _ (.head _), (hoff (LC + 1 + 1, oR) hRc : LC + 1 + 1 ≠ I).symm⟩)) fun h => ⟨oR', D9, ws8, 0, rfl, rfl, keepF _ hKc (Nat.succ_ne_self _).symm, Off.mem.mpr ⟨.head _, (hoff (LC + 1 + 1, oR) hRc : LC + 1 + 1 ≠ I)⟩, dR', h _ (.tail _ (hoff2 _ hD9 (by simp))) (ri_ne_list' hoI), hI9, keepS _ hl (by simp), hv.seqs keepS, keepS _ hdue (by simp), fun p hp => keepF p (G p hp) (Nat.ne_of_lt (Nat.lt_succ_of_lt (Nat.lt_succ_of_lt (lC p hp))))⟩
      · rintro g j ys L6 t6 I6 oI6 C oC D m₂ h tk E' hj ⟨G6, hys⟩ hysl hoC hm₂ F3 N3 off ne
        clear F5 N5
        have hRc6 := G6 _ (hs5 _ (.tail _ hRc))
        have hrow6 := G6 _ (hs5 _ (.tail _ hrow))
        k_steps
        refine Stop.mk ?_
        rename Fr gC _ _ _ => F7
        rename News gC _ _ _ => N7
        refine CompTurn.same F7 N7 (by walk_at "sub9") off fun l hs => ⟨fun p hp => hs p (G6 p hp), ?_⟩
        rw [range_map_snoc]
        exact hys.append (.cons _ _ .nil)
    · intro m₁ nx h1 tk1 J F2 N2
      clear F8 N8 hKc hRc dR hrow hrv hl hv hdue G
      obtain ⟨oR, lr, ws, cr, e1, e2, hKc, hRc, dR, hrow, hrv, hl, hv, hdue, G⟩ := J
      replace F2 := fr_know (fr_know F2 (Str.ofString "k") e1) (Str.ofString "due") e2
      have hpl := pasL_length (k + 1)
      have hpb := pas_bin k hk10
      obtain ⟨hnum, hnb⟩ := num_good hk10
      k_steps
      refine Stop.mk ?_
      rename Fr gC _ _ _ => F8
      rename News gC _ _ _ => N8
      refine' loop_range0 (numJ k t LC oK oR lr c9 us9 ws n8 cr news) (n := k + 1) rfl (by assumption) ?hs4 ?hz4 F8 N8 ?_ ?_ ?_
      case hs4 => exact small_one (by omega) (by omega) (by omega) (by omega)
      case hz4 => rw [rangeSize_nat]; omega
      · exact ⟨_, _, rfl, rfl, rfl, by walk_at "mem9", by walk_at "mem9", by walk_at "mem9", by walk_at "mem9", by walk_at "rats9", by walk_at "grows"⟩
      · intro i ti m₁ nx h1 tk1 I oI hi J hoI hoff F2 N2
        clear F8 N8 hKc hRc hrow hl hv hdue G
        obtain ⟨t5, t6, e3, e4, e5, hKc, hRc, hrow, hl, hv, G⟩ := J
        replace F2 := fr_know (fr_know (fr_know F2 (Str.ofString "k") e3) (Str.ofString "top") e4) (Str.ofString "bottom") e5
        obtain ⟨b1, b2, b3, b4⟩ := hnb i hi
        have b5 := b4.top
        have b6 := b4.bot
        k_steps
        rename Fr gC _ _ _ => F9
        rename News gC _ _ _ => N9
        obtain ⟨L7, N9, hI7, hs7⟩ : ∃ L7, News gC _ _ L7 ∧ (I, oI) ∈ L7 ∧ ∀ p ∈ nx, p ∈ L7 := ⟨_, N9, by walk_at "mem9", by walk_at "sub9"⟩
        have hs := Off.keep hs7 hoff
        exact TurnEnd.next F9 N9 hI7 fun _ => ⟨_, _, rfl, rfl, rfl, hs _ hKc, hs _ hRc, hs _ hrow, hs _ hl, hv.mono hs, fun p hp => hs p (G p hp)⟩
      · intro m₁ nx h1 tk1 J F2 N2
        clear F8 N8 hKc hRc hrow hl hv hdue G
        obtain ⟨t5, t6, e3, e4, e5, hKc, hRc, hrow, hl, hv, G⟩ := J
        replace F2 := fr_know (fr_know (fr_know F2 (Str.ofString "k") e3) (Str.ofString "top") e4) (Str.ofString "bottom") e5
        k_steps
        · exact hret _ _ _ _ (by assumption) (by assumption) (by walk_at "grows") (congrArg Value.bool (beq_iff_eq.mpr (by omega)))
        · exact hret _ _ _ _ (by assumption) (by assumption) (by walk_at "grows") (congrArg Value.bool (beq_iff_eq.mpr (hnum.resolve_left (by omega))))
  · rintro g i ys L3 tI I oI C oC D m₂ h tk E' hi ⟨rfl, hKc, hRc, hl, hv, G⟩ hoC hm₂ F2 N2 off ne
    have heI : (bernL k).getD (3 + (i : Int) * 2).toNat (0, 1) = (0, 1) := by rw [show (3 + (i : Int) * 2).toNat = 2 * i + 3 by omega]; exact he2 i (by omega)
    clear F6 N6
    k_steps
    refine Stop.mk ?_
    rename Fr gC LC _ _ => F7
    rename News gC LC _ _ => N7
    exact CompTurn.same F7 N7 (by walk_at "sub9") off fun l hs => ⟨rfl, hs _ hKc, hs _ hRc, hs _ hl, hv.mono hs, fun p hp => hs p (G p hp)⟩
section
open PySem PySem.W PyProof.Rows PySem.SeqAt PySem.Spec PySem.Calls
set_option maxHeartbeats 4000000
theorem Rats.unsnoc {l : Led} {x : Int × Int} : ∀ {qs : List (Int × Int)} {ws : List Value}, Rats l ws (qs ++ [x]) → ∃ us a, ws = us ++ [.ref a] ∧ Rats l us qs ∧ RatAt l a x
  | [], ws, h => by
    cases h with
    | cons h r => cases r; exact ⟨[], _, rfl, .nil, h⟩
  | q :: qs, ws, h => by
    cases h with
    | cons h r =>
      obtain ⟨us, a, rfl, h1, h2⟩ := unsnoc r
      exact ⟨_ :: us, a, rfl, .cons h h1, h2⟩
section
variable {prog : Program} {w : World} {A : Around} {E : Value → Shared → Prop} {s : Shared} {h₀ : Heap} {L l : Addr} {m : Str → Option Value} {news l' : Led}
theorem pop_mem {p : List Value} {y : Value} {n : Nat} {Q : Value → Shared → Prop} (F : Fr h₀ L s.heap m) (N : News h₀ L s.heap news) (hl : (l, listOf (p ++ [y]).toArray n) ∈ news) (hsz : (p ++ [y]).length ≤ sizeLine)
    (h : ∀ h', Fr h₀ L h' m → News h₀ L h' ((l, listOf p.toArray (n + 1)) :: Off l news) → (∀ p ∈ news, p.2.cls ≠ .type "list" → p ∈ Off l news) → Q y { s with heap := h' }) :
    wpAny (model prog w) A (call (.builtin "list.pop") [.ref l]) Q E s := by
  have N' : News h₀ L s.heap ((l, listOf (p ++ [y]).toArray n) :: Off l news) := by
    intro p hp
    rcases List.mem_cons.mp hp with rfl | hp
    · exact N _ hl
    · exact N _ (Off.mem.mp hp).1
  exact kl_pop F N' (p := p) (y := y) (by simpa using kpa_last y p) (.head fun p hp => (Off.mem.mp hp).2) (by simpa using hsz) fun h' F' N9 => h h' F' N9 (Off.of N hl)
theorem rats_ne_nil_t {vs : List Value} {xs : List (Int × Int)} {c b c2 : Nat} {Q : Value → Shared → Prop} (F : Fr h₀ L s.heap m) (X : (hd.heap_39 w.params).In h₀) (N : News h₀ L s.heap news) (hl : (l, listOf vs.toArray c) ∈ news) (R : Rats l' vs xs) (hs : ∀ p ∈ l', p ∈ news) (hb : (b, listOf #[] c2) ∈ news) (hu : A.units + 64 < cLine) (e : xs ≠ [])
    (h : Q (.bool true) s) : wpAny (model prog w) A (compareOp .NotEq (.ref l) (.ref b)) Q E s := rats_ne_nil F X N hl R hs hb hu (by rw [decide_eq_false e]; exact h)
theorem nil_eq_nil {c b c2 : Nat} {Q : Value → Shared → Prop} (F : Fr h₀ L s.heap m) (X : (hd.heap_39 w.params).In h₀) (N : News h₀ L s.heap news) {vs : List Value} (hl : (l, listOf vs.toArray c) ∈ news) (R : Rats l' vs []) (hs : ∀ p ∈ l', p ∈ news) (hb : (b, listOf #[] c2) ∈ news) (hu : A.units + 64 < cLine)
    (h : Q (.bool true) s) : wpAny (model prog w) A (compareOp .Eq (.ref l) (.ref b)) Q E s := rats_eq_nil F X N hl R hs hb hu (by rw [decide_eq_true rfl]; exact h)
end
theorem joinedX {M : Model} {A : Around} {E : Value → Shared → Prop} {t : Sem Flow} {Q : Flow → Shared → Prop} {h₀ : Heap} {L : Addr} {m : Str → Option Value} {s s₀ : Shared} {news : Led}
    (h : wpAny M A t (Joined h₀ L m s₀ news) E s) (k : ∀ h' tk nx, Fr h₀ L h' m → News h₀ L h' nx → Grows news nx → Q .next { s₀ with heap := h', toks := tk }) : wpAny M A t Q E s := by
  refine wpAny_mono h (fun f s' r => ?_) fun _ _ e => e
  obtain ⟨rfl, h', tk, nx, rfl, F, N, G⟩ := r
  exact k h' tk nx F N G
def Drawn (ps : List (Int × Int)) : Prop := ps.length ≤ 4 ∧ ∀ x ∈ ps, BR 4 x
theorem drawn_bits {a b : Int} (ha : a.natAbs < 16) (hb : b.natAbs < 16) (h0 : 0 < b) : BR 4 (a, b) := ⟨intBits_le_iff.mpr ha, intBits_le_iff.mpr hb, h0⟩
theorem drawn_half {v : Int} (h0 : 0 ≤ v) (h1 : v < 13) : BR 4 ((v - 6).fdiv 2, 1) := by
  refine drawn_bits ?_ (by decide) (by decide)
  rw [Int.fdiv_eq_ediv_of_nonneg _ (by decide)]
  omega
theorem drawn_whole {v u : Int} (h0 : 0 ≤ v) (h1 : v < 13) (h2 : 0 ≤ u) (h3 : u < 2) : BR 4 (v - 6, 1 + u) := drawn_bits (by omega) (by omega) (by omega)
theorem drawn_snoc {k : Nat} {ps : List (Int × Int)} {x : Int × Int} (h : ∀ y ∈ ps, BR k y) (hx : BR k x) : ∀ y ∈ ps ++ [x], BR k y := fun y hy => by
  rcases List.mem_append.mp hy with h1 | h1
  · exact h y h1
  · rw [List.mem_singleton.mp h1]; exact hx
end
theorem words19 : True := by
  k_with_none
  k_with "exec While Compare cons nil" => (k_here; refine Stop.out ?_)
  k_with "exec While BoolOp cons nil" => (k_here; refine Stop.out ?_)
  k_with "grows" => (first | exact Grows.refl | assumption | (refine Grows.cons ?_; walk_at "grows") | (refine Grows.app ?_; walk_at "grows"))
  k_with "sub9" => (first | exact (fun _ h9 => h9) | (intro p9 h9; simp only [List.mem_append, List.mem_cons, h9, or_true, true_or]; done))
  k_with "bits9" => (refine' Nat.le_trans ?b91 ?b92; (case b91 => bits_by_make); (case b92 => decide))
  k_with "binaryOp FloorDiv int int" => (k_here; (with_reducible refine floordiv_int ?n91 ?_ (Or.inl ?n92)); (case n91 => omega); (case n92 => first | assumption | exact PyProof.noPylong_small (by omega)))
  k_with "binaryOp Mod int int" => (k_here; (with_reducible refine mod_int' ?n91 ?_); (case n91 => omega))
  k_with "subscriptTail Name Constant ref int" => (k_here; k_dflt (first | ((with_reducible show wpAny _ _ (subscriptTail _ _ (Value.ref _) (Value.int 0 _)) _ _ _); refine' rat_item0 ?k1 ?k2 ?k3 ?k4 ?k5 ?_; (case k1 => k_asm); (case k2 => k_asm); (case k3 => k_asm); (case k4 => assumption); (case k5 => walk_at "sub9"); k_whole) | ((with_reducible show wpAny _ _ (subscriptTail _ _ (Value.ref _) (Value.int 1 _)) _ _ _); refine' rat_item1 ?k1 ?k2 ?k3 ?k4 ?k5 ?_; (case k1 => k_asm); (case k2 => k_asm); (case k3 => k_asm); (case k4 => assumption); (case k5 => walk_at "sub9"); k_whole)); intro t9; (try dsimp only))
  k_with "exec For Name Call cons nil" => (k_here; (rename Fr _ _ _ _ => lF'); (with_unfolding_all refine' For_invVF lF' ?k1 ?k2 ?_; (case k1 => exact rfl); (case k2 => exact rfl); k_whole))
  k_with "exec For Name Subscript cons nil" => (k_here; (rename Fr _ _ _ _ => lF'); (with_unfolding_all refine' For_invVF lF' ?k1 ?k2 ?_; (case k1 => exact rfl); (case k2 => exact rfl); k_whole))
  k_with "pyIter ref" => (k_here; refine Stop.out ?_)
  k_with "mem9" => (first | assumption | exact .head _ | (refine List.mem_append.mpr (.inl ?_); assumption) | (refine .tail _ ?_; walk_at "mem9") | (refine List.mem_append.mpr (.inr ?_); walk_at "mem9"))
  k_with "getMethod ref" => (k_here; (with_reducible show wpAny _ _ (getMethod (Value.ref _) (PySem.Str.ofString "append") _) _ _ _); k_dflt (refine' listMethod_K ?N ?m PySem.F.slot_list_append PySem.F.type_list_append ?_; (case N => k_asm); (case m => walk_at "mem9")))
  k_with "call builtin:list.append" => (k_here; (with_reducible show wpAny _ _ (call (Value.builtin _) [Value.ref _, _]) _ _ _); k_dflt (refine' append_mem ?k1 ?k2 ?k3 ?_ ?z; (case k1 => k_asm); (case k2 => k_asm); (case k3 => walk_at "mem9"); (case z => first | assumption | size_fits); k_whole); intro h9 F9 N9 hoff9; (try k_sweep))
  k_with "subscriptTail Name Constant ref str" => (k_here; k_dflt (first | ((with_reducible show wpAny _ _ (subscriptTail _ _ (Value.ref _) (Value.str (Str.ofString "great") _)) _ _ _); refine' draws_great ?k1 ?k2 ?k3 ?_; (case k1 => k_asm); (case k2 => walk_at "mem9"); (case k3 => assumption); k_whole) | ((with_reducible show wpAny _ _ (subscriptTail _ _ (Value.ref _) (Value.str (Str.ofString "mixed") _)) _ _ _); refine' draws_mixed ?k1 ?k2 ?k3 ?_; (case k1 => k_asm); (case k2 => walk_at "mem9"); (case k3 => assumption); k_whole)))
  k_with "setItem ref str" => (k_here; k_dflt (first | ((with_reducible show wpAny _ _ (setItem (Value.ref _) (Value.str (Str.ofString "great") _) (Value.int _ _)) _ _ _); refine' draws_set_great ?k1 ?k2 ?k3 ?k4 ?_; (case k1 => k_asm); (case k2 => k_asm); (case k3 => walk_at "mem9"); (case k4 => assumption); k_whole) | ((with_reducible show wpAny _ _ (setItem (Value.ref _) (Value.str (Str.ofString "mixed") _) (Value.int _ _)) _ _ _); refine' draws_set_mixed ?k1 ?k2 ?k3 ?k4 ?_; (case k1 => k_asm); (case k2 => k_asm); (case k3 => walk_at "mem9"); (case k4 => assumption); k_whole)); intro h9 o9 F9 N9 hd9; (try k_sweep))
  trivial
theorem take_says (d : Addr) (many : Int) (t : Tok) (hm1 : 1 ≤ many) (hm2 : many ≤ 13) : SaysW 130 1 (fun w _ l => DrawsAt w l d) [.ref d, .int many t] (fun w news all r => (∀ p ∈ news, p.2.cls ≠ .type "dict" → p ∈ all) ∧ (∃ v t, r = .int v t ∧ 0 ≤ v ∧ v < many) ∧ DrawsAt w all d) := by
  intro w mean mg mb dp un gd cn cs ca ccd cl outer A₀ base h₀ L m news s Q E B F X N T hk hR hd hu hret
  obtain ⟨o, g, y, tg, ty, ho, hD, hg, hy1, hy2⟩ := hR
  have hne : ∀ p ∈ news, p.2.cls ≠ .type "dict" → p.1 ≠ d := fun p hp hc e => hc (by
    have q1 := (N _ hp).1
    have q2 := (N _ ho).1
    rw [e] at q1
    rw [q1] at q2
    rw [Option.some.inj q2]
    obtain ⟨_, _, h, _⟩ := hD
    exact h.1)
  refine wpAny_call ?_
  k_dflt ktr_enter
  k_steps
  · exact hret _ _ _ _ (by assumption) (by assumption) ⟨(fun p hp hn => .tail _ (Off.mem.mpr ⟨(by walk_at "sub9" : ∀ p ∈ news, p ∈ _) p hp, hne p hp hn⟩)), ⟨_, _, rfl, Int.fmod_nonneg_of_pos _ (by omega), Int.fmod_lt_of_pos _ (by omega)⟩, o9, _, _, _, _, .head _, hd9, Int.fdiv_nonneg (by omega) (by omega), hy1, hy2⟩
  · have h1 := Int.fmod_nonneg_of_pos (y * 48271 + 11) (b := 2147483647) (by omega)
    have h2 := Int.fmod_lt_of_pos (y * 48271 + 11) (b := 2147483647) (by omega)
    exact hret _ _ _ _ (by assumption) (by assumption) ⟨(fun p hp hn => .tail _ (Off.mem.mpr ⟨(by walk_at "sub9" : ∀ p ∈ news, p ∈ _) p hp, hne p hp hn⟩)), ⟨_, _, rfl, Int.fmod_nonneg_of_pos _ (by omega), Int.fmod_lt_of_pos _ (by omega)⟩, o9, _, _, _, _, .head _, hd9, hg, h1, h2⟩
section
open PySem PySem.W PyProof.Rows PySem.SeqAt PySem.Spec PySem.Calls
set_option maxHeartbeats 4000000
def pJ (d : Addr) (w : World) (i : Nat) (m : Str → Option Value) (nx : Led) : Prop :=
  ∃ lp ws c ps, m (Str.ofString "draws") = some (Value.ref d) ∧ m (Str.ofString "p") = some (Value.ref lp) ∧ (lp, listOf ws.toArray c) ∈ nx ∧ Rats nx ws ps ∧ ps.length = i ∧ (∀ x ∈ ps, BR 4 x) ∧ DrawsAt w nx d
theorem pEnd {h₀ h' : Heap} {L I lp D d : Addr} {oI : Obj} {s₁ : Shared} {Q : Flow → Shared → Prop} {m' : Str → Option Value} {all LX : Led} {tk i c n : Nat} {ws : List Value} {ps : List (Int × Int)} {a b : Int} {t u : Tok} {w : World}
    (F : Fr h₀ L h' m') (N : News h₀ L h' ((lp, listOf (ws ++ [Value.ref D]).toArray (c + 1)) :: Off lp LX)) (hoff : ∀ p ∈ LX, p.2.cls ≠ .type "list" → p ∈ Off lp LX) (hs : ∀ p ∈ all, p ∈ LX) (hD : (D, tupO [.int a t, .int b u] n) ∈ LX)
    (hoI : oI.cls = .type "range_iterator") (hI : (I, oI) ∈ all) (hr : Rats all ws ps) (hlen : ps.length = i) (hb : ∀ x ∈ ps, BR 4 x) (hx : BR 4 (a, b)) (D9 : DrawsAt w all d) (e1 : m' (Str.ofString "draws") = some (Value.ref d)) (e2 : m' (Str.ofString "p") = some (Value.ref lp)) :
    TurnEnd h₀ L (pJ d w (i + 1)) I oI s₁ Q .next { s₁ with heap := h', toks := tk } := by
  have hq : ∀ p ∈ all, p.2.cls ≠ .type "list" → p ∈ (lp, listOf (ws ++ [Value.ref D]).toArray (c + 1)) :: Off lp LX := fun p hp hc => .tail _ (hoff p (hs p hp) hc)
  have hnew : (D, tupO [.int a t, .int b u] n) ∈ (lp, listOf (ws ++ [Value.ref D]).toArray (c + 1)) :: Off lp LX := .tail _ (hoff _ hD (by simp))
  refine TurnEnd.next F N (hq _ hI (ri_ne_list hoI)) fun h => ⟨lp, ws ++ [Value.ref D], c + 1, ps ++ [(a, b)], e1, e2, h _ (.head _) (ri_ne_list' hoI), (hr.mono' fun p hp hc => h p (hq p hp (by rw [hc]; simp)) (by rw [hc]; exact ri_ne_tuple hoI)).snoc (.mk (h _ hnew (ri_ne_tuple hoI))), by rw [List.length_append, hlen]; rfl, drawn_snoc hb hx, D9.mono fun p hp hc => h p (hq p hp (by rw [hc]; simp)) (by rw [hc, hoI]; simp)⟩
def popJ (lp : Addr) (n : Nat) (m : Str → Option Value) (nx : Led) : Prop :=
  ∃ ws c ps, m (Str.ofString "p") = some (Value.ref lp) ∧ (lp, listOf ws.toArray c) ∈ nx ∧ Rats nx ws ps ∧ ps.length ≤ 4 ∧ (∀ x ∈ ps, BR 4 x) ∧ n = ps.length
def Popped (h₀ : Heap) (L lp : Addr) (s₀ : Shared) (f : Flow) (s' : Shared) : Prop :=
  f = .next ∧ ∃ h' tk m' nx ws c ps, s' = { s₀ with heap := h', toks := tk } ∧ Fr h₀ L h' m' ∧ News h₀ L h' nx ∧ m' (Str.ofString "p") = some (Value.ref lp) ∧ (lp, listOf ws.toArray c) ∈ nx ∧ Rats nx ws ps ∧ ps.length ≤ 4 ∧ (∀ x ∈ ps, BR 4 x) ∧ (ps = [] ∨ (nth ps (ps.length - 1)).1 ≠ 0)
theorem popped {M : Model} {A : Around} {E : Value → Shared → Prop} {t : Sem Flow} {Q : Flow → Shared → Prop} {h₀ : Heap} {L lp : Addr} {s s₀ : Shared}
    (h : wpAny M A t (Popped h₀ L lp s₀) E s)
    (k : ∀ h' tk m' nx ws c ps, Fr h₀ L h' m' → News h₀ L h' nx → m' (Str.ofString "p") = some (Value.ref lp) → (lp, listOf ws.toArray c) ∈ nx → Rats nx ws ps → ps.length ≤ 4 → (∀ x ∈ ps, BR 4 x) → (ps = [] ∨ (nth ps (ps.length - 1)).1 ≠ 0) → Q .next { s₀ with heap := h', toks := tk }) : wpAny M A t Q E s := by
  refine wpAny_mono h (fun f s' r => ?_) fun _ _ e => e
  obtain ⟨rfl, h', tk, m', nx, ws, c, ps, rfl, F, N, e, hl, hv, hlen, hb, hend⟩ := r
  exact k h' tk m' nx ws c ps F N e hl hv hlen hb hend
theorem poppedF {M : Model} {A : Around} {E : Value → Shared → Prop} {t : Sem Flow} {Q : Flow → Shared → Prop} {h₀ : Heap} {L lp : Addr} {m : Str → Option Value} {s : Shared}
    (_F : Fr h₀ L s.heap m) (h : wpAny M A t (Popped h₀ L lp s) E s)
    (k : ∀ h' tk m' nx ws c ps, Fr h₀ L h' m' → News h₀ L h' nx → m' (Str.ofString "p") = some (Value.ref lp) → (lp, listOf ws.toArray c) ∈ nx → Rats nx ws ps → ps.length ≤ 4 → (∀ x ∈ ps, BR 4 x) → (ps = [] ∨ (nth ps (ps.length - 1)).1 ≠ 0) → Q .next { s with heap := h', toks := tk }) : wpAny M A t Q E s := popped h k
theorem joinedF {M : Model} {A : Around} {E : Value → Shared → Prop} {t : Sem Flow} {Q : Flow → Shared → Prop} {h₀ : Heap} {L : Addr} {m : Str → Option Value} {s : Shared} {news : Led}
    (_F : Fr h₀ L s.heap m) (_N : News h₀ L s.heap news) (h : wpAny M A t (Joined h₀ L m s news) E s) (k : ∀ h' tk nx, Fr h₀ L h' m → News h₀ L h' nx → Grows news nx → Q .next { s with heap := h', toks := tk }) : wpAny M A t Q E s := joinedX h k
def endJ (lp lt : Addr) (ws us : List Value) (c c2 : Nat) (ps : List (Int × Int)) (i : Nat) (m : Str → Option Value) (nx : Led) : Prop :=
  ∃ a, m (Str.ofString "p") = some (Value.ref lp) ∧ m (Str.ofString "told") = some (Value.ref lt) ∧ m (Str.ofString "total") = some (Value.ref a) ∧ (lp, listOf ws.toArray c) ∈ nx ∧ Rats nx ws ps ∧ (lt, listOf us.toArray c2) ∈ nx ∧ Rats nx us (polyF ps ps.length) ∧ RatAt nx a (tot2 ps i)
theorem units_top {env : Env} : (callerA.deeper env).units + 64 < cLine := by
  simp only [units_deeper, units_caller, cLine]; decide
theorem tot_small {p : List (Int × Int)} (hp : ∀ x ∈ p, BR 4 x) (hl : p.length ≤ 4) {n : Nat} (hn : n ≤ 7) : bits (tot2 p n).1 ≤ 300 ∧ bits (tot2 p n).2 ≤ 300 := by
  obtain ⟨h1, h2⟩ := tot2_bits hp hl hn
  exact ⟨Nat.le_trans h1 (by omega), Nat.le_trans h2 (by omega)⟩
theorem endTurn {h₀ h' : Heap} {L I lp lt D : Addr} {oI : Obj} {s₁ : Shared} {Q : Flow → Shared → Prop} {m' : Str → Option Value} {nx LX : Led} {tk i c c2 n : Nat} {ws us : List Value} {ps : List (Int × Int)} {a b : Int} {t u : Tok}
    (F : Fr h₀ L h' m') (N : News h₀ L h' ((D, tupO [.int a t, .int b u] n) :: LX)) (hs : ∀ x ∈ (I, oI) :: nx, x ∈ LX) (hoff : ∀ p ∈ nx, p.1 ≠ I) (hoI : oI.cls = .type "range_iterator")
    (h1 : (lp, listOf ws.toArray c) ∈ nx) (r1 : Rats nx ws ps) (h2 : (lt, listOf us.toArray c2) ∈ nx) (r2 : Rats nx us (polyF ps ps.length))
    (e1 : m' (Str.ofString "p") = some (Value.ref lp)) (e2 : m' (Str.ofString "told") = some (Value.ref lt)) (e3 : m' (Str.ofString "total") = some (Value.ref D)) (e : tot2 ps (i + 1) = (a, b)) :
    TurnEnd h₀ L (endJ lp lt ws us c c2 ps (i + 1)) I oI s₁ Q .next { s₁ with heap := h', toks := tk } := by
  have hk : ∀ p ∈ nx, p ∈ Off I ((D, tupO [.int a t, .int b u] n) :: LX) := fun p hp => Off.mem.mpr ⟨.tail _ (hs p (.tail _ hp)), hoff p hp⟩
  exact TurnEnd.next F N (.tail _ (hs _ (.head _))) fun h => ⟨D, e1, e2, e3, hk _ h1, r1.mono hk, hk _ h2, r2.mono hk, .new (h _ (.head _) (ri_ne_tuple hoI)) e⟩
theorem genQE {M : Model} {A : Around} {b : List Stmt} {env : Env} {Q : Flow → Shared → Prop} {E : Value → Shared → Prop} {s : Shared} {h₀ : Heap} {L : Addr} {m₀ : Str → Option Value} (_F : Fr h₀ L s.heap m₀) (hE : PassesOwn M A env E) (hQ : ∀ h' tk' m, Fr h₀ L h' m → Q (.ret (.bool true)) { s with heap := h', toks := tk' })
    (h : ∀ Q E, PassesOwn M A env E → (∀ h' tk' m, Fr h₀ L h' m → Q (.ret (.bool true)) { s with heap := h', toks := tk' }) → wpAny M A (execs b env) Q E s) : wpAny M A (execs b env) Q E s := h Q E hE hQ
inductive Pass : Prop
  | mk
end
theorem words20 : True := by
  k_with_none
  k_with "exec While Compare cons nil" => (k_here; refine Stop.out ?_)
  k_with "exec While BoolOp cons nil" => (k_here; refine Stop.out ?_)
  k_with "grows" => (first | exact Grows.refl | assumption | (refine Grows.cons ?_; walk_at "grows") | (refine Grows.app ?_; walk_at "grows"))
  k_with "sub9" => (first | exact (fun _ h9 => h9) | (intro p9 h9; simp only [List.mem_append, List.mem_cons, h9, or_true, true_or]; done))
  k_with "bits9" => (refine' Nat.le_trans ?b91 ?b92; (case b91 => bits_by_make); (case b92 => decide))
  k_with "binaryOp FloorDiv int int" => (k_here; (with_reducible refine floordiv_int ?n91 ?_ (Or.inl ?n92)); (case n91 => omega); (case n92 => first | assumption | exact PyProof.noPylong_small (by omega)))
  k_with "binaryOp Mod int int" => (k_here; (with_reducible refine mod_int' ?n91 ?_); (case n91 => omega))
  k_with "subscriptTail Name Constant ref int" => (k_here; k_dflt (first | ((with_reducible show wpAny _ _ (subscriptTail _ _ (Value.ref _) (Value.int 0 _)) _ _ _); refine' rat_item0 ?k1 ?k2 ?k3 ?k4 ?k5 ?_; (case k1 => k_asm); (case k2 => k_asm); (case k3 => k_asm); (case k4 => assumption); (case k5 => walk_at "sub9"); k_whole) | ((with_reducible show wpAny _ _ (subscriptTail _ _ (Value.ref _) (Value.int 1 _)) _ _ _); refine' rat_item1 ?k1 ?k2 ?k3 ?k4 ?k5 ?_; (case k1 => k_asm); (case k2 => k_asm); (case k3 => k_asm); (case k4 => assumption); (case k5 => walk_at "sub9"); k_whole)); intro t9; (try dsimp only))
  k_with "exec For Name Call cons nil" => (k_here; (rename Fr _ _ _ _ => lF'); (with_unfolding_all refine' For_invVF lF' ?k1 ?k2 ?_; (case k1 => exact rfl); (case k2 => exact rfl); k_whole))
  k_with "exec For Name Subscript cons nil" => (k_here; (rename Fr _ _ _ _ => lF'); (with_unfolding_all refine' For_invVF lF' ?k1 ?k2 ?_; (case k1 => exact rfl); (case k2 => exact rfl); k_whole))
  k_with "pyIter ref" => (k_here; refine Stop.out ?_)
  k_with "mem9" => (first | assumption | exact .head _ | (refine List.mem_append.mpr (.inl ?_); assumption) | (refine .tail _ ?_; walk_at "mem9") | (refine List.mem_append.mpr (.inr ?_); walk_at "mem9"))
  k_with "getMethod ref" => (k_here; (with_reducible show wpAny _ _ (getMethod (Value.ref _) (PySem.Str.ofString "append") _) _ _ _); k_dflt (refine' listMethod_K ?N ?m PySem.F.slot_list_append PySem.F.type_list_append ?_; (case N => k_asm); (case m => walk_at "mem9")))
  k_with "call builtin:list.append" => (k_here; (with_reducible show wpAny _ _ (call (Value.builtin _) [Value.ref _, _]) _ _ _); k_dflt (refine' append_mem ?k1 ?k2 ?k3 ?_ ?z; (case k1 => k_asm); (case k2 => k_asm); (case k3 => walk_at "mem9"); (case z => first | assumption | size_fits); k_whole); intro h9 F9 N9 hoff9; (try k_sweep))
  k_with "rats9" => (first | assumption | exact Rats.mono (by assumption) (by walk_at "sub9"))
  k_with "rat9" => (first | assumption | exact RatAt.mono (by assumption) (by walk_at "sub9") | (have hq9 := ratTop (by assumption); assumption) | exact RatAt.mk (by walk_at "mem9") | exact RatAt.zero)
  k_with "subscriptTail Name Name ref int" => (k_here; (with_reducible show wpAny _ _ (subscriptTail _ _ (Value.ref _) (Value.int _ _)) _ _ _); k_dflt (first | (refine' ints_item_nat ?k1 ?k2 ?k3 ?k4 ?k5 ?k6 ?_; (case k1 => k_asm); (case k2 => k_asm); (case k3 => walk_at "mem9"); (case k4 => assumption); (case k5 => omega); (case k6 => omega); k_whole; intro t9; (try dsimp only)) | (refine' rats_item_nat ?k1 ?k2 ?k3 ?k4 ?k5 ?k6 ?_; (case k1 => k_asm); (case k2 => k_asm); (case k3 => walk_at "mem9"); (case k4 => assumption); (case k5 => omega); (case k6 => omega); k_whole; intro a9 R9; (try dsimp only))))
  k_with "subscriptTail Name BinOp ref int" => (k_here; (with_reducible show wpAny _ _ (subscriptTail _ _ (Value.ref _) (Value.int _ _)) _ _ _); k_dflt (refine' rats_item ?k1 ?k2 ?k3 ?k4 ?k5 ?k6 ?k7 ?_; (case k1 => k_asm); (case k2 => k_asm); (case k3 => walk_at "mem9"); (case k4 => assumption); (case k5 => omega); (case k6 => omega); (case k7 => omega); k_whole; intro a9 R9; (try simp only [tn3] at R9); (try dsimp only)))
  k_with "subscriptTail Name Slice ref ref" => (k_here; (with_reducible show wpAny _ _ (subscriptTail _ (PySem.Expr.Slice none none (some _) _) (Value.ref _) (Value.ref _)) _ _ _); k_dflt (refine' krv_lit ?F ?N (News.isList ?N1 ?l) ?k ?e ?_ ?s ?t ?z; (case F => k_asm); (case N => k_asm); (case N1 => k_asm); (case l => walk_at "mem9"); (case k => exact IsPart.int _ _); (case e => exact rfl); (case s => with_unfolding_all rfl); (case t => kmk_pure); (case z => first | assumption | kmk_size)); intro D9 h9 F9 N9 l1; (try k_sweep))
  k_with "call builtin:len" => (k_here; (with_reducible show wpAny _ _ (call (Value.builtin "len") [Value.ref _]) _ _ _); k_dflt (refine' rats_len ?k2 ?k3 ?k4 ?k5 ?_; (case k2 => k_asm); (case k3 => walk_at "mem9"); (case k4 => assumption); (case k5 => omega); k_whole; (try dsimp only)))
  k_with "subscriptTail Name UnaryOp ref int" => (k_here; (with_reducible show wpAny _ _ (subscriptTail _ _ (Value.ref _) (Value.int _ _)) _ _ _); k_dflt (refine' rats_last ?k2 ?k3 ?k4 ?k5 ?k6 ?_; (case k2 => k_asm); (case k3 => walk_at "mem9"); (case k4 => assumption); (case k5 => omega); (case k6 => omega); k_whole; intro a9 R9; (try dsimp only)))
  k_with "units9" => (exact units64 rfl (by assumption) (by decide))
  k_with "compareOp NotEq ref ref" => (k_here; (with_reducible show wpAny _ _ (compareOp CmpOp.NotEq (Value.ref _) (Value.ref _)) _ _ _); k_dflt (first | (refine' rat_ne_same ?k1 ?k2 ?k3 ?k4 ?k5 ?k6 ?k7 ?k8 ?k9 ?_; (case k1 => k_asm); (case k2 => k_asm); (case k3 => k_asm); (case k4 => walk_at "ratl9"); (case k5 => walk_at "sub9"); (case k6 => walk_at "ratl9"); (case k7 => walk_at "sub9"); (case k8 => walk_at "units9"); (case k9 => assumption); k_whole)))
  k_with "ratl9" => (first | assumption | (have hq9 := ratTop (by assumption); assumption))
  k_with "units9" => (exact units_top)
  k_with "ne9" => (assumption)
  k_with "ratl8" => (first | assumption | (have hq9 := ratTop (by assumption); assumption) | exact RatAt.zero (l := []))
  k_with "compareOp NotEq ref ref" => (k_here; (with_reducible show wpAny _ _ (compareOp CmpOp.NotEq (Value.ref _) (Value.ref _)) _ _ _); k_dflt (first | (refine' rat_ne_same ?k1 ?k2 ?k3 ?k4 ?k5 ?k6 ?k7 ?k8 ?k9 ?_; (case k1 => k_asm); (case k2 => k_asm); (case k3 => k_asm); (case k4 => walk_at "ratl8"); (case k5 => walk_at "sub9"); (case k6 => walk_at "ratl8"); (case k7 => first | exact List.forall_mem_nil _ | walk_at "sub9"); (case k8 => walk_at "units9"); (case k9 => walk_at "ne9"); k_whole) | (refine' rat_ne_diff ?k1 ?k2 ?k3 ?k4 ?k5 ?k6 ?k7 ?k8 ?k9 ?_; (case k1 => k_asm); (case k2 => k_asm); (case k3 => k_asm); (case k4 => walk_at "ratl8"); (case k5 => walk_at "sub9"); (case k6 => walk_at "ratl8"); (case k7 => first | exact List.forall_mem_nil _ | walk_at "sub9"); (case k8 => walk_at "units9"); (case k9 => walk_at "ne9"); k_whole)))
  k_with "call builtin:list.pop" => (k_here; (with_reducible show wpAny _ _ (call (Value.builtin _) [Value.ref _]) _ _ _); k_dflt (refine' pop_mem ?k1 ?k2 ?k3 ?z ?_; (case k1 => k_asm); (case k2 => k_asm); (case k3 => walk_at "mem9"); (case z => assumption); k_whole); intro h9 F9 N9 hoff9; (try k_sweep))
  k_with "getMethod ref" => (k_here; (with_reducible show wpAny _ _ (getMethod (Value.ref _) (PySem.Str.ofString "pop") _) _ _ _); k_dflt (refine' kl_method ?N ?m PySem.F.slot_list_pop PySem.F.type_list_pop ?_; (case N => k_asm); (case m => walk_at "mem9")))
  k_with "compareOp NotEq ref ref" => (k_here; (with_reducible show wpAny _ _ (compareOp CmpOp.NotEq (Value.ref _) (Value.ref _)) _ _ _); k_dflt (refine' nil_ne_nil ?k1 ?k2 ?k3 ?k4 ?k5 ?k6 ?_; (case k1 => k_asm); (case k2 => k_asm); (case k3 => k_asm); (case k4 => walk_at "mem9"); (case k5 => walk_at "mem9"); (case k6 => walk_at "units9"); k_whole))
  k_with "compareOp NotEq ref ref" => (k_here; (with_reducible show wpAny _ _ (compareOp CmpOp.NotEq (Value.ref _) (Value.ref _)) _ _ _); k_dflt (refine' rats_ne_nil_t ?k1 ?k2 ?k3 ?k4 ?k5 ?k6 ?k7 ?k8 ?k9 ?_; (case k1 => k_asm); (case k2 => k_asm); (case k3 => k_asm); (case k4 => walk_at "mem9"); (case k5 => assumption); (case k6 => walk_at "sub9"); (case k7 => walk_at "mem9"); (case k8 => walk_at "units9"); (case k9 => assumption); k_whole))
  k_with "compareOp Eq ref ref" => (k_here; (with_reducible show wpAny _ _ (compareOp CmpOp.Eq (Value.ref _) (Value.ref _)) _ _ _); refine Stop.out ?_)
  k_with "exec If" => (k_here; (with_reducible show wpAny _ _ (exec (Stmt.If (Expr.BoolOp BoolOp.And _ _) _ _ _) _) _ _ _); (fail_if_success (rename Pass => pp9)); refine Stop.out ?_)
  k_with "rats9" => (first | exact Rats.nil | assumption | exact Rats.mono (by assumption) (by walk_at "sub9"))
  k_with "call ref" => (k_here; (with_reducible show wpAny _ _ (call (Value.ref 135) _) _ _ _); k_dflt (refine' saysW_use (draws_says _ _ _ ?kx) ?k1 ?k2 ?k3 ?k4 ?k5 ?kK ?kp ?kd ?ku ?_; (case k1 => k_asm); (case k2 => k_asm); (case k3 => k_asm); (case k4 => k_asm); (case k5 => k_asm); (case kK => first | exact rfl | assumption); (case kp => exact ⟨by assumption, by assumption⟩); (case kx => omega); (case kd => first | exact room_le rfl (by assumption) (by decide) | ktr_room); (case ku => first | exact units_le rfl (by assumption) (by decide) | ktr_units); intro r9 all9 h9 tk9 F9 N9 ho9; obtain ⟨-, d9, e9, D9⟩ := ho9; subst e9; (try dsimp only); (try k_fold)))
  k_with "draws9" => (first | assumption | exact DrawsAt.mono (by assumption) (fun p hp _ => (by walk_at "sub9" : ∀ p ∈ _, p ∈ _) p hp))
  k_with "call ref" => (k_here; (with_reducible show wpAny _ _ (call (Value.ref 130) _) _ _ _); k_dflt (refine' saysW_use (take_says _ _ _ ?kx ?ky) ?k1 ?k2 ?k3 ?k4 ?k5 ?kK ?kp ?kd ?ku ?_; (case k1 => k_asm); (case k2 => k_asm); (case k3 => k_asm); (case k4 => k_asm); (case k5 => k_asm); (case kK => first | exact rfl | assumption); (case kp => walk_at "draws9"); (case kx => decide); (case ky => decide); (case kd => first | exact room_le rfl (by assumption) (by decide) | ktr_room); (case ku => first | exact units_le rfl (by assumption) (by decide) | ktr_units); intro r9 all9 h9 tk9 F9 N9 ho9; obtain ⟨hkeep9, ⟨v9, t9, e9, hv0, hv1⟩, D9⟩ := ho9; subst e9; refine Stop.out ?_))
  k_with "call ref" => (k_here; (with_reducible show wpAny _ _ (call (Value.ref 156) _) _ _ _); k_dflt (refine' says_use (pr_says _ _ ?kx) ?k1 ?k2 ?k3 ?k4 ?k5 ?kK ?kp ?kd ?ku ?_; (case k1 => k_asm); (case k2 => k_asm); (case k3 => k_asm); (case k4 => k_asm); (case k5 => k_asm); (case kK => first | exact rfl | assumption); (case kp => trivial); (case kx => omega); (case kd => first | exact room_le rfl (by assumption) (by decide) | ktr_room); (case ku => first | exact units_le rfl (by assumption) (by decide) | ktr_units); intro r9 tl9 h9 tk9 F9 N9 ho9; obtain ⟨e9⟩ : Nonempty (r9 = _) := ⟨ho9⟩; subst e9; (try dsimp only); (try k_fold)))
  k_with "call ref" => (k_here; (with_reducible show wpAny _ _ (call (Value.ref 161) _) _ _ _); k_dflt (refine' says_use (nums_says _ _ ?kx) ?k1 ?k2 ?k3 ?k4 ?k5 ?kK ?kp ?kd ?ku ?_; (case k1 => k_asm); (case k2 => k_asm); (case k3 => k_asm); (case k4 => k_asm); (case k5 => k_asm); (case kK => first | exact rfl | assumption); (case kp => trivial); (case kx => omega); (case kd => first | exact room_le rfl (by assumption) (by decide) | ktr_room); (case ku => first | exact units_le rfl (by assumption) (by decide) | ktr_units); intro r9 tl9 h9 tk9 F9 N9 ho9; obtain ⟨e9⟩ : Nonempty (r9 = _) := ⟨ho9⟩; subst e9; (try dsimp only); (try k_fold)))
  k_with "call ref" => (k_here; (with_reducible show wpAny _ _ (call (Value.ref 123) _) _ _ _); k_dflt (refine' says_use (psum_says _ _ ?kx ?ky) ?k1 ?k2 ?k3 ?k4 ?k5 ?kK ?kp ?kd ?ku ?_; (case k1 => k_asm); (case k2 => k_asm); (case k3 => k_asm); (case k4 => k_asm); (case k5 => k_asm); (case kK => first | exact rfl | assumption); (case kp => exact ⟨_, _, by walk_at "mem9", by walk_at "rats9"⟩); (case kx => assumption); (case ky => assumption); (case kd => first | exact room_le rfl (by assumption) (by decide) | ktr_room); (case ku => first | exact units_le rfl (by assumption) (by decide) | ktr_units); intro r9 tl9 h9 tk9 F9 N9 ho9; obtain ⟨d9, e9, us9, n8, hl8, hv8⟩ := ho9; subst e9; (try dsimp only); (try k_fold)))
  k_with "call ref" => (k_here; (with_reducible show wpAny _ _ (call (Value.ref 142) _) _ _ _); k_dflt (refine' says_use (at_says _ _ _ _ ?kx ?ky ?kz) ?k1 ?k2 ?k3 ?k4 ?k5 ?kK ?kp ?kd ?ku ?_; (case k1 => k_asm); (case k2 => k_asm); (case k3 => k_asm); (case k4 => k_asm); (case k5 => k_asm); (case kK => first | exact rfl | assumption); (case kp => exact ⟨_, _, by walk_at "mem9", by walk_at "rats9"⟩); (case kx => assumption); (case ky => omega); (case kz => assumption); (case kd => first | exact room_le rfl (by assumption) (by decide) | ktr_room); (case ku => first | exact units_le rfl (by assumption) (by decide) | ktr_units); intro r9 tl9 h9 tk9 F9 N9 ho9; obtain ⟨c9, e9, R9⟩ := ho9; subst e9; (try dsimp only); (try k_fold)))
  k_with "call ref" => (k_here; (with_reducible show wpAny _ _ (call (Value.ref 149) _) _ _ _); k_dflt (refine' says_use (is_true _ _ _ _ ?kx ?ky ?kz ?kt ?kv) ?k1 ?k2 ?k3 ?k4 ?k5 ?kK ?kp ?kd ?ku ?_; (case k1 => k_asm); (case k2 => k_asm); (case k3 => k_asm); (case k4 => k_asm); (case k5 => k_asm); (case kK => first | exact rfl | assumption); (case kp => exact ⟨by walk_at "rat9", by walk_at "rat9"⟩); (case kx => assumption); (case ky => assumption); (case kz => assumption); (case kt => assumption); (case kv => assumption); (case kd => first | exact room_le rfl (by assumption) (by decide) | ktr_room); (case ku => first | exact units_le rfl (by assumption) (by decide) | ktr_units); intro r9 tl9 h9 tk9 F9 N9 ho9; obtain ⟨e9⟩ : Nonempty (r9 = _) := ⟨ho9⟩; subst e9; (try dsimp only); (try k_fold)))
  trivial
theorem zz : PySem.Challenge.rw_nn0248_01.Holds := hd (by
  k_go0
  all_goals try k_fold
  refine genQE (by assumption) (by passes_own) (fun h' tk' m' F' => ?hq) (fun Q E hE hQ => ?_)
  case hq =>
    dsimp only
    k_steps
  k_steps
  refine Stop.mk ?_
  obtain ⟨k, rfl⟩ : ∃ k : Nat, v9 = k := ⟨v9.toNat, by omega⟩
  k_steps
  refine Stop.mk ?_
  obtain ⟨np, rfl, hnp, hnp2⟩ : ∃ n : Nat, v9 = n ∧ Stop (n ≤ 4) ∧ n < 1000 := ⟨v9.toNat, by omega, .mk (by omega), by omega⟩
  clear hv0 hv1
  rename World => w
  have hp0 := hkeep9 _ (List.Mem.head _) (by simp)
  clear hkeep9
  k_steps
  refine Stop.mk ?_
  rename Fr _ _ _ _ => F1
  rename News _ _ _ _ => N1
  refine' loop_range0 (pJ d9 w) (n := np) rfl (by assumption) ?hs ?hz F1 N1 ?_ ?_ ?_
  case hs => exact small_one (by omega) (by omega) (by omega) (by omega)
  case hz => rw [rangeSize_nat]; omega
  · exact ⟨_, [], _, [], rfl, rfl, hp0, .nil, rfl, (fun _ h => by cases h), D9⟩
  · intro i t1 m₁ nx h1 tk1 I oI hi J hoI hoff F2 N2
    obtain ⟨lp, ws, c, ps, e1, e2, hl, hv, hlen, hb, hD⟩ := J
    replace F2 := fr_know (fr_know F2 (Str.ofString "draws") e1) (Str.ofString "p") e2
    clear F1 N1 D9 hp0
    have hsz : ws.length ≤ sizeLine := by rw [hv.length, hlen, sizeLine_eq]; omega
    k_steps
    refine Stop.mk ?_
    obtain ⟨v1, e91⟩ : ∃ v, v = v9 := ⟨_, rfl⟩
    subst e91
    have a0 := hv0
    have a1 := hv1
    have hI1 := hkeep9 (I, oI) (.head _) (by rw [hoI]; simp)
    have hl1 := hkeep9 _ (.tail _ hl) (by simp)
    have hr1 := hv.mono' fun p hp hc => hkeep9 p (.tail _ hp) (by rw [hc]; simp)
    clear hv0 hv1 hkeep9 hl hv hD
    k_steps
    refine Stop.mk ?_
    have hI2 := hkeep9 (I, oI) hI1 (by rw [hoI]; simp)
    have hl2 := hkeep9 _ hl1 (by simp)
    have hr2 := hr1.mono' fun p hp hc => hkeep9 p hp (by rw [hc]; simp)
    have b0 := hv0
    have b1 := hv1
    obtain ⟨v2, e92⟩ : ∃ v, v = v9 := ⟨_, rfl⟩
    subst e92
    clear hI1 hl1 hr1 hkeep9 hv0 hv1
    have hx1 := drawn_half a0 a1
    have hx2 := drawn_whole a0 a1 b0 b1
    k_steps
    all_goals (
      rename Fr _ _ _ _ => F5
      rename News _ _ _ _ => N5
      exact pEnd F5 N5 hoff9 (by walk_at "sub9") (.head _) hoI hI2 hr2 hlen hb (by assumption) D9 rfl rfl)
  · intro m₁ nx h1 tk1 J F2 N2
    obtain ⟨lp, ws, c, ps, e1, e2, hl, hv, hlen, hb, hD⟩ := J
    replace F2 := fr_know F2 (Str.ofString "p") e2
    clear F1 N1 D9 hp0 hD
    have hnp3 : np ≤ 4 := hnp
    have hlen4 : ps.length ≤ 4 := by omega
    clear hnp hnp2 hnp3
    k_steps
    refine Stop.mk ?_
    rename Fr _ _ _ _ => F3
    rename News _ _ _ _ => N3
    refine poppedF (lp := lp) F3 ?_ fun h2 tk2 m2 nx2 ws2 c2 qs F4 N4 ep hl2 hv2 hq4 hqb hend => ?_
    · refine While_inv2 (popJ lp) F3 N3 (n₀ := ps.length) ?_ ?_ hE
      · exact ⟨_, _, _, rfl, hl, hv, hlen4, hb, rfl⟩
      · intro n m2 nx2 h2 tk2 F4 N4 J
        obtain ⟨ws2, c2, qs, ep, hl2, hv2, hq4, hqb, hn⟩ := J
        replace F4 := fr_know F4 _ ep
        clear F3 N3 hl hv hb hlen hlen4 e1 e2
        rcases List.eq_nil_or_concat qs with rfl | ⟨rs, x, hrs⟩
        · cases hv2
          k_steps
          rename Fr _ _ _ _ => F5
          rename News _ _ _ _ => N5
          exact ⟨rfl, _, _, _, _, [], c2, [], rfl, F5, N5, rfl, .tail _ hl2, .nil, Nat.zero_le _, (fun _ h => nomatch h), .inl rfl⟩
        · have hv3 := hv2
          rw [List.concat_eq_append] at hrs
          rw [hrs] at hv3
          obtain ⟨us, b, rfl, hu, hbx⟩ := hv3.unsnoc
          clear hv3
          have hne : qs ≠ [] := by rw [hrs]; simp
          have hpos : 0 < qs.length := List.length_pos_iff.mpr hne
          have hsz : (us ++ [Value.ref b]).length ≤ sizeLine := by rw [hv2.length, sizeLine_eq]; omega
          k_steps
          · rename Fr _ _ _ _ => F5
            rename News _ _ _ _ => N5
            exact While2.end (n' := rs.length) F5 N5 (by rw [hn, hrs, List.length_append]; exact Nat.lt_succ_self _) ⟨us, c2 + 1, rs, rfl, .head _, hu.mono' fun p hp hc => .tail _ (hoff9 p (.tail _ hp) (by rw [hc]; simp)), by rw [hrs, List.length_append] at hq4; omega, fun y hy => hqb y (by rw [hrs]; exact List.mem_append.mpr (.inl hy)), rfl⟩
          · rename Fr _ _ _ _ => F5
            rename News _ _ _ _ => N5
            exact ⟨rfl, _, _, _, _, us ++ [Value.ref b], c2, qs, rfl, F5, N5, rfl, .tail _ hl2, hv2.mono (fun p hp => .tail _ hp), hq4, hqb, .inr (by assumption)⟩
    · replace F4 := fr_know F4 _ ep
      have hbp : ∀ x ∈ polyF qs qs.length, BR 200 x := fun y hy => (poly_br hqb hq4 y hy).le (by omega)
      have hlp : (polyF qs qs.length).length ≤ 12 := Nat.le_trans poly_len (by omega)
      have hb200 : ∀ x ∈ qs, BR 200 x := fun y hy => (hqb y hy).le (by decide)
      clear F3 N3 hl hv hb hlen hlen4 e1 e2
      k_steps
      refine Stop.mk ?_
      rename Fr _ _ _ _ => F5
      rename News _ _ _ _ => N5
      obtain ⟨L1, N5, hl3, hv3, hl4, hv4, htot⟩ : ∃ L1, News _ _ _ L1 ∧ (lp, listOf ws2.toArray c2) ∈ L1 ∧ Rats L1 ws2 qs ∧ (d9, listOf us9.toArray n8) ∈ L1 ∧ Rats L1 us9 (polyF qs qs.length) ∧ RatAt L1 _ (0, 1) :=
        ⟨_, N5, by walk_at "mem9", hv2.mono (by walk_at "sub9"), by walk_at "mem9", hv8.mono (by walk_at "sub9"), .mk (.tail _ (.head _))⟩
      clear hl2 hv2 hl8 hv8
      refine joinedF F5 N5 ?_ fun h3 tk3 L2 F6 N6 G6 => ?_
      · rcases hend with rfl | hne
        · have hv5 : Rats L1 us9 [] := hv4
          clear hv4
          cases hv5
          have pp := Pass.mk
          k_steps
          exact Joined.intro (by assumption) (by assumption) (by walk_at "grows")
        · have hq0 : qs ≠ [] := by
            rintro rfl
            exact hne rfl
          obtain ⟨hp1, hp2⟩ := poly_lead hqb hq4 hq0 hne
          have hp3 : polyF qs qs.length ≠ [] := fun e => by rw [e] at hp1; simp at hp1
          have hp4 : ((polyF qs qs.length).getD ((polyF qs qs.length).length - 1) (0, 1)).1 ≠ 0 := by rw [hp1]; exact hp2
          have pp := Pass.mk
          k_steps
          · exfalso; omega
          · exact absurd (by assumption) hp4
          · exact Joined.intro (by assumption) (by assumption) (by walk_at "grows")
      · replace hl3 := G6 _ hl3
        replace hv3 := hv3.mono G6
        replace hl4 := G6 _ hl4
        replace hv4 := hv4.mono G6
        replace htot := htot.mono G6
        clear F5 N5 G6
        k_steps
        refine Stop.mk ?_
        rename Fr _ _ _ _ => F7
        rename News _ _ _ _ => N7
        rename IsRange _ _ _ _ _ _ _ _ => hr7
        refine' loop_range0 (endJ lp d9 ws2 us9 c2 n8 qs) (n := qs.length + 3) rfl hr7 ?hs ?hz F7 N7 ?_ ?_ ?_
        case hs => exact small_one (by omega) (by omega) (by omega) (by omega)
        case hz => rw [rangeSize_nat]; omega
        · exact ⟨_, rfl, rfl, rfl, hl3, hv3, hl4, hv4, htot⟩
        · intro i t1 m₁ nx h1 tk1 I oI hi J hoI hoff F2 N2
          clear F7 N7 hl3 hv3 hl4 hv4 htot
          obtain ⟨a, e1, e2, e3, hl3, hv3, hl4, hv4, htot⟩ := J
          replace F2 := fr_know (fr_know (fr_know F2 (Str.ofString "p") e1) (Str.ofString "told") e2) (Str.ofString "total") e3
          have hni : bits ((i : Nat) : Int) ≤ 10 := intBits_le_iff.mpr (by omega)
          obtain ⟨hb1, hb2⟩ := lawAt_bits hni hbp hlp
          obtain ⟨hb3, hb4⟩ := p_at_bits hqb hq4 (n := i) (by omega)
          obtain ⟨hb5, hb6⟩ := tot_small hqb hq4 (n := i) (by omega)
          have hb7 := Nat.le_trans hb5 (show 300 ≤ 5000 by decide)
          have hb8 := Nat.le_trans hb6 (show 300 ≤ 5000 by decide)
          have heq := law_eq hqb hq4 (n := i) (by omega)
          k_steps
          rename Fr _ _ _ _ => F5
          rename News _ _ _ _ => N5
          exact endTurn F5 N5 (by walk_at "sub9") hoff hoI hl3 hv3 hl4 hv4 rfl rfl rfl rfl
        · intro m₁ nx h1 tk1 J F2 N2
          clear F7 N7 hl3 hv3 hl4 hv4 htot
          have hz4 : ([] : List (Int × Int)).length ≤ 4 := Nat.zero_le _
          have hzb : ∀ x ∈ ([] : List (Int × Int)), BR 4 x := fun _ h => nomatch h
          k_steps
          refine Stop.mk ?_
          have hv9 : Rats tl9 us9 [] := hv8
          clear hv8
          refine' nil_eq_nil ?k1 ?k2 ?k3 ?k4 ?k5 ?k6 ?k7 ?k8 ?_
          case k1 => k_asm
          case k2 => k_asm
          case k3 => k_asm
          case k4 => walk_at "mem9"
          case k5 => exact hv9
          case k6 => walk_at "sub9"
          case k7 => walk_at "mem9"
          case k8 => exact units_top
          k_steps
          exact hQ _ _ _ (by assumption))
end Mine
end
theorem PySem.Challenge.cw_nn0248_01_holds : PySem.Challenge.rw_nn0248_01.Holds := by
  exact Mine.zz
