import PyProof.Rows.All
import Wide.All
import OpenK.AllK
import Wide.FinOn
import PySem.Challenge.RW_pb0153_01
open PySem PySem.W PyProof.Rows
set_option Elab.async false
set_option maxRecDepth 100000
set_option maxHeartbeats 0
section
open PySem PySem.W PyProof.Rows
namespace Mine
open_top hd for PySem.Challenge.rw_pb0153_01
end Mine
end
section
open PySem PySem.W PyProof.Rows PySem.Calls
namespace Mine
abbrev Led := List (Addr × Obj)
theorem allObj_monoF {k k' : Led → Prop} (h : ∀ its, k its → k' its) : ∀ {ws : List (Addr × String)} {f : Led → Led}, AllObj ws (fun its => k (f its)) → AllObj ws (fun its => k' (f its))
  | [], f, x => h (f []) x
  | w :: r, f, x => fun o ho => allObj_monoF (k := k) (k' := k') h (ws := r) (f := fun its => f ((w.1, o) :: its)) (x o ho)
theorem allObj_mono {k k' : Led → Prop} (h : ∀ its, k its → k' its) {ws : List (Addr × String)} (x : AllObj ws k) : AllObj ws k' := allObj_monoF (k := k) (k' := k') h (f := fun its => its) x
section
variable {prog : Program} {w : World} {A : Around} {E : Value → Shared → Prop} {s : Shared} {env : Env} {h₀ : Heap} {L : Addr} {m : Str → Option Value} {x : Str} {body : List Stmt} {target : Expr} {Q : Flow → Shared → Prop}

/-- a loop over a range, by an invariant over the turn's number, the names and the ledger -/
theorem rangeJ {I : Addr} {a : Int} {n : Nat} {m₀ : Str → Option Value} {news : Led} (J : Nat → (Str → Option Value) → Led → Prop) (h0 : J 0 m₀ news)
    (turn : ∀ i m news t h tk, i < n → J i m news → Fr h₀ env.locals h (fun y => if y = x then some (.int (a + (i : Int)) t) else m y) →
      News h₀ env.locals h ((I, itR (a + ((i + 1 : Nat) : Int)) ((n : Int) - ((i + 1 : Nat) : Int))) :: news) →
      wpAny (model prog w) A (execs body env) (UnrPost h₀ env.locals { s with heap := h, toks := tk } I (itR (a + ((i + 1 : Nat) : Int)) ((n : Int) - ((i + 1 : Nat) : Int))) (J (i + 1)) Q) E { s with heap := h, toks := tk })
    (done : ∀ m news h tk, J n m news → Fr h₀ env.locals h m → News h₀ env.locals h news → Q .next { s with heap := h, toks := tk }) :
    RangeRest prog w A E h₀ env x body Q s I a n n 0 m₀ news := by
  have key : ∀ (k i : Nat) (m : Str → Option Value) (news : Led), i + k = n → J i m news → RangeRest prog w A E h₀ env x body Q s I a n k i m news := by
    intro k
    induction k with
    | zero =>
      intro i m news e hj
      have e' : i = n := by omega
      subst e'
      exact RangeRest.zero fun h tk F N => done m news h tk hj F N
    | succ k ih =>
      intro i m news e hj
      refine RangeRest.succ fun t h tk F N => wpAny_mono (turn i m news t h tk (by omega) hj F N) (fun f s₂ p => ?_) fun _ _ e => e
      have up : UnrEnd h₀ env.locals { s with heap := h, toks := tk } I (itR (a + ((i + 1 : Nat) : Int)) ((n : Int) - ((i + 1 : Nat) : Int))) (J (i + 1)) s₂ →
          UnrEnd h₀ env.locals { s with heap := h, toks := tk } I (itR (a + ((i + 1 : Nat) : Int)) ((n : Int) - ((i + 1 : Nat) : Int))) (RangeRest prog w A E h₀ env x body Q s I a n k (i + 1)) s₂ := by
        rintro ⟨h', tk', m', nw, e1, e2, e3, e4, e5⟩
        exact ⟨h', tk', m', nw, e1, e2, e3, e4, ih (i + 1) m' nw (by omega) e5⟩
      cases f with
      | ret v => exact p
      | brk => exact p
      | next => exact up p
      | cont => exact up p
  exact key n 0 m₀ news (by omega) h0

/-- a loop over a list's values by one name -/
theorem listJ {I : Addr} {lp : Addr × Obj} {vs : List Value} {m₀ : Str → Option Value} {news : Led} (J : Nat → (Str → Option Value) → Led → Prop) (h0 : J 0 m₀ news)
    (turn : ∀ i v m news (it : Obj) h tk, vs[i]? = some v → J i m news → it.cls = .type "list_iterator" → Fr h₀ env.locals h (fun y => if y = x then some v else m y) → News h₀ env.locals h ((I, it) :: news) →
      wpAny (model prog w) A (execs body env) (UnrPost h₀ env.locals { s with heap := h, toks := tk } I it (fun m' n' => lp ∈ n' ∧ J (i + 1) m' n') Q) E { s with heap := h, toks := tk })
    (done : ∀ m news h tk, J vs.length m news → Fr h₀ env.locals h m → News h₀ env.locals h news → Q .next { s with heap := h, toks := tk }) :
    ListRest prog w A E h₀ env x body Q s I lp vs m₀ news := by
  have key : ∀ (r : List Value) (i : Nat) (m : Str → Option Value) (news : Led), r = vs.drop i → i ≤ vs.length → J i m news → ListRest prog w A E h₀ env x body Q s I lp r m news := by
    intro r
    induction r with
    | nil =>
      intro i m news e hle hj
      have hi : i = vs.length := Nat.le_antisymm hle (List.drop_eq_nil_iff.mp e.symm)
      subst hi
      exact ListRest.zero fun h tk F N => done m news h tk hj F N
    | cons v r ih =>
      intro i m news e hle hj
      have hlt : i < vs.length := by
        have := congrArg List.length e
        simp at this
        omega
      have hv : vs[i]? = some v := by
        have := congrArg List.head? e
        simpa [List.head?_drop] using this.symm
      have hr : r = vs.drop (i + 1) := by
        have := congrArg List.tail e
        simpa using this
      refine ListRest.succ fun it h tk hc F N => wpAny_mono (turn i v m news it h tk hv hj hc F N) (fun f s₂ p => ?_) fun _ _ e => e
      have up : UnrEnd h₀ env.locals { s with heap := h, toks := tk } I it (fun m' n' => lp ∈ n' ∧ J (i + 1) m' n') s₂ →
          UnrEnd h₀ env.locals { s with heap := h, toks := tk } I it (fun m' n' => lp ∈ n' ∧ ListRest prog w A E h₀ env x body Q s I lp r m' n') s₂ := by
        rintro ⟨h', tk', m', nw, e1, e2, e3, e4, e5, e6⟩
        exact ⟨h', tk', m', nw, e1, e2, e3, e4, e5, ih (i + 1) m' nw hr hlt e6⟩
      cases f with
      | ret v => exact p
      | brk => exact p
      | next => exact up p
      | cont => exact up p
  exact key vs 0 m₀ news rfl (Nat.zero_le _) h0

/-- a loop over items (any target), each given by its word -/
theorem itemsJ {ws : List (Addr × String)} {keep : Led} {xs : List Itm} {m₀ : Str → Option Value} {news : Led} (J : Nat → (Str → Option Value) → Led → Prop) (h0 : J 0 m₀ news)
    (turn : ∀ i a v m news h tk, xs[i]? = some a → a.Is v h → J i m news → Fr h₀ env.locals h m → AllObj ws (fun its => News h₀ env.locals h (its ++ news) →
      wpAny (model prog w) A (assign target env v) (fun _ s₂ => wpAny (model prog w) A (execs body env) (UnrPostW h₀ env.locals { s with heap := h, toks := tk } its (fun m' n' => SubL keep n' ∧ J (i + 1) m' n') Q) E s₂) E { s with heap := h, toks := tk }))
    (done : ∀ m news h tk, J xs.length m news → Fr h₀ env.locals h m → News h₀ env.locals h news → Q .next { s with heap := h, toks := tk }) :
    ItemsRest prog w A E h₀ env target body Q s ws keep xs m₀ news := by
  have key : ∀ (r : List Itm) (i : Nat) (m : Str → Option Value) (news : Led), r = xs.drop i → i ≤ xs.length → J i m news → ItemsRest prog w A E h₀ env target body Q s ws keep r m news := by
    intro r
    induction r with
    | nil =>
      intro i m news e hle hj
      have hi : i = xs.length := Nat.le_antisymm hle (List.drop_eq_nil_iff.mp e.symm)
      subst hi
      exact ItemsRest.zero fun h tk F N => done m news h tk hj F N
    | cons a r ih =>
      intro i m news e hle hj
      have hlt : i < xs.length := by
        have := congrArg List.length e
        simp at this
        omega
      have ha : xs[i]? = some a := by
        have := congrArg List.head? e
        simpa [List.head?_drop] using this.symm
      have hr : r = xs.drop (i + 1) := by
        have := congrArg List.tail e
        simpa using this
      intro v h tk hv F
      refine allObj_mono (fun its hN N => ?_) (turn i a v m news h tk ha hv hj F)
      refine wpAny_mono (hN N) (fun _ s₂ q => wpAny_mono q (fun f s₃ p => ?_) fun _ _ e => e) fun _ _ e => e
      have up : UnrEndW h₀ env.locals { s with heap := h, toks := tk } its (fun m' n' => SubL keep n' ∧ J (i + 1) m' n') s₃ →
          UnrEndW h₀ env.locals { s with heap := h, toks := tk } its (fun m' n' => SubL keep n' ∧ ItemsRest prog w A E h₀ env target body Q s ws keep r m' n') s₃ := by
        rintro ⟨h', tk', m', nw, e1, e2, e3, e4, e5, e6⟩
        exact ⟨h', tk', m', nw, e1, e2, e3, e4, e5, ih (i + 1) m' nw hr hlt e6⟩
      cases f with
      | ret v => exact p
      | brk => exact p
      | next => exact up p
      | cont => exact up p
  exact key xs 0 m₀ news rfl (Nat.zero_le _) h0

/-- a comprehension without a test, by an invariant over the turn's number, what is made so far and the ledger -/
theorem crestJ {elt : Expr} {scope : Scope} {cl : List (Str × Addr)} {S : Led → Prop} {P : Nat → Value → Prop} {Fin : List Value → Led → Prop} {n : Nat} {news : Led} (J : Nat → List Value → Led → Prop) (h0 : J 0 [] news)
    (turn : ∀ i ys news v I oI C oC D m₂ h tk (E' : Value → Shared → Prop), i < n → J i ys news → P i v → LCg.NsObj oC m₂ → m₂ x = some v → Fr h₀ L h m → News h₀ L h ((I, oI) :: (C, oC) :: (D, LCg.lst ys) :: news) → LCg.Off3 I C D news → ((@Ne Nat I C) ∧ (@Ne Nat I D) ∧ (@Ne Nat C D)) →
      wpAny (model prog w) A (eval elt (compEnvC scope cl C env)) (LCg.CompEnd h₀ L m { s with heap := h, toks := tk } I oI C oC D (LCg.lst ys) S (fun y news' => J (i + 1) (ys ++ [y]) news')) E' { s with heap := h, toks := tk })
    (fin : ∀ ys news, J n ys news → Fin ys news) : LCg.CompRest prog w A h₀ L m env elt x scope cl s S P Fin n 0 [] news := by
  have key : ∀ (k i : Nat) (ys : List Value) (news : Led), i + k = n → J i ys news → LCg.CompRest prog w A h₀ L m env elt x scope cl s S P Fin k i ys news := by
    intro k
    induction k with
    | zero =>
      intro i ys news e hj
      have e' : i = n := by omega
      subst e'
      exact LCg.CompRest.zero (fin ys news hj)
    | succ k ih =>
      intro i ys news e hj
      refine LCg.CompRest.succ ?_
      intro v I oI C oC D m₂ h tk E' hv hC hx F N off ne
      refine wpAny_mono (turn i ys news v I oI C oC D m₂ h tk E' (by omega) hj hv hC hx F N off ne) (fun y s₂ hq => ?_) fun _ _ e => e
      obtain ⟨h', tk', nw, e1, F', N', off', hS, hj'⟩ := hq
      exact ⟨h', tk', nw, e1, F', N', off', hS, ih (i + 1) _ nw (by omega) hj'⟩
  exact key n 0 [] news (by omega) h0

/-- a comprehension with one test -/
theorem crestTJ {ct elt : Expr} {scope : Scope} {cl : List (Str × Addr)} {S : Led → Prop} {P : Nat → Value → Prop} {Fin : List Value → Led → Prop} {n : Nat} {news : Led} (J : Nat → List Value → Led → Prop) (h0 : J 0 [] news)
    (turn : ∀ i ys news v I oI C oC D m₂ h tk (E' : Value → Shared → Prop), i < n → J i ys news → P i v → LCg.NsObj oC m₂ → m₂ x = some v → Fr h₀ L h m → News h₀ L h ((I, oI) :: (C, oC) :: (D, LCg.lst ys) :: news) → LCg.Off3 I C D news → ((@Ne Nat I C) ∧ (@Ne Nat I D) ∧ (@Ne Nat C D)) →
      wpAny (model prog w) A (isTrue ct (compEnvC scope cl C env) (eval ct (compEnvC scope cl C env))) (fun ok s' => if ok = true then
        wpAny (model prog w) A (eval elt (compEnvC scope cl C env)) (LCg.CompEnd h₀ L m { s with heap := h, toks := tk } I oI C oC D (LCg.lst ys) S (fun y news' => J (i + 1) (ys ++ [y]) news')) E' s'
        else LCg.CompEnd h₀ L m { s with heap := h, toks := tk } I oI C oC D (LCg.lst ys) S (fun _ news' => J (i + 1) ys news') Value.none s') E' { s with heap := h, toks := tk })
    (fin : ∀ ys news, J n ys news → Fin ys news) : LCt.CompRestT prog w A h₀ L m env ct elt x scope cl s S P Fin n 0 [] news := by
  have key : ∀ (k i : Nat) (ys : List Value) (news : Led), i + k = n → J i ys news → LCt.CompRestT prog w A h₀ L m env ct elt x scope cl s S P Fin k i ys news := by
    intro k
    induction k with
    | zero =>
      intro i ys news e hj
      have e' : i = n := by omega
      subst e'
      exact LCt.CompRestT.zero (fin ys news hj)
    | succ k ih =>
      intro i ys news e hj
      refine LCt.CompRestT.succ ?_
      intro v I oI C oC D m₂ h tk E' hv hC hx F N off ne
      refine wpAny_mono (turn i ys news v I oI C oC D m₂ h tk E' (by omega) hj hv hC hx F N off ne) (fun ok s₂ hq => ?_) fun _ _ e => e
      cases ok with
      | true =>
        simp only [if_true] at hq ⊢
        refine wpAny_mono hq (fun y s₃ hq => ?_) fun _ _ e => e
        obtain ⟨h', tk', nw, e1, F', N', off', hS, hj'⟩ := hq
        exact ⟨h', tk', nw, e1, F', N', off', hS, ih (i + 1) _ nw (by omega) hj'⟩
      | false =>
        simp only [Bool.false_eq_true, if_false] at hq ⊢
        obtain ⟨h', tk', nw, e1, F', N', off', hS, hj'⟩ := hq
        exact ⟨h', tk', nw, e1, F', N', off', hS, ih (i + 1) _ nw (by omega) hj'⟩
  exact key n 0 [] news (by omega) h0
end
end Mine
namespace Mine
theorem ne_up0 {d : Addr} {l : Led} (h : AllLt d l) : ∀ p ∈ l, p.1 ≠ d := fun p hp => Nat.ne_of_lt (ktn_ltOf h p hp)
theorem ne_up1 {d : Addr} {l : Led} (h : AllLt d l) : ∀ p ∈ l, p.1 ≠ d + 1 := fun p hp => Nat.ne_of_lt (Nat.lt_succ_of_lt (ktn_ltOf h p hp))
theorem ne_up2 {d : Addr} {l : Led} (h : AllLt d l) : ∀ p ∈ l, p.1 ≠ d + 1 + 1 := fun p hp => Nat.ne_of_lt (Nat.lt_succ_of_lt (Nat.lt_succ_of_lt (ktn_ltOf h p hp)))
theorem ne_up3 {d : Addr} {l : Led} (h : AllLt d l) : ∀ p ∈ l, p.1 ≠ d + 1 + 1 + 1 := fun p hp => Nat.ne_of_lt (Nat.lt_succ_of_lt (Nat.lt_succ_of_lt (Nat.lt_succ_of_lt (ktn_ltOf h p hp))))
theorem allLt_app {d : Addr} : ∀ {l l' : Led}, AllLt d (l ++ l') ↔ AllLt d l ∧ AllLt d l'
  | [], l' => by simp [AllLt]
  | p :: r, l' => by
    show (p.1 < d ∧ AllLt d (r ++ l')) ↔ (p.1 < d ∧ AllLt d r) ∧ AllLt d l'
    rw [allLt_app (l := r)]
    exact and_assoc.symm
end Mine
end
section
open PySem PySem.W PyProof.Rows
namespace Mine
/-- what a call of the def at `f` on `vs` gives back, from every state in which `news` stands -/
def Claim (w : World) (f : Addr) (dep uns : Nat) (vs : List Value) (news : Led) (Post : Value → Led → Prop) : Prop :=
  ∀ (mean : ExcName → Option Value) (mg mb : Str → Option Value) (dp un : Nat) (gd : Option (List Code)) (cn : Str) (cs : Scope) (a : Addr) (ccd : Value) (cl : List (Str × Addr)) (outer : List Env) (A₀ : Around) (base h₀ : Heap) (L : Addr) (m : Str → Option Value) (s : Shared) (Q E : Value → Shared → Prop),
    Below A₀ base outer h₀ → Fr h₀ L s.heap m → (Mine.hd.heap_39 w.params).In h₀ → News h₀ L s.heap news → Top Mine.hd.view_39 (looseW Mine.hd.view_39 []) mean mg mb h₀ → cs.kind = .function →
    dp + dep < recursionLimit → un + uns < cLine →
    (∀ r tl h' tk', Fr h₀ L h' m → News h₀ L h' (tl ++ news) → Post r tl → Q r { s with heap := h', toks := tk' }) →
    wpAny (model PySem.Challenge.rw_pb0153_01.row.toRowW.prog w) (ktrTop dp un gd cn cs L a ccd cl outer) (call (.ref f) vs) Q E s
theorem Claim.use {w : World} {f : Addr} {dep uns : Nat} {vs : List Value} {news : Led} {Post : Value → Led → Prop} (C : Claim w f dep uns vs news Post)
    {mean : ExcName → Option Value} {mg mb : Str → Option Value} {dp un : Nat} {gd : Option (List Code)} {cn : Str} {cs : Scope} {a : Addr} {ccd : Value} {cl : List (Str × Addr)} {outer : List Env} {A₀ : Around} {base h₀ : Heap} {L : Addr} {m : Str → Option Value} {s : Shared} {Q E : Value → Shared → Prop}
    (B : Below A₀ base outer h₀) (F : Fr h₀ L s.heap m) (X : (Mine.hd.heap_39 w.params).In h₀) (N : News h₀ L s.heap news) (T : Top Mine.hd.view_39 (looseW Mine.hd.view_39 []) mean mg mb h₀) (hk : cs.kind = .function)
    (hd : dp + dep < recursionLimit) (hu : un + uns < cLine)
    (ret : ∀ r tl h' tk', Fr h₀ L h' m → News h₀ L h' (tl ++ news) → Post r tl → Q r { s with heap := h', toks := tk' }) :
    wpAny (model PySem.Challenge.rw_pb0153_01.row.toRowW.prog w) (ktrTop dp un gd cn cs L a ccd cl outer) (call (.ref f) vs) Q E s :=
  C mean mg mb dp un gd cn cs a ccd cl outer A₀ base h₀ L m s Q E B F X N T hk hd hu ret
end Mine
end
section
theorem Mine.offC1 : True := by
  w_top off
  trivial
local macro_rules | `(tactic| walk_at "pad") => `(tactic| skip)
local macro_rules | `(tactic| walk_at "pad") => `(tactic| skip)
local macro_rules | `(tactic| walk_at "pad") => `(tactic| skip)
local macro_rules | `(tactic| walk_at "pad") => `(tactic| skip)
local macro_rules | `(tactic| walk_at "pad") => `(tactic| skip)
local macro_rules | `(tactic| walk_at "pad") => `(tactic| skip)
local macro_rules | `(tactic| walk_at "pad") => `(tactic| skip)
local macro_rules | `(tactic| walk_at "pad") => `(tactic| skip)
local macro_rules | `(tactic| walk_at "pad") => `(tactic| skip)
local macro_rules | `(tactic| walk_at "pad") => `(tactic| skip)
local macro_rules | `(tactic| walk_at "pad") => `(tactic| skip)
local macro_rules | `(tactic| walk_at "pad") => `(tactic| skip)
local macro_rules | `(tactic| walk_at "pad") => `(tactic| skip)
local macro_rules | `(tactic| walk_at "pad") => `(tactic| skip)
local macro_rules | `(tactic| walk_at "pad") => `(tactic| skip)
local macro_rules | `(tactic| walk_at "pad") => `(tactic| skip)
local macro_rules | `(tactic| walk_at "pad") => `(tactic| skip)
local macro_rules | `(tactic| walk_at "pad") => `(tactic| skip)
local macro_rules | `(tactic| walk_at "pad") => `(tactic| skip)
local macro_rules | `(tactic| walk_at "pad") => `(tactic| skip)
local macro_rules | `(tactic| walk_at "pad") => `(tactic| skip)
local macro_rules | `(tactic| walk_at "pad") => `(tactic| skip)
local macro_rules | `(tactic| walk_at "pad") => `(tactic| skip)
local macro_rules | `(tactic| walk_at "pad") => `(tactic| skip)
local macro_rules | `(tactic| walk_at "pad") => `(tactic| skip)
local macro_rules | `(tactic| walk_at "pad") => `(tactic| skip)
local macro_rules | `(tactic| walk_at "pad") => `(tactic| skip)
local macro_rules | `(tactic| walk_at "pad") => `(tactic| skip)
local macro_rules | `(tactic| walk_at "pad") => `(tactic| skip)
local macro_rules | `(tactic| walk_at "pad") => `(tactic| skip)
local macro_rules | `(tactic| walk_at "pad") => `(tactic| skip)
local macro_rules | `(tactic| walk_at "pad") => `(tactic| skip)
local macro_rules | `(tactic| walk_at "pad") => `(tactic| skip)
local macro_rules | `(tactic| walk_at "pad") => `(tactic| skip)
local macro_rules | `(tactic| walk_at "pad") => `(tactic| skip)
local macro_rules | `(tactic| walk_at "pad") => `(tactic| skip)
local macro_rules | `(tactic| walk_at "pad") => `(tactic| skip)
local macro_rules | `(tactic| walk_at "pad") => `(tactic| skip)
local macro_rules | `(tactic| walk_at "pad") => `(tactic| skip)
local macro_rules | `(tactic| walk_at "pad") => `(tactic| skip)
open PySem PySem.W PyProof.Rows
namespace Mine
def joinsOn (x : Str) : Bool := (x == Str.ofString "D") || (x == Str.ofString "C")
def joinsBack (x : Str) : Bool := (x == Str.ofString "D") || (x == Str.ofString "C") || (x == Str.ofString "R")
def formOf (a b : Bool) : Str := if a then (if b then Str.ofString "medi" else Str.ofString "fina") else (if b then Str.ofString "init" else Str.ofString "isol")
theorem vstr {a b : Str} {t : Tok} (h : a = b) : ∃ t', Value.str a t = Value.str b t' := ⟨t, h ▸ rfl⟩
theorem joins_on_c (w : World) (news : Led) (x : Str) (t : Tok) : Claim w 61 1 8 [.str x t] news (fun r tl => r = .bool (joinsOn x) ∧ tl = []) := by
  unfold Claim; k_fill
  intro mean mg mb dp un gd cn cs a ccd cl outer A₀ base h₀ L m s Q E B F X N T hk hd hu hret
  refine wpAny_call ?_
  k_dflt cell_enter
  k_steps
  all_goals exact hret _ [] _ _ (by k_asm) (by k_asm) ⟨by simp [joinsOn, *], rfl⟩
theorem joins_back_c (w : World) (news : Led) (x : Str) (t : Tok) : Claim w 68 1 8 [.str x t] news (fun r tl => r = .bool (joinsBack x) ∧ tl = []) := by
  unfold Claim; k_fill
  intro mean mg mb dp un gd cn cs a ccd cl outer A₀ base h₀ L m s Q E B F X N T hk hd hu hret
  refine wpAny_call ?_
  k_dflt cell_enter
  k_steps
  all_goals exact hret _ [] _ _ (by k_asm) (by k_asm) ⟨by simp [joinsBack, *], rfl⟩
theorem form_of_c (w : World) (news : Led) (x y : Bool) : Claim w 82 1 8 [.bool x, .bool y] news (fun r tl => (∃ t, r = .str (formOf x y) t) ∧ tl = []) := by
  unfold Claim; k_fill
  intro mean mg mb dp un gd cn cs a ccd cl outer A₀ base h₀ L m s Q E B F X N T hk hd hu hret
  refine wpAny_call ?_
  k_dflt cell_enter
  k_steps
  all_goals exact hret _ [] _ _ (by k_asm) (by k_asm) ⟨vstr (by simp [formOf, *]), rfl⟩
end Mine
end
section
theorem Mine.offC2 : True := by
  w_top off
  trivial
open PySem PySem.W PyProof.Rows
namespace Mine
/-- a list's values are pairs of ints, borne by the ledger -/
inductive Pairs (N : Led) : List Value → List (Int × Int) → Prop
  | nil : Pairs N [] []
  | cons {T : Addr} {a b : Int} {ta tb : Tok} {vs : List Value} {ps : List (Int × Int)} {n : Nat} : (T, ({ cls := .type "tuple", data := .seq #[.int a ta, .int b tb] n } : Obj)) ∈ N → Pairs N vs ps → Pairs N (.ref T :: vs) ((a, b) :: ps)
theorem Pairs.mono {N N' : Led} (h : ∀ p ∈ N, p ∈ N') : ∀ {vs : List Value} {ps : List (Int × Int)}, Pairs N vs ps → Pairs N' vs ps
  | _, _, .nil => .nil
  | _, _, .cons hm r => .cons (h _ hm) (r.mono h)
def passedR : List (Int × Int) := [(173, 173), (768, 879), (1552, 1562), (1564, 1564), (1611, 1631), (1648, 1648), (1750, 1756), (1759, 1764), (1767, 1768), (1770, 1773), (8203, 8203), (8206, 8207), (8234, 8238), (8288, 8292), (65024, 65039), (65279, 65279), (917760, 917999)]
def dualR : List (Int × Int) := [(1568, 1568), (1574, 1574), (1576, 1576), (1578, 1582), (1587, 1599), (1601, 1607), (1609, 1610), (1646, 1647), (1656, 1671), (1690, 1727), (1729, 1730), (1740, 1740), (1742, 1742), (1744, 1745), (1786, 1788), (1791, 1791)]
def rightR : List (Int × Int) := [(1570, 1573), (1575, 1575), (1577, 1577), (1583, 1586), (1608, 1608), (1649, 1651), (1653, 1655), (1672, 1689), (1728, 1728), (1731, 1739), (1741, 1741), (1743, 1743), (1746, 1747), (1749, 1749), (1774, 1775)]
def PairsOut (ps : List (Int × Int)) (r : Value) (tl : Led) : Prop := ∃ l vs n, r = .ref l ∧ (l, listOf (List.toArray vs) n) ∈ tl ∧ Pairs tl vs ps
theorem passed_c (w : World) (news : Led) : Claim w 42 1 8 [] news (PairsOut passedR) := by
  unfold Claim; k_fill
  intro mean mg mb dp un gd cn cs a ccd cl outer A₀ base h₀ L m s Q E B F X N T hk hd hu hret
  refine wpAny_call ?_
  k_dflt cell_enter
  k_steps
  refine hret _ [_, _, _, _, _, _, _, _, _, _, _, _, _, _, _, _, _, _] _ _ (by k_asm) (by k_asm) ⟨_, _, _, rfl, .head _, ?_⟩
  repeat (refine Pairs.cons (by k_mem) ?_)
  exact .nil
theorem dual_c (w : World) (news : Led) : Claim w 35 1 8 [] news (PairsOut dualR) := by
  unfold Claim; k_fill
  intro mean mg mb dp un gd cn cs a ccd cl outer A₀ base h₀ L m s Q E B F X N T hk hd hu hret
  refine wpAny_call ?_
  k_dflt cell_enter
  k_steps
  refine hret _ [_, _, _, _, _, _, _, _, _, _, _, _, _, _, _, _, _] _ _ (by k_asm) (by k_asm) ⟨_, _, _, rfl, .head _, ?_⟩
  repeat (refine Pairs.cons (by k_mem) ?_)
  exact .nil
theorem right_c (w : World) (news : Led) : Claim w 28 1 8 [] news (PairsOut rightR) := by
  unfold Claim; k_fill
  intro mean mg mb dp un gd cn cs a ccd cl outer A₀ base h₀ L m s Q E B F X N T hk hd hu hret
  refine wpAny_call ?_
  k_dflt cell_enter
  k_steps
  refine hret _ [_, _, _, _, _, _, _, _, _, _, _, _, _, _, _, _] _ _ (by k_asm) (by k_asm) ⟨_, _, _, rfl, .head _, ?_⟩
  repeat (refine Pairs.cons (by k_mem) ?_)
  exact .nil
end Mine
end
section
theorem Mine.offC3 : True := by
  w_top off
  trivial
local macro_rules | `(tactic| walk_at "pad") => `(tactic| skip)
local macro_rules | `(tactic| walk_at "pad") => `(tactic| skip)
local macro_rules | `(tactic| walk_at "pad") => `(tactic| skip)
local macro_rules | `(tactic| walk_at "pad") => `(tactic| skip)
local macro_rules | `(tactic| walk_at "pad") => `(tactic| skip)
local macro_rules | `(tactic| walk_at "pad") => `(tactic| skip)
local macro_rules | `(tactic| walk_at "pad") => `(tactic| skip)
local macro_rules | `(tactic| walk_at "pad") => `(tactic| skip)
local macro_rules | `(tactic| walk_at "pad") => `(tactic| skip)
local macro_rules | `(tactic| walk_at "pad") => `(tactic| skip)
local macro_rules | `(tactic| walk_at "pad") => `(tactic| skip)
local macro_rules | `(tactic| walk_at "pad") => `(tactic| skip)
local macro_rules | `(tactic| walk_at "pad") => `(tactic| skip)
local macro_rules | `(tactic| walk_at "pad") => `(tactic| skip)
local macro_rules | `(tactic| walk_at "pad") => `(tactic| skip)
local macro_rules | `(tactic| walk_at "pad") => `(tactic| skip)
local macro_rules | `(tactic| walk_at "pad") => `(tactic| skip)
local macro_rules | `(tactic| walk_at "pad") => `(tactic| skip)
local macro_rules | `(tactic| walk_at "pad") => `(tactic| skip)
local macro_rules | `(tactic| walk_at "pad") => `(tactic| skip)
local macro_rules | `(tactic| walk_at "pad") => `(tactic| skip)
local macro_rules | `(tactic| walk_at "pad") => `(tactic| skip)
local macro_rules | `(tactic| walk_at "pad") => `(tactic| skip)
local macro_rules | `(tactic| walk_at "pad") => `(tactic| skip)
local macro_rules | `(tactic| walk_at "pad") => `(tactic| skip)
local macro_rules | `(tactic| walk_at "pad") => `(tactic| skip)
local macro_rules | `(tactic| walk_at "pad") => `(tactic| skip)
local macro_rules | `(tactic| walk_at "pad") => `(tactic| skip)
local macro_rules | `(tactic| walk_at "pad") => `(tactic| skip)
local macro_rules | `(tactic| walk_at "pad") => `(tactic| skip)
local macro_rules | `(tactic| walk_at "pad") => `(tactic| skip)
local macro_rules | `(tactic| walk_at "pad") => `(tactic| skip)
local macro_rules | `(tactic| walk_at "pad") => `(tactic| skip)
local macro_rules | `(tactic| walk_at "pad") => `(tactic| skip)
local macro_rules | `(tactic| walk_at "pad") => `(tactic| skip)
local macro_rules | `(tactic| walk_at "pad") => `(tactic| skip)
local macro_rules | `(tactic| walk_at "pad") => `(tactic| skip)
local macro_rules | `(tactic| walk_at "pad") => `(tactic| skip)
local macro_rules | `(tactic| walk_at "pad") => `(tactic| skip)
local macro_rules | `(tactic| walk_at "pad") => `(tactic| skip)
open PySem PySem.W PyProof.Rows
namespace Mine
theorem look1 (y a : Str) (u : Value) : List.lookup y [(a, u)] = if y = a then some u else none := by
  rw [List.lookup_cons]
  by_cases h : y = a
  · subst h; simp
  · have : (y == a) = false := by simpa using h
    rw [this, if_neg h]; rfl
theorem look2 (y a b : Str) (u v : Value) : List.lookup y [(a, u), (b, v)] = if y = a then some u else if y = b then some v else none := by
  rw [List.lookup_cons, look1]
  by_cases h : y = a
  · subst h; simp
  · have : (y == a) = false := by simpa using h
    rw [this, if_neg h]
theorem fr1 {h₀ h : Heap} {L : Addr} {a : Str} {u : Value} (F : Fr h₀ L h (fun y => List.lookup y [(a, u)])) : Fr h₀ L h (fun y => if y = a then some u else none) := by
  have e : (fun y => List.lookup y [(a, u)]) = fun y => if y = a then some u else none := funext fun y => look1 y a u
  rw [← e]; exact F
theorem fr2 {h₀ h : Heap} {L : Addr} {a b : Str} {u v : Value} (F : Fr h₀ L h (fun y => List.lookup y [(a, u), (b, v)])) : Fr h₀ L h (fun y => if y = a then some u else if y = b then some v else none) := by
  have e : (fun y => List.lookup y [(a, u), (b, v)]) = fun y => if y = a then some u else if y = b then some v else none := funext fun y => look2 y a b u v
  rw [← e]; exact F
def inR (ps : List (Int × Int)) (c : Int) : Bool := ps.any fun p => decide (p.1 ≤ c) && decide (c ≤ p.2)
theorem Pairs.length {N : Led} : ∀ {vs : List Value} {ps : List (Int × Int)}, Pairs N vs ps → vs.length = ps.length
  | _, _, .nil => rfl
  | _, _, .cons _ r => congrArg (· + 1) r.length
theorem Pairs.get {N : Led} : ∀ {vs : List Value} {ps : List (Int × Int)}, Pairs N vs ps → ∀ (i : Nat) (v : Value), vs[i]? = some v →
    ∃ T a b ta tb n, v = .ref T ∧ ps[i]? = some (a, b) ∧ (T, ({ cls := .type "tuple", data := .seq #[.int a ta, .int b tb] n } : Obj)) ∈ N
  | _, _, .nil, _, _, h => by simp at h
  | _, _, .cons (T := T) (a := a) (b := b) (ta := ta) (tb := tb) (n := n) hm _, 0, v, h => ⟨T, a, b, ta, tb, n, by simpa using h.symm, rfl, hm⟩
  | _, _, .cons _ r, i + 1, v, h => by simpa using r.get i v (by simpa using h)
local macro_rules | `(tactic| k_mem) => `(tactic| assumption)
theorem in_ranges_c (w : World) (news : Led) (l : Addr) (vs : List Value) (n : Nat) (ps : List (Int × Int)) (c : Int) (t : Tok) (hl : (l, listOf vs.toArray n) ∈ news) (hp : Pairs news vs ps) :
    Claim w 21 1 8 [.ref l, .int c t] news (fun r tl => r = .bool (inR ps c) ∧ tl = []) := by
  unfold Claim; k_fill
  intro mean mg mb dp un gd cn cs a ccd cl outer A₀ base h₀ L m s Q E B F X N T hk hd hu hret
  refine wpAny_call ?_
  k_dflt cell_enter
  walk1
  walk1
  (rename Fr _ _ _ _ => lF')
  (rename News _ _ _ _ => lN')
  replace lF' := fr2 (a := Str.ofString "code") (u := .int c t) (b := Str.ofString "ranges") (v := .ref l) lF'
  with_unfolding_all refine' For_turns lF' ?_
  walk1
  refine iter_listTurns (lo := listOf vs.toArray n) (vs := vs) (by rfl) lF' lN' hl (by rfl) (by rfl) ?_
  intro I l1
  refine itemsJ (fun i m nx => nx = news ∧ (∃ u1 u2, m = fun y => if y = Str.ofString "first" then u1 else if y = Str.ofString "last" then u2 else if y = Str.ofString "code" then some (.int c t) else if y = Str.ofString "ranges" then some (.ref l) else none) ∧ ∀ p ∈ ps.take i, ¬ (p.1 ≤ c ∧ c ≤ p.2)) ?h0 ?turn ?done
  case h0 =>
    refine ⟨rfl, ⟨none, none, ?_⟩, by simp⟩
    funext y
    by_cases h1 : y = Str.ofString "first"
    · subst h1; rfl
    · by_cases h2 : y = Str.ofString "last"
      · subst h2; rfl
      · simp only [if_neg h1, if_neg h2]
  case turn =>
    rintro i x v m' nw h tk hx hv ⟨rfl, ⟨u1, u2, rfl⟩, hno⟩ F1
    have hx' : (vs.map Itm.val)[i]? = some x := hx
    rw [List.getElem?_map] at hx'
    obtain ⟨v', hv', rfl⟩ := Option.map_eq_some_iff.mp hx'
    obtain rfl : v = v' := hv
    obtain ⟨T1, a1, b1, ta, tb, n1, rfl, hps, hm⟩ := hp.get i _ hv'
    ktu_objs
    dsimp only
    k_fold
    k_steps
    · exact hret _ [] _ _ (by k_asm) (fun p hp => News.right (a := [(I, _)]) (by k_asm) p hp) ⟨by
        have : inR ps c = true := List.any_eq_true.mpr ⟨(a1, b1), List.mem_of_getElem? hps, by simp [*]⟩
        rw [this], rfl⟩
    all_goals
      refine ⟨_, _, _, nw, rfl, by assumption, by assumption, ?_, ⟨hl, trivial⟩, rfl, ⟨some (.int a1 ta), some (.int b1 tb), ?_⟩, ?_⟩
      · intro p hp q hq
        rw [List.mem_singleton.mp hq]
        exact Nat.ne_of_lt (l1 p hp)
      · funext y
        by_cases e1 : y = Str.ofString "first"
        · subst e1; rfl
        · by_cases e2 : y = Str.ofString "last"
          · subst e2; rfl
          · simp only [if_neg e1, if_neg e2]
      · intro p hp
        rw [List.take_add_one, hps] at hp
        rcases List.mem_append.mp hp with hp | hp
        · exact hno p hp
        · simp at hp
          subst hp
          show ¬ (a1 ≤ c ∧ c ≤ b1)
          omega
  case done =>
    rintro m' nw h tk ⟨rfl, ⟨u1, u2, rfl⟩, hno⟩ F1 N1
    dsimp only
    k_steps
    all_goals exact hret _ [] _ _ (by k_asm) (by k_asm) ⟨by
        have : inR ps c = false := by
          rw [List.length_map, hp.length, List.take_length] at hno
          rw [inR, List.any_eq_false]
          intro p hp
          have := hno p hp
          simpa using this
        rw [this], rfl⟩
end Mine
end
section
theorem Mine.offC4 : True := by
  w_top off
  trivial
open PySem PySem.W PyProof.Rows
namespace Mine
def tyOf (c : Int) : Str := if c = 8205 ∨ c = 1600 then Str.ofString "C" else if inR passedR c then Str.ofString "T" else if inR dualR c then Str.ofString "D" else if inR rightR c then Str.ofString "R" else Str.ofString "U"
section
local macro_rules | `(tactic| walk_at "use") => `(tactic| ((case k1 => k_asm); (case k2 => k_asm); (case k3 => k_asm); (case k4 => k_asm); (case k5 => k_asm); (case kK => first | exact rfl | assumption); (case kd => ktr_room); (case ku => ktr_units)))
local macro_rules | `(tactic| walk_at "useR") => `(tactic| (walk_at "use"; intro r9 tl9 h9 tk9 F9 N9 p9; obtain ⟨l9, vs9, n9, e9, m9, q9⟩ := p9; subst e9; (try dsimp only); (try k_fold)))
local macro_rules | `(tactic| walk_at "call ref") => `(tactic| (k_here; first
  | (k_dflt (refine' Claim.use (passed_c _ _) ?k1 ?k2 ?k3 ?k4 ?k5 ?kK ?kd ?ku ?_); walk_at "useR")
  | (k_dflt (refine' Claim.use (dual_c _ _) ?k1 ?k2 ?k3 ?k4 ?k5 ?kK ?kd ?ku ?_); walk_at "useR")
  | (k_dflt (refine' Claim.use (right_c _ _) ?k1 ?k2 ?k3 ?k4 ?k5 ?kK ?kd ?ku ?_); walk_at "useR")
  | (k_dflt (refine' Claim.use (in_ranges_c _ _ _ _ _ _ _ _ ?hl ?hp) ?k1 ?k2 ?k3 ?k4 ?k5 ?kK ?kd ?ku ?_); walk_at "use"; (case hl => exact List.mem_append.mpr (.inl (by assumption))); (case hp => exact Pairs.mono (fun _ h => List.mem_append.mpr (.inl h)) (by assumption)); intro r9 tl9 h9 tk9 F9 N9 p9; obtain ⟨e9, e8⟩ := p9; subst e9 e8; rw [List.nil_append] at N9; (try dsimp only); (try k_fold))))
theorem joining_type_c (w : World) (news : Led) (c : Int) (t : Tok) : Claim w 49 2 16 [.int c t] news (fun r tl => (∃ t, r = .str (tyOf c) t) ∧ tl = []) := by
  unfold Claim; k_fill
  intro mean mg mb dp un gd cn cs a ccd cl outer A₀ base h₀ L m s Q E B F X N T hk hd hu hret
  refine wpAny_call ?_
  k_dflt cell_enter
  k_steps
  all_goals exact hret _ [] _ _ (by k_asm) (cb_drop (news' := _) (by assumption) (by intro p hp; first | exact hp | (simp only [List.mem_append, List.nil_append] at hp ⊢; simp only [hp, or_true]))) ⟨vstr (by simp [tyOf, *]), rfl⟩
end
end Mine
end
section
theorem Mine.offC5 : True := by
  w_top off
  trivial
local macro_rules | `(tactic| walk_at "pad") => `(tactic| skip)
local macro_rules | `(tactic| walk_at "pad") => `(tactic| skip)
local macro_rules | `(tactic| walk_at "pad") => `(tactic| skip)
local macro_rules | `(tactic| walk_at "pad") => `(tactic| skip)
local macro_rules | `(tactic| walk_at "pad") => `(tactic| skip)
local macro_rules | `(tactic| walk_at "pad") => `(tactic| skip)
local macro_rules | `(tactic| walk_at "pad") => `(tactic| skip)
local macro_rules | `(tactic| walk_at "pad") => `(tactic| skip)
local macro_rules | `(tactic| walk_at "pad") => `(tactic| skip)
local macro_rules | `(tactic| walk_at "pad") => `(tactic| skip)
local macro_rules | `(tactic| walk_at "pad") => `(tactic| skip)
local macro_rules | `(tactic| walk_at "pad") => `(tactic| skip)
local macro_rules | `(tactic| walk_at "pad") => `(tactic| skip)
local macro_rules | `(tactic| walk_at "pad") => `(tactic| skip)
local macro_rules | `(tactic| walk_at "pad") => `(tactic| skip)
local macro_rules | `(tactic| walk_at "pad") => `(tactic| skip)
local macro_rules | `(tactic| walk_at "pad") => `(tactic| skip)
local macro_rules | `(tactic| walk_at "pad") => `(tactic| skip)
local macro_rules | `(tactic| walk_at "pad") => `(tactic| skip)
local macro_rules | `(tactic| walk_at "pad") => `(tactic| skip)
local macro_rules | `(tactic| walk_at "pad") => `(tactic| skip)
local macro_rules | `(tactic| walk_at "pad") => `(tactic| skip)
local macro_rules | `(tactic| walk_at "pad") => `(tactic| skip)
local macro_rules | `(tactic| walk_at "pad") => `(tactic| skip)
local macro_rules | `(tactic| walk_at "pad") => `(tactic| skip)
local macro_rules | `(tactic| walk_at "pad") => `(tactic| skip)
local macro_rules | `(tactic| walk_at "pad") => `(tactic| skip)
local macro_rules | `(tactic| walk_at "pad") => `(tactic| skip)
local macro_rules | `(tactic| walk_at "pad") => `(tactic| skip)
local macro_rules | `(tactic| walk_at "pad") => `(tactic| skip)
local macro_rules | `(tactic| walk_at "pad") => `(tactic| skip)
local macro_rules | `(tactic| walk_at "pad") => `(tactic| skip)
local macro_rules | `(tactic| walk_at "pad") => `(tactic| skip)
local macro_rules | `(tactic| walk_at "pad") => `(tactic| skip)
local macro_rules | `(tactic| walk_at "pad") => `(tactic| skip)
local macro_rules | `(tactic| walk_at "pad") => `(tactic| skip)
local macro_rules | `(tactic| walk_at "pad") => `(tactic| skip)
local macro_rules | `(tactic| walk_at "pad") => `(tactic| skip)
local macro_rules | `(tactic| walk_at "pad") => `(tactic| skip)
local macro_rules | `(tactic| walk_at "pad") => `(tactic| skip)
open PySem PySem.W PyProof.Rows PyProof.V
namespace Mine
section
local macro_rules | `(tactic| walk_at "stop") => `(tactic| first
  | (with_reducible show wpAny _ _ (exec (Stmt.For _ _ _ _ _) _) _ _ _)
  | (with_reducible show wpAny _ _ (eval (Expr.ListComp _ _ _ _) _) _ _ _)
  | (with_reducible show wpAny _ _ (exec (Stmt.Assign _ (Expr.ListComp _ _ _ _) _) _) _ _ _))
local macro_rules | `(tactic| walk_at "go") => `(tactic| repeat' (first | (k_unfold; (try dsimp only)) | ((fail_if_success walk_at "stop"); first | (k_end; wrow_close) | walk1 | (dsimp only; walk1) | (leave1; walk_say "STEP leave1"; try dsimp only) | fail "no step")))
local macro_rules | `(tactic| walk_at "enterC") => `(tactic| (refine' code_defC ?k1 ?k2 ?k3 ?k4 ?k5 ?kA ?kF ?kK ?k6 ?k7 ?k8 ?k9 ?kB ?kD ?_ ?c2 ?c3 ?c4; (case kA => exact rfl); (case kF => exact rfl); (case kK => assumption); (case k1 => k_asm); (case k2 => k_asm); (case k3 => k_asm); (case k4 => k_asm); (case k5 => k_asm); (case k6 => k_is); (case k7 => k_is); (case k8 => ktr_room); (case k9 => exact BindsTo.of_eq rfl); (case kB => exact rfl); (case kD => decide +kernel); (case c2 => exact rfl); (case c3 => exact rfl); (case c4 => exact rfl); k_whole; intro g' L' h' tk' cells' FG' F' N' Y' B' X' T' l1; (try k_lt l1); k_cells Y'; (try simp only [List.cons_append, List.nil_append] at N'); (try dsimp only); (try k_lift B'); (try k_fold)))
local macro_rules | `(tactic| walk_at "use") => `(tactic| ((case k1 => k_asm); (case k2 => k_asm); (case k3 => k_asm); (case k4 => k_asm); (case k5 => k_asm); (case kK => first | exact rfl | assumption); (case kd => ktr_room); (case ku => ktr_units)))
local macro_rules | `(tactic| walk_at "call ref") => `(tactic| (k_here; first
  | (k_dflt (refine' Claim.use (joining_type_c _ _ _ _) ?k1 ?k2 ?k3 ?k4 ?k5 ?kK ?kd ?ku ?_); walk_at "use"; intro r9 tl9 h9 tk9 F9 N9 p9; obtain ⟨⟨t9, e9⟩, e8⟩ := p9; subst e9 e8; rw [List.nil_append] at N9; (try dsimp only); (try k_fold))))
local macro_rules | `(tactic| walk_at "lt") => `(tactic| first | assumption | exact allLt_of (by assumption) | exact And.right (by assumption) | exact And.right (And.right (by assumption)) | exact And.right (And.right (And.right (by assumption))))
local macro_rules | `(tactic| k_all) => `(tactic| first | exact ne_up0 (by walk_at "lt") | exact ne_up1 (by walk_at "lt") | exact ne_up2 (by walk_at "lt") | exact ne_up3 (by walk_at "lt"))
local macro_rules | `(tactic| k_mem) => `(tactic| assumption)
def kD (ks : List Int) : List (PyData × PyData) := ks.map fun k => (PyData.int k, PyData.str (tyOf k))
theorem kD_look (c : Int) : ∀ ks : List Int, PySem.Spec.lookup (PyData.int c) (kD ks) = if c ∈ ks then some (PyData.str (tyOf c)) else none
  | [] => rfl
  | k :: ks => by
    show (if PySem.Spec.same (PyData.int k) (PyData.int c) = true then some (PyData.str (tyOf k)) else PySem.Spec.lookup (PyData.int c) (kD ks)) = _
    rw [PyProof.V.same_int, kD_look c ks]
    by_cases h : k = c
    · subst h; simp
    · have h' : c ≠ k := fun e => h e.symm
      simp [h, h']
theorem kD_put {c : Int} {ks : List Int} (h : c ∉ ks) : putD (PyData.int c) (PyData.str (tyOf c)) (kD ks) = kD (ks ++ [c]) := by
  have hn : ((kD ks).any fun p => PySem.Spec.same p.1 (PyData.int c)) = false := by
    rw [List.any_eq_false]
    intro p hp
    obtain ⟨k, hk, rfl⟩ := List.mem_map.mp hp
    rw [PyProof.V.same_int]
    simp only [decide_eq_true_eq]
    intro e
    exact h (e ▸ hk)
  unfold putD
  rw [hn]
  simp [kD]
theorem types_of_c (w : World) (news : Led) (l : Addr) (vs : List Value) (n : Nat) (xs : List Int) (hl : (l, listOf vs.toArray n) ∈ news) (hi : IntsAre vs xs) (hn : xs.length ≤ 1000) :
    Claim w 54 3 24 [.ref l] news (fun r tl => ∃ D us n', r = .ref D ∧ tl = [(D, listOf (List.toArray us) n')] ∧ StrsAre us (xs.map tyOf) ∧ LCg.Off1 D news) := by
  unfold Claim; k_fill
  intro mean mg mb dp un gd cn cs a ccd cl outer A₀ base h₀ L m s Q E B F X N T hk hd hu hret
  refine wpAny_call ?_
  k_dflt walk_at "enterC"
  walk_at "go"
  rename_i g1 L1 hq tq FG B1 X1 T1 lL oc0 dC0 D hp1 oD lo hs fs hiD fiD lD hp2 oc F1 N1 dC
  replace F1 : Fr _ _ _ (fun y => if y = Str.ofString "codes" then some (.ref l) else none) := F1
  with_unfolding_all refine' For_invVF F1 ?k1 ?k2 ?_; (case k1 => exact rfl); (case k2 => exact rfl)
  walk1
  refine iter_listUnr (lo := listOf vs.toArray n) (vs := vs) (by rfl) F1 N1 (.tail _ (.tail _ hl)) (by rfl) (by rfl) ?_
  intro I lI; k_lt lI
  refine listJ (fun i m nx => ∃ o kvs ks, nx = (D, o) :: (L1 + 1, oc) :: news ∧ o.IsDictOf (PySem.intKind PySem.Challenge.rw_pb0153_01.row.toRowW.prog w) kvs ∧ PyProof.V.FlatPairs PyData.int kvs (kD ks) ∧ (∀ c, c ∈ ks ↔ c ∈ xs.take i) ∧ ks.length ≤ i ∧ ∃ u, m = fun y => if y = Str.ofString "code" then u else if y = Str.ofString "codes" then some (.ref l) else none) ?h0 ?turn ?done
  case h0 =>
    refine ⟨oD, [], [], rfl, hiD, fiD, by simp, Nat.zero_le _, none, ?_⟩
    funext y
    by_cases h1 : y = Str.ofString "code"
    · subst h1; rfl
    · simp only [if_neg h1]
  case turn =>
    rintro i v m' nw it h tk hv ⟨o, kvs, ks, rfl, hdo, hfl, hks, hlen, u, rfl⟩ hc F2 N2
    obtain ⟨c, tc, rfl, hx⟩ := hi.at i v hv
    have hi1 : i < xs.length := (List.getElem?_eq_some_iff.mp hx).1
    (try k_unmd); k_fold
    walk_at "go"
    · rw [kD_look] at *
      refine ⟨_, _, _, (D, o) :: (L1 + 1, oc) :: news, rfl, by assumption, by assumption, by k_all, .tail _ (.tail _ hl), o, kvs, ks, rfl, hdo, hfl, ?_, Nat.le_succ_of_le hlen, some (.int c tc), ?_⟩
      · have hc' : c ∈ ks := by
          by_cases h1 : c ∈ ks
          · exact h1
          · simp [h1] at *
        intro c'
        rw [List.take_add_one, hx, hks c']
        simp only [Option.toList_some, List.mem_append, List.mem_singleton]
        constructor
        · exact .inl
        · rintro (h1 | rfl)
          · exact h1
          · exact (hks _).mp hc'
      · funext y
        by_cases h1 : y = Str.ofString "code"
        · subst h1; rfl
        · simp only [if_neg h1]
    · rw [kD_look] at *
      have hc' : c ∉ ks := by
        intro h1
        simp [h1] at *
      refine setItem_K same_int (intKind_is _ _ _ _) (Flat.str _ _) (by assumption) (by assumption) (by k_updF) hdo hfl (fun h' o' F' N' hd' hf' => ?_) (by simp only [kD, List.length_map, sizeLine_eq]; omega)
      rw [kD_put hc'] at hf'
      dsimp only
      walk_at "go"
      refine ⟨_, _, _, (D, o') :: (L1 + 1, oc) :: news, rfl, by assumption, by assumption, by k_all, .tail _ (.tail _ hl), o', _, ks ++ [c], rfl, hd', hf', ?_, by rw [List.length_append]; exact Nat.succ_le_succ hlen, some (.int c tc), ?_⟩
      · intro c'
        rw [List.take_add_one, hx, List.mem_append, List.mem_append, hks c']
        simp
      · funext y
        by_cases h1 : y = Str.ofString "code"
        · subst h1; rfl
        · simp only [if_neg h1]
  case done =>
    rintro m' nw h tk ⟨o, kvs, ks, rfl, hdo, hfl, hks, hlen, u, rfl⟩ F2 N2
    dsimp only
    walk_at "go"
    refine LCg.ListComp_U (F₀ := by k_asm) (by with_unfolding_all rfl) (by decide) (by rfl) (by decide) (by rfl) ?_
    walk1
    have hxl : vs.length = xs.length := hi.length
    rw [hxl, List.take_length] at hks
    refine LCg.CompSrc.ledger (by rfl) F2 N2 (.tail _ (.tail _ hl)) (by simp only [List.size_toArray, sizeLine_eq]; omega) (fun g9 => ?_)
    refine crestJ (fun i ys nx => nx = (D, o) :: (L1 + 1, oc) :: news ∧ StrsAre ys ((xs.take i).map tyOf)) ⟨rfl, .nil⟩ ?turn ?fin
    case turn =>
      rintro i ys nw v I2 oI C oC D2 m2 h2 tk2 E2 hlt ⟨rfl, hys⟩ hv hC hm2 F3 N3 off ne
      simp only [List.getElem?_toArray] at hv
      obtain ⟨c, tc, rfl, hx⟩ := hi.at i v hv
      have hlk : PySem.Spec.lookup (PyData.int c) (kD ks) = some (PyData.str (tyOf c)) := by
        rw [kD_look, if_pos ((hks c).mpr (List.mem_of_getElem? hx))]
      (try k_unmd); k_fold
      walk_at "go"
      refine LCg.CompEnd.intro (by assumption) (by assumption) _ (fun _ h => h) off (.inr ⟨_, .tail _ (.tail _ hl), rfl, _, rfl⟩) ⟨rfl, ?_⟩
      rw [List.take_add_one, hx, List.map_append]
      exact hys.append' (.cons _ _ .nil)
    case fin =>
      rintro ys nw ⟨rfl, hys⟩
      intro D2 h2 tk2 F3 N3 o3
      dsimp only
      walk_at "go"
      rw [List.size_toArray, hxl, List.take_length] at hys
      all_goals exact hret _ [(D2, _)] _ _ (by k_asm) (cb_drop (news' := _) (by assumption) (by intro p hp; first | exact hp | (rcases List.mem_cons.mp hp with rfl | hp; exact .head _; exact .tail _ (.tail _ (.tail _ hp))))) ⟨_, _, _, rfl, rfl, hys, o3.2.2⟩
end
end Mine
end
section
open PySem PySem.W PyProof.Rows PySem.Calls PyProof.V
namespace Mine
section
variable {prog : Program} {w : World} {A : Around} {E : Value → Shared → Prop} {s : Shared} {h₀ : Heap} {L D l : Addr} {m : Str → Option Value} {news news' : Led} {vs : List Value} {ws : List Str} {n : Nat} {k : Int} {u : Tok}
theorem getD_of_get? {α : Type} {l : List α} {i : Nat} {x d : α} (h : l[i]? = some x) : l.getD i d = x := by
  rw [List.getD_eq_getElem?_getD, h]; rfl
theorem strs_at (hw : StrsAre vs ws) (i : Nat) (h : i < ws.length) : ∃ t, vs[i]? = some (.str (ws.getD i (Str.ofString "")) t) := by
  obtain ⟨t, ht⟩ := hw.get i ws[i] (by simp [h])
  refine ⟨t, ?_⟩
  rw [ht, List.getD_eq_getElem?_getD, List.getElem?_eq_getElem h]; rfl
theorem ints_at {ns : List Int} (hw : IntsAre vs ns) (i : Nat) (h : i < ns.length) : ∃ t, vs[i]? = some (.int (ns.getD i 0) t) := by
  obtain ⟨t, ht⟩ := hw.get i ns[i] (by simp [h])
  refine ⟨t, ?_⟩
  rw [ht, List.getD_eq_getElem?_getD, List.getElem?_eq_getElem h]; rfl
/-- an item of a list of texts -/
theorem item_strs {value slice : PySem.Expr} {Q : Value → Shared → Prop} (N : News h₀ L s.heap news) (hm : (D, listOf vs.toArray n) ∈ news) (hw : StrsAre vs ws) (h0 : 0 ≤ k) (h1 : k < ws.length) (hfit : k < 2 ^ 63) (h : ∀ t, Q (.str (ws.getD k.toNat (Str.ofString "")) t) s)
    (hs : subscripted slice false (.ref D) (.int k u) = operate [.ref D, .int k u] (getItem (.ref D) (.int k u)) := by with_unfolding_all rfl) :
    wpAny (model prog w) A (subscriptTail value slice (.ref D) (.int k u)) Q E s := by
  obtain ⟨t, ht⟩ := strs_at hw k.toNat (by omega)
  have hl := PySem.IsL.isList (n := n) (N _ hm).1
  exact tail_any hl.typeIs slot_list_getitem.lookup (wpAny_getItem_list hl h0 hfit (by simpa using ht) (h t)) hs
theorem len_listAny {its : Array Value} {Q : Value → Shared → Prop} (N : News h₀ L s.heap news) (hm : (D, listOf its n) ∈ news) {c : Nat} (hc : its.size = c) (hf : c < 2 ^ 62) (h : Q (.int (c : Nat) (s.toks + 1)) { s with toks := s.toks + 1 + 1 }) :
    wpAny (model prog w) A (call (.builtin "len") [.ref D]) Q E s := KM.len_K N hm hc hf h
end
theorem off1_ne {D : Addr} : ∀ {l : Led}, LCg.Off1 D l → ∀ p ∈ l, p.1 ≠ D
  | [], _, _, h => nomatch h
  | _ :: _, x, p, h => by
    rcases List.mem_cons.mp h with rfl | h
    · exact x.1
    · exact off1_ne x.2 p h
theorem off1_of {D : Addr} : ∀ {l : Led}, (∀ p ∈ l, p.1 ≠ D) → LCg.Off1 D l
  | [], _ => trivial
  | _ :: _, h => ⟨h _ List.mem_cons_self, off1_of fun p hp => h p (List.mem_cons_of_mem _ hp)⟩
theorem fr0 {h₀ h : Heap} {L : Addr} (F : Fr h₀ L h (fun y => List.lookup y [])) : Fr h₀ L h (fun _ => none) := F
end Mine
namespace Mine
theorem nm1 {h₀ h : Heap} {L D : Addr} {o : Obj} {news : Led} (_ : News h₀ L h ((D, o) :: news)) : ∃ D', D' = D := ⟨D, rfl⟩
theorem nm2 {h₀ h : Heap} {L D : Addr} {p : Addr × Obj} {o : Obj} {news : Led} (_ : News h₀ L h (p :: (D, o) :: news)) : ∃ D', D' = D := ⟨D, rfl⟩
theorem nm3 {h₀ h : Heap} {L D : Addr} {p q : Addr × Obj} {o : Obj} {news : Led} (_ : News h₀ L h (p :: q :: (D, o) :: news)) : ∃ D', D' = D := ⟨D, rfl⟩
theorem nmO1 {h₀ h : Heap} {L D : Addr} {o : Obj} {news : Led} (_ : News h₀ L h ((D, o) :: news)) : ∃ o', o' = o := ⟨o, rfl⟩
theorem nmO2 {h₀ h : Heap} {L D : Addr} {p : Addr × Obj} {o : Obj} {news : Led} (_ : News h₀ L h (p :: (D, o) :: news)) : ∃ o', o' = o := ⟨o, rfl⟩
theorem nmO3 {h₀ h : Heap} {L D : Addr} {p q : Addr × Obj} {o : Obj} {news : Led} (_ : News h₀ L h (p :: q :: (D, o) :: news)) : ∃ o', o' = o := ⟨o, rfl⟩
theorem nmL {h₀ h : Heap} {L : Addr} {m : Str → Option Value} (_ : Fr h₀ L h m) : ∃ L', L' = L := ⟨L, rfl⟩
end Mine
namespace Mine
theorem nmE1 {h₀ h : Heap} {L : Addr} {q : Addr × Obj} {news : Led} (N : News h₀ L h (q :: news)) : ∃ p, p = q ∧ News h₀ L h (p :: news) := ⟨q, rfl, N⟩
end Mine
namespace Mine
section
variable {prog : Program} {w : World} {A : Around} {E : Value → Shared → Prop} {s : Shared} {env : Env} {h₀ : Heap} {L : Addr} {m : Str → Option Value} {x : Str}
theorem crestS {elt : PySem.Expr} {scope : Scope} {cl : List (Str × Addr)} {S : Led → Prop} {P : Nat → Value → Prop} {Fin : List Value → Led → Prop} {n : Nat} {news : Led} (R : Nat → List Value → Prop) (h0 : R 0 [])
    (turn : ∀ i ys v I oI C oC D m₂ h tk (E' : Value → Shared → Prop), i < n → R i ys → P i v → LCg.NsObj oC m₂ → m₂ x = some v → Fr h₀ L h m → News h₀ L h ((I, oI) :: (C, oC) :: (D, LCg.lst ys) :: news) → LCg.Off3 I C D news → ((@Ne Nat I C) ∧ (@Ne Nat I D) ∧ (@Ne Nat C D)) →
      wpAny (model prog w) A (eval elt (compEnvC scope cl C env)) (LCg.CompEnd h₀ L m { s with heap := h, toks := tk } I oI C oC D (LCg.lst ys) S (fun y news' => news' = news ∧ R (i + 1) (ys ++ [y]))) E' { s with heap := h, toks := tk })
    (fin : ∀ ys, R n ys → Fin ys news) : LCg.CompRest prog w A h₀ L m env elt x scope cl s S P Fin n 0 [] news :=
  crestJ (fun i ys nx => nx = news ∧ R i ys) ⟨rfl, h0⟩ (fun i ys nw v I oI C oC D m₂ h tk E' hi hj hv hC hx F N off ne => by
    obtain ⟨rfl, hr⟩ := hj
    exact turn i ys v I oI C oC D m₂ h tk E' hi hr hv hC hx F N off ne) (fun ys nw hj => by
    obtain ⟨rfl, hr⟩ := hj
    exact fin ys hr)
theorem crestTS {ct elt : PySem.Expr} {scope : Scope} {cl : List (Str × Addr)} {S : Led → Prop} {P : Nat → Value → Prop} {Fin : List Value → Led → Prop} {n : Nat} {news : Led} (R : Nat → List Value → Prop) (h0 : R 0 [])
    (turn : ∀ i ys v I oI C oC D m₂ h tk (E' : Value → Shared → Prop), i < n → R i ys → P i v → LCg.NsObj oC m₂ → m₂ x = some v → Fr h₀ L h m → News h₀ L h ((I, oI) :: (C, oC) :: (D, LCg.lst ys) :: news) → LCg.Off3 I C D news → ((@Ne Nat I C) ∧ (@Ne Nat I D) ∧ (@Ne Nat C D)) →
      wpAny (model prog w) A (isTrue ct (compEnvC scope cl C env) (eval ct (compEnvC scope cl C env))) (fun ok s' => if ok = true then
        wpAny (model prog w) A (eval elt (compEnvC scope cl C env)) (LCg.CompEnd h₀ L m { s with heap := h, toks := tk } I oI C oC D (LCg.lst ys) S (fun y news' => news' = news ∧ R (i + 1) (ys ++ [y]))) E' s'
        else LCg.CompEnd h₀ L m { s with heap := h, toks := tk } I oI C oC D (LCg.lst ys) S (fun _ news' => news' = news ∧ R (i + 1) ys) Value.none s') E' { s with heap := h, toks := tk })
    (fin : ∀ ys, R n ys → Fin ys news) : LCt.CompRestT prog w A h₀ L m env ct elt x scope cl s S P Fin n 0 [] news :=
  crestTJ (fun i ys nx => nx = news ∧ R i ys) ⟨rfl, h0⟩ (fun i ys nw v I oI C oC D m₂ h tk E' hi hj hv hC hx F N off ne => by
    obtain ⟨rfl, hr⟩ := hj
    exact turn i ys v I oI C oC D m₂ h tk E' hi hr hv hC hx F N off ne) (fun ys nw hj => by
    obtain ⟨rfl, hr⟩ := hj
    exact fin ys hr)
end
theorem bools_snoc {vs : List Value} {bs : List Bool} {b : Bool} (h : LSm.BoolsAre vs bs) : LSm.BoolsAre (vs ++ [.bool b]) (bs ++ [b]) := kbo_app h (.cons b .nil)
theorem bools_rep {vs : List Value} {i : Nat} {b : Bool} (h : LSm.BoolsAre vs (List.replicate i b)) : LSm.BoolsAre (vs ++ [.bool b]) (List.replicate (i + 1) b) := by
  rw [List.replicate_succ']
  exact bools_snoc h
end Mine
namespace Mine
theorem nmC3 {h₀ h : Heap} {L L1 : Addr} {p q : Addr × Obj} {c1 c2 c3 : Obj} {news : Led} (_ : News h₀ L h (p :: q :: (L1 + 1 + 1 + 1, c3) :: (L1 + 1 + 1, c2) :: (L1 + 1, c1) :: news)) :
    ∃ L' c3' c2' c1', L' = L1 ∧ c3' = c3 ∧ c2' = c2 ∧ c1' = c1 := ⟨L1, c3, c2, c1, rfl, rfl, rfl, rfl⟩
/-- the places of the pairs marked in a row of bools -/
def mk (f : Int × Int → Int) (n : Nat) (ps : List (Int × Int)) : List Bool := ps.foldl (fun b p => b.set (f p).toNat true) (List.replicate n false)
theorem mk_len (f : Int × Int → Int) (n : Nat) (ps : List (Int × Int)) : (mk f n ps).length = n := by
  have key : ∀ (ps : List (Int × Int)) (b : List Bool), (ps.foldl (fun b p => b.set (f p).toNat true) b).length = b.length := by
    intro ps
    induction ps with
    | nil => intro b; rfl
    | cons p ps ih => intro b; rw [List.foldl_cons, ih, List.length_set]
  rw [mk, key, List.length_replicate]
theorem mk_snoc (f : Int × Int → Int) (n : Nat) (ps : List (Int × Int)) (p : Int × Int) : mk f n (ps ++ [p]) = (mk f n ps).set (f p).toNat true := by
  simp [mk, List.foldl_append]
end Mine
namespace Mine
theorem mem_swap {α : Type} {a b c d e f : α} {t n : List α} : ∀ p ∈ a :: b :: c :: d :: e :: f :: (t ++ n), p ∈ a :: (t ++ (b :: c :: d :: e :: f :: n)) := by
  intro p hp
  simp only [List.mem_cons, List.mem_append] at hp ⊢
  rcases hp with h | h | h | h | h | h | h | h <;> simp [h]
end Mine
namespace Mine
theorem fr_int {h₀ h : Heap} {L : Addr} {m : Str → Option Value} (_ : Fr h₀ L h m) (x : Str) {g : Int} {tg : Tok} (e : m x = some (.int g tg)) : ∃ g tg, m x = some (.int g tg) := ⟨g, tg, e⟩
end Mine
namespace Mine
theorem drop3 {h₀ h : Heap} {L : Addr} {a b c : Addr × Obj} {news : Led} (N : News h₀ L h (a :: b :: c :: news)) : News h₀ L h (a :: b :: news) := fun p hp => N p (by
  rcases List.mem_cons.mp hp with rfl | hp
  · exact .head _
  · rcases List.mem_cons.mp hp with rfl | hp
    · exact .tail _ (.head _)
    · exact .tail _ (.tail _ (.tail _ hp)))
end Mine
end
section
theorem Mine.offC6 : True := by
  w_top off
  trivial
open PySem PySem.W PyProof.Rows PyProof.V
namespace Mine
section
local macro_rules | `(tactic| walk_at "stop") => `(tactic| first
  | (with_reducible show wpAny _ _ (exec (Stmt.For _ _ _ _ _) _) _ _ _)
  | (with_reducible show wpAny _ _ (pyIter _) _ _ _)
  | (with_reducible show wpAny _ _ (eval (Expr.ListComp _ _ _ _) _) _ _ _)
  | (with_reducible show wpAny _ _ (exec (Stmt.Assign _ (Expr.ListComp _ _ _ _) _) _) _ _ _))
local macro_rules | `(tactic| walk_at "go") => `(tactic| repeat' (first | (k_unfold; (try dsimp only)) | ((fail_if_success walk_at "stop"); first | (k_end; wrow_close) | walk1 | (dsimp only; walk1) | (leave1; walk_say "STEP leave1"; try dsimp only) | fail "no step")))
local macro_rules | `(tactic| walk_at "enterC") => `(tactic| (refine' code_defC ?k1 ?k2 ?k3 ?k4 ?k5 ?kA ?kF ?kK ?k6 ?k7 ?k8 ?k9 ?kB ?kD ?_ ?c2 ?c3 ?c4; (case kA => exact rfl); (case kF => exact rfl); (case kK => assumption); (case k1 => k_asm); (case k2 => k_asm); (case k3 => k_asm); (case k4 => k_asm); (case k5 => k_asm); (case k6 => k_is); (case k7 => k_is); (case k8 => ktr_room); (case k9 => exact BindsTo.of_eq rfl); (case kB => exact rfl); (case kD => decide +kernel); (case c2 => exact rfl); (case c3 => exact rfl); (case c4 => exact rfl); k_whole; intro g' L' h' tk' cells' FG' F' N' Y' B' X' T' l1; (try k_lt l1); k_cells Y'; (try simp only [List.cons_append, List.nil_append] at N'); (try dsimp only); (try k_lift B'); (try k_fold)))
local macro_rules | `(tactic| walk_at "use") => `(tactic| ((case k1 => k_asm); (case k2 => k_asm); (case k3 => k_asm); (case k4 => k_asm); (case k5 => k_asm); (case kK => first | exact rfl | assumption); (case kd => ktr_room); (case ku => ktr_units)))
local macro_rules | `(tactic| walk_at "useB") => `(tactic| (walk_at "use"; intro r9 tl9 h9 tk9 F9 N9 p9; obtain ⟨e9, e8⟩ := p9; subst e9 e8; rw [List.nil_append] at N9; (try dsimp only); (try k_fold)))
local macro_rules | `(tactic| walk_at "useS") => `(tactic| (walk_at "use"; intro r9 tl9 h9 tk9 F9 N9 p9; obtain ⟨⟨t9, e9⟩, e8⟩ := p9; subst e9 e8; rw [List.nil_append] at N9; (try dsimp only); (try k_fold)))
local macro_rules | `(tactic| walk_at "call ref") => `(tactic| (k_here; first
  | (k_dflt (refine' Claim.use (joins_on_c _ _ _ _) ?k1 ?k2 ?k3 ?k4 ?k5 ?kK ?kd ?ku ?_); walk_at "useB")
  | (k_dflt (refine' Claim.use (joins_back_c _ _ _ _) ?k1 ?k2 ?k3 ?k4 ?k5 ?kK ?kd ?ku ?_); walk_at "useB")
  | (k_dflt (refine' Claim.use (form_of_c _ _ _ _) ?k1 ?k2 ?k3 ?k4 ?k5 ?kK ?kd ?ku ?_); walk_at "useS")
  | (k_dflt (refine' Claim.use (joining_type_c _ _ _ _) ?k1 ?k2 ?k3 ?k4 ?k5 ?kK ?kd ?ku ?_); walk_at "useS")))
local macro_rules | `(tactic| walk_at "lt") => `(tactic| first | assumption | exact allLt_of (by assumption) | exact And.right (by assumption) | exact And.right (And.right (by assumption)) | exact And.right (And.right (And.right (by assumption))))
local macro_rules | `(tactic| k_all) => `(tactic| first | assumption | exact off1_ne (by assumption) | exact ne_up0 (by walk_at "lt") | exact ne_up1 (by walk_at "lt") | exact ne_up2 (by walk_at "lt") | exact ne_up3 (by walk_at "lt"))
local macro_rules | `(tactic| k_mem) => `(tactic| first | assumption | exact List.mem_append.mpr (Or.inr (by assumption)) | exact List.mem_append.mpr (Or.inl (by assumption)) | exact List.mem_append.mpr (Or.inr (List.mem_append.mpr (Or.inr (by assumption)))))
local macro_rules | `(tactic| size_fits) => `(tactic| ((simp only [List.size_toArray, List.length_append, List.length_cons, List.length_nil, PySem.sizeLine_eq]); omega))
local macro_rules | `(tactic| walk_at "idx") => `(tactic| first | omega | ((try simp only [Int.zero_add]); omega))
local macro_rules | `(tactic| walk_at "subscriptTail Name Name ref int") => `(tactic| (k_here; (with_reducible show wpAny _ _ (subscriptTail _ _ (Value.ref _) (Value.int _ _)) _ _ _); k_dflt (refine' item_strs ?N ?m ?w ?h0 ?h1 ?hf ?_; (case N => k_asm); (case m => k_mem); (case w => assumption); (case h0 => walk_at "idx"); (case h1 => walk_at "idx"); (case hf => walk_at "idx")); intro t9; (try simp only [Int.toNat_natCast]); (try dsimp only)))
local macro_rules | `(tactic| walk_at "call builtin:len") => `(tactic| (k_here; (with_reducible show wpAny _ _ (call (Value.builtin "len") [Value.ref _]) _ _ _); k_dflt (refine' len_listAny ?N ?m ?c ?f ?_; (case N => k_asm); (case m => k_mem); (case c => first | exact Eq.trans List.size_toArray (PyProof.Rows.StrsAre.length (by assumption)) | exact Eq.trans List.size_toArray (IntsAre.length (by assumption)) | exact Eq.trans List.size_toArray (LSm.BoolsAre.length (by assumption))); (case f => omega)); (try dsimp only)))
def jstep (ts : List Str) (st : Int × List (Int × Int)) (i : Nat) : Int × List (Int × Int) :=
  if ts.getD i (Str.ofString "") = Str.ofString "T" then st
  else ((i : Int), if (decide (0 ≤ st.1) && joinsOn (ts.getD st.1.toNat (Str.ofString "")) && joinsBack (ts.getD i (Str.ofString ""))) = true then st.2 ++ [(st.1, (i : Int))] else st.2)
def jps (ts : List Str) : Nat → Int × List (Int × Int)
  | 0 => (-1, [])
  | i + 1 => jstep ts (jps ts i) i
def jp (ts : List Str) : List (Int × Int) := (jps ts ts.length).2
theorem jps_bound (ts : List Str) : ∀ i, -1 ≤ (jps ts i).1 ∧ (jps ts i).1 < i ∧ (jps ts i).2.length ≤ i
  | 0 => by simp [jps]
  | i + 1 => by
    have ⟨h1, h2, h3⟩ := jps_bound ts i
    unfold jps jstep
    split
    · exact ⟨h1, by omega, by omega⟩
    · refine ⟨by show (-1 : Int) ≤ (i : Int); omega, by show (i : Int) < ((i + 1 : Nat) : Int); omega, ?_⟩
      show (if _ then _ else _ : List (Int × Int)).length ≤ i + 1
      split
      · rw [List.length_append]; simp only [List.length_cons, List.length_nil]; omega
      · omega
def JP (news : Led) (D l I : Addr) (ts : List Str) (i : Nat) (m : Str → Option Value) (nx : Led) : Prop :=
  ∃ us k tups, nx = (D, listOf (List.toArray us) k) :: (tups ++ news) ∧ Pairs tups us (jps ts i).2 ∧ (∀ p ∈ tups ++ news, p.1 ≠ D) ∧ (∀ p ∈ tups ++ news, p.1 ≠ I) ∧ (∀ q ∈ news, ∀ p ∈ tups, q.1 ≠ p.1) ∧ ∃ u tl, m = fun y => if y = Str.ofString "at" then u else if y = Str.ofString "last" then some (.int (jps ts i).1 tl) else if y = Str.ofString "found" then some (.ref D) else if y = Str.ofString "types" then some (.ref l) else none
theorem if_swap {R : Str → Option Value} {a b : Str} (hab : a ≠ b) {u w v v' : Option Value} : (fun y => if y = b then v' else if y = a then v else (fun y => if y = a then u else if y = b then w else R y) y) = fun y => if y = a then v else if y = b then v' else R y := by
  funext y
  by_cases h1 : y = a
  · subst h1; simp [hab]
  · simp only [if_neg h1]
    by_cases h2 : y = b
    · subst h2; simp
    · simp only [if_neg h2]
theorem if_dup {R : Str → Option Value} {a : Str} {u v : Option Value} : (fun y => if y = a then v else (fun y => if y = a then u else R y) y) = fun y => if y = a then v else R y := by
  funext y
  by_cases h1 : y = a
  · subst h1; simp
  · simp only [if_neg h1]
theorem jps_T {ts : List Str} {i : Nat} (h : (ts.getD i (Str.ofString "") != Str.ofString "T") = false) : jps ts (i + 1) = jps ts i := by
  show jstep ts (jps ts i) i = _
  unfold jstep
  rw [if_pos (by simpa using h)]
theorem jps_no {ts : List Str} {i : Nat} (h : (ts.getD i (Str.ofString "") != Str.ofString "T") = true) (h2 : ¬ 0 ≤ (jps ts i).1 ∨ joinsOn (ts.getD (jps ts i).1.toNat (Str.ofString "")) = false ∨ joinsBack (ts.getD i (Str.ofString "")) = false) : jps ts (i + 1) = ((i : Int), (jps ts i).2) := by
  show jstep ts (jps ts i) i = _
  unfold jstep
  rw [if_neg (by simpa using h), if_neg]
  rcases h2 with h2 | h2 | h2
  · simp [h2]
  · simp only [h2, Bool.and_false, Bool.false_and]; decide
  · simp only [h2, Bool.and_false]; decide
theorem jps_yes {ts : List Str} {i : Nat} (h : (ts.getD i (Str.ofString "") != Str.ofString "T") = true) (h1 : 0 ≤ (jps ts i).1) (h2 : joinsOn (ts.getD (jps ts i).1.toNat (Str.ofString "")) = true) (h3 : joinsBack (ts.getD i (Str.ofString "")) = true) :
    jps ts (i + 1) = ((i : Int), (jps ts i).2 ++ [((jps ts i).1, (i : Int))]) := by
  show jstep ts (jps ts i) i = _
  unfold jstep
  rw [if_neg (by simpa using h), if_pos]
  rw [h2, h3, decide_eq_true h1]; rfl
theorem Pairs.snoc {N : Led} {T : Addr} {a b : Int} {ta tb : Tok} {n : Nat} : ∀ {vs : List Value} {ps : List (Int × Int)}, Pairs N vs ps → (T, ({ cls := .type "tuple", data := .seq #[.int a ta, .int b tb] n } : Obj)) ∈ N → Pairs N (vs ++ [.ref T]) (ps ++ [(a, b)])
  | _, _, .nil, h => .cons h .nil
  | _, _, .cons hm r, h => .cons hm (r.snoc h)
theorem joined_pairs_c (w : World) (news : Led) (l : Addr) (vs : List Value) (n : Nat) (ts : List Str) (hl : (l, listOf vs.toArray n) ∈ news) (hi : StrsAre vs ts) (hn : ts.length ≤ 1000) :
    Claim w 75 2 16 [.ref l] news (fun r tl => ∃ D us n' tups, r = .ref D ∧ tl = (D, listOf (List.toArray us) n') :: tups ∧ Pairs tups us (jp ts) ∧ LCg.Off1 D news ∧ ∀ q ∈ news, ∀ p ∈ tups, q.1 ≠ p.1) := by
  unfold Claim; k_fill
  intro mean mg mb dp un gd cn cs a ccd cl outer A₀ base h₀ L m s Q E B F X N T hk hd hu hret
  refine wpAny_call ?_
  k_dflt cell_enter
  walk_at "go"
  (rename Fr _ _ _ _ => F1)
  (rename News _ _ _ _ => N1)
  obtain ⟨D, hD⟩ := nm1 N1; subst hD
  with_unfolding_all refine' For_invVF F1 ?k1 ?k2 ?_; (case k1 => exact rfl); (case k2 => exact rfl)
  walk_at "go"
  (rename Fr _ _ _ _ => F2)
  (rename News _ _ _ _ => N2)
  (rename IsRange _ _ _ _ _ _ _ _ => R2)
  refine iter_rangeUnr (n := ts.length) (by rfl) R2 (small_one (by omega) (by omega) (by omega) (by omega)) (by rw [rangeSize_nat]; simp) F2 N2 ?_
  intro I lI; k_lt lI
  refine rangeJ (JP news D l I ts) ?h0 ?turn ?done
  case h0 =>
    refine ⟨[], 0, [], rfl, .nil, (by k_all), (by k_all), (fun _ _ _ h => nomatch h), none, ?tl, ?_⟩
    rotate_left
    · funext y
      by_cases h1 : y = Str.ofString "at"
      · subst h1; rfl
      · by_cases h2 : y = Str.ofString "last"
        · subst h2; rfl
        · by_cases h3 : y = Str.ofString "found"
          · subst h3; rfl
          · simp only [if_neg h1, if_neg h2, if_neg h3]
            exact look1 y _ _
  case turn =>
    rintro i m' nw tq h tk hlt ⟨us, k, tups, rfl, hp, hoff, hoffI, hap, u, tl, rfl⟩ F3 N3
    have hb := jps_bound ts i
    have hul := hp.length
    rw [Int.zero_add] at F3
    (try k_unmd); k_fold
    walk_at "go"
    · (rename News _ _ _ _ => N4)
      (rename _ ∧ _ ∧ AllLt _ (_ ++ _) => lT)
      obtain ⟨T1, hT⟩ := nm1 N4; subst hT
      rw [List.push_toArray] at N4
      obtain ⟨p1, hp1, N4⟩ := nmE1 N4
      have hp1' : p1.1 = T1 := by rw [hp1]
      refine ⟨_, _, _, (D, listOf (us ++ [Value.ref T1]).toArray (k + 1)) :: (p1 :: tups ++ news), rfl, by assumption, cb_drop N4 (fun p hp => ?_), ?_, us ++ [Value.ref T1], k + 1, p1 :: tups, rfl, ?_, ?_, ?_, ?_, some (.int (i : Int) tq), tq, ?_⟩
      · rcases List.mem_cons.mp hp with rfl | hp
        · exact .tail _ (.head _)
        · rcases List.mem_cons.mp hp with rfl | hp
          · exact .tail _ (.tail _ (.head _))
          · rcases List.mem_cons.mp hp with rfl | hp
            · exact .head _
            · exact .tail _ (.tail _ (.tail _ hp))
      · refine List.forall_mem_cons.mpr ⟨by k_ne, List.forall_mem_cons.mpr ⟨by rw [hp1']; k_ne, hoffI⟩⟩
      · rw [jps_yes (by assumption) (by assumption) (by assumption) (by assumption)]
        exact (hp.mono fun p hp => .tail _ hp).snoc (by rw [← hp1]; exact .head _)
      · exact List.forall_mem_cons.mpr ⟨by rw [hp1']; k_ne, hoff⟩
      · exact List.forall_mem_cons.mpr ⟨by rw [hp1']; k_ne, hoffI⟩
      · intro q hq p hp
        rcases List.mem_cons.mp hp with rfl | hp
        · rw [hp1']; exact Nat.ne_of_lt (ktn_ltOf lT.2.2 q (List.mem_append.mpr (.inr hq)))
        · exact hap q hq p hp
      · rw [jps_yes (by assumption) (by assumption) (by assumption) (by assumption)]
        exact if_swap (by decide)
    iterate 3
      · refine ⟨_, _, _, (D, listOf us.toArray k) :: (tups ++ news), rfl, by assumption, by assumption, List.forall_mem_cons.mpr ⟨by k_ne, hoffI⟩, us, k, tups, rfl, ?_, hoff, hoffI, hap, some (.int (i : Int) tq), tq, ?_⟩
        · rw [jps_no (by assumption) (by first | exact .inl (by assumption) | exact .inr (.inl (by assumption)) | exact .inr (.inr (by assumption)))]
          exact hp
        · rw [jps_no (by assumption) (by first | exact .inl (by assumption) | exact .inr (.inl (by assumption)) | exact .inr (.inr (by assumption)))]
          exact if_swap (by decide)
    · refine ⟨_, _, _, (D, listOf us.toArray k) :: (tups ++ news), rfl, by assumption, by assumption, List.forall_mem_cons.mpr ⟨by k_ne, hoffI⟩, us, k, tups, rfl, ?_, hoff, hoffI, hap, some (.int (i : Int) tq), tl, ?_⟩
      · rw [jps_T (by assumption)]
        exact hp
      · rw [jps_T (by assumption)]
        exact if_dup
  case done =>
    rintro m' nw h tk ⟨us, k, tups, rfl, hp, hoff, hoffI, hap, u, tl, rfl⟩ F3 N3
    dsimp only
    walk_at "go"
    refine hret _ ((D, _) :: tups) _ _ (by k_asm) (by k_asm) ⟨D, us, k, tups, rfl, rfl, hp, ?_, hap⟩
    exact off1_of fun p hp => hoff p (List.mem_append.mpr (.inr hp))
end
end Mine
end
section
theorem Mine.offC7 : True := by
  w_top off
  trivial
local macro_rules | `(tactic| walk_at "pad") => `(tactic| skip)
local macro_rules | `(tactic| walk_at "pad") => `(tactic| skip)
local macro_rules | `(tactic| walk_at "pad") => `(tactic| skip)
local macro_rules | `(tactic| walk_at "pad") => `(tactic| skip)
local macro_rules | `(tactic| walk_at "pad") => `(tactic| skip)
local macro_rules | `(tactic| walk_at "pad") => `(tactic| skip)
local macro_rules | `(tactic| walk_at "pad") => `(tactic| skip)
local macro_rules | `(tactic| walk_at "pad") => `(tactic| skip)
local macro_rules | `(tactic| walk_at "pad") => `(tactic| skip)
local macro_rules | `(tactic| walk_at "pad") => `(tactic| skip)
local macro_rules | `(tactic| walk_at "pad") => `(tactic| skip)
local macro_rules | `(tactic| walk_at "pad") => `(tactic| skip)
local macro_rules | `(tactic| walk_at "pad") => `(tactic| skip)
local macro_rules | `(tactic| walk_at "pad") => `(tactic| skip)
local macro_rules | `(tactic| walk_at "pad") => `(tactic| skip)
local macro_rules | `(tactic| walk_at "pad") => `(tactic| skip)
local macro_rules | `(tactic| walk_at "pad") => `(tactic| skip)
local macro_rules | `(tactic| walk_at "pad") => `(tactic| skip)
local macro_rules | `(tactic| walk_at "pad") => `(tactic| skip)
local macro_rules | `(tactic| walk_at "pad") => `(tactic| skip)
local macro_rules | `(tactic| walk_at "pad") => `(tactic| skip)
local macro_rules | `(tactic| walk_at "pad") => `(tactic| skip)
local macro_rules | `(tactic| walk_at "pad") => `(tactic| skip)
local macro_rules | `(tactic| walk_at "pad") => `(tactic| skip)
local macro_rules | `(tactic| walk_at "pad") => `(tactic| skip)
local macro_rules | `(tactic| walk_at "pad") => `(tactic| skip)
local macro_rules | `(tactic| walk_at "pad") => `(tactic| skip)
local macro_rules | `(tactic| walk_at "pad") => `(tactic| skip)
local macro_rules | `(tactic| walk_at "pad") => `(tactic| skip)
local macro_rules | `(tactic| walk_at "pad") => `(tactic| skip)
local macro_rules | `(tactic| walk_at "pad") => `(tactic| skip)
local macro_rules | `(tactic| walk_at "pad") => `(tactic| skip)
local macro_rules | `(tactic| walk_at "pad") => `(tactic| skip)
local macro_rules | `(tactic| walk_at "pad") => `(tactic| skip)
local macro_rules | `(tactic| walk_at "pad") => `(tactic| skip)
local macro_rules | `(tactic| walk_at "pad") => `(tactic| skip)
local macro_rules | `(tactic| walk_at "pad") => `(tactic| skip)
local macro_rules | `(tactic| walk_at "pad") => `(tactic| skip)
local macro_rules | `(tactic| walk_at "pad") => `(tactic| skip)
local macro_rules | `(tactic| walk_at "pad") => `(tactic| skip)
open PySem PySem.W PyProof.Rows PyProof.V
namespace Mine
section
local macro_rules | `(tactic| walk_at "stop") => `(tactic| first
  | (with_reducible show wpAny _ _ (exec (Stmt.For _ _ _ _ _) _) _ _ _)
  | (with_reducible show wpAny _ _ (pyIter _) _ _ _)
  | (with_reducible show LCg.CompSrc _ _ _ _ _ _ _ _ _ _ _ _ _ _)
  | (with_reducible show LCt.CompSrcT _ _ _ _ _ _ _ _ _ _ _ _ _ _ _)
  | (with_reducible show wpAny _ _ (eval (Expr.ListComp _ _ _ _) _) _ _ _)
  | (with_reducible show wpAny _ _ (exec (Stmt.Assign _ (Expr.ListComp _ _ _ _) _) _) _ _ _))
local macro_rules | `(tactic| walk_at "go") => `(tactic| repeat' (first | (k_unfold; (try dsimp only)) | ((fail_if_success walk_at "stop"); first | (k_end; wrow_close) | walk1 | (dsimp only; walk1) | (leave1; walk_say "STEP leave1"; try dsimp only) | fail "no step")))
local macro_rules | `(tactic| walk_at "enterC") => `(tactic| (refine' code_defC ?k1 ?k2 ?k3 ?k4 ?k5 ?kA ?kF ?kK ?k6 ?k7 ?k8 ?k9 ?kB ?kD ?_ ?c2 ?c3 ?c4; (case kA => exact rfl); (case kF => exact rfl); (case kK => assumption); (case k1 => k_asm); (case k2 => k_asm); (case k3 => k_asm); (case k4 => k_asm); (case k5 => k_asm); (case k6 => k_is); (case k7 => k_is); (case k8 => ktr_room); (case k9 => exact BindsTo.of_eq rfl); (case kB => exact rfl); (case kD => decide +kernel); (case c2 => exact rfl); (case c3 => exact rfl); (case c4 => exact rfl); k_whole; intro g' L' h' tk' cells' FG' F' N' Y' B' X' T' l1; (try k_lt l1); k_cells Y'; (try simp only [List.cons_append, List.nil_append] at N'); (try dsimp only); (try k_lift B'); (try k_fold)))
local macro_rules | `(tactic| walk_at "use") => `(tactic| ((case k1 => k_asm); (case k2 => k_asm); (case k3 => k_asm); (case k4 => k_asm); (case k5 => k_asm); (case kK => first | exact rfl | assumption); (case kd => ktr_room); (case ku => ktr_units)))
local macro_rules | `(tactic| walk_at "useB") => `(tactic| (walk_at "use"; intro r9 tl9 h9 tk9 F9 N9 p9; obtain ⟨e9, e8⟩ := p9; subst e9 e8; rw [List.nil_append] at N9; (try dsimp only); (try k_fold)))
local macro_rules | `(tactic| walk_at "useS") => `(tactic| (walk_at "use"; intro r9 tl9 h9 tk9 F9 N9 p9; obtain ⟨⟨t9, e9⟩, e8⟩ := p9; subst e9 e8; rw [List.nil_append] at N9; (try dsimp only); (try k_fold)))
local macro_rules | `(tactic| walk_at "call ref") => `(tactic| (k_here; first
  | (k_dflt (refine' Claim.use (joins_on_c _ _ _ _) ?k1 ?k2 ?k3 ?k4 ?k5 ?kK ?kd ?ku ?_); walk_at "useB")
  | (k_dflt (refine' Claim.use (joins_back_c _ _ _ _) ?k1 ?k2 ?k3 ?k4 ?k5 ?kK ?kd ?ku ?_); walk_at "useB")
  | (k_dflt (refine' Claim.use (form_of_c _ _ _ _) ?k1 ?k2 ?k3 ?k4 ?k5 ?kK ?kd ?ku ?_); walk_at "useS")
  | (k_dflt (refine' Claim.use (joining_type_c _ _ _ _) ?k1 ?k2 ?k3 ?k4 ?k5 ?kK ?kd ?ku ?_); walk_at "useS")))
local macro_rules | `(tactic| walk_at "lt") => `(tactic| first | assumption | exact allLt_of (by assumption) | exact And.right (by assumption) | exact And.right (And.right (by assumption)) | exact And.right (And.right (And.right (by assumption))))
local macro_rules | `(tactic| k_all) => `(tactic| first | assumption | exact off1_ne (by assumption) | exact ne_up0 (by walk_at "lt") | exact ne_up1 (by walk_at "lt") | exact ne_up2 (by walk_at "lt") | exact ne_up3 (by walk_at "lt"))
local macro_rules | `(tactic| k_mem) => `(tactic| first | assumption | exact List.mem_append.mpr (Or.inr (by assumption)) | exact List.mem_append.mpr (Or.inl (by assumption)) | exact List.mem_append.mpr (Or.inr (List.mem_append.mpr (Or.inr (by assumption)))))
local macro_rules | `(tactic| size_fits) => `(tactic| ((simp only [List.size_toArray, List.length_append, List.length_cons, List.length_nil, PySem.sizeLine_eq]); omega))
local macro_rules | `(tactic| walk_at "idx") => `(tactic| first | omega | ((try simp only [Int.zero_add]); omega))
local macro_rules | `(tactic| walk_at "subscriptTail Name Name ref int") => `(tactic| (k_here; (with_reducible show wpAny _ _ (subscriptTail _ _ (Value.ref _) (Value.int _ _)) _ _ _); k_dflt (refine' item_strs ?N ?m ?w ?h0 ?h1 ?hf ?_; (case N => k_asm); (case m => k_mem); (case w => assumption); (case h0 => walk_at "idx"); (case h1 => walk_at "idx"); (case hf => walk_at "idx")); intro t9; (try simp only [Int.toNat_natCast]); (try dsimp only)))
local macro_rules | `(tactic| walk_at "call builtin:len") => `(tactic| (k_here; (with_reducible show wpAny _ _ (call (Value.builtin "len") [Value.ref _]) _ _ _); k_dflt (refine' len_listAny ?N ?m ?c ?f ?_; (case N => k_asm); (case m => k_mem); (case c => first | exact Eq.trans List.size_toArray (PyProof.Rows.StrsAre.length (by assumption)) | exact Eq.trans List.size_toArray (IntsAre.length (by assumption)) | exact Eq.trans List.size_toArray (LSm.BoolsAre.length (by assumption))); (case f => omega)); (try dsimp only)))
local macro_rules | `(tactic| walk_at "setItem ref int") => `(tactic| (k_here; k_dflt (refine' kbo_set ?F ?N ?U ?hb ?h0 ?h1 ?hf ?_; (case F => k_asm); (case N => k_asm); (case U => k_upd); (case hb => assumption); (case h0 => walk_at "idx"); (case h1 => walk_at "idx"); (case hf => walk_at "idx")); intro h' F' N' hb' hl'; (try k_sweep); (try dsimp only)))
local macro_rules | `(tactic| walk_at "subscriptTail Name Name ref int") => `(tactic| (k_here; (with_reducible show wpAny _ _ (subscriptTail _ _ (Value.ref _) (Value.int _ _)) _ _ _); k_dflt (refine' kbo_sub ?N ?m ?w ?h0 ?h1 ?hf ?_; (case N => k_asm); (case m => k_mem); (case w => assumption); (case h0 => walk_at "idx"); (case h1 => walk_at "idx"); (case hf => walk_at "idx")); (try simp only [Int.toNat_natCast]); (try dsimp only)))
local macro_rules | `(tactic| walk_at "call ref") => `(tactic| (k_here; (k_dflt (refine' Claim.use (joined_pairs_c _ _ _ _ _ _ ?hl ?hi ?hn) ?k1 ?k2 ?k3 ?k4 ?k5 ?kK ?kd ?ku ?_); walk_at "use"; (case hl => k_mem); (case hi => assumption); (case hn => assumption); intro r9 tl9 h9 tk9 F9 N9 p9; obtain ⟨D9, us9, n9, tups9, e9, e8, P9, O9, A9⟩ := p9; subst e9 e8; (try dsimp only); (try k_fold))))
theorem jp_bound (ts : List Str) : ∀ p ∈ jp ts, 0 ≤ p.1 ∧ p.1 < ts.length ∧ 0 ≤ p.2 ∧ p.2 < ts.length := by
  have key : ∀ i, i ≤ ts.length → ∀ p ∈ (jps ts i).2, 0 ≤ p.1 ∧ p.1 < ts.length ∧ 0 ≤ p.2 ∧ p.2 < ts.length := by
    intro i
    induction i with
    | zero => intro _ p hp; simp [jps] at hp
    | succ i ih =>
      intro hi p hp
      have hb := jps_bound ts i
      have e : jps ts (i + 1) = jstep ts (jps ts i) i := rfl
      rw [e, jstep] at hp
      split at hp
      · exact ih (by omega) p hp
      · dsimp only at hp
        split at hp
        · rename_i hc
          rcases List.mem_append.mp hp with hp | hp
          · exact ih (by omega) p hp
          · rw [List.mem_singleton.mp hp]
            simp only [Bool.and_eq_true, decide_eq_true_eq] at hc
            exact ⟨hc.1.1, by omega, by omega, by omega⟩
        · exact ih (by omega) p hp
  exact key _ (Nat.le_refl _)
def formAt (ts : List Str) (i : Nat) : Str := if joinsBack (ts.getD i (Str.ofString "")) = true then formOf ((mk (·.2) ts.length (jp ts)).getD i false) ((mk (·.1) ts.length (jp ts)).getD i false) else Str.ofString ""
def formsOf (ts : List Str) : List Str := (List.range ts.length).map (formAt ts)
theorem forms_of_c (w : World) (news : Led) (l : Addr) (vs : List Value) (n : Nat) (ts : List Str) (hl : (l, listOf vs.toArray n) ∈ news) (hi : StrsAre vs ts) (hn : ts.length ≤ 1000) :
    Claim w 87 3 24 [.ref l] news (fun r tl => ∃ D us n', r = .ref D ∧ tl = [(D, listOf (List.toArray us) n')] ∧ StrsAre us (formsOf ts) ∧ LCg.Off1 D news) := by
  unfold Claim; k_fill
  intro mean mg mb dp un gd cn cs a ccd cl outer A₀ base h₀ L m s Q E B F X N T hk hd hu hret
  refine wpAny_call ?_
  k_dflt walk_at "enterC"
  walk_at "go"
  walk1
  refine LCg.ListComp_U (F₀ := by k_asm) (by with_unfolding_all rfl) (by decide) (by rfl) (by decide) (by rfl) ?_
  walk_at "go"
  (rename Fr _ _ _ _ => F1)
  (rename News _ _ _ _ => N1)
  refine LCg.CompSrc.ledger (by rfl) F1 N1 (by k_mem) (by simp only [List.size_toArray, sizeLine_eq, hi.length]; omega) (fun g9 => ?_)
  refine crestS (fun i ys => LSm.BoolsAre ys (List.replicate i false)) .nil ?turn ?fin
  case turn =>
    intro i ys v I2 oI C oC D2 m2 h2 tk2 E2 hlt hys hv hC hm2 F3 N3 off ne
    (try k_unmd); k_fold
    walk_at "go"
    exact LCg.CompEnd.intro (by assumption) (by assumption) _ (fun _ h => h) off (.inr ⟨_, by k_mem, rfl, _, rfl⟩) ⟨rfl, bools_rep hys⟩
  intro ys1 hB1 D1 h1 tk1 F3 N3 o1
  simp only [LCg.Off1] at o1
  (try dsimp only)
  walk_at "go"
  walk1
  refine LCg.ListComp_U (F₀ := by k_asm) (by with_unfolding_all rfl) (by decide) (by rfl) (by decide) (by rfl) ?_
  walk_at "go"
  (rename Fr _ _ _ _ => F4)
  (rename News _ _ _ _ => N4)
  refine LCg.CompSrc.ledger (by rfl) F4 N4 (by k_mem) (by simp only [List.size_toArray, sizeLine_eq, hi.length]; omega) (fun g9 => ?_)
  refine crestS (fun i ys => LSm.BoolsAre ys (List.replicate i false)) .nil ?turn2 ?fin2
  case turn2 =>
    intro i ys v I2 oI C oC D2 m2 h2 tk2 E2 hlt hys hv hC hm2 F3 N3 off ne
    (try k_unmd); k_fold
    walk_at "go"
    exact LCg.CompEnd.intro (by assumption) (by assumption) _ (fun _ h => h) off (.inr ⟨_, by k_mem, rfl, _, rfl⟩) ⟨rfl, bools_rep hys⟩
  intro ys2 hB2 D2 h2 tk2 F5 N5 o2
  simp only [LCg.Off1] at o2
  (try dsimp only)
  walk_at "go"
  (rename Fr _ _ _ _ => F6)
  (rename News _ _ _ _ => N6)
  obtain ⟨L1, c3, c2, c1, e1, e2, e3, e4⟩ := nmC3 N6
  subst e1 e2 e3 e4
  with_unfolding_all refine' For_turns F6 ?_
  walk_at "go"
  (rename Fr _ _ _ _ => F7)
  (rename News _ _ _ _ => N7)
  rename_i D9 us9 n9 tups9 hP hO hA
  rw [List.cons_append] at N7
  simp only [LCg.Off1] at hO
  have hD2 : ∀ p ∈ tups9 ++ news, p.1 ≠ D2 := fun p hp => (List.mem_append.mp hp).elim (fun h => Ne.symm (hA (D2, _) (.head _) p h)) (off1_ne o2.2.2.2.2 p)
  have hD1 : ∀ p ∈ tups9 ++ news, p.1 ≠ D1 := fun p hp => (List.mem_append.mp hp).elim (fun h => Ne.symm (hA (D1, _) (.tail _ (.head _)) p h)) (off1_ne o1.2.2.2 p)
  replace N7 := cb_drop N7 (mem_swap (t := tups9))
  have hvl : vs.length = ts.length := hi.length
  rw [List.size_toArray, hvl] at hB1 hB2
  refine iter_listTurns (lo := listOf us9.toArray n9) (vs := us9) (by rfl) F7 N7 (.head _) (by rfl) (by rfl) ?_
  intro I lI
  have hI : ∀ b ∈ List.map (·.1) ((D9, listOf us9.toArray n9) :: (D2, LCg.lst ys2) :: (D1, LCg.lst ys1) :: (L1 + 1 + 1 + 1, c3) :: (L1 + 1 + 1, c2) :: (L1 + 1, c1) :: (tups9 ++ news)), b < I := by
    intro b hb
    obtain ⟨q, hq, rfl⟩ := List.mem_map.mp hb
    exact lI q hq
  refine itemsJ (fun i m nx => ∃ w1 w2 k1 k2, nx = (D9, listOf us9.toArray n9) :: (D2, listOf (List.toArray w2) k2) :: (D1, listOf (List.toArray w1) k1) :: (L1 + 1 + 1 + 1, c3) :: (L1 + 1 + 1, c2) :: (L1 + 1, c1) :: (tups9 ++ news) ∧ LSm.BoolsAre w1 (mk (·.2) ts.length ((jp ts).take i)) ∧ LSm.BoolsAre w2 (mk (·.1) ts.length ((jp ts).take i))) ?h3 ?turn3 ?done3
  case h3 => exact ⟨ys1, ys2, _, _, rfl, hB1, hB2⟩
  case turn3 =>
    rintro i x v m' nw h tk hx hv ⟨w1, w2, k1, k2, rfl, hw1, hw2⟩ F8
    rw [List.getElem?_map] at hx
    obtain ⟨v', hv', rfl⟩ := Option.map_eq_some_iff.mp hx
    obtain rfl : v = v' := hv
    obtain ⟨T1, a1, b1, ta, tb, n1, rfl, hps, hm⟩ := hP.get i _ hv'
    have hbd := jp_bound ts (a1, b1) (List.mem_of_getElem? hps)
    have hm' := List.mem_append_left news hm
    have hl1 := mk_len (·.2) ts.length ((jp ts).take i)
    have hl2 := mk_len (·.1) ts.length ((jp ts).take i)
    (try k_lt lI)
    ktu_objs
    dsimp only at hbd ⊢
    k_fold
    walk_at "go"
    (rename Fr _ _ _ _ => F10)
    (rename News _ _ _ _ => N10)
    obtain ⟨p0, hp0, N10⟩ := nmE1 N10
    refine ⟨_, _, _, (D9, listOf us9.toArray n9) :: (D2, listOf (w2.set a1.toNat (Value.bool true)).toArray k2) :: (D1, listOf (w1.set b1.toNat (Value.bool true)).toArray k1) :: (L1 + 1 + 1 + 1, c3) :: (L1 + 1 + 1, c2) :: (L1 + 1, c1) :: (tups9 ++ news), rfl, F10, ?_, ?_, ⟨.head _, trivial⟩, _, _, _, _, rfl, ?_, ?_⟩
    · rw [hp0] at N10
      exact N10
    · intro p hp q hq
      rw [List.mem_singleton.mp hq]
      exact Nat.ne_of_lt (hI p.1 (List.mem_map_of_mem (f := (·.1)) hp))
    · rw [List.take_add_one, hps, Option.toList_some, mk_snoc]
      assumption
    · rw [List.take_add_one, hps, Option.toList_some, mk_snoc]
      assumption
  case done3 =>
    rintro m' nw h tk ⟨w1, w2, k1, k2, rfl, hw1, hw2⟩ F8 N8
    dsimp only
    rw [List.length_map, hP.length, List.take_length] at hw1 hw2
    walk_at "go"
    refine LCg.ListComp_U (F₀ := by k_asm) (by with_unfolding_all rfl) (by decide) (by rfl) (by decide) (by rfl) ?_
    walk_at "go"
    (rename Fr _ _ _ _ => F11)
    (rename News _ _ _ _ => N11)
    (rename IsRange _ _ _ _ _ _ _ _ => R11)
    refine LCg.CompSrc.range (n := ts.length) (by rfl) F11 N11 R11 (small_one (by omega) (by omega) (by omega) (by omega)) (by rw [rangeSize_nat]; simp) (by rw [sizeLine_eq]; omega) (fun g9 => ?_)
    have hl1 := mk_len (·.2) ts.length (jp ts)
    have hl2 := mk_len (·.1) ts.length (jp ts)
    refine crestS (fun i ys => StrsAre ys ((List.range i).map (formAt ts))) .nil ?turn4 ?fin4
    case turn4 =>
      rintro i ys v I2 oI C oC D4 m2 h2 tk2 E2 hlt hys ⟨tq, rfl⟩ hC hm2 F3 N3 off ne
      rw [Int.zero_add] at hm2
      (try k_unmd); k_fold
      walk_at "go"
      · refine LCg.CompEnd.intro (by assumption) (by assumption) _ (fun _ h => h) off trivial ⟨rfl, ?_⟩
        have e : formAt ts i = formOf ((mk (·.2) ts.length (jp ts)).getD i false) ((mk (·.1) ts.length (jp ts)).getD i false) := by
          unfold formAt; rw [if_pos (by assumption)]
        rw [List.range_succ, List.map_append, List.map_cons, List.map_nil, e]
        exact hys.append' (.cons _ _ .nil)
      · refine LCg.CompEnd.intro (by assumption) (by assumption) _ (fun _ h => h) off trivial ⟨rfl, ?_⟩
        have e : formAt ts i = Str.ofString "" := by
          unfold formAt; rw [if_neg (by rw [Bool.not_eq_true]; assumption)]
        rw [List.range_succ, List.map_append, List.map_cons, List.map_nil, e]
        exact hys.append' (.cons _ _ .nil)
    case fin4 =>
      intro ys hys D4 h4 tk4 F12 N12 o4
      simp only [LCg.Off1] at o4
      (try dsimp only)
      walk_at "go"
      refine hret _ [(D4, listOf ys.toArray ys.length)] _ _ (by k_asm) (cb_drop (news' := _) (by assumption) (fun p hp => ?_)) ⟨D4, ys, _, rfl, rfl, hys, off1_of fun p hp => off1_ne o4.2.2.2.2.2.2 p (List.mem_append.mpr (.inr hp))⟩
      rcases List.mem_cons.mp hp with rfl | hp
      · exact .head _
      · exact .tail _ (.tail _ (.tail _ (.tail _ (.tail _ (.tail _ (.tail _ (List.mem_append.mpr (.inr hp))))))))
end
end Mine
end
section
theorem Mine.offC8 : True := by
  w_top off
  trivial
open PySem PySem.W PyProof.Rows PyProof.V
namespace Mine
/-- as Claim, where the ledger itself turns -/
def ClaimM (w : World) (f : Addr) (dep uns : Nat) (vs : List Value) (news : Led) (Post : Value → Led → Prop) : Prop :=
  ∀ (mean : ExcName → Option Value) (mg mb : Str → Option Value) (dp un : Nat) (gd : Option (List Code)) (cn : Str) (cs : Scope) (a : Addr) (ccd : Value) (cl : List (Str × Addr)) (outer : List Env) (A₀ : Around) (base h₀ : Heap) (L : Addr) (m : Str → Option Value) (s : Shared) (Q E : Value → Shared → Prop),
    Below A₀ base outer h₀ → Fr h₀ L s.heap m → (Mine.hd.heap_39 w.params).In h₀ → News h₀ L s.heap news → Top Mine.hd.view_39 (looseW Mine.hd.view_39 []) mean mg mb h₀ → cs.kind = .function →
    dp + dep < recursionLimit → un + uns < cLine →
    (∀ r nw h' tk', Fr h₀ L h' m → News h₀ L h' nw → Post r nw → Q r { s with heap := h', toks := tk' }) →
    wpAny (model PySem.Challenge.rw_pb0153_01.row.toRowW.prog w) (ktrTop dp un gd cn cs L a ccd cl outer) (call (.ref f) vs) Q E s
theorem ClaimM.use {w : World} {f : Addr} {dep uns : Nat} {vs : List Value} {news : Led} {Post : Value → Led → Prop} (C : ClaimM w f dep uns vs news Post)
    {mean : ExcName → Option Value} {mg mb : Str → Option Value} {dp un : Nat} {gd : Option (List Code)} {cn : Str} {cs : Scope} {a : Addr} {ccd : Value} {cl : List (Str × Addr)} {outer : List Env} {A₀ : Around} {base h₀ : Heap} {L : Addr} {m : Str → Option Value} {s : Shared} {Q E : Value → Shared → Prop}
    (B : Below A₀ base outer h₀) (F : Fr h₀ L s.heap m) (X : (Mine.hd.heap_39 w.params).In h₀) (N : News h₀ L s.heap news) (T : Top Mine.hd.view_39 (looseW Mine.hd.view_39 []) mean mg mb h₀) (hk : cs.kind = .function)
    (hd : dp + dep < recursionLimit) (hu : un + uns < cLine)
    (ret : ∀ r nw h' tk', Fr h₀ L h' m → News h₀ L h' nw → Post r nw → Q r { s with heap := h', toks := tk' }) :
    wpAny (model PySem.Challenge.rw_pb0153_01.row.toRowW.prog w) (ktrTop dp un gd cn cs L a ccd cl outer) (call (.ref f) vs) Q E s :=
  C mean mg mb dp un gd cn cs a ccd cl outer A₀ base h₀ L m s Q E B F X N T hk hd hu ret
section
local macro_rules | `(tactic| walk_at "stop") => `(tactic| first
  | (with_reducible show wpAny _ _ (exec (Stmt.For _ _ _ _ _) _) _ _ _)
  | (with_reducible show wpAny _ _ (pyIter _) _ _ _)
  | (with_reducible show LCg.CompSrc _ _ _ _ _ _ _ _ _ _ _ _ _ _)
  | (with_reducible show LCt.CompSrcT _ _ _ _ _ _ _ _ _ _ _ _ _ _ _)
  | (with_reducible show wpAny _ _ (eval (Expr.ListComp _ _ _ _) _) _ _ _)
  | (with_reducible show wpAny _ _ (exec (Stmt.Assign _ (Expr.ListComp _ _ _ _) _) _) _ _ _))
local macro_rules | `(tactic| walk_at "go") => `(tactic| repeat' (first | (k_unfold; (try dsimp only)) | ((fail_if_success walk_at "stop"); first | (k_end; wrow_close) | walk1 | (dsimp only; walk1) | (leave1; walk_say "STEP leave1"; try dsimp only) | fail "no step")))
local macro_rules | `(tactic| walk_at "enterC") => `(tactic| (refine' code_defC ?k1 ?k2 ?k3 ?k4 ?k5 ?kA ?kF ?kK ?k6 ?k7 ?k8 ?k9 ?kB ?kD ?_ ?c2 ?c3 ?c4; (case kA => exact rfl); (case kF => exact rfl); (case kK => assumption); (case k1 => k_asm); (case k2 => k_asm); (case k3 => k_asm); (case k4 => k_asm); (case k5 => k_asm); (case k6 => k_is); (case k7 => k_is); (case k8 => ktr_room); (case k9 => exact BindsTo.of_eq rfl); (case kB => exact rfl); (case kD => decide +kernel); (case c2 => exact rfl); (case c3 => exact rfl); (case c4 => exact rfl); k_whole; intro g' L' h' tk' cells' FG' F' N' Y' B' X' T' l1; (try k_lt l1); k_cells Y'; (try simp only [List.cons_append, List.nil_append] at N'); (try dsimp only); (try k_lift B'); (try k_fold)))
local macro_rules | `(tactic| walk_at "use") => `(tactic| ((case k1 => k_asm); (case k2 => k_asm); (case k3 => k_asm); (case k4 => k_asm); (case k5 => k_asm); (case kK => first | exact rfl | assumption); (case kd => ktr_room); (case ku => ktr_units)))
local macro_rules | `(tactic| walk_at "useB") => `(tactic| (walk_at "use"; intro r9 tl9 h9 tk9 F9 N9 p9; obtain ⟨e9, e8⟩ := p9; subst e9 e8; rw [List.nil_append] at N9; (try dsimp only); (try k_fold)))
local macro_rules | `(tactic| walk_at "useS") => `(tactic| (walk_at "use"; intro r9 tl9 h9 tk9 F9 N9 p9; obtain ⟨⟨t9, e9⟩, e8⟩ := p9; subst e9 e8; rw [List.nil_append] at N9; (try dsimp only); (try k_fold)))
local macro_rules | `(tactic| walk_at "call ref") => `(tactic| (k_here; first
  | (k_dflt (refine' Claim.use (joins_on_c _ _ _ _) ?k1 ?k2 ?k3 ?k4 ?k5 ?kK ?kd ?ku ?_); walk_at "useB")
  | (k_dflt (refine' Claim.use (joins_back_c _ _ _ _) ?k1 ?k2 ?k3 ?k4 ?k5 ?kK ?kd ?ku ?_); walk_at "useB")
  | (k_dflt (refine' Claim.use (form_of_c _ _ _ _) ?k1 ?k2 ?k3 ?k4 ?k5 ?kK ?kd ?ku ?_); walk_at "useS")
  | (k_dflt (refine' Claim.use (joining_type_c _ _ _ _) ?k1 ?k2 ?k3 ?k4 ?k5 ?kK ?kd ?ku ?_); walk_at "useS")))
local macro_rules | `(tactic| walk_at "lt") => `(tactic| first | assumption | exact allLt_of (by assumption) | exact And.right (by assumption) | exact And.right (And.right (by assumption)) | exact And.right (And.right (And.right (by assumption))))
local macro_rules | `(tactic| k_all) => `(tactic| first | assumption | exact off1_ne (by assumption) | exact ne_up0 (by walk_at "lt") | exact ne_up1 (by walk_at "lt") | exact ne_up2 (by walk_at "lt") | exact ne_up3 (by walk_at "lt"))
local macro_rules | `(tactic| k_mem) => `(tactic| first | assumption | exact List.mem_append.mpr (Or.inr (by assumption)) | exact List.mem_append.mpr (Or.inl (by assumption)) | exact List.mem_append.mpr (Or.inr (List.mem_append.mpr (Or.inr (by assumption)))))
local macro_rules | `(tactic| size_fits) => `(tactic| ((simp only [List.size_toArray, List.length_append, List.length_cons, List.length_nil, PySem.sizeLine_eq]); omega))
local macro_rules | `(tactic| walk_at "idx") => `(tactic| first | omega | ((try simp only [Int.zero_add]); omega))
local macro_rules | `(tactic| walk_at "subscriptTail Name Name ref int") => `(tactic| (k_here; (with_reducible show wpAny _ _ (subscriptTail _ _ (Value.ref _) (Value.int _ _)) _ _ _); k_dflt (refine' item_strs ?N ?m ?w ?h0 ?h1 ?hf ?_; (case N => k_asm); (case m => k_mem); (case w => assumption); (case h0 => walk_at "idx"); (case h1 => walk_at "idx"); (case hf => walk_at "idx")); intro t9; (try simp only [Int.toNat_natCast]); (try dsimp only)))
local macro_rules | `(tactic| walk_at "call builtin:len") => `(tactic| (k_here; (with_reducible show wpAny _ _ (call (Value.builtin "len") [Value.ref _]) _ _ _); k_dflt (refine' len_listAny ?N ?m ?c ?f ?_; (case N => k_asm); (case m => k_mem); (case c => first | exact Eq.trans List.size_toArray (PyProof.Rows.StrsAre.length (by assumption)) | exact Eq.trans List.size_toArray (IntsAre.length (by assumption)) | exact Eq.trans List.size_toArray (LSm.BoolsAre.length (by assumption))); (case f => omega)); (try dsimp only)))
local macro_rules | `(tactic| walk_at "setItem ref int") => `(tactic| (k_here; (with_reducible show wpAny _ _ (setItem (Value.ref _) (Value.int _ _) (Value.bool _)) _ _ _); k_dflt (refine' kbo_set ?F ?N ?U ?hb ?h0 ?h1 ?hf ?_; (case F => k_asm); (case N => k_asm); (case U => k_upd); (case hb => assumption); (case h0 => walk_at "idx"); (case h1 => walk_at "idx"); (case hf => walk_at "idx")); intro h' F' N' hb' hl'; (try k_sweep); (try dsimp only)))
local macro_rules | `(tactic| walk_at "subscriptTail Name Name ref int") => `(tactic| (k_here; (with_reducible show wpAny _ _ (subscriptTail _ _ (Value.ref _) (Value.int _ _)) _ _ _); k_dflt (refine' kbo_sub ?N ?m ?w ?h0 ?h1 ?hf ?_; (case N => k_asm); (case m => k_mem); (case w => assumption); (case h0 => walk_at "idx"); (case h1 => walk_at "idx"); (case hf => walk_at "idx")); (try simp only [Int.toNat_natCast]); (try dsimp only)))
abbrev poolObj (C : Addr) (g : Int) (tg : Tok) (st : Int) (ts : Tok) (pl : Int) (tp : Tok) (n : Nat) : Obj := listOf #[.ref C, .int g tg, .int st ts, .int pl tp] n
theorem law_draw_c (w : World) (news : Led) (P C : Addr) (us : List Value) (cells : List Int) (g st pl most : Int) (tg ts tp tm : Tok) (n1 n2 : Nat) (hP : @Ne Nat C P) (hN : ∀ p ∈ news, p.1 ≠ P) (hi : IntsAre us cells) (hc : cells.length ≤ 1000)
    (h0 : 0 ≤ pl) (h1 : pl ≤ 1000) (h2 : 0 < most) (h3 : most ≤ 1000) :
    ClaimM w 100 1 8 [.ref P, .int most tm] ((P, poolObj C g tg st ts pl tp n1) :: (C, listOf us.toArray n2) :: news)
      (fun r nw => ∃ d t g' tg' st' ts' tp', r = .int d t ∧ 0 ≤ d ∧ d < most ∧ nw = (P, poolObj C g' tg' st' ts' (pl + 1) tp' n1) :: (C, listOf us.toArray n2) :: news) := by
  unfold ClaimM; k_fill
  intro mean mg mb dp un gd cn cs a ccd cl outer A₀ base h₀ L m s Q E B F X N T hk hd hu hret
  refine wpAny_call ?_
  k_dflt cell_enter
  walk_at "go"
  all_goals exact hret _ _ _ _ (by k_asm) (by k_asm) ⟨_, _, _, _, _, _, _, rfl, Int.fmod_nonneg_of_pos _ h2, Int.fmod_lt_of_pos _ h2, rfl⟩
end
end Mine
end
section
theorem Mine.offC9 : True := by
  w_top off
  trivial
local macro_rules | `(tactic| walk_at "pad") => `(tactic| skip)
local macro_rules | `(tactic| walk_at "pad") => `(tactic| skip)
local macro_rules | `(tactic| walk_at "pad") => `(tactic| skip)
local macro_rules | `(tactic| walk_at "pad") => `(tactic| skip)
local macro_rules | `(tactic| walk_at "pad") => `(tactic| skip)
local macro_rules | `(tactic| walk_at "pad") => `(tactic| skip)
local macro_rules | `(tactic| walk_at "pad") => `(tactic| skip)
local macro_rules | `(tactic| walk_at "pad") => `(tactic| skip)
local macro_rules | `(tactic| walk_at "pad") => `(tactic| skip)
local macro_rules | `(tactic| walk_at "pad") => `(tactic| skip)
local macro_rules | `(tactic| walk_at "pad") => `(tactic| skip)
local macro_rules | `(tactic| walk_at "pad") => `(tactic| skip)
local macro_rules | `(tactic| walk_at "pad") => `(tactic| skip)
local macro_rules | `(tactic| walk_at "pad") => `(tactic| skip)
local macro_rules | `(tactic| walk_at "pad") => `(tactic| skip)
local macro_rules | `(tactic| walk_at "pad") => `(tactic| skip)
local macro_rules | `(tactic| walk_at "pad") => `(tactic| skip)
local macro_rules | `(tactic| walk_at "pad") => `(tactic| skip)
local macro_rules | `(tactic| walk_at "pad") => `(tactic| skip)
local macro_rules | `(tactic| walk_at "pad") => `(tactic| skip)
local macro_rules | `(tactic| walk_at "pad") => `(tactic| skip)
local macro_rules | `(tactic| walk_at "pad") => `(tactic| skip)
local macro_rules | `(tactic| walk_at "pad") => `(tactic| skip)
local macro_rules | `(tactic| walk_at "pad") => `(tactic| skip)
local macro_rules | `(tactic| walk_at "pad") => `(tactic| skip)
local macro_rules | `(tactic| walk_at "pad") => `(tactic| skip)
local macro_rules | `(tactic| walk_at "pad") => `(tactic| skip)
local macro_rules | `(tactic| walk_at "pad") => `(tactic| skip)
local macro_rules | `(tactic| walk_at "pad") => `(tactic| skip)
local macro_rules | `(tactic| walk_at "pad") => `(tactic| skip)
local macro_rules | `(tactic| walk_at "pad") => `(tactic| skip)
local macro_rules | `(tactic| walk_at "pad") => `(tactic| skip)
local macro_rules | `(tactic| walk_at "pad") => `(tactic| skip)
local macro_rules | `(tactic| walk_at "pad") => `(tactic| skip)
local macro_rules | `(tactic| walk_at "pad") => `(tactic| skip)
local macro_rules | `(tactic| walk_at "pad") => `(tactic| skip)
local macro_rules | `(tactic| walk_at "pad") => `(tactic| skip)
local macro_rules | `(tactic| walk_at "pad") => `(tactic| skip)
local macro_rules | `(tactic| walk_at "pad") => `(tactic| skip)
local macro_rules | `(tactic| walk_at "pad") => `(tactic| skip)
open PySem PySem.W PyProof.Rows PyProof.V
namespace Mine
section
local macro_rules | `(tactic| walk_at "stop") => `(tactic| first
  | (with_reducible show wpAny _ _ (exec (Stmt.For _ _ _ _ _) _) _ _ _)
  | (with_reducible show wpAny _ _ (pyIter _) _ _ _)
  | (with_reducible show LCg.CompSrc _ _ _ _ _ _ _ _ _ _ _ _ _ _)
  | (with_reducible show LCt.CompSrcT _ _ _ _ _ _ _ _ _ _ _ _ _ _ _)
  | (with_reducible show wpAny _ _ (eval (Expr.ListComp _ _ _ _) _) _ _ _)
  | (with_reducible show wpAny _ _ (exec (Stmt.Assign _ (Expr.ListComp _ _ _ _) _) _) _ _ _))
local macro_rules | `(tactic| walk_at "go") => `(tactic| repeat' (first | (k_unfold; (try dsimp only)) | ((fail_if_success walk_at "stop"); first | (k_end; wrow_close) | walk1 | (dsimp only; walk1) | (leave1; walk_say "STEP leave1"; try dsimp only) | fail "no step")))
local macro_rules | `(tactic| walk_at "enterC") => `(tactic| (refine' code_defC ?k1 ?k2 ?k3 ?k4 ?k5 ?kA ?kF ?kK ?k6 ?k7 ?k8 ?k9 ?kB ?kD ?_ ?c2 ?c3 ?c4; (case kA => exact rfl); (case kF => exact rfl); (case kK => assumption); (case k1 => k_asm); (case k2 => k_asm); (case k3 => k_asm); (case k4 => k_asm); (case k5 => k_asm); (case k6 => k_is); (case k7 => k_is); (case k8 => ktr_room); (case k9 => exact BindsTo.of_eq rfl); (case kB => exact rfl); (case kD => decide +kernel); (case c2 => exact rfl); (case c3 => exact rfl); (case c4 => exact rfl); k_whole; intro g' L' h' tk' cells' FG' F' N' Y' B' X' T' l1; (try k_lt l1); k_cells Y'; (try simp only [List.cons_append, List.nil_append] at N'); (try dsimp only); (try k_lift B'); (try k_fold)))
local macro_rules | `(tactic| walk_at "use") => `(tactic| ((case k1 => k_asm); (case k2 => k_asm); (case k3 => k_asm); (case k4 => k_asm); (case k5 => k_asm); (case kK => first | exact rfl | assumption); (case kd => ktr_room); (case ku => ktr_units)))
local macro_rules | `(tactic| walk_at "useB") => `(tactic| (walk_at "use"; intro r9 tl9 h9 tk9 F9 N9 p9; obtain ⟨e9, e8⟩ := p9; subst e9 e8; rw [List.nil_append] at N9; (try dsimp only); (try k_fold)))
local macro_rules | `(tactic| walk_at "useS") => `(tactic| (walk_at "use"; intro r9 tl9 h9 tk9 F9 N9 p9; obtain ⟨⟨t9, e9⟩, e8⟩ := p9; subst e9 e8; rw [List.nil_append] at N9; (try dsimp only); (try k_fold)))
local macro_rules | `(tactic| walk_at "call ref") => `(tactic| (k_here; first
  | (k_dflt (refine' Claim.use (joins_on_c _ _ _ _) ?k1 ?k2 ?k3 ?k4 ?k5 ?kK ?kd ?ku ?_); walk_at "useB")
  | (k_dflt (refine' Claim.use (joins_back_c _ _ _ _) ?k1 ?k2 ?k3 ?k4 ?k5 ?kK ?kd ?ku ?_); walk_at "useB")
  | (k_dflt (refine' Claim.use (form_of_c _ _ _ _) ?k1 ?k2 ?k3 ?k4 ?k5 ?kK ?kd ?ku ?_); walk_at "useS")
  | (k_dflt (refine' Claim.use (joining_type_c _ _ _ _) ?k1 ?k2 ?k3 ?k4 ?k5 ?kK ?kd ?ku ?_); walk_at "useS")))
local macro_rules | `(tactic| walk_at "lt") => `(tactic| first | assumption | exact allLt_of (by assumption) | exact And.right (by assumption) | exact And.right (And.right (by assumption)) | exact And.right (And.right (And.right (by assumption))))
local macro_rules | `(tactic| k_all) => `(tactic| first | assumption | exact off1_ne (by assumption) | exact ne_up0 (by walk_at "lt") | exact ne_up1 (by walk_at "lt") | exact ne_up2 (by walk_at "lt") | exact ne_up3 (by walk_at "lt"))
local macro_rules | `(tactic| k_mem) => `(tactic| first | assumption | exact List.mem_append.mpr (Or.inr (by assumption)) | exact List.mem_append.mpr (Or.inl (by assumption)) | exact List.mem_append.mpr (Or.inr (List.mem_append.mpr (Or.inr (by assumption)))))
local macro_rules | `(tactic| size_fits) => `(tactic| ((simp only [List.size_toArray, List.length_append, List.length_cons, List.length_nil, PySem.sizeLine_eq]); omega))
local macro_rules | `(tactic| walk_at "idx") => `(tactic| first | omega | ((try simp only [Int.zero_add]); omega))
local macro_rules | `(tactic| walk_at "subscriptTail Name Name ref int") => `(tactic| (k_here; (with_reducible show wpAny _ _ (subscriptTail _ _ (Value.ref _) (Value.int _ _)) _ _ _); k_dflt (refine' item_strs ?N ?m ?w ?h0 ?h1 ?hf ?_; (case N => k_asm); (case m => k_mem); (case w => assumption); (case h0 => walk_at "idx"); (case h1 => walk_at "idx"); (case hf => walk_at "idx")); intro t9; (try simp only [Int.toNat_natCast]); (try dsimp only)))
local macro_rules | `(tactic| walk_at "call builtin:len") => `(tactic| (k_here; (with_reducible show wpAny _ _ (call (Value.builtin "len") [Value.ref _]) _ _ _); k_dflt (refine' len_listAny ?N ?m ?c ?f ?_; (case N => k_asm); (case m => k_mem); (case c => first | exact Eq.trans List.size_toArray (PyProof.Rows.StrsAre.length (by assumption)) | exact Eq.trans List.size_toArray (IntsAre.length (by assumption)) | exact Eq.trans List.size_toArray (LSm.BoolsAre.length (by assumption))); (case f => omega)); (try dsimp only)))
local macro_rules | `(tactic| walk_at "setItem ref int") => `(tactic| (k_here; (with_reducible show wpAny _ _ (setItem (Value.ref _) (Value.int _ _) (Value.bool _)) _ _ _); k_dflt (refine' kbo_set ?F ?N ?U ?hb ?h0 ?h1 ?hf ?_; (case F => k_asm); (case N => k_asm); (case U => k_upd); (case hb => assumption); (case h0 => walk_at "idx"); (case h1 => walk_at "idx"); (case hf => walk_at "idx")); intro h' F' N' hb' hl'; (try k_sweep); (try dsimp only)))
local macro_rules | `(tactic| walk_at "subscriptTail Name Name ref int") => `(tactic| (k_here; (with_reducible show wpAny _ _ (subscriptTail _ _ (Value.ref _) (Value.int _ _)) _ _ _); k_dflt (refine' kbo_sub ?N ?m ?w ?h0 ?h1 ?hf ?_; (case N => k_asm); (case m => k_mem); (case w => assumption); (case h0 => walk_at "idx"); (case h1 => walk_at "idx"); (case hf => walk_at "idx")); (try simp only [Int.toNat_natCast]); (try dsimp only)))
theorem law_box_c (w : World) (news : Led) (l : Addr) (vs : List Value) (xs : List Int) (hi : IntsAre vs xs) (hn : xs.length ≤ 63)
    (mean : ExcName → Option Value) (mg mb : Str → Option Value) (dp un : Nat) (gd : Option (List Code)) (cn : Str) (cs : Scope) (a : Addr) (ccd : Value) (cl : List (Str × Addr)) (outer : List Env) (A₀ : Around) (base h₀ : Heap) (L : Addr) (m : Str → Option Value) (s : Shared) (Q E : Value → Shared → Prop)
    (B : Below A₀ base outer h₀) (hl : base.IsList l vs.toArray) (F : Fr h₀ L s.heap m) (X : (Mine.hd.heap_39 w.params).In h₀) (N : News h₀ L s.heap news) (T : Top Mine.hd.view_39 (looseW Mine.hd.view_39 []) mean mg mb h₀) (hk : cs.kind = .function)
    (hd : dp + 1 < recursionLimit) (hu : un + 8 < cLine)
    (hret : ∀ D C us n1 n2 cells g tg st ts t0 h' tk', Fr h₀ L h' m → News h₀ L h' ((D, poolObj C g tg st ts 0 t0 n1) :: (C, listOf (List.toArray us) n2) :: news) → IntsAre us cells → cells.length ≤ 40 → @Ne Nat C D → LCg.Off1 D news → LCg.Off1 C news →
      Q (.ref D) { s with heap := h', toks := tk' }) :
    wpAny (model PySem.Challenge.rw_pb0153_01.row.toRowW.prog w) (ktrTop dp un gd cn cs L a ccd cl outer) (call (.ref 93) [.ref l]) Q E s := by
  revert X; k_fill; intro X
  refine wpAny_call ?_
  k_dflt cell_enter
  walk_at "go"
  refine LCg.Assign_ListComp_U (F₀ := by k_asm) (by rfl) (by with_unfolding_all rfl) (by with_unfolding_all rfl) (by decide) (by rfl) (by decide) (by rfl) (by rfl) (by rfl) ?_
  walk_at "go"
  (rename Fr _ _ _ _ => F1)
  (rename News _ _ _ _ => N1)
  (rename IntsAre _ (List.take 40 xs) => hi1)
  obtain ⟨D0, e0⟩ := nm1 N1
  subst e0
  rename_i ws0 _ _ _ _
  refine LCg.CompSrc.ledger (by rfl) F1 N1 (.head _) (by simp only [List.size_toArray, sizeLine_eq, hi1.length, List.length_take]; omega) (fun g9 => ?_)
  refine crestS (fun i ys => IntsAre ys ((xs.take 40).take i)) .nil ?turn ?fin
  case turn =>
    intro i ys v I2 oI C oC D2 m2 h2 tk2 E2 hlt hys hv hC hm2 F3 N3 off ne
    simp only [List.getElem?_toArray] at hv
    obtain ⟨c, tc, rfl, hx⟩ := hi1.at i v hv
    (try k_unmd); k_fold
    walk_at "go"
    refine LCg.CompEnd.intro (by assumption) (by assumption) _ (fun _ h => h) off (.inr ⟨_, .head _, rfl, _, rfl⟩) ⟨rfl, ?_⟩
    rw [List.take_add_one, hx]
    exact IntsAre.append hys (.cons _ _ .nil)
  case fin =>
    intro ys1 hB1 D1 h1 tk1 F3 N3 o1
    simp only [LCg.Off1] at o1
    rw [List.size_toArray, hi1.length, List.take_length] at hB1
    have hcl : (List.take 40 xs).length ≤ 40 := by rw [List.length_take]; omega
    (try dsimp only)
    walk_at "go"
    all_goals (
      (rename Fr _ _ _ _ => F5)
      (rename News _ _ _ _ => N5)
      with_unfolding_all refine' For_invVF F5 (by exact rfl) (by exact rfl) ?_
      walk1
      refine iter_listUnr (lo := LCg.lst ys1) (vs := ys1) (by rfl) F5 N5 (.head _) (by rfl) (by rfl) ?_
      intro I lI; k_lt lI
      refine listJ (fun i m nx => nx = (D1, LCg.lst ys1) :: (D0, listOf (List.toArray ws0) 0) :: news ∧ ∃ g tg st ts u, m = fun y => if y = Str.ofString "cell" then u else if y = Str.ofString "state" then some (.int st ts) else if y = Str.ofString "great" then some (.int g tg) else if y = Str.ofString "cells" then some (.ref D1) else if y = Str.ofString "script" then some (.ref l) else none) ⟨rfl, ?_⟩ ?_ ?_
      · obtain ⟨g0, tg0, hg0⟩ := fr_int F5 (Str.ofString "great") rfl
        obtain ⟨s0, ts0, hs0⟩ := fr_int F5 (Str.ofString "state") rfl
        refine ⟨g0, tg0, s0, ts0, none, ?_⟩
        funext y
        by_cases h1 : y = Str.ofString "cell"
        · subst h1; rfl
        · by_cases h2 : y = Str.ofString "state"
          · subst h2; exact hs0
          · by_cases h3 : y = Str.ofString "great"
            · subst h3; exact hg0
            · by_cases h4 : y = Str.ofString "cells"
              · subst h4; rfl
              · simp only [if_neg h1, if_neg h2, if_neg h3, if_neg h4]
                exact look1 y _ _
      · rintro i v m' nw it h tk hv ⟨rfl, g, tg, st, ts, u, rfl⟩ hc F6
        obtain ⟨c, tc, rfl, hx⟩ := hB1.at i v hv
        intro N6
        (try k_unmd); k_fold
        walk_at "go"
        exact ⟨_, _, _, (D1, LCg.lst ys1) :: (D0, listOf ws0.toArray 0) :: news, rfl, by assumption, by assumption, by k_all, .head _, rfl, g, tg, _, _, some (.int c tc), if_swap (by decide)⟩
      · rintro m' nw h tk ⟨rfl, g, tg, st, ts, u, rfl⟩ F6 N6
        (try dsimp only)
        walk_at "go"
        (rename News _ _ _ ((_, listOf #[_, _, _, _] _) :: _) => N7)
        obtain ⟨P, eP⟩ := nm1 N7
        subst eP
        exact hret P D1 ys1 _ _ (List.take 40 xs) g tg st ts _ _ _ (by k_asm) (drop3 N7) hB1 hcl (by k_ne) (off1_of (by k_all)) o1.2)
end
end Mine
end
section
theorem Mine.offC10 : True := by
  w_top off
  trivial
open PySem PySem.W PyProof.Rows PyProof.V
namespace Mine
section
local macro_rules | `(tactic| walk_at "stop") => `(tactic| first
  | (with_reducible show wpAny _ _ (exec (Stmt.For _ _ _ _ _) _) _ _ _)
  | (with_reducible show wpAny _ _ (pyIter _) _ _ _)
  | (with_reducible show LCg.CompSrc _ _ _ _ _ _ _ _ _ _ _ _ _ _)
  | (with_reducible show LCt.CompSrcT _ _ _ _ _ _ _ _ _ _ _ _ _ _ _)
  | (with_reducible show wpAny _ _ (eval (Expr.ListComp _ _ _ _) _) _ _ _)
  | (with_reducible show wpAny _ _ (exec (Stmt.Assign _ (Expr.ListComp _ _ _ _) _) _) _ _ _))
local macro_rules | `(tactic| walk_at "go") => `(tactic| repeat' (first | (k_unfold; (try dsimp only)) | ((fail_if_success walk_at "stop"); first | (k_end; wrow_close) | walk1 | (dsimp only; walk1) | (leave1; walk_say "STEP leave1"; try dsimp only) | fail "no step")))
local macro_rules | `(tactic| walk_at "enterC") => `(tactic| (refine' code_defC ?k1 ?k2 ?k3 ?k4 ?k5 ?kA ?kF ?kK ?k6 ?k7 ?k8 ?k9 ?kB ?kD ?_ ?c2 ?c3 ?c4; (case kA => exact rfl); (case kF => exact rfl); (case kK => assumption); (case k1 => k_asm); (case k2 => k_asm); (case k3 => k_asm); (case k4 => k_asm); (case k5 => k_asm); (case k6 => k_is); (case k7 => k_is); (case k8 => ktr_room); (case k9 => exact BindsTo.of_eq rfl); (case kB => exact rfl); (case kD => decide +kernel); (case c2 => exact rfl); (case c3 => exact rfl); (case c4 => exact rfl); k_whole; intro g' L' h' tk' cells' FG' F' N' Y' B' X' T' l1; (try k_lt l1); k_cells Y'; (try simp only [List.cons_append, List.nil_append] at N'); (try dsimp only); (try k_lift B'); (try k_fold)))
local macro_rules | `(tactic| walk_at "use") => `(tactic| ((case k1 => k_asm); (case k2 => k_asm); (case k3 => k_asm); (case k4 => k_asm); (case k5 => k_asm); (case kK => first | exact rfl | assumption); (case kd => ktr_room); (case ku => ktr_units)))
local macro_rules | `(tactic| walk_at "useB") => `(tactic| (walk_at "use"; intro r9 tl9 h9 tk9 F9 N9 p9; obtain ⟨e9, e8⟩ := p9; subst e9 e8; rw [List.nil_append] at N9; (try dsimp only); (try k_fold)))
local macro_rules | `(tactic| walk_at "useS") => `(tactic| (walk_at "use"; intro r9 tl9 h9 tk9 F9 N9 p9; obtain ⟨⟨t9, e9⟩, e8⟩ := p9; subst e9 e8; rw [List.nil_append] at N9; (try dsimp only); (try k_fold)))
local macro_rules | `(tactic| walk_at "call ref") => `(tactic| (k_here; first
  | (k_dflt (refine' Claim.use (joins_on_c _ _ _ _) ?k1 ?k2 ?k3 ?k4 ?k5 ?kK ?kd ?ku ?_); walk_at "useB")
  | (k_dflt (refine' Claim.use (joins_back_c _ _ _ _) ?k1 ?k2 ?k3 ?k4 ?k5 ?kK ?kd ?ku ?_); walk_at "useB")
  | (k_dflt (refine' Claim.use (form_of_c _ _ _ _) ?k1 ?k2 ?k3 ?k4 ?k5 ?kK ?kd ?ku ?_); walk_at "useS")
  | (k_dflt (refine' Claim.use (joining_type_c _ _ _ _) ?k1 ?k2 ?k3 ?k4 ?k5 ?kK ?kd ?ku ?_); walk_at "useS")))
local macro_rules | `(tactic| walk_at "lt") => `(tactic| first | assumption | exact allLt_of (by assumption) | exact And.right (by assumption) | exact And.right (And.right (by assumption)) | exact And.right (And.right (And.right (by assumption))))
local macro_rules | `(tactic| k_all) => `(tactic| first | assumption | exact off1_ne (by assumption) | exact ne_up0 (by walk_at "lt") | exact ne_up1 (by walk_at "lt") | exact ne_up2 (by walk_at "lt") | exact ne_up3 (by walk_at "lt"))
local macro_rules | `(tactic| k_mem) => `(tactic| first | assumption | exact List.mem_append.mpr (Or.inr (by assumption)) | exact List.mem_append.mpr (Or.inl (by assumption)) | exact List.mem_append.mpr (Or.inr (List.mem_append.mpr (Or.inr (by assumption)))))
local macro_rules | `(tactic| size_fits) => `(tactic| ((simp only [List.size_toArray, List.length_append, List.length_cons, List.length_nil, PySem.sizeLine_eq]); omega))
local macro_rules | `(tactic| walk_at "idx") => `(tactic| first | omega | ((try simp only [Int.zero_add]); omega))
local macro_rules | `(tactic| walk_at "subscriptTail Name Name ref int") => `(tactic| (k_here; (with_reducible show wpAny _ _ (subscriptTail _ _ (Value.ref _) (Value.int _ _)) _ _ _); k_dflt (refine' item_strs ?N ?m ?w ?h0 ?h1 ?hf ?_; (case N => k_asm); (case m => k_mem); (case w => assumption); (case h0 => walk_at "idx"); (case h1 => walk_at "idx"); (case hf => walk_at "idx")); intro t9; (try simp only [Int.toNat_natCast]); (try dsimp only)))
local macro_rules | `(tactic| walk_at "call builtin:len") => `(tactic| (k_here; (with_reducible show wpAny _ _ (call (Value.builtin "len") [Value.ref _]) _ _ _); k_dflt (refine' len_listAny ?N ?m ?c ?f ?_; (case N => k_asm); (case m => k_mem); (case c => first | exact Eq.trans List.size_toArray (PyProof.Rows.StrsAre.length (by assumption)) | exact Eq.trans List.size_toArray (IntsAre.length (by assumption)) | exact Eq.trans List.size_toArray (LSm.BoolsAre.length (by assumption))); (case f => omega)); (try dsimp only)))
local macro_rules | `(tactic| walk_at "setItem ref int") => `(tactic| (k_here; (with_reducible show wpAny _ _ (setItem (Value.ref _) (Value.int _ _) (Value.bool _)) _ _ _); k_dflt (refine' kbo_set ?F ?N ?U ?hb ?h0 ?h1 ?hf ?_; (case F => k_asm); (case N => k_asm); (case U => k_upd); (case hb => assumption); (case h0 => walk_at "idx"); (case h1 => walk_at "idx"); (case hf => walk_at "idx")); intro h' F' N' hb' hl'; (try k_sweep); (try dsimp only)))
local macro_rules | `(tactic| walk_at "subscriptTail Name Name ref int") => `(tactic| (k_here; (with_reducible show wpAny _ _ (subscriptTail _ _ (Value.ref _) (Value.int _ _)) _ _ _); k_dflt (refine' kbo_sub ?N ?m ?w ?h0 ?h1 ?hf ?_; (case N => k_asm); (case m => k_mem); (case w => assumption); (case h0 => walk_at "idx"); (case h1 => walk_at "idx"); (case hf => walk_at "idx")); (try simp only [Int.toNat_natCast]); (try dsimp only)))
def rrStep (o : Bool) (f : Str) : Option Bool :=
  if (f = Str.ofString "init" ∨ f = Str.ofString "isol" ∨ f = Str.ofString "none") ∧ o = true then none
  else if (f = Str.ofString "medi" ∨ f = Str.ofString "fina") ∧ o = false then none
  else if f = Str.ofString "init" then some true else if f = Str.ofString "fina" then some false else some o
def rr (fs : List Str) : Option Bool := fs.foldl (fun st f => st.bind (rrStep · f)) (some false)
theorem rr_snoc (fs : List Str) (f : Str) : rr (fs ++ [f]) = (rr fs).bind (rrStep · f) := by
  simp [rr, List.foldl_append]
theorem rr_none (fs gs : List Str) (h : rr fs = none) : rr (fs ++ gs) = none := by
  induction gs generalizing fs with
  | nil => simpa using h
  | cons g gs ih =>
    have : fs ++ g :: gs = (fs ++ [g]) ++ gs := by simp
    rw [this]
    exact ih _ (by rw [rr_snoc, h]; rfl)
abbrev any1 (f : Str) : Bool := [Str.ofString "init", Str.ofString "isol", Str.ofString "none"].any fun x => x == f
abbrev any2 (f : Str) : Bool := [Str.ofString "medi", Str.ofString "fina"].any fun x => x == f
theorem any1_iff (f : Str) : any1 f = true ↔ f = Str.ofString "init" ∨ f = Str.ofString "isol" ∨ f = Str.ofString "none" := by
  simp only [any1, List.any_cons, List.any_nil, Bool.or_false, Bool.or_eq_true, beq_iff_eq]
  exact ⟨fun h => h.elim (fun h => .inl h.symm) fun h => h.elim (fun h => .inr (.inl h.symm)) fun h => .inr (.inr h.symm), fun h => h.elim (fun h => .inl h.symm) fun h => h.elim (fun h => .inr (.inl h.symm)) fun h => .inr (.inr h.symm)⟩
theorem any2_iff (f : Str) : any2 f = true ↔ f = Str.ofString "medi" ∨ f = Str.ofString "fina" := by
  simp only [any2, List.any_cons, List.any_nil, Bool.or_false, Bool.or_eq_true, beq_iff_eq]
  exact ⟨fun h => h.elim (fun h => .inl h.symm) fun h => .inr h.symm, fun h => h.elim (fun h => .inl h.symm) fun h => .inr h.symm⟩
theorem step_no1 {o : Bool} {f : Str} (h1 : any1 f = true) (h2 : o = true) : rrStep o f = none := by
  unfold rrStep; rw [if_pos ⟨(any1_iff f).mp h1, h2⟩]
theorem step_no2 {o : Bool} {f : Str} (h1 : any2 f = true) (h2 : o = false) : rrStep o f = none := by
  unfold rrStep; rw [if_neg (by simp [h2]), if_pos ⟨(any2_iff f).mp h1, h2⟩]
theorem step_ok {o : Bool} {f : Str} (h1 : any1 f = false ∨ o = false) (h2 : any2 f = false ∨ o = true) : rrStep o f = if (f == Str.ofString "init") = true then some true else if (f == Str.ofString "fina") = true then some false else some o := by
  unfold rrStep
  rw [if_neg, if_neg]
  · simp only [beq_iff_eq]
  · rintro ⟨h3, h4⟩
    rcases h2 with h2 | h2
    · rw [(any2_iff f).mpr h3] at h2; cases h2
    · rw [h2] at h4; cases h4
  · rintro ⟨h3, h4⟩
    rcases h1 with h1 | h1
    · rw [(any1_iff f).mpr h3] at h1; cases h1
    · rw [h1] at h4; cases h4
theorem rr_take {fs : List Str} {i : Nat} {f : Str} {o : Bool} (hx : fs[i]? = some f) (hro : rr (fs.take i) = some o) : rr (fs.take (i + 1)) = rrStep o f := by
  rw [List.take_add_one, hx, Option.toList_some, rr_snoc, hro]; rfl
theorem rr_dead {fs : List Str} {i : Nat} {f : Str} {o : Bool} (hx : fs[i]? = some f) (hro : rr (fs.take i) = some o) (h : rrStep o f = none) : rr fs = none := by
  rw [← List.take_append_drop (i + 1) fs]
  exact rr_none _ _ ((rr_take hx hro).trans h)
theorem runs_right_c (w : World) (news : Led) (l : Addr) (vs : List Value) (n : Nat) (fs : List Str) (hl : (l, listOf vs.toArray n) ∈ news) (hi : StrsAre vs fs) (hn : fs.length ≤ 1000) :
    Claim w 107 1 8 [.ref l] news (fun r tl => r = .bool (decide (rr fs = some false)) ∧ tl = []) := by
  unfold Claim; k_fill
  intro mean mg mb dp un gd cn cs a ccd cl outer A₀ base h₀ L m s Q E B F X N T hk hd hu hret
  refine wpAny_call ?_
  k_dflt cell_enter
  walk_at "go"
  (rename Fr _ _ _ _ => F1)
  (rename News _ _ _ _ => N1)
  with_unfolding_all refine' For_invVF F1 (by exact rfl) (by exact rfl) ?_
  walk1
  refine iter_listUnr (lo := listOf vs.toArray n) (vs := vs) (by rfl) F1 N1 (by k_mem) (by rfl) (by rfl) ?_
  intro I lI; (try k_lt lI)
  refine listJ (fun i m nx => nx = news ∧ ∃ o u, rr (fs.take i) = some o ∧ m = fun y => if y = Str.ofString "form" then u else if y = Str.ofString "is_open" then some (.bool o) else if y = Str.ofString "forms" then some (.ref l) else none) ⟨rfl, ?_⟩ ?_ ?_
  · refine ⟨false, none, rfl, ?_⟩
    funext y
    by_cases h1 : y = Str.ofString "form"
    · subst h1; rfl
    · by_cases h2 : y = Str.ofString "is_open"
      · subst h2; rfl
      · simp only [if_neg h1, if_neg h2]
        exact look1 y _ _
  · rintro i v m' nw it h tk hv ⟨rfl, o, u, hro, rfl⟩ hc F6
    obtain ⟨f, tf, rfl, hx⟩ := hi.item i v hv
    intro N6
    (try k_unmd); k_fold
    walk_at "go"
    all_goals first
      | exact hret _ [] _ _ (by k_asm) (cb_drop (by assumption) (fun p hp => by first | exact .tail _ (.tail _ hp) | exact .tail _ (.tail _ (.tail _ hp)))) ⟨by rw [rr_dead hx hro (by first | exact step_no1 (by assumption) (by assumption) | exact step_no2 (by assumption) (by assumption))]; rfl, rfl⟩
      | (have hs := step_ok (o := o) (f := f) (by first | exact .inl (by assumption) | exact .inr (by assumption)) (by first | exact .inl (by assumption) | exact .inr (by assumption))
         first
          | (rw [if_pos (by assumption)] at hs
             exact ⟨_, _, _, nw, rfl, by assumption, cb_drop (by assumption) (fun p hp => .tail _ (.tail _ hp)), fun p hp => Nat.ne_of_lt (lI p hp), hl, rfl, true, some (.str f tf), (rr_take hx hro).trans hs, if_swap (by decide)⟩)
          | (rw [if_neg (by rw [Bool.not_eq_true]; assumption), if_pos (by assumption)] at hs
             exact ⟨_, _, _, nw, rfl, by assumption, cb_drop (by assumption) (fun p hp => .tail _ (.tail _ hp)), fun p hp => Nat.ne_of_lt (lI p hp), hl, rfl, false, some (.str f tf), (rr_take hx hro).trans hs, if_swap (by decide)⟩)
          | (rw [if_neg (by rw [Bool.not_eq_true]; assumption), if_neg (by rw [Bool.not_eq_true]; assumption)] at hs
             exact ⟨_, _, _, nw, rfl, by assumption, cb_drop (by assumption) (fun p hp => .tail _ (.tail _ hp)), fun p hp => Nat.ne_of_lt (lI p hp), hl, rfl, o, some (.str f tf), (rr_take hx hro).trans hs, if_dup⟩))
  · rintro m' nw h tk ⟨rfl, o, u, hro, rfl⟩ F6 N6
    rw [hi.length, List.take_length] at hro
    (try dsimp only)
    walk_at "go"
    exact hret _ [] _ _ (by k_asm) (by k_asm) ⟨by rw [hro]; cases o <;> rfl, rfl⟩
end
end Mine
end
section
open PySem PySem.W PyProof.Rows PyProof.V
namespace Mine
def lastOf {α : Type} : List α → Option α
  | [] => none
  | [a] => some a
  | _ :: b :: r => lastOf (b :: r)
def bodyOf : Option Stmt → List Stmt
  | some (.FunctionDef _ _ b _ _ _ _ _ _ _) => b
  | _ => []
def scopeOf : Option Stmt → List (Str × NameKind) × List (Str × Const)
  | some (.FunctionDef _ _ _ _ _ _ sc _ _ _) => (sc.names, sc.more)
  | _ => ([], [])
def lawBody : List Stmt := bodyOf (lastOf PySem.Challenge.pw_pb0153_01.main.body)
def lawScope : Scope := { kind := .function, names := (scopeOf (lastOf PySem.Challenge.pw_pb0153_01.main.body)).1, isGenerator := false, isCoroutine := false, more := (scopeOf (lastOf PySem.Challenge.pw_pb0153_01.main.body)).2 }
/-- the law's statements from the k-th on, run from the state `s` with heap `h` -/
def Runs (k : Nat) (w : World) (L fa : Addr) (cd : Value) (Q : Flow → Shared → Prop) (E : Value → Shared → Prop) (s : Shared) (h : Heap) (tk : Nat) : Prop :=
  wpAny (model PySem.Challenge.rw_pb0153_01.row.toRowW.prog w) (callerA.deeper (envOfC (Str.ofString "law") lawScope L fa cd)) (execs (lawBody.drop k) (envOfC (Str.ofString "law") lawScope L fa cd)) Q E { s with heap := h, toks := tk }
/-- what stands behind the law's fourth statement: codes, types and forms -/
structure Stand (w : World) (mean : ExcName → Option Value) (mg mb : Str → Option Value) (h₀ : Heap) (L : Addr) (cs : List Int) : Prop where
  B : Below callerA h₀ [] h₀
  X : (Mine.hd.heap_39 w.params).In h₀
  T : Top Mine.hd.view_39 (looseW Mine.hd.view_39 []) mean mg mb h₀
  len : cs.length ≤ 14
/-- the ledger behind the fourth statement -/
structure Base (Df Dt Dc L : Addr) (usF usT usC : List Value) (nF nT nC : Nat) (c3 c2 c1 : Obj) (cs : List Int) (base : Led) : Prop where
  eq : base = [(Df, listOf usF.toArray nF), (Dt, listOf usT.toArray nT), (Dc, listOf usC.toArray nC), (L + 1 + 1 + 1, c3), (L + 1 + 1, c2), (L + 1, c1)]
  f : StrsAre usF (formsOf (cs.map tyOf))
  t : StrsAre usT (cs.map tyOf)
  c : IntsAre usC cs
  d3 : c3.data = .cell (some (.ref Df))
  d2 : c2.data = .cell (some (.ref Dt))
end Mine
end
section
open PySem PySem.W PyProof.Rows PySem.Calls PyProof.V
namespace Mine
theorem eqv_strs : ∀ as bs : List Str, PyData.eqvAll (as.map PyData.str) (bs.map PyData.str) = decide (as = bs)
  | [], [] => by simp [PyData.eqvAll]
  | [], _ :: _ => by simp [PyData.eqvAll]
  | _ :: _, [] => by simp [PyData.eqvAll]
  | a :: r, b :: t => by
    simp only [List.map_cons, PyData.eqvAll, PyData.eqv, eqv_strs r t]
    by_cases h : a = b <;> by_cases h' : r = t <;> simp [h, h']
theorem eqv_bools : ∀ as bs : List Bool, PyData.eqvAll (as.map PyData.bool) (bs.map PyData.bool) = decide (as = bs)
  | [], [] => by simp [PyData.eqvAll]
  | [], _ :: _ => by simp [PyData.eqvAll]
  | _ :: _, [] => by simp [PyData.eqvAll]
  | a :: r, b :: t => by
    simp only [List.map_cons, PyData.eqvAll, PyData.eqv, eqv_bools r t]
    by_cases h : a = b <;> by_cases h' : r = t <;> simp [h, h']
def pD (p : Int × Int) : PyData := .tuple [.int p.1, .int p.2]
theorem eqv_pairs : ∀ as bs : List (Int × Int), PyData.eqvAll (as.map pD) (bs.map pD) = decide (as = bs)
  | [], [] => by simp [PyData.eqvAll]
  | [], _ :: _ => by simp [PyData.eqvAll]
  | _ :: _, [] => by simp [PyData.eqvAll]
  | a :: r, b :: t => by
    obtain ⟨a1, a2⟩ := a
    obtain ⟨b1, b2⟩ := b
    simp only [List.map_cons, pD, PyData.eqvAll, PyData.eqv, eqv_pairs r t]
    by_cases h1 : a1 = b1 <;> by_cases h2 : a2 = b2 <;> by_cases h' : r = t <;> simp [h1, h2, h']
theorem lay_strs : ∀ as : List Str, (∀ x ∈ as, PyData.strOk x = true) → PyData.canLayAll0 (as.map PyData.str) = true ∧ PyData.depthAll (as.map PyData.str) = 0
  | [], _ => ⟨rfl, rfl⟩
  | a :: r, h => by
    have ih := lay_strs r fun x hx => h x (.tail _ hx)
    simp [PyData.canLayAll0, PyData.canLay0, PyData.depthAll, PyData.depth, ih, h a (.head _)]
theorem lay_bools : ∀ as : List Bool, PyData.canLayAll0 (as.map PyData.bool) = true ∧ PyData.depthAll (as.map PyData.bool) = 0
  | [] => ⟨rfl, rfl⟩
  | a :: r => by
    have ih := lay_bools r
    simp [PyData.canLayAll0, PyData.canLay0, PyData.depthAll, PyData.depth, ih]
theorem lay_pairs : ∀ as : List (Int × Int), PyData.canLayAll0 (as.map pD) = true ∧ PyData.depthAll (as.map pD) ≤ 1
  | [] => ⟨rfl, by simp [PyData.depthAll]⟩
  | a :: r => by
    have ih := lay_pairs r
    simp [PyData.canLayAll0, PyData.canLay0, PyData.depthAll, PyData.depth, pD, ih]
theorem bools_carried : ∀ {vs : List Value} {bs : List Bool}, LSm.BoolsAre vs bs → CarriedAll vs (bs.map PyData.bool)
  | _, _, .nil => .nil
  | _, _, .cons _ r => .cons (.bool _) (bools_carried r)
theorem pairs_reads {h₀ h : Heap} {L : Addr} {N : Led} (hN : News h₀ L h N) : ∀ {vs : List Value} {ps : List (Int × Int)}, Pairs N vs ps → ∃ as, ReadsAll h vs (ps.map pD) as
  | _, _, .nil => ⟨_, ReadsAll.nil⟩
  | _, _, .cons hm r => by
    obtain ⟨bs, q⟩ := pairs_reads hN r
    exact ⟨_, ReadsAll.cons (reads_tuple_at (hN.get hm) rfl rfl (ReadsAll.cons (Reads.int _ _) (ReadsAll.cons (Reads.int _ _) ReadsAll.nil))) q⟩
section
variable {prog : Program} {w : World} {A : Around} {E : Value → Shared → Prop} {s : Shared} {h₀ : Heap} {L a b : Addr} {news : Led} {xs ys : List Value} {as bs : List Str} {na nb : Nat} {Q : Value → Shared → Prop}
theorem eq_strs (N : News h₀ L s.heap news) (ma : (a, listOf xs.toArray na) ∈ news) (mb : (b, listOf ys.toArray nb) ∈ news) (ha : StrsAre xs as) (hb : StrsAre ys bs) (oa : ∀ x ∈ as, PyData.strOk x = true) (ob : ∀ x ∈ bs, PyData.strOk x = true)
    (hu : A.units + 64 < cLine) (h : Q (.bool (decide (as = bs))) s) : wpAny (model prog w) A (compareOp .Eq (.ref a) (.ref b)) Q E s := by
  refine eq_dataH (reads_newData (News.isList N ma) ha.carried) (reads_newData (News.isList N mb) hb.carried) ?_ ?_ hu ?_
  · simp [SeqAt.shaped, PyData.canLay0, PyData.depth, lay_strs as oa]
  · simp [SeqAt.shaped, PyData.canLay0, PyData.depth, lay_strs bs ob]
  · simp only [PyData.eqv, eqv_strs]; exact h
theorem ne_strs (N : News h₀ L s.heap news) (ma : (a, listOf xs.toArray na) ∈ news) (mb : (b, listOf ys.toArray nb) ∈ news) (ha : StrsAre xs as) (hb : StrsAre ys bs) (oa : ∀ x ∈ as, PyData.strOk x = true) (ob : ∀ x ∈ bs, PyData.strOk x = true)
    (hu : A.units + 64 < cLine) (h : Q (.bool (!decide (as = bs))) s) : wpAny (model prog w) A (compareOp .NotEq (.ref a) (.ref b)) Q E s := by
  refine ne_dataH (reads_newData (News.isList N ma) ha.carried) (reads_newData (News.isList N mb) hb.carried) ?_ ?_ hu ?_
  · simp [SeqAt.shaped, PyData.canLay0, PyData.depth, lay_strs as oa]
  · simp [SeqAt.shaped, PyData.canLay0, PyData.depth, lay_strs bs ob]
  · simp only [PyData.eqv, eqv_strs]; exact h
theorem ne_bools {as bs : List Bool} (N : News h₀ L s.heap news) (ma : (a, listOf xs.toArray na) ∈ news) (mb : (b, listOf ys.toArray nb) ∈ news) (ha : LSm.BoolsAre xs as) (hb : LSm.BoolsAre ys bs)
    (hu : A.units + 64 < cLine) (h : Q (.bool (!decide (as = bs))) s) : wpAny (model prog w) A (compareOp .NotEq (.ref a) (.ref b)) Q E s := by
  refine ne_dataH (reads_newData (News.isList N ma) (bools_carried ha)) (reads_newData (News.isList N mb) (bools_carried hb)) ?_ ?_ hu ?_
  · simp [SeqAt.shaped, PyData.canLay0, PyData.depth, lay_bools as]
  · simp [SeqAt.shaped, PyData.canLay0, PyData.depth, lay_bools bs]
  · simp only [PyData.eqv, eqv_bools]; exact h
theorem ne_pairs {as bs : List (Int × Int)} (N : News h₀ L s.heap news) (ma : (a, listOf xs.toArray na) ∈ news) (mb : (b, listOf ys.toArray nb) ∈ news) (ha : Pairs news xs as) (hb : Pairs news ys bs)
    (hu : A.units + 64 < cLine) (h : Q (.bool (!decide (as = bs))) s) : wpAny (model prog w) A (compareOp .NotEq (.ref a) (.ref b)) Q E s := by
  obtain ⟨_, ra⟩ := pairs_reads N ha
  obtain ⟨_, rb⟩ := pairs_reads N hb
  refine ne_dataH (reads_list_at (N.get ma) rfl rfl (by simpa using ra)) (reads_list_at (N.get mb) rfl rfl (by simpa using rb)) ?_ ?_ hu ?_
  · have := lay_pairs as
    simp [SeqAt.shaped, PyData.canLay0, PyData.depth, this]; omega
  · have := lay_pairs bs
    simp [SeqAt.shaped, PyData.canLay0, PyData.depth, this]; omega
  · simp only [PyData.eqv, eqv_pairs]; exact h
end
section
variable {prog : Program} {w : World} {A : Around} {E : Value → Shared → Prop} {s : Shared} {h₀ : Heap} {L a b : Addr} {news : Led} {xs ys : List Value} {as bs : List Str} {na nb : Nat} {Q : Value → Shared → Prop}
theorem ne_strs_f (N : News h₀ L s.heap news) (ma : (a, listOf xs.toArray na) ∈ news) (mb : (b, listOf ys.toArray nb) ∈ news) (ha : StrsAre xs as) (hb : StrsAre ys bs) (oa : ∀ x ∈ as, PyData.strOk x = true) (e : as = bs)
    (hu : A.units + 64 < cLine) (h : Q (.bool false) s) : wpAny (model prog w) A (compareOp .NotEq (.ref a) (.ref b)) Q E s :=
  ne_strs N ma mb ha hb oa (e ▸ oa) hu (by rw [decide_eq_true e]; exact h)
theorem ne_bools_f {as bs : List Bool} (N : News h₀ L s.heap news) (ma : (a, listOf xs.toArray na) ∈ news) (mb : (b, listOf ys.toArray nb) ∈ news) (ha : LSm.BoolsAre xs as) (hb : LSm.BoolsAre ys bs) (e : as = bs)
    (hu : A.units + 64 < cLine) (h : Q (.bool false) s) : wpAny (model prog w) A (compareOp .NotEq (.ref a) (.ref b)) Q E s :=
  ne_bools N ma mb ha hb hu (by rw [decide_eq_true e]; exact h)
theorem ne_pairs_f {as bs : List (Int × Int)} (N : News h₀ L s.heap news) (ma : (a, listOf xs.toArray na) ∈ news) (mb : (b, listOf ys.toArray nb) ∈ news) (ha : Pairs news xs as) (hb : Pairs news ys bs) (e : as = bs)
    (hu : A.units + 64 < cLine) (h : Q (.bool false) s) : wpAny (model prog w) A (compareOp .NotEq (.ref a) (.ref b)) Q E s :=
  ne_pairs N ma mb ha hb hu (by rw [decide_eq_true e]; exact h)
end
theorem ok_nil : PyData.strOk (Str.ofString "") = true := by decide +kernel
theorem ok_init : PyData.strOk (Str.ofString "init") = true := by decide +kernel
theorem ok_medi : PyData.strOk (Str.ofString "medi") = true := by decide +kernel
theorem ok_fina : PyData.strOk (Str.ofString "fina") = true := by decide +kernel
theorem ok_isol : PyData.strOk (Str.ofString "isol") = true := by decide +kernel
theorem form_ok (ts : List Str) (i : Nat) : PyData.strOk (formAt ts i) = true := by
  unfold formAt formOf
  split
  · split
    · split
      · exact ok_medi
      · exact ok_fina
    · split
      · exact ok_init
      · exact ok_isol
  · exact ok_nil
theorem forms_ok (ts : List Str) : ∀ x ∈ formsOf ts, PyData.strOk x = true := by
  intro x hx
  obtain ⟨i, _, rfl⟩ := List.mem_map.mp hx
  exact form_ok ts i
theorem lits_ok : ∀ x ∈ [Str.ofString "init", Str.ofString "", Str.ofString "fina", Str.ofString "isol"], PyData.strOk x = true := by
  intro x hx
  simp only [List.mem_cons, List.not_mem_nil, or_false] at hx
  rcases hx with rfl | rfl | rfl | rfl
  · exact ok_init
  · exact ok_nil
  · exact ok_fina
  · exact ok_isol
end Mine
end
section
open PySem PySem.W PyProof.Rows PySem.Calls PyProof.V
namespace Mine
/-- the places that are seen -/
def seenL (ts : List Str) : List Nat := (List.range ts.length).filter fun i => ts.getD i (Str.ofString "") != Str.ofString "T"
def isTU (x : Str) : Bool := [Str.ofString "T", Str.ofString "U"].any fun y => y == x
def dueOn (fs : List Str) (p : Nat × Nat) : Bool := ([Str.ofString "init", Str.ofString "medi"].any fun y => y == fs.getD p.1 (Str.ofString "")) && ([Str.ofString "medi", Str.ofString "fina"].any fun y => y == fs.getD p.2 (Str.ofString ""))
def dueL (ts fs : List Str) : List (Int × Int) := (((seenL ts).zip (seenL ts).tail).filter (dueOn fs)).map fun p => ((p.1 : Int), (p.2 : Int))
theorem on_back {t : Str} (h : joinsOn t = true) : joinsBack t = true := by
  unfold joinsOn at h; unfold joinsBack; rw [h]; rfl
theorem back_T : joinsBack (Str.ofString "T") = false := by decide +kernel
theorem back_U : joinsBack (Str.ofString "U") = false := by decide +kernel
theorem on_no {t : Str} (h : joinsBack t = false) : joinsOn t = false := by
  cases e : joinsOn t with
  | false => rfl
  | true => rw [on_back e] at h; cases h
/-- the next seen sort joins back -/
def nb : List Str → Bool
  | [] => false
  | t :: r => if t = Str.ofString "T" then nb r else joinsBack t
/-- the form at the head -/
def fm (b : Bool) (t : Str) (r : List Str) : Str := if joinsBack t = true then formOf b (joinsOn t && nb r) else Str.ofString ""
def gF : Bool → List Str → List Str
  | _, [] => []
  | b, t :: r => if t = Str.ofString "T" then Str.ofString "" :: gF b r else fm b t r :: gF (joinsOn t) r
def qP : Nat → Int → Bool → List Str → List (Int × Int)
  | _, _, _, [] => []
  | k, l, b, t :: r => if t = Str.ofString "T" then qP (k + 1) l b r else (if (b && joinsBack t) = true then [(l, (k : Int))] else []) ++ qP (k + 1) (k : Int) (joinsOn t) r
theorem getD_mid {α : Type} (pre : List α) (t : α) (r : List α) (d : α) : (pre ++ t :: r).getD pre.length d = t := by
  simp [List.getD]
theorem jps_q : ∀ (r pre : List Str) (ts : List Str), ts = pre ++ r → (jps ts ts.length).2 = (jps ts pre.length).2 ++ qP pre.length (jps ts pre.length).1 (decide (0 ≤ (jps ts pre.length).1) && joinsOn (ts.getD (jps ts pre.length).1.toNat (Str.ofString ""))) r := by
  intro r
  induction r with
  | nil => intro pre ts e; subst e; simp [qP]
  | cons t r ih =>
    intro pre ts e
    have ht : ts.getD pre.length (Str.ofString "") = t := by rw [e]; exact getD_mid _ _ _ _
    rw [ih (pre ++ [t]) ts (by rw [e]; simp)]
    rw [List.length_append, List.length_singleton]
    by_cases hT : t = Str.ofString "T"
    · have : jps ts (pre.length + 1) = jps ts pre.length := by
        show jstep ts (jps ts pre.length) pre.length = _
        unfold jstep; rw [if_pos (by rw [ht]; exact hT)]
      rw [this, qP, if_pos hT]
    · have hs : jps ts (pre.length + 1) = ((pre.length : Int), if (decide (0 ≤ (jps ts pre.length).1) && joinsOn (ts.getD (jps ts pre.length).1.toNat (Str.ofString "")) && joinsBack t) = true then (jps ts pre.length).2 ++ [((jps ts pre.length).1, (pre.length : Int))] else (jps ts pre.length).2) := by
        show jstep ts (jps ts pre.length) pre.length = _
        unfold jstep; rw [if_neg (by rw [ht]; exact hT), ht]
      rw [hs, qP, if_neg hT]
      dsimp only
      rw [show ((pre.length : Int)).toNat = pre.length from Int.toNat_natCast _, ht, show decide (0 ≤ (pre.length : Int)) = true by simp, Bool.true_and]
      split
      · rw [List.append_assoc]
      · rw [List.nil_append]
theorem jp_q (ts : List Str) : jp ts = qP 0 (-1) false ts := by
  have := jps_q ts [] ts rfl
  unfold jp
  rw [this]
  simp [jps]
theorem mk_get (f : Int × Int → Int) (n : Nat) (ps : List (Int × Int)) (hp : ∀ p ∈ ps, 0 ≤ f p) (i : Nat) (hi : i < n) : (mk f n ps).getD i false = ps.any fun p => f p == (i : Int) := by
  have key : ∀ (ps : List (Int × Int)) (b : List Bool), (∀ p ∈ ps, 0 ≤ f p) → i < b.length → (ps.foldl (fun b p => b.set (f p).toNat true) b).getD i false = (b.getD i false || ps.any fun p => f p == (i : Int)) := by
    intro ps
    induction ps with
    | nil => intro b _ _; simp
    | cons p ps ih =>
      intro b hp hb
      rw [List.foldl_cons, ih _ (fun q hq => hp q (.tail _ hq)) (by rw [List.length_set]; exact hb), List.any_cons, ← Bool.or_assoc]
      congr 1
      have h0 := hp p (.head _)
      by_cases e : (f p).toNat = i
      · have e2 : f p = (i : Int) := by omega
        have e3 : (f p == (i : Int)) = true := by rw [e2]; simp
        rw [e3, Bool.or_true, e]
        simp [List.getD, List.getElem?_set, hb]
      · have e3 : (f p == (i : Int)) = false := by
          rw [beq_eq_false_iff_ne]; omega
        rw [e3, Bool.or_false]
        simp [List.getD, List.getElem?_set, e]
  rw [mk, key ps _ hp (by rw [List.length_replicate]; exact hi)]
  simp [List.getD, List.getElem?_replicate, hi]
theorem q_ge : ∀ (ts : List Str) (k : Nat) (l : Int) (b : Bool), l < k → ∀ p ∈ qP k l b ts, (p.1 = l ∨ (k : Int) ≤ p.1) ∧ (k : Int) ≤ p.2 := by
  intro ts
  induction ts with
  | nil => intro k l b _ p hp; simp [qP] at hp
  | cons t r ih =>
    intro k l b hl p hp
    rw [qP] at hp
    split at hp
    · have := ih (k + 1) l b (by omega) p hp
      omega
    · rcases List.mem_append.mp hp with h | h
      · split at h
        · rw [List.mem_singleton.mp h]; exact ⟨.inl rfl, by show (k : Int) ≤ (k : Int); omega⟩
        · simp at h
      · have := ih (k + 1) (k : Int) (joinsOn t) (by omega) p h
        omega
theorem q_fst : ∀ (ts : List Str) (k : Nat) (l : Int) (b : Bool), l < k → (qP k l b ts).any (fun p => p.1 == l) = (b && nb ts) := by
  intro ts
  induction ts with
  | nil => intro k l b _; simp [qP, nb]
  | cons t r ih =>
    intro k l b hl
    rw [qP, nb]
    split
    · exact ih (k + 1) l b (by omega)
    · rw [List.any_append]
      have h2 : (qP (k + 1) (k : Int) (joinsOn t) r).any (fun p => p.1 == l) = false := by
        rw [List.any_eq_false]
        intro p hp
        have := q_ge r (k + 1) (k : Int) (joinsOn t) (by omega) p hp
        simp only [beq_iff_eq]; omega
      rw [h2, Bool.or_false]
      split
      · rename_i h; rw [h]; simp
      · rename_i h; rw [Bool.not_eq_true] at h; rw [h]; rfl
theorem any_none {ps : List (Int × Int)} {f : Int × Int → Int} {x : Int} (h : ∀ p ∈ ps, f p ≠ x) : ps.any (fun p => f p == x) = false := by
  rw [List.any_eq_false]
  intro p hp
  simp only [beq_iff_eq]; exact h p hp
def fo (ps : List (Int × Int)) (t : Str) (i : Int) : Str := if joinsBack t = true then formOf (ps.any fun p => p.2 == i) (ps.any fun p => p.1 == i) else Str.ofString ""
theorem q_forms : ∀ (ts : List Str) (k : Nat) (l : Int) (b : Bool), l < k → ((List.range ts.length).map fun (j : Nat) => fo (qP k l b ts) (ts.getD j (Str.ofString "")) ((k : Int) + (j : Int))) = gF b ts := by
  intro ts
  induction ts with
  | nil => intro k l b _; rfl
  | cons t r ih =>
    intro k l b hl
    rw [List.length_cons, List.range_succ_eq_map, List.map_cons, List.map_map, gF]
    by_cases hT : t = Str.ofString "T"
    · rw [if_pos hT]
      congr 1
      · subst hT
        show fo _ (Str.ofString "T") _ = _
        unfold fo; rw [back_T]; rfl
      · rw [← ih (k + 1) l b (by omega)]
        refine List.map_congr_left fun j _ => ?_
        show fo (qP k l b (t :: r)) (r.getD j _) ((k : Int) + ((j + 1 : Nat) : Int)) = _
        rw [qP, if_pos hT, show (k : Int) + ((j + 1 : Nat) : Int) = ((k + 1 : Nat) : Int) + (j : Int) by omega]
    · rw [if_neg hT]
      have hg := q_ge r (k + 1) (k : Int) (joinsOn t) (by omega)
      congr 1
      · show fo (qP k l b (t :: r)) t ((k : Int) + ((0 : Nat) : Int)) = _
        rw [show (k : Int) + ((0 : Nat) : Int) = (k : Int) by omega, qP, if_neg hT]
        unfold fo fm
        by_cases hB : joinsBack t = true
        · rw [if_pos hB, if_pos hB]
          congr 1
          · rw [List.any_append, any_none (ps := qP (k + 1) (k : Int) (joinsOn t) r) (f := (·.2)) (fun p hp => by have := hg p hp; omega), Bool.or_false, hB, Bool.and_true]
            cases b <;> simp
          · rw [List.any_append, q_fst r (k + 1) (k : Int) (joinsOn t) (by omega)]
            have : (if (b && joinsBack t) = true then [(l, (k : Int))] else []).any (fun p => p.1 == (k : Int)) = false := by
              refine any_none (f := (·.1)) fun p hp => ?_
              split at hp
              · rw [List.mem_singleton.mp hp]; show l ≠ (k : Int); omega
              · simp at hp
            rw [this, Bool.false_or]
        · rw [if_neg hB, if_neg hB]
      · rw [← ih (k + 1) (k : Int) (joinsOn t) (by omega)]
        refine List.map_congr_left fun j _ => ?_
        show fo (qP k l b (t :: r)) (r.getD j _) ((k : Int) + ((j + 1 : Nat) : Int)) = _
        rw [qP, if_neg hT, show (k : Int) + ((j + 1 : Nat) : Int) = ((k + 1 : Nat) : Int) + (j : Int) by omega]
        have hh : ∀ p ∈ (if (b && joinsBack t) = true then [(l, (k : Int))] else []), p.1 < ((k + 1 : Nat) : Int) + (j : Int) ∧ p.2 < ((k + 1 : Nat) : Int) + (j : Int) := by
          intro p hp
          split at hp
          · rw [List.mem_singleton.mp hp]; exact ⟨by show l < _; omega, by show (k : Int) < _; omega⟩
          · simp at hp
        unfold fo
        rw [List.any_append, List.any_append, any_none (f := (·.1)) (fun p hp => by have := hh p hp; omega), any_none (f := (·.2)) (fun p hp => by have := hh p hp; omega), Bool.false_or, Bool.false_or]
theorem formsOf_g (ts : List Str) : formsOf ts = gF false ts := by
  rw [← q_forms ts 0 (-1) false (by decide)]
  unfold formsOf
  refine List.map_congr_left fun j hj => ?_
  have hj' := List.mem_range.mp hj
  unfold formAt fo
  have hb := jp_bound ts
  rw [mk_get (·.2) ts.length (jp ts) (fun p hp => (hb p hp).2.2.1) j hj', mk_get (·.1) ts.length (jp ts) (fun p hp => (hb p hp).1) j hj', jp_q, show ((0 : Nat) : Int) + (j : Int) = (j : Int) by omega]
end Mine
end
section
open PySem PySem.W PyProof.Rows PySem.Calls PyProof.V
namespace Mine
theorem formOf_cases (a b : Bool) : formOf a b = (match a, b with | true, true => Str.ofString "medi" | true, false => Str.ofString "fina" | false, true => Str.ofString "init" | false, false => Str.ofString "isol") := by
  cases a <;> cases b <;> rfl
theorem fm_no {b : Bool} {t : Str} {r : List Str} (h : joinsBack t = false) : fm b t r = Str.ofString "" := by
  unfold fm; rw [if_neg (by rw [h]; decide)]
theorem fm_yes {b : Bool} {t : Str} {r : List Str} (h : joinsBack t = true) : fm b t r = formOf b (joinsOn t && nb r) := by
  unfold fm; rw [if_pos h]
-- counts
def cnt (x : Str) (l : List Str) : Int := PySem.Spec.countIn (PyData.str x) (l.map PyData.str)
theorem cnt_cons (x y : Str) (l : List Str) : cnt x (y :: l) = (if y = x then 1 else 0) + cnt x l := by
  unfold cnt
  rw [List.map_cons, PySem.Spec.countIn, PySem.Spec.same]
  by_cases h : y = x
  · subst h; simp
  · rw [if_neg h, if_neg (by simpa using h)]
theorem t0i : (if Str.ofString "" = Str.ofString "init" then (1 : Int) else 0) = 0 := by decide +kernel
theorem t0f : (if Str.ofString "" = Str.ofString "fina" then (1 : Int) else 0) = 0 := by decide +kernel
theorem tsi : (if Str.ofString "isol" = Str.ofString "init" then (1 : Int) else 0) = 0 := by decide +kernel
theorem tsf : (if Str.ofString "isol" = Str.ofString "fina" then (1 : Int) else 0) = 0 := by decide +kernel
theorem tmi : (if Str.ofString "medi" = Str.ofString "init" then (1 : Int) else 0) = 0 := by decide +kernel
theorem tmf : (if Str.ofString "medi" = Str.ofString "fina" then (1 : Int) else 0) = 0 := by decide +kernel
theorem tii : (if Str.ofString "init" = Str.ofString "init" then (1 : Int) else 0) = 1 := by decide +kernel
theorem tif : (if Str.ofString "init" = Str.ofString "fina" then (1 : Int) else 0) = 0 := by decide +kernel
theorem tfi : (if Str.ofString "fina" = Str.ofString "init" then (1 : Int) else 0) = 0 := by decide +kernel
theorem tff : (if Str.ofString "fina" = Str.ofString "fina" then (1 : Int) else 0) = 1 := by decide +kernel
def b2i (b : Bool) : Int := if b = true then 1 else 0
theorem g_count : ∀ (ts : List Str) (b : Bool), cnt (Str.ofString "init") (gF b ts) + b2i (b && nb ts) = cnt (Str.ofString "fina") (gF b ts) := by
  intro ts
  induction ts with
  | nil => intro b; simp [gF, nb, cnt, PySem.Spec.countIn, b2i]
  | cons t r ih =>
    intro b
    rw [gF, nb]
    split
    · rw [cnt_cons, cnt_cons, t0i, t0f, Int.zero_add, Int.zero_add]
      exact ih b
    · rw [cnt_cons, cnt_cons]
      have := ih (joinsOn t)
      generalize cnt (Str.ofString "init") (gF (joinsOn t) r) = ci at this ⊢
      generalize cnt (Str.ofString "fina") (gF (joinsOn t) r) = cf at this ⊢
      cases hB : joinsBack t with
      | false =>
        rw [fm_no hB, t0i, t0f, Bool.and_false]
        rw [on_no hB, Bool.false_and] at this
        rw [Int.zero_add, Int.zero_add]; exact this
      | true =>
        rw [fm_yes hB, Bool.and_true]
        have h0 : b2i false = 0 := rfl
        have h1 : b2i true = 1 := rfl
        cases b <;> cases hx : (joinsOn t && nb r) <;> rw [hx] at this
        · rw [show formOf false false = Str.ofString "isol" from rfl, tsi, tsf, h0]; rw [h0] at this; omega
        · rw [show formOf false true = Str.ofString "init" from rfl, tii, tif, h0]; rw [h1] at this; omega
        · rw [show formOf true false = Str.ofString "fina" from rfl, tfi, tff, h1]; rw [h0] at this; omega
        · rw [show formOf true true = Str.ofString "medi" from rfl, tmi, tmf, h1]; rw [h1] at this; omega
-- blanks
theorem g_blank : ∀ (ts : List Str) (b : Bool), (∀ t ∈ ts, joinsBack t = !isTU t) → (gF b ts).map (fun x => x == Str.ofString "") = ts.map isTU := by
  intro ts
  induction ts with
  | nil => intro b _; rfl
  | cons t r ih =>
    intro b h
    have ht := h t (.head _)
    have hr := fun q hq => h q (.tail _ hq)
    rw [gF]
    split
    · rename_i hT
      rw [List.map_cons, List.map_cons, ih b hr, hT]
      congr 1
    · rw [List.map_cons, List.map_cons, ih _ hr]
      congr 1
      cases hB : joinsBack t with
      | false =>
        rw [fm_no hB]
        rw [hB] at ht
        have : isTU t = true := by cases e : isTU t with
          | true => rfl
          | false => rw [e] at ht; cases ht
        rw [this]; decide +kernel
      | true =>
        rw [fm_yes hB]
        rw [hB] at ht
        have : isTU t = false := by cases e : isTU t with
          | false => rfl
          | true => rw [e] at ht; cases ht
        rw [this]
        cases b <;> cases (joinsOn t && nb r) <;> decide +kernel
theorem ty_blank (c : Int) : joinsBack (tyOf c) = !isTU (tyOf c) := by
  have h1 : joinsBack (Str.ofString "C") = !isTU (Str.ofString "C") := by decide +kernel
  have h2 : joinsBack (Str.ofString "T") = !isTU (Str.ofString "T") := by decide +kernel
  have h3 : joinsBack (Str.ofString "D") = !isTU (Str.ofString "D") := by decide +kernel
  have h4 : joinsBack (Str.ofString "R") = !isTU (Str.ofString "R") := by decide +kernel
  have h5 : joinsBack (Str.ofString "U") = !isTU (Str.ofString "U") := by decide +kernel
  unfold tyOf
  split
  · exact h1
  · split
    · exact h2
    · split
      · exact h3
      · split
        · exact h4
        · exact h5
-- cutting at U
theorem nb_cut (r ys : List Str) : nb (r ++ Str.ofString "U" :: ys) = nb r := by
  induction r with
  | nil =>
    show nb (Str.ofString "U" :: ys) = nb []
    rw [nb, nb, if_neg (by decide +kernel)]; exact back_U
  | cons t r ih => rw [List.cons_append, nb, nb, ih]
theorem fm_cut (b : Bool) (t : Str) (r ys : List Str) : fm b t (r ++ Str.ofString "U" :: ys) = fm b t r := by
  unfold fm; rw [nb_cut]
theorem g_cut : ∀ (xs : List Str) (b : Bool) (ys : List Str), gF b (xs ++ Str.ofString "U" :: ys) = gF b xs ++ Str.ofString "" :: gF false ys := by
  intro xs
  induction xs with
  | nil =>
    intro b ys
    show gF b (Str.ofString "U" :: ys) = [] ++ _
    rw [gF, if_neg (by decide +kernel), fm_no back_U, on_no back_U, List.nil_append]
  | cons t r ih =>
    intro b ys
    rw [List.cons_append, gF, gF]
    split
    · rw [ih]; rfl
    · rw [ih, fm_cut]; rfl
-- what is seen
def pk {α : Type} (φ : Nat → Str → Str → α) : Nat → Bool → List Str → List α
  | _, _, [] => []
  | k, b, t :: r => if t = Str.ofString "T" then pk φ (k + 1) b r else φ k t (fm b t r) :: pk φ (k + 1) (joinsOn t) r
theorem seenL_cons (t : Str) (r : List Str) : seenL (t :: r) = (if t = Str.ofString "T" then [] else [0]) ++ (seenL r).map (· + 1) := by
  unfold seenL
  rw [List.length_cons, List.range_succ_eq_map, List.filter_cons, List.filter_map]
  have e : ((fun i => (t :: r).getD i (Str.ofString "") != Str.ofString "T") ∘ Nat.succ) = fun i => r.getD i (Str.ofString "") != Str.ofString "T" := by
    funext i; rfl
  rw [e]
  have e2 : (t :: r).getD 0 (Str.ofString "") = t := rfl
  rw [e2]
  by_cases h : t = Str.ofString "T"
  · rw [if_pos h, if_neg (by simp [h]), List.nil_append]
  · rw [if_neg h, if_pos (by simpa using h)]; rfl
theorem seen_pk {α : Type} (φ : Nat → Str → Str → α) : ∀ (ts : List Str) (k : Nat) (b : Bool), (seenL ts).map (fun a => φ (k + a) (ts.getD a (Str.ofString "")) ((gF b ts).getD a (Str.ofString ""))) = pk φ k b ts := by
  intro ts
  induction ts with
  | nil => intro k b; rfl
  | cons t r ih =>
    intro k b
    rw [seenL_cons, List.map_append, List.map_map, pk, gF]
    by_cases h : t = Str.ofString "T"
    · rw [if_pos h, if_pos h, if_pos h, ← ih (k + 1) b, List.map_nil, List.nil_append]
      refine List.map_congr_left fun a _ => ?_
      show φ (k + (a + 1)) (r.getD a _) ((gF b r).getD a _) = _
      rw [show k + (a + 1) = k + 1 + a by omega]
    · rw [if_neg h, if_neg h, if_neg h, ← ih (k + 1) (joinsOn t), List.map_cons, List.map_nil, List.singleton_append]
      congr 1
      refine List.map_congr_left fun a _ => ?_
      show φ (k + (a + 1)) (r.getD a _) ((gF (joinsOn t) r).getD a _) = _
      rw [show k + (a + 1) = k + 1 + a by omega]
-- the runs
def ru (_ : Nat) (t f : Str) : Str := if (t != Str.ofString "U") = true then f else Str.ofString "none"
theorem g_runs : ∀ (ts : List Str) (k : Nat) (b : Bool), (pk ru k b ts).foldl (fun st f => st.bind (rrStep · f)) (some (b && nb ts)) = some false := by
  intro ts
  induction ts with
  | nil => intro k b; simp [pk, nb]
  | cons t r ih =>
    intro k b
    rw [pk, nb]
    split
    · exact ih (k + 1) b
    · rw [List.foldl_cons]
      have key : (some (b && joinsBack t)).bind (rrStep · (ru k t (fm b t r))) = some (joinsOn t && nb r) := by
        show rrStep (b && joinsBack t) (ru k t (fm b t r)) = _
        cases hB : joinsBack t with
        | false =>
          rw [on_no hB, fm_no hB, Bool.and_false, Bool.false_and]
          unfold ru
          split <;> decide +kernel
        | true =>
          have hu : (t != Str.ofString "U") = true := by
            rw [bne_iff_ne]; intro e; rw [e, back_U] at hB; cases hB
          unfold ru
          rw [if_pos hu, fm_yes hB, Bool.and_true]
          cases b <;> cases (joinsOn t && nb r) <;> decide +kernel
      rw [key]
      exact ih (k + 1) (joinsOn t)
-- bare
theorem nb_pk (ts : List Str) : ∀ (k : Nat) (b : Bool), nb (pk (fun _ t _ => t) k b ts) = nb ts := by
  induction ts with
  | nil => intro k b; rfl
  | cons t r ih =>
    intro k b
    rw [pk, nb]
    split
    · exact ih (k + 1) b
    · rename_i h; rw [nb, if_neg h]
theorem g_bare : ∀ (ts : List Str) (k k' : Nat) (b b' : Bool), gF b (pk (fun _ t _ => t) k b' ts) = pk (fun _ _ f => f) k' b ts := by
  intro ts
  induction ts with
  | nil => intro k k' b b'; rfl
  | cons t r ih =>
    intro k k' b b'
    rw [pk, pk]
    split
    · exact ih _ _ _ _
    · rename_i h
      rw [gF, if_neg h, ih _ (k' + 1)]
      unfold fm; rw [nb_pk]
-- the pairs due
def beh (f : Str) : Bool := [Str.ofString "init", Str.ofString "medi"].any fun y => y == f
def bef (f : Str) : Bool := [Str.ofString "medi", Str.ofString "fina"].any fun y => y == f
def adj (l : List (Nat × Str)) : List (Int × Int) := ((l.zip l.tail).filter fun p => beh p.1.2 && bef p.2.2).map fun p => ((p.1.1 : Int), (p.2.1 : Int))
theorem adj_two (x y : Nat × Str) (l : List (Nat × Str)) : adj (x :: y :: l) = (if (beh x.2 && bef y.2) = true then [((x.1 : Int), (y.1 : Int))] else []) ++ adj (y :: l) := by
  unfold adj
  rw [List.tail_cons, List.zip_cons_cons, List.filter_cons, List.tail_cons]
  split <;> simp
theorem beh_fm (b : Bool) (t : Str) (r : List Str) : beh (fm b t r) = (joinsOn t && nb r) := by
  cases hB : joinsBack t with
  | false => rw [fm_no hB, on_no hB, Bool.false_and]; decide +kernel
  | true => rw [fm_yes hB]; cases b <;> cases (joinsOn t && nb r) <;> decide +kernel
theorem bef_fm (b : Bool) (t : Str) (r : List Str) : bef (fm b t r) = (b && joinsBack t) := by
  cases hB : joinsBack t with
  | false => rw [fm_no hB, Bool.and_false]; decide +kernel
  | true => rw [fm_yes hB]; cases b <;> cases (joinsOn t && nb r) <;> decide +kernel
theorem adj_q : ∀ (ts : List Str) (k l : Nat) (b : Bool) (f : Str), beh f = (b && nb ts) → adj ((l, f) :: pk (fun k _ f => (k, f)) k b ts) = qP k (l : Int) b ts := by
  intro ts
  induction ts with
  | nil => intro k l b f _; rfl
  | cons t r ih =>
    intro k l b f hf
    rw [nb] at hf
    rw [pk, qP]
    split
    · rename_i h; rw [if_pos h] at hf; exact ih (k + 1) l b f hf
    · rename_i h
      rw [if_neg h] at hf
      rw [adj_two, ih (k + 1) k (joinsOn t) _ (beh_fm b t r)]
      dsimp only
      rw [hf, bef_fm]
      cases b <;> cases joinsBack t <;> rfl
theorem adj_q0 : ∀ (ts : List Str) (k : Nat) (l : Int), adj (pk (fun k _ f => (k, f)) k false ts) = qP k l false ts := by
  intro ts
  induction ts with
  | nil => intro k l; rfl
  | cons t r ih =>
    intro k l
    rw [pk, qP]
    split
    · exact ih (k + 1) l
    · rw [adj_q r (k + 1) k (joinsOn t) _ (beh_fm false t r)]
      rfl
theorem dueL_adj (ts : List Str) : dueL ts (formsOf ts) = adj ((seenL ts).map fun a => (a, (formsOf ts).getD a (Str.ofString ""))) := by
  unfold dueL adj
  rw [← List.map_tail, List.zip_map, List.filter_map, List.map_map]
  rfl
end Mine
end
section
open PySem PySem.W PyProof.Rows PySem.Calls PyProof.V
namespace Mine
theorem p_last : formsOf [Str.ofString "D", Str.ofString "T", Str.ofString "R", Str.ofString "D"] = [Str.ofString "init", Str.ofString "", Str.ofString "fina", Str.ofString "isol"] := by decide +kernel
theorem p_count (ts : List Str) : PySem.Spec.countIn (PyData.str (Str.ofString "init")) ((formsOf ts).map PyData.str) = PySem.Spec.countIn (PyData.str (Str.ofString "fina")) ((formsOf ts).map PyData.str) := by
  have h := g_count ts false
  rw [Bool.false_and, show b2i false = 0 from rfl, Int.add_zero, ← formsOf_g] at h
  exact h
theorem p_blank (cs : List Int) : (formsOf (cs.map tyOf)).map (fun x => x == Str.ofString "") = (cs.map tyOf).map isTU := by
  rw [formsOf_g]
  refine g_blank _ _ fun t ht => ?_
  obtain ⟨c, _, rfl⟩ := List.mem_map.mp ht
  exact ty_blank c
theorem p_runs (ts : List Str) : rr ((seenL ts).map fun a => if (ts.getD a (Str.ofString "") != Str.ofString "U") = true then (formsOf ts).getD a (Str.ofString "") else Str.ofString "none") = some false := by
  rw [formsOf_g]
  have h := seen_pk ru ts 0 false
  unfold ru at h
  rw [h]
  exact g_runs ts 0 false
theorem p_bare (ts : List Str) : formsOf ((seenL ts).map fun a => ts.getD a (Str.ofString "")) = (seenL ts).map fun a => (formsOf ts).getD a (Str.ofString "") := by
  rw [formsOf_g, formsOf_g, seen_pk (fun _ t _ => t) ts 0 false, seen_pk (fun _ _ f => f) ts 0 false]
  exact g_bare ts 0 0 false false
theorem p_due (ts : List Str) : jp ts = dueL ts (formsOf ts) := by
  rw [jp_q, dueL_adj, formsOf_g]
  have h := seen_pk (fun k _ f => (k, f)) ts 0 false
  simp only [Nat.zero_add] at h
  rw [h]
  exact (adj_q0 ts 0 (-1)).symm
theorem p_cut (ts : List Str) (a : Nat) (ha : a < ts.length) (hU : ts.getD a (Str.ofString "") = Str.ofString "U") : formsOf (ts.take a) ++ [Str.ofString ""] ++ formsOf (ts.drop (a + 1)) = formsOf ts := by
  have e : ts = ts.take a ++ Str.ofString "U" :: ts.drop (a + 1) := by
    have h1 : ts[a] = Str.ofString "U" := by simpa [List.getD, ha] using hU
    rw [← h1, List.getElem_cons_drop, List.take_append_drop]
  conv => rhs; rw [e]
  rw [formsOf_g, formsOf_g, formsOf_g, g_cut, List.append_assoc]
  rfl
theorem formsOf_length (ts : List Str) : (formsOf ts).length = ts.length := by rw [formsOf, List.length_map, List.length_range]
theorem seen_lt {ts : List Str} {a : Nat} (h : a ∈ seenL ts) : a < ts.length := List.mem_range.mp (List.mem_filter.mp h).1
theorem seenL_len (ts : List Str) : (seenL ts).length ≤ ts.length := by
  have := List.length_filter_le (fun i => ts.getD i (Str.ofString "") != Str.ofString "T") (List.range ts.length)
  rwa [List.length_range] at this
end Mine
end
section
theorem Mine.offS0 : True := by
  w_top off
  trivial
local macro_rules | `(tactic| walk_at "pad") => `(tactic| skip)
local macro_rules | `(tactic| walk_at "pad") => `(tactic| skip)
local macro_rules | `(tactic| walk_at "pad") => `(tactic| skip)
local macro_rules | `(tactic| walk_at "pad") => `(tactic| skip)
local macro_rules | `(tactic| walk_at "pad") => `(tactic| skip)
local macro_rules | `(tactic| walk_at "pad") => `(tactic| skip)
local macro_rules | `(tactic| walk_at "pad") => `(tactic| skip)
local macro_rules | `(tactic| walk_at "pad") => `(tactic| skip)
local macro_rules | `(tactic| walk_at "pad") => `(tactic| skip)
local macro_rules | `(tactic| walk_at "pad") => `(tactic| skip)
local macro_rules | `(tactic| walk_at "pad") => `(tactic| skip)
local macro_rules | `(tactic| walk_at "pad") => `(tactic| skip)
local macro_rules | `(tactic| walk_at "pad") => `(tactic| skip)
local macro_rules | `(tactic| walk_at "pad") => `(tactic| skip)
local macro_rules | `(tactic| walk_at "pad") => `(tactic| skip)
local macro_rules | `(tactic| walk_at "pad") => `(tactic| skip)
local macro_rules | `(tactic| walk_at "pad") => `(tactic| skip)
local macro_rules | `(tactic| walk_at "pad") => `(tactic| skip)
local macro_rules | `(tactic| walk_at "pad") => `(tactic| skip)
local macro_rules | `(tactic| walk_at "pad") => `(tactic| skip)
local macro_rules | `(tactic| walk_at "pad") => `(tactic| skip)
local macro_rules | `(tactic| walk_at "pad") => `(tactic| skip)
local macro_rules | `(tactic| walk_at "pad") => `(tactic| skip)
local macro_rules | `(tactic| walk_at "pad") => `(tactic| skip)
local macro_rules | `(tactic| walk_at "pad") => `(tactic| skip)
local macro_rules | `(tactic| walk_at "pad") => `(tactic| skip)
local macro_rules | `(tactic| walk_at "pad") => `(tactic| skip)
local macro_rules | `(tactic| walk_at "pad") => `(tactic| skip)
local macro_rules | `(tactic| walk_at "pad") => `(tactic| skip)
local macro_rules | `(tactic| walk_at "pad") => `(tactic| skip)
local macro_rules | `(tactic| walk_at "pad") => `(tactic| skip)
local macro_rules | `(tactic| walk_at "pad") => `(tactic| skip)
local macro_rules | `(tactic| walk_at "pad") => `(tactic| skip)
local macro_rules | `(tactic| walk_at "pad") => `(tactic| skip)
local macro_rules | `(tactic| walk_at "pad") => `(tactic| skip)
local macro_rules | `(tactic| walk_at "pad") => `(tactic| skip)
local macro_rules | `(tactic| walk_at "pad") => `(tactic| skip)
local macro_rules | `(tactic| walk_at "pad") => `(tactic| skip)
local macro_rules | `(tactic| walk_at "pad") => `(tactic| skip)
local macro_rules | `(tactic| walk_at "pad") => `(tactic| skip)
open PySem PySem.W PyProof.Rows PyProof.V
namespace Mine
theorem fr_pull {h₀ h : Heap} {L : Addr} {m : Str → Option Value} {x : Str} {v : Value} (F : Fr h₀ L h m) (e : m x = some v) : Fr h₀ L h (fun y => if y = x then some v else m y) := by
  have q : (fun y => if y = x then some v else m y) = m := by
    funext y
    by_cases h1 : y = x
    · subst h1; rw [if_pos rfl, e]
    · rw [if_neg h1]
  rw [q]; exact F
theorem stand_end {h₀ h : Heap} {L Df Dt Dc : Addr} {usF usT usC : List Value} {nF nT nC : Nat} {c3 c2 c1 : Obj} {cs : List Int} {p q : Addr × Obj} (N : News h₀ L h ((Df, listOf usF.toArray nF) :: (Dt, listOf usT.toArray nT) :: (Dc, listOf usC.toArray nC) :: p :: q :: (L + 1 + 1 + 1, c3) :: (L + 1 + 1, c2) :: (L + 1, c1) :: []))
    (hF : StrsAre usF (formsOf (cs.map tyOf))) (hT : StrsAre usT (cs.map tyOf)) (hC : IntsAre usC cs) (d3 : c3.data = .cell (some (.ref Df))) (d2 : c2.data = .cell (some (.ref Dt))) :
    ∃ base, Base Df Dt Dc L usF usT usC nF nT nC c3 c2 c1 cs base ∧ News h₀ L h base :=
  ⟨_, ⟨rfl, hF, hT, hC, d3, d2⟩, cb_drop N (by
    intro r hr
    simp only [List.mem_cons, List.not_mem_nil, or_false] at hr ⊢
    rcases hr with h | h | h | h | h | h <;> simp [h])⟩
theorem mem_two {α : Type} {x y : α} {A t : List α} : ∀ p ∈ x :: y :: (A ++ t), p ∈ A ++ (x :: y :: t) := by
  intro p hp
  simp only [List.mem_cons, List.mem_append] at hp ⊢
  rcases hp with h | h | h | h <;> simp [h]
section
local macro_rules | `(tactic| walk_at "stop") => `(tactic| first
  | (with_reducible show wpAny _ _ (exec (Stmt.For _ _ _ _ _) _) _ _ _)
  | (with_reducible show wpAny _ _ (pyIter _) _ _ _)
  | (with_reducible show wpAny _ _ (compareOp _ (Value.ref _) (Value.ref _)) _ _ _)
  | (with_reducible show LCg.CompSrc _ _ _ _ _ _ _ _ _ _ _ _ _ _)
  | (with_reducible show LCt.CompSrcT _ _ _ _ _ _ _ _ _ _ _ _ _ _ _)
  | (with_reducible show wpAny _ _ (eval (Expr.ListComp _ _ _ _) _) _ _ _)
  | (with_reducible show wpAny _ _ (exec (Stmt.Assign _ (Expr.ListComp _ _ _ _) _) _) _ _ _))
local macro_rules | `(tactic| walk_at "go1") => `(tactic| (first | (k_unfold; (try dsimp only)) | ((fail_if_success walk_at "stop"); first | (k_end; wrow_close) | walk1 | (dsimp only; walk1) | (leave1; walk_say "STEP leave1"; try dsimp only) | fail "no step")))
local macro_rules | `(tactic| walk_at "go") => `(tactic| repeat' (first | (k_unfold; (try dsimp only)) | ((fail_if_success walk_at "stop"); first | (k_end; wrow_close) | walk1 | (dsimp only; walk1) | (leave1; walk_say "STEP leave1"; try dsimp only) | fail "no step")))
local macro_rules | `(tactic| walk_at "enterC") => `(tactic| (refine' code_defC ?k1 ?k2 ?k3 ?k4 ?k5 ?kA ?kF ?kK ?k6 ?k7 ?k8 ?k9 ?kB ?kD ?_ ?c2 ?c3 ?c4; (case kA => exact rfl); (case kF => exact rfl); (case kK => assumption); (case k1 => k_asm); (case k2 => k_asm); (case k3 => k_asm); (case k4 => k_asm); (case k5 => k_asm); (case k6 => k_is); (case k7 => k_is); (case k8 => ktr_room); (case k9 => exact BindsTo.of_eq rfl); (case kB => exact rfl); (case kD => decide +kernel); (case c2 => exact rfl); (case c3 => exact rfl); (case c4 => exact rfl); k_whole; intro g' L' h' tk' cells' FG' F' N' Y' B' X' T' l1; (try k_lt l1); k_cells Y'; (try simp only [List.cons_append, List.nil_append] at N'); (try dsimp only); (try k_lift B'); (try k_fold)))
local macro_rules | `(tactic| walk_at "use") => `(tactic| ((case k1 => k_asm); (case k2 => k_asm); (case k3 => k_asm); (case k4 => k_asm); (case k5 => k_asm); (case kK => first | exact rfl | assumption); (case kd => ktr_room); (case ku => ktr_units)))
local macro_rules | `(tactic| walk_at "useB") => `(tactic| (walk_at "use"; intro r9 tl9 h9 tk9 F9 N9 p9; obtain ⟨e9, e8⟩ := p9; subst e9 e8; rw [List.nil_append] at N9; (try dsimp only); (try k_fold)))
local macro_rules | `(tactic| walk_at "useS") => `(tactic| (walk_at "use"; intro r9 tl9 h9 tk9 F9 N9 p9; obtain ⟨⟨t9, e9⟩, e8⟩ := p9; subst e9 e8; rw [List.nil_append] at N9; (try dsimp only); (try k_fold)))
local macro_rules | `(tactic| walk_at "call ref") => `(tactic| (k_here; first
  | (k_dflt (refine' Claim.use (joins_on_c _ _ _ _) ?k1 ?k2 ?k3 ?k4 ?k5 ?kK ?kd ?ku ?_); walk_at "useB")
  | (k_dflt (refine' Claim.use (joins_back_c _ _ _ _) ?k1 ?k2 ?k3 ?k4 ?k5 ?kK ?kd ?ku ?_); walk_at "useB")
  | (k_dflt (refine' Claim.use (form_of_c _ _ _ _) ?k1 ?k2 ?k3 ?k4 ?k5 ?kK ?kd ?ku ?_); walk_at "useS")
  | (k_dflt (refine' Claim.use (joining_type_c _ _ _ _) ?k1 ?k2 ?k3 ?k4 ?k5 ?kK ?kd ?ku ?_); walk_at "useS")))
local macro_rules | `(tactic| walk_at "lt") => `(tactic| first | assumption | exact allLt_of (by assumption) | exact And.right (by assumption) | exact And.right (And.right (by assumption)) | exact And.right (And.right (And.right (by assumption))))
local macro_rules | `(tactic| k_all) => `(tactic| first | assumption | exact off1_ne (by assumption) | exact ne_up0 (by walk_at "lt") | exact ne_up1 (by walk_at "lt") | exact ne_up2 (by walk_at "lt") | exact ne_up3 (by walk_at "lt"))
local macro_rules | `(tactic| k_mem) => `(tactic| first | assumption | exact List.mem_append.mpr (Or.inr (by assumption)) | exact List.mem_append.mpr (Or.inl (by assumption)) | exact List.mem_append.mpr (Or.inr (List.mem_append.mpr (Or.inr (by assumption)))))
local macro_rules | `(tactic| size_fits) => `(tactic| ((simp only [List.size_toArray, List.length_append, List.length_cons, List.length_nil, PySem.sizeLine_eq]); omega))
local macro_rules | `(tactic| walk_at "idx") => `(tactic| first | omega | ((try simp only [Int.zero_add]); omega))
local macro_rules | `(tactic| walk_at "subscriptTail Name Name ref int") => `(tactic| (k_here; (with_reducible show wpAny _ _ (subscriptTail _ _ (Value.ref _) (Value.int _ _)) _ _ _); k_dflt (refine' item_strs ?N ?m ?w ?h0 ?h1 ?hf ?_; (case N => k_asm); (case m => k_mem); (case w => assumption); (case h0 => walk_at "idx"); (case h1 => walk_at "idx"); (case hf => walk_at "idx")); intro t9; (try simp only [Int.toNat_natCast]); (try dsimp only)))
local macro_rules | `(tactic| walk_at "call builtin:len") => `(tactic| (k_here; (with_reducible show wpAny _ _ (call (Value.builtin "len") [Value.ref _]) _ _ _); k_dflt (refine' len_listAny ?N ?m ?c ?f ?_; (case N => k_asm); (case m => k_mem); (case c => first | exact Eq.trans List.size_toArray (PyProof.Rows.StrsAre.length (by assumption)) | exact Eq.trans List.size_toArray (IntsAre.length (by assumption)) | exact Eq.trans List.size_toArray (LSm.BoolsAre.length (by assumption))); (case f => omega)); (try dsimp only)))
local macro_rules | `(tactic| walk_at "setItem ref int") => `(tactic| (k_here; (with_reducible show wpAny _ _ (setItem (Value.ref _) (Value.int _ _) (Value.bool _)) _ _ _); k_dflt (refine' kbo_set ?F ?N ?U ?hb ?h0 ?h1 ?hf ?_; (case F => k_asm); (case N => k_asm); (case U => k_upd); (case hb => assumption); (case h0 => walk_at "idx"); (case h1 => walk_at "idx"); (case hf => walk_at "idx")); intro h' F' N' hb' hl'; (try k_sweep); (try dsimp only)))
local macro_rules | `(tactic| walk_at "subscriptTail Name Name ref int") => `(tactic| (k_here; (with_reducible show wpAny _ _ (subscriptTail _ _ (Value.ref _) (Value.int _ _)) _ _ _); k_dflt (refine' kbo_sub ?N ?m ?w ?h0 ?h1 ?hf ?_; (case N => k_asm); (case m => k_mem); (case w => assumption); (case h0 => walk_at "idx"); (case h1 => walk_at "idx"); (case hf => walk_at "idx")); (try simp only [Int.toNat_natCast]); (try dsimp only)))
local macro_rules | `(tactic| walk_at "strs") => `(tactic| first | assumption | exact StrsAre.cons _ _ (StrsAre.cons _ _ (StrsAre.cons _ _ (StrsAre.cons _ _ StrsAre.nil))))
local macro_rules | `(tactic| walk_at "call ref") => `(tactic| (k_here; k_dflt (refine' Claim.use (forms_of_c _ _ _ _ _ _ ?hl ?hi ?hn) ?k1 ?k2 ?k3 ?k4 ?k5 ?kK ?kd ?ku ?_; walk_at "use"; (case hl => k_mem); (case hi => walk_at "strs"); (case hn => first | decide | walk_at "len")); intro r9 tl9 h9 tk9 F9 N9 p9; obtain ⟨D9, us9, n9, e9, e8, S9, O9⟩ := p9; subst e9 e8; rw [List.singleton_append] at N9; (try dsimp only); (try k_fold)))
local macro_rules | `(tactic| walk_at "len") => `(tactic| first | assumption | omega | ((try simp only [List.length_map, List.length_append, List.length_take, List.length_drop, List.length_cons, List.length_nil, formsOf_length]); omega))
local macro_rules | `(tactic| walk_at "call ref") => `(tactic| (k_here; k_dflt (refine' Claim.use (runs_right_c _ _ _ _ _ _ ?hl ?hi ?hn) ?k1 ?k2 ?k3 ?k4 ?k5 ?kK ?kd ?ku ?_; walk_at "use"; (case hl => k_mem); (case hi => walk_at "strs"); (case hn => walk_at "len")); intro r9 tl9 h9 tk9 F9 N9 p9; obtain ⟨e9, e8⟩ := p9; subst e9 e8; rw [List.nil_append] at N9; (try dsimp only); (try k_fold)))
local macro_rules | `(tactic| walk_at "call builtin:list.count") => `(tactic| (k_here; (with_reducible show wpAny _ _ (call (Value.builtin _) [Value.ref _, Value.str _ _]) _ _ _); k_dflt (refine count_list_strs (by is_list) (by assumption) ?_)))
local macro_rules | `(tactic| walk_at "call builtin:len") => `(tactic| (k_here; (with_reducible show wpAny _ _ (call (Value.builtin "len") [Value.ref _]) _ _ _); k_dflt (refine' len_listAny ?N ?m ?c ?f ?_; (case N => k_asm); (case m => k_mem); (case c => first | exact Eq.trans List.size_toArray (PyProof.Rows.StrsAre.length (by assumption)) | exact Eq.trans List.size_toArray (IntsAre.length (by assumption)) | exact Eq.trans List.size_toArray (LSm.BoolsAre.length (by assumption))); (case f => walk_at "len")); (try dsimp only)))
local macro_rules | `(tactic| walk_at "stop") => `(tactic| (with_reducible show wpAny _ _ (execs (Stmt.If _ _ _ _ :: _) _) _ _ _))
local macro_rules | `(tactic| walk_at "stop") => `(tactic| (with_reducible show wpAny _ _ (call (Value.ref _) [Value.ref _, Value.int _ _]) _ _ _))
local macro_rules | `(tactic| walk_at "call ref") => `(tactic| (k_here; (k_dflt (refine' law_box_c _ _ _ _ _ ?hi ?hn _ _ _ _ _ _ _ _ _ _ _ _ _ _ _ _ _ _ _ _ ?k1 ?hl ?k2 ?k3 ?k4 ?k5 ?kK ?kd ?ku ?_); (case k1 => k_asm); (case k2 => k_asm); (case k3 => k_asm); (case k4 => k_asm); (case k5 => k_asm); (case kK => first | exact rfl | assumption); (case hl => assumption); (case hi => assumption); (case hn => omega); (case kd => ktr_room); (case ku => ktr_units); intro D9 C9 us9 n19 n29 cells9 g9 tg9 st9 ts9 t09 h9 tk9 F9 N9 i9 c9 ne9 o9 o8; simp only [LCg.Off1] at o9 o8; (try dsimp only); (try k_fold))))
local macro_rules | `(tactic| walk_at "call ref") => `(tactic| (k_here; k_dflt (refine' Claim.use (types_of_c _ _ _ _ _ _ ?hl ?hi ?hn) ?k1 ?k2 ?k3 ?k4 ?k5 ?kK ?kd ?ku ?_; walk_at "use"; (case hl => k_mem); (case hi => assumption); (case hn => walk_at "len")); intro r9 tl9 h9 tk9 F9 N9 p9; obtain ⟨D9, us9, n9, e9, e8, S9, O9⟩ := p9; subst e9 e8; rw [List.singleton_append] at N9; simp only [LCg.Off1] at O9; (try dsimp only); (try k_fold)))
local macro_rules | `(tactic| walk_at "call ref") => `(tactic| (k_here; k_dflt (refine' Claim.use (forms_of_c _ _ _ _ _ _ ?hl ?hi ?hn) ?k1 ?k2 ?k3 ?k4 ?k5 ?kK ?kd ?ku ?_; walk_at "use"; (case hl => k_mem); (case hi => assumption); (case hn => walk_at "len")); intro r9 tl9 h9 tk9 F9 N9 p9; obtain ⟨D9, us9, n9, e9, e8, S9, O9⟩ := p9; subst e9 e8; rw [List.singleton_append] at N9; simp only [LCg.Off1] at O9; (try dsimp only); (try k_fold)))
theorem seg0 {w : World} {mean : ExcName → Option Value} {mg mb : Str → Option Value} {h₀ h : Heap} {L fa l : Addr} {cd : Value} {m0 : Str → Option Value} {vs : List Value} {xs : List Int} {c3 c2 c1 : Obj} {v3 v2 v1 : Option Value} {Q : Flow → Shared → Prop} {E : Value → Shared → Prop} {s : Shared} {tk : Nat}
    (B : Below callerA h₀ [] h₀) (X : (Mine.hd.heap_39 w.params).In h₀) (T : Top Mine.hd.view_39 (looseW Mine.hd.view_39 []) mean mg mb h₀)
    (hl : h₀.IsList l vs.toArray) (hi : IntsAre vs xs) (hn : xs.length ≤ 63) (e3 : c3.data = .cell v3) (e2 : c2.data = .cell v2) (e1 : c1.data = .cell v1)
    (F0 : Fr h₀ L h m0) (hm0 : m0 (Str.ofString "script") = some (.ref l)) (N : News h₀ L h [(L + 1 + 1 + 1, c3), (L + 1 + 1, c2), (L + 1, c1)])
    (hnext : ∀ (cs : List Int) Df Dt Dc usF usT usC nF nT nC c3 c2 c1 base (m : Str → Option Value) h' tk', Stand w mean mg mb h₀ L cs → Base Df Dt Dc L usF usT usC nF nT nC c3 c2 c1 cs base → Fr h₀ L h' (fun y => if y = Str.ofString "codes" then some (.ref Dc) else m y) → News h₀ L h' base → Runs 4 w L fa cd Q E s h' tk') : Runs 0 w L fa cd Q E s h tk := by
  have F := fr_pull F0 hm0
  clear F0 hm0
  have X' := X
  revert X
  unfold Runs lawBody lawScope PySem.Challenge.pw_pb0153_01
  unfold Runs lawBody lawScope PySem.Challenge.pw_pb0153_01 at hnext
  dsimp only [lastOf, bodyOf, List.drop, scopeOf] at hnext ⊢
  k_fill
  intro X
  walk_at "go"
  refine LCg.Assign_ListComp_U (F₀ := by k_asm) (by rfl) (by with_unfolding_all rfl) (by with_unfolding_all rfl) (by decide) (by rfl) (by decide) (by rfl) (by rfl) (by rfl) ?_
  walk_at "go"
  (rename Fr _ _ _ _ => F1)
  (rename News _ _ _ _ => N1)
  rename_i P1 C1 us9 n1 n2 cells9 g9 tg9 st9 ts9 t09 h9 tk9 i9 c9 ne9 o9 o8 h8 o1 d1
  k_here
  k_dflt (refine' ClaimM.use (law_draw_c w [(L + 1 + 1 + 1, c3), (L + 1 + 1, c2), (L + 1, o1)] P1 C1 us9 cells9 _ _ 0 15 _ _ _ _ _ _ ne9 (off1_ne (l := [(L + 1 + 1 + 1, c3), (L + 1 + 1, c2), (L + 1, o1)]) o9) i9 (Nat.le_trans c9 (by decide)) (by decide) (by decide) (by decide) (by decide)) ?k1 ?k2 ?k3 ?k4 ?k5 ?kK ?kd ?ku ?_)
  walk_at "use"
  intro r9 nw9 h9 tk9 F9 N9 p9
  obtain ⟨d, td, g', tg', st', ts', tp', rfl, hd0, hd1, rfl⟩ := p9
  obtain ⟨n, rfl⟩ := Int.eq_ofNat_of_zero_le hd0
  clear F1 N1
  (try dsimp only)
  walk_at "go"
  (rename Fr _ _ _ _ => F2)
  (rename News _ _ _ _ => N2)
  (rename IsRange _ _ _ _ _ _ _ _ => R2)
  refine LCg.CompSrc.range (n := n) (by rfl) F2 N2 R2 (small_one (by omega) (by omega) (by omega) (by omega)) (by rw [rangeSize_nat]; simp) (by rw [sizeLine_eq]; omega) (fun g9 => ?_)
  refine crestJ (fun i ys nx => ∃ pl g tg st ts tp, nx = (P1, poolObj C1 g tg st ts pl tp n1) :: (C1, listOf us9.toArray n2) :: [(L + 1 + 1 + 1, c3), (L + 1 + 1, c2), (L + 1, o1)] ∧ pl = (i : Int) + 1 ∧ ∃ cs, IntsAre ys cs ∧ cs.length = i) ?h0 ?turn ?fin
  case h0 => exact ⟨_, _, _, _, _, _, rfl, rfl, [], .nil, rfl⟩
  case turn =>
    rintro i ys nw v I2 oI C oC D2 m2 h2 tk2 E2 hlt ⟨pl, g, tg, st, ts, tp, rfl, hpl, cs, hcs, hcl⟩ ⟨tq, rfl⟩ hC' hm2 F3 N3 off ne
    (try k_unmd); k_fold
    simp only [LCg.Off3] at off
    walk_at "go"
    have N4 : News h₀ L h2 ((P1, poolObj C1 g tg st ts pl tp n1) :: (C1, listOf us9.toArray n2) :: ((I2, oI) :: (C, oC) :: (D2, LCg.lst ys) :: [(L + 1 + 1 + 1, c3), (L + 1 + 1, c2), (L + 1, o1)])) := cb_drop N3 (mem_two (A := [_, _, _]))
    clear N3
    k_here
    k_dflt (refine' ClaimM.use (law_draw_c w ((I2, oI) :: (C, oC) :: (D2, LCg.lst ys) :: [(L + 1 + 1 + 1, c3), (L + 1 + 1, c2), (L + 1, o1)]) P1 C1 us9 cells9 _ _ pl 16 _ _ _ _ _ _ ne9 (off1_ne (l := ((I2, oI) :: (C, oC) :: (D2, LCg.lst ys) :: [(L + 1 + 1 + 1, c3), (L + 1 + 1, c2), (L + 1, o1)])) ⟨Ne.symm off.1.1, Ne.symm off.1.2.1, Ne.symm off.1.2.2, o9⟩) i9 (Nat.le_trans c9 (by decide)) (by omega) (by omega) (by decide) (by decide)) ?k1 ?k2 ?k3 ?k4 ?k5 ?kK ?kd ?ku ?_)
    walk_at "use"
    intro r9 nw9 h9 tk9 F9 N9 p9
    obtain ⟨d, td, g'', tg'', st'', ts'', tp'', rfl, hd0', hd1', rfl⟩ := p9
    clear N4
    (try dsimp only)
    walk_at "go"
    · omega
    · exact IntsAre.append hcs (.cons _ _ .nil)
    · rw [List.length_append, hcl]; rfl
  case fin =>
    rintro ys nw ⟨pl, g, tg, st, ts, tp, rfl, hpl, cs, hcs, hcl⟩ D1 h1 tk1 F3 N3 o1'
    simp only [LCg.Off1] at o1'
    (try dsimp only)
    walk_at "go"
    (rename News _ _ _ _ => N8)
    obtain ⟨base, Bs, Nb⟩ := stand_end N8 (by assumption) (by assumption) hcs (by assumption) (by assumption)
    exact hnext cs _ _ _ _ _ _ _ _ _ _ _ _ base _ _ _ ⟨B, X', T, by omega⟩ Bs (by assumption) Nb
end
end Mine
end
section
theorem Mine.offS4 : True := by
  w_top off
  trivial
open PySem PySem.W PyProof.Rows PyProof.V
namespace Mine
section
local macro_rules | `(tactic| walk_at "stop") => `(tactic| first
  | (with_reducible show wpAny _ _ (exec (Stmt.For _ _ _ _ _) _) _ _ _)
  | (with_reducible show wpAny _ _ (pyIter _) _ _ _)
  | (with_reducible show LCg.CompSrc _ _ _ _ _ _ _ _ _ _ _ _ _ _)
  | (with_reducible show LCt.CompSrcT _ _ _ _ _ _ _ _ _ _ _ _ _ _ _)
  | (with_reducible show wpAny _ _ (eval (Expr.ListComp _ _ _ _) _) _ _ _)
  | (with_reducible show wpAny _ _ (exec (Stmt.Assign _ (Expr.ListComp _ _ _ _) _) _) _ _ _))
local macro_rules | `(tactic| walk_at "go1") => `(tactic| (first | (k_unfold; (try dsimp only)) | ((fail_if_success walk_at "stop"); first | (k_end; wrow_close) | walk1 | (dsimp only; walk1) | (leave1; walk_say "STEP leave1"; try dsimp only) | fail "no step")))
local macro_rules | `(tactic| walk_at "go") => `(tactic| repeat' (first | (k_unfold; (try dsimp only)) | ((fail_if_success walk_at "stop"); first | (k_end; wrow_close) | walk1 | (dsimp only; walk1) | (leave1; walk_say "STEP leave1"; try dsimp only) | fail "no step")))
local macro_rules | `(tactic| walk_at "enterC") => `(tactic| (refine' code_defC ?k1 ?k2 ?k3 ?k4 ?k5 ?kA ?kF ?kK ?k6 ?k7 ?k8 ?k9 ?kB ?kD ?_ ?c2 ?c3 ?c4; (case kA => exact rfl); (case kF => exact rfl); (case kK => assumption); (case k1 => k_asm); (case k2 => k_asm); (case k3 => k_asm); (case k4 => k_asm); (case k5 => k_asm); (case k6 => k_is); (case k7 => k_is); (case k8 => ktr_room); (case k9 => exact BindsTo.of_eq rfl); (case kB => exact rfl); (case kD => decide +kernel); (case c2 => exact rfl); (case c3 => exact rfl); (case c4 => exact rfl); k_whole; intro g' L' h' tk' cells' FG' F' N' Y' B' X' T' l1; (try k_lt l1); k_cells Y'; (try simp only [List.cons_append, List.nil_append] at N'); (try dsimp only); (try k_lift B'); (try k_fold)))
local macro_rules | `(tactic| walk_at "use") => `(tactic| ((case k1 => k_asm); (case k2 => k_asm); (case k3 => k_asm); (case k4 => k_asm); (case k5 => k_asm); (case kK => first | exact rfl | assumption); (case kd => ktr_room); (case ku => ktr_units)))
local macro_rules | `(tactic| walk_at "useB") => `(tactic| (walk_at "use"; intro r9 tl9 h9 tk9 F9 N9 p9; obtain ⟨e9, e8⟩ := p9; subst e9 e8; rw [List.nil_append] at N9; (try dsimp only); (try k_fold)))
local macro_rules | `(tactic| walk_at "useS") => `(tactic| (walk_at "use"; intro r9 tl9 h9 tk9 F9 N9 p9; obtain ⟨⟨t9, e9⟩, e8⟩ := p9; subst e9 e8; rw [List.nil_append] at N9; (try dsimp only); (try k_fold)))
local macro_rules | `(tactic| walk_at "call ref") => `(tactic| (k_here; first
  | (k_dflt (refine' Claim.use (joins_on_c _ _ _ _) ?k1 ?k2 ?k3 ?k4 ?k5 ?kK ?kd ?ku ?_); walk_at "useB")
  | (k_dflt (refine' Claim.use (joins_back_c _ _ _ _) ?k1 ?k2 ?k3 ?k4 ?k5 ?kK ?kd ?ku ?_); walk_at "useB")
  | (k_dflt (refine' Claim.use (form_of_c _ _ _ _) ?k1 ?k2 ?k3 ?k4 ?k5 ?kK ?kd ?ku ?_); walk_at "useS")
  | (k_dflt (refine' Claim.use (joining_type_c _ _ _ _) ?k1 ?k2 ?k3 ?k4 ?k5 ?kK ?kd ?ku ?_); walk_at "useS")))
local macro_rules | `(tactic| walk_at "lt") => `(tactic| first | assumption | exact allLt_of (by assumption) | exact And.right (by assumption) | exact And.right (And.right (by assumption)) | exact And.right (And.right (And.right (by assumption))))
local macro_rules | `(tactic| k_all) => `(tactic| first | assumption | exact off1_ne (by assumption) | exact ne_up0 (by walk_at "lt") | exact ne_up1 (by walk_at "lt") | exact ne_up2 (by walk_at "lt") | exact ne_up3 (by walk_at "lt"))
local macro_rules | `(tactic| k_mem) => `(tactic| first | assumption | exact List.mem_append.mpr (Or.inr (by assumption)) | exact List.mem_append.mpr (Or.inl (by assumption)) | exact List.mem_append.mpr (Or.inr (List.mem_append.mpr (Or.inr (by assumption)))))
local macro_rules | `(tactic| size_fits) => `(tactic| ((simp only [List.size_toArray, List.length_append, List.length_cons, List.length_nil, PySem.sizeLine_eq]); omega))
local macro_rules | `(tactic| walk_at "idx") => `(tactic| first | omega | ((try simp only [Int.zero_add]); omega))
local macro_rules | `(tactic| walk_at "subscriptTail Name Name ref int") => `(tactic| (k_here; (with_reducible show wpAny _ _ (subscriptTail _ _ (Value.ref _) (Value.int _ _)) _ _ _); k_dflt (refine' item_strs ?N ?m ?w ?h0 ?h1 ?hf ?_; (case N => k_asm); (case m => k_mem); (case w => assumption); (case h0 => walk_at "idx"); (case h1 => walk_at "idx"); (case hf => walk_at "idx")); intro t9; (try simp only [Int.toNat_natCast]); (try dsimp only)))
local macro_rules | `(tactic| walk_at "call builtin:len") => `(tactic| (k_here; (with_reducible show wpAny _ _ (call (Value.builtin "len") [Value.ref _]) _ _ _); k_dflt (refine' len_listAny ?N ?m ?c ?f ?_; (case N => k_asm); (case m => k_mem); (case c => first | exact Eq.trans List.size_toArray (PyProof.Rows.StrsAre.length (by assumption)) | exact Eq.trans List.size_toArray (IntsAre.length (by assumption)) | exact Eq.trans List.size_toArray (LSm.BoolsAre.length (by assumption))); (case f => omega)); (try dsimp only)))
local macro_rules | `(tactic| walk_at "setItem ref int") => `(tactic| (k_here; (with_reducible show wpAny _ _ (setItem (Value.ref _) (Value.int _ _) (Value.bool _)) _ _ _); k_dflt (refine' kbo_set ?F ?N ?U ?hb ?h0 ?h1 ?hf ?_; (case F => k_asm); (case N => k_asm); (case U => k_upd); (case hb => assumption); (case h0 => walk_at "idx"); (case h1 => walk_at "idx"); (case hf => walk_at "idx")); intro h' F' N' hb' hl'; (try k_sweep); (try dsimp only)))
local macro_rules | `(tactic| walk_at "subscriptTail Name Name ref int") => `(tactic| (k_here; (with_reducible show wpAny _ _ (subscriptTail _ _ (Value.ref _) (Value.int _ _)) _ _ _); k_dflt (refine' kbo_sub ?N ?m ?w ?h0 ?h1 ?hf ?_; (case N => k_asm); (case m => k_mem); (case w => assumption); (case h0 => walk_at "idx"); (case h1 => walk_at "idx"); (case hf => walk_at "idx")); (try simp only [Int.toNat_natCast]); (try dsimp only)))
local macro_rules | `(tactic| walk_at "strs") => `(tactic| first | assumption | exact StrsAre.cons _ _ (StrsAre.cons _ _ (StrsAre.cons _ _ (StrsAre.cons _ _ StrsAre.nil))))
local macro_rules | `(tactic| walk_at "call ref") => `(tactic| (k_here; k_dflt (refine' Claim.use (forms_of_c _ _ _ _ _ _ ?hl ?hi ?hn) ?k1 ?k2 ?k3 ?k4 ?k5 ?kK ?kd ?ku ?_; walk_at "use"; (case hl => k_mem); (case hi => walk_at "strs"); (case hn => first | decide | walk_at "len")); intro r9 tl9 h9 tk9 F9 N9 p9; obtain ⟨D9, us9, n9, e9, e8, S9, O9⟩ := p9; subst e9 e8; rw [List.singleton_append] at N9; (try dsimp only); (try k_fold)))
local macro_rules | `(tactic| walk_at "len") => `(tactic| first | assumption | omega | ((try simp only [List.length_map, List.length_append, List.length_take, List.length_drop, List.length_cons, List.length_nil, formsOf_length]); omega))
local macro_rules | `(tactic| walk_at "call ref") => `(tactic| (k_here; k_dflt (refine' Claim.use (runs_right_c _ _ _ _ _ _ ?hl ?hi ?hn) ?k1 ?k2 ?k3 ?k4 ?k5 ?kK ?kd ?ku ?_; walk_at "use"; (case hl => k_mem); (case hi => walk_at "strs"); (case hn => walk_at "len")); intro r9 tl9 h9 tk9 F9 N9 p9; obtain ⟨e9, e8⟩ := p9; subst e9 e8; rw [List.nil_append] at N9; (try dsimp only); (try k_fold)))
local macro_rules | `(tactic| walk_at "call builtin:list.count") => `(tactic| (k_here; (with_reducible show wpAny _ _ (call (Value.builtin _) [Value.ref _, Value.str _ _]) _ _ _); k_dflt (refine count_list_strs (by is_list) (by assumption) ?_)))
local macro_rules | `(tactic| walk_at "call builtin:len") => `(tactic| (k_here; (with_reducible show wpAny _ _ (call (Value.builtin "len") [Value.ref _]) _ _ _); k_dflt (refine' len_listAny ?N ?m ?c ?f ?_; (case N => k_asm); (case m => k_mem); (case c => first | exact Eq.trans List.size_toArray (PyProof.Rows.StrsAre.length (by assumption)) | exact Eq.trans List.size_toArray (IntsAre.length (by assumption)) | exact Eq.trans List.size_toArray (LSm.BoolsAre.length (by assumption))); (case f => walk_at "len")); (try dsimp only)))
theorem seg4 {w : World} {mean : ExcName → Option Value} {mg mb : Str → Option Value} {h₀ h : Heap} {L fa Df Dt Dc : Addr} {cd : Value} {m0 : Str → Option Value} {cs : List Int} {usF usT usC : List Value} {nF nT nC : Nat} {c3 c2 c1 : Obj} {base : Led} {Q : Flow → Shared → Prop} {E : Value → Shared → Prop} {s : Shared} {tk : Nat}
    (S : Stand w mean mg mb h₀ L cs) (Bs : Base Df Dt Dc L usF usT usC nF nT nC c3 c2 c1 cs base)
    (F : Fr h₀ L h (fun y => if y = Str.ofString "codes" then some (.ref Dc) else m0 y)) (N : News h₀ L h base)
    (hnext : ∀ h' tk', Fr h₀ L h' (fun y => if y = Str.ofString "codes" then some (.ref Dc) else m0 y) → News h₀ L h' base → Runs 5 w L fa cd Q E s h' tk') : Runs 4 w L fa cd Q E s h tk := by
  obtain ⟨B, X, T, hlen⟩ := S
  obtain ⟨rfl, hF, hT, hC, d3, d2⟩ := Bs
  revert X
  unfold Runs lawBody lawScope PySem.Challenge.pw_pb0153_01
  unfold Runs lawBody lawScope PySem.Challenge.pw_pb0153_01 at hnext
  dsimp only [lastOf, bodyOf, List.drop, scopeOf] at hnext ⊢
  k_fill
  intro X
  repeat' (first | ((with_reducible show wpAny _ _ (execs _ _) _ _ _); exact hnext _ _ (by assumption) (by assumption)) | walk_at "go1")
  all_goals
    exfalso
    rename_i a
    first
      | exact a (by rw [List.length_map])
      | exact a (by rw [formsOf_length, List.length_map])
      | exact a (p_count _)
end
end Mine
end
section
theorem Mine.offS5 : True := by
  w_top off
  trivial
local macro_rules | `(tactic| walk_at "pad") => `(tactic| skip)
local macro_rules | `(tactic| walk_at "pad") => `(tactic| skip)
local macro_rules | `(tactic| walk_at "pad") => `(tactic| skip)
local macro_rules | `(tactic| walk_at "pad") => `(tactic| skip)
local macro_rules | `(tactic| walk_at "pad") => `(tactic| skip)
local macro_rules | `(tactic| walk_at "pad") => `(tactic| skip)
local macro_rules | `(tactic| walk_at "pad") => `(tactic| skip)
local macro_rules | `(tactic| walk_at "pad") => `(tactic| skip)
local macro_rules | `(tactic| walk_at "pad") => `(tactic| skip)
local macro_rules | `(tactic| walk_at "pad") => `(tactic| skip)
local macro_rules | `(tactic| walk_at "pad") => `(tactic| skip)
local macro_rules | `(tactic| walk_at "pad") => `(tactic| skip)
local macro_rules | `(tactic| walk_at "pad") => `(tactic| skip)
local macro_rules | `(tactic| walk_at "pad") => `(tactic| skip)
local macro_rules | `(tactic| walk_at "pad") => `(tactic| skip)
local macro_rules | `(tactic| walk_at "pad") => `(tactic| skip)
local macro_rules | `(tactic| walk_at "pad") => `(tactic| skip)
local macro_rules | `(tactic| walk_at "pad") => `(tactic| skip)
local macro_rules | `(tactic| walk_at "pad") => `(tactic| skip)
local macro_rules | `(tactic| walk_at "pad") => `(tactic| skip)
local macro_rules | `(tactic| walk_at "pad") => `(tactic| skip)
local macro_rules | `(tactic| walk_at "pad") => `(tactic| skip)
local macro_rules | `(tactic| walk_at "pad") => `(tactic| skip)
local macro_rules | `(tactic| walk_at "pad") => `(tactic| skip)
local macro_rules | `(tactic| walk_at "pad") => `(tactic| skip)
local macro_rules | `(tactic| walk_at "pad") => `(tactic| skip)
local macro_rules | `(tactic| walk_at "pad") => `(tactic| skip)
local macro_rules | `(tactic| walk_at "pad") => `(tactic| skip)
local macro_rules | `(tactic| walk_at "pad") => `(tactic| skip)
local macro_rules | `(tactic| walk_at "pad") => `(tactic| skip)
local macro_rules | `(tactic| walk_at "pad") => `(tactic| skip)
local macro_rules | `(tactic| walk_at "pad") => `(tactic| skip)
local macro_rules | `(tactic| walk_at "pad") => `(tactic| skip)
local macro_rules | `(tactic| walk_at "pad") => `(tactic| skip)
local macro_rules | `(tactic| walk_at "pad") => `(tactic| skip)
local macro_rules | `(tactic| walk_at "pad") => `(tactic| skip)
local macro_rules | `(tactic| walk_at "pad") => `(tactic| skip)
local macro_rules | `(tactic| walk_at "pad") => `(tactic| skip)
local macro_rules | `(tactic| walk_at "pad") => `(tactic| skip)
local macro_rules | `(tactic| walk_at "pad") => `(tactic| skip)
open PySem PySem.W PyProof.Rows PyProof.V
namespace Mine
section
local macro_rules | `(tactic| walk_at "stop") => `(tactic| first
  | (with_reducible show wpAny _ _ (exec (Stmt.For _ _ _ _ _) _) _ _ _)
  | (with_reducible show wpAny _ _ (pyIter _) _ _ _)
  | (with_reducible show wpAny _ _ (compareOp _ (Value.ref _) (Value.ref _)) _ _ _)
  | (with_reducible show LCg.CompSrc _ _ _ _ _ _ _ _ _ _ _ _ _ _)
  | (with_reducible show LCt.CompSrcT _ _ _ _ _ _ _ _ _ _ _ _ _ _ _)
  | (with_reducible show wpAny _ _ (eval (Expr.ListComp _ _ _ _) _) _ _ _)
  | (with_reducible show wpAny _ _ (exec (Stmt.Assign _ (Expr.ListComp _ _ _ _) _) _) _ _ _))
local macro_rules | `(tactic| walk_at "go1") => `(tactic| (first | (k_unfold; (try dsimp only)) | ((fail_if_success walk_at "stop"); first | (k_end; wrow_close) | walk1 | (dsimp only; walk1) | (leave1; walk_say "STEP leave1"; try dsimp only) | fail "no step")))
local macro_rules | `(tactic| walk_at "go") => `(tactic| repeat' (first | (k_unfold; (try dsimp only)) | ((fail_if_success walk_at "stop"); first | (k_end; wrow_close) | walk1 | (dsimp only; walk1) | (leave1; walk_say "STEP leave1"; try dsimp only) | fail "no step")))
local macro_rules | `(tactic| walk_at "enterC") => `(tactic| (refine' code_defC ?k1 ?k2 ?k3 ?k4 ?k5 ?kA ?kF ?kK ?k6 ?k7 ?k8 ?k9 ?kB ?kD ?_ ?c2 ?c3 ?c4; (case kA => exact rfl); (case kF => exact rfl); (case kK => assumption); (case k1 => k_asm); (case k2 => k_asm); (case k3 => k_asm); (case k4 => k_asm); (case k5 => k_asm); (case k6 => k_is); (case k7 => k_is); (case k8 => ktr_room); (case k9 => exact BindsTo.of_eq rfl); (case kB => exact rfl); (case kD => decide +kernel); (case c2 => exact rfl); (case c3 => exact rfl); (case c4 => exact rfl); k_whole; intro g' L' h' tk' cells' FG' F' N' Y' B' X' T' l1; (try k_lt l1); k_cells Y'; (try simp only [List.cons_append, List.nil_append] at N'); (try dsimp only); (try k_lift B'); (try k_fold)))
local macro_rules | `(tactic| walk_at "use") => `(tactic| ((case k1 => k_asm); (case k2 => k_asm); (case k3 => k_asm); (case k4 => k_asm); (case k5 => k_asm); (case kK => first | exact rfl | assumption); (case kd => ktr_room); (case ku => ktr_units)))
local macro_rules | `(tactic| walk_at "useB") => `(tactic| (walk_at "use"; intro r9 tl9 h9 tk9 F9 N9 p9; obtain ⟨e9, e8⟩ := p9; subst e9 e8; rw [List.nil_append] at N9; (try dsimp only); (try k_fold)))
local macro_rules | `(tactic| walk_at "useS") => `(tactic| (walk_at "use"; intro r9 tl9 h9 tk9 F9 N9 p9; obtain ⟨⟨t9, e9⟩, e8⟩ := p9; subst e9 e8; rw [List.nil_append] at N9; (try dsimp only); (try k_fold)))
local macro_rules | `(tactic| walk_at "call ref") => `(tactic| (k_here; first
  | (k_dflt (refine' Claim.use (joins_on_c _ _ _ _) ?k1 ?k2 ?k3 ?k4 ?k5 ?kK ?kd ?ku ?_); walk_at "useB")
  | (k_dflt (refine' Claim.use (joins_back_c _ _ _ _) ?k1 ?k2 ?k3 ?k4 ?k5 ?kK ?kd ?ku ?_); walk_at "useB")
  | (k_dflt (refine' Claim.use (form_of_c _ _ _ _) ?k1 ?k2 ?k3 ?k4 ?k5 ?kK ?kd ?ku ?_); walk_at "useS")
  | (k_dflt (refine' Claim.use (joining_type_c _ _ _ _) ?k1 ?k2 ?k3 ?k4 ?k5 ?kK ?kd ?ku ?_); walk_at "useS")))
local macro_rules | `(tactic| walk_at "lt") => `(tactic| first | assumption | exact allLt_of (by assumption) | exact And.right (by assumption) | exact And.right (And.right (by assumption)) | exact And.right (And.right (And.right (by assumption))))
local macro_rules | `(tactic| k_all) => `(tactic| first | assumption | exact off1_ne (by assumption) | exact ne_up0 (by walk_at "lt") | exact ne_up1 (by walk_at "lt") | exact ne_up2 (by walk_at "lt") | exact ne_up3 (by walk_at "lt"))
local macro_rules | `(tactic| k_mem) => `(tactic| first | assumption | exact List.mem_append.mpr (Or.inr (by assumption)) | exact List.mem_append.mpr (Or.inl (by assumption)) | exact List.mem_append.mpr (Or.inr (List.mem_append.mpr (Or.inr (by assumption)))))
local macro_rules | `(tactic| size_fits) => `(tactic| ((simp only [List.size_toArray, List.length_append, List.length_cons, List.length_nil, PySem.sizeLine_eq]); omega))
local macro_rules | `(tactic| walk_at "idx") => `(tactic| first | omega | ((try simp only [Int.zero_add]); omega))
local macro_rules | `(tactic| walk_at "subscriptTail Name Name ref int") => `(tactic| (k_here; (with_reducible show wpAny _ _ (subscriptTail _ _ (Value.ref _) (Value.int _ _)) _ _ _); k_dflt (refine' item_strs ?N ?m ?w ?h0 ?h1 ?hf ?_; (case N => k_asm); (case m => k_mem); (case w => assumption); (case h0 => walk_at "idx"); (case h1 => walk_at "idx"); (case hf => walk_at "idx")); intro t9; (try simp only [Int.toNat_natCast]); (try dsimp only)))
local macro_rules | `(tactic| walk_at "call builtin:len") => `(tactic| (k_here; (with_reducible show wpAny _ _ (call (Value.builtin "len") [Value.ref _]) _ _ _); k_dflt (refine' len_listAny ?N ?m ?c ?f ?_; (case N => k_asm); (case m => k_mem); (case c => first | exact Eq.trans List.size_toArray (PyProof.Rows.StrsAre.length (by assumption)) | exact Eq.trans List.size_toArray (IntsAre.length (by assumption)) | exact Eq.trans List.size_toArray (LSm.BoolsAre.length (by assumption))); (case f => omega)); (try dsimp only)))
local macro_rules | `(tactic| walk_at "setItem ref int") => `(tactic| (k_here; (with_reducible show wpAny _ _ (setItem (Value.ref _) (Value.int _ _) (Value.bool _)) _ _ _); k_dflt (refine' kbo_set ?F ?N ?U ?hb ?h0 ?h1 ?hf ?_; (case F => k_asm); (case N => k_asm); (case U => k_upd); (case hb => assumption); (case h0 => walk_at "idx"); (case h1 => walk_at "idx"); (case hf => walk_at "idx")); intro h' F' N' hb' hl'; (try k_sweep); (try dsimp only)))
local macro_rules | `(tactic| walk_at "subscriptTail Name Name ref int") => `(tactic| (k_here; (with_reducible show wpAny _ _ (subscriptTail _ _ (Value.ref _) (Value.int _ _)) _ _ _); k_dflt (refine' kbo_sub ?N ?m ?w ?h0 ?h1 ?hf ?_; (case N => k_asm); (case m => k_mem); (case w => assumption); (case h0 => walk_at "idx"); (case h1 => walk_at "idx"); (case hf => walk_at "idx")); (try simp only [Int.toNat_natCast]); (try dsimp only)))
local macro_rules | `(tactic| walk_at "strs") => `(tactic| first | assumption | exact StrsAre.cons _ _ (StrsAre.cons _ _ (StrsAre.cons _ _ (StrsAre.cons _ _ StrsAre.nil))))
local macro_rules | `(tactic| walk_at "call ref") => `(tactic| (k_here; k_dflt (refine' Claim.use (forms_of_c _ _ _ _ _ _ ?hl ?hi ?hn) ?k1 ?k2 ?k3 ?k4 ?k5 ?kK ?kd ?ku ?_; walk_at "use"; (case hl => k_mem); (case hi => walk_at "strs"); (case hn => first | decide | walk_at "len")); intro r9 tl9 h9 tk9 F9 N9 p9; obtain ⟨D9, us9, n9, e9, e8, S9, O9⟩ := p9; subst e9 e8; rw [List.singleton_append] at N9; (try dsimp only); (try k_fold)))
local macro_rules | `(tactic| walk_at "len") => `(tactic| first | assumption | omega | ((try simp only [List.length_map, List.length_append, List.length_take, List.length_drop, List.length_cons, List.length_nil, formsOf_length]); omega))
local macro_rules | `(tactic| walk_at "call ref") => `(tactic| (k_here; k_dflt (refine' Claim.use (runs_right_c _ _ _ _ _ _ ?hl ?hi ?hn) ?k1 ?k2 ?k3 ?k4 ?k5 ?kK ?kd ?ku ?_; walk_at "use"; (case hl => k_mem); (case hi => walk_at "strs"); (case hn => walk_at "len")); intro r9 tl9 h9 tk9 F9 N9 p9; obtain ⟨e9, e8⟩ := p9; subst e9 e8; rw [List.nil_append] at N9; (try dsimp only); (try k_fold)))
local macro_rules | `(tactic| walk_at "call builtin:list.count") => `(tactic| (k_here; (with_reducible show wpAny _ _ (call (Value.builtin _) [Value.ref _, Value.str _ _]) _ _ _); k_dflt (refine count_list_strs (by is_list) (by assumption) ?_)))
local macro_rules | `(tactic| walk_at "call builtin:len") => `(tactic| (k_here; (with_reducible show wpAny _ _ (call (Value.builtin "len") [Value.ref _]) _ _ _); k_dflt (refine' len_listAny ?N ?m ?c ?f ?_; (case N => k_asm); (case m => k_mem); (case c => first | exact Eq.trans List.size_toArray (PyProof.Rows.StrsAre.length (by assumption)) | exact Eq.trans List.size_toArray (IntsAre.length (by assumption)) | exact Eq.trans List.size_toArray (LSm.BoolsAre.length (by assumption))); (case f => walk_at "len")); (try dsimp only)))
theorem seg5 {w : World} {mean : ExcName → Option Value} {mg mb : Str → Option Value} {h₀ h : Heap} {L fa Df Dt Dc : Addr} {cd : Value} {m0 : Str → Option Value} {cs : List Int} {usF usT usC : List Value} {nF nT nC : Nat} {c3 c2 c1 : Obj} {base : Led} {Q : Flow → Shared → Prop} {E : Value → Shared → Prop} {s : Shared} {tk : Nat}
    (S : Stand w mean mg mb h₀ L cs) (Bs : Base Df Dt Dc L usF usT usC nF nT nC c3 c2 c1 cs base)
    (F : Fr h₀ L h (fun y => if y = Str.ofString "codes" then some (.ref Dc) else m0 y)) (N : News h₀ L h base)
    (hnext : ∀ h' tk', Fr h₀ L h' (fun y => if y = Str.ofString "codes" then some (.ref Dc) else m0 y) → News h₀ L h' base → Runs 6 w L fa cd Q E s h' tk') : Runs 5 w L fa cd Q E s h tk := by
  obtain ⟨B, X, T, hlen⟩ := S
  obtain ⟨rfl, hF, hT, hC, d3, d2⟩ := Bs
  have hFl := hF.length
  have hTl := hT.length
  rw [formsOf_length] at hFl
  rw [List.length_map] at hFl hTl
  revert X
  unfold Runs lawBody lawScope PySem.Challenge.pw_pb0153_01
  unfold Runs lawBody lawScope PySem.Challenge.pw_pb0153_01 at hnext
  dsimp only [lastOf, bodyOf, List.drop, scopeOf] at hnext ⊢
  k_fill
  intro X
  walk_at "go"
  refine LCg.ListComp_U (F₀ := by k_asm) (by with_unfolding_all rfl) (by decide) (by rfl) (by decide) (by rfl) ?_
  walk_at "go"
  refine LCg.CompSrc.ledger (by rfl) F N (by k_mem) (by simp only [List.size_toArray, sizeLine_eq]; omega) (fun g9 => ?_)
  refine crestS (fun i ys => LSm.BoolsAre ys (((formsOf (cs.map tyOf)).take i).map fun x => x == Str.ofString "")) .nil ?turn ?fin
  case turn =>
    intro i ys v I2 oI C oC D2 m2 h2 tk2 E2 hlt hys hv hC' hm2 F3 N3 off ne
    simp only [List.getElem?_toArray] at hv
    obtain ⟨f, tf, rfl, hx⟩ := hF.item i v hv
    (try k_unmd); k_fold
    walk_at "go"
    refine LCg.CompEnd.intro (by assumption) (by assumption) _ (fun _ h => h) off (.inr ⟨_, by k_mem, rfl, _, rfl⟩) ⟨rfl, ?_⟩
    rw [List.take_add_one, hx, List.map_append]
    exact bools_snoc hys
  intro ys1 hB1 D1 h1 tk1 F3 N3 o1
  rw [List.size_toArray, hF.length, List.take_length] at hB1
  (try dsimp only)
  walk_at "go"
  refine LCg.ListComp_U (F₀ := by k_asm) (by with_unfolding_all rfl) (by decide) (by rfl) (by decide) (by rfl) ?_
  walk_at "go"
  refine LCg.CompSrc.ledger (by rfl) F3 N3 (by k_mem) (by simp only [List.size_toArray, sizeLine_eq]; omega) (fun g9 => ?_)
  refine crestS (fun i ys => LSm.BoolsAre ys (((cs.map tyOf).take i).map isTU)) .nil ?turn2 ?fin2
  case turn2 =>
    intro i ys v I2 oI C oC D2 m2 h2 tk2 E2 hlt hys hv hC' hm2 F4 N4 off ne
    simp only [List.getElem?_toArray] at hv
    obtain ⟨f, tf, rfl, hx⟩ := hT.item i v hv
    (try k_unmd); k_fold
    walk_at "go"
    refine LCg.CompEnd.intro (by assumption) (by assumption) _ (fun _ h => .tail _ h) off (.inr ⟨_, by k_mem, rfl, _, rfl⟩) ⟨rfl, ?_⟩
    rw [List.take_add_one, hx, List.map_append]
    exact bools_snoc hys
  intro ys2 hB2 D2 h2 tk2 F5 N5 o2
  rw [List.size_toArray, hT.length, List.take_length] at hB2
  (try dsimp only)
  walk_at "go"
  refine ne_bools_f N5 (.tail _ (.head _)) (.head _) hB1 hB2 (p_blank cs) (by ke_room) ?_
  have N6 := cb_drop N5 (news := [(Df, listOf usF.toArray nF), (Dt, listOf usT.toArray nT), (Dc, listOf usC.toArray nC), (L + 1 + 1 + 1, c3), (L + 1 + 1, c2), (L + 1, c1)]) (fun p hp => .tail _ (.tail _ hp))
  clear N5
  repeat' (first | ((with_reducible show wpAny _ _ (execs _ _) _ _ _); exact hnext _ _ (by assumption) (by assumption)) | walk_at "go1")
end
end Mine
end
section
theorem Mine.offS6 : True := by
  w_top off
  trivial
open PySem PySem.W PyProof.Rows PyProof.V
namespace Mine
section
local macro_rules | `(tactic| walk_at "stop") => `(tactic| first
  | (with_reducible show wpAny _ _ (exec (Stmt.For _ _ _ _ _) _) _ _ _)
  | (with_reducible show wpAny _ _ (pyIter _) _ _ _)
  | (with_reducible show wpAny _ _ (compareOp _ (Value.ref _) (Value.ref _)) _ _ _)
  | (with_reducible show LCg.CompSrc _ _ _ _ _ _ _ _ _ _ _ _ _ _)
  | (with_reducible show LCt.CompSrcT _ _ _ _ _ _ _ _ _ _ _ _ _ _ _)
  | (with_reducible show wpAny _ _ (eval (Expr.ListComp _ _ _ _) _) _ _ _)
  | (with_reducible show wpAny _ _ (exec (Stmt.Assign _ (Expr.ListComp _ _ _ _) _) _) _ _ _))
local macro_rules | `(tactic| walk_at "go1") => `(tactic| (first | (k_unfold; (try dsimp only)) | ((fail_if_success walk_at "stop"); first | (k_end; wrow_close) | walk1 | (dsimp only; walk1) | (leave1; walk_say "STEP leave1"; try dsimp only) | fail "no step")))
local macro_rules | `(tactic| walk_at "go") => `(tactic| repeat' (first | (k_unfold; (try dsimp only)) | ((fail_if_success walk_at "stop"); first | (k_end; wrow_close) | walk1 | (dsimp only; walk1) | (leave1; walk_say "STEP leave1"; try dsimp only) | fail "no step")))
local macro_rules | `(tactic| walk_at "enterC") => `(tactic| (refine' code_defC ?k1 ?k2 ?k3 ?k4 ?k5 ?kA ?kF ?kK ?k6 ?k7 ?k8 ?k9 ?kB ?kD ?_ ?c2 ?c3 ?c4; (case kA => exact rfl); (case kF => exact rfl); (case kK => assumption); (case k1 => k_asm); (case k2 => k_asm); (case k3 => k_asm); (case k4 => k_asm); (case k5 => k_asm); (case k6 => k_is); (case k7 => k_is); (case k8 => ktr_room); (case k9 => exact BindsTo.of_eq rfl); (case kB => exact rfl); (case kD => decide +kernel); (case c2 => exact rfl); (case c3 => exact rfl); (case c4 => exact rfl); k_whole; intro g' L' h' tk' cells' FG' F' N' Y' B' X' T' l1; (try k_lt l1); k_cells Y'; (try simp only [List.cons_append, List.nil_append] at N'); (try dsimp only); (try k_lift B'); (try k_fold)))
local macro_rules | `(tactic| walk_at "use") => `(tactic| ((case k1 => k_asm); (case k2 => k_asm); (case k3 => k_asm); (case k4 => k_asm); (case k5 => k_asm); (case kK => first | exact rfl | assumption); (case kd => ktr_room); (case ku => ktr_units)))
local macro_rules | `(tactic| walk_at "useB") => `(tactic| (walk_at "use"; intro r9 tl9 h9 tk9 F9 N9 p9; obtain ⟨e9, e8⟩ := p9; subst e9 e8; rw [List.nil_append] at N9; (try dsimp only); (try k_fold)))
local macro_rules | `(tactic| walk_at "useS") => `(tactic| (walk_at "use"; intro r9 tl9 h9 tk9 F9 N9 p9; obtain ⟨⟨t9, e9⟩, e8⟩ := p9; subst e9 e8; rw [List.nil_append] at N9; (try dsimp only); (try k_fold)))
local macro_rules | `(tactic| walk_at "call ref") => `(tactic| (k_here; first
  | (k_dflt (refine' Claim.use (joins_on_c _ _ _ _) ?k1 ?k2 ?k3 ?k4 ?k5 ?kK ?kd ?ku ?_); walk_at "useB")
  | (k_dflt (refine' Claim.use (joins_back_c _ _ _ _) ?k1 ?k2 ?k3 ?k4 ?k5 ?kK ?kd ?ku ?_); walk_at "useB")
  | (k_dflt (refine' Claim.use (form_of_c _ _ _ _) ?k1 ?k2 ?k3 ?k4 ?k5 ?kK ?kd ?ku ?_); walk_at "useS")
  | (k_dflt (refine' Claim.use (joining_type_c _ _ _ _) ?k1 ?k2 ?k3 ?k4 ?k5 ?kK ?kd ?ku ?_); walk_at "useS")))
local macro_rules | `(tactic| walk_at "lt") => `(tactic| first | assumption | exact allLt_of (by assumption) | exact And.right (by assumption) | exact And.right (And.right (by assumption)) | exact And.right (And.right (And.right (by assumption))))
local macro_rules | `(tactic| k_all) => `(tactic| first | assumption | exact off1_ne (by assumption) | exact ne_up0 (by walk_at "lt") | exact ne_up1 (by walk_at "lt") | exact ne_up2 (by walk_at "lt") | exact ne_up3 (by walk_at "lt"))
local macro_rules | `(tactic| k_mem) => `(tactic| first | assumption | exact List.mem_append.mpr (Or.inr (by assumption)) | exact List.mem_append.mpr (Or.inl (by assumption)) | exact List.mem_append.mpr (Or.inr (List.mem_append.mpr (Or.inr (by assumption)))))
local macro_rules | `(tactic| size_fits) => `(tactic| ((simp only [List.size_toArray, List.length_append, List.length_cons, List.length_nil, PySem.sizeLine_eq]); omega))
local macro_rules | `(tactic| walk_at "idx") => `(tactic| first | omega | ((try simp only [Int.zero_add]); omega))
local macro_rules | `(tactic| walk_at "subscriptTail Name Name ref int") => `(tactic| (k_here; (with_reducible show wpAny _ _ (subscriptTail _ _ (Value.ref _) (Value.int _ _)) _ _ _); k_dflt (refine' item_strs ?N ?m ?w ?h0 ?h1 ?hf ?_; (case N => k_asm); (case m => k_mem); (case w => assumption); (case h0 => walk_at "idx"); (case h1 => walk_at "idx"); (case hf => walk_at "idx")); intro t9; (try simp only [Int.toNat_natCast]); (try dsimp only)))
local macro_rules | `(tactic| walk_at "call builtin:len") => `(tactic| (k_here; (with_reducible show wpAny _ _ (call (Value.builtin "len") [Value.ref _]) _ _ _); k_dflt (refine' len_listAny ?N ?m ?c ?f ?_; (case N => k_asm); (case m => k_mem); (case c => first | exact Eq.trans List.size_toArray (PyProof.Rows.StrsAre.length (by assumption)) | exact Eq.trans List.size_toArray (IntsAre.length (by assumption)) | exact Eq.trans List.size_toArray (LSm.BoolsAre.length (by assumption))); (case f => omega)); (try dsimp only)))
local macro_rules | `(tactic| walk_at "setItem ref int") => `(tactic| (k_here; (with_reducible show wpAny _ _ (setItem (Value.ref _) (Value.int _ _) (Value.bool _)) _ _ _); k_dflt (refine' kbo_set ?F ?N ?U ?hb ?h0 ?h1 ?hf ?_; (case F => k_asm); (case N => k_asm); (case U => k_upd); (case hb => assumption); (case h0 => walk_at "idx"); (case h1 => walk_at "idx"); (case hf => walk_at "idx")); intro h' F' N' hb' hl'; (try k_sweep); (try dsimp only)))
local macro_rules | `(tactic| walk_at "subscriptTail Name Name ref int") => `(tactic| (k_here; (with_reducible show wpAny _ _ (subscriptTail _ _ (Value.ref _) (Value.int _ _)) _ _ _); k_dflt (refine' kbo_sub ?N ?m ?w ?h0 ?h1 ?hf ?_; (case N => k_asm); (case m => k_mem); (case w => assumption); (case h0 => walk_at "idx"); (case h1 => walk_at "idx"); (case hf => walk_at "idx")); (try simp only [Int.toNat_natCast]); (try dsimp only)))
local macro_rules | `(tactic| walk_at "strs") => `(tactic| first | assumption | exact StrsAre.cons _ _ (StrsAre.cons _ _ (StrsAre.cons _ _ (StrsAre.cons _ _ StrsAre.nil))))
local macro_rules | `(tactic| walk_at "call ref") => `(tactic| (k_here; k_dflt (refine' Claim.use (forms_of_c _ _ _ _ _ _ ?hl ?hi ?hn) ?k1 ?k2 ?k3 ?k4 ?k5 ?kK ?kd ?ku ?_; walk_at "use"; (case hl => k_mem); (case hi => walk_at "strs"); (case hn => first | decide | walk_at "len")); intro r9 tl9 h9 tk9 F9 N9 p9; obtain ⟨D9, us9, n9, e9, e8, S9, O9⟩ := p9; subst e9 e8; rw [List.singleton_append] at N9; (try dsimp only); (try k_fold)))
local macro_rules | `(tactic| walk_at "len") => `(tactic| first | assumption | omega | ((try simp only [List.length_map, List.length_append, List.length_take, List.length_drop, List.length_cons, List.length_nil, formsOf_length]); omega))
local macro_rules | `(tactic| walk_at "call ref") => `(tactic| (k_here; k_dflt (refine' Claim.use (runs_right_c _ _ _ _ _ _ ?hl ?hi ?hn) ?k1 ?k2 ?k3 ?k4 ?k5 ?kK ?kd ?ku ?_; walk_at "use"; (case hl => k_mem); (case hi => walk_at "strs"); (case hn => walk_at "len")); intro r9 tl9 h9 tk9 F9 N9 p9; obtain ⟨e9, e8⟩ := p9; subst e9 e8; rw [List.nil_append] at N9; (try dsimp only); (try k_fold)))
local macro_rules | `(tactic| walk_at "call builtin:list.count") => `(tactic| (k_here; (with_reducible show wpAny _ _ (call (Value.builtin _) [Value.ref _, Value.str _ _]) _ _ _); k_dflt (refine count_list_strs (by is_list) (by assumption) ?_)))
local macro_rules | `(tactic| walk_at "call builtin:len") => `(tactic| (k_here; (with_reducible show wpAny _ _ (call (Value.builtin "len") [Value.ref _]) _ _ _); k_dflt (refine' len_listAny ?N ?m ?c ?f ?_; (case N => k_asm); (case m => k_mem); (case c => first | exact Eq.trans List.size_toArray (PyProof.Rows.StrsAre.length (by assumption)) | exact Eq.trans List.size_toArray (IntsAre.length (by assumption)) | exact Eq.trans List.size_toArray (LSm.BoolsAre.length (by assumption))); (case f => walk_at "len")); (try dsimp only)))
theorem seg6 {w : World} {mean : ExcName → Option Value} {mg mb : Str → Option Value} {h₀ h : Heap} {L fa Df Dt Dc : Addr} {cd : Value} {m0 : Str → Option Value} {cs : List Int} {usF usT usC : List Value} {nF nT nC : Nat} {c3 c2 c1 : Obj} {base : Led} {Q : Flow → Shared → Prop} {E : Value → Shared → Prop} {s : Shared} {tk : Nat} 
    (S : Stand w mean mg mb h₀ L cs) (Bs : Base Df Dt Dc L usF usT usC nF nT nC c3 c2 c1 cs base) 
    (F : Fr h₀ L h (fun y => if y = Str.ofString "codes" then some (.ref Dc) else m0 y)) (N : News h₀ L h base)
    (hnext : ∀ Ds usS nS h' tk', Fr h₀ L h' (fun y => if y = Str.ofString "seen" then some (.ref Ds) else if y = Str.ofString "codes" then some (.ref Dc) else m0 y) → News h₀ L h' ((Ds, listOf (List.toArray usS) nS) :: base) → IntsAre usS ((seenL (cs.map tyOf)).map Int.ofNat) → Runs 7 w L fa cd Q E s h' tk') : Runs 6 w L fa cd Q E s h tk := by
  obtain ⟨B, X, T, hlen⟩ := S
  obtain ⟨rfl, hF, hT, hC, d3, d2⟩ := Bs
  have hFl := hF.length
  have hTl := hT.length
  rw [formsOf_length] at hFl
  rw [List.length_map] at hFl hTl
  have htl : (cs.map tyOf).length = cs.length := List.length_map _
  have hfl : (formsOf (cs.map tyOf)).length = cs.length := by rw [formsOf_length, List.length_map]
  revert X
  unfold Runs lawBody lawScope PySem.Challenge.pw_pb0153_01
  unfold Runs lawBody lawScope PySem.Challenge.pw_pb0153_01 at hnext
  dsimp only [lastOf, bodyOf, List.drop, scopeOf] at hnext ⊢
  k_fill
  intro X
  walk_at "go"
  refine LCt.Assign_ListComp_T (F₀ := by k_asm) (by rfl) (by with_unfolding_all rfl) (by with_unfolding_all rfl) (by decide) (by rfl) (by decide) (by rfl) (by rfl) (by rfl) ?_
  walk_at "go"
  (rename Fr _ _ _ _ => F2)
  (rename News _ _ _ _ => N2)
  (rename IsRange _ _ _ _ _ _ _ _ => R2)
  refine LCt.CompSrcT.range (n := (cs.map tyOf).length) (by rfl) F2 N2 R2 (small_one (by omega) (by omega) (by omega) (by omega)) (by rw [rangeSize_nat]; simp) (by rw [sizeLine_eq]; omega) (fun g9 => ?_)
  refine crestTS (fun i ys => IntsAre ys (((List.range i).filter fun a => (cs.map tyOf).getD a (Str.ofString "") != Str.ofString "T").map Int.ofNat)) .nil ?turn ?fin
  case turn =>
    rintro i ys v I2 oI C oC D2 m2 h2 tk2 E2 hlt hys ⟨tq, rfl⟩ hC' hm2 F3 N3 off ne
    rw [Int.zero_add] at hm2
    (try k_unmd); k_fold
    walk_at "go"
    · rename_i ha
      refine LCg.CompEnd.intro (by assumption) (by assumption) _ (fun _ h => h) off trivial ⟨rfl, ?_⟩
      have e : List.filter (fun a => (cs.map tyOf).getD a (Str.ofString "") != Str.ofString "T") [i] = [i] := by simp only [List.filter_cons, ha, if_true, List.filter_nil]
      rw [List.range_succ, List.filter_append, e, List.map_append]
      exact IntsAre.append hys (.cons _ _ .nil)
    · rename_i ha
      refine LCg.CompEnd.intro (by assumption) (by assumption) _ (fun _ h => h) off trivial ⟨rfl, ?_⟩
      have e : List.filter (fun a => (cs.map tyOf).getD a (Str.ofString "") != Str.ofString "T") [i] = [] := by simp only [List.filter_cons, ha, Bool.false_eq_true, if_false, List.filter_nil]
      rw [List.range_succ, List.filter_append, e, List.append_nil]
      exact hys
  intro ys1 hB1 D1 h1 tk1 F3 N3 o1
  (try dsimp only)
  exact hnext D1 ys1 _ _ _ F3 N3 hB1
end
end Mine
end
section
theorem Mine.offS7 : True := by
  w_top off
  trivial
local macro_rules | `(tactic| walk_at "pad") => `(tactic| skip)
local macro_rules | `(tactic| walk_at "pad") => `(tactic| skip)
local macro_rules | `(tactic| walk_at "pad") => `(tactic| skip)
local macro_rules | `(tactic| walk_at "pad") => `(tactic| skip)
local macro_rules | `(tactic| walk_at "pad") => `(tactic| skip)
local macro_rules | `(tactic| walk_at "pad") => `(tactic| skip)
local macro_rules | `(tactic| walk_at "pad") => `(tactic| skip)
local macro_rules | `(tactic| walk_at "pad") => `(tactic| skip)
local macro_rules | `(tactic| walk_at "pad") => `(tactic| skip)
local macro_rules | `(tactic| walk_at "pad") => `(tactic| skip)
local macro_rules | `(tactic| walk_at "pad") => `(tactic| skip)
local macro_rules | `(tactic| walk_at "pad") => `(tactic| skip)
local macro_rules | `(tactic| walk_at "pad") => `(tactic| skip)
local macro_rules | `(tactic| walk_at "pad") => `(tactic| skip)
local macro_rules | `(tactic| walk_at "pad") => `(tactic| skip)
local macro_rules | `(tactic| walk_at "pad") => `(tactic| skip)
local macro_rules | `(tactic| walk_at "pad") => `(tactic| skip)
local macro_rules | `(tactic| walk_at "pad") => `(tactic| skip)
local macro_rules | `(tactic| walk_at "pad") => `(tactic| skip)
local macro_rules | `(tactic| walk_at "pad") => `(tactic| skip)
local macro_rules | `(tactic| walk_at "pad") => `(tactic| skip)
local macro_rules | `(tactic| walk_at "pad") => `(tactic| skip)
local macro_rules | `(tactic| walk_at "pad") => `(tactic| skip)
local macro_rules | `(tactic| walk_at "pad") => `(tactic| skip)
local macro_rules | `(tactic| walk_at "pad") => `(tactic| skip)
local macro_rules | `(tactic| walk_at "pad") => `(tactic| skip)
local macro_rules | `(tactic| walk_at "pad") => `(tactic| skip)
local macro_rules | `(tactic| walk_at "pad") => `(tactic| skip)
local macro_rules | `(tactic| walk_at "pad") => `(tactic| skip)
local macro_rules | `(tactic| walk_at "pad") => `(tactic| skip)
local macro_rules | `(tactic| walk_at "pad") => `(tactic| skip)
local macro_rules | `(tactic| walk_at "pad") => `(tactic| skip)
local macro_rules | `(tactic| walk_at "pad") => `(tactic| skip)
local macro_rules | `(tactic| walk_at "pad") => `(tactic| skip)
local macro_rules | `(tactic| walk_at "pad") => `(tactic| skip)
local macro_rules | `(tactic| walk_at "pad") => `(tactic| skip)
local macro_rules | `(tactic| walk_at "pad") => `(tactic| skip)
local macro_rules | `(tactic| walk_at "pad") => `(tactic| skip)
local macro_rules | `(tactic| walk_at "pad") => `(tactic| skip)
local macro_rules | `(tactic| walk_at "pad") => `(tactic| skip)
open PySem PySem.W PyProof.Rows PyProof.V
namespace Mine
section
local macro_rules | `(tactic| walk_at "stop") => `(tactic| first
  | (with_reducible show wpAny _ _ (exec (Stmt.For _ _ _ _ _) _) _ _ _)
  | (with_reducible show wpAny _ _ (pyIter _) _ _ _)
  | (with_reducible show wpAny _ _ (compareOp _ (Value.ref _) (Value.ref _)) _ _ _)
  | (with_reducible show LCg.CompSrc _ _ _ _ _ _ _ _ _ _ _ _ _ _)
  | (with_reducible show LCt.CompSrcT _ _ _ _ _ _ _ _ _ _ _ _ _ _ _)
  | (with_reducible show wpAny _ _ (eval (Expr.ListComp _ _ _ _) _) _ _ _)
  | (with_reducible show wpAny _ _ (exec (Stmt.Assign _ (Expr.ListComp _ _ _ _) _) _) _ _ _))
local macro_rules | `(tactic| walk_at "go1") => `(tactic| (first | (k_unfold; (try dsimp only)) | ((fail_if_success walk_at "stop"); first | (k_end; wrow_close) | walk1 | (dsimp only; walk1) | (leave1; walk_say "STEP leave1"; try dsimp only) | fail "no step")))
local macro_rules | `(tactic| walk_at "go") => `(tactic| repeat' (first | (k_unfold; (try dsimp only)) | ((fail_if_success walk_at "stop"); first | (k_end; wrow_close) | walk1 | (dsimp only; walk1) | (leave1; walk_say "STEP leave1"; try dsimp only) | fail "no step")))
local macro_rules | `(tactic| walk_at "enterC") => `(tactic| (refine' code_defC ?k1 ?k2 ?k3 ?k4 ?k5 ?kA ?kF ?kK ?k6 ?k7 ?k8 ?k9 ?kB ?kD ?_ ?c2 ?c3 ?c4; (case kA => exact rfl); (case kF => exact rfl); (case kK => assumption); (case k1 => k_asm); (case k2 => k_asm); (case k3 => k_asm); (case k4 => k_asm); (case k5 => k_asm); (case k6 => k_is); (case k7 => k_is); (case k8 => ktr_room); (case k9 => exact BindsTo.of_eq rfl); (case kB => exact rfl); (case kD => decide +kernel); (case c2 => exact rfl); (case c3 => exact rfl); (case c4 => exact rfl); k_whole; intro g' L' h' tk' cells' FG' F' N' Y' B' X' T' l1; (try k_lt l1); k_cells Y'; (try simp only [List.cons_append, List.nil_append] at N'); (try dsimp only); (try k_lift B'); (try k_fold)))
local macro_rules | `(tactic| walk_at "use") => `(tactic| ((case k1 => k_asm); (case k2 => k_asm); (case k3 => k_asm); (case k4 => k_asm); (case k5 => k_asm); (case kK => first | exact rfl | assumption); (case kd => ktr_room); (case ku => ktr_units)))
local macro_rules | `(tactic| walk_at "useB") => `(tactic| (walk_at "use"; intro r9 tl9 h9 tk9 F9 N9 p9; obtain ⟨e9, e8⟩ := p9; subst e9 e8; rw [List.nil_append] at N9; (try dsimp only); (try k_fold)))
local macro_rules | `(tactic| walk_at "useS") => `(tactic| (walk_at "use"; intro r9 tl9 h9 tk9 F9 N9 p9; obtain ⟨⟨t9, e9⟩, e8⟩ := p9; subst e9 e8; rw [List.nil_append] at N9; (try dsimp only); (try k_fold)))
local macro_rules | `(tactic| walk_at "call ref") => `(tactic| (k_here; first
  | (k_dflt (refine' Claim.use (joins_on_c _ _ _ _) ?k1 ?k2 ?k3 ?k4 ?k5 ?kK ?kd ?ku ?_); walk_at "useB")
  | (k_dflt (refine' Claim.use (joins_back_c _ _ _ _) ?k1 ?k2 ?k3 ?k4 ?k5 ?kK ?kd ?ku ?_); walk_at "useB")
  | (k_dflt (refine' Claim.use (form_of_c _ _ _ _) ?k1 ?k2 ?k3 ?k4 ?k5 ?kK ?kd ?ku ?_); walk_at "useS")
  | (k_dflt (refine' Claim.use (joining_type_c _ _ _ _) ?k1 ?k2 ?k3 ?k4 ?k5 ?kK ?kd ?ku ?_); walk_at "useS")))
local macro_rules | `(tactic| walk_at "lt") => `(tactic| first | assumption | exact allLt_of (by assumption) | exact And.right (by assumption) | exact And.right (And.right (by assumption)) | exact And.right (And.right (And.right (by assumption))))
local macro_rules | `(tactic| k_all) => `(tactic| first | assumption | exact off1_ne (by assumption) | exact ne_up0 (by walk_at "lt") | exact ne_up1 (by walk_at "lt") | exact ne_up2 (by walk_at "lt") | exact ne_up3 (by walk_at "lt"))
local macro_rules | `(tactic| k_mem) => `(tactic| first | assumption | exact List.mem_append.mpr (Or.inr (by assumption)) | exact List.mem_append.mpr (Or.inl (by assumption)) | exact List.mem_append.mpr (Or.inr (List.mem_append.mpr (Or.inr (by assumption)))))
local macro_rules | `(tactic| size_fits) => `(tactic| ((simp only [List.size_toArray, List.length_append, List.length_cons, List.length_nil, PySem.sizeLine_eq]); omega))
local macro_rules | `(tactic| walk_at "idx") => `(tactic| first | omega | ((try simp only [Int.zero_add]); omega))
local macro_rules | `(tactic| walk_at "subscriptTail Name Name ref int") => `(tactic| (k_here; (with_reducible show wpAny _ _ (subscriptTail _ _ (Value.ref _) (Value.int _ _)) _ _ _); k_dflt (refine' item_strs ?N ?m ?w ?h0 ?h1 ?hf ?_; (case N => k_asm); (case m => k_mem); (case w => assumption); (case h0 => walk_at "idx"); (case h1 => walk_at "idx"); (case hf => walk_at "idx")); intro t9; (try simp only [Int.toNat_natCast]); (try dsimp only)))
local macro_rules | `(tactic| walk_at "call builtin:len") => `(tactic| (k_here; (with_reducible show wpAny _ _ (call (Value.builtin "len") [Value.ref _]) _ _ _); k_dflt (refine' len_listAny ?N ?m ?c ?f ?_; (case N => k_asm); (case m => k_mem); (case c => first | exact Eq.trans List.size_toArray (PyProof.Rows.StrsAre.length (by assumption)) | exact Eq.trans List.size_toArray (IntsAre.length (by assumption)) | exact Eq.trans List.size_toArray (LSm.BoolsAre.length (by assumption))); (case f => omega)); (try dsimp only)))
local macro_rules | `(tactic| walk_at "setItem ref int") => `(tactic| (k_here; (with_reducible show wpAny _ _ (setItem (Value.ref _) (Value.int _ _) (Value.bool _)) _ _ _); k_dflt (refine' kbo_set ?F ?N ?U ?hb ?h0 ?h1 ?hf ?_; (case F => k_asm); (case N => k_asm); (case U => k_upd); (case hb => assumption); (case h0 => walk_at "idx"); (case h1 => walk_at "idx"); (case hf => walk_at "idx")); intro h' F' N' hb' hl'; (try k_sweep); (try dsimp only)))
local macro_rules | `(tactic| walk_at "subscriptTail Name Name ref int") => `(tactic| (k_here; (with_reducible show wpAny _ _ (subscriptTail _ _ (Value.ref _) (Value.int _ _)) _ _ _); k_dflt (refine' kbo_sub ?N ?m ?w ?h0 ?h1 ?hf ?_; (case N => k_asm); (case m => k_mem); (case w => assumption); (case h0 => walk_at "idx"); (case h1 => walk_at "idx"); (case hf => walk_at "idx")); (try simp only [Int.toNat_natCast]); (try dsimp only)))
local macro_rules | `(tactic| walk_at "strs") => `(tactic| first | assumption | exact StrsAre.cons _ _ (StrsAre.cons _ _ (StrsAre.cons _ _ (StrsAre.cons _ _ StrsAre.nil))))
local macro_rules | `(tactic| walk_at "call ref") => `(tactic| (k_here; k_dflt (refine' Claim.use (forms_of_c _ _ _ _ _ _ ?hl ?hi ?hn) ?k1 ?k2 ?k3 ?k4 ?k5 ?kK ?kd ?ku ?_; walk_at "use"; (case hl => k_mem); (case hi => walk_at "strs"); (case hn => first | decide | walk_at "len")); intro r9 tl9 h9 tk9 F9 N9 p9; obtain ⟨D9, us9, n9, e9, e8, S9, O9⟩ := p9; subst e9 e8; rw [List.singleton_append] at N9; (try dsimp only); (try k_fold)))
local macro_rules | `(tactic| walk_at "len") => `(tactic| first | assumption | omega | ((try simp only [List.length_map, List.length_append, List.length_take, List.length_drop, List.length_cons, List.length_nil, formsOf_length]); omega))
local macro_rules | `(tactic| walk_at "call ref") => `(tactic| (k_here; k_dflt (refine' Claim.use (runs_right_c _ _ _ _ _ _ ?hl ?hi ?hn) ?k1 ?k2 ?k3 ?k4 ?k5 ?kK ?kd ?ku ?_; walk_at "use"; (case hl => k_mem); (case hi => walk_at "strs"); (case hn => walk_at "len")); intro r9 tl9 h9 tk9 F9 N9 p9; obtain ⟨e9, e8⟩ := p9; subst e9 e8; rw [List.nil_append] at N9; (try dsimp only); (try k_fold)))
local macro_rules | `(tactic| walk_at "call builtin:list.count") => `(tactic| (k_here; (with_reducible show wpAny _ _ (call (Value.builtin _) [Value.ref _, Value.str _ _]) _ _ _); k_dflt (refine count_list_strs (by is_list) (by assumption) ?_)))
local macro_rules | `(tactic| walk_at "call builtin:len") => `(tactic| (k_here; (with_reducible show wpAny _ _ (call (Value.builtin "len") [Value.ref _]) _ _ _); k_dflt (refine' len_listAny ?N ?m ?c ?f ?_; (case N => k_asm); (case m => k_mem); (case c => first | exact Eq.trans List.size_toArray (PyProof.Rows.StrsAre.length (by assumption)) | exact Eq.trans List.size_toArray (IntsAre.length (by assumption)) | exact Eq.trans List.size_toArray (LSm.BoolsAre.length (by assumption))); (case f => walk_at "len")); (try dsimp only)))
theorem seg7 {w : World} {mean : ExcName → Option Value} {mg mb : Str → Option Value} {h₀ h : Heap} {L fa Df Dt Dc : Addr} {cd : Value} {m0 : Str → Option Value} {cs : List Int} {usF usT usC : List Value} {nF nT nC : Nat} {c3 c2 c1 : Obj} {base : Led} {Q : Flow → Shared → Prop} {E : Value → Shared → Prop} {s : Shared} {tk : Nat} {Ds : Addr} {usS : List Value} {nS : Nat}
    (S : Stand w mean mg mb h₀ L cs) (Bs : Base Df Dt Dc L usF usT usC nF nT nC c3 c2 c1 cs base) (hS : IntsAre usS ((seenL (cs.map tyOf)).map Int.ofNat))
    (F : Fr h₀ L h (fun y => if y = Str.ofString "seen" then some (.ref Ds) else if y = Str.ofString "codes" then some (.ref Dc) else m0 y)) (N : News h₀ L h ((Ds, listOf usS.toArray nS) :: base))
    (hnext : ∀ h' tk', Fr h₀ L h' (fun y => if y = Str.ofString "seen" then some (.ref Ds) else if y = Str.ofString "codes" then some (.ref Dc) else m0 y) → News h₀ L h' ((Ds, listOf usS.toArray nS) :: base) → Runs 8 w L fa cd Q E s h' tk') : Runs 7 w L fa cd Q E s h tk := by
  obtain ⟨B, X, T, hlen⟩ := S
  obtain ⟨rfl, hF, hT, hC, d3, d2⟩ := Bs
  have hFl := hF.length
  have hTl := hT.length
  rw [formsOf_length] at hFl
  rw [List.length_map] at hFl hTl
  have htl : (cs.map tyOf).length = cs.length := List.length_map _
  have hfl : (formsOf (cs.map tyOf)).length = cs.length := by rw [formsOf_length, List.length_map]
  revert X
  unfold Runs lawBody lawScope PySem.Challenge.pw_pb0153_01
  unfold Runs lawBody lawScope PySem.Challenge.pw_pb0153_01 at hnext
  dsimp only [lastOf, bodyOf, List.drop, scopeOf] at hnext ⊢
  k_fill
  intro X
  have hsl := seenL_len (cs.map tyOf)
  have hSl := hS.length
  rw [List.length_map] at hSl
  walk_at "go"
  refine LCg.ListComp_U (F₀ := by k_asm) (by with_unfolding_all rfl) (by decide) (by rfl) (by decide) (by rfl) ?_
  walk_at "go"
  refine LCg.CompSrc.ledger (by rfl) F N (by k_mem) (by simp only [List.size_toArray, sizeLine_eq]; omega) (fun g9 => ?_)
  refine crestS (fun i ys => StrsAre ys (((seenL (cs.map tyOf)).take i).map fun a => if ((cs.map tyOf).getD a (Str.ofString "") != Str.ofString "U") = true then (formsOf (cs.map tyOf)).getD a (Str.ofString "") else Str.ofString "none")) .nil ?turn ?fin
  case turn =>
    intro i ys v I2 oI C oC D2 m2 h2 tk2 E2 hlt hys hv hC' hm2 F3 N3 off ne
    simp only [List.getElem?_toArray] at hv
    obtain ⟨c, tc, rfl, hx⟩ := hS.at i v hv
    rw [List.getElem?_map] at hx
    obtain ⟨a, ha, rfl⟩ := Option.map_eq_some_iff.mp hx
    have hal := seen_lt (List.mem_of_getElem? ha)
    replace hm2 : m2 (Str.ofString "at") = some (.int (a : Int) tc) := hm2
    (try k_unmd); k_fold
    walk_at "go"
    · refine LCg.CompEnd.intro (by assumption) (by assumption) _ (fun _ h => h) off (.inr ⟨_, by k_mem, rfl, _, rfl⟩) ⟨rfl, ?_⟩
      rw [List.take_add_one, ha, Option.toList_some, List.map_append, List.map_cons, List.map_nil, if_pos (by assumption)]
      exact hys.append' (.cons _ _ .nil)
    · refine LCg.CompEnd.intro (by assumption) (by assumption) _ (fun _ h => h) off (.inr ⟨_, by k_mem, rfl, _, rfl⟩) ⟨rfl, ?_⟩
      rw [List.take_add_one, ha, Option.toList_some, List.map_append, List.map_cons, List.map_nil, if_neg (by rw [Bool.not_eq_true]; assumption)]
      exact hys.append' (.cons _ _ .nil)
  intro ys1 hB1 D1 h1 tk1 F3 N3 o1
  rw [List.size_toArray, hSl, List.take_length] at hB1
  (try dsimp only)
  repeat' (first | ((with_reducible show wpAny _ _ (execs _ _) _ _ _); exact hnext _ _ (by assumption) (cb_drop (by assumption) (fun p hp => .tail _ hp))) | walk_at "go1")
  exfalso
  exact ‹¬ rr _ = some false› (p_runs _)
end
end Mine
end
section
theorem Mine.offS8 : True := by
  w_top off
  trivial
open PySem PySem.W PyProof.Rows PyProof.V
namespace Mine
section
local macro_rules | `(tactic| walk_at "stop") => `(tactic| first
  | (with_reducible show wpAny _ _ (exec (Stmt.For _ _ _ _ _) _) _ _ _)
  | (with_reducible show wpAny _ _ (pyIter _) _ _ _)
  | (with_reducible show wpAny _ _ (compareOp _ (Value.ref _) (Value.ref _)) _ _ _)
  | (with_reducible show LCg.CompSrc _ _ _ _ _ _ _ _ _ _ _ _ _ _)
  | (with_reducible show LCt.CompSrcT _ _ _ _ _ _ _ _ _ _ _ _ _ _ _)
  | (with_reducible show wpAny _ _ (eval (Expr.ListComp _ _ _ _) _) _ _ _)
  | (with_reducible show wpAny _ _ (exec (Stmt.Assign _ (Expr.ListComp _ _ _ _) _) _) _ _ _))
local macro_rules | `(tactic| walk_at "go1") => `(tactic| (first | (k_unfold; (try dsimp only)) | ((fail_if_success walk_at "stop"); first | (k_end; wrow_close) | walk1 | (dsimp only; walk1) | (leave1; walk_say "STEP leave1"; try dsimp only) | fail "no step")))
local macro_rules | `(tactic| walk_at "go") => `(tactic| repeat' (first | (k_unfold; (try dsimp only)) | ((fail_if_success walk_at "stop"); first | (k_end; wrow_close) | walk1 | (dsimp only; walk1) | (leave1; walk_say "STEP leave1"; try dsimp only) | fail "no step")))
local macro_rules | `(tactic| walk_at "enterC") => `(tactic| (refine' code_defC ?k1 ?k2 ?k3 ?k4 ?k5 ?kA ?kF ?kK ?k6 ?k7 ?k8 ?k9 ?kB ?kD ?_ ?c2 ?c3 ?c4; (case kA => exact rfl); (case kF => exact rfl); (case kK => assumption); (case k1 => k_asm); (case k2 => k_asm); (case k3 => k_asm); (case k4 => k_asm); (case k5 => k_asm); (case k6 => k_is); (case k7 => k_is); (case k8 => ktr_room); (case k9 => exact BindsTo.of_eq rfl); (case kB => exact rfl); (case kD => decide +kernel); (case c2 => exact rfl); (case c3 => exact rfl); (case c4 => exact rfl); k_whole; intro g' L' h' tk' cells' FG' F' N' Y' B' X' T' l1; (try k_lt l1); k_cells Y'; (try simp only [List.cons_append, List.nil_append] at N'); (try dsimp only); (try k_lift B'); (try k_fold)))
local macro_rules | `(tactic| walk_at "use") => `(tactic| ((case k1 => k_asm); (case k2 => k_asm); (case k3 => k_asm); (case k4 => k_asm); (case k5 => k_asm); (case kK => first | exact rfl | assumption); (case kd => ktr_room); (case ku => ktr_units)))
local macro_rules | `(tactic| walk_at "useB") => `(tactic| (walk_at "use"; intro r9 tl9 h9 tk9 F9 N9 p9; obtain ⟨e9, e8⟩ := p9; subst e9 e8; rw [List.nil_append] at N9; (try dsimp only); (try k_fold)))
local macro_rules | `(tactic| walk_at "useS") => `(tactic| (walk_at "use"; intro r9 tl9 h9 tk9 F9 N9 p9; obtain ⟨⟨t9, e9⟩, e8⟩ := p9; subst e9 e8; rw [List.nil_append] at N9; (try dsimp only); (try k_fold)))
local macro_rules | `(tactic| walk_at "call ref") => `(tactic| (k_here; first
  | (k_dflt (refine' Claim.use (joins_on_c _ _ _ _) ?k1 ?k2 ?k3 ?k4 ?k5 ?kK ?kd ?ku ?_); walk_at "useB")
  | (k_dflt (refine' Claim.use (joins_back_c _ _ _ _) ?k1 ?k2 ?k3 ?k4 ?k5 ?kK ?kd ?ku ?_); walk_at "useB")
  | (k_dflt (refine' Claim.use (form_of_c _ _ _ _) ?k1 ?k2 ?k3 ?k4 ?k5 ?kK ?kd ?ku ?_); walk_at "useS")
  | (k_dflt (refine' Claim.use (joining_type_c _ _ _ _) ?k1 ?k2 ?k3 ?k4 ?k5 ?kK ?kd ?ku ?_); walk_at "useS")))
local macro_rules | `(tactic| walk_at "lt") => `(tactic| first | assumption | exact allLt_of (by assumption) | exact And.right (by assumption) | exact And.right (And.right (by assumption)) | exact And.right (And.right (And.right (by assumption))))
local macro_rules | `(tactic| k_all) => `(tactic| first | assumption | exact off1_ne (by assumption) | exact ne_up0 (by walk_at "lt") | exact ne_up1 (by walk_at "lt") | exact ne_up2 (by walk_at "lt") | exact ne_up3 (by walk_at "lt"))
local macro_rules | `(tactic| k_mem) => `(tactic| first | assumption | exact List.mem_append.mpr (Or.inr (by assumption)) | exact List.mem_append.mpr (Or.inl (by assumption)) | exact List.mem_append.mpr (Or.inr (List.mem_append.mpr (Or.inr (by assumption)))))
local macro_rules | `(tactic| size_fits) => `(tactic| ((simp only [List.size_toArray, List.length_append, List.length_cons, List.length_nil, PySem.sizeLine_eq]); omega))
local macro_rules | `(tactic| walk_at "idx") => `(tactic| first | omega | ((try simp only [Int.zero_add]); omega))
local macro_rules | `(tactic| walk_at "subscriptTail Name Name ref int") => `(tactic| (k_here; (with_reducible show wpAny _ _ (subscriptTail _ _ (Value.ref _) (Value.int _ _)) _ _ _); k_dflt (refine' item_strs ?N ?m ?w ?h0 ?h1 ?hf ?_; (case N => k_asm); (case m => k_mem); (case w => assumption); (case h0 => walk_at "idx"); (case h1 => walk_at "idx"); (case hf => walk_at "idx")); intro t9; (try simp only [Int.toNat_natCast]); (try dsimp only)))
local macro_rules | `(tactic| walk_at "call builtin:len") => `(tactic| (k_here; (with_reducible show wpAny _ _ (call (Value.builtin "len") [Value.ref _]) _ _ _); k_dflt (refine' len_listAny ?N ?m ?c ?f ?_; (case N => k_asm); (case m => k_mem); (case c => first | exact Eq.trans List.size_toArray (PyProof.Rows.StrsAre.length (by assumption)) | exact Eq.trans List.size_toArray (IntsAre.length (by assumption)) | exact Eq.trans List.size_toArray (LSm.BoolsAre.length (by assumption))); (case f => omega)); (try dsimp only)))
local macro_rules | `(tactic| walk_at "setItem ref int") => `(tactic| (k_here; (with_reducible show wpAny _ _ (setItem (Value.ref _) (Value.int _ _) (Value.bool _)) _ _ _); k_dflt (refine' kbo_set ?F ?N ?U ?hb ?h0 ?h1 ?hf ?_; (case F => k_asm); (case N => k_asm); (case U => k_upd); (case hb => assumption); (case h0 => walk_at "idx"); (case h1 => walk_at "idx"); (case hf => walk_at "idx")); intro h' F' N' hb' hl'; (try k_sweep); (try dsimp only)))
local macro_rules | `(tactic| walk_at "subscriptTail Name Name ref int") => `(tactic| (k_here; (with_reducible show wpAny _ _ (subscriptTail _ _ (Value.ref _) (Value.int _ _)) _ _ _); k_dflt (refine' kbo_sub ?N ?m ?w ?h0 ?h1 ?hf ?_; (case N => k_asm); (case m => k_mem); (case w => assumption); (case h0 => walk_at "idx"); (case h1 => walk_at "idx"); (case hf => walk_at "idx")); (try simp only [Int.toNat_natCast]); (try dsimp only)))
local macro_rules | `(tactic| walk_at "strs") => `(tactic| first | assumption | exact StrsAre.cons _ _ (StrsAre.cons _ _ (StrsAre.cons _ _ (StrsAre.cons _ _ StrsAre.nil))))
local macro_rules | `(tactic| walk_at "call ref") => `(tactic| (k_here; k_dflt (refine' Claim.use (forms_of_c _ _ _ _ _ _ ?hl ?hi ?hn) ?k1 ?k2 ?k3 ?k4 ?k5 ?kK ?kd ?ku ?_; walk_at "use"; (case hl => k_mem); (case hi => walk_at "strs"); (case hn => first | decide | walk_at "len")); intro r9 tl9 h9 tk9 F9 N9 p9; obtain ⟨D9, us9, n9, e9, e8, S9, O9⟩ := p9; subst e9 e8; rw [List.singleton_append] at N9; (try dsimp only); (try k_fold)))
local macro_rules | `(tactic| walk_at "len") => `(tactic| first | assumption | omega | ((try simp only [List.length_map, List.length_append, List.length_take, List.length_drop, List.length_cons, List.length_nil, formsOf_length]); omega))
local macro_rules | `(tactic| walk_at "call ref") => `(tactic| (k_here; k_dflt (refine' Claim.use (runs_right_c _ _ _ _ _ _ ?hl ?hi ?hn) ?k1 ?k2 ?k3 ?k4 ?k5 ?kK ?kd ?ku ?_; walk_at "use"; (case hl => k_mem); (case hi => walk_at "strs"); (case hn => walk_at "len")); intro r9 tl9 h9 tk9 F9 N9 p9; obtain ⟨e9, e8⟩ := p9; subst e9 e8; rw [List.nil_append] at N9; (try dsimp only); (try k_fold)))
local macro_rules | `(tactic| walk_at "call builtin:list.count") => `(tactic| (k_here; (with_reducible show wpAny _ _ (call (Value.builtin _) [Value.ref _, Value.str _ _]) _ _ _); k_dflt (refine count_list_strs (by is_list) (by assumption) ?_)))
local macro_rules | `(tactic| walk_at "call builtin:len") => `(tactic| (k_here; (with_reducible show wpAny _ _ (call (Value.builtin "len") [Value.ref _]) _ _ _); k_dflt (refine' len_listAny ?N ?m ?c ?f ?_; (case N => k_asm); (case m => k_mem); (case c => first | exact Eq.trans List.size_toArray (PyProof.Rows.StrsAre.length (by assumption)) | exact Eq.trans List.size_toArray (IntsAre.length (by assumption)) | exact Eq.trans List.size_toArray (LSm.BoolsAre.length (by assumption))); (case f => walk_at "len")); (try dsimp only)))
theorem seg8 {w : World} {mean : ExcName → Option Value} {mg mb : Str → Option Value} {h₀ h : Heap} {L fa Df Dt Dc : Addr} {cd : Value} {m0 : Str → Option Value} {cs : List Int} {usF usT usC : List Value} {nF nT nC : Nat} {c3 c2 c1 : Obj} {base : Led} {Q : Flow → Shared → Prop} {E : Value → Shared → Prop} {s : Shared} {tk : Nat} {Ds : Addr} {usS : List Value} {nS : Nat}
    (S : Stand w mean mg mb h₀ L cs) (Bs : Base Df Dt Dc L usF usT usC nF nT nC c3 c2 c1 cs base) (hS : IntsAre usS ((seenL (cs.map tyOf)).map Int.ofNat))
    (F : Fr h₀ L h (fun y => if y = Str.ofString "seen" then some (.ref Ds) else if y = Str.ofString "codes" then some (.ref Dc) else m0 y)) (N : News h₀ L h ((Ds, listOf usS.toArray nS) :: base))
    (hnext : ∀ v h' tk', Fr h₀ L h' (fun y => if y = Str.ofString "bare" then v else (fun y => if y = Str.ofString "seen" then some (.ref Ds) else if y = Str.ofString "codes" then some (.ref Dc) else m0 y) y) → News h₀ L h' ((Ds, listOf usS.toArray nS) :: base) → Runs 10 w L fa cd Q E s h' tk') : Runs 8 w L fa cd Q E s h tk := by
  obtain ⟨B, X, T, hlen⟩ := S
  obtain ⟨rfl, hF, hT, hC, d3, d2⟩ := Bs
  have hFl := hF.length
  have hTl := hT.length
  rw [formsOf_length] at hFl
  rw [List.length_map] at hFl hTl
  have htl : (cs.map tyOf).length = cs.length := List.length_map _
  have hfl : (formsOf (cs.map tyOf)).length = cs.length := by rw [formsOf_length, List.length_map]
  revert X
  unfold Runs lawBody lawScope PySem.Challenge.pw_pb0153_01
  unfold Runs lawBody lawScope PySem.Challenge.pw_pb0153_01 at hnext
  dsimp only [lastOf, bodyOf, List.drop, scopeOf] at hnext ⊢
  k_fill
  intro X
  have hsl := seenL_len (cs.map tyOf)
  have hSl := hS.length
  rw [List.length_map] at hSl
  walk_at "go"
  refine LCg.ListComp_U (F₀ := by k_asm) (by with_unfolding_all rfl) (by decide) (by rfl) (by decide) (by rfl) ?_
  walk_at "go"
  refine LCg.CompSrc.ledger (by rfl) F N (by k_mem) (by simp only [List.size_toArray, sizeLine_eq]; omega) (fun g9 => ?_)
  refine crestS (fun i ys => StrsAre ys (((seenL (cs.map tyOf)).take i).map fun a => (cs.map tyOf).getD a (Str.ofString ""))) .nil ?turn ?fin
  case turn =>
    intro i ys v I2 oI C oC D2 m2 h2 tk2 E2 hlt hys hv hC' hm2 F3 N3 off ne
    simp only [List.getElem?_toArray] at hv
    obtain ⟨c, tc, rfl, hx⟩ := hS.at i v hv
    rw [List.getElem?_map] at hx
    obtain ⟨a, ha, rfl⟩ := Option.map_eq_some_iff.mp hx
    have hal := seen_lt (List.mem_of_getElem? ha)
    replace hm2 : m2 (Str.ofString "at") = some (.int (a : Int) tc) := hm2
    (try k_unmd); k_fold
    walk_at "go"
    refine LCg.CompEnd.intro (by assumption) (by assumption) _ (fun _ h => h) off (.inr ⟨_, by k_mem, rfl, _, rfl⟩) ⟨rfl, ?_⟩
    rw [List.take_add_one, ha, Option.toList_some, List.map_append, List.map_cons, List.map_nil]
    exact hys.append' (.cons _ _ .nil)
  intro ys1 hB1 D1 h1 tk1 F3 N3 o1
  rw [List.size_toArray, hSl, List.take_length] at hB1
  (try dsimp only)
  walk_at "go"
  refine LCg.ListComp_U (F₀ := by k_asm) (by with_unfolding_all rfl) (by decide) (by rfl) (by decide) (by rfl) ?_
  walk_at "go"
  (rename Fr _ _ _ _ => F5)
  (rename News _ _ _ _ => N5)
  refine LCg.CompSrc.ledger (by rfl) F5 N5 (by k_mem) (by simp only [List.size_toArray, sizeLine_eq]; omega) (fun g9 => ?_)
  refine crestS (fun i ys => StrsAre ys (((seenL (cs.map tyOf)).take i).map fun a => (formsOf (cs.map tyOf)).getD a (Str.ofString ""))) .nil ?turn2 ?fin2
  case turn2 =>
    intro i ys v I2 oI C oC D2 m2 h2 tk2 E2 hlt hys hv hC' hm2 F3 N3 off ne
    simp only [List.getElem?_toArray] at hv
    obtain ⟨c, tc, rfl, hx⟩ := hS.at i v hv
    rw [List.getElem?_map] at hx
    obtain ⟨a, ha, rfl⟩ := Option.map_eq_some_iff.mp hx
    have hal := seen_lt (List.mem_of_getElem? ha)
    replace hm2 : m2 (Str.ofString "at") = some (.int (a : Int) tc) := hm2
    (try k_unmd); k_fold
    walk_at "go"
    refine LCg.CompEnd.intro (by assumption) (by assumption) _ (fun _ h => h) off (.inr ⟨_, by k_mem, rfl, _, rfl⟩) ⟨rfl, ?_⟩
    rw [List.take_add_one, ha, Option.toList_some, List.map_append, List.map_cons, List.map_nil]
    exact hys.append' (.cons _ _ .nil)
  intro ys2 hB2 D2 h2 tk2 F6 N6 o2
  rw [List.size_toArray, hSl, List.take_length] at hB2
  (try dsimp only)
  walk_at "go"
  refine ne_strs_f N6 (by k_mem) (by k_mem) (by assumption) hB2 (forms_ok _) (p_bare _) (by ke_room) ?_
  have N7 := cb_drop N6 (news := [(Ds, listOf usS.toArray nS), (Df, listOf usF.toArray nF), (Dt, listOf usT.toArray nT), (Dc, listOf usC.toArray nC), (L + 1 + 1 + 1, c3), (L + 1 + 1, c2), (L + 1, c1)]) (fun p hp => .tail _ (.tail _ (.tail _ hp)))
  clear N6
  repeat' (first | ((with_reducible show wpAny _ _ (execs _ _) _ _ _); exact hnext _ _ _ (by assumption) (by assumption)) | walk_at "go1")
end
end Mine
end
section
theorem Mine.offS10 : True := by
  w_top off
  trivial
local macro_rules | `(tactic| walk_at "pad") => `(tactic| skip)
local macro_rules | `(tactic| walk_at "pad") => `(tactic| skip)
local macro_rules | `(tactic| walk_at "pad") => `(tactic| skip)
local macro_rules | `(tactic| walk_at "pad") => `(tactic| skip)
local macro_rules | `(tactic| walk_at "pad") => `(tactic| skip)
local macro_rules | `(tactic| walk_at "pad") => `(tactic| skip)
local macro_rules | `(tactic| walk_at "pad") => `(tactic| skip)
local macro_rules | `(tactic| walk_at "pad") => `(tactic| skip)
local macro_rules | `(tactic| walk_at "pad") => `(tactic| skip)
local macro_rules | `(tactic| walk_at "pad") => `(tactic| skip)
local macro_rules | `(tactic| walk_at "pad") => `(tactic| skip)
local macro_rules | `(tactic| walk_at "pad") => `(tactic| skip)
local macro_rules | `(tactic| walk_at "pad") => `(tactic| skip)
local macro_rules | `(tactic| walk_at "pad") => `(tactic| skip)
local macro_rules | `(tactic| walk_at "pad") => `(tactic| skip)
local macro_rules | `(tactic| walk_at "pad") => `(tactic| skip)
local macro_rules | `(tactic| walk_at "pad") => `(tactic| skip)
local macro_rules | `(tactic| walk_at "pad") => `(tactic| skip)
local macro_rules | `(tactic| walk_at "pad") => `(tactic| skip)
local macro_rules | `(tactic| walk_at "pad") => `(tactic| skip)
local macro_rules | `(tactic| walk_at "pad") => `(tactic| skip)
local macro_rules | `(tactic| walk_at "pad") => `(tactic| skip)
local macro_rules | `(tactic| walk_at "pad") => `(tactic| skip)
local macro_rules | `(tactic| walk_at "pad") => `(tactic| skip)
local macro_rules | `(tactic| walk_at "pad") => `(tactic| skip)
local macro_rules | `(tactic| walk_at "pad") => `(tactic| skip)
local macro_rules | `(tactic| walk_at "pad") => `(tactic| skip)
local macro_rules | `(tactic| walk_at "pad") => `(tactic| skip)
local macro_rules | `(tactic| walk_at "pad") => `(tactic| skip)
local macro_rules | `(tactic| walk_at "pad") => `(tactic| skip)
local macro_rules | `(tactic| walk_at "pad") => `(tactic| skip)
local macro_rules | `(tactic| walk_at "pad") => `(tactic| skip)
local macro_rules | `(tactic| walk_at "pad") => `(tactic| skip)
local macro_rules | `(tactic| walk_at "pad") => `(tactic| skip)
local macro_rules | `(tactic| walk_at "pad") => `(tactic| skip)
local macro_rules | `(tactic| walk_at "pad") => `(tactic| skip)
local macro_rules | `(tactic| walk_at "pad") => `(tactic| skip)
local macro_rules | `(tactic| walk_at "pad") => `(tactic| skip)
local macro_rules | `(tactic| walk_at "pad") => `(tactic| skip)
local macro_rules | `(tactic| walk_at "pad") => `(tactic| skip)
open PySem PySem.W PyProof.Rows PyProof.V
namespace Mine
section
local macro_rules | `(tactic| walk_at "stop") => `(tactic| first
  | (with_reducible show wpAny _ _ (exec (Stmt.For _ _ _ _ _) _) _ _ _)
  | (with_reducible show wpAny _ _ (pyIter _) _ _ _)
  | (with_reducible show wpAny _ _ (compareOp _ (Value.ref _) (Value.ref _)) _ _ _)
  | (with_reducible show LCg.CompSrc _ _ _ _ _ _ _ _ _ _ _ _ _ _)
  | (with_reducible show LCt.CompSrcT _ _ _ _ _ _ _ _ _ _ _ _ _ _ _)
  | (with_reducible show wpAny _ _ (eval (Expr.ListComp _ _ _ _) _) _ _ _)
  | (with_reducible show wpAny _ _ (exec (Stmt.Assign _ (Expr.ListComp _ _ _ _) _) _) _ _ _))
local macro_rules | `(tactic| walk_at "go1") => `(tactic| (first | (k_unfold; (try dsimp only)) | ((fail_if_success walk_at "stop"); first | (k_end; wrow_close) | walk1 | (dsimp only; walk1) | (leave1; walk_say "STEP leave1"; try dsimp only) | fail "no step")))
local macro_rules | `(tactic| walk_at "go") => `(tactic| repeat' (first | (k_unfold; (try dsimp only)) | ((fail_if_success walk_at "stop"); first | (k_end; wrow_close) | walk1 | (dsimp only; walk1) | (leave1; walk_say "STEP leave1"; try dsimp only) | fail "no step")))
local macro_rules | `(tactic| walk_at "enterC") => `(tactic| (refine' code_defC ?k1 ?k2 ?k3 ?k4 ?k5 ?kA ?kF ?kK ?k6 ?k7 ?k8 ?k9 ?kB ?kD ?_ ?c2 ?c3 ?c4; (case kA => exact rfl); (case kF => exact rfl); (case kK => assumption); (case k1 => k_asm); (case k2 => k_asm); (case k3 => k_asm); (case k4 => k_asm); (case k5 => k_asm); (case k6 => k_is); (case k7 => k_is); (case k8 => ktr_room); (case k9 => exact BindsTo.of_eq rfl); (case kB => exact rfl); (case kD => decide +kernel); (case c2 => exact rfl); (case c3 => exact rfl); (case c4 => exact rfl); k_whole; intro g' L' h' tk' cells' FG' F' N' Y' B' X' T' l1; (try k_lt l1); k_cells Y'; (try simp only [List.cons_append, List.nil_append] at N'); (try dsimp only); (try k_lift B'); (try k_fold)))
local macro_rules | `(tactic| walk_at "use") => `(tactic| ((case k1 => k_asm); (case k2 => k_asm); (case k3 => k_asm); (case k4 => k_asm); (case k5 => k_asm); (case kK => first | exact rfl | assumption); (case kd => ktr_room); (case ku => ktr_units)))
local macro_rules | `(tactic| walk_at "useB") => `(tactic| (walk_at "use"; intro r9 tl9 h9 tk9 F9 N9 p9; obtain ⟨e9, e8⟩ := p9; subst e9 e8; rw [List.nil_append] at N9; (try dsimp only); (try k_fold)))
local macro_rules | `(tactic| walk_at "useS") => `(tactic| (walk_at "use"; intro r9 tl9 h9 tk9 F9 N9 p9; obtain ⟨⟨t9, e9⟩, e8⟩ := p9; subst e9 e8; rw [List.nil_append] at N9; (try dsimp only); (try k_fold)))
local macro_rules | `(tactic| walk_at "call ref") => `(tactic| (k_here; first
  | (k_dflt (refine' Claim.use (joins_on_c _ _ _ _) ?k1 ?k2 ?k3 ?k4 ?k5 ?kK ?kd ?ku ?_); walk_at "useB")
  | (k_dflt (refine' Claim.use (joins_back_c _ _ _ _) ?k1 ?k2 ?k3 ?k4 ?k5 ?kK ?kd ?ku ?_); walk_at "useB")
  | (k_dflt (refine' Claim.use (form_of_c _ _ _ _) ?k1 ?k2 ?k3 ?k4 ?k5 ?kK ?kd ?ku ?_); walk_at "useS")
  | (k_dflt (refine' Claim.use (joining_type_c _ _ _ _) ?k1 ?k2 ?k3 ?k4 ?k5 ?kK ?kd ?ku ?_); walk_at "useS")))
local macro_rules | `(tactic| walk_at "lt") => `(tactic| first | assumption | exact allLt_of (by assumption) | exact And.right (by assumption) | exact And.right (And.right (by assumption)) | exact And.right (And.right (And.right (by assumption))))
local macro_rules | `(tactic| k_all) => `(tactic| first | assumption | exact off1_ne (by assumption) | exact ne_up0 (by walk_at "lt") | exact ne_up1 (by walk_at "lt") | exact ne_up2 (by walk_at "lt") | exact ne_up3 (by walk_at "lt"))
local macro_rules | `(tactic| k_mem) => `(tactic| first | assumption | exact List.mem_append.mpr (Or.inr (by assumption)) | exact List.mem_append.mpr (Or.inl (by assumption)) | exact List.mem_append.mpr (Or.inr (List.mem_append.mpr (Or.inr (by assumption)))))
local macro_rules | `(tactic| size_fits) => `(tactic| ((simp only [List.size_toArray, List.length_append, List.length_cons, List.length_nil, PySem.sizeLine_eq]); omega))
local macro_rules | `(tactic| walk_at "idx") => `(tactic| first | omega | ((try simp only [Int.zero_add]); omega))
local macro_rules | `(tactic| walk_at "subscriptTail Name Name ref int") => `(tactic| (k_here; (with_reducible show wpAny _ _ (subscriptTail _ _ (Value.ref _) (Value.int _ _)) _ _ _); k_dflt (refine' item_strs ?N ?m ?w ?h0 ?h1 ?hf ?_; (case N => k_asm); (case m => k_mem); (case w => assumption); (case h0 => walk_at "idx"); (case h1 => walk_at "idx"); (case hf => walk_at "idx")); intro t9; (try simp only [Int.toNat_natCast]); (try dsimp only)))
local macro_rules | `(tactic| walk_at "call builtin:len") => `(tactic| (k_here; (with_reducible show wpAny _ _ (call (Value.builtin "len") [Value.ref _]) _ _ _); k_dflt (refine' len_listAny ?N ?m ?c ?f ?_; (case N => k_asm); (case m => k_mem); (case c => first | exact Eq.trans List.size_toArray (PyProof.Rows.StrsAre.length (by assumption)) | exact Eq.trans List.size_toArray (IntsAre.length (by assumption)) | exact Eq.trans List.size_toArray (LSm.BoolsAre.length (by assumption))); (case f => omega)); (try dsimp only)))
local macro_rules | `(tactic| walk_at "setItem ref int") => `(tactic| (k_here; (with_reducible show wpAny _ _ (setItem (Value.ref _) (Value.int _ _) (Value.bool _)) _ _ _); k_dflt (refine' kbo_set ?F ?N ?U ?hb ?h0 ?h1 ?hf ?_; (case F => k_asm); (case N => k_asm); (case U => k_upd); (case hb => assumption); (case h0 => walk_at "idx"); (case h1 => walk_at "idx"); (case hf => walk_at "idx")); intro h' F' N' hb' hl'; (try k_sweep); (try dsimp only)))
local macro_rules | `(tactic| walk_at "subscriptTail Name Name ref int") => `(tactic| (k_here; (with_reducible show wpAny _ _ (subscriptTail _ _ (Value.ref _) (Value.int _ _)) _ _ _); k_dflt (refine' kbo_sub ?N ?m ?w ?h0 ?h1 ?hf ?_; (case N => k_asm); (case m => k_mem); (case w => assumption); (case h0 => walk_at "idx"); (case h1 => walk_at "idx"); (case hf => walk_at "idx")); (try simp only [Int.toNat_natCast]); (try dsimp only)))
local macro_rules | `(tactic| walk_at "strs") => `(tactic| first | assumption | exact StrsAre.cons _ _ (StrsAre.cons _ _ (StrsAre.cons _ _ (StrsAre.cons _ _ StrsAre.nil))))
local macro_rules | `(tactic| walk_at "call ref") => `(tactic| (k_here; k_dflt (refine' Claim.use (forms_of_c _ _ _ _ _ _ ?hl ?hi ?hn) ?k1 ?k2 ?k3 ?k4 ?k5 ?kK ?kd ?ku ?_; walk_at "use"; (case hl => k_mem); (case hi => walk_at "strs"); (case hn => first | decide | walk_at "len")); intro r9 tl9 h9 tk9 F9 N9 p9; obtain ⟨D9, us9, n9, e9, e8, S9, O9⟩ := p9; subst e9 e8; rw [List.singleton_append] at N9; (try dsimp only); (try k_fold)))
local macro_rules | `(tactic| walk_at "len") => `(tactic| first | assumption | omega | ((try simp only [List.length_map, List.length_append, List.length_take, List.length_drop, List.length_cons, List.length_nil, formsOf_length]); omega))
local macro_rules | `(tactic| walk_at "call ref") => `(tactic| (k_here; k_dflt (refine' Claim.use (runs_right_c _ _ _ _ _ _ ?hl ?hi ?hn) ?k1 ?k2 ?k3 ?k4 ?k5 ?kK ?kd ?ku ?_; walk_at "use"; (case hl => k_mem); (case hi => walk_at "strs"); (case hn => walk_at "len")); intro r9 tl9 h9 tk9 F9 N9 p9; obtain ⟨e9, e8⟩ := p9; subst e9 e8; rw [List.nil_append] at N9; (try dsimp only); (try k_fold)))
local macro_rules | `(tactic| walk_at "call builtin:list.count") => `(tactic| (k_here; (with_reducible show wpAny _ _ (call (Value.builtin _) [Value.ref _, Value.str _ _]) _ _ _); k_dflt (refine count_list_strs (by is_list) (by assumption) ?_)))
local macro_rules | `(tactic| walk_at "call builtin:len") => `(tactic| (k_here; (with_reducible show wpAny _ _ (call (Value.builtin "len") [Value.ref _]) _ _ _); k_dflt (refine' len_listAny ?N ?m ?c ?f ?_; (case N => k_asm); (case m => k_mem); (case c => first | exact Eq.trans List.size_toArray (PyProof.Rows.StrsAre.length (by assumption)) | exact Eq.trans List.size_toArray (IntsAre.length (by assumption)) | exact Eq.trans List.size_toArray (LSm.BoolsAre.length (by assumption))); (case f => walk_at "len")); (try dsimp only)))
local macro_rules | `(tactic| walk_at "call ref") => `(tactic| (k_here; (k_dflt (refine' Claim.use (joined_pairs_c _ _ _ _ _ _ ?hl ?hi ?hn) ?k1 ?k2 ?k3 ?k4 ?k5 ?kK ?kd ?ku ?_); walk_at "use"; (case hl => k_mem); (case hi => assumption); (case hn => walk_at "len"); intro r9 tl9 h9 tk9 F9 N9 p9; obtain ⟨D9, us9, n9, tups9, e9, e8, P9, O9, A9⟩ := p9; subst e9 e8; rw [List.cons_append] at N9; (try dsimp only); (try k_fold))))
local macro_rules | `(tactic| walk_at "stop") => `(tactic| (with_reducible show wpAny _ _ (call (Value.type "zip") _) _ _ _))
theorem two_more {m : Str → Option Value} {a b : Str} (_ : a ≠ b) (_ : b ≠ a) : m = fun y => if y = a then m a else if y = b then m b else m y := by
  funext y
  by_cases h : y = a
  · subst h; simp
  · by_cases h' : y = b
    · subst h'; simp [h]
    · simp [h, h']
theorem two_dup {R : Str → Option Value} {a b : Str} {u v u1 u2 : Option Value} : (fun y => if y = a then v else if y = b then u else if y = a then u2 else if y = b then u1 else R y) = fun y => if y = a then v else if y = b then u else R y := by
  funext y
  by_cases h1 : y = a
  · simp only [if_pos h1]
  · by_cases h2 : y = b
    · simp only [if_neg h1, if_pos h2]
    · simp only [if_neg h1, if_neg h2]
theorem mem_rot {α : Type} {q x y : α} {A t : List α} : ∀ p ∈ A ++ (q :: t), p ∈ q :: x :: y :: (A ++ t) := by
  intro p hp
  rcases List.mem_append.mp hp with h | h
  · exact .tail _ (.tail _ (.tail _ (List.mem_append_left _ h)))
  · rcases List.mem_cons.mp h with rfl | h
    · exact .head _
    · exact .tail _ (.tail _ (.tail _ (List.mem_append_right _ h)))
theorem apart5 {I : Addr} {o0 o1 o2 o3 o4 : Obj} {lits t : Led} (hI : ∀ b ∈ List.map (·.1) lits, b < I)
    (ht : (∀ p ∈ t, p.1 ≠ I + 4) ∧ (∀ p ∈ t, p.1 ≠ I + 2) ∧ (∀ p ∈ t, p.1 ≠ I + 3) ∧ (∀ p ∈ t, p.1 ≠ I) ∧ (∀ p ∈ t, p.1 ≠ I + 1)) :
    ∀ p ∈ lits ++ t, ∀ q ∈ [(I + 4, o4), (I + 2, o2), (I + 3, o3), (I, o0), (I + 1, o1)], p.1 ≠ q.1 := by
  intro p hp q hq
  have key : p.1 ≠ I + 4 ∧ p.1 ≠ I + 2 ∧ p.1 ≠ I + 3 ∧ p.1 ≠ I ∧ p.1 ≠ I + 1 := by
    rcases List.mem_append.mp hp with h | h
    · have := hI p.1 (List.mem_map_of_mem (f := (·.1)) h)
      exact ⟨Nat.ne_of_lt (Nat.lt_of_lt_of_le this (Nat.le_add_right _ _)), Nat.ne_of_lt (Nat.lt_of_lt_of_le this (Nat.le_add_right _ _)), Nat.ne_of_lt (Nat.lt_of_lt_of_le this (Nat.le_add_right _ _)), Nat.ne_of_lt this, Nat.ne_of_lt (Nat.lt_of_lt_of_le this (Nat.le_add_right _ _))⟩
    · exact ⟨ht.1 p h, ht.2.1 p h, ht.2.2.1 p h, ht.2.2.2.1 p h, ht.2.2.2.2 p h⟩
  simp only [List.mem_cons, List.not_mem_nil, or_false] at hq
  rcases hq with rfl | rfl | rfl | rfl | rfl
  · exact key.1
  · exact key.2.1
  · exact key.2.2.1
  · exact key.2.2.2.1
  · exact key.2.2.2.2
theorem due_yes {fs : List Str} {Z : List (Nat × Nat)} {i a b : Nat} (hz : Z[i]? = some (a, b)) (h1 : ([Str.ofString "init", Str.ofString "medi"].any fun y => y == fs.getD a (Str.ofString "")) = true) (h2 : ([Str.ofString "medi", Str.ofString "fina"].any fun y => y == fs.getD b (Str.ofString "")) = true) :
    (((Z.take (i + 1)).filter (dueOn fs)).map fun p => ((p.1 : Int), (p.2 : Int))) = (((Z.take i).filter (dueOn fs)).map fun p => ((p.1 : Int), (p.2 : Int))) ++ [((a : Int), (b : Int))] := by
  have e : dueOn fs (a, b) = true := by unfold dueOn; rw [h1, h2]; rfl
  have e2 : List.filter (dueOn fs) [(a, b)] = [(a, b)] := by simp only [List.filter_cons, e, if_true, List.filter_nil]
  rw [List.take_add_one, hz, Option.toList_some, List.filter_append, e2, List.map_append]
  rfl
theorem due_no {fs : List Str} {Z : List (Nat × Nat)} {i a b : Nat} (hz : Z[i]? = some (a, b)) (h : ([Str.ofString "init", Str.ofString "medi"].any fun y => y == fs.getD a (Str.ofString "")) = false ∨ ([Str.ofString "medi", Str.ofString "fina"].any fun y => y == fs.getD b (Str.ofString "")) = false) :
    (((Z.take (i + 1)).filter (dueOn fs)).map fun p => ((p.1 : Int), (p.2 : Int))) = (((Z.take i).filter (dueOn fs)).map fun p => ((p.1 : Int), (p.2 : Int))) := by
  have e : dueOn fs (a, b) = false := by
    unfold dueOn
    rcases h with h | h
    · rw [h]; rfl
    · rw [h, Bool.and_false]
  have e2 : List.filter (dueOn fs) [(a, b)] = [] := by simp only [List.filter_cons, e, Bool.false_eq_true, if_false, List.filter_nil]
  rw [List.take_add_one, hz, Option.toList_some, List.filter_append, e2, List.append_nil]
theorem zip_at : ∀ (xs ys : List Value) (i : Nat) (a : Itm), (zipItems xs ys)[i]? = some a → ∃ x y, xs[i]? = some x ∧ ys[i]? = some y ∧ a = .pair (fun _ => x) y := by
  intro xs ys i a h
  have hi := (List.getElem?_eq_some_iff.mp h).1
  rw [zipItems_length] at hi
  have h1 : i < xs.length := by omega
  have h2 : i < ys.length := by omega
  refine ⟨xs[i], ys[i], List.getElem?_eq_getElem h1, List.getElem?_eq_getElem h2, ?_⟩
  have := zipItems_get xs ys i (List.getElem?_eq_getElem h1) (List.getElem?_eq_getElem h2)
  rw [this] at h
  exact (Option.some.inj h).symm
theorem seg10 {w : World} {mean : ExcName → Option Value} {mg mb : Str → Option Value} {h₀ h : Heap} {L fa Df Dt Dc : Addr} {cd : Value} {m0 : Str → Option Value} {cs : List Int} {usF usT usC : List Value} {nF nT nC : Nat} {c3 c2 c1 : Obj} {base : Led} {Q : Flow → Shared → Prop} {E : Value → Shared → Prop} {s : Shared} {tk : Nat} {Ds : Addr} {usS : List Value} {nS : Nat} {vB : Option Value}
    (S : Stand w mean mg mb h₀ L cs) (Bs : Base Df Dt Dc L usF usT usC nF nT nC c3 c2 c1 cs base) (hS : IntsAre usS ((seenL (cs.map tyOf)).map Int.ofNat)) (hPE : PassesOwn (model PySem.Challenge.rw_pb0153_01.row.toRowW.prog w) (callerA.deeper (envOfC (Str.ofString "law") lawScope L fa cd)) (envOfC (Str.ofString "law") lawScope L fa cd) E)
    (F : Fr h₀ L h (fun y => if y = Str.ofString "bare" then vB else if y = Str.ofString "seen" then some (.ref Ds) else if y = Str.ofString "codes" then some (.ref Dc) else m0 y)) (N : News h₀ L h ((Ds, listOf usS.toArray nS) :: base))
    (hnext : ∀ (m1 : Str → Option Value) h' tk', Fr h₀ L h' (fun y => if y = Str.ofString "codes" then some (.ref Dc) else m1 y) → News h₀ L h' base → Runs 13 w L fa cd Q E s h' tk') : Runs 10 w L fa cd Q E s h tk := by
  obtain ⟨B, X, T, hlen⟩ := S
  obtain ⟨rfl, hF, hT, hC, d3, d2⟩ := Bs
  have hFl := hF.length
  have hTl := hT.length
  rw [formsOf_length] at hFl
  rw [List.length_map] at hFl hTl
  have htl : (cs.map tyOf).length = cs.length := List.length_map _
  have hfl : (formsOf (cs.map tyOf)).length = cs.length := by rw [formsOf_length, List.length_map]
  revert X
  unfold Runs lawBody lawScope PySem.Challenge.pw_pb0153_01
  unfold Runs lawBody lawScope PySem.Challenge.pw_pb0153_01 at hnext
  unfold lawScope PySem.Challenge.pw_pb0153_01 at hPE
  dsimp only [lastOf, bodyOf, List.drop, scopeOf] at hnext hPE ⊢
  k_fill
  intro X
  have hsl := seenL_len (cs.map tyOf)
  have hSl := hS.length
  rw [List.length_map] at hSl
  walk_at "go"
  (rename Fr _ _ _ _ => F2)
  with_unfolding_all refine' For_turns F2 ?_ (hE := hPE)
  walk_at "go"
  (rename Fr _ _ _ _ => F3)
  (rename News _ _ _ _ => N3)
  obtain ⟨Dx, hDx⟩ := nm1 N3; subst hDx
  obtain ⟨Du, hDu⟩ := nm2 N3; subst hDu
  rename_i wsx lDu hLu hIx hCx hLx lDx
  have N4 : News h₀ L _ ((Du, listOf (List.toArray []) 0) :: (Dx, listOf wsx.toArray 0) :: (Ds, listOf usS.toArray nS) :: (Df, listOf usF.toArray nF) :: (Dt, listOf usT.toArray nT) :: (Dc, listOf usC.toArray nC) :: (L + 1 + 1 + 1, c3) :: (L + 1 + 1, c2) :: (L + 1, c1) :: []) := cb_drop N3 (by
    intro p hp
    rcases List.mem_cons.mp hp with rfl | hp
    · exact .tail _ (.head _)
    · rcases List.mem_cons.mp hp with rfl | hp
      · exact .head _
      · exact .tail _ (.tail _ hp))
  refine ktu_zip (lo1 := listOf usS.toArray nS) (lo2 := listOf wsx.toArray 0) (xs := usS) (ys := wsx) (by rfl) F3 N4 (by k_mem) (by rfl) (by rfl) (by k_mem) (by rfl) (by rfl) ?_
  intro I lI
  clear F3 N3 N4
  have hI : ∀ b ∈ List.map (·.1) ((Du, listOf (List.toArray []) 0) :: (Dx, listOf wsx.toArray 0) :: (Ds, listOf usS.toArray nS) :: (Df, listOf usF.toArray nF) :: (Dt, listOf usT.toArray nT) :: (Dc, listOf usC.toArray nC) :: (L + 1 + 1 + 1, c3) :: (L + 1 + 1, c2) :: (L + 1, c1) :: []), b < I := by
    intro b hb
    obtain ⟨q, hq, rfl⟩ := List.mem_map.mp hb
    exact lI q hq
  have hZ : (zipItems usS wsx).length = ((seenL (cs.map tyOf)).zip (seenL (cs.map tyOf)).tail).length := by
    rw [zipItems_length, List.length_zip, hSl, hLu.length, List.length_drop, List.length_map, List.length_tail]
  refine itemsJ (fun i m nx => ∃ us k tups u1 u2, nx = (Du, listOf (List.toArray us) k) :: (Dx, listOf wsx.toArray 0) :: (Ds, listOf usS.toArray nS) :: (Df, listOf usF.toArray nF) :: (Dt, listOf usT.toArray nT) :: (Dc, listOf usC.toArray nC) :: (L + 1 + 1 + 1, c3) :: (L + 1 + 1, c2) :: (L + 1, c1) :: tups ∧ Pairs tups us (((((seenL (cs.map tyOf)).zip (seenL (cs.map tyOf)).tail).take i).filter (dueOn (formsOf (cs.map tyOf)))).map fun p => ((p.1 : Int), (p.2 : Int))) ∧ (∀ p ∈ tups, p.1 ≠ Du) ∧
    ((∀ p ∈ tups, p.1 ≠ I + 4) ∧ (∀ p ∈ tups, p.1 ≠ I + 2) ∧ (∀ p ∈ tups, p.1 ≠ I + 3) ∧ (∀ p ∈ tups, p.1 ≠ I) ∧ (∀ p ∈ tups, p.1 ≠ I + 1)) ∧
    m = fun y => if y = Str.ofString "other" then u2 else if y = Str.ofString "one" then u1 else if y = Str.ofString "due" then some (.ref Du) else if y = Str.ofString "bare" then vB else if y = Str.ofString "seen" then some (.ref Ds) else if y = Str.ofString "codes" then some (.ref Dc) else m0 y) ?h0 ?turn ?done
  case h0 =>
    refine ⟨[], 0, [], _, _, rfl, .nil, fun _ h => (nomatch h), ⟨fun _ h => (nomatch h), fun _ h => (nomatch h), fun _ h => (nomatch h), fun _ h => (nomatch h), fun _ h => (nomatch h)⟩, two_more (by decide) (by decide)⟩
  case turn =>
    rintro i x v m' nw h tk hx hv ⟨us, k, tups, u1, u2, rfl, hp, hoff, hap, rfl⟩ F8
    obtain ⟨x1, y1, hx1, hy1, rfl⟩ := zip_at _ _ _ _ hx
    obtain ⟨T1, t1, rfl, hT1⟩ := hv
    obtain ⟨c, tc, rfl, hc⟩ := hS.at i x1 hx1
    obtain ⟨d, td, rfl, hd⟩ := hLu.at i y1 hy1
    rw [List.getElem?_map] at hc
    rw [List.drop_one, ← List.map_tail, List.getElem?_map] at hd
    obtain ⟨a, ha, rfl⟩ := Option.map_eq_some_iff.mp hc
    obtain ⟨b, hb, rfl⟩ := Option.map_eq_some_iff.mp hd
    have hal := seen_lt (List.mem_of_getElem? ha)
    have hbl := seen_lt (List.mem_of_mem_tail (List.mem_of_getElem? hb))
    replace hT1 : IsTup h T1 #[.int (a : Int) tc, .int (b : Int) td] := hT1
    have hz : ((seenL (cs.map tyOf)).zip (seenL (cs.map tyOf)).tail)[i]? = some (a, b) := List.getElem?_zip_eq_some.mpr ⟨ha, hb⟩
    have hul := hp.length
    have hfl2 := List.length_filter_le (dueOn (formsOf (cs.map tyOf))) (((seenL (cs.map tyOf)).zip (seenL (cs.map tyOf)).tail).take i)
    rw [List.length_map] at hul
    rw [List.length_take, List.length_zip] at hfl2
    (try k_lt lI)
    ktu_objs
    (try dsimp only)
    k_fold
    walk_at "go"
    · (rename News _ _ _ _ => N10)
      obtain ⟨T9, hT9⟩ := nm1 N10; subst hT9
      rw [List.push_toArray] at N10
      obtain ⟨p1, hp1, N10⟩ := nmE1 N10
      have hp1' : p1.1 = T9 := by rw [hp1]
      (rename _ ∧ _ ∧ (I + 4 < T9) ∧ (I + 2 < T9) ∧ (I + 3 < T9) ∧ (I < T9) ∧ (I + 1 < T9) ∧ (Du < T9) ∧ _ => lT)
      have ho5 : ∀ k, I + k < T9 → ∀ t : Led, (∀ p ∈ t, p.1 ≠ I + k) → ∀ p ∈ p1 :: t, p.1 ≠ I + k := fun k hk t ht => List.forall_mem_cons.mpr ⟨by rw [hp1']; exact Nat.ne_of_gt hk, ht⟩
      refine ⟨_, _, _, (Du, listOf (us ++ [Value.ref T9]).toArray (k + 1)) :: (Dx, listOf wsx.toArray 0) :: (Ds, listOf usS.toArray nS) :: (Df, listOf usF.toArray nF) :: (Dt, listOf usT.toArray nT) :: (Dc, listOf usC.toArray nC) :: (L + 1 + 1 + 1, c3) :: (L + 1 + 1, c2) :: (L + 1, c1) :: (p1 :: tups), rfl, by assumption, cb_drop N10 (fun p hp => ?_), ?_, ⟨.tail _ (.tail _ (.head _)), .tail _ (.head _), trivial⟩, us ++ [Value.ref T9], k + 1, p1 :: tups, some (.int (a : Int) tc), some (.int (b : Int) td), rfl, ?_, ?_, ⟨ho5 4 lT.2.2.1 _ hap.1, ho5 2 lT.2.2.2.1 _ hap.2.1, ho5 3 lT.2.2.2.2.1 _ hap.2.2.1, ho5 0 lT.2.2.2.2.2.1 _ hap.2.2.2.1, ho5 1 lT.2.2.2.2.2.2.1 _ hap.2.2.2.2⟩, two_dup⟩
      · exact mem_rot (A := [_, _, _, _, _, _, _, _, _, _, _, _, _, _]) p hp
      · exact apart5 (lits := [(Du, _), (Dx, _), (Ds, _), (Df, _), (Dt, _), (Dc, _), (L + 1 + 1 + 1, _), (L + 1 + 1, _), (L + 1, _)]) hI ⟨ho5 4 lT.2.2.1 _ hap.1, ho5 2 lT.2.2.2.1 _ hap.2.1, ho5 3 lT.2.2.2.2.1 _ hap.2.2.1, ho5 0 lT.2.2.2.2.2.1 _ hap.2.2.2.1, ho5 1 lT.2.2.2.2.2.2.1 _ hap.2.2.2.2⟩
      · rw [due_yes hz (by assumption) (by assumption)]
        exact (hp.mono fun p hp => .tail _ hp).snoc (by rw [← hp1]; exact .head _)
      · exact List.forall_mem_cons.mpr ⟨by rw [hp1']; exact Nat.ne_of_gt lT.2.2.2.2.2.2.2.1, hoff⟩
    · (rename News _ _ _ _ => N10)
      refine ⟨_, _, _, (Du, listOf us.toArray k) :: (Dx, listOf wsx.toArray 0) :: (Ds, listOf usS.toArray nS) :: (Df, listOf usF.toArray nF) :: (Dt, listOf usT.toArray nT) :: (Dc, listOf usC.toArray nC) :: (L + 1 + 1 + 1, c3) :: (L + 1 + 1, c2) :: (L + 1, c1) :: tups, rfl, by assumption, cb_drop N10 (fun p hp => .tail _ (.tail _ hp)), apart5 (lits := [(Du, _), (Dx, _), (Ds, _), (Df, _), (Dt, _), (Dc, _), (L + 1 + 1 + 1, _), (L + 1 + 1, _), (L + 1, _)]) hI hap, ⟨.tail _ (.tail _ (.head _)), .tail _ (.head _), trivial⟩, us, k, tups, some (.int (a : Int) tc), some (.int (b : Int) td), rfl, ?_, hoff, hap, two_dup⟩
      rw [due_no hz (by first | exact .inl (by assumption) | exact .inr (by assumption))]
      exact hp
    · (rename News _ _ _ _ => N10)
      refine ⟨_, _, _, (Du, listOf us.toArray k) :: (Dx, listOf wsx.toArray 0) :: (Ds, listOf usS.toArray nS) :: (Df, listOf usF.toArray nF) :: (Dt, listOf usT.toArray nT) :: (Dc, listOf usC.toArray nC) :: (L + 1 + 1 + 1, c3) :: (L + 1 + 1, c2) :: (L + 1, c1) :: tups, rfl, by assumption, cb_drop N10 (fun p hp => .tail _ hp), apart5 (lits := [(Du, _), (Dx, _), (Ds, _), (Df, _), (Dt, _), (Dc, _), (L + 1 + 1 + 1, _), (L + 1 + 1, _), (L + 1, _)]) hI hap, ⟨.tail _ (.tail _ (.head _)), .tail _ (.head _), trivial⟩, us, k, tups, some (.int (a : Int) tc), some (.int (b : Int) td), rfl, ?_, hoff, hap, two_dup⟩
      rw [due_no hz (by first | exact .inl (by assumption) | exact .inr (by assumption))]
      exact hp
  case done =>
    rintro m' nw h tk ⟨us, k, tups, u1, u2, rfl, hp, hoff, hap, rfl⟩ F8 N8
    rw [hZ, List.take_length] at hp
    clear lI hI hap hoff hZ
    (try dsimp only)
    iterate 10 (walk_at "go1")
    k_here
    (k_dflt (refine' Claim.use (joined_pairs_c _ _ _ _ _ _ (.tail _ (.tail _ (.tail _ (.tail _ (.head _))))) hT ?hn) ?k1 ?k2 ?k3 ?k4 ?k5 ?kK ?kd ?ku ?_))
    walk_at "use"
    (case hn => walk_at "len")
    intro r9 tl9 h9 tk9 F9 N9 p9; obtain ⟨D9, us9, n9, tups9, e9, e8, P9, O9, A9⟩ := p9; subst e9 e8; rw [List.cons_append] at N9; (try dsimp only); (try k_fold)
    walk_at "go"
    (rename News _ _ _ _ => N11)
    refine ne_pairs_f N11 (.head _) (.tail _ (List.mem_append.mpr (.inr (.head _)))) (P9.mono fun p hp => .tail _ (List.mem_append_left _ hp)) (hp.mono fun p hp => .tail _ (List.mem_append.mpr (.inr (.tail _ (.tail _ (.tail _ (.tail _ (.tail _ (.tail _ (.tail _ (.tail _ (.tail _ hp)))))))))))) (p_due _) (by ke_room) ?_
    have N12 := cb_drop N11 (news := [(Df, listOf usF.toArray nF), (Dt, listOf usT.toArray nT), (Dc, listOf usC.toArray nC), (L + 1 + 1 + 1, c3), (L + 1 + 1, c2), (L + 1, c1)]) (fun p hp => .tail _ (List.mem_append.mpr (.inr (.tail _ (.tail _ (.tail _ (List.mem_append_left tups hp)))))))
    clear N11
    repeat' (first | ((with_reducible show wpAny _ _ (execs _ _) _ _ _); exact hnext _ _ _ (fr_pull (by assumption) (by rfl)) (by assumption)) | walk_at "go1")
end
end Mine
end
section
theorem Mine.offS13 : True := by
  w_top off
  trivial
open PySem PySem.W PyProof.Rows PyProof.V
namespace Mine
section
variable {prog : Program} {w : World} {A : Around} {E : Value → Shared → Prop} {s : Shared} {h₀ : Heap} {L l a b : Addr} {m : Str → Option Value} {news : List (Addr × Obj)} {value slice : PySem.Expr} {vs us : List Value} {ws zs : List Str} {n na : Nat} {t : Tok} {Q : Value → Shared → Prop}
theorem slice_upto (k : Nat) (F : Fr h₀ L s.heap m) (N : News h₀ L s.heap news) (hl : (l, listOf vs.toArray n) ∈ news) (hi : StrsAre vs ws)
    (h : ∀ D us h', Fr h₀ L h' m → News h₀ L h' ((D, listOf (List.toArray us) 0) :: news) → (∀ p ∈ news, p.1 < D) → StrsAre us (ws.take k) → Q (.ref D) { s with heap := h' })
    (hs : subscripted slice false (.ref l) (.ref s.heap.objs.size) = operate [.ref s.heap.objs.size, .ref l] (getItem (.ref l) (.ref s.heap.objs.size))) (ht : ∀ r, letTemporaryGo value (.ref l) r = pure ()) (hz : ws.length ≤ sizeLine) :
    wpAny (model prog w) A (subscriptTail value slice (.ref l) (.ref s.heap.objs.size)) Q E { s with heap := s.heap.push { cls := .type "slice", data := .fields #[.none, .int (k : Int) t, .none] } } := by
  refine kmk_slice F N (PySem.IsL.isList (n := n) (N _ hl).1) IsPart.none (IsPart.int _ _) (fun D h' F' N' l1 => h D (slicePick vs.toArray none (some (k : Int)) none).toList h' F' (by rw [Array.toArray_toList]; exact N') l1 ?_) hs ht (by rw [List.size_toArray, hi.length]; exact hz)
  have e : sliceBounds none (some (k : Int)) none vs.toArray.size = (((0 : Nat) : Int), ((min k vs.toArray.size : Nat) : Int), 1) := by
    simp only [sliceBounds, Option.getD_none, show (1 : Int) > 0 by decide, if_true, if_neg (show ¬ ((k : Int) < 0) by omega)]
    congr 1
    congr 1
    omega
  rw [kmk_pick_nat _ e]
  show StrsAre ((vs.drop 0).take (min k vs.toArray.size - 0)) _
  rw [List.drop_zero, Nat.sub_zero, List.size_toArray, kmk_take_min]
  exact hi.take' _
theorem slice_from (k : Nat) (F : Fr h₀ L s.heap m) (N : News h₀ L s.heap news) (hl : (l, listOf vs.toArray n) ∈ news) (hi : StrsAre vs ws)
    (h : ∀ D us h', Fr h₀ L h' m → News h₀ L h' ((D, listOf (List.toArray us) 0) :: news) → (∀ p ∈ news, p.1 < D) → StrsAre us (ws.drop (k + 1)) → Q (.ref D) { s with heap := h' })
    (hs : subscripted slice false (.ref l) (.ref s.heap.objs.size) = operate [.ref s.heap.objs.size, .ref l] (getItem (.ref l) (.ref s.heap.objs.size))) (ht : ∀ r, letTemporaryGo value (.ref l) r = pure ()) (hz : ws.length ≤ sizeLine) :
    wpAny (model prog w) A (subscriptTail value slice (.ref l) (.ref s.heap.objs.size)) Q E { s with heap := s.heap.push { cls := .type "slice", data := .fields #[.int ((k : Int) + 1) t, .none, .none] } } := by
  refine kmk_slice F N (PySem.IsL.isList (n := n) (N _ hl).1) (IsPart.int _ _) IsPart.none (fun D h' F' N' l1 => h D (slicePick vs.toArray (some ((k : Int) + 1)) none none).toList h' F' (by rw [Array.toArray_toList]; exact N') l1 ?_) hs ht (by rw [List.size_toArray, hi.length]; exact hz)
  have e : sliceBounds (some ((k : Int) + 1)) none none vs.toArray.size = (((min (k + 1) vs.toArray.size : Nat) : Int), ((vs.toArray.size : Nat) : Int), 1) := by
    simp only [sliceBounds, Option.getD_none, show (1 : Int) > 0 by decide, if_true, if_neg (show ¬ ((k : Int) + 1 < 0) by omega)]
    congr 1
    omega
  rw [kmk_pick_nat _ e]
  show StrsAre ((vs.drop (min (k + 1) vs.toArray.size)).take (vs.toArray.size - min (k + 1) vs.toArray.size)) _
  rw [List.size_toArray, kmk_drop_min, List.take_of_length_le (by rw [List.length_drop]; omega)]
  exact hi.drop' _
theorem add_strs {xs ys : List Value} (F : Fr h₀ L s.heap m) (N : News h₀ L s.heap news) (ha : (a, listOf xs.toArray n) ∈ news) (hb : (b, listOf ys.toArray na) ∈ news) (hx : StrsAre xs ws) (hy : StrsAre ys zs)
    (h : ∀ D us h', Fr h₀ L h' m → News h₀ L h' ((D, listOf (List.toArray us) 0) :: news) → (∀ p ∈ news, p.1 < D) → StrsAre us (ws ++ zs) → Q (.ref D) { s with heap := h' })
    (hz : ws.length + zs.length ≤ sizeLine) : wpAny (model prog w) A (binaryOp .Add (.ref a) (.ref b)) Q E s :=
  kmk_add_lit F N (PySem.IsL.isList (n := n) (N _ ha).1) (PySem.IsL.isList (n := na) (N _ hb).1) rfl (fun D h' F' N' l1 => h D _ h' F' N' l1 (hx.append' hy)) (by
    show xs.length + ys.length ≤ _
    rw [hx.length, hy.length]; exact hz)
end
section
local macro_rules | `(tactic| walk_at "stop") => `(tactic| first
  | (with_reducible show wpAny _ _ (exec (Stmt.For _ _ _ _ _) _) _ _ _)
  | (with_reducible show wpAny _ _ (pyIter _) _ _ _)
  | (with_reducible show wpAny _ _ (compareOp _ (Value.ref _) (Value.ref _)) _ _ _)
  | (with_reducible show LCg.CompSrc _ _ _ _ _ _ _ _ _ _ _ _ _ _)
  | (with_reducible show LCt.CompSrcT _ _ _ _ _ _ _ _ _ _ _ _ _ _ _)
  | (with_reducible show wpAny _ _ (eval (Expr.ListComp _ _ _ _) _) _ _ _)
  | (with_reducible show wpAny _ _ (exec (Stmt.Assign _ (Expr.ListComp _ _ _ _) _) _) _ _ _))
local macro_rules | `(tactic| walk_at "go1") => `(tactic| (first | (k_unfold; (try dsimp only)) | ((fail_if_success walk_at "stop"); first | (k_end; wrow_close) | walk1 | (dsimp only; walk1) | (leave1; walk_say "STEP leave1"; try dsimp only) | fail "no step")))
local macro_rules | `(tactic| walk_at "go") => `(tactic| repeat' (first | (k_unfold; (try dsimp only)) | ((fail_if_success walk_at "stop"); first | (k_end; wrow_close) | walk1 | (dsimp only; walk1) | (leave1; walk_say "STEP leave1"; try dsimp only) | fail "no step")))
local macro_rules | `(tactic| walk_at "enterC") => `(tactic| (refine' code_defC ?k1 ?k2 ?k3 ?k4 ?k5 ?kA ?kF ?kK ?k6 ?k7 ?k8 ?k9 ?kB ?kD ?_ ?c2 ?c3 ?c4; (case kA => exact rfl); (case kF => exact rfl); (case kK => assumption); (case k1 => k_asm); (case k2 => k_asm); (case k3 => k_asm); (case k4 => k_asm); (case k5 => k_asm); (case k6 => k_is); (case k7 => k_is); (case k8 => ktr_room); (case k9 => exact BindsTo.of_eq rfl); (case kB => exact rfl); (case kD => decide +kernel); (case c2 => exact rfl); (case c3 => exact rfl); (case c4 => exact rfl); k_whole; intro g' L' h' tk' cells' FG' F' N' Y' B' X' T' l1; (try k_lt l1); k_cells Y'; (try simp only [List.cons_append, List.nil_append] at N'); (try dsimp only); (try k_lift B'); (try k_fold)))
local macro_rules | `(tactic| walk_at "use") => `(tactic| ((case k1 => k_asm); (case k2 => k_asm); (case k3 => k_asm); (case k4 => k_asm); (case k5 => k_asm); (case kK => first | exact rfl | assumption); (case kd => ktr_room); (case ku => ktr_units)))
local macro_rules | `(tactic| walk_at "useB") => `(tactic| (walk_at "use"; intro r9 tl9 h9 tk9 F9 N9 p9; obtain ⟨e9, e8⟩ := p9; subst e9 e8; rw [List.nil_append] at N9; (try dsimp only); (try k_fold)))
local macro_rules | `(tactic| walk_at "useS") => `(tactic| (walk_at "use"; intro r9 tl9 h9 tk9 F9 N9 p9; obtain ⟨⟨t9, e9⟩, e8⟩ := p9; subst e9 e8; rw [List.nil_append] at N9; (try dsimp only); (try k_fold)))
local macro_rules | `(tactic| walk_at "call ref") => `(tactic| (k_here; first
  | (k_dflt (refine' Claim.use (joins_on_c _ _ _ _) ?k1 ?k2 ?k3 ?k4 ?k5 ?kK ?kd ?ku ?_); walk_at "useB")
  | (k_dflt (refine' Claim.use (joins_back_c _ _ _ _) ?k1 ?k2 ?k3 ?k4 ?k5 ?kK ?kd ?ku ?_); walk_at "useB")
  | (k_dflt (refine' Claim.use (form_of_c _ _ _ _) ?k1 ?k2 ?k3 ?k4 ?k5 ?kK ?kd ?ku ?_); walk_at "useS")
  | (k_dflt (refine' Claim.use (joining_type_c _ _ _ _) ?k1 ?k2 ?k3 ?k4 ?k5 ?kK ?kd ?ku ?_); walk_at "useS")))
local macro_rules | `(tactic| walk_at "lt") => `(tactic| first | assumption | exact allLt_of (by assumption) | exact And.right (by assumption) | exact And.right (And.right (by assumption)) | exact And.right (And.right (And.right (by assumption))))
local macro_rules | `(tactic| k_all) => `(tactic| first | assumption | exact off1_ne (by assumption) | exact ne_up0 (by walk_at "lt") | exact ne_up1 (by walk_at "lt") | exact ne_up2 (by walk_at "lt") | exact ne_up3 (by walk_at "lt"))
local macro_rules | `(tactic| k_mem) => `(tactic| first | assumption | exact List.mem_append.mpr (Or.inr (by assumption)) | exact List.mem_append.mpr (Or.inl (by assumption)) | exact List.mem_append.mpr (Or.inr (List.mem_append.mpr (Or.inr (by assumption)))))
local macro_rules | `(tactic| size_fits) => `(tactic| ((simp only [List.size_toArray, List.length_append, List.length_cons, List.length_nil, PySem.sizeLine_eq]); omega))
local macro_rules | `(tactic| walk_at "idx") => `(tactic| first | omega | ((try simp only [Int.zero_add]); omega))
local macro_rules | `(tactic| walk_at "subscriptTail Name Name ref int") => `(tactic| (k_here; (with_reducible show wpAny _ _ (subscriptTail _ _ (Value.ref _) (Value.int _ _)) _ _ _); k_dflt (refine' item_strs ?N ?m ?w ?h0 ?h1 ?hf ?_; (case N => k_asm); (case m => k_mem); (case w => assumption); (case h0 => walk_at "idx"); (case h1 => walk_at "idx"); (case hf => walk_at "idx")); intro t9; (try simp only [Int.toNat_natCast]); (try dsimp only)))
local macro_rules | `(tactic| walk_at "call builtin:len") => `(tactic| (k_here; (with_reducible show wpAny _ _ (call (Value.builtin "len") [Value.ref _]) _ _ _); k_dflt (refine' len_listAny ?N ?m ?c ?f ?_; (case N => k_asm); (case m => k_mem); (case c => first | exact Eq.trans List.size_toArray (PyProof.Rows.StrsAre.length (by assumption)) | exact Eq.trans List.size_toArray (IntsAre.length (by assumption)) | exact Eq.trans List.size_toArray (LSm.BoolsAre.length (by assumption))); (case f => omega)); (try dsimp only)))
local macro_rules | `(tactic| walk_at "setItem ref int") => `(tactic| (k_here; (with_reducible show wpAny _ _ (setItem (Value.ref _) (Value.int _ _) (Value.bool _)) _ _ _); k_dflt (refine' kbo_set ?F ?N ?U ?hb ?h0 ?h1 ?hf ?_; (case F => k_asm); (case N => k_asm); (case U => k_upd); (case hb => assumption); (case h0 => walk_at "idx"); (case h1 => walk_at "idx"); (case hf => walk_at "idx")); intro h' F' N' hb' hl'; (try k_sweep); (try dsimp only)))
local macro_rules | `(tactic| walk_at "subscriptTail Name Name ref int") => `(tactic| (k_here; (with_reducible show wpAny _ _ (subscriptTail _ _ (Value.ref _) (Value.int _ _)) _ _ _); k_dflt (refine' kbo_sub ?N ?m ?w ?h0 ?h1 ?hf ?_; (case N => k_asm); (case m => k_mem); (case w => assumption); (case h0 => walk_at "idx"); (case h1 => walk_at "idx"); (case hf => walk_at "idx")); (try simp only [Int.toNat_natCast]); (try dsimp only)))
local macro_rules | `(tactic| walk_at "strs") => `(tactic| first | assumption | exact StrsAre.cons _ _ (StrsAre.cons _ _ (StrsAre.cons _ _ (StrsAre.cons _ _ StrsAre.nil))))
local macro_rules | `(tactic| walk_at "call ref") => `(tactic| (k_here; k_dflt (refine' Claim.use (forms_of_c _ _ _ _ _ _ ?hl ?hi ?hn) ?k1 ?k2 ?k3 ?k4 ?k5 ?kK ?kd ?ku ?_; walk_at "use"; (case hl => k_mem); (case hi => walk_at "strs"); (case hn => first | decide | walk_at "len")); intro r9 tl9 h9 tk9 F9 N9 p9; obtain ⟨D9, us9, n9, e9, e8, S9, O9⟩ := p9; subst e9 e8; rw [List.singleton_append] at N9; (try dsimp only); (try k_fold)))
local macro_rules | `(tactic| walk_at "len") => `(tactic| first | assumption | omega | ((try simp only [List.length_map, List.length_append, List.length_take, List.length_drop, List.length_cons, List.length_nil, formsOf_length]); omega))
local macro_rules | `(tactic| walk_at "call ref") => `(tactic| (k_here; k_dflt (refine' Claim.use (runs_right_c _ _ _ _ _ _ ?hl ?hi ?hn) ?k1 ?k2 ?k3 ?k4 ?k5 ?kK ?kd ?ku ?_; walk_at "use"; (case hl => k_mem); (case hi => walk_at "strs"); (case hn => walk_at "len")); intro r9 tl9 h9 tk9 F9 N9 p9; obtain ⟨e9, e8⟩ := p9; subst e9 e8; rw [List.nil_append] at N9; (try dsimp only); (try k_fold)))
local macro_rules | `(tactic| walk_at "call builtin:list.count") => `(tactic| (k_here; (with_reducible show wpAny _ _ (call (Value.builtin _) [Value.ref _, Value.str _ _]) _ _ _); k_dflt (refine count_list_strs (by is_list) (by assumption) ?_)))
local macro_rules | `(tactic| walk_at "call builtin:len") => `(tactic| (k_here; (with_reducible show wpAny _ _ (call (Value.builtin "len") [Value.ref _]) _ _ _); k_dflt (refine' len_listAny ?N ?m ?c ?f ?_; (case N => k_asm); (case m => k_mem); (case c => first | exact Eq.trans List.size_toArray (PyProof.Rows.StrsAre.length (by assumption)) | exact Eq.trans List.size_toArray (IntsAre.length (by assumption)) | exact Eq.trans List.size_toArray (LSm.BoolsAre.length (by assumption))); (case f => walk_at "len")); (try dsimp only)))
local macro_rules | `(tactic| walk_at "strs") => `(tactic| exact StrsAre.cons _ _ StrsAre.nil)
local macro_rules | `(tactic| walk_at "subscriptTail Name Slice ref ref") => `(tactic| (k_here; (with_reducible show wpAny _ _ (subscriptTail _ (PySem.Expr.Slice none (some _) none _) (Value.ref _) (Value.ref _)) _ _ _); k_dflt (refine' slice_upto _ ?F ?N ?l ?i ?_ ?s ?t ?z; (case F => k_asm); (case N => k_asm); (case l => k_mem); (case i => walk_at "strs"); (case s => with_unfolding_all rfl); (case t => kmk_pure); (case z => (rw [sizeLine_eq]; walk_at "len"))); intro D' ws' h' F' N' l1 hI'; (try k_lt l1); (try k_sweep)))
local macro_rules | `(tactic| walk_at "subscriptTail Name Slice ref ref") => `(tactic| (k_here; (with_reducible show wpAny _ _ (subscriptTail _ (PySem.Expr.Slice (some _) none none _) (Value.ref _) (Value.ref _)) _ _ _); k_dflt (refine' slice_from _ ?F ?N ?l ?i ?_ ?s ?t ?z; (case F => k_asm); (case N => k_asm); (case l => k_mem); (case i => walk_at "strs"); (case s => with_unfolding_all rfl); (case t => kmk_pure); (case z => (rw [sizeLine_eq]; walk_at "len"))); intro D' ws' h' F' N' l1 hI'; (try k_lt l1); (try k_sweep)))
local macro_rules | `(tactic| walk_at "binaryOp Add ref ref") => `(tactic| (k_here; (with_reducible show wpAny _ _ (binaryOp _ (Value.ref _) (Value.ref _)) _ _ _); k_dflt (refine' add_strs ?F ?N ?a ?b ?i ?j ?_ ?z; (case F => k_asm); (case N => k_asm); (case a => k_mem); (case b => k_mem); (case i => walk_at "strs"); (case j => walk_at "strs"); (case z => (rw [sizeLine_eq]; walk_at "len"))); intro D' ws' h' F' N' l1 hI'; (try k_lt l1); (try k_sweep)))
theorem one_more {m : Str → Option Value} {a : Str} : m = fun y => if y = a then m a else m y := by
  funext y
  by_cases h : y = a
  · subst h; simp
  · simp [h]
theorem seg13 {w : World} {mean : ExcName → Option Value} {mg mb : Str → Option Value} {h₀ h : Heap} {L fa Df Dt Dc : Addr} {cd : Value} {m0 : Str → Option Value} {cs : List Int} {usF usT usC : List Value} {nF nT nC : Nat} {c3 c2 c1 : Obj} {base : Led} {Q : Flow → Shared → Prop} {E : Value → Shared → Prop} {s : Shared} {tk : Nat} 
    (S : Stand w mean mg mb h₀ L cs) (Bs : Base Df Dt Dc L usF usT usC nF nT nC c3 c2 c1 cs base) (hPE : PassesOwn (model PySem.Challenge.rw_pb0153_01.row.toRowW.prog w) (callerA.deeper (envOfC (Str.ofString "law") lawScope L fa cd)) (envOfC (Str.ofString "law") lawScope L fa cd) E)
    (F : Fr h₀ L h (fun y => if y = Str.ofString "codes" then some (.ref Dc) else m0 y)) (N : News h₀ L h base)
    (hnext : ∀ h' tk' (m1 : Str → Option Value) nw, Fr h₀ L h' m1 → News h₀ L h' nw → Runs 14 w L fa cd Q E s h' tk') : Runs 13 w L fa cd Q E s h tk := by
  obtain ⟨B, X, T, hlen⟩ := S
  obtain ⟨rfl, hF, hT, hC, d3, d2⟩ := Bs
  have hFl := hF.length
  have hTl := hT.length
  rw [formsOf_length] at hFl
  rw [List.length_map] at hFl hTl
  have htl : (cs.map tyOf).length = cs.length := List.length_map _
  have hfl : (formsOf (cs.map tyOf)).length = cs.length := by rw [formsOf_length, List.length_map]
  revert X
  unfold Runs lawBody lawScope PySem.Challenge.pw_pb0153_01
  unfold Runs lawBody lawScope PySem.Challenge.pw_pb0153_01 at hnext
  unfold lawScope PySem.Challenge.pw_pb0153_01 at hPE
  dsimp only [lastOf, bodyOf, List.drop, scopeOf] at hnext hPE ⊢
  k_fill
  intro X
  walk_at "go"
  with_unfolding_all refine' For_invVF F ?k1 ?k2 ?_ (hE := hPE); (case k1 => exact rfl); (case k2 => exact rfl)
  walk_at "go"
  (rename Fr _ _ _ _ => F2)
  (rename News _ _ _ _ => N2)
  (rename IsRange _ _ _ _ _ _ _ _ => R2)
  refine iter_rangeUnr (n := cs.length) (by rfl) R2 (small_one (by omega) (by omega) (by omega) (by omega)) (by rw [rangeSize_nat]; simp) F2 N2 ?_
  intro I lI; k_lt lI
  refine rangeJ (fun i m nx => nx = [(Df, listOf usF.toArray nF), (Dt, listOf usT.toArray nT), (Dc, listOf usC.toArray nC), (L + 1 + 1 + 1, c3), (L + 1 + 1, c2), (L + 1, c1)] ∧ ∃ u, m = fun y => if y = Str.ofString "at" then u else if y = Str.ofString "codes" then some (.ref Dc) else m0 y) ?h0 ?turn ?done
  case h0 => exact ⟨rfl, _, one_more⟩
  case turn =>
    rintro i m' nw tq h tk hlt ⟨rfl, u, rfl⟩ F3 N3
    rw [Int.zero_add] at F3
    (try k_unmd); k_fold
    walk_at "go"
    · (rename News _ _ _ _ => N4)
      have hcut := p_cut (cs.map tyOf) i (by rw [htl]; exact hlt) (eq_of_beq (by assumption))
      refine ne_strs_f N4 (.head _) (by k_mem) (by assumption) hF (by rw [hcut]; exact forms_ok _) hcut (by ke_room) ?_
      have N5 := cb_drop N4 (news := (I, itR (0 + ((i + 1 : Nat) : Int)) ((cs.length : Int) - ((i + 1 : Nat) : Int))) :: [(Df, listOf usF.toArray nF), (Dt, listOf usT.toArray nT), (Dc, listOf usC.toArray nC), (L + 1 + 1 + 1, c3), (L + 1 + 1, c2), (L + 1, c1)]) (fun p hp => .tail _ (.tail _ (.tail _ (.tail _ (.tail _ (.tail _ (.tail _ hp)))))))
      clear N4
      walk_at "go"
      exact if_dup
    · exact if_dup
  case done =>
    rintro m' nw h tk ⟨rfl, u, rfl⟩ F3 N3
    exact hnext _ _ _ _ F3 N3
end
end Mine
end
section
theorem Mine.offSI : True := by
  w_top off
  trivial
local macro_rules | `(tactic| walk_at "pad") => `(tactic| skip)
local macro_rules | `(tactic| walk_at "pad") => `(tactic| skip)
local macro_rules | `(tactic| walk_at "pad") => `(tactic| skip)
local macro_rules | `(tactic| walk_at "pad") => `(tactic| skip)
local macro_rules | `(tactic| walk_at "pad") => `(tactic| skip)
local macro_rules | `(tactic| walk_at "pad") => `(tactic| skip)
local macro_rules | `(tactic| walk_at "pad") => `(tactic| skip)
local macro_rules | `(tactic| walk_at "pad") => `(tactic| skip)
local macro_rules | `(tactic| walk_at "pad") => `(tactic| skip)
local macro_rules | `(tactic| walk_at "pad") => `(tactic| skip)
local macro_rules | `(tactic| walk_at "pad") => `(tactic| skip)
local macro_rules | `(tactic| walk_at "pad") => `(tactic| skip)
local macro_rules | `(tactic| walk_at "pad") => `(tactic| skip)
local macro_rules | `(tactic| walk_at "pad") => `(tactic| skip)
local macro_rules | `(tactic| walk_at "pad") => `(tactic| skip)
local macro_rules | `(tactic| walk_at "pad") => `(tactic| skip)
local macro_rules | `(tactic| walk_at "pad") => `(tactic| skip)
local macro_rules | `(tactic| walk_at "pad") => `(tactic| skip)
local macro_rules | `(tactic| walk_at "pad") => `(tactic| skip)
local macro_rules | `(tactic| walk_at "pad") => `(tactic| skip)
local macro_rules | `(tactic| walk_at "pad") => `(tactic| skip)
local macro_rules | `(tactic| walk_at "pad") => `(tactic| skip)
local macro_rules | `(tactic| walk_at "pad") => `(tactic| skip)
local macro_rules | `(tactic| walk_at "pad") => `(tactic| skip)
local macro_rules | `(tactic| walk_at "pad") => `(tactic| skip)
local macro_rules | `(tactic| walk_at "pad") => `(tactic| skip)
local macro_rules | `(tactic| walk_at "pad") => `(tactic| skip)
local macro_rules | `(tactic| walk_at "pad") => `(tactic| skip)
local macro_rules | `(tactic| walk_at "pad") => `(tactic| skip)
local macro_rules | `(tactic| walk_at "pad") => `(tactic| skip)
local macro_rules | `(tactic| walk_at "pad") => `(tactic| skip)
local macro_rules | `(tactic| walk_at "pad") => `(tactic| skip)
local macro_rules | `(tactic| walk_at "pad") => `(tactic| skip)
local macro_rules | `(tactic| walk_at "pad") => `(tactic| skip)
local macro_rules | `(tactic| walk_at "pad") => `(tactic| skip)
local macro_rules | `(tactic| walk_at "pad") => `(tactic| skip)
local macro_rules | `(tactic| walk_at "pad") => `(tactic| skip)
local macro_rules | `(tactic| walk_at "pad") => `(tactic| skip)
local macro_rules | `(tactic| walk_at "pad") => `(tactic| skip)
local macro_rules | `(tactic| walk_at "pad") => `(tactic| skip)
open PySem PySem.W PyProof.Rows PyProof.V
namespace Mine
section
local macro_rules | `(tactic| walk_at "stop") => `(tactic| first
  | (with_reducible show wpAny _ _ (exec (Stmt.For _ _ _ _ _) _) _ _ _)
  | (with_reducible show wpAny _ _ (pyIter _) _ _ _)
  | (with_reducible show LCg.CompSrc _ _ _ _ _ _ _ _ _ _ _ _ _ _)
  | (with_reducible show LCt.CompSrcT _ _ _ _ _ _ _ _ _ _ _ _ _ _ _)
  | (with_reducible show wpAny _ _ (eval (Expr.ListComp _ _ _ _) _) _ _ _)
  | (with_reducible show wpAny _ _ (exec (Stmt.Assign _ (Expr.ListComp _ _ _ _) _) _) _ _ _))
local macro_rules | `(tactic| walk_at "go") => `(tactic| repeat' (first | (k_unfold; (try dsimp only)) | ((fail_if_success walk_at "stop"); first | (k_end; wrow_close) | walk1 | (dsimp only; walk1) | (leave1; walk_say "STEP leave1"; try dsimp only) | fail "no step")))
local macro_rules | `(tactic| walk_at "enterC") => `(tactic| (refine' code_defC ?k1 ?k2 ?k3 ?k4 ?k5 ?kA ?kF ?kK ?k6 ?k7 ?k8 ?k9 ?kB ?kD ?_ ?c2 ?c3 ?c4; (case kA => exact rfl); (case kF => exact rfl); (case kK => assumption); (case k1 => k_asm); (case k2 => k_asm); (case k3 => k_asm); (case k4 => k_asm); (case k5 => k_asm); (case k6 => k_is); (case k7 => k_is); (case k8 => ktr_room); (case k9 => exact BindsTo.of_eq rfl); (case kB => exact rfl); (case kD => decide +kernel); (case c2 => exact rfl); (case c3 => exact rfl); (case c4 => exact rfl); k_whole; intro g' L' h' tk' cells' FG' F' N' Y' B' X' T' l1; (try k_lt l1); k_cells Y'; (try simp only [List.cons_append, List.nil_append] at N'); (try dsimp only); (try k_lift B'); (try k_fold)))
local macro_rules | `(tactic| walk_at "use") => `(tactic| ((case k1 => k_asm); (case k2 => k_asm); (case k3 => k_asm); (case k4 => k_asm); (case k5 => k_asm); (case kK => first | exact rfl | assumption); (case kd => ktr_room); (case ku => ktr_units)))
local macro_rules | `(tactic| walk_at "useB") => `(tactic| (walk_at "use"; intro r9 tl9 h9 tk9 F9 N9 p9; obtain ⟨e9, e8⟩ := p9; subst e9 e8; rw [List.nil_append] at N9; (try dsimp only); (try k_fold)))
local macro_rules | `(tactic| walk_at "useS") => `(tactic| (walk_at "use"; intro r9 tl9 h9 tk9 F9 N9 p9; obtain ⟨⟨t9, e9⟩, e8⟩ := p9; subst e9 e8; rw [List.nil_append] at N9; (try dsimp only); (try k_fold)))
local macro_rules | `(tactic| walk_at "call ref") => `(tactic| (k_here; first
  | (k_dflt (refine' Claim.use (joins_on_c _ _ _ _) ?k1 ?k2 ?k3 ?k4 ?k5 ?kK ?kd ?ku ?_); walk_at "useB")
  | (k_dflt (refine' Claim.use (joins_back_c _ _ _ _) ?k1 ?k2 ?k3 ?k4 ?k5 ?kK ?kd ?ku ?_); walk_at "useB")
  | (k_dflt (refine' Claim.use (form_of_c _ _ _ _) ?k1 ?k2 ?k3 ?k4 ?k5 ?kK ?kd ?ku ?_); walk_at "useS")
  | (k_dflt (refine' Claim.use (joining_type_c _ _ _ _) ?k1 ?k2 ?k3 ?k4 ?k5 ?kK ?kd ?ku ?_); walk_at "useS")))
local macro_rules | `(tactic| walk_at "lt") => `(tactic| first | assumption | exact allLt_of (by assumption) | exact And.right (by assumption) | exact And.right (And.right (by assumption)) | exact And.right (And.right (And.right (by assumption))))
local macro_rules | `(tactic| k_all) => `(tactic| first | assumption | exact off1_ne (by assumption) | exact ne_up0 (by walk_at "lt") | exact ne_up1 (by walk_at "lt") | exact ne_up2 (by walk_at "lt") | exact ne_up3 (by walk_at "lt"))
local macro_rules | `(tactic| k_mem) => `(tactic| first | assumption | exact List.mem_append.mpr (Or.inr (by assumption)) | exact List.mem_append.mpr (Or.inl (by assumption)) | exact List.mem_append.mpr (Or.inr (List.mem_append.mpr (Or.inr (by assumption)))))
local macro_rules | `(tactic| size_fits) => `(tactic| ((simp only [List.size_toArray, List.length_append, List.length_cons, List.length_nil, PySem.sizeLine_eq]); omega))
local macro_rules | `(tactic| walk_at "idx") => `(tactic| first | omega | ((try simp only [Int.zero_add]); omega))
local macro_rules | `(tactic| walk_at "subscriptTail Name Name ref int") => `(tactic| (k_here; (with_reducible show wpAny _ _ (subscriptTail _ _ (Value.ref _) (Value.int _ _)) _ _ _); k_dflt (refine' item_strs ?N ?m ?w ?h0 ?h1 ?hf ?_; (case N => k_asm); (case m => k_mem); (case w => assumption); (case h0 => walk_at "idx"); (case h1 => walk_at "idx"); (case hf => walk_at "idx")); intro t9; (try simp only [Int.toNat_natCast]); (try dsimp only)))
local macro_rules | `(tactic| walk_at "call builtin:len") => `(tactic| (k_here; (with_reducible show wpAny _ _ (call (Value.builtin "len") [Value.ref _]) _ _ _); k_dflt (refine' len_listAny ?N ?m ?c ?f ?_; (case N => k_asm); (case m => k_mem); (case c => first | exact Eq.trans List.size_toArray (PyProof.Rows.StrsAre.length (by assumption)) | exact Eq.trans List.size_toArray (IntsAre.length (by assumption)) | exact Eq.trans List.size_toArray (LSm.BoolsAre.length (by assumption))); (case f => omega)); (try dsimp only)))
local macro_rules | `(tactic| walk_at "setItem ref int") => `(tactic| (k_here; (with_reducible show wpAny _ _ (setItem (Value.ref _) (Value.int _ _) (Value.bool _)) _ _ _); k_dflt (refine' kbo_set ?F ?N ?U ?hb ?h0 ?h1 ?hf ?_; (case F => k_asm); (case N => k_asm); (case U => k_upd); (case hb => assumption); (case h0 => walk_at "idx"); (case h1 => walk_at "idx"); (case hf => walk_at "idx")); intro h' F' N' hb' hl'; (try k_sweep); (try dsimp only)))
local macro_rules | `(tactic| walk_at "subscriptTail Name Name ref int") => `(tactic| (k_here; (with_reducible show wpAny _ _ (subscriptTail _ _ (Value.ref _) (Value.int _ _)) _ _ _); k_dflt (refine' kbo_sub ?N ?m ?w ?h0 ?h1 ?hf ?_; (case N => k_asm); (case m => k_mem); (case w => assumption); (case h0 => walk_at "idx"); (case h1 => walk_at "idx"); (case hf => walk_at "idx")); (try simp only [Int.toNat_natCast]); (try dsimp only)))
local macro_rules | `(tactic| walk_at "strs") => `(tactic| first | assumption | exact StrsAre.cons _ _ (StrsAre.cons _ _ (StrsAre.cons _ _ (StrsAre.cons _ _ StrsAre.nil))))
local macro_rules | `(tactic| walk_at "call ref") => `(tactic| (k_here; k_dflt (refine' Claim.use (forms_of_c _ _ _ _ _ _ ?hl ?hi ?hn) ?k1 ?k2 ?k3 ?k4 ?k5 ?kK ?kd ?ku ?_; walk_at "use"; (case hl => k_mem); (case hi => walk_at "strs"); (case hn => first | decide | omega)); intro r9 tl9 h9 tk9 F9 N9 p9; obtain ⟨D9, us9, n9, e9, e8, S9, O9⟩ := p9; subst e9 e8; rw [List.singleton_append] at N9; (try dsimp only); (try k_fold)))
theorem seg14 {w : World} {mean : ExcName → Option Value} {mg mb : Str → Option Value} {h₀ h : Heap} {L fa : Addr} {cd : Value} {m : Str → Option Value} {cs : List Int} {news : Led} {Q : Flow → Shared → Prop} {E : Value → Shared → Prop} {s : Shared} {tk : Nat}
    (S : Stand w mean mg mb h₀ L cs) (F : Fr h₀ L h m) (N : News h₀ L h news)
    (hQ : ∀ h' tk' m' nw, Fr h₀ L h' m' → News h₀ L h' nw → Q (.ret (.bool true)) { s with heap := h', toks := tk' }) : Runs 14 w L fa cd Q E s h tk := by
  obtain ⟨B, X, T, hlen⟩ := S
  revert X
  unfold Runs lawBody lawScope PySem.Challenge.pw_pb0153_01
  dsimp only [lastOf, bodyOf, List.drop, scopeOf]
  k_fill
  intro X
  walk_at "go"
  (rename News _ _ _ _ => N1)
  refine eq_strs N1 (.tail _ (.head _)) (.head _) (by assumption) (StrsAre.cons _ _ (StrsAre.cons _ _ (StrsAre.cons _ _ (StrsAre.cons _ _ StrsAre.nil)))) (forms_ok _) lits_ok (by ke_room) ?_
  rw [decide_eq_true p_last]
  exact hQ _ _ _ _ (by assumption) N1
end
end Mine
end
section
theorem Mine.offFIN : True := by
  w_top off
  trivial
open PySem PySem.W PyProof.Rows PyProof.V
namespace Mine
theorem holds1 : PySem.Challenge.rw_pb0153_01.Holds := Mine.hd (by
  k_go0
  refine' seg0 ?B ?X ?T ?hl ?hi ?hn ?e3 ?e2 ?e1 ?F ?hm ?N ?next
  case B => assumption
  case X => assumption
  case T => assumption
  case hl => assumption
  case hi => assumption
  case hn => omega
  case N => assumption
  case F => assumption
  case e3 => assumption
  case e2 => assumption
  case e1 => assumption
  case hm => exact rfl
  case next =>
    intro cs Df Dt Dc usF usT usC nF nT nC c3 c2 c1 base m h1 tk1 S Bs F1 N1
    refine seg4 S Bs F1 N1 fun h2 tk2 F2 N2 => seg5 S Bs F2 N2 fun h3 tk3 F3 N3 => seg6 S Bs F3 N3 fun Ds usS nS h4 tk4 F4 N4 hS => seg7 S Bs hS F4 N4 fun h5 tk5 F5 N5 => seg8 S Bs hS F5 N5 fun v h6 tk6 F6 N6 => seg10 S Bs hS ?hPE F6 N6 fun m7 h7 tk7 F7 N7 => seg13 S Bs ?hPE F7 N7 fun h8 tk8 m8 nw8 F8 N8 => seg14 S F8 N8 ?hQ
    case hPE => unfold lawScope PySem.Challenge.pw_pb0153_01; dsimp only [lastOf, bodyOf, scopeOf]; passes_own
    case hQ =>
      intro h9 tk9 m9 nw9 F9 N9
      dsimp only
      clear S Bs F1 N1 F8 N8 hS
      k_steps)
end Mine
end
theorem PySem.Challenge.cw_pb0153_01_holds : PySem.Challenge.rw_pb0153_01.Holds :=
  Mine.holds1
