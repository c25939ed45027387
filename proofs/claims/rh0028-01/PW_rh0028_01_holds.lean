import PyProof.Rows.All
import Wide.All
import OpenK.AllK
import Wide.FinOn
import Lean
import PySem.Challenge.RW_rh0028_01
set_option Elab.async false
set_option rowWalk.seconds 0
namespace Mine
open PySem PySem.W PyProof.Rows
set_option maxRecDepth 100000 in
set_option maxHeartbeats 8000000 in
set_option synthInstance.maxSize 1 in
open_top hd for (PySem.Challenge.rw_rh0028_01).row
set_option maxRecDepth 100000 in
theorem said0 : (PySem.Challenge.rw_rh0028_01).wellSaid = true := by decide +kernel
open PySem.Spec PySem.Calls
local macro_rules | `(tactic| walk_at $s:str) => do let t := Lean.Syntax.mkStrLit ("X:" ++ s.getString); `(tactic| k_extra $t)
section PBase1
set_option maxRecDepth 100000
set_option maxHeartbeats 8000000
abbrev Ledger := List (Addr × Obj)
noncomputable abbrev PR : Program := PySem.Challenge.rw_rh0028_01.row.prog
noncomputable abbrev VW : Program := hd.view_1
noncomputable abbrev LO : List Str := looseW hd.view_1 []

/-- a call's contract: over the ledger news, the call of f with vs hands back v such that R holds -/
def Told (w : World) (f : Addr) (vs : List Value) (news : Ledger) (dep : Nat) (R : Ledger → Value → Prop) : Prop :=
  ∀ (mean : ExcName → Option Value) (mg mb : Str → Option Value) (dp un : Nat) (gd : Option (List Code)) (cn : Str) (cs : Scope) (a : Addr) (ccd : Value) (cl : List (Str × Addr)) (outer : List Env) (A₀ : Around) (base h₀ : Heap) (L : Addr) (m : Str → Option Value) (s : Shared) (Q E : Value → Shared → Prop),
    Below A₀ base outer h₀ → Fr h₀ L s.heap m → (hd.heap_1 w.params).In h₀ → News h₀ L s.heap news → Top VW LO mean mg mb h₀ → cs.kind = .function → dp + dep < recursionLimit → un + 8 * dep < cLine →
    (∀ v tl h' tk', Fr h₀ L h' m → News h₀ L h' (tl ++ news) → R (tl ++ news) v → Q v { s with heap := h', toks := tk' }) →
    wpAny (model PR w) (ktrTop dp un gd cn cs L a ccd cl outer) (call (.ref f) vs) Q E s

theorem told_use {w : World} {f : Addr} {vs : List Value} {news : Ledger} {dep : Nat} {R : Ledger → Value → Prop} (C : Told w f vs news dep R)
    {mean : ExcName → Option Value} {mg mb : Str → Option Value} {dp un : Nat} {gd : Option (List Code)} {cn : Str} {cs : Scope} {a : Addr} {ccd : Value} {cl : List (Str × Addr)} {outer : List Env} {A₀ : Around} {base h₀ : Heap} {L : Addr} {m : Str → Option Value} {s : Shared} {Q E : Value → Shared → Prop}
    (B : Below A₀ base outer h₀) (F : Fr h₀ L s.heap m) (X : (hd.heap_1 w.params).In h₀) (N : News h₀ L s.heap news) (T : Top VW LO mean mg mb h₀) (hk : cs.kind = .function) (hdp : dp + dep < recursionLimit) (hun : un + 8 * dep < cLine)
    (ret : ∀ v tl h' tk', Fr h₀ L h' m → News h₀ L h' (tl ++ news) → R (tl ++ news) v → Q v { s with heap := h', toks := tk' }) :
    wpAny (model PR w) (ktrTop dp un gd cn cs L a ccd cl outer) (call (.ref f) vs) Q E s :=
  C _ _ _ _ _ _ _ _ _ _ _ _ _ _ _ _ _ _ _ _ B F X N T hk hdp hun ret

abbrev tupO (vs : List Value) : Obj := { cls := .type "tuple", data := .seq vs.toArray }
def IsInt (c : Int) (v : Value) : Prop := ∃ t, v = .int c t
/-- r is the ratio c over 1 -/
def RatIn (ns : Ledger) (c : Int) (v : Value) : Prop := ∃ r t u, v = .ref r ∧ (r, tupO [.int c t, .int 1 u]) ∈ ns
theorem RatIn.mono {ns ns' : Ledger} {c : Int} {v : Value} (h : RatIn ns c v) (hs : ∀ p ∈ ns, p ∈ ns') : RatIn ns' c v :=
  let ⟨r, t, u, e, hm⟩ := h; ⟨r, t, u, e, hs _ hm⟩
section
variable {w : World} {f : Addr} {vs : List Value} {news : Ledger} {dep : Nat} {R : Ledger → Value → Prop}
    {mean : ExcName → Option Value} {mg mb : Str → Option Value} {dp un : Nat} {gd : Option (List Code)} {cn : Str} {cs : Scope} {a : Addr} {ccd : Value} {cl : List (Str × Addr)} {outer : List Env} {A₀ : Around} {base h₀ : Heap} {L : Addr} {m : Str → Option Value} {s : Shared} {Q E : Value → Shared → Prop}
theorem told_int {c : Int} (C : Told w f vs news dep (fun _ v => IsInt c v))
    (B : Below A₀ base outer h₀) (F : Fr h₀ L s.heap m) (X : (hd.heap_1 w.params).In h₀) (N : News h₀ L s.heap news) (T : Top VW LO mean mg mb h₀) (hk : cs.kind = .function) (hdp : dp + dep < recursionLimit) (hun : un + 8 * dep < cLine)
    (ret : ∀ t h' tk', Fr h₀ L h' m → News h₀ L h' news → Q (.int c t) { s with heap := h', toks := tk' }) :
    wpAny (model PR w) (ktrTop dp un gd cn cs L a ccd cl outer) (call (.ref f) vs) Q E s :=
  told_use C B F X N T hk hdp hun fun _ _ h' tk' F' N' hr => by
    obtain ⟨t, rfl⟩ := hr
    exact ret t h' tk' F' (fun p hp => N' p (List.mem_append_right _ hp))
theorem told_val {x : Value} (C : Told w f vs news dep (fun _ v => v = x))
    (B : Below A₀ base outer h₀) (F : Fr h₀ L s.heap m) (X : (hd.heap_1 w.params).In h₀) (N : News h₀ L s.heap news) (T : Top VW LO mean mg mb h₀) (hk : cs.kind = .function) (hdp : dp + dep < recursionLimit) (hun : un + 8 * dep < cLine)
    (ret : ∀ h' tk', Fr h₀ L h' m → News h₀ L h' news → Q x { s with heap := h', toks := tk' }) :
    wpAny (model PR w) (ktrTop dp un gd cn cs L a ccd cl outer) (call (.ref f) vs) Q E s :=
  told_use C B F X N T hk hdp hun fun _ _ h' tk' F' N' hr => by
    subst hr
    exact ret h' tk' F' (fun p hp => N' p (List.mem_append_right _ hp))
theorem told_rat {c : Int} (C : Told w f vs news dep (fun ns v => RatIn ns c v))
    (B : Below A₀ base outer h₀) (F : Fr h₀ L s.heap m) (X : (hd.heap_1 w.params).In h₀) (N : News h₀ L s.heap news) (T : Top VW LO mean mg mb h₀) (hk : cs.kind = .function) (hdp : dp + dep < recursionLimit) (hun : un + 8 * dep < cLine)
    (ret : ∀ r t u h' tk', Fr h₀ L h' m → News h₀ L h' ((r, tupO [.int c t, .int 1 u]) :: news) → Q (.ref r) { s with heap := h', toks := tk' }) :
    wpAny (model PR w) (ktrTop dp un gd cn cs L a ccd cl outer) (call (.ref f) vs) Q E s :=
  told_use C B F X N T hk hdp hun fun _ _ h' tk' F' N' hr => by
    obtain ⟨r, t, u, rfl, hm⟩ := hr
    refine ret r t u h' tk' F' (fun p hp => ?_)
    rcases List.mem_cons.mp hp with rfl | hp
    · exact N' _ hm
    · exact N' p (List.mem_append_right _ hp)
/-- an end: an answer whose objects lie on the ledger at hand -/
theorem told_end {h' : Heap} {tk' : Nat} {ns : Ledger} {v : Value}
    (hret : ∀ v tl h' tk', Fr h₀ L h' m → News h₀ L h' (tl ++ news) → R (tl ++ news) v → Q v { s with heap := h', toks := tk' })
    (F : Fr h₀ L h' m) (N : News h₀ L h' ns) (tl : Ledger) (hs : ∀ p ∈ tl ++ news, p ∈ ns) (hr : R (tl ++ news) v) : Q v { s with heap := h', toks := tk' } :=
  hret v tl h' tk' F (fun p hp => N p (hs p hp)) hr
theorem told_end_rat {c x y : Int} {h' : Heap} {tk' : Nat} {ns : Ledger} {r : Addr} {t u : Tok}
    (hret : ∀ v tl h' tk', Fr h₀ L h' m → News h₀ L h' (tl ++ news) → RatIn (tl ++ news) c v → Q v { s with heap := h', toks := tk' })
    (F : Fr h₀ L h' m) (N : News h₀ L h' ns) (hr : (r, tupO [.int x t, .int y u]) ∈ ns) (hx : x = c) (hy : y = 1) (hs : ∀ p ∈ news, p ∈ ns) : Q (.ref r) { s with heap := h', toks := tk' } := by
  subst hx hy
  exact hret _ [(r, tupO [.int x t, .int 1 u])] h' tk' F (fun p hp => N p ((List.mem_cons.mp hp).elim (fun e => e ▸ hr) (hs p))) ⟨r, t, u, rfl, List.mem_cons_self⟩
theorem told_end_int {c : Int} {h' : Heap} {tk' : Nat} {ns : Ledger} {t : Tok}
    (hret : ∀ v tl h' tk', Fr h₀ L h' m → News h₀ L h' (tl ++ news) → IsInt c v → Q v { s with heap := h', toks := tk' })
    (F : Fr h₀ L h' m) (N : News h₀ L h' ns) (hs : ∀ p ∈ news, p ∈ ns) : Q (.int c t) { s with heap := h', toks := tk' } :=
  hret _ [] h' tk' F (fun p hp => N p (hs p hp)) ⟨t, rfl⟩
theorem told_end_val {x : Value} {h' : Heap} {tk' : Nat} {ns : Ledger} {v : Value}
    (hret : ∀ v tl h' tk', Fr h₀ L h' m → News h₀ L h' (tl ++ news) → v = x → Q v { s with heap := h', toks := tk' })
    (F : Fr h₀ L h' m) (N : News h₀ L h' ns) (hs : ∀ p ∈ news, p ∈ ns) (hv : v = x) : Q v { s with heap := h', toks := tk' } :=
  hret _ [] h' tk' F (fun p hp => N p (hs p hp)) hv
end
/-- a is a tuple of the ints ks -/
def TupIn (ns : Ledger) (ks : List Int) (v : Value) : Prop := ∃ a vs, v = .ref a ∧ (a, tupO vs) ∈ ns ∧ IntsAre vs ks
theorem TupIn.mono {ns ns' : Ledger} {ks : List Int} {v : Value} (h : TupIn ns ks v) (hs : ∀ p ∈ ns, p ∈ ns') : TupIn ns' ks v :=
  let ⟨r, t, e, hm, hi⟩ := h; ⟨r, t, e, hs _ hm, hi⟩

section
variable {w : World} {f : Addr} {vs : List Value} {news : Ledger} {dep : Nat} {R : Ledger → Value → Prop}
    {mean : ExcName → Option Value} {mg mb : Str → Option Value} {dp un : Nat} {gd : Option (List Code)} {cn : Str} {cs : Scope} {a : Addr} {ccd : Value} {cl : List (Str × Addr)} {outer : List Env} {A₀ : Around} {base h₀ : Heap} {L : Addr} {m : Str → Option Value} {s : Shared} {Q E : Value → Shared → Prop}
theorem told_tup {ks : List Int} (C : Told w f vs news dep (fun ns v => TupIn ns ks v))
    (B : Below A₀ base outer h₀) (F : Fr h₀ L s.heap m) (X : (hd.heap_1 w.params).In h₀) (N : News h₀ L s.heap news) (T : Top VW LO mean mg mb h₀) (hk : cs.kind = .function) (hdp : dp + dep < recursionLimit) (hun : un + 8 * dep < cLine)
    (ret : ∀ r us h' tk', Fr h₀ L h' m → News h₀ L h' ((r, tupO us) :: news) → IntsAre us ks → Q (.ref r) { s with heap := h', toks := tk' }) :
    wpAny (model PR w) (ktrTop dp un gd cn cs L a ccd cl outer) (call (.ref f) vs) Q E s :=
  told_use C B F X N T hk hdp hun fun _ _ h' tk' F' N' hr => by
    obtain ⟨r, us, rfl, hm, hi⟩ := hr
    refine ret r us h' tk' F' (fun p hp => ?_) hi
    rcases List.mem_cons.mp hp with rfl | hp
    · exact N' _ hm
    · exact N' p (List.mem_append_right _ hp)
theorem told_end_tup {ks : List Int} {h' : Heap} {tk' : Nat} {ns : Ledger} {r : Addr} {us : List Value}
    (hret : ∀ v tl h' tk', Fr h₀ L h' m → News h₀ L h' (tl ++ news) → TupIn (tl ++ news) ks v → Q v { s with heap := h', toks := tk' })
    (F : Fr h₀ L h' m) (N : News h₀ L h' ns) (hr : (r, tupO us) ∈ ns) (hi : IntsAre us ks) (hs : ∀ p ∈ news, p ∈ ns) : Q (.ref r) { s with heap := h', toks := tk' } :=
  hret _ [(r, tupO us)] h' tk' F (fun p hp => N p ((List.mem_cons.mp hp).elim (fun e => e ▸ hr) (hs p))) ⟨r, us, rfl, List.mem_cons_self, hi⟩
end
end PBase1
section PKitS
set_option maxRecDepth 100000
set_option maxHeartbeats 1000000
theorem subs_nil {B : Ledger} : ∀ p ∈ ([] : Ledger), p ∈ B := fun _ h => nomatch h
theorem subs_cons {a : Addr × Obj} {A B : Ledger} (h : a ∈ B) (hs : ∀ p ∈ A, p ∈ B) : ∀ p ∈ a :: A, p ∈ B := List.forall_mem_cons.mpr ⟨h, hs⟩
theorem subs_app {A A' B : Ledger} (h : ∀ p ∈ A, p ∈ B) (hs : ∀ p ∈ A', p ∈ B) : ∀ p ∈ A ++ A', p ∈ B := fun p hp => (List.mem_append.mp hp).elim (h p) (hs p)
theorem subs_refl {A : Ledger} : ∀ p ∈ A, p ∈ A := fun _ h => h
theorem subs_tl {b : Addr × Obj} {A B : Ledger} (h : ∀ p ∈ A, p ∈ B) : ∀ p ∈ A, p ∈ b :: B := fun p hp => .tail _ (h p hp)
theorem subs_inl {A B C : Ledger} (h : ∀ p ∈ A, p ∈ B) : ∀ p ∈ A, p ∈ B ++ C := fun p hp => List.mem_append_left _ (h p hp)
theorem subs_inr {A B C : Ledger} (h : ∀ p ∈ A, p ∈ C) : ∀ p ∈ A, p ∈ B ++ C := fun p hp => List.mem_append_right _ (h p hp)
theorem subs_via {A B C : Ledger} (h : ∀ p ∈ A, p ∈ B) (g : ∀ p ∈ B, p ∈ C) : ∀ p ∈ A, p ∈ C := fun p hp => g p (h p hp)
theorem subs_ap {A B : Ledger} {p : Addr × Obj} (h : ∀ p ∈ A, p ∈ B) (hp : p ∈ A) : p ∈ B := h p hp
theorem all_nil {P : Addr × Obj → Prop} : ∀ p ∈ ([] : Ledger), P p := fun _ h => nomatch h
theorem all_cons {P : Addr × Obj → Prop} {a : Addr × Obj} {A : Ledger} (h : P a) (hs : ∀ p ∈ A, P p) : ∀ p ∈ a :: A, P p := List.forall_mem_cons.mpr ⟨h, hs⟩
theorem all_app {P : Addr × Obj → Prop} {A A' : Ledger} (h : ∀ p ∈ A, P p) (hs : ∀ p ∈ A', P p) : ∀ p ∈ A ++ A', P p := fun p hp => (List.mem_append.mp hp).elim (h p) (hs p)
theorem map_two {m' m : Str → Option Value} {a b : Str} {v1 v2 : Option Value} (h1 : m' a = v1) (h2 : m' b = v2) (hz : ∀ z, ¬ z = a → ¬ z = b → m' z = m z) :
    m' = fun z => if z = a then v1 else if z = b then v2 else m z := by
  funext z
  by_cases e1 : z = a
  · subst e1; rw [h1, if_pos rfl]
  · rw [if_neg e1]
    by_cases e2 : z = b
    · subst e2; rw [h2, if_pos rfl]
    · rw [if_neg e2]; exact hz z e1 e2
theorem map_four {m' m : Str → Option Value} {a b c d : Str} {v1 v2 v3 v4 : Option Value} (h1 : m' a = v1) (h2 : m' b = v2) (h3 : m' c = v3) (h4 : m' d = v4) (hz : ∀ z, ¬ z = a → ¬ z = b → ¬ z = c → ¬ z = d → m' z = m z) :
    m' = fun z => if z = a then v1 else if z = b then v2 else if z = c then v3 else if z = d then v4 else m z := by
  funext z
  by_cases e1 : z = a
  · subst e1; rw [h1, if_pos rfl]
  · rw [if_neg e1]
    by_cases e2 : z = b
    · subst e2; rw [h2, if_pos rfl]
    · rw [if_neg e2]
      by_cases e3 : z = c
      · subst e3; rw [h3, if_pos rfl]
      · rw [if_neg e3]
        by_cases e4 : z = d
        · subst e4; rw [h4, if_pos rfl]
        · rw [if_neg e4]; exact hz z e1 e2 e3 e4
theorem map_seven {m' m : Str → Option Value} {a b c d e f g : Str} {v1 v2 v3 v4 v5 v6 v7 : Option Value} (h1 : m' a = v1) (h2 : m' b = v2) (h3 : m' c = v3) (h4 : m' d = v4) (h5 : m' e = v5) (h6 : m' f = v6) (h7 : m' g = v7) (hz : ∀ z, ¬ z = a → ¬ z = b → ¬ z = c → ¬ z = d → ¬ z = e → ¬ z = f → ¬ z = g → m' z = m z) :
    m' = fun z => if z = a then v1 else if z = b then v2 else if z = c then v3 else if z = d then v4 else if z = e then v5 else if z = f then v6 else if z = g then v7 else m z := by
  funext z
  by_cases e1 : z = a
  · subst e1; rw [h1, if_pos rfl]
  · rw [if_neg e1]
    by_cases e2 : z = b
    · subst e2; rw [h2, if_pos rfl]
    · rw [if_neg e2]
      by_cases e3 : z = c
      · subst e3; rw [h3, if_pos rfl]
      · rw [if_neg e3]
        by_cases e4 : z = d
        · subst e4; rw [h4, if_pos rfl]
        · rw [if_neg e4]
          by_cases e5 : z = e
          · subst e5; rw [h5, if_pos rfl]
          · rw [if_neg e5]
            by_cases e6 : z = f
            · subst e6; rw [h6, if_pos rfl]
            · rw [if_neg e6]
              by_cases e7 : z = g
              · subst e7; rw [h7, if_pos rfl]
              · rw [if_neg e7]; exact hz z e1 e2 e3 e4 e5 e6 e7
end PKitS
set_option maxRecDepth 100000
set_option maxHeartbeats 8000000

theorem lines_1 : True := by
  k_with "X:m sub" => (intro p hp; (repeat (first | exact hp | refine List.mem_append_right _ ?_ | refine List.Mem.tail _ ?_)))
  k_with "X:m mem" => (repeat (first | assumption | exact List.Mem.head _ | refine List.mem_append_right _ ?_ | refine List.Mem.tail _ ?_))
  trivial
local macro_rules | `(tactic| k_mem) => `(tactic| walk_at "m mem")
theorem lines_2 : True := by
  k_with "X:m rel" => first | assumption | exact RatIn.mono (by assumption) (by walk_at "m sub") | exact ⟨_, _, _, rfl, by walk_at "m mem"⟩
  k_with "X:m args" => (
    (case zqk1 => k_asm)
    (case zqk2 => k_asm)
    (case zqk3 => k_asm)
    (case zqk4 => k_asm)
    (case zqk5 => k_asm)
    (case zqkK => first | exact rfl | assumption)
    (case zqkd => ktr_room)
    (case zqku => ktr_units))
  trivial
theorem gcd_one (c : Int) : ((if c < 0 then -c else c).fmod (if (1:Int) < 0 then -1 else 1) != 0) = false := by
  simp [Int.fmod_one]
theorem lines_3 : True := by
  k_with "X:WhlIf" => (rw [gcd_one]; refine id ?_)
  trivial
theorem gcd_ok (w : World) (c : Int) (t1 t2 : Tok) (news : Ledger) : Told w 63 [.int c t1, .int 1 t2] news 1 (fun _ v => IsInt 1 v) := by
  unfold Told
  intro mean mg mb dp un gd cn cs a ccd cl outer A₀ base h₀ L m s Q E B F X N T hk hdp hun hret
  refine wpAny_call ?_
  k_dflt cell_enter
  k_steps
  exact told_end_int hret (by assumption) (by assumption) (by walk_at "m sub")
theorem lines_4 : True := by
  k_with "X:call ref" => (k_here; k_dflt (
    refine' told_int (gcd_ok _ _ _ _ _) ?zqk1 ?zqk2 ?zqk3 ?zqk4 ?zqk5 ?zqkK ?zqkd ?zqku ?_
    walk_at "m args"
    intro _ _ _ _ _
    (try dsimp only)
    (try k_fold)))
  trivial
theorem rat_ok0 (w : World) (c : Int) (t1 t2 : Tok) (news : Ledger) : Told w 79 [.int c t1, .int 1 t2] news 2 (fun ns v => RatIn ns c v) := by
  unfold Told
  intro mean mg mb dp un gd cn cs a ccd cl outer A₀ base h₀ L m s Q E B F X N T hk hdp hun hret
  refine wpAny_call ?_
  k_dflt cell_enter
  k_steps
  exact told_end_rat hret (by assumption) (by assumption) (by walk_at "m mem") (by simp) (by simp) (by walk_at "m sub")
theorem rat_ok (w : World) (x y : Int) (hy : y = 1) (t1 t2 : Tok) (news : Ledger) : Told w 79 [.int x t1, .int y t2] news 2 (fun ns v => RatIn ns x v) := by
  subst hy; exact rat_ok0 w x t1 t2 news
theorem lines_5 : True := by
  k_with "X:call ref" => (k_here; k_dflt (
    refine' told_rat (rat_ok _ _ _ ?zqh0 _ _ _) ?zqk1 ?zqk2 ?zqk3 ?zqk4 ?zqk5 ?zqkK ?zqkd ?zqku ?_
    (case zqh0 => (first | rfl | simp))
    walk_at "m args"
    intro _ _ _ _ _ _ _
    (try dsimp only)
    (try k_fold)))
  trivial
theorem radd_ok (w : World) (c d : Int) (x y : Value) (news : Ledger) (ha : RatIn news c x) (hb : RatIn news d y) : Told w 86 [x, y] news 3 (fun ns v => RatIn ns (c + d) v) := by
  obtain ⟨a1, t1, t2, rfl, ha⟩ := ha
  obtain ⟨b1, u1, u2, rfl, hb⟩ := hb
  unfold Told
  intro mean mg mb dp un gd cn cs a ccd cl outer A₀ base h₀ L m s Q E B F X N T hk hdp hun hret
  refine wpAny_call ?_
  k_dflt cell_enter
  k_steps
  exact told_end_rat hret (by assumption) (by assumption) (by walk_at "m mem") (by simp) (by simp) (by walk_at "m sub")
theorem lines_6 : True := by
  k_with "X:call ref" => (k_here; k_dflt (
    refine' told_rat (radd_ok _ _ _ _ _ _ ?zqha ?zqhb) ?zqk1 ?zqk2 ?zqk3 ?zqk4 ?zqk5 ?zqkK ?zqkd ?zqku ?_
    (case zqha => walk_at "m rel")
    (case zqhb => walk_at "m rel")
    walk_at "m args"
    intro _ _ _ _ _ _ _
    (try dsimp only)
    (try k_fold)))
  trivial
theorem rmul_ok (w : World) (c d : Int) (x y : Value) (news : Ledger) (ha : RatIn news c x) (hb : RatIn news d y) (hm : IntMulOk c d) : Told w 93 [x, y] news 3 (fun ns v => RatIn ns (c * d) v) := by
  obtain ⟨a1, t1, t2, rfl, ha⟩ := ha
  obtain ⟨b1, u1, u2, rfl, hb⟩ := hb
  unfold Told
  intro mean mg mb dp un gd cn cs a ccd cl outer A₀ base h₀ L m s Q E B F X N T hk hdp hun hret
  refine wpAny_call ?_
  k_dflt cell_enter
  k_steps
  exact told_end_rat hret (by assumption) (by assumption) (by walk_at "m mem") (by simp) (by simp) (by walk_at "m sub")
theorem lines_7 : True := by
  k_with "X:call ref" => (k_here; k_dflt (
    refine' told_rat (rmul_ok _ _ _ _ _ _ ?zqha ?zqhb ?zqhm) ?zqk1 ?zqk2 ?zqk3 ?zqk4 ?zqk5 ?zqkK ?zqkd ?zqku ?_
    (case zqha => walk_at "m rel")
    (case zqhb => walk_at "m rel")
    (case zqhm => first | assumption | mul_fits)
    walk_at "m args"
    intro _ _ _ _ _ _ _
    (try dsimp only)
    (try k_fold)))
  trivial
theorem rdiv_ok (w : World) (c : Int) (x y : Value) (news : Ledger) (ha : RatIn news c x) (hb : RatIn news 1 y) : Told w 100 [x, y] news 3 (fun ns v => RatIn ns c v) := by
  obtain ⟨a1, t1, t2, rfl, ha⟩ := ha
  obtain ⟨b1, u1, u2, rfl, hb⟩ := hb
  unfold Told
  intro mean mg mb dp un gd cn cs a ccd cl outer A₀ base h₀ L m s Q E B F X N T hk hdp hun hret
  refine wpAny_call ?_
  k_dflt cell_enter
  k_steps
  exact told_end_rat hret (by assumption) (by assumption) (by walk_at "m mem") (by simp) (by simp) (by walk_at "m sub")
theorem lines_8 : True := by
  k_with "X:call ref" => (k_here; k_dflt (
    refine' told_rat (rdiv_ok _ _ _ _ _ ?zqha ?zqhb) ?zqk1 ?zqk2 ?zqk3 ?zqk4 ?zqk5 ?zqkK ?zqkd ?zqku ?_
    (case zqha => walk_at "m rel")
    (case zqhb => walk_at "m rel")
    walk_at "m args"
    intro _ _ _ _ _ _ _
    (try dsimp only)
    (try k_fold)))
  trivial
theorem rneg_ok (w : World) (c : Int) (x : Value) (news : Ledger) (ha : RatIn news c x) : Told w 107 [x] news 1 (fun ns v => RatIn ns (-c) v) := by
  obtain ⟨a1, t1, t2, rfl, ha⟩ := ha
  unfold Told
  intro mean mg mb dp un gd cn cs a ccd cl outer A₀ base h₀ L m s Q E B F X N T hk hdp hun hret
  refine wpAny_call ?_
  k_dflt cell_enter
  k_steps
  exact told_end_rat hret (by assumption) (by assumption) (by walk_at "m mem") (by simp) (by simp) (by walk_at "m sub")
theorem lines_9 : True := by
  k_with "X:call ref" => (k_here; k_dflt (
    refine' told_rat (rneg_ok _ _ _ _ ?zqha) ?zqk1 ?zqk2 ?zqk3 ?zqk4 ?zqk5 ?zqkK ?zqkd ?zqku ?_
    (case zqha => walk_at "m rel")
    walk_at "m args"
    intro _ _ _ _ _ _ _
    (try dsimp only)
    (try k_fold)))
  trivial
theorem rinv_ok (w : World) (x : Value) (news : Ledger) (ha : RatIn news 1 x) : Told w 114 [x] news 3 (fun ns v => RatIn ns 1 v) := by
  obtain ⟨a1, t1, t2, rfl, ha⟩ := ha
  unfold Told
  intro mean mg mb dp un gd cn cs a ccd cl outer A₀ base h₀ L m s Q E B F X N T hk hdp hun hret
  refine wpAny_call ?_
  k_dflt cell_enter
  k_steps
  exact told_end_rat hret (by assumption) (by assumption) (by walk_at "m mem") (by simp) (by simp) (by walk_at "m sub")

theorem lines_10 : True := by
  k_with "X:call ref" => (k_here; k_dflt (
    refine' told_rat (rinv_ok _ _ _ ?zqha) ?zqk1 ?zqk2 ?zqk3 ?zqk4 ?zqk5 ?zqkK ?zqkd ?zqku ?_
    (case zqha => walk_at "m rel")
    walk_at "m args"
    intro _ _ _ _ _ _ _
    (try dsimp only)
    (try k_fold)))
  trivial
theorem lines_11 : True := by
  k_with_none
  k_with "X:m sub" => (intro p hp; (repeat (first | exact hp | refine List.mem_append_right _ ?_ | refine List.Mem.tail _ ?_)))
  k_with "X:m mem" => (repeat (first | assumption | exact List.Mem.head _ | refine List.mem_append_right _ ?_ | refine List.Mem.tail _ ?_))
  k_with "X:m rel" => first | assumption | exact RatIn.mono (by assumption) (by walk_at "m sub") | exact ⟨_, _, _, rfl, by walk_at "m mem"⟩
  k_with "X:m args" => (
    (case zqk1 => k_asm)
    (case zqk2 => k_asm)
    (case zqk3 => k_asm)
    (case zqk4 => k_asm)
    (case zqk5 => k_asm)
    (case zqkK => first | exact rfl | assumption)
    (case zqkd => ktr_room)
    (case zqku => ktr_units))
  k_with "X:call ref" => (k_here; k_dflt (
    refine' told_int (gcd_ok _ _ _ _ _) ?zqk1 ?zqk2 ?zqk3 ?zqk4 ?zqk5 ?zqkK ?zqkd ?zqku ?_
    walk_at "m args"
    intro _ _ _ _ _
    (try dsimp only)
    (try k_fold)))
  k_with "X:call ref" => (k_here; k_dflt (
    refine' told_rat (rat_ok _ _ _ ?zqh0 _ _ _) ?zqk1 ?zqk2 ?zqk3 ?zqk4 ?zqk5 ?zqkK ?zqkd ?zqku ?_
    (case zqh0 => (first | rfl | simp))
    walk_at "m args"
    intro _ _ _ _ _ _ _
    (try dsimp only)
    (try k_fold)))
  k_with "X:call ref" => (k_here; k_dflt (
    refine' told_rat (radd_ok _ _ _ _ _ _ ?zqha ?zqhb) ?zqk1 ?zqk2 ?zqk3 ?zqk4 ?zqk5 ?zqkK ?zqkd ?zqku ?_
    (case zqha => walk_at "m rel")
    (case zqhb => walk_at "m rel")
    walk_at "m args"
    intro _ _ _ _ _ _ _
    (try dsimp only)
    (try k_fold)))
  k_with "X:call ref" => (k_here; k_dflt (
    refine' told_rat (rmul_ok _ _ _ _ _ _ ?zqha ?zqhb ?zqhm) ?zqk1 ?zqk2 ?zqk3 ?zqk4 ?zqk5 ?zqkK ?zqkd ?zqku ?_
    (case zqha => walk_at "m rel")
    (case zqhb => walk_at "m rel")
    (case zqhm => first | assumption | mul_fits)
    walk_at "m args"
    intro _ _ _ _ _ _ _
    (try dsimp only)
    (try k_fold)))
  k_with "X:call ref" => (k_here; k_dflt (
    refine' told_rat (rdiv_ok _ _ _ _ _ ?zqha ?zqhb) ?zqk1 ?zqk2 ?zqk3 ?zqk4 ?zqk5 ?zqkK ?zqkd ?zqku ?_
    (case zqha => walk_at "m rel")
    (case zqhb => walk_at "m rel")
    walk_at "m args"
    intro _ _ _ _ _ _ _
    (try dsimp only)
    (try k_fold)))
  k_with "X:call ref" => (k_here; k_dflt (
    refine' told_rat (rneg_ok _ _ _ _ ?zqha) ?zqk1 ?zqk2 ?zqk3 ?zqk4 ?zqk5 ?zqkK ?zqkd ?zqku ?_
    (case zqha => walk_at "m rel")
    walk_at "m args"
    intro _ _ _ _ _ _ _
    (try dsimp only)
    (try k_fold)))
  k_with "X:call ref" => (k_here; k_dflt (
    refine' told_rat (rinv_ok _ _ _ ?zqha) ?zqk1 ?zqk2 ?zqk3 ?zqk4 ?zqk5 ?zqkK ?zqkd ?zqku ?_
    (case zqha => walk_at "m rel")
    walk_at "m args"
    intro _ _ _ _ _ _ _
    (try dsimp only)
    (try k_fold)))
  trivial
set_option maxRecDepth 100000
set_option maxHeartbeats 8000000

theorem is_vast_no {c : Int} (h1 : -18446744073709551616 < c) (h2 : c < 18446744073709551616) : ¬ ((2 : Int) ^ Int.toNat 64 ≤ if 1 > (if c < 0 then -c else c) then 1 else if c < 0 then -c else c) := by
  have e : (2 : Int) ^ Int.toNat 64 = 18446744073709551616 := by decide
  rw [e]
  split <;> split <;> omega
theorem is_vast_ok (w : World) (c : Int) (x : Value) (news : Ledger) (ha : RatIn news c x) (h1 : -18446744073709551616 < c) (h2 : c < 18446744073709551616) : Told w 121 [x] news 2 (fun _ v => v = .bool false) := by
  obtain ⟨a1, t1, t2, rfl, ha⟩ := ha
  unfold Told
  intro mean mg mb dp un gd cn cs a ccd cl outer A₀ base h₀ L m s Q E B F X N T hk hdp hun hret
  refine wpAny_call ?_
  k_dflt cell_enter
  k_steps
  · exact absurd (by assumption) (is_vast_no h1 h2)
  · exact told_end_val hret (by assumption) (by assumption) (by walk_at "m sub") (by rw [decide_eq_false (is_vast_no h1 h2)])
theorem lines_12 : True := by
  k_with "X:call ref" => (k_here; k_dflt (
    refine' told_val (is_vast_ok _ _ _ _ ?zqha ?zqhb ?zqhc) ?zqk1 ?zqk2 ?zqk3 ?zqk4 ?zqk5 ?zqkK ?zqkd ?zqku ?_
    (case zqha => walk_at "m rel")
    (case zqhb => first | assumption | omega)
    (case zqhc => first | assumption | omega)
    walk_at "m args"
    intro _ _ _ _
    (try dsimp only)
    (try k_fold)))
  trivial
theorem order_key_ok (w : World) (x : Value) (t : Tok) (news : Ledger) : Told w 39 [.str (Str.ofString "lex") t, x] news 1 (fun _ v => v = x) := by
  unfold Told
  intro mean mg mb dp un gd cn cs a ccd cl outer A₀ base h₀ L m s Q E B F X N T hk hdp hun hret
  refine wpAny_call ?_
  k_dflt cell_enter
  k_steps
  exact told_end_val hret (by assumption) (by assumption) (by walk_at "m sub") rfl

theorem lines_13 : True := by
  k_with "X:call ref" => (k_here; k_dflt (
    refine' told_val (order_key_ok _ _ _ _) ?zqk1 ?zqk2 ?zqk3 ?zqk4 ?zqk5 ?zqkK ?zqkd ?zqku ?_
    walk_at "m args"
    intro _ _ _ _
    (try dsimp only)
    (try k_fold)))
  trivial
theorem lines_14 : True := by
  k_with_none
  k_with "X:m sub" => (intro p hp; (repeat (first | exact hp | refine List.mem_append_right _ ?_ | refine List.Mem.tail _ ?_)))
  k_with "X:m mem" => (repeat (first | assumption | exact List.Mem.head _ | refine List.mem_append_right _ ?_ | refine List.Mem.tail _ ?_))
  k_with "X:m rel" => first | assumption | exact RatIn.mono (by assumption) (by walk_at "m sub") | exact ⟨_, _, _, rfl, by walk_at "m mem"⟩
  k_with "X:m args" => (
    (case zqk1 => k_asm)
    (case zqk2 => k_asm)
    (case zqk3 => k_asm)
    (case zqk4 => k_asm)
    (case zqk5 => k_asm)
    (case zqkK => first | exact rfl | assumption)
    (case zqkd => ktr_room)
    (case zqku => ktr_units))
  trivial
section PKit1
set_option maxRecDepth 100000
set_option maxHeartbeats 2000000
open PyProof.Rows.LCg (NsObj lst ns_obj lst_snoc)

/-- the entries of ns stand off the addresses as -/
def Off (as : List Addr) (ns : Ledger) : Prop := ∀ p ∈ ns, p.1 ∉ as
/-- no tuple -/
def NT (o : Obj) : Prop := ∀ vs, o ≠ tupO vs
theorem NT.cls {o : Obj} (h : o.cls ≠ .type "tuple") : NT o := fun _ e => h (e ▸ rfl)
theorem NT.type {o : Obj} {t : String} (h : o.cls = .type t) (ht : t ≠ "tuple") : NT o := NT.cls (h ▸ fun e => ht (by injection e))
theorem NT.dict {o : Obj} {es : Array DictEntry} {ep : Nat} (h : o.data = .dict es ep) : NT o := fun _ e => by rw [e] at h; cases h
theorem NT.ns {o : Obj} {m : Str → Option Value} (h : NsObj o m) : NT o := let ⟨_, _, h, _⟩ := h; NT.dict h
theorem NT.lst (ys : List Value) : NT (lst ys) := NT.type rfl (by decide)
def AllTup (tl : Ledger) : Prop := ∀ p ∈ tl, ∃ vs, p.2 = tupO vs
/-- the objects at as stand in own and are no tuples -/
def Apart (as : List Addr) (own : Ledger) : Prop := ∀ b ∈ as, ∃ o, (b, o) ∈ own ∧ NT o
theorem off_tups {h₀ h : Heap} {L : Addr} {as : List Addr} {own all tl : Ledger} (N : News h₀ L h all) (hA : Apart as own) (hs : ∀ p ∈ own, p ∈ all) (ht : AllTup tl) (hs2 : ∀ p ∈ tl, p ∈ all) : Off as tl := fun p hp hb => by
  obtain ⟨o, ho, hn⟩ := hA _ hb
  obtain ⟨vs, e⟩ := ht p hp
  have e1 := (N _ (hs _ ho)).1
  have e2 := (N _ (hs2 _ hp)).1
  rw [e1] at e2
  exact hn vs ((Option.some.inj e2).trans e)
theorem off_app {as : List Addr} {a b : Ledger} (h1 : Off as a) (h2 : Off as b) : Off as (a ++ b) := fun p hp => (List.mem_append.mp hp).elim (h1 p) (h2 p)

section
variable {prog : Program} {w : World} {A : Around} {E : Value → Shared → Prop} {s : Shared} {h₀ : Heap} {L : Addr} {m : Str → Option Value} {env : Env}

/-- the end of a turn of a comprehension: fix stands as it stood, what else is known is news' -/
def TurnEnd (h₀ : Heap) (L : Addr) (m : Str → Option Value) (s₁ : Shared) (fix : Ledger) (as : List Addr) (rest : Ledger → Prop) (s₂ : Shared) : Prop :=
  ∃ h' tk news', s₂ = { s₁ with heap := h', toks := tk } ∧ Fr h₀ L h' m ∧ News h₀ L h' (fix ++ news') ∧ Off as news' ∧ rest news'
theorem TurnEnd.intro {s₁ : Shared} {fix all : Ledger} {as : List Addr} {rest : Ledger → Prop} {h' : Heap} {tk : Nat}
    (F : Fr h₀ L h' m) (N : News h₀ L h' all) (news' : Ledger) (sub : ∀ p ∈ fix ++ news', p ∈ all) (off : Off as news') (r : rest news') :
    TurnEnd h₀ L m s₁ fix as rest { s₁ with heap := h', toks := tk } := ⟨h', tk, news', rfl, F, fun p hp => N p (sub p hp), off, r⟩

theorem fresh_above {h : Heap} (F : Fr h₀ L h m) {a : Addr} (ha : h.objs.size ≤ a) : h₀.get? a = none := by
  cases e : h₀.get? a with
  | none => rfl
  | some o => exact absurd (Heap.lt_size (F.keep a o e)) (Nat.not_lt.mpr ha)

/-- a list comprehension over any iterator of KTurns, by an invariant J over the turn's number, the list so far and the ledger -/
theorem lc_block {target elt iter : Expr} {scope : Scope} {cl : List (Str × Addr)} {pos : Pos} {s₂ : Shared} {I : Addr} {fp wr : List Addr} {n : Nat} {P Md : Nat → Value → Heap → Prop} {St : Nat → Heap → Prop} {news : Ledger} {RR : Value → Addr → Result → Shared → Prop}
    {PX : Nat → (Str → Option Value) → Prop}
    (W : KTurns prog w A target I fp wr n P Md St)
    (self : ∀ (s : Shared) (Q : Value → Shared → Prop) (E : Value → Shared → Prop), St 0 s.heap → Q (.ref I) s → wpAny (model prog w) A (pyIter (.ref I)) Q E s)
    (hsz : n ≤ sizeLine) (hcell : ∀ y ∈ scope.names, y.2 ≠ .cell) (hkind : scope.kind = .function)
    (hst : St 0 s₂.heap) (hfp : ∀ b ∈ fp, b < s₂.heap.objs.size) (F : Fr h₀ L s₂.heap m) (N : News h₀ L s₂.heap news)
    (hLf : L ∉ fp) (hwr : ∀ b ∈ wr, h₀.get? b = none) (off : Off wr news)
    (asg : ∀ i v C (h : Heap) tk mC (Q : Unit → Shared → Prop) (E' : Value → Shared → Prop), P i v h → h.Ns C mC →
      (∀ h' tk' mC', PX i mC' → h'.Ns C mC' → (∀ c o, c ≠ C → h.get? c = some o → h'.get? c = some o) → Q () { s₂ with heap := h', toks := tk' }) →
      wpAny (model prog w) A (assign target (compEnvC scope cl C env) v) Q E' { s₂ with heap := h, toks := tk })
    (J : Nat → List Value → Ledger → Prop) (h0 : J 0 [] news)
    (step : ∀ i ys news₁ own C oC D mC h tk (E' : Value → Shared → Prop), i < n → J i ys news₁ → PX i mC → NsObj oC mC → Fr h₀ L h m → News h₀ L h (((C, oC) :: (D, lst ys) :: own) ++ news₁) → Off (C :: D :: wr) news₁ → ((∀ i h, St i h → ∀ b ∈ wr, ∃ o, h.get? b = some o ∧ NT o) → Apart (C :: D :: wr) ((C, oC) :: (D, lst ys) :: own)) →
      wpAny (model prog w) A (eval elt (compEnvC scope cl C env)) (fun y => TurnEnd h₀ L m { s₂ with heap := h, toks := tk } ((C, oC) :: (D, lst ys) :: own) (C :: D :: wr) (fun news' => J (i + 1) (ys ++ [y]) news')) E' { s₂ with heap := h, toks := tk })
    (hRR : ∀ D C h tk m' ys news', Fr h₀ L h m → News h₀ L h ((D, lst ys) :: news') → Off (C :: D :: wr) news' → h.Ns C m' → h₀.get? C = none → h₀.get? D = none → C ≠ L → D ≠ L → C ≠ D → J n ys news' → RR (.ref D) C (.ok .next) { s₂ with heap := h, toks := tk }) :
    wpAny (model prog w) A (newList []) (fun acc s₃ => wpAny (model prog w) A (newFunctionEnv scope env.globals cl [] env.qual none .none (some env)) (fun cenv s₄ =>
      codeAny (model prog w) A (.compStart (.ListComp elt [⟨target, iter, [], 0⟩] scope pos) 0 (.ref I) acc { cenv with scope := relabel scope env }) (RR acc cenv.locals) s₄) E s₃) E s₂ := by
  refine wpAny_newObj_type (wpAny_newFunctionEnv hcell (by intro y hy; simp at hy) (fun h₁ hns₁ hsb₁ => ?_) hkind)
  dsimp only at hns₁ hsb₁ ⊢
  generalize hH2 : s₂.heap.push { cls := .type "list", dict := none, data := .seq ([] : List Value).toArray } = H2 at hns₁ hsb₁ ⊢
  have hC : H2.objs.size = s₂.heap.objs.size + 1 := by rw [← hH2, Heap.size_push]
  have hDC : s₂.heap.objs.size ≠ H2.objs.size := by rw [hC]; exact Nat.ne_of_lt (Nat.lt_succ_self _)
  have hLlt : L < s₂.heap.objs.size := F.ns.lt
  have hDf : s₂.heap.objs.size ∉ fp := fun hm => Nat.lt_irrefl _ (hfp _ hm)
  have hCf : H2.objs.size ∉ fp := fun hm => by have := hfp _ hm; rw [hC] at this; exact Nat.lt_irrefl _ (Nat.lt_of_succ_lt this)
  have old : ∀ b o, s₂.heap.get? b = some o → h₁.get? b = some o := fun b o e =>
    hsb₁.extBut b o (by have := Heap.lt_size e; rw [hC]; exact Nat.ne_of_lt (Nat.lt_succ_of_lt this)) (Heap.get?_push_of_some _ (hH2 ▸ Heap.get?_push_of_some _ e))
  have hacc : h₁.get? s₂.heap.objs.size = some (lst []) := hsb₁.extBut _ _ hDC (Heap.get?_push_of_some _ (hH2 ▸ Heap.get?_push_size _ rfl))
  have hD₀ : h₀.get? s₂.heap.objs.size = none := fresh_above F (Nat.le_refl _)
  have hC₀ : h₀.get? H2.objs.size = none := fresh_above F (by rw [hC]; exact Nat.le_succ _)
  have hDL : s₂.heap.objs.size ≠ L := Nat.ne_of_gt hLlt
  have hCL : H2.objs.size ≠ L := by rw [hC]; exact Nat.ne_of_gt (Nat.lt_succ_of_lt hLlt)
  have hst₁ : St 0 h₁ := W.frame _ _ _ hst fun b _ o e => old b o e
  have hDw : s₂.heap.objs.size ∉ wr := fun h => hDf (W.sub _ h)
  have hCw : H2.objs.size ∉ wr := fun h => hCf (W.sub _ h)
  have hLw : L ∉ wr := fun h => hLf (W.sub _ h)
  have off₀ : Off (H2.objs.size :: s₂.heap.objs.size :: wr) news := fun p hp => by
    have h1 := Heap.lt_size (N p hp).1
    have h2 := off p hp
    simp only [List.mem_cons, not_or]
    exact ⟨by rw [hC]; exact Nat.ne_of_lt (Nat.lt_succ_of_lt h1), Nat.ne_of_lt h1, h2⟩
  have keepB : ∀ {h h' : Heap}, (∀ b o, b ∉ wr → h.get? b = some o → h'.get? b = some o) → Fr h₀ L h m → Fr h₀ L h' m := fun {h h'} hk F' =>
    ⟨F'.ns.at' fun o e => hk _ o hLw e, fun b o e => hk b o (fun hb => by rw [hwr b hb] at e; cases e) (F'.keep b o e), F'.above⟩
  have newsB : ∀ {h h' : Heap} {ns : Ledger}, (∀ b o, b ∉ wr → h.get? b = some o → h'.get? b = some o) → Off wr ns → News h₀ L h ns → News h₀ L h' ns := fun hk ho N' p hp =>
    ⟨hk _ _ (ho p hp) (N' p hp).1, (N' p hp).2⟩
  have loop : ∀ s₃ : Shared, s₃ = { s₂ with heap := h₁, toks := s₂.toks + ([] : List (Str × Value)).length } →
      codeAny (model prog w) A (.compLoop (.ListComp elt [⟨target, iter, [], 0⟩] scope pos) 0 (.ref I) (.ref s₂.heap.objs.size) (compEnvC scope cl H2.objs.size env)) (RR (.ref s₂.heap.objs.size) H2.objs.size) s₃ := by
    rintro s₃ rfl
    refine kcp_loop
      (fun k s' => ∃ h' tk i ys m' news', s' = { s₂ with heap := h', toks := tk } ∧ i ≤ n ∧ k = n + 1 - i ∧ ys.length = i ∧ St i h' ∧ Fr h₀ L h' m ∧ h'.Ns H2.objs.size m' ∧
        News h₀ L h' ((s₂.heap.objs.size, lst ys) :: news') ∧ Off (H2.objs.size :: s₂.heap.objs.size :: wr) news' ∧ J i ys news') ?_ (n + 1)
      ⟨h₁, _, 0, [], _, news, rfl, Nat.zero_le _, rfl, rfl, hst₁, F.keeps old, hns₁, ?_, off₀, h0⟩
    · rintro k s' ⟨h', tk, i, ys, m', news', rfl, hi, rfl, hyl, hst', F', hn', N', off', hJ⟩
      have offw : Off wr ((s₂.heap.objs.size, lst ys) :: news') := fun p hp => by
        rcases List.mem_cons.mp hp with rfl | hp
        · exact hDw
        · exact fun h => off' p hp (List.mem_cons_of_mem _ (List.mem_cons_of_mem _ h))
      by_cases hlt : i < n
      · refine W.item i _ _ _ hlt hst' fun v h₂ tk₂ hMd hk₂ => ?_
        refine W.go i v _ _ _ hMd fun h₃ hP hst₃ hk₃ => ?_
        have up₃ : ∀ b o, b ∉ wr → h'.get? b = some o → h₃.get? b = some o := fun b o hb e => hk₃ b o hb (hk₂ b o hb e)
        refine asg i v H2.objs.size h₃ tk₂ m' _ _ hP (hn'.at' fun o e => up₃ _ o hCw e) fun h₄ tk₄ mC hPX hn₄ hk₄ => ?_
        have up₄ : ∀ b o, b ∉ wr → b ≠ H2.objs.size → h'.get? b = some o → h₄.get? b = some o := fun b o hb hc e => hk₄ b o hc (up₃ b o hb e)
        have F₃ := keepB up₃ F'
        have F₄ : Fr h₀ L h₄ m := ⟨F₃.ns.at' fun o e => hk₄ _ o (Ne.symm hCL) e, fun b o e => hk₄ b o (fun q => by rw [q, hC₀] at e; cases e) (F₃.keep b o e), F₃.above⟩
        have hst₄ : St (i + 1) h₄ := W.frame _ _ _ hst₃ fun b hb o e => hk₄ b o (fun q => hCf (q ▸ hb)) e
        obtain ⟨oC, heC, hoC⟩ := ns_obj hn₄
        have N₃ := newsB up₃ offw N'
        have N₄ : News h₀ L h₄ (((H2.objs.size, oC) :: (s₂.heap.objs.size, lst ys) :: PyProof.Rows.ownOf h₀ fp h₄) ++ news') := fun p hp => by
          rcases List.mem_append.mp hp with hp | hp
          · rcases List.mem_cons.mp hp with rfl | hp
            · exact ⟨heC, hCL, hC₀⟩
            · rcases List.mem_cons.mp hp with rfl | hp
              · exact ⟨hk₄ _ _ hDC (N₃ _ List.mem_cons_self).1, hDL, hD₀⟩
              · exact news_ownOf hLf p hp
          · have z := N₃ p (List.mem_cons_of_mem _ hp)
            exact ⟨hk₄ _ _ (fun q => off' p hp (by rw [q]; exact List.mem_cons_self)) z.1, z.2⟩
        have hA : (∀ i h, St i h → ∀ b ∈ wr, ∃ o, h.get? b = some o ∧ NT o) → Apart (H2.objs.size :: s₂.heap.objs.size :: wr) ((H2.objs.size, oC) :: (s₂.heap.objs.size, lst ys) :: PyProof.Rows.ownOf h₀ fp h₄) := by
          intro hc b hb
          rcases List.mem_cons.mp hb with rfl | hb
          · exact ⟨oC, List.mem_cons_self, NT.ns hoC⟩
          · rcases List.mem_cons.mp hb with rfl | hb
            · exact ⟨_, List.mem_cons_of_mem _ List.mem_cons_self, NT.lst ys⟩
            · obtain ⟨o, e, hn⟩ := hc _ _ hst₄ b hb
              exact ⟨o, List.mem_cons_of_mem _ (List.mem_cons_of_mem _ (mem_ownOf (W.sub b hb) (hwr b hb) e)), hn⟩
        refine wpAny_mono (step i ys news' _ H2.objs.size oC s₂.heap.objs.size mC h₄ tk₄ _ hlt hJ hPX hoC F₄ N₄ off' hA) (fun y s₅ h₅ => ?_) fun _ _ e => e
        obtain ⟨h₅, tk₅, news₅, rfl, F₅, N₅, off₅, hJ₅⟩ := h₅
        have zC := (N₅ (H2.objs.size, oC) List.mem_cons_self).1
        have zD := (N₅ (s₂.heap.objs.size, lst ys) (List.mem_cons_of_mem _ List.mem_cons_self)).1
        have hst₅ : St (i + 1) h₅ := by
          refine W.frame _ _ _ hst₄ fun b hb o e => ?_
          cases hq : h₀.get? b with
          | some o₀ =>
            have : o₀ = o := by have q := F₄.keep b o₀ hq; rw [e] at q; exact (Option.some.inj q).symm
            exact this ▸ F₅.keep b o₀ hq
          | none => exact (N₅ _ (List.mem_append_left _ (List.mem_cons_of_mem _ (List.mem_cons_of_mem _ (mem_ownOf hb hq e))))).1
        refine append_at (hsz := by show ys.toArray.size ≤ sizeLine; rw [List.size_toArray, hyl]; exact Nat.le_trans hi hsz) zD fun h₆ hs₆ hD₆ => ?_
        refine ⟨n + 1 - (i + 1), by omega, h₆, tk₅, i + 1, ys ++ [y], _, news₅, rfl, hlt, rfl, by rw [List.length_append, List.length_singleton, hyl],
          W.frame _ _ _ hst₅ fun b hb o e => hs₆.extBut b o (fun q => hDf (q ▸ hb)) e, F₅.change hs₆ hDL hD₀, (hoC.ns zC).sameBut hs₆ (Ne.symm hDC), fun q hq => ?_, off₅, hJ₅⟩
        rcases List.mem_cons.mp hq with rfl | hq
        · exact ⟨hD₆.trans (congrArg some (lst_snoc ys y)), hDL, hD₀⟩
        · have z := N₅ q (List.mem_append_right _ hq)
          exact ⟨hs₆.extBut _ _ (fun e => off₅ q hq (by rw [e]; exact List.mem_cons_of_mem _ List.mem_cons_self)) z.1, z.2⟩
      · obtain rfl : i = n := Nat.le_antisymm hi (Nat.not_lt.mp hlt)
        refine W.done _ _ _ hst' fun h₂ tk₂ hk₂ => ?_
        exact hRR s₂.heap.objs.size H2.objs.size h₂ tk₂ m' ys news' (keepB hk₂ F') (newsB hk₂ offw N') off' (hn'.at' fun o e => hk₂ _ o hCw e) hC₀ hD₀ hCL hDL (Ne.symm hDC) hJ
    · intro p hp
      rcases List.mem_cons.mp hp with rfl | hp
      · exact ⟨hacc, hDL, hD₀⟩
      · exact ⟨old _ _ (N p hp).1, (N p hp).2⟩
  exact codeAny_compStart_list (loop _ rfl) (self _ _ _ hst₁ (loop _ rfl))

/-- what an iterator must bring for a list comprehension -/
def LcAt (prog : Program) (w : World) (A : Around) (h₀ : Heap) (L : Addr) (m : Str → Option Value) (env : Env) (target elt : Expr) (scope : Scope) (cl : List (Str × Addr)) (Q : Value → Shared → Prop) (it : Value) (s₂ : Shared) : Prop :=
  ∃ (I : Addr) (fp wr : List Addr) (n : Nat) (P Md : Nat → Value → Heap → Prop) (St : Nat → Heap → Prop) (news : Ledger) (PX : Nat → (Str → Option Value) → Prop) (J : Nat → List Value → Ledger → Prop),
    it = .ref I ∧ KTurns prog w A target I fp wr n P Md St ∧
    (∀ (s : Shared) (Q : Value → Shared → Prop) (E : Value → Shared → Prop), St 0 s.heap → Q (.ref I) s → wpAny (model prog w) A (pyIter (.ref I)) Q E s) ∧
    n ≤ sizeLine ∧ St 0 s₂.heap ∧ (∀ b ∈ fp, b < s₂.heap.objs.size) ∧ Fr h₀ L s₂.heap m ∧ News h₀ L s₂.heap news ∧ L ∉ fp ∧ (∀ b ∈ wr, h₀.get? b = none) ∧ Off wr news ∧
    (∀ i v C (h : Heap) tk mC (Q : Unit → Shared → Prop) (E' : Value → Shared → Prop), P i v h → h.Ns C mC →
      (∀ h' tk' mC', PX i mC' → h'.Ns C mC' → (∀ c o, c ≠ C → h.get? c = some o → h'.get? c = some o) → Q () { s₂ with heap := h', toks := tk' }) →
      wpAny (model prog w) A (assign target (compEnvC scope cl C env) v) Q E' { s₂ with heap := h, toks := tk }) ∧
    J 0 [] news ∧
    (∀ i ys news₁ own C oC D mC h tk (E' : Value → Shared → Prop), i < n → J i ys news₁ → PX i mC → NsObj oC mC → Fr h₀ L h m → News h₀ L h (((C, oC) :: (D, lst ys) :: own) ++ news₁) → Off (C :: D :: wr) news₁ → ((∀ i h, St i h → ∀ b ∈ wr, ∃ o, h.get? b = some o ∧ NT o) → Apart (C :: D :: wr) ((C, oC) :: (D, lst ys) :: own)) →
      wpAny (model prog w) A (eval elt (compEnvC scope cl C env)) (fun y => TurnEnd h₀ L m { s₂ with heap := h, toks := tk } ((C, oC) :: (D, lst ys) :: own) (C :: D :: wr) (fun news' => J (i + 1) (ys ++ [y]) news')) E' { s₂ with heap := h, toks := tk }) ∧
    ∀ D h tk ys news', Fr h₀ L h m → News h₀ L h ((D, lst ys) :: news') → Off [D] news' → J n ys news' → Q (.ref D) { s₂ with heap := h, toks := tk }

theorem lc_eval {target elt iter : Expr} {scope : Scope} {cl : List (Str × Addr)} {pos : Pos} {Q : Value → Shared → Prop}
    (_F₀ : Fr h₀ L s.heap m) (hclos : closureFor scope env = pure cl) (hcell : ∀ y ∈ scope.names, y.2 ≠ .cell) (hkind : scope.kind = .function)
    (hnames : ∀ y ∈ scope.names, y.2 = .local → scope.names.lookup y.1 = some .local)
    (h : wpAny (model prog w) A (eval iter env) (fun xv s₁ => wpAny (model prog w) A (pyIter xv) (LcAt prog w A h₀ L m env target elt scope cl Q) E s₁) E s)
    (hs : ∀ x, foldedSetIterable iter env x = pure x := by intro _; rfl) :
    wpAny (model prog w) A (eval (.ListComp elt [⟨target, iter, [], 0⟩] scope pos) env) Q E s := by
  rw [eval_ListComp]
  refine wpAny_comprehension_free (use := none) rfl hs hclos hkind hnames (wpAny_mono h (fun xv s₁ h₁ => wpAny_mono h₁ (fun it s₂ h₂ => ?_) fun _ _ e => e) fun _ _ e => e)
  obtain ⟨I, fp, wr, n, P, Md, St, news, PX, J, rfl, W, self, hsz, hst, hfp, F, N, hLf, hwr, off, asg, h0, step, fin⟩ := h₂
  refine lc_block W self hsz hcell hkind hst hfp F N hLf hwr off asg J h0 step ?_
  intro D C h tk m' ys news' F' N' off' hn hC₀ hD₀ hCL hDL hCD hJ
  refine ⟨m', hn, fun h'' hs'' => fin D h'' tk ys news' (F'.change hs'' hCL hC₀) (fun p hp => ?_) (fun p hp => ?_) hJ⟩
  · refine ⟨hs''.extBut _ _ ?_ (N' p hp).1, (N' p hp).2⟩
    rcases List.mem_cons.mp hp with rfl | hp
    · exact Ne.symm hCD
    · exact fun e => off' p hp (by rw [e]; exact List.mem_cons_self)
  · intro h
    rw [List.mem_singleton] at h
    exact off' p hp (by rw [h]; exact List.mem_cons_of_mem _ List.mem_cons_self)
end
end PKit1
section PKit2
set_option maxRecDepth 100000
set_option maxHeartbeats 2000000
open PyProof.Rows.LCg (NsObj lst ns_obj lst_snoc)
section
variable {prog : Program} {w : World} {A : Around} {E : Value → Shared → Prop} {s : Shared} {h₀ : Heap} {L : Addr} {m : Str → Option Value} {env : Env}

/-- a dict comprehension over any iterator, by an invariant J over the turn's number, the dict's object and the ledger -/
theorem dc_block {kx vx iter : Expr} {x : Str} {px : Pos} {scope : Scope} {cl : List (Str × Addr)} {pos : Pos} {s₂ : Shared} {I : Addr} {fp wr : List Addr} {n : Nat} {P : Nat → Value → Prop} {St : Nat → Heap → Prop} {news : Ledger} {RR : Value → Addr → Result → Shared → Prop}
    (W : Walks prog w A I fp wr n P St)
    (hcell : ∀ y ∈ scope.names, y.2 ≠ .cell) (hkind : scope.kind = .function) (hx : scope.names.lookup x = some .local)
    (hst : St 0 s₂.heap) (hfp : ∀ b ∈ fp, b < s₂.heap.objs.size) (F : Fr h₀ L s₂.heap m) (N : News h₀ L s₂.heap news)
    (hLf : L ∉ fp) (hwr : ∀ b ∈ wr, h₀.get? b = none) (off : Off wr news)
    (J : Nat → Obj → Ledger → Prop) (h0 : J 0 { cls := .type "dict", data := .dict #[] } news)
    (step : ∀ i v oD news₁ own C oC D mC h tk (E' : Value → Shared → Prop), i < n → P i v → J i oD news₁ → mC x = some v → NsObj oC mC → Fr h₀ L h m → News h₀ L h (((C, oC) :: own) ++ (D, oD) :: news₁) → Off (C :: D :: wr) news₁ → D ∉ wr → C ∉ wr → C ≠ D → Off [D] own → ((∀ i h, St i h → ∀ b ∈ wr, ∃ o, h.get? b = some o ∧ NT o) → Apart (C :: wr) ((C, oC) :: own)) →
      wpAny (model prog w) A (eval kx (compEnvC scope cl C env)) (fun kv s₄ => wpAny (model prog w) A (eval vx (compEnvC scope cl C env)) (fun vv s₅ => wpAny (model prog w) A (dictSet D kv vv)
        (fun _ => TurnEnd h₀ L m { s₂ with heap := h, toks := tk } ((C, oC) :: own) [] (fun news' => ∃ oD' news₂, news' = (D, oD') :: news₂ ∧ Off (C :: D :: wr) news₂ ∧ J (i + 1) oD' news₂)) E' s₅) E' s₄) E' { s₂ with heap := h, toks := tk })
    (hRR : ∀ D C h tk m' oD news', Fr h₀ L h m → News h₀ L h ((D, oD) :: news') → Off (C :: D :: wr) news' → h.Ns C m' → h₀.get? C = none → h₀.get? D = none → C ≠ L → D ≠ L → C ≠ D → J n oD news' → (∀ p ∈ news, p.1 < D) → h₀.objs.size ≤ D → RR (.ref D) C (.ok .next) { s₂ with heap := h, toks := tk }) :
    wpAny (model prog w) A newDict (fun acc s₃ => wpAny (model prog w) A (newFunctionEnv scope env.globals cl [] env.qual none .none (some env)) (fun cenv s₄ =>
      codeAny (model prog w) A (.compStart (.DictComp kx vx [⟨.Name x px, iter, [], 0⟩] scope pos) 0 (.ref I) acc { cenv with scope := relabel scope env }) (RR acc cenv.locals) s₄) E s₃) E s₂ := by
  refine wpAny_newObj_type (wpAny_newFunctionEnv hcell (by intro y hy; simp at hy) (fun h₁ hns₁ hsb₁ => ?_) hkind)
  dsimp only at hns₁ hsb₁ ⊢
  generalize hH2 : s₂.heap.push { cls := .type "dict", dict := none, data := .dict #[] } = H2 at hns₁ hsb₁ ⊢
  have hC : H2.objs.size = s₂.heap.objs.size + 1 := by rw [← hH2, Heap.size_push]
  have hDC : s₂.heap.objs.size ≠ H2.objs.size := by rw [hC]; exact Nat.ne_of_lt (Nat.lt_succ_self _)
  have hLlt : L < s₂.heap.objs.size := F.ns.lt
  have hDf : s₂.heap.objs.size ∉ fp := fun hm => Nat.lt_irrefl _ (hfp _ hm)
  have hCf : H2.objs.size ∉ fp := fun hm => by have := hfp _ hm; rw [hC] at this; exact Nat.lt_irrefl _ (Nat.lt_of_succ_lt this)
  have old : ∀ b o, s₂.heap.get? b = some o → h₁.get? b = some o := fun b o e =>
    hsb₁.extBut b o (by have := Heap.lt_size e; rw [hC]; exact Nat.ne_of_lt (Nat.lt_succ_of_lt this)) (Heap.get?_push_of_some _ (hH2 ▸ Heap.get?_push_of_some _ e))
  have hacc : h₁.get? s₂.heap.objs.size = some { cls := .type "dict", data := .dict #[] } := hsb₁.extBut _ _ hDC (Heap.get?_push_of_some _ (hH2 ▸ Heap.get?_push_size _ rfl))
  have hD₀ : h₀.get? s₂.heap.objs.size = none := fresh_above F (Nat.le_refl _)
  have hC₀ : h₀.get? H2.objs.size = none := fresh_above F (by rw [hC]; exact Nat.le_succ _)
  have hDL : s₂.heap.objs.size ≠ L := Nat.ne_of_gt hLlt
  have hCL : H2.objs.size ≠ L := by rw [hC]; exact Nat.ne_of_gt (Nat.lt_succ_of_lt hLlt)
  have hst₁ : St 0 h₁ := W.frame _ _ _ hst fun b _ o e => old b o e
  have hDw : s₂.heap.objs.size ∉ wr := fun h => hDf (W.sub _ h)
  have hCw : H2.objs.size ∉ wr := fun h => hCf (W.sub _ h)
  have hLw : L ∉ wr := fun h => hLf (W.sub _ h)
  have off₀ : Off (H2.objs.size :: s₂.heap.objs.size :: wr) news := fun p hp => by
    have h1 := Heap.lt_size (N p hp).1
    have h2 := off p hp
    simp only [List.mem_cons, not_or]
    exact ⟨by rw [hC]; exact Nat.ne_of_lt (Nat.lt_succ_of_lt h1), Nat.ne_of_lt h1, h2⟩
  have keepB : ∀ {h h' : Heap}, (∀ b o, b ∉ wr → h.get? b = some o → h'.get? b = some o) → Fr h₀ L h m → Fr h₀ L h' m := fun {h h'} hk F' =>
    ⟨F'.ns.at' fun o e => hk _ o hLw e, fun b o e => hk b o (fun hb => by rw [hwr b hb] at e; cases e) (F'.keep b o e), F'.above⟩
  have newsB : ∀ {h h' : Heap} {ns : Ledger}, (∀ b o, b ∉ wr → h.get? b = some o → h'.get? b = some o) → Off wr ns → News h₀ L h ns → News h₀ L h' ns := fun hk ho N' p hp =>
    ⟨hk _ _ (ho p hp) (N' p hp).1, (N' p hp).2⟩
  have loop : ∀ s₃ : Shared, s₃ = { s₂ with heap := h₁, toks := s₂.toks + ([] : List (Str × Value)).length } →
      codeAny (model prog w) A (.compLoop (.DictComp kx vx [⟨.Name x px, iter, [], 0⟩] scope pos) 0 (.ref I) (.ref s₂.heap.objs.size) (compEnvC scope cl H2.objs.size env)) (RR (.ref s₂.heap.objs.size) H2.objs.size) s₃ := by
    rintro s₃ rfl
    refine codeAny_compLoop_testsD
      (fun k s' => ∃ h' tk i oD m' news', s' = { s₂ with heap := h', toks := tk } ∧ i ≤ n ∧ k = n + 1 - i ∧ St i h' ∧ Fr h₀ L h' m ∧ h'.Ns H2.objs.size m' ∧
        News h₀ L h' ((s₂.heap.objs.size, oD) :: news') ∧ Off (H2.objs.size :: s₂.heap.objs.size :: wr) news' ∧ J i oD news') ?_ (n + 1)
      ⟨h₁, _, 0, _, _, news, rfl, Nat.zero_le _, rfl, hst₁, F.keeps old, hns₁, ?_, off₀, h0⟩ (fun _ => rfl)
    · rintro k s' ⟨h', tk, i, oD, m', news', rfl, hi, rfl, hst', F', hn', N', off', hJ⟩
      have offw : Off wr ((s₂.heap.objs.size, oD) :: news') := fun p hp => by
        rcases List.mem_cons.mp hp with rfl | hp
        · exact hDw
        · exact fun h => off' p hp (List.mem_cons_of_mem _ (List.mem_cons_of_mem _ h))
      by_cases hlt : i < n
      · refine W.item i _ _ _ hlt hst' fun v h₃ tk₂ hP hst₃ up₃ => ?_
        refine wpAny_assign_Name (wpAny_storeName_local (lookup_relabel_local hx) (hn'.at' fun o e => up₃ _ o hCw e) (fun h₄ hn₄ hs₄ => ?_) (by simp [compEnvC, relabel, hkind]))
        refine wpAny_tests_nil ?_
        simp only [if_true]
        have hk₄ : ∀ c o, c ≠ H2.objs.size → h₃.get? c = some o → h₄.get? c = some o := fun c o hc e => hs₄.extBut c o hc e
        have F₃ := keepB up₃ F'
        have F₄ : Fr h₀ L h₄ m := ⟨F₃.ns.at' fun o e => hk₄ _ o (Ne.symm hCL) e, fun b o e => hk₄ b o (fun q => by rw [q, hC₀] at e; cases e) (F₃.keep b o e), F₃.above⟩
        have hst₄ : St (i + 1) h₄ := W.frame _ _ _ hst₃ fun b hb o e => hk₄ b o (fun q => hCf (q ▸ hb)) e
        obtain ⟨oC, heC, hoC⟩ := ns_obj hn₄
        have N₃ := newsB up₃ offw N'
        have N₄ : News h₀ L h₄ (((H2.objs.size, oC) :: PyProof.Rows.ownOf h₀ fp h₄) ++ (s₂.heap.objs.size, oD) :: news') := fun p hp => by
          rcases List.mem_append.mp hp with hp | hp
          · rcases List.mem_cons.mp hp with rfl | hp
            · exact ⟨heC, hCL, hC₀⟩
            · exact news_ownOf hLf p hp
          · rcases List.mem_cons.mp hp with rfl | hp
            · exact ⟨hk₄ _ _ hDC (N₃ _ List.mem_cons_self).1, hDL, hD₀⟩
            · have z := N₃ p (List.mem_cons_of_mem _ hp)
              exact ⟨hk₄ _ _ (fun q => off' p hp (by rw [q]; exact List.mem_cons_self)) z.1, z.2⟩
        have hown : Off [s₂.heap.objs.size] (PyProof.Rows.ownOf h₀ fp h₄) := fun p hp hm => hDf (by rw [← List.mem_singleton.mp hm]; exact ownOf_sub p hp)
        have hA : (∀ i h, St i h → ∀ b ∈ wr, ∃ o, h.get? b = some o ∧ NT o) → Apart (H2.objs.size :: wr) ((H2.objs.size, oC) :: PyProof.Rows.ownOf h₀ fp h₄) := by
          intro hc b hb
          rcases List.mem_cons.mp hb with rfl | hb
          · exact ⟨oC, List.mem_cons_self, NT.ns hoC⟩
          · obtain ⟨o, e, hn⟩ := hc _ _ hst₄ b hb
            exact ⟨o, List.mem_cons_of_mem _ (mem_ownOf (W.sub b hb) (hwr b hb) e), hn⟩
        refine wpAny_mono (step i v oD news' _ H2.objs.size oC s₂.heap.objs.size _ h₄ _ _ hlt hP hJ (by simp) hoC F₄ N₄ off' hDw hCw (Ne.symm hDC) hown hA) (fun kv s₅ h₅ => wpAny_mono h₅ (fun vv s₆ h₆ => wpAny_mono h₆ (fun _ s₇ h₇ => ?_) fun _ _ e => e) fun _ _ e => e) fun _ _ e => e
        obtain ⟨h₅, tk₅, news₅, rfl, F₅, N₅, _, oD₅, news₆, rfl, off₅, hJ₅⟩ := h₇
        have zC := (N₅ (H2.objs.size, oC) List.mem_cons_self).1
        have hst₅ : St (i + 1) h₅ := by
          refine W.frame _ _ _ hst₄ fun b hb o e => ?_
          cases hq : h₀.get? b with
          | some o₀ =>
            have : o₀ = o := by have q := F₄.keep b o₀ hq; rw [e] at q; exact (Option.some.inj q).symm
            exact this ▸ F₅.keep b o₀ hq
          | none => exact (N₅ _ (List.mem_append_left _ (List.mem_cons_of_mem _ (mem_ownOf hb hq e)))).1
        exact ⟨n + 1 - (i + 1), by omega, h₅, tk₅, i + 1, oD₅, _, news₆, rfl, hlt, rfl, hst₅, F₅, hoC.ns zC, fun p hp => N₅ p (List.mem_append_right _ hp), off₅, hJ₅⟩
      · obtain rfl : i = n := Nat.le_antisymm hi (Nat.not_lt.mp hlt)
        refine W.done _ _ _ hst' fun h₂ tk₂ hk₂ => ?_
        exact hRR s₂.heap.objs.size H2.objs.size h₂ tk₂ m' oD news' (keepB hk₂ F') (newsB hk₂ offw N') off' (hn'.at' fun o e => hk₂ _ o hCw e) hC₀ hD₀ hCL hDL (Ne.symm hDC) hJ (fun p hp => Heap.lt_size (N p hp).1) (Nat.le_trans F.above (Nat.le_of_lt hLlt))
    · intro p hp
      rcases List.mem_cons.mp hp with rfl | hp
      · exact ⟨hacc, hDL, hD₀⟩
      · exact ⟨old _ _ (N p hp).1, (N p hp).2⟩
  exact codeAny_compStart_dict (loop _ rfl) (W.self 0 _ _ _ hst₁ (loop _ rfl))

/-- what an iterator must bring for a dict comprehension -/
def DcAt (prog : Program) (w : World) (A : Around) (h₀ : Heap) (L : Addr) (m : Str → Option Value) (env : Env) (x : Str) (kx vx : Expr) (scope : Scope) (cl : List (Str × Addr)) (Q : Value → Shared → Prop) (it : Value) (s₂ : Shared) : Prop :=
  ∃ (I : Addr) (fp wr : List Addr) (n : Nat) (P : Nat → Value → Prop) (St : Nat → Heap → Prop) (news : Ledger) (J : Nat → Obj → Ledger → Prop),
    it = .ref I ∧ Walks prog w A I fp wr n P St ∧ St 0 s₂.heap ∧ (∀ b ∈ fp, b < s₂.heap.objs.size) ∧ Fr h₀ L s₂.heap m ∧ News h₀ L s₂.heap news ∧ L ∉ fp ∧ (∀ b ∈ wr, h₀.get? b = none) ∧ Off wr news ∧
    J 0 { cls := .type "dict", data := .dict #[] } news ∧
    (∀ i v oD news₁ own C oC D mC h tk (E' : Value → Shared → Prop), i < n → P i v → J i oD news₁ → mC x = some v → NsObj oC mC → Fr h₀ L h m → News h₀ L h (((C, oC) :: own) ++ (D, oD) :: news₁) → Off (C :: D :: wr) news₁ → D ∉ wr → C ∉ wr → C ≠ D → Off [D] own → ((∀ i h, St i h → ∀ b ∈ wr, ∃ o, h.get? b = some o ∧ NT o) → Apart (C :: wr) ((C, oC) :: own)) →
      wpAny (model prog w) A (eval kx (compEnvC scope cl C env)) (fun kv s₄ => wpAny (model prog w) A (eval vx (compEnvC scope cl C env)) (fun vv s₅ => wpAny (model prog w) A (dictSet D kv vv)
        (fun _ => TurnEnd h₀ L m { s₂ with heap := h, toks := tk } ((C, oC) :: own) [] (fun news' => ∃ oD' news₂, news' = (D, oD') :: news₂ ∧ Off (C :: D :: wr) news₂ ∧ J (i + 1) oD' news₂)) E' s₅) E' s₄) E' { s₂ with heap := h, toks := tk }) ∧
    ∀ D h tk oD news', Fr h₀ L h m → News h₀ L h ((D, oD) :: news') → Off [D] news' → J n oD news' → (∀ p ∈ news, p.1 < D) → h₀.objs.size ≤ D → Q (.ref D) { s₂ with heap := h, toks := tk }

theorem dc_eval {kx vx iter : Expr} {x : Str} {px : Pos} {scope : Scope} {cl : List (Str × Addr)} {pos : Pos} {Q : Value → Shared → Prop}
    (_F₀ : Fr h₀ L s.heap m) (hclos : closureFor scope env = pure cl) (hcell : ∀ y ∈ scope.names, y.2 ≠ .cell) (hkind : scope.kind = .function)
    (hnames : ∀ y ∈ scope.names, y.2 = .local → scope.names.lookup y.1 = some .local) (hx : scope.names.lookup x = some .local)
    (h : wpAny (model prog w) A (eval iter env) (fun xv s₁ => wpAny (model prog w) A (pyIter xv) (DcAt prog w A h₀ L m env x kx vx scope cl Q) E s₁) E s)
    (hs : ∀ x, foldedSetIterable iter env x = pure x := by intro _; rfl) :
    wpAny (model prog w) A (eval (.DictComp kx vx [⟨.Name x px, iter, [], 0⟩] scope pos) env) Q E s := by
  rw [arm_eval_DictComp]
  refine wpAny_comprehension_free (use := none) rfl hs hclos hkind hnames (wpAny_mono h (fun xv s₁ h₁ => wpAny_mono h₁ (fun it s₂ h₂ => ?_) fun _ _ e => e) fun _ _ e => e)
  obtain ⟨I, fp, wr, n, P, St, news, J, rfl, W, hst, hfp, F, N, hLf, hwr, off, h0, step, fin⟩ := h₂
  refine dc_block W hcell hkind hx hst hfp F N hLf hwr off J h0 step ?_
  intro D C h tk m' oD news' F' N' off' hn hC₀ hD₀ hCL hDL hCD hJ hlt hge
  refine ⟨m', hn, fun h'' hs'' => fin D h'' tk oD news' (F'.change hs'' hCL hC₀) (fun p hp => ?_) (fun p hp => ?_) hJ hlt hge⟩
  · refine ⟨hs''.extBut _ _ ?_ (N' p hp).1, (N' p hp).2⟩
    rcases List.mem_cons.mp hp with rfl | hp
    · exact Ne.symm hCD
    · exact fun e => off' p hp (by rw [e]; exact List.mem_cons_self)
  · intro h
    rw [List.mem_singleton] at h
    exact off' p hp (by rw [h]; exact List.mem_cons_of_mem _ List.mem_cons_self)
end
end PKit2
section PKit3
set_option maxRecDepth 100000
set_option maxHeartbeats 2000000
open PyProof.Rows.LCg (NsObj lst ns_obj lst_snoc)
section
variable {prog : Program} {w : World} {A : Around} {E : Value → Shared → Prop} {s : Shared} {h₀ : Heap} {L : Addr} {m : Str → Option Value} {env : Env}

/-- d is a plain dict with these entries, whatever its keys are -/
def DictRaw (h : Heap) (d : Addr) (es : Array DictEntry) (ep : Nat) : Prop := ∃ o, h.get? d = some o ∧ o.ExactDict ∧ o.data = .dict es ep
theorem DictRaw.at {h h' : Heap} {d : Addr} {es : Array DictEntry} {ep : Nat} (x : DictRaw h d es ep) (k : ∀ o, h.get? d = some o → h'.get? d = some o) : DictRaw h' d es ep :=
  let ⟨o, e, r⟩ := x; ⟨o, k o e, r⟩
theorem DictRaw.lt {h : Heap} {d : Addr} {es : Array DictEntry} {ep : Nat} (x : DictRaw h d es ep) : d < h.objs.size := let ⟨_, e, _⟩ := x; Heap.lt_size e

theorem iter_dictRaw {d : Addr} {es : Array DictEntry} {ep : Nat} {Q : Value → Shared → Prop} (lo : (d == sysModules) = false) (hm : DictRaw s.heap d es ep)
    (hQ : Q (.ref s.heap.objs.size) { s with heap := s.heap.push { cls := .type "dict_keyiterator", data := .fields #[.ref d, .int 0 0, .int es.size 0, .int ep 0] } }) :
    wpAny (model prog w) A (pyIter (.ref d)) Q E s := by
  obtain ⟨o, ho, hc, hd⟩ := hm
  have hT : s.TypeIs (.ref d) "dict" := ⟨o, ho, hc.1⟩
  refine wpAny_pyIter_slot hT PySem.F.slot_dict_iter (wpAny_call_entry PySem.F.slot_dict_iter hT PySem.F.entry_dict_iter ?_ (PySem.F.args_dict_iter_1 _))
  unfold Builtin.«dict.__iter__» Builtin.Dict.dictSlotNone
  refine wpAny_bind (wpAny_bind (wpAny_notOrdered_dict hT ?_))
  show wpAny _ _ (pure (Value.ref d)) _ _ s
  refine wpAny_pure ?_
  show wpAny _ _ (Builtin.Dict.showsAll d >>= _) _ _ s
  unfold Builtin.Dict.showsAll
  rw [if_neg (by rw [lo]; exact Bool.false_ne_true)]
  refine wpAny_bind (wpAny_pure (wpAny_bind (wpAny_dictEntries ho hd (wpAny_bind (wpAny_dictEpoch ho hd ?_)))))
  refine wpAny_bind (wpAny_newObj_type (wpAny_pure ⟨_, rfl, "dict_keyiterator", _, ⟨_, Heap.get?_push_size _ rfl, rfl⟩, PySem.F.slot_dict_keyiterator_next.lookup, ?_⟩))
  simpa [rawInt] using hQ

theorem next_dictRaw_item {it d : Addr} {i ep : Nat} {es : Array DictEntry} {v : Value} {Q : Option Value → Shared → Prop} (hit : s.heap.IsKeyIter it d i es.size ep)
    (hm : DictRaw s.heap d es ep) (hx : es[i]?.map (·.key) = some v)
    (hQ : ∀ h', h'.IsKeyIter it d (i + 1) es.size ep → Heap.SameBut it s.heap h' → Q (some v) { s with heap := h' }) :
    wpAny (model prog w) A (pyNext (.ref it)) Q E s := by
  obtain ⟨o, ho, hc, hd⟩ := id hit
  obtain ⟨od, hod, hcd, hdd⟩ := hm
  obtain ⟨e, he, rfl⟩ := Option.map_eq_some_iff.mp hx
  unfold pyNext
  refine wpAny_bind (wpAny_attempt (wpAny_callSpecial?_slot (name := Str.ofString "__next__") hit.typeIs PySem.F.slot_dict_keyiterator_next
    (wpAny_call_entry PySem.F.slot_dict_keyiterator_next hit.typeIs PySem.F.entry_dict_keyiterator_next ?_ (PySem.F.args_dict_keyiterator_next_1 _))))
  refine wpAny_bind (wpAny_pure (wpAny_bind (wpAny_bind ?_)))
  first | refine wpAny_bind (wpAny_typeNameOfWhole_keyiter hit.typeIs (wpAny_pure ?_)) | refine wpAny_bind (wpAny_typeNameOf_keyiter hit.typeIs (wpAny_pure ?_))
  refine wpAny_bind (wpAny_fieldsOf ho hd ?_)
  simp only [show Builtin.Dict_items.ownsTuple "dict_keyiterator" = false from by decide, Bool.false_eq_true, if_false]
  show wpAny _ _ (if (Value.ref d == Value.none) = true then _ else _) _ _ s
  rw [if_neg (show ¬ ((Value.ref d == Value.none) = true) from Bool.false_ne_true)]
  refine wpAny_bind (wpAny_pure (wpAny_bind (wpAny_dictEntries hod hdd ?_)))
  rw [if_neg (by simp)]
  refine wpAny_bind (wpAny_pure (wpAny_bind (wpAny_dictEpoch hod hdd ?_)))
  rw [if_neg (by simp)]
  refine wpAny_pure ?_
  simp only [show ¬ ((i : Int) < 0) from by omega, if_false, Int.toNat_natCast, he]
  refine wpAny_bind ?_
  first | refine wpAny_bind (wpAny_typeNameOfWhole_keyiter hit.typeIs (wpAny_pure ?_)) | refine wpAny_bind (wpAny_typeNameOf_keyiter hit.typeIs (wpAny_pure ?_))
  refine wpAny_bind (wpAny_isOneOf_keyiter hit.typeIs ?_)
  show wpAny _ _ (setField (.ref it) 1 (rawInt ((i : Int) + 1)) >>= _) _ _ s
  refine wpAny_bind (wpAny_setField ho hd (by simp) ?_)
  have hit' : (s.heap.update it (Obj.mapFields (·.setIfInBounds 1 (rawInt ((i : Int) + 1))))).IsKeyIter it d (i + 1) es.size ep :=
    ⟨_, Heap.get?_update_self _ ho (Obj.isFreed_of_fields (Obj.data_mapFields hd _)), (Obj.cls_mapFields ..).trans hc, by rw [Obj.data_mapFields hd]; simp [rawInt]⟩
  refine wpAny_bind (wpAny_holding ?_)
  refine wpAny_bind (wpAny_isOneOf_keyiter (s := { s with heap := s.heap.update it (Obj.mapFields (·.setIfInBounds 1 (rawInt ((i : Int) + 1)))) }) hit'.typeIs ?_)
  show wpAny _ _ (pure e.key) _ _ _
  exact wpAny_pure (wpAny_pure ⟨_, rfl, wpAny_pure (hQ _ hit' (Heap.SameBut.update ..))⟩)

theorem next_dictRaw_end {it d : Addr} {ep : Nat} {es : Array DictEntry} {Q : Option Value → Shared → Prop} (hh : A.handled = none) (hit : s.heap.IsKeyIter it d es.size es.size ep)
    (hm : DictRaw s.heap d es ep)
    (hQ : ∀ h', Heap.ExtBut it s.heap h' → Q none { s with heap := h' }) : wpAny (model prog w) A (pyNext (.ref it)) Q E s := by
  obtain ⟨o, ho, hc, hd⟩ := id hit
  obtain ⟨od, hod, hcd, hdd⟩ := hm
  unfold pyNext
  refine wpAny_bind (wpAny_attempt (wpAny_callSpecial?_slot (name := Str.ofString "__next__") hit.typeIs PySem.F.slot_dict_keyiterator_next
    (wpAny_call_entry PySem.F.slot_dict_keyiterator_next hit.typeIs PySem.F.entry_dict_keyiterator_next ?_ (PySem.F.args_dict_keyiterator_next_1 _))))
  refine wpAny_bind (wpAny_pure (wpAny_bind (wpAny_bind ?_)))
  first | refine wpAny_bind (wpAny_typeNameOfWhole_keyiter hit.typeIs (wpAny_pure ?_)) | refine wpAny_bind (wpAny_typeNameOf_keyiter hit.typeIs (wpAny_pure ?_))
  refine wpAny_bind (wpAny_fieldsOf ho hd ?_)
  simp only [show Builtin.Dict_items.ownsTuple "dict_keyiterator" = false from by decide, Bool.false_eq_true, if_false]
  show wpAny _ _ (if (Value.ref d == Value.none) = true then _ else _) _ _ s
  rw [if_neg (show ¬ ((Value.ref d == Value.none) = true) from Bool.false_ne_true)]
  refine wpAny_bind (wpAny_pure (wpAny_bind (wpAny_dictEntries hod hdd ?_)))
  rw [if_neg (by simp)]
  refine wpAny_bind (wpAny_pure (wpAny_bind (wpAny_dictEpoch hod hdd ?_)))
  rw [if_neg (by simp)]
  refine wpAny_pure ?_
  simp only [show ¬ ((es.size : Int) < 0) from by omega, if_false, Int.toNat_natCast, Array.getElem?_eq_none (Nat.le_refl es.size)]
  refine wpAny_bind ?_
  first | refine wpAny_bind (wpAny_typeNameOfWhole_keyiter hit.typeIs (wpAny_pure ?_)) | refine wpAny_bind (wpAny_typeNameOf_keyiter hit.typeIs (wpAny_pure ?_))
  show wpAny _ _ (setField (.ref it) 0 .none >>= _) _ _ s
  refine wpAny_bind (wpAny_setField ho hd (by simp) ?_)
  show wpAny _ _ (newExc (.type "StopIteration") [] >>= _) _ _ _
  refine wpAny_bind ?_
  simp only [newExc, newTuple]
  refine wpAny_bind (wpAny_newObj_type ?_ (by size_fits))
  refine wpAny_bind (m := firstArgMember _ _) (wpAny_of_eq (a := Value.none) (by first | rfl | (simp only [firstArgMember]; rfl)) ?_)
  refine wpAny_newObj_type ?_ (by size_fits)
  simp only [raiseNew]
  refine wpAny_bind (wpAny_handled ?_)
  rw [show A.in1.handled = none from hh]
  refine wpAny_bind (wpAny_pure (wpAny_throw ?_))
  refine wpAny_bind (wpAny_isInstance (T := "StopIteration") (b := true) ⟨_, Heap.get?_push_size _ rfl, rfl⟩ isSubtype_stop ?_)
  exact wpAny_pure (hQ _ (((Heap.SameBut.update ..).extBut.push _).push _))

theorem self_keyIter {it d : Addr} {i n ep : Nat} {Q : Value → Shared → Prop} (hit : s.heap.IsKeyIter it d i n ep) (h : Q (.ref it) s) : wpAny (model prog w) A (pyIter (.ref it)) Q E s :=
  wpAny_pyIter_keyiter hit h

/-- the keys of a plain dict, one by one -/
theorem walksKeys (hh : A.handled = none) (I d : Addr) (hne : d ≠ I) (es : Array DictEntry) (ep : Nat) :
    Walks prog w A I [I, d] [I] es.size (fun i v => es[i]?.map (·.key) = some v) (fun i h => h.IsKeyIter I d i es.size ep ∧ DictRaw h d es ep) where
  sub := fun b hb => by simp at hb; simp [hb]
  frame := fun _ _ _ st hk => ⟨st.1.at fun o e => hk I (by simp) o e, st.2.at fun o e => hk d (by simp) o e⟩
  item := fun i s Q E hi st hQ => by
    have hx : es[i]?.map (·.key) = some es[i].key := by rw [Array.getElem?_eq_getElem hi]; rfl
    refine next_dictRaw_item st.1 st.2 hx fun h' hit' hs' => ?_
    exact hQ _ h' s.toks hx ⟨hit', st.2.at fun o e => hs'.extBut d o hne e⟩ fun b o hb e => hs'.extBut b o (fun h => hb (by simp [h])) e
  done := fun s Q E st hQ => next_dictRaw_end hh st.1 st.2 fun h' he' => hQ h' s.toks fun b o hb e => he' b o (fun h => hb (by simp [h])) e
  self := fun _ _ _ _ st hQ => wpAny_pyIter_keyiter st.1 hQ

theorem keysNT {I d : Addr} {es : Array DictEntry} {ep : Nat} : ∀ i (h : Heap), h.IsKeyIter I d i es.size ep ∧ DictRaw h d es ep → ∀ b ∈ [I], ∃ o, h.get? b = some o ∧ NT o := fun i h st b hb => by
  rw [List.mem_singleton] at hb
  subst hb
  obtain ⟨o, e, hc, _⟩ := st.1
  exact ⟨o, e, NT.type hc (by decide)⟩

/-! enumerate over any iterator that gives the items of one object -/

/-- it gives the items, one a step; Sx i: it stands before the i-th -/
structure Inner (prog : Program) (w : World) (it l : Addr) (items : Array Value) (Sx : Nat → Heap → Prop) : Prop where
  at' : ∀ {i h h'}, Sx i h → (∀ o, h.get? it = some o → h'.get? it = some o) → (∀ o, h.get? l = some o → h'.get? l = some o) → Sx i h'
  lt : ∀ {i h}, Sx i h → it < h.objs.size
  nt : ∀ {i h}, Sx i h → ∃ o, h.get? it = some o ∧ NT o
  item : ∀ {A : Around} {E : Value → Shared → Prop} {s : Shared} {i : Nat} {x : Value} {Q : Value → Shared → Prop}, Sx i s.heap → items[i]? = some x →
    (∀ h', Sx (i + 1) h' → Heap.SameBut it s.heap h' → Q x { s with heap := h' }) → wpAny (model prog w) A (Builtin.SmallTypes.nextOf (.ref it)) Q E s
  fin : ∀ {A : Around} {E : Value → Shared → Prop} {s : Shared} {Q : Value → Shared → Prop}, A.handled = none → Sx items.size s.heap →
    (∀ h' e, Heap.ExtBut it s.heap h' → (∃ o, h'.get? e = some o ∧ o.cls = .type "StopIteration") → E (.ref e) { s with heap := h' }) → wpAny (model prog w) A (Builtin.SmallTypes.nextOf (.ref it)) Q E s

theorem innerList (it l : Addr) (hne : l ≠ it) (items : Array Value) : Inner prog w it l items (fun i h => h.IsListIter it l i ∧ h.IsList l items) where
  at' := fun st h1 h2 => ⟨st.1.at h1, st.2.at h2⟩
  lt := fun st => let ⟨_, e, _⟩ := st.1; Heap.lt_size e
  nt := fun st => let ⟨o, e, hc, _⟩ := st.1; ⟨o, e, NT.type hc (by decide)⟩
  item := fun st hx hQ => wpAny_nextOf_list_item st.1 st.2 hx fun h' hit hs => hQ h' ⟨hit, st.2.at fun o e => hs.extBut l o hne e⟩ hs
  fin := fun hh st hE => wpAny_nextOf_list_end hh st.1 st.2 (by simp) hE

theorem nextOf_tup_item {it t : Addr} {i : Nat} {items : Array Value} {x : Value} {Q : Value → Shared → Prop} (hit : s.heap.IsTupleIter it t i) (ht : s.heap.IsTuple t items) (hx : items[i]? = some x)
    (hQ : ∀ h', h'.IsTupleIter it t (i + 1) → Heap.SameBut it s.heap h' → Q x { s with heap := h' }) : wpAny (model prog w) A (Builtin.SmallTypes.nextOf (.ref it)) Q E s := by
  obtain ⟨o, ho, hc, hd⟩ := id hit
  obtain ⟨ol, hol, _, nl, hdl⟩ := ht
  unfold Builtin.SmallTypes.nextOf
  refine wpAny_bind (wpAny_callSpecial?_slot (name := Str.ofString "__next__") hit.typeIs PySem.F.slot_tuple_iterator_next
    (wpAny_call_entry PySem.F.slot_tuple_iterator_next hit.typeIs PySem.F.entry_tuple_iterator_next ?_ (PySem.F.args_tuple_iterator_next_1 _)))
  show wpAny _ _ (field (.ref it) 0 >>= _) _ _ s
  refine wpAny_bind (wpAny_field ho hd (x := .ref t) rfl ?_)
  show wpAny _ _ (if (Value.ref t == Value.none) = true then _ else _) _ _ s
  rw [if_neg (show ¬ ((Value.ref t == Value.none) = true) from Bool.false_ne_true)]
  show wpAny _ _ (field (.ref it) 1 >>= _) _ _ s
  refine wpAny_bind (wpAny_field ho hd (x := .int i 0) rfl ?_)
  show wpAny _ _ (seqItems? (.ref t) >>= _) _ _ s
  refine wpAny_bind (wpAny_seqItems hol hdl ?_)
  simp only [Int.toNat_natCast, hx]
  refine wpAny_bind (wpAny_setField ho hd (by simp) (wpAny_pure ⟨x, rfl, wpAny_pure (hQ _ ?_ (Heap.SameBut.update ..))⟩))
  exact ⟨_, Heap.get?_update_self _ ho (Obj.isFreed_of_fields (Obj.data_mapFields hd _)), (Obj.cls_mapFields ..).trans hc, by rw [Obj.data_mapFields hd]; simp [rawInt]⟩

theorem nextOf_tup_end {it t : Addr} {items : Array Value} {Q : Value → Shared → Prop} (hh : A.handled = none) (hit : s.heap.IsTupleIter it t items.size) (ht : s.heap.IsTuple t items)
    (hE : ∀ h' e, Heap.ExtBut it s.heap h' → (∃ o, h'.get? e = some o ∧ o.cls = .type "StopIteration") → E (.ref e) { s with heap := h' }) : wpAny (model prog w) A (Builtin.SmallTypes.nextOf (.ref it)) Q E s := by
  obtain ⟨o, ho, hc, hd⟩ := id hit
  obtain ⟨ol, hol, _, nl, hdl⟩ := ht
  unfold Builtin.SmallTypes.nextOf
  refine wpAny_bind (wpAny_callSpecial?_slot (name := Str.ofString "__next__") hit.typeIs PySem.F.slot_tuple_iterator_next
    (wpAny_call_entry PySem.F.slot_tuple_iterator_next hit.typeIs PySem.F.entry_tuple_iterator_next ?_ (PySem.F.args_tuple_iterator_next_1 _)))
  show wpAny _ _ (field (.ref it) 0 >>= _) _ _ s
  refine wpAny_bind (wpAny_field ho hd (x := .ref t) rfl ?_)
  show wpAny _ _ (if (Value.ref t == Value.none) = true then _ else _) _ _ s
  rw [if_neg (show ¬ ((Value.ref t == Value.none) = true) from Bool.false_ne_true)]
  show wpAny _ _ (field (.ref it) 1 >>= _) _ _ s
  refine wpAny_bind (wpAny_field ho hd (x := .int items.size 0) rfl ?_)
  show wpAny _ _ (seqItems? (.ref t) >>= _) _ _ s
  refine wpAny_bind (wpAny_seqItems hol hdl ?_)
  simp only [Int.toNat_natCast, Array.getElem?_eq_none (Nat.le_refl items.size)]
  refine wpAny_bind (wpAny_rule (wpAny_bind (wpAny_setField ho hd (by simp) ?_)))
  show wpAny _ _ (newExc (.type "StopIteration") [] >>= _) _ _ _
  refine wpAny_bind ?_
  simp only [newExc, newTuple]
  refine wpAny_bind (wpAny_newObj_type ?_ (by size_fits))
  refine wpAny_bind (m := firstArgMember _ _) (wpAny_of_eq (a := Value.none) (by first | rfl | (simp only [firstArgMember]; rfl)) ?_)
  refine wpAny_newObj_type ?_ (by size_fits)
  simp only [raiseNew]
  refine wpAny_bind (wpAny_handled ?_)
  first | rw [show A.in1.handled = none from hh] | rw [hh]
  refine wpAny_bind (wpAny_pure (wpAny_throw ?_))
  exact hE _ _ (((Heap.SameBut.update ..).extBut.push _).push _) ⟨_, Heap.get?_push_size _ rfl, rfl⟩

theorem innerTup (it t : Addr) (hne : t ≠ it) (items : Array Value) : Inner prog w it t items (fun i h => h.IsTupleIter it t i ∧ h.IsTuple t items) where
  at' := fun st h1 h2 => ⟨st.1.at h1, st.2.at h2⟩
  lt := fun st => let ⟨_, e, _⟩ := st.1; Heap.lt_size e
  nt := fun st => let ⟨o, e, hc, _⟩ := st.1; ⟨o, e, NT.type hc (by decide)⟩
  item := fun st hx hQ => nextOf_tup_item st.1 st.2 hx fun h' hit hs => hQ h' ⟨hit, st.2.at fun o e => hs.extBut t o hne e⟩ hs
  fin := fun hh st hE => nextOf_tup_end hh st.1 st.2 hE

theorem enum_next_item {e it l : Addr} {i : Nat} {items : Array Value} {Sx : Nat → Heap → Prop} {x old : Value} {Q : Option Value → Shared → Prop} (K : Inner prog w it l items Sx)
    (he : IsEnum s.heap e it i old) (hit : Sx i s.heap) (hx : items[i]? = some x) (hne : e ≠ it) (hel : l ≠ e)
    (hQ : ∀ h', IsEnumOut h' e it ((i : Int) + 1) x s.heap.objs.size → Sx (i + 1) h' → h'.get? s.heap.objs.size = some { cls := .type "tuple", data := .seq #[.int i s.toks, x] } →
      (∀ b o, b ≠ e → b ≠ it → s.heap.get? b = some o → h'.get? b = some o) → Q (some (.ref s.heap.objs.size)) { s with heap := h', toks := s.toks + 1 }) :
    wpAny (model prog w) A (pyNext (.ref e)) Q E s := by
  have hT : s.TypeIs (.ref e) "enumerate" := ⟨_, he, rfl⟩
  unfold pyNext
  refine wpAny_bind (wpAny_attempt (wpAny_callSpecial?_slot (name := Str.ofString "__next__") hT PySem.F.slot_enumerate_next
    (wpAny_call_entry PySem.F.slot_enumerate_next hT PySem.F.entry_enumerate_next ?_ (PySem.F.args_enumerate_next_1 _))))
  obtain ⟨hp, g, d, tk, os⟩ := s
  show wpAny _ _ (field (.ref e) 2 >>= _) _ _ _
  refine wpAny_bind (wpAny_field he rfl (x := .ref it) rfl (wpAny_bind (K.item hit hx fun h₁ hit₁ hs₁ => ?_)))
  replace hs₁ : Heap.SameBut it hp h₁ := hs₁
  have he₁ : IsEnum h₁ e it i old := (hs₁.2 e hne).trans he
  show wpAny _ _ (field (.ref e) 3 >>= _) _ _ ⟨h₁, g, d, tk, os⟩
  refine wpAny_bind (wpAny_field he₁ rfl (x := rawInt i) rfl ?_)
  show wpAny _ _ (field (.ref e) 4 >>= _) _ _ ⟨h₁, g, d, tk, os⟩
  refine wpAny_bind (wpAny_field he₁ rfl (x := .none) rfl ?_)
  show wpAny _ _ (mkInt i >>= _) _ _ ⟨h₁, g, d, tk, os⟩
  refine wpAny_bind (wpAny_mkInt ?_)
  show wpAny _ _ (setField (.ref e) 3 (rawInt ((i : Int) + 1)) >>= _) _ _ ⟨h₁, g, d, tk + 1, os⟩
  refine wpAny_bind (wpAny_setField_rec he₁ (by simp) fun h₂ he₂ hs₂ => ?_)
  replace hs₂ : Heap.SameBut e h₁ h₂ := hs₂
  replace he₂ : IsEnum h₂ e it ((i : Int) + 1) old := he₂
  show wpAny _ _ (setField (.ref e) 4 .none >>= _) _ _ ⟨h₂, g, d, tk + 1, os⟩
  refine wpAny_bind (wpAny_setField_rec he₂ (by simp) fun h₃ he₃ hs₃ => ?_)
  replace hs₃ : Heap.SameBut e h₂ h₃ := hs₃
  replace he₃ : IsEnum h₃ e it ((i : Int) + 1) old := he₃
  show wpAny _ _ (newTuple [.int i tk, x] >>= _) _ _ ⟨h₃, g, d, tk + 1, os⟩
  refine wpAny_bind (wpAny_newTuple ?_)
  have hsz : h₃.objs.size = hp.objs.size := by rw [hs₃.1, hs₂.1, hs₁.1]
  have hel' : e < hp.objs.size := Heap.lt_size he
  have he₄ : IsEnum (h₃.push { cls := .type "tuple", data := .seq #[.int i tk, x] }) e it ((i : Int) + 1) old := Heap.get?_push_of_some _ he₃
  have ht₄ : (h₃.push { cls := .type "tuple", data := .seq #[.int i tk, x] }).get? hp.objs.size = some { cls := .type "tuple", data := .seq #[.int i tk, x] } := by rw [← hsz]; exact Heap.get?_push_size _ rfl
  have hk₄ : ∀ b o, b ≠ e → b ≠ it → hp.get? b = some o → (h₃.push { cls := .type "tuple", data := .seq #[.int i tk, x] }).get? b = some o := fun b o hbe hbi hb =>
    Heap.get?_push_of_some _ (hs₃.extBut b o hbe (hs₂.extBut b o hbe (hs₁.extBut b o hbi hb)))
  have hit₄ : Sx (i + 1) (h₃.push { cls := .type "tuple", data := .seq #[.int i tk, x] }) :=
    K.at' hit₁ (fun o q => Heap.get?_push_of_some _ (hs₃.extBut _ o hne.symm (hs₂.extBut _ o hne.symm q))) (fun o q => Heap.get?_push_of_some _ (hs₃.extBut _ o hel (hs₂.extBut _ o hel q)))
  generalize h₃.push { cls := .type "tuple", data := .seq #[.int i tk, x] } = h₄ at he₄ ht₄ hk₄ hit₄
  show wpAny _ _ (Builtin.SmallTypes.ownedTupleIsFree (.ref e) >>= _) _ _ ⟨h₄, g, d, tk + 1, os⟩
  rw [hsz]
  clear he₃ hs₃ he₂ hs₂ he₁ hs₁ hit₁ hsz
  refine wpAny_bind ?_
  unfold Builtin.SmallTypes.ownedTupleIsFree
  refine wpAny_bind (wpAny_field he₄ rfl (x := .none) rfl (wpAny_pure ?_))
  simp only [if_true]
  refine wpAny_bind (wpAny_rule (wpAny_bind (wpAny_field he₄ rfl (x := old) rfl (wpAny_bind (wpAny_setField_rec he₄ (by simp) fun h₅ he₅ hs₅ => ?_)))))
  replace hs₅ : Heap.SameBut e h₄ h₅ := hs₅
  replace he₅ : IsEnum h₅ e it ((i : Int) + 1) x := he₅
  show wpAny _ _ (Builtin.SmallTypes.ownedTupleHandOut (.ref e) (.ref hp.objs.size) >>= _) _ _ ⟨h₅, g, d, tk + 1, os⟩
  refine wpAny_bind ?_
  unfold Builtin.SmallTypes.ownedTupleHandOut
  refine wpAny_bind (wpAny_setField_rec he₅ (by simp) fun h₆ he₆ hs₆ => ?_)
  replace hs₆ : Heap.SameBut e h₅ h₆ := hs₆
  replace he₆ : IsEnumOut h₆ e it ((i : Int) + 1) x hp.objs.size := he₆
  refine wpAny_setField_rec he₆ (by simp) fun h₇ he₇ hs₇ => ?_
  replace hs₇ : Heap.SameBut e h₆ h₇ := hs₇
  replace he₇ : IsEnumOut h₇ e it ((i : Int) + 1) x hp.objs.size := he₇
  have up : ∀ b o, b ≠ e → h₄.get? b = some o → h₇.get? b = some o := fun b o hb q => hs₇.extBut b o hb (hs₆.extBut b o hb (hs₅.extBut b o hb q))
  refine wpAny_bind (wpAny_letGo (wpAny_pure ⟨_, rfl, wpAny_pure (hQ h₇ he₇ ?_ ?_ ?_)⟩))
  · exact K.at' hit₄ (fun o q => up _ o hne.symm q) (fun o q => up _ o hel q)
  · exact up _ _ (Nat.ne_of_gt hel') ht₄
  · exact fun b o hbe hbi hb => up b o hbe (hk₄ b o hbe hbi hb)

theorem enum_next_end {e it l : Addr} {items : Array Value} {Sx : Nat → Heap → Prop} {old : Value} {Q : Option Value → Shared → Prop} (K : Inner prog w it l items Sx) (hh : A.handled = none)
    (he : IsEnum s.heap e it (items.size : Nat) old) (hit : Sx items.size s.heap)
    (hQ : ∀ h', Heap.ExtBut it s.heap h' → Q none { s with heap := h' }) : wpAny (model prog w) A (pyNext (.ref e)) Q E s := by
  have hT : s.TypeIs (.ref e) "enumerate" := ⟨_, he, rfl⟩
  unfold pyNext
  refine wpAny_bind (wpAny_attempt (wpAny_callSpecial?_slot (name := Str.ofString "__next__") hT PySem.F.slot_enumerate_next
    (wpAny_call_entry PySem.F.slot_enumerate_next hT PySem.F.entry_enumerate_next ?_ (PySem.F.args_enumerate_next_1 _))))
  show wpAny _ _ (field (.ref e) 2 >>= _) _ _ _
  refine wpAny_bind (wpAny_field he rfl (x := .ref it) rfl (wpAny_bind (K.fin hh hit fun h' x he' hx' => ?_)))
  obtain ⟨o, ho, hc⟩ := hx'
  refine wpAny_bind (wpAny_isInstance (T := "StopIteration") (b := true) ⟨o, ho, hc⟩ isSubtype_stop ?_)
  exact wpAny_pure (hQ _ he')

/-- enumerate, as the loops take it -/
theorem enumTurns {elts : List Expr} {kk : Nat} {pos : Pos} (hh : A.handled = none) (e it l : Addr) (hei : e ≠ it) (hle : l ≠ e) (hli : l ≠ it) (items : Array Value) {Sx : Nat → Heap → Prop} (K : Inner prog w it l items Sx) :
    KTurns prog w A (.Tuple elts kk pos) e [e, it, l] [e, it] items.size
      (fun i v h => ∃ T t x, v = .ref T ∧ items[i]? = some x ∧ h.IsTuple T #[.int i t, x])
      (fun i v h => ∃ T t x, v = .ref T ∧ items[i]? = some x ∧ h.IsTuple T #[.int i t, x] ∧ IsEnumOut h e it ((i : Int) + 1) x T ∧ Sx (i + 1) h ∧ T ≠ e)
      (fun i h => (∃ old, IsEnum h e it i old) ∧ Sx i h) where
  sub := fun b hb => by simp at hb; rcases hb with rfl | rfl <;> simp
  frame := fun i h h' st hk => by
    obtain ⟨⟨old, he⟩, hs⟩ := st
    exact ⟨⟨old, hk e (by simp) _ he⟩, K.at' hs (fun o q => hk it (by simp) o q) (fun o q => hk l (by simp) o q)⟩
  item := fun i s Q E hi st hQ => by
    obtain ⟨⟨old, he⟩, hs⟩ := st
    have hx : items[i]? = some items[i] := Array.getElem?_eq_getElem hi
    refine enum_next_item K he hs hx hei hle fun h' ho hit' hT hk => ?_
    exact hQ _ h' (s.toks + 1) ⟨_, _, _, rfl, hx, ⟨_, hT, rfl, _, rfl⟩, ho, hit', Nat.ne_of_gt (Heap.lt_size he)⟩ fun b o hb q => hk b o (fun h => hb (by simp [h])) (fun h => hb (by simp [h])) q
  go := fun i v s Q E hm hQ => by
    obtain ⟨T, t, x, rfl, hx, hT, ho, hs, hTe⟩ := hm
    refine wpAny_letOwnedTupleGo_enum ho fun h' he hs' => ?_
    exact hQ h' ⟨T, t, x, rfl, hx, hT.at fun o q => hs'.extBut T o hTe q⟩ ⟨⟨_, by simpa using he⟩, K.at' hs (fun o q => hs'.extBut _ o hei.symm q) (fun o q => hs'.extBut _ o hle q)⟩ fun b o hb q => hs'.extBut b o (fun h => hb (by simp [h])) q
  done := fun s Q E st hQ => by
    obtain ⟨⟨old, he⟩, hs⟩ := st
    exact enum_next_end K hh he hs fun h' hx => hQ h' s.toks fun b o hb q => hx b o (fun h => hb (by simp [h])) q
theorem enumNT {e it l : Addr} {items : Array Value} {Sx : Nat → Heap → Prop} (K : Inner prog w it l items Sx) : ∀ (i : Nat) (h : Heap), (∃ old, IsEnum h e it i old) ∧ Sx i h → ∀ b ∈ [e, it], ∃ o, h.get? b = some o ∧ NT o := fun i h st b hb => by
  simp only [List.mem_cons, List.not_mem_nil, or_false] at hb
  rcases hb with rfl | rfl
  · obtain ⟨⟨old, x⟩, _⟩ := st
    exact ⟨_, x, NT.type rfl (by decide)⟩
  · exact K.nt st.2
end
end PKit3
section PKit4
set_option maxRecDepth 100000
set_option maxHeartbeats 2000000
open PyProof.Rows.LCg (NsObj lst ns_obj lst_snoc)
open PySem.AutoSeq1 (wpAny_loadPart')
theorem enumNewT (l : Addr) (items : Array Value) (n : Nat) (dct : Option Addr) (sl : Array (Option Value)) :
    Meets (Builtin.«enumerate.__new__» ⟨[.type "enumerate", .ref l], []⟩) (fun _ R s => s.heap.get? l = some { cls := .type "tuple", dict := dct, data := .seq items n, slots := sl } ∧
      R (.ok (.ret (.ref (s.heap.push { cls := .type "tuple_iterator", data := .fields #[.ref l, .int 0 0] }).objs.size)))
        { s with heap := (s.heap.push { cls := .type "tuple_iterator", data := .fields #[.ref l, .int 0 0] }).push { cls := .type "enumerate", data := .fields #[.none, .bool false, .ref s.heap.objs.size, rawInt 0, .none, .none] } }) :=
  .of_wp fun prog w A R s h => by
    obtain ⟨hp, g, d, tk, os⟩ := s; obtain ⟨hl, h⟩ := h
    have hsub := sub_enumerate
    have hL : Heap.IsTuple (Shared.heap ⟨hp, g, d, tk, os⟩) l items := ⟨_, hl, rfl, n, rfl⟩
    wp_walk using wpAny_loadPart' hl
    refine wpAny_stack_any fun st => wpAny_pure ?_
    split
    · rename_i c _ _ _ _ _
      cases (c == Value.type "enumerate")
      · wp_walk using wpAny_loadPart' hl, wpAny_pyIter_tuple hL
        exact ⟨_, rfl, h⟩
      · wp_walk using wpAny_loadPart' hl, wpAny_pyIter_tuple hL
        exact ⟨_, rfl, h⟩
    · wp_walk using wpAny_loadPart' hl, wpAny_pyIter_tuple hL
      exact ⟨_, rfl, h⟩

section
variable {prog : Program} {w : World} {A : Around} {E : Value → Shared → Prop} {s : Shared} {h₀ : Heap} {L : Addr} {m : Str → Option Value} {env : Env}

theorem call_enum_tup {t : Addr} {items : Array Value} {Q : Value → Shared → Prop} (hT : s.heap.IsTuple t items)
    (h : ∀ h', IsEnum h' (s.heap.objs.size + 1) s.heap.objs.size 0 .none → h'.IsTupleIter s.heap.objs.size t 0 → h'.objs.size = s.heap.objs.size + 2 →
      (∀ b o, s.heap.get? b = some o → h'.get? b = some o) → Q (.ref (s.heap.objs.size + 1)) { s with heap := h' }) :
    wpAny (model prog w) A (call (.type "enumerate") [.ref t]) Q E s := by
  obtain ⟨⟨c, dct, dt, sl⟩, hl, hc, n, hd⟩ := hT
  replace hc : c = .type "tuple" := hc
  replace hd : dt = .seq items n := hd
  subst hc hd
  refine callType_new PySem.F.called_enumerate (by decide) (PySem.F.typeCall_enumerate_1 _) (PySem.F.newCall_enumerate_1 _) (fun obj => PySem.F.args_object_init_2 obj _) PySem.F.entry_enumerate_new
    (enumNewT t items n dct sl) ⟨hl, ?_⟩
  have hz : (s.heap.push { cls := .type "tuple_iterator", data := .fields #[.ref t, .int 0 0] }).objs.size = s.heap.objs.size + 1 := Heap.size_push ..
  show _ ∧ _
  rw [hz]
  have he : IsEnum ((s.heap.push { cls := .type "tuple_iterator", data := .fields #[.ref t, .int 0 0] }).push
      { cls := .type "enumerate", data := .fields #[.none, .bool false, .ref s.heap.objs.size, rawInt 0, .none, .none] }) (s.heap.objs.size + 1) s.heap.objs.size 0 .none := by
    have := Heap.get?_push_size (s.heap.push { cls := .type "tuple_iterator", data := .fields #[.ref t, .int 0 0] })
      (o := { cls := .type "enumerate", data := .fields #[.none, .bool false, .ref s.heap.objs.size, rawInt 0, .none, .none] }) rfl
    rw [hz] at this; exact this
  exact ⟨⟨_, he, rfl⟩, h _ he ⟨_, Heap.get?_push_of_some _ (Heap.get?_push_size _ rfl), rfl, rfl⟩ (by rw [Heap.size_push, hz]) fun b o x => Heap.get?_push_of_some _ (Heap.get?_push_of_some _ x)⟩

/-- a comprehension over enumerate -/
theorem lcAt_enum {elt : Expr} {a b : Str} {pa pb tp : Pos} {kk : Nat} {scope : Scope} {cl : List (Str × Addr)} {Q : Value → Shared → Prop} {s₂ : Shared} {e it l : Addr} {items : Array Value} {Sx : Nat → Heap → Prop} {news : Ledger}
    (hh : A.handled = none) (K : Inner prog w it l items Sx) (hE : IsEnum s₂.heap e it 0 .none) (hS : Sx 0 s₂.heap) (hei : e ≠ it) (hle : l ≠ e) (hli : l ≠ it)
    (F : Fr h₀ L s₂.heap m) (N : News h₀ L s₂.heap news) (he₀ : h₀.get? e = none) (hi₀ : h₀.get? it = none) (off : Off [e, it] news) (hLf : L ∉ [e, it, l]) (hl : l < s₂.heap.objs.size) (hsz : items.size ≤ sizeLine)
    (hkind : scope.kind = .function) (hxa : scope.names.lookup a = some .local) (hxb : scope.names.lookup b = some .local) (hab : a ≠ b)
    (J : Nat → List Value → Ledger → Prop) (h0 : J 0 [] news)
    (step : ∀ i t x ys news₁ own C oC D mC h tk (E' : Value → Shared → Prop), items[i]? = some x → J i ys news₁ → mC a = some (.int (i : Int) t) → mC b = some x → NsObj oC mC → Fr h₀ L h m → News h₀ L h (((C, oC) :: (D, lst ys) :: own) ++ news₁) → Off [C, D, e, it] news₁ → Apart [C, D, e, it] ((C, oC) :: (D, lst ys) :: own) →
      wpAny (model prog w) A (eval elt (compEnvC scope cl C env)) (fun y => TurnEnd h₀ L m { s₂ with heap := h, toks := tk } ((C, oC) :: (D, lst ys) :: own) [C, D, e, it] (fun news' => J (i + 1) (ys ++ [y]) news')) E' { s₂ with heap := h, toks := tk })
    (fin : ∀ D h tk ys news', Fr h₀ L h m → News h₀ L h ((D, lst ys) :: news') → Off [D] news' → J items.size ys news' → Q (.ref D) { s₂ with heap := h, toks := tk }) :
    LcAt prog w A h₀ L m env (.Tuple [.Name a pa, .Name b pb] kk tp) elt scope cl Q (.ref e) s₂ := by
  refine ⟨e, [e, it, l], [e, it], items.size, _, _, _, news, fun i mC => ∃ t x, items[i]? = some x ∧ mC a = some (.int (i : Int) t) ∧ mC b = some x, J, rfl, enumTurns hh e it l hei hle hli items K, ?_, hsz, ⟨⟨_, hE⟩, hS⟩, ?_, F, N, hLf, ?_, off, ?_, h0, ?_, fin⟩
  · rintro s Q E ⟨⟨old, he⟩, _⟩ hQ
    exact wpAny_pyIter_enum he hQ
  · intro c hc
    simp only [List.mem_cons, List.not_mem_nil, or_false] at hc
    rcases hc with rfl | rfl | rfl
    · exact Heap.lt_size hE
    · exact K.lt hS
    · exact hl
  · intro c hc
    simp only [List.mem_cons, List.not_mem_nil, or_false] at hc
    rcases hc with rfl | rfl
    · exact he₀
    · exact hi₀
  · rintro i v C h tk mC Q E' ⟨T, t, x, rfl, hx, hT⟩ hn hQ
    refine kcp_assign (env := compEnvC scope cl C env) hh hT (lookup_relabel_local hxa) (lookup_relabel_local hxb) (by simp [compEnvC, relabel, hkind]) hn fun h' tk' hn' hk' => ?_
    exact hQ h' tk' _ ⟨t, x, hx, by simp [hab], by simp⟩ hn' hk'
  · rintro i ys news₁ own C oC D mC h tk E' hi hJ ⟨t, x, hx, ha, hb⟩ hoC F' N' off' hA
    exact step i t x ys news₁ own C oC D mC h tk E' hx hJ ha hb hoC F' N' off' (hA (enumNT K))

/-- .. over the items of a tuple -/
theorem lc_enum_tup {elt : Expr} {a b : Str} {pa pb tp : Pos} {kk : Nat} {scope : Scope} {cl : List (Str × Addr)} {Q : Value → Shared → Prop} {t : Addr} {ot : Obj} {vs : List Value} {nt : Nat} {news : Ledger}
    (hh : A.handled = none) (F : Fr h₀ L s.heap m) (N : News h₀ L s.heap news) (hm : (t, ot) ∈ news) (hc : ot.cls = .type "tuple") (hd : ot.data = .seq vs.toArray nt) (hsz : vs.length ≤ sizeLine)
    (hkind : scope.kind = .function) (hxa : scope.names.lookup a = some .local) (hxb : scope.names.lookup b = some .local) (hab : a ≠ b)
    (J : Nat → List Value → Ledger → Prop) (h0 : J 0 [] news)
    (step : ∀ i tk₀ x ys news₁ own C oC D mC h tk (as : List Addr) (E' : Value → Shared → Prop), vs[i]? = some x → J i ys news₁ → mC a = some (.int (i : Int) tk₀) → mC b = some x → NsObj oC mC → Fr h₀ L h m → News h₀ L h (((C, oC) :: (D, lst ys) :: own) ++ news₁) → Off as news₁ → Apart as ((C, oC) :: (D, lst ys) :: own) →
      wpAny (model prog w) A (eval elt (compEnvC scope cl C env)) (fun y => TurnEnd h₀ L m { s with heap := h, toks := tk } ((C, oC) :: (D, lst ys) :: own) as (fun news' => J (i + 1) (ys ++ [y]) news')) E' { s with heap := h, toks := tk })
    (fin : ∀ D h tk ys news', Fr h₀ L h m → News h₀ L h ((D, lst ys) :: news') → Off [D] news' → J vs.length ys news' → Q (.ref D) { s with heap := h, toks := tk }) :
    wpAny (model prog w) A (call (.type "enumerate") [.ref t]) (fun xv s₁ => wpAny (model prog w) A (pyIter xv) (LcAt prog w A h₀ L m env (.Tuple [.Name a pa, .Name b pb] kk tp) elt scope cl Q) E s₁) E s := by
  have hax := N _ hm
  have hT : s.heap.IsTuple t vs.toArray := ⟨ot, hax.1, hc, nt, hd⟩
  have hlt : t < s.heap.objs.size := Heap.lt_size hax.1
  have hLs : L < s.heap.objs.size := F.ns.lt
  refine call_enum_tup hT fun h' hE hI hsize hk => ?_
  refine wpAny_pyIter_enum hE ?_
  refine lcAt_enum (s₂ := { s with heap := h' }) hh (innerTup s.heap.objs.size t (Nat.ne_of_lt hlt) vs.toArray) hE ⟨hI, hT.at fun o e => hk t o e⟩ (Nat.succ_ne_self _) (ktu_ne 1 hlt) (Nat.ne_of_lt hlt) (F.keeps hk) (N.grown hk)
    (fresh_above F (Nat.le_succ _)) (fresh_above F (Nat.le_refl _)) (fun p hp => ?_) ?_ (by show t < h'.objs.size; rw [hsize]; exact Nat.lt_of_lt_of_le hlt (Nat.le_add_right _ _)) (by simpa using hsz) hkind hxa hxb hab J h0 ?_ (fun D h tk ys news' a b c d => fin D h tk ys news' a b c (by simpa using d))
  · have := Heap.lt_size (N p hp).1
    simp only [List.mem_cons, List.not_mem_nil, or_false, not_or]
    exact ⟨ktu_ne 1 this, Nat.ne_of_lt this⟩
  · simp only [List.mem_cons, List.not_mem_nil, or_false, not_or]
    exact ⟨ktu_ne 1 hLs, Nat.ne_of_lt hLs, fun e => hax.2.1 e.symm⟩
  · intro i t x ys news₁ own C oC D mC h tk E' hx hJ ha hb hoC F' N' off' hA
    exact step i t x ys news₁ own C oC D mC h tk _ E' (by simpa using hx) hJ ha hb hoC F' N' off' hA

/-- a turn's end, of an element that changes nothing -/
def PureEnd (h₀ : Heap) (L : Addr) (m : Str → Option Value) (s₁ : Shared) (all : Ledger) (R : Prop) (s₂ : Shared) : Prop :=
  ∃ h' tk, s₂ = { s₁ with heap := h', toks := tk } ∧ Fr h₀ L h' m ∧ News h₀ L h' all ∧ R
theorem PureEnd.intro {s₁ : Shared} {all now : Ledger} {R : Prop} {h' : Heap} {tk : Nat} (F : Fr h₀ L h' m) (N : News h₀ L h' now) (sub : ∀ p ∈ all, p ∈ now) (r : R) :
    PureEnd h₀ L m s₁ all R { s₁ with heap := h', toks := tk } := ⟨h', tk, rfl, F, fun p hp => N p (sub p hp), r⟩
theorem PureEnd.turn {s₁ s₂ : Shared} {fix news : Ledger} {as : List Addr} {R : Prop} (off : Off as news) (x : PureEnd h₀ L m s₁ (fix ++ news) R s₂) :
    TurnEnd h₀ L m s₁ fix as (fun ns => ns = news ∧ R) s₂ := let ⟨h', tk, e, F, N, r⟩ := x; ⟨h', tk, news, e, F, N, off, rfl, r⟩

/-- enumerate over a tuple, elements that change nothing -/
theorem lc_enum_tupP {elt : Expr} {a b : Str} {pa pb tp : Pos} {kk : Nat} {scope : Scope} {cl : List (Str × Addr)} {Q : Value → Shared → Prop} {t : Addr} {ot : Obj} {vs : List Value} {nt : Nat} {news : Ledger}
    (hh : A.handled = none) (F : Fr h₀ L s.heap m) (N : News h₀ L s.heap news) (hm : (t, ot) ∈ news) (hc : ot.cls = .type "tuple") (hd : ot.data = .seq vs.toArray nt) (hsz : vs.length ≤ sizeLine)
    (hkind : scope.kind = .function) (hxa : scope.names.lookup a = some .local) (hxb : scope.names.lookup b = some .local) (hab : a ≠ b)
    (J : Nat → List Value → Prop) (h0 : J 0 [])
    (step : ∀ i tk₀ x ys own C oC D mC h tk (E' : Value → Shared → Prop), vs[i]? = some x → J i ys → mC a = some (.int (i : Int) tk₀) → mC b = some x → NsObj oC mC → Fr h₀ L h m → News h₀ L h ((C, oC) :: (D, lst ys) :: (own ++ news)) →
      wpAny (model prog w) A (eval elt (compEnvC scope cl C env)) (fun y => PureEnd h₀ L m { s with heap := h, toks := tk } ((C, oC) :: (D, lst ys) :: (own ++ news)) (J (i + 1) (ys ++ [y]))) E' { s with heap := h, toks := tk })
    (fin : ∀ D h tk ys, Fr h₀ L h m → News h₀ L h ((D, lst ys) :: news) → (∀ p ∈ news, p.1 ≠ D) → J vs.length ys → Q (.ref D) { s with heap := h, toks := tk }) :
    wpAny (model prog w) A (call (.type "enumerate") [.ref t]) (fun xv s₁ => wpAny (model prog w) A (pyIter xv) (LcAt prog w A h₀ L m env (.Tuple [.Name a pa, .Name b pb] kk tp) elt scope cl Q) E s₁) E s := by
  refine lc_enum_tup hh F N hm hc hd hsz hkind hxa hxb hab (fun i ys ns => ns = news ∧ J i ys) ⟨rfl, h0⟩ ?_ ?_
  · rintro i tk₀ x ys news₁ own C oC D mC h tk as E' hx ⟨rfl, hJ⟩ ha hb hoC F' N' off _
    exact wpAny_mono (step i tk₀ x ys own C oC D mC h tk E' hx hJ ha hb hoC F' N') (fun y s' x => PureEnd.turn (fix := (C, oC) :: (D, lst ys) :: own) off x) fun _ _ e => e
  · rintro D h tk ys news' F' N' off ⟨rfl, hJ⟩
    exact fin D h tk ys F' N' (fun p hp e => off p hp (by rw [e]; exact List.mem_cons_self)) hJ
end
end PKit4
section PKit5
set_option maxRecDepth 100000
set_option maxHeartbeats 2000000
open PyProof.Rows.LCg (NsObj lst ns_obj lst_snoc)
section
variable {prog : Program} {w : World} {A : Around} {E : Value → Shared → Prop} {s : Shared} {h₀ : Heap} {m : Str → Option Value} {env : Env} {target : Expr} {body : List Stmt} {Q : Flow → Shared → Prop}

/-- the end of a for's turn -/
def ForEnd (h₀ : Heap) (L : Addr) (s₁ : Shared) (own : Ledger) (wr : List Addr) (Q : Flow → Shared → Prop) (R : (Str → Option Value) → Ledger → Prop) (f : Flow) (s' : Shared) : Prop :=
  match f with
  | .ret v => Q (.ret v) s'
  | .brk => Q .next s'
  | _ => ∃ h' tk' m' news', s' = { s₁ with heap := h', toks := tk' } ∧ Fr h₀ L h' m' ∧ News h₀ L h' (own ++ news') ∧ Off wr news' ∧ R m' news'
theorem ForEnd.next {L : Addr} {s₁ : Shared} {own : Ledger} {wr : List Addr} {R : (Str → Option Value) → Ledger → Prop} {h' : Heap} {tk' : Nat} {m' : Str → Option Value} {all : Ledger}
    (F : Fr h₀ L h' m') (N : News h₀ L h' all) (news' : Ledger) (sub : ∀ p ∈ own ++ news', p ∈ all) (off : Off wr news') (r : R m' news') : ForEnd h₀ L s₁ own wr Q R .next { s₁ with heap := h', toks := tk' } :=
  ⟨h', tk', m', news', rfl, F, fun p hp => N p (sub p hp), off, r⟩

/-- a for over any iterator of KTurns, by an invariant over the turn's number, the names and the ledger -/
theorem for_turnsAt {s₂ : Shared} {I : Addr} {fp wr : List Addr} {n : Nat} {P Md : Nat → Value → Heap → Prop} {St : Nat → Heap → Prop} {news : Ledger} {AX : Nat → (Str → Option Value) → (Str → Option Value) → Prop}
    (W : KTurns prog w A target I fp wr n P Md St) (hLf : env.locals ∉ fp) (hwr : ∀ b ∈ wr, h₀.get? b = none) (off : Off wr news) (hst : St 0 s₂.heap) (F : Fr h₀ env.locals s₂.heap m) (N : News h₀ env.locals s₂.heap news)
    (asg : ∀ i v (h : Heap) tk m₁ ns (Q : Unit → Shared → Prop) (E' : Value → Shared → Prop), P i v h → Fr h₀ env.locals h m₁ → News h₀ env.locals h ns →
      (∀ h' tk' m₂, AX i m₁ m₂ → Fr h₀ env.locals h' m₂ → News h₀ env.locals h' ns → Q () { s₂ with heap := h', toks := tk' }) → wpAny (model prog w) A (assign target env v) Q E' { s₂ with heap := h, toks := tk })
    (J : Nat → (Str → Option Value) → Ledger → Prop) (h0 : J 0 m news)
    (step : ∀ i m₁ m₂ news₁ own h tk, i < n → J i m₁ news₁ → AX i m₁ m₂ → Fr h₀ env.locals h m₂ → News h₀ env.locals h (own ++ news₁) → Off wr news₁ → ((∀ i h, St i h → ∀ b ∈ wr, ∃ o, h.get? b = some o ∧ NT o) → Apart wr own) → (∀ p ∈ own, p.1 ∈ fp) →
      wpAny (model prog w) A (execs body env) (ForEnd h₀ env.locals { s₂ with heap := h, toks := tk } own wr Q (J (i + 1))) E { s₂ with heap := h, toks := tk })
    (done : ∀ h' tk m' news', Fr h₀ env.locals h' m' → News h₀ env.locals h' news' → J n m' news' → Q .next { s₂ with heap := h', toks := tk }) :
    TurnsAt prog w A h₀ env target body Q E (.ref I) s₂ := by
  refine ⟨I, fp, wr, n, P, Md, St, m, news, J, rfl, W, hLf, hwr, off, hst, F, N, h0, ?_, fun h' tk m' news' F' N' _ hJ => done h' tk m' news' F' N' hJ⟩
  intro i v m₁ news₁ h₁ tk₁ own hin hP hJ hoff hown hget hall hst₁ F₁ N₁
  refine asg i v h₁ tk₁ m₁ _ _ _ hP F₁ N₁ fun h' tk' m₂ hAX F₂ N₂ => ?_
  have hA : (∀ i h, St i h → ∀ b ∈ wr, ∃ o, h.get? b = some o ∧ NT o) → Apart wr own := by
    intro hc b hb
    obtain ⟨o, e, hn⟩ := hc _ _ hst₁ b hb
    exact ⟨o, hall b (W.sub b hb) (hwr b hb) o e, hn⟩
  refine wpAny_mono (step i m₁ m₂ news₁ own h' tk' hin hJ hAX F₂ N₂ hoff hA hown) (fun f s₃ x => ?_) fun _ _ e => e
  cases f with
  | ret v => exact x
  | brk => exact x
  | next => obtain ⟨h₃, tk₃, m₃, n₃, rfl, a, b, c, d⟩ := x; exact ⟨rfl, h₃, tk₃, m₃, n₃, rfl, a, b, c, d⟩
  | cont => obtain ⟨h₃, tk₃, m₃, n₃, rfl, a, b, c, d⟩ := x; exact ⟨rfl, h₃, tk₃, m₃, n₃, rfl, a, b, c, d⟩

/-- a pair unpacked into two local names of the frame -/
theorem asg_pair {s₂ : Shared} {a b : Str} {pa pb tp : Pos} {kk : Nat} {T : Addr} {x y : Value} {h : Heap} {tk : Nat} {m₁ : Str → Option Value} {ns : Ledger} {Qu : Unit → Shared → Prop} {E' : Value → Shared → Prop}
    (hh : A.handled = none) (ha : env.kindOf a = some .local) (hb : env.kindOf b = some .local) (hp : (env.scope.kind == .class || (env.scope.kind == .module && env.locals != env.globals)) = false)
    (hT : h.IsTuple T #[x, y]) (F : Fr h₀ env.locals h m₁) (N : News h₀ env.locals h ns)
    (hQ : ∀ h' tk', Fr h₀ env.locals h' (fun z => if z = b then some y else if z = a then some x else m₁ z) → News h₀ env.locals h' ns → Qu () { s₂ with heap := h', toks := tk' }) :
    wpAny (model prog w) A (assign (.Tuple [.Name a pa, .Name b pb] kk tp) env (.ref T)) Qu E' { s₂ with heap := h, toks := tk } := by
  refine kcp_assign hh hT ha hb hp F.ns fun h' tk' hn' hk' => hQ h' tk' ⟨hn', fun c o e => hk' c o ?_ (F.keep c o e), F.above⟩ fun p hp => ⟨hk' _ _ (N p hp).2.1 (N p hp).1, (N p hp).2⟩
  intro e'
  have := Heap.lt_size e
  have hab := F.above
  rw [e'] at this
  exact absurd (Nat.lt_of_lt_of_le this hab) (Nat.lt_irrefl _)
/-- one local name of the frame -/
theorem asg_name {s₂ : Shared} {a : Str} {pa : Pos} {x : Value} {h : Heap} {tk : Nat} {m₁ : Str → Option Value} {ns : Ledger} {Qu : Unit → Shared → Prop} {E' : Value → Shared → Prop}
    (ha : env.kindOf a = some .local) (hp : (env.scope.kind == .class || (env.scope.kind == .module && env.locals != env.globals)) = false) (F : Fr h₀ env.locals h m₁) (N : News h₀ env.locals h ns)
    (hQ : ∀ h' tk', Fr h₀ env.locals h' (fun z => if z = a then some x else m₁ z) → News h₀ env.locals h' ns → Qu () { s₂ with heap := h', toks := tk' }) :
    wpAny (model prog w) A (assign (.Name a pa) env x) Qu E' { s₂ with heap := h, toks := tk } :=
  wpAny_assign_Name (wpAny_storeName_local ha F.ns (fun h' hn hs => hQ h' _ (F.set hn hs) (N.set hs)) hp)

theorem map2 {m₀ m₁ : Str → Option Value} {a b : Str} {u v : Option Value} (h : ∀ y, y ≠ a → y ≠ b → m₁ y = m₀ y) : (fun y => if y = b then u else if y = a then v else m₁ y) = (fun y => if y = b then u else if y = a then v else m₀ y) := by
  funext y
  by_cases h1 : y = b
  · simp [h1]
  · by_cases h2 : y = a
    · simp [h2]
    · simp [h1, h2, h y h2 h1]

/-- for a, b in enumerate(..): the body stores nothing else -/
theorem for_enum_search {s₂ : Shared} {a b : Str} {pa pb tp : Pos} {kk : Nat} {e it l : Addr} {items : Array Value} {Sx : Nat → Heap → Prop} {news : Ledger}
    (hh : A.handled = none) (K : Inner prog w it l items Sx) (hE : IsEnum s₂.heap e it 0 .none) (hS : Sx 0 s₂.heap) (hei : e ≠ it) (hle : l ≠ e) (hli : l ≠ it)
    (F : Fr h₀ env.locals s₂.heap m) (N : News h₀ env.locals s₂.heap news) (he₀ : h₀.get? e = none) (hi₀ : h₀.get? it = none) (off : Off [e, it] news) (hLf : env.locals ∉ [e, it, l])
    (ha : env.kindOf a = some .local) (hb : env.kindOf b = some .local) (hp : (env.scope.kind == .class || (env.scope.kind == .module && env.locals != env.globals)) = false)
    (J : Nat → Prop) (h0 : J 0)
    (step : ∀ i t x own h tk, items[i]? = some x → J i → Fr h₀ env.locals h (fun y => if y = b then some x else if y = a then some (.int (i : Int) t) else m y) → News h₀ env.locals h (own ++ news) →
      wpAny (model prog w) A (execs body env) (fun f s' => match f with
        | .ret v => Q (.ret v) s'
        | .brk => Q .next s'
        | _ => PureEnd h₀ env.locals (fun y => if y = b then some x else if y = a then some (.int (i : Int) t) else m y) { s₂ with heap := h, toks := tk } (own ++ news) (J (i + 1)) s') E { s₂ with heap := h, toks := tk })
    (done : ∀ h' tk u v, Fr h₀ env.locals h' (fun y => if y = b then u else if y = a then v else m y) → News h₀ env.locals h' news → J items.size → Q .next { s₂ with heap := h', toks := tk }) :
    TurnsAt prog w A h₀ env (.Tuple [.Name a pa, .Name b pb] kk tp) body Q E (.ref e) s₂ := by
  refine for_turnsAt (AX := fun i m₁ m₂ => ∃ t x, items[i]? = some x ∧ m₂ = fun y => if y = b then some x else if y = a then some (.int (i : Int) t) else m₁ y) (enumTurns hh e it l hei hle hli items K) hLf ?_ off ⟨⟨_, hE⟩, hS⟩ F N ?_
    (fun i m₁ ns => ns = news ∧ (∀ y, y ≠ a → y ≠ b → m₁ y = m y) ∧ J i) ⟨rfl, fun _ _ _ => rfl, h0⟩ ?_ ?_
  · intro c hc
    simp only [List.mem_cons, List.not_mem_nil, or_false] at hc
    rcases hc with rfl | rfl
    · exact he₀
    · exact hi₀
  · rintro i v h tk m₁ ns Qu E' ⟨T, t, x, rfl, hx, hT⟩ F₁ N₁ hQ
    exact asg_pair hh ha hb hp hT F₁ N₁ fun h' tk' F' N' => hQ h' tk' _ ⟨t, x, hx, rfl⟩ F' N'
  · rintro i m₁ m₂ news₁ own h tk hi ⟨rfl, hm, hJ⟩ ⟨t, x, hx, rfl⟩ F' N' off' _ _
    rw [map2 hm] at F'
    refine wpAny_mono (step i t x own h tk hx hJ F' N') (fun f s' q => ?_) fun _ _ e => e
    have fin : PureEnd h₀ env.locals (fun y => if y = b then some x else if y = a then some (.int (i : Int) t) else m y) { s₂ with heap := h, toks := tk } (own ++ news₁) (J (i + 1)) s' →
        ForEnd h₀ env.locals { s₂ with heap := h, toks := tk } own [e, it] Q (fun m₁ ns => ns = news₁ ∧ (∀ y, y ≠ a → y ≠ b → m₁ y = m y) ∧ J (i + 1)) .next s' := by
      rintro ⟨h', tk', rfl, F₃, N₃, hJ'⟩
      exact ⟨h', tk', _, news₁, rfl, F₃, N₃, off', rfl, fun y h1 h2 => by simp [h1, h2], hJ'⟩
    cases f with
    | ret v => exact q
    | brk => exact q
    | next => exact fin q
    | cont => exact fin q
  · rintro h' tk m' news' F' N' ⟨rfl, hm, hJ⟩
    have e1 : m' = fun y => if y = b then m' b else if y = a then m' a else m y := by
      funext y
      by_cases h1 : y = b
      · simp [h1]
      · by_cases h2 : y = a
        · by_cases h3 : a = b
          · exact absurd (h2.trans h3) h1
          · simp [h2, h3]
        · simp [h1, h2, hm y h2 h1]
    rw [e1] at F'
    exact done h' tk _ _ F' N' hJ

theorem for_enum_tup {a b : Str} {pa pb tp : Pos} {kk : Nat} {t : Addr} {ot : Obj} {vs : List Value} {nt : Nat} {news : Ledger}
    (hh : A.handled = none) (F : Fr h₀ env.locals s.heap m) (N : News h₀ env.locals s.heap news) (hm : (t, ot) ∈ news) (hc : ot.cls = .type "tuple") (hd : ot.data = .seq vs.toArray nt)
    (ha : env.kindOf a = some .local) (hb : env.kindOf b = some .local) (hp : (env.scope.kind == .class || (env.scope.kind == .module && env.locals != env.globals)) = false)
    (J : Nat → Prop) (h0 : J 0)
    (step : ∀ i tk₀ x own h tk, vs[i]? = some x → J i → Fr h₀ env.locals h (fun y => if y = b then some x else if y = a then some (.int (i : Int) tk₀) else m y) → News h₀ env.locals h (own ++ news) →
      wpAny (model prog w) A (execs body env) (fun f s' => match f with
        | .ret v => Q (.ret v) s'
        | .brk => Q .next s'
        | _ => PureEnd h₀ env.locals (fun y => if y = b then some x else if y = a then some (.int (i : Int) tk₀) else m y) { s with heap := h, toks := tk } (own ++ news) (J (i + 1)) s') E { s with heap := h, toks := tk })
    (done : ∀ h' tk u v, Fr h₀ env.locals h' (fun y => if y = b then u else if y = a then v else m y) → News h₀ env.locals h' news → J vs.length → Q .next { s with heap := h', toks := tk }) :
    wpAny (model prog w) A (call (.type "enumerate") [.ref t]) (fun xv s₁ => wpAny (model prog w) A (pyIter xv) (fun it s₂ => TurnsAt prog w A h₀ env (.Tuple [.Name a pa, .Name b pb] kk tp) body Q E it s₂) E s₁) E s := by
  have hax := N _ hm
  have hT : s.heap.IsTuple t vs.toArray := ⟨ot, hax.1, hc, nt, hd⟩
  have hlt : t < s.heap.objs.size := Heap.lt_size hax.1
  have hLs : env.locals < s.heap.objs.size := F.ns.lt
  refine call_enum_tup hT fun h' hE hI hsize hk => ?_
  refine wpAny_pyIter_enum hE ?_
  refine for_enum_search (s₂ := { s with heap := h' }) hh (innerTup s.heap.objs.size t (Nat.ne_of_lt hlt) vs.toArray) hE ⟨hI, hT.at fun o e => hk t o e⟩ (Nat.succ_ne_self _) (ktu_ne 1 hlt) (Nat.ne_of_lt hlt) (F.keeps hk) (N.grown hk)
    (fresh_above F (Nat.le_succ _)) (fresh_above F (Nat.le_refl _)) (fun p hp => ?_) ?_ ha hb hp J h0 ?_ (fun h tk u v a b c => done h tk u v a b (by simpa using c))
  · have := Heap.lt_size (N p hp).1
    simp only [List.mem_cons, List.not_mem_nil, or_false, not_or]
    exact ⟨ktu_ne 1 this, Nat.ne_of_lt this⟩
  · simp only [List.mem_cons, List.not_mem_nil, or_false, not_or]
    exact ⟨ktu_ne 1 hLs, Nat.ne_of_lt hLs, fun e => hax.2.1 e.symm⟩
  · intro i t x own h tk hx hJ F' N'
    exact step i t x own h tk (by simpa using hx) hJ F' N'

theorem for_enum_list {a b : Str} {pa pb tp : Pos} {kk : Nat} {t : Addr} {ot : Obj} {vs : List Value} {nt : Nat} {news : Ledger}
    (hh : A.handled = none) (F : Fr h₀ env.locals s.heap m) (N : News h₀ env.locals s.heap news) (hm : (t, ot) ∈ news) (hc : ot.cls = .type "list") (hd : ot.data = .seq vs.toArray nt)
    (ha : env.kindOf a = some .local) (hb : env.kindOf b = some .local) (hp : (env.scope.kind == .class || (env.scope.kind == .module && env.locals != env.globals)) = false)
    (J : Nat → Prop) (h0 : J 0)
    (step : ∀ i tk₀ x own h tk, vs[i]? = some x → J i → Fr h₀ env.locals h (fun y => if y = b then some x else if y = a then some (.int (i : Int) tk₀) else m y) → News h₀ env.locals h (own ++ news) →
      wpAny (model prog w) A (execs body env) (fun f s' => match f with
        | .ret v => Q (.ret v) s'
        | .brk => Q .next s'
        | _ => PureEnd h₀ env.locals (fun y => if y = b then some x else if y = a then some (.int (i : Int) tk₀) else m y) { s with heap := h, toks := tk } (own ++ news) (J (i + 1)) s') E { s with heap := h, toks := tk })
    (done : ∀ h' tk u v, Fr h₀ env.locals h' (fun y => if y = b then u else if y = a then v else m y) → News h₀ env.locals h' news → J vs.length → Q .next { s with heap := h', toks := tk }) :
    wpAny (model prog w) A (call (.type "enumerate") [.ref t]) (fun xv s₁ => wpAny (model prog w) A (pyIter xv) (fun it s₂ => TurnsAt prog w A h₀ env (.Tuple [.Name a pa, .Name b pb] kk tp) body Q E it s₂) E s₁) E s := by
  have hax := N _ hm
  have hT : s.heap.IsList t vs.toArray := ⟨ot, hax.1, hc, nt, hd⟩
  have hlt : t < s.heap.objs.size := Heap.lt_size hax.1
  have hLs : env.locals < s.heap.objs.size := F.ns.lt
  refine call_enumerate_list hT fun h' hE hI hsize hk => ?_
  refine wpAny_pyIter_enum hE ?_
  refine for_enum_search (s₂ := { s with heap := h' }) hh (innerList s.heap.objs.size t (Nat.ne_of_lt hlt) vs.toArray) hE ⟨hI, hT.at fun o e => hk t o e⟩ (Nat.succ_ne_self _) (ktu_ne 1 hlt) (Nat.ne_of_lt hlt) (F.keeps hk) (N.grown hk)
    (fresh_above F (Nat.le_succ _)) (fresh_above F (Nat.le_refl _)) (fun p hp => ?_) ?_ ha hb hp J h0 ?_ (fun h tk u v a b c => done h tk u v a b (by simpa using c))
  · have := Heap.lt_size (N p hp).1
    simp only [List.mem_cons, List.not_mem_nil, or_false, not_or]
    exact ⟨ktu_ne 1 this, Nat.ne_of_lt this⟩
  · simp only [List.mem_cons, List.not_mem_nil, or_false, not_or]
    exact ⟨ktu_ne 1 hLs, Nat.ne_of_lt hLs, fun e => hax.2.1 e.symm⟩
  · intro i t x own h tk hx hJ F' N'
    exact step i t x own h tk (by simpa using hx) hJ F' N'
end
end PKit5
set_option maxRecDepth 100000
set_option maxHeartbeats 1000000

local macro_rules | `(tactic| walk_at "m enterC") => `(tactic| (refine' code_defC ?k1 ?k2 ?k3 ?k4 ?k5 ?kA ?kF ?kK ?k6 ?k7 ?k8 ?k9 ?kB ?kD ?_ ?c2 ?c3 ?c4; (case kA => exact rfl); (case kF => exact rfl); (case kK => assumption); (case k1 => k_asm); (case k2 => k_asm); (case k3 => k_asm); (case k4 => k_asm); (case k5 => k_asm); (case k6 => k_is); (case k7 => k_is); (case k8 => ktr_room); (case k9 => exact BindsTo.of_eq rfl); (case kB => exact rfl); (case kD => decide +kernel); (case c2 => exact rfl); (case c3 => exact rfl); (case c4 => exact rfl); k_whole; intro g' L' h' tk' cells' FG' F' N' Y' B' X' T' l1; (try k_lt l1); k_cells Y'; (try simp only [List.cons_append, List.nil_append] at N'); (try dsimp only); (try k_lift B'); (try k_fold)))
theorem ints_pair {ks ls : List Int} {us : List Value} {i : Nat} {n : Int} (hk : ks[i]? = some n) (hlen : ks.length = ls.length) (hub : IntsAre us ls) : ∃ n2 t2, us[i]? = some (.int n2 t2) ∧ ls[i]? = some n2 := by
  have h1 : i < ls.length := by have := (List.getElem?_eq_some_iff.mp hk).1; omega
  obtain ⟨t, ht⟩ := hub.get i ls[i] (List.getElem?_eq_getElem h1)
  exact ⟨_, t, ht, List.getElem?_eq_getElem h1⟩
theorem ints_zip_snoc {f : Int → Int → Int} {ks ls : List Int} {i : Nat} {n1 n2 : Int} {ys : List Value} {t : Tok} (h1 : ks[i]? = some n1) (h2 : ls[i]? = some n2) (hJ : IntsAre ys ((List.zipWith f ks ls).take i)) :
    IntsAre (ys ++ [.int (f n1 (ls.getD ((i : Nat) : Int).toNat 0)) t]) ((List.zipWith f ks ls).take (i + 1)) := by
  have e1 : ls.getD ((i : Nat) : Int).toNat 0 = n2 := by simp [List.getD, h2]
  rw [e1]
  have e : (List.zipWith f ks ls)[i]? = some (f n1 n2) := by rw [List.getElem?_zipWith, h1, h2]
  rw [List.take_add_one, e]
  exact hJ.append (.cons _ _ .nil)
section
theorem lines_15 : True := by
  k_with "X:eval ListComp" => (k_here; k_dflt (refine lc_eval (by k_asm) (by with_unfolding_all rfl) (by decide) (by rfl) (by decide) ?_))
  trivial
theorem pprod_ok (w : World) (ks ls : List Int) (x y : Value) (news : Ledger) (ha : TupIn news ks x) (hb : TupIn news ls y) (hlen : ks.length = ls.length) (hsz : ks.length ≤ 1000) : Told w 44 [x, y] news 2 (fun ns v => TupIn ns (List.zipWith (fun p q => p + q) ks ls) v) := by
  obtain ⟨a1, vs, rfl, ha, hva⟩ := ha
  obtain ⟨b1, us, rfl, hb, hub⟩ := hb
  unfold Told
  intro mean mg mb dp un gd cn cs a ccd cl outer A₀ base h₀ L m s Q E B F X N T hk hdp hun hret
  refine wpAny_call ?_
  k_dflt (walk_at "m enterC")
  k_steps
  refine lc_enum_tupP rfl (by assumption) (by assumption) (by walk_at "m mem") rfl rfl (by have := hva.length; rw [sizeLine_eq]; omega) rfl rfl rfl (by decide)
    (fun i ys => IntsAre ys ((List.zipWith (fun p q => p + q) ks ls).take i)) .nil ?_ ?_
  · intro i tk₀ x ys own C oC D mC h tk E' hx hJ hxa hxb hoC F9 N9
    obtain ⟨n1, t1, rfl, hk1⟩ := hva.at i _ hx
    obtain ⟨n2, t2, hx2, hl2⟩ := ints_pair hk1 hlen hub
    have hi : i < us.length := (List.getElem?_eq_some_iff.mp hx2).1
    have hlu := hub.length
    k_steps
    exact PureEnd.intro (by assumption) (by assumption) (by walk_at "m sub") (ints_zip_snoc hk1 hl2 hJ)
  · intro D h tk ys F9 N9 hne hJ
    rw [List.take_of_length_le (by have := hva.length; rw [List.length_zipWith]; omega)] at hJ
    k_steps
    refine kde_tupleOf (by assumption) (by assumption) (News.isList (by assumption) (by walk_at "m mem")) (by have := hJ.length; have := hva.length; rw [List.length_zipWith] at *; simp only [List.size_toArray]; omega) rfl ?_
    intro D' h' F' N' l1
    k_steps
    exact told_end_tup hret (by assumption) (by assumption) (by walk_at "m mem") hJ (by walk_at "m sub")
end
section
theorem pquot_ok (w : World) (ks ls : List Int) (x y : Value) (news : Ledger) (ha : TupIn news ks x) (hb : TupIn news ls y) (hlen : ks.length = ls.length) (hsz : ks.length ≤ 1000) : Told w 56 [x, y] news 2 (fun ns v => TupIn ns (List.zipWith (fun p q => p - q) ks ls) v) := by
  obtain ⟨a1, vs, rfl, ha, hva⟩ := ha
  obtain ⟨b1, us, rfl, hb, hub⟩ := hb
  unfold Told
  intro mean mg mb dp un gd cn cs a ccd cl outer A₀ base h₀ L m s Q E B F X N T hk hdp hun hret
  refine wpAny_call ?_
  k_dflt (walk_at "m enterC")
  k_steps
  refine lc_enum_tupP rfl (by assumption) (by assumption) (by walk_at "m mem") rfl rfl (by have := hva.length; rw [sizeLine_eq]; omega) rfl rfl rfl (by decide)
    (fun i ys => IntsAre ys ((List.zipWith (fun p q => p - q) ks ls).take i)) .nil ?_ ?_
  · intro i tk₀ x ys own C oC D mC h tk E' hx hJ hxa hxb hoC F9 N9
    obtain ⟨n1, t1, rfl, hk1⟩ := hva.at i _ hx
    obtain ⟨n2, t2, hx2, hl2⟩ := ints_pair hk1 hlen hub
    have hi : i < us.length := (List.getElem?_eq_some_iff.mp hx2).1
    have hlu := hub.length
    k_steps
    exact PureEnd.intro (by assumption) (by assumption) (by walk_at "m sub") (ints_zip_snoc hk1 hl2 hJ)
  · intro D h tk ys F9 N9 hne hJ
    rw [List.take_of_length_le (by have := hva.length; rw [List.length_zipWith]; omega)] at hJ
    k_steps
    refine kde_tupleOf (by assumption) (by assumption) (News.isList (by assumption) (by walk_at "m mem")) (by have := hJ.length; have := hva.length; rw [List.length_zipWith] at *; simp only [List.size_toArray]; omega) rfl ?_
    intro D' h' F' N' l1
    k_steps
    exact told_end_tup hret (by assumption) (by assumption) (by walk_at "m mem") hJ (by walk_at "m sub")
end

set_option maxRecDepth 100000
set_option maxHeartbeats 1000000

/-- the division of powers -/
def divB (ks ls : List Int) : Bool := (ks.zip ls).all fun p => decide (p.1 ≤ p.2)
theorem getD_at {ls : List Int} {i : Nat} {n : Int} (h : ls[i]? = some n) : ls.getD ((i : Nat) : Int).toNat 0 = n := by simp [List.getD, h]
theorem divB_no {ks ls : List Int} {i : Nat} {n1 n2 : Int} (h1 : ks[i]? = some n1) (h2 : ls[i]? = some n2) (h : n1 > ls.getD ((i : Nat) : Int).toNat 0) : divB ks ls = false := by
  rw [getD_at h2] at h
  have hz : (ks.zip ls)[i]? = some (n1, n2) := by rw [List.getElem?_zip_eq_some]; exact ⟨h1, h2⟩
  unfold divB
  rw [List.all_eq_false]
  exact ⟨_, List.mem_of_getElem? hz, by simp; omega⟩
theorem divB_snoc {ks ls : List Int} {i : Nat} {n1 n2 : Int} (h1 : ks[i]? = some n1) (h2 : ls[i]? = some n2) (h : ¬ n1 > ls.getD ((i : Nat) : Int).toNat 0) (hJ : ((ks.zip ls).take i).all (fun p => decide (p.1 ≤ p.2)) = true) :
    ((ks.zip ls).take (i + 1)).all (fun p => decide (p.1 ≤ p.2)) = true := by
  rw [getD_at h2] at h
  have hz : (ks.zip ls)[i]? = some (n1, n2) := by rw [List.getElem?_zip_eq_some]; exact ⟨h1, h2⟩
  rw [List.take_add_one, hz, List.all_append, hJ]
  simp; omega
section
theorem lines_16 : True := by
  k_with "X:exec For Tuple Name cons nil" => (k_here; (with_unfolding_all refine' For_turns (by assumption) ?_); k_whole)
  k_with "X:exec For Tuple Call cons nil" => (k_here; (with_unfolding_all refine' For_turns (by assumption) ?_); k_whole)
  trivial
theorem pdiv_ok (w : World) (ks ls : List Int) (x y : Value) (news : Ledger) (ha : TupIn news ks x) (hb : TupIn news ls y) (hlen : ks.length = ls.length) (hsz : ks.length ≤ 1000) : Told w 51 [x, y] news 2 (fun _ v => v = .bool (divB ks ls)) := by
  obtain ⟨a1, vs, rfl, ha, hva⟩ := ha
  obtain ⟨b1, us, rfl, hb, hub⟩ := hb
  unfold Told
  intro mean mg mb dp un gd cn cs a ccd cl outer A₀ base h₀ L m s Q E B F X N T hk hdp hun hret
  refine wpAny_call ?_
  k_dflt cell_enter
  k_steps
  refine for_enum_tup rfl (by assumption) (by assumption) (by walk_at "m mem") rfl rfl rfl rfl rfl (fun i => ((ks.zip ls).take i).all (fun p => decide (p.1 ≤ p.2)) = true) rfl ?_ ?_
  · intro i tk₀ x own h tk hx hJ F9 N9
    obtain ⟨n1, t1, rfl, hk1⟩ := hva.at i _ hx
    obtain ⟨n2, t2, hx2, hl2⟩ := ints_pair hk1 hlen hub
    have hi : i < us.length := (List.getElem?_eq_some_iff.mp hx2).1
    have hlu := hub.length
    k_steps
    · exact told_end_val hret (by assumption) (by assumption) (by walk_at "m sub") (by rw [divB_no hk1 hl2 (by assumption)])
    · exact PureEnd.intro (by assumption) (by assumption) (by walk_at "m sub") (divB_snoc hk1 hl2 (by assumption) hJ)
  · intro h' tk u v F9 N9 hJ
    k_steps
    exact told_end_val hret (by assumption) (by assumption) (by walk_at "m sub") (by rw [show divB ks ls = true from by have := hva.length; rw [List.take_of_length_le (by rw [List.length_zip]; omega)] at hJ; exact hJ])
end

theorem lines_17 : True := by
  k_with_none
  trivial
section PKit6
set_option maxRecDepth 100000
set_option maxHeartbeats 2000000
/-- the kind of the keys: tuples of ints -/
noncomputable abbrev PK (w : World) : HeapKind PR w (List Int) := tupleKind (intKind PR w)

theorem keys_of_ints {w : World} : ∀ {vs : List Value} {ks : List Int}, IntsAre vs ks → PySem.ItemsAre (intKind PR w) ks vs
  | _, _, .nil => .nil
  | _, _, .cons n t h => .cons (intKind_is _ _ n t) (keys_of_ints h)

/-- the terms of a polynomial, as the ledger bears them -/
inductive TermsIn (ns : Ledger) : List (List Int × Addr × Value) → List (List Int × Int) → Prop
  | nil : TermsIn ns [] []
  | cons {ks : List Int} {a : Addr} {v : Value} {c : Int} {xs : List (List Int × Addr × Value)} {P : List (List Int × Int)} : TupIn ns ks (.ref a) → RatIn ns c v → TermsIn ns xs P → TermsIn ns ((ks, a, v) :: xs) ((ks, c) :: P)

def PolyObj (w : World) (ns : Ledger) (o : Obj) (P : List (List Int × Int)) : Prop :=
  o.ExactDict ∧ ∃ es ep xs, o.data = .dict es ep ∧ es.toList = xs.map (entryOfKey (PK w)) ∧ (P.map (·.1)).Nodup ∧ TermsIn ns xs P
/-- v is a dict that stands for P -/
def PolyIn (w : World) (ns : Ledger) (P : List (List Int × Int)) (v : Value) : Prop := ∃ d o, v = .ref d ∧ (d == sysModules) = false ∧ (d, o) ∈ ns ∧ PolyObj w ns o P

/-- a term's number -/
def coef (P : List (List Int × Int)) (ks : List Int) : Option Int := (P.find? fun q => decide (q.1 = ks)).map (·.2)
def setP (P : List (List Int × Int)) (ks : List Int) (c : Int) : List (List Int × Int) := if (coef P ks).isSome then P.map (fun q => if q.1 = ks then (q.1, c) else q) else P ++ [(ks, c)]
def delP (P : List (List Int × Int)) (ks : List Int) : List (List Int × Int) := P.filter fun q => !decide (q.1 = ks)

theorem TermsIn.mono {ns ns' : Ledger} (hs : ∀ p ∈ ns, p ∈ ns') : ∀ {xs : List (List Int × Addr × Value)} {P : List (List Int × Int)}, TermsIn ns xs P → TermsIn ns' xs P
  | _, _, .nil => .nil
  | _, _, .cons h1 h2 h3 => .cons (h1.mono hs) (h2.mono hs) (h3.mono hs)
theorem PolyObj.mono {w : World} {ns ns' : Ledger} {o : Obj} {P : List (List Int × Int)} (x : PolyObj w ns o P) (hs : ∀ p ∈ ns, p ∈ ns') : PolyObj w ns' o P :=
  let ⟨h1, es, ep, xs, h2, h3, h4, h5⟩ := x; ⟨h1, es, ep, xs, h2, h3, h4, h5.mono hs⟩
theorem PolyIn.mono {w : World} {ns ns' : Ledger} {P : List (List Int × Int)} {v : Value} (x : PolyIn w ns P v) (hs : ∀ p ∈ ns, p ∈ ns') : PolyIn w ns' P v :=
  let ⟨d, o, e, lo, hm, h⟩ := x; ⟨d, o, e, lo, hs _ hm, h.mono hs⟩
theorem TermsIn.keys {ns : Ledger} : ∀ {xs : List (List Int × Addr × Value)} {P : List (List Int × Int)}, TermsIn ns xs P → xs.map (·.1) = P.map (·.1)
  | _, _, .nil => rfl
  | _, _, .cons _ _ h => by simp [h.keys]
theorem TermsIn.length {ns : Ledger} {xs : List (List Int × Addr × Value)} {P : List (List Int × Int)} (x : TermsIn ns xs P) : xs.length = P.length := by
  have := congrArg List.length x.keys
  simpa using this
theorem TupIn.key {w : World} {ns : Ledger} {h₀ h : Heap} {L : Addr} {ks : List Int} {a : Addr} (x : TupIn ns ks (.ref a)) (N : News h₀ L h ns) : (PK w).is h ks a := by
  obtain ⟨b, vs, e, hm, hi⟩ := x
  cases e
  exact (TupKeyObj.made (keys_of_ints hi)).key (N.get hm)
theorem TermsIn.are {w : World} {ns : Ledger} {h₀ h : Heap} {L : Addr} (N : News h₀ L h ns) : ∀ {xs : List (List Int × Addr × Value)} {P : List (List Int × Int)}, TermsIn ns xs P → ∀ x ∈ xs, (PK w).is h x.1 x.2.1
  | _, _, .nil, _, hx => nomatch hx
  | _, _, .cons h1 _ h3, x, hx => by
    rcases List.mem_cons.mp hx with rfl | hx
    · exact h1.key N
    · exact h3.are N x hx
/-- what a dict's object says of the heap -/
theorem PolyObj.at {w : World} {ns : Ledger} {o : Obj} {P : List (List Int × Int)} {h₀ h : Heap} {L d : Addr} (x : PolyObj w ns o P) (N : News h₀ L h ns) (ho : h.get? d = some o) :
    ∃ xs, h.DictOfH (PK w) d xs ∧ TermsIn ns xs P ∧ (P.map (·.1)).Nodup := by
  obtain ⟨h1, es, ep, xs, h2, h3, h4, h5⟩ := x
  exact ⟨xs, ⟨o, es, ep, ho, h1, h2, h3, h5.are N, by rw [h5.keys]; exact h4⟩, h5, h4⟩
/-- and back -/
theorem PolyObj.of {w : World} {ns : Ledger} {P : List (List Int × Int)} {h : Heap} {d : Addr} {xs : List (List Int × Addr × Value)} (x : h.DictOfH (PK w) d xs) (T : TermsIn ns xs P) : ∃ o, h.get? d = some o ∧ PolyObj w ns o P := by
  obtain ⟨o, es, ep, ho, hc, hd, he, _, hn⟩ := x
  exact ⟨o, ho, hc, es, ep, xs, hd, he, by rw [← T.keys]; exact hn, T⟩

theorem TermsIn.atKey {ns : Ledger} {ks : List Int} : ∀ {xs : List (List Int × Addr × Value)} {P : List (List Int × Int)}, TermsIn ns xs P →
    (PySem.atKey xs ks = none ∧ coef P ks = none) ∨ ∃ p c, PySem.atKey xs ks = some p ∧ coef P ks = some c ∧ RatIn ns c p.2 ∧ TupIn ns ks (.ref p.1)
  | _, _, .nil => .inl ⟨rfl, rfl⟩
  | _, _, @TermsIn.cons _ ks' a v c xs P h1 h2 h3 => by
    by_cases h : ks' = ks
    · subst h
      exact .inr ⟨(a, v), c, by simp [PySem.atKey], by simp [coef], h2, h1⟩
    · rcases h3.atKey (ks := ks) with ⟨e1, e2⟩ | ⟨p, c', e1, e2, r⟩
      · exact .inl ⟨by simpa [PySem.atKey, h] using e1, by simpa [coef, h] using e2⟩
      · exact .inr ⟨p, c', by simpa [PySem.atKey, h] using e1, by simpa [coef, h] using e2, r⟩
theorem TermsIn.snoc {ns : Ledger} {ks : List Int} {a : Addr} {v : Value} {c : Int} (h1 : TupIn ns ks (.ref a)) (h2 : RatIn ns c v) : ∀ {xs : List (List Int × Addr × Value)} {P : List (List Int × Int)}, TermsIn ns xs P → TermsIn ns (xs ++ [(ks, a, v)]) (P ++ [(ks, c)])
  | _, _, .nil => .cons h1 h2 .nil
  | _, _, .cons g1 g2 g3 => .cons g1 g2 (g3.snoc h1 h2)
theorem TermsIn.put {ns : Ledger} {ks : List Int} {v : Value} {c : Int} (h2 : RatIn ns c v) : ∀ {xs : List (List Int × Addr × Value)} {P : List (List Int × Int)}, TermsIn ns xs P → TermsIn ns (xs.map (putAt ks v)) (P.map (fun q => if q.1 = ks then (q.1, c) else q))
  | _, _, .nil => .nil
  | _, _, @TermsIn.cons _ ks' a v' c' xs P g1 g2 g3 => by
    by_cases h : ks' = ks
    · simp only [List.map_cons, putAt, h, if_true]
      exact .cons (h ▸ g1) h2 (g3.put h2)
    · simp only [List.map_cons, putAt, h, if_false]
      exact .cons g1 g2 (g3.put h2)
theorem TermsIn.stored {ns : Ledger} {ks : List Int} {a : Addr} {v : Value} {c : Int} (h1 : TupIn ns ks (.ref a)) (h2 : RatIn ns c v) {xs : List (List Int × Addr × Value)} {P : List (List Int × Int)} (x : TermsIn ns xs P) :
    TermsIn ns (storedH xs ks a v) (setP P ks c) := by
  unfold storedH setP
  rcases x.atKey (ks := ks) with ⟨e1, e2⟩ | ⟨p, c', e1, e2, _⟩
  · rw [e1, e2]; exact x.snoc h1 h2
  · rw [e1, e2]; exact x.put h2

section
variable {w : World} {A : Around} {E : Value → Shared → Prop} {s : Shared} {h₀ : Heap} {L : Addr} {m : Str → Option Value} {env : Env} {d a : Addr} {ks : List Int} {c : Int} {P : List (List Int × Int)} {ns : Ledger}

theorem in_poly {Q : Value → Shared → Prop} (hu : A.units + 1 < cLine) (N : News h₀ L s.heap ns) (hd : PolyIn w ns P (.ref d)) (hk : TupIn ns ks (.ref a))
    (h : Q (.bool (coef P ks).isSome) { s with toks := s.toks + (ks.length + 1) }) : wpAny (model PR w) A (compareOp .In (.ref a) (.ref d)) Q E s := by
  obtain ⟨d', o, e, lo, hm, PO⟩ := hd
  cases e
  obtain ⟨xs, hD, T, _⟩ := PO.at N (N.get hm)
  refine wpAny_in_heap (knd := PK w) (tupleKind_room_in1 hu) (hk.key N) lo hD ?_
  have e : (atKey xs ks).isSome = (coef P ks).isSome := by
    rcases T.atKey (ks := ks) with ⟨e1, e2⟩ | ⟨p, c', e1, e2, _⟩ <;> rw [e1, e2] <;> rfl
  rw [e]
  exact h

theorem set_news {h' : Heap} {o o' : Obj} (N : News h₀ L s.heap ((d, o) :: ns)) (hne : ∀ p ∈ ns, p.1 ≠ d) (hs : Heap.SameBut d s.heap h') (ho' : h'.get? d = some o') : News h₀ L h' ((d, o') :: ns) := fun p hp => by
  rcases List.mem_cons.mp hp with rfl | hp
  · exact ⟨ho', (N _ List.mem_cons_self).2⟩
  · exact ⟨(hs.2 _ (hne p hp)).trans (N p (List.mem_cons_of_mem _ hp)).1, (N p (List.mem_cons_of_mem _ hp)).2⟩
theorem tail_news {h : Heap} {p : Addr × Obj} (N : News h₀ L h (p :: ns)) : News h₀ L h ns := fun q hq => N q (List.mem_cons_of_mem _ hq)

theorem dset_poly {o : Obj} {all : Ledger} {v : Value} {Q : Unit → Shared → Prop} (hu : A.units < cLine) (F : Fr h₀ L s.heap m) (N : News h₀ L s.heap ((d, o) :: all)) (hne : ∀ p ∈ all, p.1 ≠ d) (hsub : ∀ p ∈ ns, p ∈ all) (PO : PolyObj w ns o P) (hk : TupIn ns ks (.ref a)) (hv : RatIn ns c v) (hsz : P.length ≤ 10000)
    (h : ∀ h' tk' o', Fr h₀ L h' m → News h₀ L h' ((d, o') :: all) → PolyObj w ns o' (setP P ks c) → Q () { s with heap := h', toks := tk' }) :
    wpAny (model PR w) A (dictSet d (.ref a) v) Q E s := by
  have Nt : News h₀ L s.heap ns := fun p hp => tail_news N p (hsub p hp)
  obtain ⟨xs, hD, T, _⟩ := PO.at Nt (N.get List.mem_cons_self)
  have hl := T.length
  refine wpAny_dictSet_heap (knd := PK w) (hsz := by rw [sizeLine_eq]; omega) hu (hk.key Nt) hD fun h' hD' hs => ?_
  obtain ⟨o', ho', PO'⟩ := PolyObj.of hD' (T.stored hk hv)
  have hax := N (d, o) List.mem_cons_self
  exact h h' _ o' (F.change hs hax.2.1 hax.2.2) (set_news N hne hs ho') PO'

theorem set_poly {o : Obj} {all : Ledger} {v : Value} {Q : Unit → Shared → Prop} (hu : A.units + 1 < cLine) (F : Fr h₀ L s.heap m) (N : News h₀ L s.heap ((d, o) :: all)) (hne : ∀ p ∈ all, p.1 ≠ d) (hsub : ∀ p ∈ ns, p ∈ all) (PO : PolyObj w ns o P) (hk : TupIn ns ks (.ref a)) (hv : RatIn ns c v) (hsz : P.length ≤ 10000)
    (h : ∀ h' tk' o', Fr h₀ L h' m → News h₀ L h' ((d, o') :: all) → PolyObj w ns o' (setP P ks c) → Q () { s with heap := h', toks := tk' }) :
    wpAny (model PR w) A (setItem (.ref d) (.ref a) v) Q E s := by
  have Nt : News h₀ L s.heap ns := fun p hp => tail_news N p (hsub p hp)
  obtain ⟨xs, hD, T, _⟩ := PO.at Nt (N.get List.mem_cons_self)
  have hl := T.length
  refine wpAny_setItem_heap (knd := PK w) (hsz := by rw [sizeLine_eq]; omega) (tupleKind_room_in1 hu) (hk.key Nt) hD fun h' hD' hs => ?_
  obtain ⟨o', ho', PO'⟩ := PolyObj.of hD' (T.stored hk hv)
  have hax := N (d, o) List.mem_cons_self
  exact h h' _ o' (F.change hs hax.2.1 hax.2.2) (set_news N hne hs ho') PO'

theorem map_erase {α β : Type} (f : α → β) : ∀ (l : List α) (j : Nat), (l.map f).eraseIdx j = (l.eraseIdx j).map f
  | [], _ => rfl
  | _ :: _, 0 => rfl
  | x :: r, j + 1 => by simp [List.eraseIdx_cons_succ, map_erase f r j]
/-- a key taken out -/
theorem TermsIn.erase {nl : Ledger} {ks : List Int} : ∀ {xs : List (List Int × Addr × Value)} {P : List (List Int × Int)} {j : Nat} {p : Addr × Value}, TermsIn nl xs P → (P.map (·.1)).Nodup → xs[j]? = some (ks, p) → TermsIn nl (xs.eraseIdx j) (delP P ks)
  | _, _, j, p, .nil, _, hj => by simp at hj
  | _, _, 0, p, @TermsIn.cons _ ks' a v c xs P h1 h2 h3, hn, hj => by
    simp only [List.getElem?_cons_zero, Option.some.injEq] at hj
    cases hj
    simp only [List.map_cons, List.nodup_cons] at hn
    have e : delP ((ks, c) :: P) ks = P := by
      unfold delP
      rw [List.filter_cons]
      simp only [decide_true, Bool.not_true, Bool.false_eq_true, if_false]
      rw [List.filter_eq_self]
      intro q hq
      have : q.1 ≠ ks := fun e => hn.1 (e ▸ List.mem_map_of_mem hq)
      simp [this]
    rw [e]
    exact h3
  | _, _, j + 1, p, @TermsIn.cons _ ks' a v c xs P h1 h2 h3, hn, hj => by
    simp only [List.getElem?_cons_succ] at hj
    simp only [List.map_cons, List.nodup_cons] at hn
    have hne : ks' ≠ ks := by
      intro e
      have hm : ks ∈ xs.map (·.1) := List.mem_map.mpr ⟨_, List.mem_of_getElem? hj, rfl⟩
      rw [h3.keys, ← e] at hm
      exact hn.1 hm
    have e : delP ((ks', c) :: P) ks = (ks', c) :: delP P ks := by simp [delP, hne]
    rw [e, List.eraseIdx_cons_succ]
    exact .cons h1 h2 (h3.erase hn.2 hj)

theorem takeOut_poly {o : Obj} {all : Ledger} {Q : Option DictEntry → Shared → Prop} (hu : A.units < cLine) (F : Fr h₀ L s.heap m) (N : News h₀ L s.heap ((d, o) :: all)) (hne : ∀ p ∈ all, p.1 ≠ d) (hsub : ∀ p ∈ ns, p ∈ all) (PO : PolyObj w ns o P) (hk : TupIn ns ks (.ref a)) (hc : (coef P ks).isSome = true) (hsz : P.length ≤ 10000)
    (h : ∀ h' tk' o' e, Fr h₀ L h' m → News h₀ L h' ((d, o') :: all) → PolyObj w ns o' (delP P ks) → Q (some e) { s with heap := h', toks := tk' }) :
    wpAny (model PR w) A (Builtin.Dict.takeOut d (.ref a)) Q E s := by
  have Nt : News h₀ L s.heap ns := fun p hp => tail_news N p (hsub p hp)
  obtain ⟨xs, hD, T, hnd⟩ := PO.at Nt (N.get List.mem_cons_self)
  have hl := T.length
  have hkey := hk.key (w := w) Nt
  obtain ⟨o1, es, ep, ho, hcx, hd, he, his, hn⟩ := hD
  have hes : es.size ≤ sizeLine := by rw [size_of_entries he, sizeLine_eq]; omega
  unfold Builtin.Dict.takeOut
  try with_reducible refine wpAny_holding ?_
  refine wpAny_bind ((PK w).pyHash hu hkey ?_)
  refine wpAny_bind (wpAny_dictFind_heap (knd := PK w) (s := { s with toks := s.toks + (PK w).draws ks }) hu hkey ho hd he his hn ?_ ?_)
  · intro hno
    rcases T.atKey (ks := ks) with ⟨_, e2⟩ | ⟨p, c', e1, _⟩
    · rw [e2] at hc; cases hc
    · exfalso
      have := atKey_none_of_get hno
      rw [e1] at this; cases this
  · intro j p hj
    have hej : es[j]? = some (entryOfKey (PK w) (ks, p)) := by rw [entry_at he j, hj]; rfl
    refine wpAny_bind (wpAny_dictEntries (s := { s with toks := s.toks + (PK w).draws ks }) ho hd ?_)
    rw [hej]
    refine wpAny_bind (wpAny_updateDictKeys (hz := hes) (s := { s with toks := s.toks + (PK w).draws ks }) ho hd (wpAny_pure ?_))
    have hax := N (d, o) List.mem_cons_self
    have hs : Heap.SameBut d s.heap (s.heap.update d (Obj.mapDictKeys fun es => es.eraseIdxIfInBounds j)) := Heap.SameBut.update ..
    have ho' := Heap.get?_update_self (Obj.mapDictKeys fun es => es.eraseIdxIfInBounds j) ho (Obj.isFreed_of_dict (Obj.data_mapDictKeys hd _))
    refine h _ _ _ _ (F.change hs hax.2.1 hax.2.2) (set_news N hne hs ho') ⟨hcx.mapDictKeys _, _, ep + 1, xs.eraseIdx j, Obj.data_mapDictKeys hd _, ?_, ?_, T.erase hnd hj⟩
    · obtain ⟨l⟩ := es
      have he' : l = xs.map (entryOfKey (PK w)) := he
      simp only [List.eraseIdxIfInBounds_toArray]
      rw [he', map_erase]
    · have := (T.erase hnd hj).keys
      rw [← this]
      exact (List.Sublist.map _ (List.eraseIdx_sublist xs j)).nodup hn

theorem pop_poly {o : Obj} {all : Ledger} {more : List Value} {Q : Value → Shared → Prop} (hu : A.units + 1 < cLine) (F : Fr h₀ L s.heap m) (N : News h₀ L s.heap ((d, o) :: all)) (hne : ∀ p ∈ all, p.1 ≠ d) (hsub : ∀ p ∈ ns, p ∈ all) (PO : PolyObj w ns o P) (hk : TupIn ns ks (.ref a)) (hc : (coef P ks).isSome = true) (hsz : P.length ≤ 10000)
    (hmore : more = [] ∨ more = [Value.none])
    (h : ∀ h' tk' o' v, Fr h₀ L h' m → News h₀ L h' ((d, o') :: all) → PolyObj w ns o' (delP P ks) → Q v { s with heap := h', toks := tk' }) :
    wpAny (model PR w) A (call (.builtin "dict.pop") (.ref d :: .ref a :: more)) Q E s := by
  have hT : s.TypeIs (.ref d) "dict" := ⟨o, N.get List.mem_cons_self, PO.1.1⟩
  have hargs : argsOk "dict.pop" ⟨.ref d :: .ref a :: more, []⟩ := by
    rcases hmore with rfl | rfl
    · exact PySem.F.args_dict_pop_2 _ _
    · exact PySem.F.args_dict_pop_3 _ _ _
  have hP : P ≠ [] := by rintro rfl; simp [coef] at hc
  refine wpAny_call (codeAny_call_builtin PySem.F.slot_dict_pop.plain PySem.F.entry_dict_pop (PySem.F.slot_dict_pop.check _ _ _ _ _ _ _ _ hT hargs ?_))
  unfold Builtin.«dict.pop»
  refine wpAny_bind ?_
  unfold Builtin.Dict.keyAndDefault
  refine wpAny_bind (wpAny_notOrdered_dict hT ?_)
  obtain ⟨xs, hD, T, _⟩ := PO.at (fun p hp => tail_news N p (hsub p hp)) (N.get List.mem_cons_self)
  obtain ⟨o1, es, ep, ho, _, hd, he, _⟩ := hD
  have hemp : es.isEmpty = false := by
    have h1 := size_of_entries he
    have h2 := T.length
    have h3 : P.length ≠ 0 := fun h => hP (List.length_eq_zero_iff.mp h)
    rw [Array.isEmpty_eq_false_iff]
    intro h4
    rw [h4] at h1
    simp at h1
    omega
  rcases hmore with rfl | rfl
  · show wpAny _ _ (pure (d, Value.ref a, (none : Option Value))) _ _ s
    refine wpAny_pure ?_
    dsimp only
    rw [if_neg (show ¬ ((keyPart (Value.ref a)).isSome = true) from by simp [keyPart])]
    refine wpAny_bind (wpAny_dictEntries ho hd (wpAny_bind (wpAny_pure ?_)))
    rw [hemp]
    simp only [Bool.false_eq_true, if_false]
    refine wpAny_bind (takeOut_poly hu F N hne hsub PO hk hc hsz fun h' tk' o' e F' N' PO' => ?_)
    simp only [Option.isNone_some, Bool.false_eq_true, if_false]
    exact wpAny_bind (wpAny_letGo (wpAny_pure (h h' tk' o' e.val F' N' PO')))
  · show wpAny _ _ (pure (d, Value.ref a, some Value.none)) _ _ s
    refine wpAny_pure ?_
    dsimp only
    rw [if_neg (show ¬ ((keyPart (Value.ref a)).isSome = true) from by simp [keyPart])]
    refine wpAny_bind (wpAny_dictEntries ho hd (wpAny_bind (wpAny_pure ?_)))
    rw [hemp]
    simp only [Bool.false_eq_true, if_false]
    refine wpAny_bind (takeOut_poly hu F N hne hsub PO hk hc hsz fun h' tk' o' e F' N' PO' => ?_)
    simp only [Option.isNone_some, Bool.false_eq_true, if_false]
    exact wpAny_bind (wpAny_letGo (wpAny_pure (h h' tk' o' e.val F' N' PO')))
end
end PKit6
section PKit7
set_option maxRecDepth 100000
set_option maxHeartbeats 2000000
theorem polyObj_nil {w : World} {ns : Ledger} {o : Obj} {K : Type} [DecidableEq K] {prog : Program} {w' : World} {knd : KeyKind prog w' K} (h : o.IsDictOf knd []) : PolyObj w ns o [] := by
  obtain ⟨es, ep, hc, hd, _, hp, _⟩ := h
  have he : es.toList = [] := List.length_eq_zero_iff.mp hp.length
  exact ⟨hc, es, ep, [], hd, he, List.nodup_nil, .nil⟩
theorem polyObj_new {w : World} {ns : Ledger} : PolyObj w ns { cls := .type "dict", data := .dict #[] } [] := ⟨⟨rfl, rfl, rfl⟩, #[], 0, [], rfl, rfl, List.nodup_nil, .nil⟩

/-- no two keys with one hash -/
def HashApart (w : World) (P : List (List Int × Int)) : Prop := (P.map fun q => (PK w).hash q.1).Nodup

theorem filter_le_one {α : Type} (f : α → Int) (c : Int) : ∀ {l : List α}, (l.map f).Nodup → (l.filter fun x => f x == c).length ≤ 1
  | [], _ => Nat.zero_le _
  | x :: r, h => by
    simp only [List.map_cons, List.nodup_cons] at h
    rw [List.filter_cons]
    by_cases hx : f x == c
    · rw [if_pos hx]
      have : r.filter (fun y => f y == c) = [] := by
        rw [List.filter_eq_nil_iff]
        intro y hy hc
        have e1 : f x = c := eq_of_beq hx
        have e2 : f y = c := eq_of_beq hc
        exact h.1 (e1.trans e2.symm ▸ List.mem_map_of_mem hy)
      rw [this]
      exact Nat.le_refl _
    · rw [if_neg hx]
      exact filter_le_one f c h.2

section
variable {w : World} {A : Around} {E : Value → Shared → Prop} {s : Shared} {h₀ : Heap} {L : Addr} {m : Str → Option Value} {env : Env} {d a : Addr} {ks : List Int} {c : Int} {P : List (List Int × Int)} {ns : Ledger}

theorem len_poly {Q : Value → Shared → Prop} (N : News h₀ L s.heap ns) (hd : PolyIn w ns P (.ref d)) (hfit : P.length ≤ 10000)
    (h : ∀ t, Q (.int P.length t) { s with toks := s.toks + 1 + 1 }) : wpAny (model PR w) A (call (.builtin "len") [.ref d]) Q E s := by
  obtain ⟨d', o, e, lo, hm, PO⟩ := hd
  cases e
  obtain ⟨xs, hD, T, _⟩ := PO.at N (N.get hm)
  obtain ⟨o1, es, ep, ho, hcx, hdat, he, _⟩ := hD
  have hT : s.TypeIs (.ref d) "dict" := ⟨o1, ho, hcx.1⟩
  have hsz : es.size = P.length := by rw [size_of_entries he, T.length]
  refine Calls.call_function_entry kind_len plain_len entry_len (args_len1 _) ?_
  unfold Builtin.«len»
  refine wpAny_bind (m := oneArg "len" _) (wpAny_pure ?_)
  refine wpAny_bind (m := callSpecial? (.ref d) (Str.ofString "__len__")) (wpAny_callSpecial?_slot (name := Str.ofString "__len__") hT PySem.F.slot_dict_len
    (wpAny_call_entry PySem.F.slot_dict_len hT PySem.F.entry_dict_len ?_ (PySem.F.args_dict_len_1 _)))
  show wpAny _ _ (dictSize d >>= _) _ _ s
  unfold dictSize
  refine wpAny_bind (wpAny_bind (wpAny_dictEntries ho hdat (wpAny_pure ?_)))
  show wpAny _ _ (Builtin.Dict.pendingCount d >>= _) _ _ s
  refine wpAny_bind (wpAny_pendingCount_other lo ?_)
  refine wpAny_ret_mkInt ?_
  show wpAny _ _ _ _ _ { s with toks := s.toks + 1 }
  refine wpAny_bind (wpAny_holding (wpAny_pure ?_))
  refine wpAny_bind (wpAny_letGo ?_)
  show wpAny _ _ (if ((es.size + 0 : Nat) : Int) < 0 then _ else _) _ _ _
  rw [if_neg (by omega)]
  show wpAny _ _ (if ((es.size + 0 : Nat) : Int) ≥ 2 ^ 63 then _ else _) _ _ _
  rw [if_neg (by omega)]
  refine wpAny_bind (wpAny_mkInt (wpAny_pure ⟨_, rfl, ?_⟩))
  rw [Nat.add_zero, hsz]
  exact h _

theorem spec_eq_tuple {a : Addr} (hT : s.TypeIs (.ref a) "tuple") {Q : Bool → Shared → Prop} (h : Q false s) : wpAny (model PR w) A (Builtin.Dict.quietEq (.ref a)) Q E s := by
  unfold Builtin.Dict.quietEq
  refine wpAny_bind (wpAny_specialOf hT PySem.F.slot_tuple_eq.lookup ?_)
  exact wpAny_pure h

theorem entriesFor_poly {id : String} {o : Obj} {es : Array DictEntry} {ep : Nat} {Q : Array DictEntry → Shared → Prop} (ho : s.heap.get? d = some o) (hd : o.data = .dict es ep)
    (hk : ∀ e ∈ es, ∃ b, e.key = .ref b ∧ s.TypeIs (.ref b) "tuple") (hh : ∀ e ∈ es, (es.filter (·.hash == e.hash)).size ≤ 1) (h : Q es s) :
    wpAny (model PR w) A (Builtin.Dict.entriesForEmpty id d) Q E s := by
  unfold Builtin.Dict.entriesForEmpty
  refine wpAny_bind (wpAny_dictEntries ho hd ?_)
  refine wpAny_bind ?_
  show wpAny _ _ (forIn es _ _) _ _ s
  rw [← Array.forIn_toList]
  refine wpAny_forIn_list _ (fun rest _ s' => s' = s ∧ ∀ e ∈ rest, e ∈ es) _ ?_ ?_ _ _ ⟨rfl, fun e he => Array.mem_toList_iff.mp he⟩
  · rintro e rest b s' ⟨rfl, hall⟩
    have hin := hall e List.mem_cons_self
    obtain ⟨kb, hkb, hT⟩ := hk e hin
    rw [hkb]
    refine wpAny_bind (spec_eq_tuple hT ?_)
    simp only [Bool.not_false, if_true]
    rw [if_neg (by have := hh e hin; omega)]
    exact wpAny_pure ⟨rfl, fun e he => hall e (List.mem_cons_of_mem _ he)⟩
  · rintro b s' ⟨rfl, _⟩
    exact wpAny_pure h

theorem copy_poly {Q : Value → Shared → Prop} (F : Fr h₀ L s.heap m) (N : News h₀ L s.heap ns) (hbig : sysModules < h₀.objs.size) (hd : PolyIn w ns P (.ref d)) (hP : P ≠ []) (hH : HashApart w P) (hsz : P.length ≤ 10000)
    (k : ∀ D o h', Fr h₀ L h' m → News h₀ L h' ((D, o) :: ns) → (∀ p ∈ ns, p.1 ≠ D) → (D == sysModules) = false → PolyObj w ns o P → Q (.ref D) { s with heap := h' }) :
    wpAny (model PR w) A (call (.type "dict") [.ref d]) Q E s := by
  obtain ⟨d', o, e, lo, hm, PO⟩ := hd
  cases e
  obtain ⟨xs, hD, T, hnd⟩ := PO.at N (N.get hm)
  obtain ⟨o1, es, ep, ho, hcx, hdat, he, his, hn⟩ := hD
  have hT : s.TypeIs (.ref d) "dict" := ⟨o1, ho, hcx.1⟩
  have hes := size_of_entries he
  have hl := T.length
  refine callType_codes (Q₁ := fun obj s₁ => obj = .ref s.heap.objs.size ∧ s₁ = { s with heap := s.heap.push { cls := .type "dict", data := .dict #[] } }) PySem.F.kt_called_dict (PySem.F.kt_typeCall_dict_1 _) PySem.F.entry_dict_init (kt_code_dict_new _ ⟨rfl, rfl⟩) ?_
  rintro obj s₁ ⟨rfl, rfl⟩
  have hg : (s.heap.push { cls := .type "dict", data := .dict #[] }).get? s.heap.objs.size = some { cls := .type "dict", data := .dict #[] } := Heap.get?_push_size _ rfl
  have ho' : (s.heap.push { cls := .type "dict", data := .dict #[] }).get? d = some o1 := Heap.get?_push_of_some _ ho
  have hnT : ({ s with heap := s.heap.push { cls := .type "dict", data := .dict #[] } } : Shared).TypeIs (.ref s.heap.objs.size) "dict" := ⟨_, hg, rfl⟩
  have hoT : ({ s with heap := s.heap.push { cls := .type "dict", data := .dict #[] } } : Shared).TypeIs (.ref d) "dict" := ⟨_, ho', hcx.1⟩
  have hdo : s.heap.objs.size ≠ d := fun e => absurd (Heap.lt_size ho) (by rw [e]; exact Nat.lt_irrefl _)
  refine ⟨hnT, PySem.F.args_dict_init_2 _ _, ?_⟩
  unfold Builtin.«dict.__init__»
  refine wpAny_bind ?_
  unfold Builtin.Dict.selfAndRest
  refine wpAny_bind (wpAny_notOrdered_dict hnT ?_)
  show wpAny _ _ (pure (s.heap.objs.size, [Value.ref d])) _ _ _
  refine wpAny_pure ?_
  show wpAny _ _ (Builtin.Dict.updateFrom "dict.__init__" s.heap.objs.size (.ref d) [] .none) _ _ _
  unfold Builtin.Dict.updateFrom
  refine wpAny_bind (wpAny_typeOf hoT ?_)
  rw [if_neg (by decide)]
  refine wpAny_bind ?_
  unfold Builtin.Dict.merge
  refine wpAny_bind ?_
  unfold Builtin.Dict.readDirectly
  refine wpAny_bind (wpAny_isInstance hoT isSubtype_dict_dict ?_)
  simp only [Bool.not_true, Bool.false_eq_true, if_false]
  refine wpAny_bind (wpAny_specialOf hoT PySem.F.slot_dict_iter.lookup (wpAny_pure ?_))
  simp only [beq_self_eq_true, if_true]
  refine wpAny_bind (wpAny_pure ?_)
  show wpAny _ _ (Builtin.Dict.mergeDict "dict.__init__" s.heap.objs.size d) _ _ _
  unfold Builtin.Dict.mergeDict
  rw [if_neg (by simpa using hdo)]
  unfold Builtin.Dict.showsAll
  rw [if_neg (by rw [lo]; exact Bool.false_ne_true)]
  refine wpAny_bind (wpAny_pure (wpAny_bind (wpAny_dictEntries ho' hdat ?_)))
  have hne : es.toList ≠ [] := by
    intro h
    have : es.size = 0 := by rw [← Array.length_toList, h]; rfl
    have h3 : P.length ≠ 0 := fun h => hP (List.length_eq_zero_iff.mp h)
    omega
  have hfew : (decide (es.size ≤ 8) && es.all fun e => (keyPart e.key).isSome) = false := by
    rw [Bool.and_eq_false_iff]
    right
    rw [← Array.all_toList, List.all_eq_false]
    obtain ⟨e, r, her⟩ := List.exists_cons_of_ne_nil hne
    refine ⟨e, by rw [her]; exact List.mem_cons_self, ?_⟩
    have : e ∈ xs.map (entryOfKey (PK w)) := he ▸ (by rw [her]; exact List.mem_cons_self)
    obtain ⟨x, _, rfl⟩ := List.mem_map.mp this
    simp [entryOfKey, keyPart]
  simp only [hfew, Bool.not_false, if_true]
  refine wpAny_bind (wpAny_dictEntries hg rfl ?_)
  simp only [show (#[] : Array DictEntry).isEmpty = true from rfl, if_true]
  refine wpAny_bind (entriesFor_poly ho' hdat ?_ ?_ ?_)
  · intro e hin
    have : e ∈ xs.map (entryOfKey (PK w)) := he ▸ Array.mem_toList_iff.mpr hin
    obtain ⟨x, hx, rfl⟩ := List.mem_map.mp this
    obtain ⟨ob, items, n, hob, hcb, _⟩ := his x hx
    exact ⟨x.2.1, rfl, ob, Heap.get?_push_of_some _ hob, hcb⟩
  · intro e _
    rw [← Array.length_toList, Array.toList_filter]
    refine filter_le_one (fun e : DictEntry => e.hash) e.hash ?_
    rw [he, List.map_map]
    have : (xs.map ((fun e : DictEntry => e.hash) ∘ entryOfKey (PK w))) = P.map fun q => (PK w).hash q.1 := by
      have e1 : (xs.map ((fun e : DictEntry => e.hash) ∘ entryOfKey (PK w))) = (xs.map (·.1)).map (PK w).hash := by rw [List.map_map]; rfl
      rw [e1, T.keys, List.map_map]; rfl
    rw [this]
    exact hH
  · have hemp : es.isEmpty = false := by
      rw [Array.isEmpty_eq_false_iff]
      rintro rfl
      exact hne rfl
    simp only [hemp, Bool.not_false, if_true]
    have hfit : es.size ≤ sizeLine + 1 := by rw [hes, sizeLine_eq]; omega
    refine wpAny_bind (wpAny_updateDictKeysTo (f := fun _ => es) hg rfl (wpAny_pure ?_) hfit)
    show wpAny _ _ (Builtin.Dict.addKeywords s.heap.objs.size [] >>= _) _ _ _
    refine wpAny_bind (wpAny_pure (wpAny_pure ⟨rfl, ?_⟩))
    have hs : Heap.SameBut s.heap.objs.size (s.heap.push { cls := .type "dict", data := .dict #[] }) ((s.heap.push { cls := .type "dict", data := .dict #[] }).update s.heap.objs.size (Obj.mapDictKeys fun _ => es)) := Heap.SameBut.update ..
    have N1 := News.push F N { cls := .type "dict", data := .dict #[] }
    have hlt : ∀ p ∈ ns, p.1 ≠ s.heap.objs.size := fun p hp => Nat.ne_of_lt (Heap.lt_size (N p hp).1)
    have hg' := Heap.get?_update_self (Obj.mapDictKeys fun _ => es) hg (Obj.isFreed_of_dict (Obj.data_mapDictKeys rfl _))
    exact k _ _ _ ((F.push _).change hs (N1 _ (.head _)).2.1 (N1.fresh (.head _))) (set_news (s := { s with heap := s.heap.push { cls := .type "dict", data := .dict #[] } }) N1 hlt hs hg') hlt (F.notModules hbig)
      ⟨⟨rfl, rfl, rfl⟩, es, 1, xs, rfl, he, hnd, T⟩
end
end PKit7
section PKit8
set_option maxRecDepth 100000
set_option maxHeartbeats 2000000
def lexGt : List Int → List Int → Bool
  | x :: xs, y :: ys => if x = y then lexGt xs ys else decide (x > y)
  | [], _ => false
  | _ :: _, [] => true
def lexLt : List Int → List Int → Bool
  | x :: xs, y :: ys => if x = y then lexLt xs ys else decide (x < y)
  | _, [] => false
  | [], _ :: _ => true
def lexNe : List Int → List Int → Bool
  | x :: xs, y :: ys => if x = y then lexNe xs ys else true
  | [], [] => false
  | [], _ :: _ => true
  | _ :: _, [] => true
def lexEq : List Int → List Int → Bool
  | x :: xs, y :: ys => if x = y then lexEq xs ys else false
  | [], [] => true
  | [], _ :: _ => false
  | _ :: _, [] => false
theorem lexNe_eq : ∀ x y : List Int, lexNe x y = !decide (x = y)
  | [], [] => rfl
  | [], _ :: _ => rfl
  | _ :: _, [] => rfl
  | x :: xs, y :: ys => by
    by_cases h : x = y
    · subst h; simp [lexNe, lexNe_eq xs ys]
    · simp [lexNe, h]
theorem lexEq_eq : ∀ x y : List Int, lexEq x y = decide (x = y)
  | [], [] => rfl
  | [], _ :: _ => rfl
  | _ :: _, [] => rfl
  | x :: xs, y :: ys => by
    by_cases h : x = y
    · subst h; simp [lexEq, lexEq_eq xs ys]
    · simp [lexEq, h]
def zipEnd (xs ys : List Value) : Prop := xs = [] ∨ ys = []
theorem zipEnd_of {xs ys : List Value} (h : [] = List.zip xs ys) : zipEnd xs ys := by
  cases xs with
  | nil => exact .inl rfl
  | cons _ _ => cases ys with
    | nil => exact .inr rfl
    | cons _ _ => simp at h
section
variable {w : World} {A : Around} {E : Value → Shared → Prop} {s : Shared}

theorem ne_tup_tree {x y : List Int} {a b : Addr} {Pf : Fin → Shared → Prop} (hx : IsTupleKey (intKind PR w) s.heap x a) (hy : IsTupleKey (intKind PR w) s.heap y b) (h : Pf (.done (.ret (.bool (lexNe x y)))) s) :
    wpAny (model PR w) A (Builtin.«tuple.__ne__» ⟨[.ref a, .ref b], []⟩) Pf E s := by
  have hTb := hy.typeIs
  obtain ⟨oa, xs, na, hoa, _, hda, hia⟩ := hx
  obtain ⟨ob, ys, nb, hob, _, hdb, hib⟩ := hy
  show wpAny _ _ (isInstance (.ref b) (.type "tuple") >>= _) _ _ s
  refine wpAny_bind (wpAny_isInstance hTb isSubtype_tuple_tuple ?_)
  simp only [Bool.not_true, Bool.false_eq_true, if_false]
  refine wpAny_bind (wpAny_tupleItemsOf hoa hda ?_)
  refine wpAny_bind (wpAny_tupleItemsOf hob hdb ?_)
  refine wpAny_bind ?_
  refine wpAny_forIn_list _
    (fun rest r s' => r.1 = none ∧ s' = s ∧ ∃ x' y' xs' ys', rest = List.zip xs' ys' ∧ PySem.ItemsAre (intKind PR w) x' xs' ∧ PySem.ItemsAre (intKind PR w) y' ys' ∧ lexNe x' y' = lexNe x y ∧ lexNe x y = lexNe x' y' ∧
      (xs.size != ys.size) = (xs'.length != ys'.length))
    _ ?_ ?_ _ _ ⟨rfl, rfl, x, y, xs.toList, ys.toList, rfl, hia, hib, rfl, rfl, by simp⟩
  · rintro ⟨u, v⟩ rest r s' ⟨hr, rfl, x', y', xs', ys', hz, hx', hy', hdec, hdec2, hlen⟩
    cases hx' with
    | nil => simp at hz
    | @cons k1 u' x'' xs'' h1 hx'' =>
      cases hy' with
      | nil => simp at hz
      | @cons k2 v' y'' ys'' h2 hy'' =>
        simp only [List.zip_cons_cons, List.cons.injEq, Prod.mk.injEq] at hz
        obtain ⟨⟨rfl, rfl⟩, rfl⟩ := hz
        refine wpAny_bind ((intKind PR w).eqBool (a := k1) (b := k2) h1 h2 ?_)
        by_cases hk : k1 = k2
        · subst hk
          rw [decide_eq_true rfl]
          simp only [Bool.not_true, Bool.false_eq_true, if_false]
          refine wpAny_pure ⟨rfl, rfl, x'', y'', xs'', ys'', rfl, hx'', hy'', ?_, ?_, ?_⟩
          · rw [← hdec]; simp [lexNe]
          · rw [hdec2]; simp [lexNe]
          · rw [hlen]
            simp
        · rw [decide_eq_false hk]
          simp only [Bool.not_false, if_true]
          obtain ⟨t1, rfl⟩ := Value.isInt_shape h1
          obtain ⟨t2, rfl⟩ := Value.isInt_shape h2
          rw [hdec2] at h
          exact wpAny_bind (wpAny_pure (wpAny_pure (wpAny_pure (by simpa [lexNe, hk] using h))))
  · rintro ⟨r1, r2⟩ s' ⟨hr, rfl, x', y', xs', ys', hz, hx', hy', hdec, hdec2, hlen⟩
    simp only at hr
    subst hr
    refine wpAny_pure ?_
    have hze : zipEnd xs' ys' := zipEnd_of hz
    have l1 := hx'.length
    have l2 := hy'.length
    show Pf (.done (.ret (Builtin.Tuple.tupleCompareSizes .NotEq xs.size ys.size))) s'
    have e : Builtin.Tuple.tupleCompareSizes .NotEq xs.size ys.size = .bool (lexNe x y) := by
      show Value.bool ((xs.size != ys.size)) = _
      rw [hlen, hdec2]
      congr 1
      rcases hze with h | h
      · have : x' = [] := List.length_eq_zero_iff.mp (by rw [l1, h]; rfl)
        subst this
        rw [← l2, h]
        cases y' <;> simp [lexNe]
      · have : y' = [] := List.length_eq_zero_iff.mp (by rw [l2, h]; rfl)
        subst this
        rw [← l1, h]
        cases x' <;> simp [lexNe]
    rw [e]
    exact h

theorem ne_tup {x y : List Int} {a b : Addr} {Q : Value → Shared → Prop} (hu : A.units < cLine) (hx : IsTupleKey (intKind PR w) s.heap x a) (hy : IsTupleKey (intKind PR w) s.heap y b) (h : Q (.bool (lexNe x y)) s) :
    wpAny (model PR w) A (compareOp .NotEq (.ref a) (.ref b)) Q E s :=
  wpAny_richCompare_same_room (op := .NotEq) hx.typeIs hy.typeIs PySem.F.slot_tuple_ne
    (wpAny_call_entry PySem.F.slot_tuple_ne hx.typeIs PySem.F.entry_tuple_ne (ne_tup_tree hx hy ⟨_, rfl, (fun e => nomatch e), h⟩) (PySem.F.args_tuple_ne_2 _ _)) hu

theorem eq_tup_tree {x y : List Int} {a b : Addr} {Pf : Fin → Shared → Prop} (hx : IsTupleKey (intKind PR w) s.heap x a) (hy : IsTupleKey (intKind PR w) s.heap y b) (h : Pf (.done (.ret (.bool (lexEq x y)))) s) :
    wpAny (model PR w) A (Builtin.«tuple.__eq__» ⟨[.ref a, .ref b], []⟩) Pf E s := by
  have hTb := hy.typeIs
  obtain ⟨oa, xs, na, hoa, _, hda, hia⟩ := hx
  obtain ⟨ob, ys, nb, hob, _, hdb, hib⟩ := hy
  show wpAny _ _ (isInstance (.ref b) (.type "tuple") >>= _) _ _ s
  refine wpAny_bind (wpAny_isInstance hTb isSubtype_tuple_tuple ?_)
  simp only [Bool.not_true, Bool.false_eq_true, if_false]
  refine wpAny_bind (wpAny_tupleItemsOf hoa hda ?_)
  refine wpAny_bind (wpAny_tupleItemsOf hob hdb ?_)
  refine wpAny_bind ?_
  refine wpAny_forIn_list _
    (fun rest r s' => r.1 = none ∧ s' = s ∧ ∃ x' y' xs' ys', rest = List.zip xs' ys' ∧ PySem.ItemsAre (intKind PR w) x' xs' ∧ PySem.ItemsAre (intKind PR w) y' ys' ∧ lexEq x' y' = lexEq x y ∧ lexEq x y = lexEq x' y' ∧
      (xs.size == ys.size) = (xs'.length == ys'.length))
    _ ?_ ?_ _ _ ⟨rfl, rfl, x, y, xs.toList, ys.toList, rfl, hia, hib, rfl, rfl, by simp⟩
  · rintro ⟨u, v⟩ rest r s' ⟨hr, rfl, x', y', xs', ys', hz, hx', hy', hdec, hdec2, hlen⟩
    cases hx' with
    | nil => simp at hz
    | @cons k1 u' x'' xs'' h1 hx'' =>
      cases hy' with
      | nil => simp at hz
      | @cons k2 v' y'' ys'' h2 hy'' =>
        simp only [List.zip_cons_cons, List.cons.injEq, Prod.mk.injEq] at hz
        obtain ⟨⟨rfl, rfl⟩, rfl⟩ := hz
        refine wpAny_bind ((intKind PR w).eqBool (a := k1) (b := k2) h1 h2 ?_)
        by_cases hk : k1 = k2
        · subst hk
          rw [decide_eq_true rfl]
          simp only [Bool.not_true, Bool.false_eq_true, if_false]
          refine wpAny_pure ⟨rfl, rfl, x'', y'', xs'', ys'', rfl, hx'', hy'', ?_, ?_, ?_⟩
          · rw [← hdec]; simp [lexEq]
          · rw [hdec2]; simp [lexEq]
          · rw [hlen]
            simp
        · rw [decide_eq_false hk]
          simp only [Bool.not_false, if_true]
          obtain ⟨t1, rfl⟩ := Value.isInt_shape h1
          obtain ⟨t2, rfl⟩ := Value.isInt_shape h2
          rw [hdec2] at h
          exact wpAny_bind (wpAny_pure (wpAny_pure (wpAny_pure (by simpa [lexEq, hk] using h))))
  · rintro ⟨r1, r2⟩ s' ⟨hr, rfl, x', y', xs', ys', hz, hx', hy', hdec, hdec2, hlen⟩
    simp only at hr
    subst hr
    refine wpAny_pure ?_
    have hze : zipEnd xs' ys' := zipEnd_of hz
    have l1 := hx'.length
    have l2 := hy'.length
    show Pf (.done (.ret (Builtin.Tuple.tupleCompareSizes .Eq xs.size ys.size))) s'
    have e : Builtin.Tuple.tupleCompareSizes .Eq xs.size ys.size = .bool (lexEq x y) := by
      show Value.bool ((xs.size == ys.size)) = _
      rw [hlen, hdec2]
      congr 1
      rcases hze with h | h
      · have : x' = [] := List.length_eq_zero_iff.mp (by rw [l1, h]; rfl)
        subst this
        rw [← l2, h]
        cases y' <;> simp [lexEq]
      · have : y' = [] := List.length_eq_zero_iff.mp (by rw [l2, h]; rfl)
        subst this
        rw [← l1, h]
        cases x' <;> simp [lexEq]
    rw [e]
    exact h

theorem eq_tup {x y : List Int} {a b : Addr} {Q : Value → Shared → Prop} (hu : A.units < cLine) (hx : IsTupleKey (intKind PR w) s.heap x a) (hy : IsTupleKey (intKind PR w) s.heap y b) (h : Q (.bool (lexEq x y)) s) :
    wpAny (model PR w) A (compareOp .Eq (.ref a) (.ref b)) Q E s :=
  wpAny_richCompare_same_room (op := .Eq) hx.typeIs hy.typeIs PySem.F.slot_tuple_eq
    (wpAny_call_entry PySem.F.slot_tuple_eq hx.typeIs PySem.F.entry_tuple_eq (eq_tup_tree hx hy ⟨_, rfl, (fun e => nomatch e), h⟩) (PySem.F.args_tuple_eq_2 _ _)) hu

theorem gt_tup_tree {x y : List Int} {a b : Addr} {Pf : Fin → Shared → Prop} (hx : IsTupleKey (intKind PR w) s.heap x a) (hy : IsTupleKey (intKind PR w) s.heap y b) (h : Pf (.done (.ret (.bool (lexGt x y)))) s) :
    wpAny (model PR w) A (Builtin.«tuple.__gt__» ⟨[.ref a, .ref b], []⟩) Pf E s := by
  have hTb := hy.typeIs
  obtain ⟨oa, xs, na, hoa, _, hda, hia⟩ := hx
  obtain ⟨ob, ys, nb, hob, _, hdb, hib⟩ := hy
  show wpAny _ _ (isInstance (.ref b) (.type "tuple") >>= _) _ _ s
  refine wpAny_bind (wpAny_isInstance hTb isSubtype_tuple_tuple ?_)
  simp only [Bool.not_true, Bool.false_eq_true, if_false]
  refine wpAny_bind (wpAny_tupleItemsOf hoa hda ?_)
  refine wpAny_bind (wpAny_tupleItemsOf hob hdb ?_)
  refine wpAny_bind ?_
  refine wpAny_forIn_list _
    (fun rest r s' => r.1 = none ∧ s' = s ∧ ∃ x' y' xs' ys', rest = List.zip xs' ys' ∧ PySem.ItemsAre (intKind PR w) x' xs' ∧ PySem.ItemsAre (intKind PR w) y' ys' ∧ lexGt x' y' = lexGt x y ∧ lexGt x y = lexGt x' y' ∧
      (decide (xs.size > ys.size)) = (decide (xs'.length > ys'.length)))
    _ ?_ ?_ _ _ ⟨rfl, rfl, x, y, xs.toList, ys.toList, rfl, hia, hib, rfl, rfl, by simp⟩
  · rintro ⟨u, v⟩ rest r s' ⟨hr, rfl, x', y', xs', ys', hz, hx', hy', hdec, hdec2, hlen⟩
    cases hx' with
    | nil => simp at hz
    | @cons k1 u' x'' xs'' h1 hx'' =>
      cases hy' with
      | nil => simp at hz
      | @cons k2 v' y'' ys'' h2 hy'' =>
        simp only [List.zip_cons_cons, List.cons.injEq, Prod.mk.injEq] at hz
        obtain ⟨⟨rfl, rfl⟩, rfl⟩ := hz
        refine wpAny_bind ((intKind PR w).eqBool (a := k1) (b := k2) h1 h2 ?_)
        by_cases hk : k1 = k2
        · subst hk
          rw [decide_eq_true rfl]
          simp only [Bool.not_true, Bool.false_eq_true, if_false]
          refine wpAny_pure ⟨rfl, rfl, x'', y'', xs'', ys'', rfl, hx'', hy'', ?_, ?_, ?_⟩
          · rw [← hdec]; simp [lexGt]
          · rw [hdec2]; simp [lexGt]
          · rw [hlen]
            simp
        · rw [decide_eq_false hk]
          simp only [Bool.not_false, if_true]
          obtain ⟨t1, rfl⟩ := Value.isInt_shape h1
          obtain ⟨t2, rfl⟩ := Value.isInt_shape h2
          rw [hdec2] at h
          refine wpAny_bind (wpAny_rule (wpAny_bind (PyProof.Rows.gt_int ?_)))
          exact wpAny_pure (wpAny_pure (by simpa [lexGt, hk] using h))
  · rintro ⟨r1, r2⟩ s' ⟨hr, rfl, x', y', xs', ys', hz, hx', hy', hdec, hdec2, hlen⟩
    simp only at hr
    subst hr
    refine wpAny_pure ?_
    have hze : zipEnd xs' ys' := zipEnd_of hz
    have l1 := hx'.length
    have l2 := hy'.length
    show Pf (.done (.ret (Builtin.Tuple.tupleCompareSizes .Gt xs.size ys.size))) s'
    have e : Builtin.Tuple.tupleCompareSizes .Gt xs.size ys.size = .bool (lexGt x y) := by
      show Value.bool ((decide (xs.size > ys.size))) = _
      rw [hlen, hdec2]
      congr 1
      rcases hze with h | h
      · have : x' = [] := List.length_eq_zero_iff.mp (by rw [l1, h]; rfl)
        subst this
        rw [← l2, h]
        cases y' <;> simp [lexGt]
      · have : y' = [] := List.length_eq_zero_iff.mp (by rw [l2, h]; rfl)
        subst this
        rw [← l1, h]
        cases x' <;> simp [lexGt]
    rw [e]
    exact h

theorem gt_tup {x y : List Int} {a b : Addr} {Q : Value → Shared → Prop} (hu : A.units < cLine) (hx : IsTupleKey (intKind PR w) s.heap x a) (hy : IsTupleKey (intKind PR w) s.heap y b) (h : Q (.bool (lexGt x y)) s) :
    wpAny (model PR w) A (compareOp .Gt (.ref a) (.ref b)) Q E s :=
  wpAny_richCompare_same_room (op := .Gt) hx.typeIs hy.typeIs PySem.F.slot_tuple_gt
    (wpAny_call_entry PySem.F.slot_tuple_gt hx.typeIs PySem.F.entry_tuple_gt (gt_tup_tree hx hy ⟨_, rfl, (fun e => nomatch e), h⟩) (PySem.F.args_tuple_gt_2 _ _)) hu

theorem lt_tup_tree {x y : List Int} {a b : Addr} {Pf : Fin → Shared → Prop} (hx : IsTupleKey (intKind PR w) s.heap x a) (hy : IsTupleKey (intKind PR w) s.heap y b) (h : Pf (.done (.ret (.bool (lexLt x y)))) s) :
    wpAny (model PR w) A (Builtin.«tuple.__lt__» ⟨[.ref a, .ref b], []⟩) Pf E s := by
  have hTb := hy.typeIs
  obtain ⟨oa, xs, na, hoa, _, hda, hia⟩ := hx
  obtain ⟨ob, ys, nb, hob, _, hdb, hib⟩ := hy
  show wpAny _ _ (isInstance (.ref b) (.type "tuple") >>= _) _ _ s
  refine wpAny_bind (wpAny_isInstance hTb isSubtype_tuple_tuple ?_)
  simp only [Bool.not_true, Bool.false_eq_true, if_false]
  refine wpAny_bind (wpAny_tupleItemsOf hoa hda ?_)
  refine wpAny_bind (wpAny_tupleItemsOf hob hdb ?_)
  refine wpAny_bind ?_
  refine wpAny_forIn_list _
    (fun rest r s' => r.1 = none ∧ s' = s ∧ ∃ x' y' xs' ys', rest = List.zip xs' ys' ∧ PySem.ItemsAre (intKind PR w) x' xs' ∧ PySem.ItemsAre (intKind PR w) y' ys' ∧ lexLt x' y' = lexLt x y ∧ lexLt x y = lexLt x' y' ∧
      (decide (xs.size < ys.size)) = (decide (xs'.length < ys'.length)))
    _ ?_ ?_ _ _ ⟨rfl, rfl, x, y, xs.toList, ys.toList, rfl, hia, hib, rfl, rfl, by simp⟩
  · rintro ⟨u, v⟩ rest r s' ⟨hr, rfl, x', y', xs', ys', hz, hx', hy', hdec, hdec2, hlen⟩
    cases hx' with
    | nil => simp at hz
    | @cons k1 u' x'' xs'' h1 hx'' =>
      cases hy' with
      | nil => simp at hz
      | @cons k2 v' y'' ys'' h2 hy'' =>
        simp only [List.zip_cons_cons, List.cons.injEq, Prod.mk.injEq] at hz
        obtain ⟨⟨rfl, rfl⟩, rfl⟩ := hz
        refine wpAny_bind ((intKind PR w).eqBool (a := k1) (b := k2) h1 h2 ?_)
        by_cases hk : k1 = k2
        · subst hk
          rw [decide_eq_true rfl]
          simp only [Bool.not_true, Bool.false_eq_true, if_false]
          refine wpAny_pure ⟨rfl, rfl, x'', y'', xs'', ys'', rfl, hx'', hy'', ?_, ?_, ?_⟩
          · rw [← hdec]; simp [lexLt]
          · rw [hdec2]; simp [lexLt]
          · rw [hlen]
            simp
        · rw [decide_eq_false hk]
          simp only [Bool.not_false, if_true]
          obtain ⟨t1, rfl⟩ := Value.isInt_shape h1
          obtain ⟨t2, rfl⟩ := Value.isInt_shape h2
          rw [hdec2] at h
          refine wpAny_bind (wpAny_rule (wpAny_bind (PyProof.Rows.lt_int ?_)))
          exact wpAny_pure (wpAny_pure (by simpa [lexLt, hk] using h))
  · rintro ⟨r1, r2⟩ s' ⟨hr, rfl, x', y', xs', ys', hz, hx', hy', hdec, hdec2, hlen⟩
    simp only at hr
    subst hr
    refine wpAny_pure ?_
    have hze : zipEnd xs' ys' := zipEnd_of hz
    have l1 := hx'.length
    have l2 := hy'.length
    show Pf (.done (.ret (Builtin.Tuple.tupleCompareSizes .Lt xs.size ys.size))) s'
    have e : Builtin.Tuple.tupleCompareSizes .Lt xs.size ys.size = .bool (lexLt x y) := by
      show Value.bool ((decide (xs.size < ys.size))) = _
      rw [hlen, hdec2]
      congr 1
      rcases hze with h | h
      · have : x' = [] := List.length_eq_zero_iff.mp (by rw [l1, h]; rfl)
        subst this
        rw [← l2, h]
        cases y' <;> simp [lexLt]
      · have : y' = [] := List.length_eq_zero_iff.mp (by rw [l2, h]; rfl)
        subst this
        rw [← l1, h]
        cases x' <;> simp [lexLt]
    rw [e]
    exact h

theorem lt_tup {x y : List Int} {a b : Addr} {Q : Value → Shared → Prop} (hu : A.units < cLine) (hx : IsTupleKey (intKind PR w) s.heap x a) (hy : IsTupleKey (intKind PR w) s.heap y b) (h : Q (.bool (lexLt x y)) s) :
    wpAny (model PR w) A (compareOp .Lt (.ref a) (.ref b)) Q E s :=
  wpAny_richCompare_same_room (op := .Lt) hx.typeIs hy.typeIs PySem.F.slot_tuple_lt
    (wpAny_call_entry PySem.F.slot_tuple_lt hx.typeIs PySem.F.entry_tuple_lt (lt_tup_tree hx hy ⟨_, rfl, (fun e => nomatch e), h⟩) (PySem.F.args_tuple_lt_2 _ _)) hu
end
end PKit8
section PKit9
set_option maxRecDepth 100000
set_option maxHeartbeats 1000000
open PyProof.Rows.LCg (NsObj lst ns_obj lst_snoc)
theorem allTup_nil : AllTup [] := List.forall_mem_nil _
theorem allTup_app {a b : Ledger} (h1 : AllTup a) (h2 : AllTup b) : AllTup (a ++ b) := fun p hp => (List.mem_append.mp hp).elim (h1 p) (h2 p)
theorem allTup_one (r : Addr) (vs : List Value) : AllTup [(r, tupO vs)] := fun p hp => by rw [List.mem_singleton] at hp; exact ⟨vs, by rw [hp]⟩
theorem allTup_two (r q : Addr) (vs us : List Value) : AllTup [(r, tupO vs), (q, tupO us)] := fun p hp => by
  rcases List.mem_cons.mp hp with rfl | hp
  · exact ⟨vs, rfl⟩
  · exact allTup_one q us p hp
theorem PolyObj.nt {w : World} {ns : Ledger} {o : Obj} {P : List (List Int × Int)} (x : PolyObj w ns o P) : NT o := let ⟨_, _, _, _, h, _⟩ := x; NT.dict h
/-- only the tuples count -/
def SubT (ns ns' : Ledger) : Prop := ∀ p ∈ ns, (∃ vs, p.2 = tupO vs) → p ∈ ns'
theorem SubT.of {ns ns' : Ledger} (h : ∀ p ∈ ns, p ∈ ns') : SubT ns ns' := fun p hp _ => h p hp
theorem TupIn.monoT {ns ns' : Ledger} {ks : List Int} {v : Value} (h : TupIn ns ks v) (hs : SubT ns ns') : TupIn ns' ks v :=
  let ⟨r, t, e, hm, hi⟩ := h; ⟨r, t, e, hs _ hm ⟨_, rfl⟩, hi⟩
theorem RatIn.monoT {ns ns' : Ledger} {c : Int} {v : Value} (h : RatIn ns c v) (hs : SubT ns ns') : RatIn ns' c v :=
  let ⟨r, t, u, e, hm⟩ := h; ⟨r, t, u, e, hs _ hm ⟨_, rfl⟩⟩
theorem TermsIn.monoT {ns ns' : Ledger} (hs : SubT ns ns') : ∀ {xs : List (List Int × Addr × Value)} {P : List (List Int × Int)}, TermsIn ns xs P → TermsIn ns' xs P
  | _, _, .nil => .nil
  | _, _, .cons h1 h2 h3 => .cons (h1.monoT hs) (h2.monoT hs) (h3.monoT hs)
theorem PolyObj.monoT {w : World} {ns ns' : Ledger} {o : Obj} {P : List (List Int × Int)} (x : PolyObj w ns o P) (hs : SubT ns ns') : PolyObj w ns' o P :=
  let ⟨h1, es, ep, xs, h2, h3, h4, h5⟩ := x; ⟨h1, es, ep, xs, h2, h3, h4, h5.monoT hs⟩
/-- tuples stand apart from what is no tuple -/
theorem tups_ne {h₀ h : Heap} {L : Addr} {all tl : Ledger} {d : Addr} {o : Obj} (N : News h₀ L h all) (ho : (d, o) ∈ all) (hn : NT o) (ht : AllTup tl) (hs : ∀ p ∈ tl, p ∈ all) : ∀ p ∈ tl, p.1 ≠ d := fun p hp e => by
  obtain ⟨vs, ev⟩ := ht p hp
  have e1 := (N _ ho).1
  have e2 := (N _ (hs _ hp)).1
  rw [e, e1] at e2
  exact hn vs ((Option.some.inj e2).trans ev)
theorem News.swap {h₀ h : Heap} {L : Addr} {p q : Addr × Obj} {ns : Ledger} (N : News h₀ L h (p :: q :: ns)) : News h₀ L h (q :: p :: ns) := fun r hr => N r (by
  rcases List.mem_cons.mp hr with rfl | hr
  · exact List.mem_cons_of_mem _ List.mem_cons_self
  · rcases List.mem_cons.mp hr with rfl | hr
    · exact List.mem_cons_self
    · exact List.mem_cons_of_mem _ (List.mem_cons_of_mem _ hr))

/-- a call that changes the dict d -/
def ToldM (w : World) (f : Addr) (vs : List Value) (d : Addr) (o : Obj) (news : Ledger) (dep : Nat) (P : List (List Int × Int)) : Prop :=
  ∀ (mean : ExcName → Option Value) (mg mb : Str → Option Value) (dp un : Nat) (gd : Option (List Code)) (cn : Str) (cs : Scope) (a : Addr) (ccd : Value) (cl : List (Str × Addr)) (outer : List Env) (A₀ : Around) (base h₀ : Heap) (L : Addr) (m : Str → Option Value) (s : Shared) (fix : Ledger) (Q E : Value → Shared → Prop),
    Below A₀ base outer h₀ → Fr h₀ L s.heap m → (hd.heap_1 w.params).In h₀ → News h₀ L s.heap ((d, o) :: (fix ++ news)) → (∀ p ∈ fix, p.1 ≠ d) → Top VW LO mean mg mb h₀ → cs.kind = .function → dp + dep < recursionLimit → un + 8 * dep < cLine →
    (∀ tl o' h' tk', Fr h₀ L h' m → News h₀ L h' ((d, o') :: (tl ++ (fix ++ news))) → AllTup tl → PolyObj w (tl ++ news) o' P → Q .none { s with heap := h', toks := tk' }) →
    wpAny (model PR w) (ktrTop dp un gd cn cs L a ccd cl outer) (call (.ref f) vs) Q E s
/-- a call that makes a new dict -/
def ToldN (w : World) (f : Addr) (vs : List Value) (news : Ledger) (dep : Nat) (P : List (List Int × Int)) : Prop :=
  ∀ (mean : ExcName → Option Value) (mg mb : Str → Option Value) (dp un : Nat) (gd : Option (List Code)) (cn : Str) (cs : Scope) (a : Addr) (ccd : Value) (cl : List (Str × Addr)) (outer : List Env) (A₀ : Around) (base h₀ : Heap) (L : Addr) (m : Str → Option Value) (s : Shared) (Q E : Value → Shared → Prop),
    Below A₀ base outer h₀ → Fr h₀ L s.heap m → (hd.heap_1 w.params).In h₀ → News h₀ L s.heap news → Top VW LO mean mg mb h₀ → cs.kind = .function → dp + dep < recursionLimit → un + 8 * dep < cLine →
    (∀ d o tl h' tk', Fr h₀ L h' m → News h₀ L h' ((d, o) :: (tl ++ news)) → (∀ p ∈ news, p.1 ≠ d) → (d == sysModules) = false → AllTup tl → PolyObj w (tl ++ news) o P → Q (.ref d) { s with heap := h', toks := tk' }) →
    wpAny (model PR w) (ktrTop dp un gd cn cs L a ccd cl outer) (call (.ref f) vs) Q E s

section
variable {w : World} {f : Addr} {vs : List Value} {news : Ledger} {dep : Nat} {d : Addr} {o : Obj} {P : List (List Int × Int)}
    {mean : ExcName → Option Value} {mg mb : Str → Option Value} {dp un : Nat} {gd : Option (List Code)} {cn : Str} {cs : Scope} {a : Addr} {ccd : Value} {cl : List (Str × Addr)} {outer : List Env} {A₀ : Around} {base h₀ : Heap} {L : Addr} {m : Str → Option Value} {s : Shared} {Q E : Value → Shared → Prop}
theorem toldM_use {fix : Ledger} (C : ToldM w f vs d o news dep P)
    (B : Below A₀ base outer h₀) (F : Fr h₀ L s.heap m) (X : (hd.heap_1 w.params).In h₀) (N : News h₀ L s.heap ((d, o) :: (fix ++ news))) (hfix : ∀ p ∈ fix, p.1 ≠ d) (T : Top VW LO mean mg mb h₀) (hk : cs.kind = .function) (hdp : dp + dep < recursionLimit) (hun : un + 8 * dep < cLine)
    (ret : ∀ tl o' h' tk', Fr h₀ L h' m → News h₀ L h' ((d, o') :: (tl ++ (fix ++ news))) → AllTup tl → PolyObj w (tl ++ news) o' P → Q .none { s with heap := h', toks := tk' }) :
    wpAny (model PR w) (ktrTop dp un gd cn cs L a ccd cl outer) (call (.ref f) vs) Q E s :=
  C _ _ _ _ _ _ _ _ _ _ _ _ _ _ _ _ _ _ _ _ _ B F X N hfix T hk hdp hun ret
theorem toldN_use (C : ToldN w f vs news dep P)
    (B : Below A₀ base outer h₀) (F : Fr h₀ L s.heap m) (X : (hd.heap_1 w.params).In h₀) (N : News h₀ L s.heap news) (T : Top VW LO mean mg mb h₀) (hk : cs.kind = .function) (hdp : dp + dep < recursionLimit) (hun : un + 8 * dep < cLine)
    (ret : ∀ d o tl h' tk', Fr h₀ L h' m → News h₀ L h' ((d, o) :: (tl ++ news)) → (∀ p ∈ news, p.1 ≠ d) → (d == sysModules) = false → AllTup tl → PolyObj w (tl ++ news) o P → Q (.ref d) { s with heap := h', toks := tk' }) :
    wpAny (model PR w) (ktrTop dp un gd cn cs L a ccd cl outer) (call (.ref f) vs) Q E s :=
  C _ _ _ _ _ _ _ _ _ _ _ _ _ _ _ _ _ _ _ _ B F X N T hk hdp hun ret
theorem told_endM {ns fix : Ledger} {o' : Obj} {h' : Heap} {tk' : Nat}
    (hret : ∀ tl o' h' tk', Fr h₀ L h' m → News h₀ L h' ((d, o') :: (tl ++ (fix ++ news))) → AllTup tl → PolyObj w (tl ++ news) o' P → Q .none { s with heap := h', toks := tk' })
    (F : Fr h₀ L h' m) (N : News h₀ L h' ns) (tl : Ledger) (ho : (d, o') ∈ ns) (hs : ∀ p ∈ tl ++ (fix ++ news), p ∈ ns) (hne : AllTup tl) (hr : PolyObj w (tl ++ news) o' P) : Q .none { s with heap := h', toks := tk' } :=
  hret tl o' h' tk' F (fun p hp => (List.mem_cons.mp hp).elim (fun e => e ▸ N _ ho) (fun hp => N p (hs p hp))) hne hr
theorem told_endN {ns : Ledger} {o' : Obj} {h' : Heap} {tk' : Nat}
    (hret : ∀ d o tl h' tk', Fr h₀ L h' m → News h₀ L h' ((d, o) :: (tl ++ news)) → (∀ p ∈ news, p.1 ≠ d) → (d == sysModules) = false → AllTup tl → PolyObj w (tl ++ news) o P → Q (.ref d) { s with heap := h', toks := tk' })
    (F : Fr h₀ L h' m) (N : News h₀ L h' ns) (tl : Ledger) (ho : (d, o') ∈ ns) (hs : ∀ p ∈ tl ++ news, p ∈ ns) (hd : ∀ p ∈ news, p.1 ≠ d) (lo : (d == sysModules) = false) (hne : AllTup tl) (hr : PolyObj w (tl ++ news) o' P) : Q (.ref d) { s with heap := h', toks := tk' } :=
  hret d o' tl h' tk' F (fun p hp => (List.mem_cons.mp hp).elim (fun e => e ▸ N _ ho) (fun hp => N p (hs p hp))) hd lo hne hr
theorem told_endN2 {tl2 tl9 : Ledger} {d9 d2 : Addr} {o9 o2 : Obj} {h' : Heap} {tk' : Nat}
    (hret : ∀ d o tl h' tk', Fr h₀ L h' m → News h₀ L h' ((d, o) :: (tl ++ news)) → (∀ p ∈ news, p.1 ≠ d) → (d == sysModules) = false → AllTup tl → PolyObj w (tl ++ news) o P → Q (.ref d) { s with heap := h', toks := tk' })
    (F : Fr h₀ L h' m) (N : News h₀ L h' ((d2, o2) :: (tl2 ++ ((d9, o9) :: (tl9 ++ news))))) (hn : NT o9) (h9 : AllTup tl9) (hd : ∀ p ∈ (d9, o9) :: (tl9 ++ news), p.1 ≠ d2) (lo : (d2 == sysModules) = false) (h2 : AllTup tl2) (hr : PolyObj w (tl2 ++ ((d9, o9) :: (tl9 ++ news))) o2 P) : Q (.ref d2) { s with heap := h', toks := tk' } := by
  refine hret d2 o2 (tl2 ++ tl9) h' tk' F (fun p hp => N p ?_) (fun p hp => hd p (List.mem_cons_of_mem _ (List.mem_append_right _ hp))) lo (allTup_app h2 h9) (hr.monoT ?_)
  · rw [List.append_assoc] at hp
    rcases List.mem_cons.mp hp with rfl | hp
    · exact List.mem_cons_self
    · rcases List.mem_append.mp hp with hp | hp
      · exact List.mem_cons_of_mem _ (List.mem_append_left _ hp)
      · exact List.mem_cons_of_mem _ (List.mem_append_right _ (List.mem_cons_of_mem _ hp))
  · rintro p hp ⟨vs, ev⟩
    rw [List.append_assoc]
    rcases List.mem_append.mp hp with hp | hp
    · exact List.mem_append_left _ hp
    · rcases List.mem_cons.mp hp with rfl | hp
      · exact absurd ev (hn vs)
      · exact List.mem_append_right _ hp
end

theorem TermsIn.get {ns : Ledger} : ∀ {xs : List (List Int × Addr × Value)} {P : List (List Int × Int)} {i : Nat} {x : List Int × Addr × Value}, TermsIn ns xs P → xs[i]? = some x → ∃ c, P[i]? = some (x.1, c) ∧ TupIn ns x.1 (.ref x.2.1)
  | _, _, i, x, .nil, h => by simp at h
  | _, _, 0, x, .cons h1 _ _, h => by simp only [List.getElem?_cons_zero, Option.some.injEq] at h; cases h; exact ⟨_, rfl, h1⟩
  | _, _, i + 1, x, .cons _ _ h3, h => by simp only [List.getElem?_cons_succ] at h ⊢; exact h3.get h

section
variable {w : World} {A : Around} {E : Value → Shared → Prop} {s : Shared} {h₀ : Heap} {m : Str → Option Value} {env : Env} {d : Addr} {P : List (List Int × Int)} {news : Ledger}
/-- for x in d: over the keys of a polynomial -/
theorem for_poly {x : Str} {px : Pos} {body : List Stmt} {Q : Flow → Shared → Prop} (hh : A.handled = none) (F : Fr h₀ env.locals s.heap m) (N : News h₀ env.locals s.heap news) (hd : PolyIn w news P (.ref d)) (hx : env.kindOf x = some .local)
    (hp : (env.scope.kind == .class || (env.scope.kind == .module && env.locals != env.globals)) = false)
    (J : Nat → (Str → Option Value) → Ledger → Prop) (h0 : J 0 m news)
    (step : ∀ i ks c a m₁ news₁ own I h tk, P[i]? = some (ks, c) → J i m₁ news₁ → TupIn news ks (.ref a) → Fr h₀ env.locals h (fun z => if z = x then some (.ref a) else m₁ z) → News h₀ env.locals h (own ++ news₁) → Off [I] news₁ → Apart [I] own → (∀ p ∈ own, p.1 = I ∨ p.1 = d) →
      wpAny (model PR w) A (execs body env) (ForEnd h₀ env.locals { s with heap := h, toks := tk } own [I] Q (J (i + 1))) E { s with heap := h, toks := tk })
    (done : ∀ h' tk m' news', Fr h₀ env.locals h' m' → News h₀ env.locals h' news' → J P.length m' news' → Q .next { s with heap := h', toks := tk }) :
    wpAny (model PR w) A (pyIter (.ref d)) (fun it s₂ => TurnsAt PR w A h₀ env (.Name x px) body Q E it s₂) E s := by
  obtain ⟨d', o, e, lo, hm, PO⟩ := hd
  cases e
  obtain ⟨hx1, es, ep, xs, hdat, he, _, T⟩ := PO
  have hg := N.get hm
  have hes := size_of_entries he
  have hl := T.length
  have hdl : d < s.heap.objs.size := Heap.lt_size hg
  refine iter_dictRaw lo ⟨o, hg, hx1, hdat⟩ ?_
  have keep : ∀ b o', s.heap.get? b = some o' → (s.heap.push { cls := .type "dict_keyiterator", data := .fields #[.ref d, .int 0 0, .int es.size 0, .int ep 0] }).get? b = some o' := fun b o' e => Heap.get?_push_of_some _ e
  have hLs : env.locals < s.heap.objs.size := F.ns.lt
  refine for_turnsAt (s₂ := { s with heap := s.heap.push { cls := .type "dict_keyiterator", data := .fields #[.ref d, .int 0 0, .int es.size 0, .int ep 0] } }) (AX := fun i m₁ m₂ => ∃ ks c a, P[i]? = some (ks, c) ∧ TupIn news ks (.ref a) ∧ m₂ = fun z => if z = x then some (.ref a) else m₁ z)
    (KTurns.ofWalks (walksKeys hh s.heap.objs.size d (Nat.ne_of_lt hdl) es ep) (fun i v s' Q E _ h => ?_)) ?_ ?_ ?_ ⟨⟨_, Heap.get?_push_size _ rfl, rfl, rfl⟩, ⟨o, keep _ _ hg, hx1, hdat⟩⟩ (F.keeps keep) (N.grown keep) ?_ J h0 ?_ (fun h' tk m' news' F' N' hJ => done h' tk m' news' F' N' (by rw [← hl, ← hes]; exact hJ))
  · exact wpAny_pure h
  · intro hL
    simp only [List.mem_cons, List.not_mem_nil, or_false] at hL
    rcases hL with hL | hL
    · exact Nat.ne_of_lt hLs hL
    · exact (N _ hm).2.1 hL.symm
  · intro b hb
    rw [List.mem_singleton] at hb
    subst hb
    exact fresh_above F (Nat.le_refl _)
  · intro p hp hb
    rw [List.mem_singleton] at hb
    exact Nat.ne_of_lt (Heap.lt_size (N p hp).1) hb
  · rintro i v h tk m₁ ns Q' E' hP F' N' hQ
    replace hP : es[i]?.map (·.key) = some v := hP
    rw [entry_at he i] at hP
    cases hxi : xs[i]? with
    | none => rw [hxi] at hP; cases hP
    | some z =>
      rw [hxi] at hP
      simp only [Option.map_some, Option.some.injEq] at hP
      subst hP
      obtain ⟨c, hc, hT⟩ := T.get hxi
      exact asg_name hx hp F' N' fun h' tk' F'' N'' => hQ h' tk' _ ⟨_, _, _, hc, hT, rfl⟩ F'' N''
  · rintro i m₁ m₂ news₁ own h tk hi hJ ⟨ks, c, a, hPi, hT, rfl⟩ F' N' off hA hof
    exact step i ks c a m₁ news₁ own _ h tk hPi hJ hT F' N' off (hA keysNT) fun p hp => by simpa using hof p hp
end
end PKit9
section PKitS2
set_option maxRecDepth 100000
set_option maxHeartbeats 1000000
theorem st_nil {B : Ledger} : SubT [] B := fun _ h => nomatch h
theorem st_in {a : Addr × Obj} {A B : Ledger} (h : a ∈ B) (hs : SubT A B) : SubT (a :: A) B := fun p hp => (List.mem_cons.mp hp).elim (fun e _ => e ▸ h) (hs p)
theorem st_no {a : Addr × Obj} {A B : Ledger} (h : ∀ us, a.2 ≠ tupO us) (hs : SubT A B) : SubT (a :: A) B := fun p hp => (List.mem_cons.mp hp).elim (fun e ⟨us, e'⟩ => absurd (e ▸ e') (h us)) (hs p)
theorem st_app {A A' B : Ledger} (h : SubT A B) (hs : SubT A' B) : SubT (A ++ A') B := fun p hp => (List.mem_append.mp hp).elim (h p) (hs p)
theorem st_of {A B : Ledger} (h : ∀ p ∈ A, p ∈ B) : SubT A B := fun p hp _ => h p hp
theorem st_none {A B : Ledger} (h : ∀ p ∈ A, ∀ us, p.2 ≠ tupO us) : SubT A B := fun p hp ⟨us, e⟩ => absurd e (h p hp us)
theorem st_via {A C B : Ledger} (h : SubT A C) (hs : ∀ p ∈ C, p ∈ B) : SubT A B := fun p hp e => hs p (h p hp e)
end PKitS2
section PKit10
set_option maxRecDepth 100000
set_option maxHeartbeats 1000000
open PyProof.Rows.LCg (NsObj lst ns_obj lst_snoc)
theorem PolyIn.nodup {w : World} {ns : Ledger} {P : List (List Int × Int)} {v : Value} (x : PolyIn w ns P v) : (P.map (·.1)).Nodup := let ⟨_, _, _, _, _, _, _, _, _, _, _, h, _⟩ := x; h
theorem coef_none {P : List (List Int × Int)} {ks : List Int} (h : ∀ q ∈ P, q.1 ≠ ks) : coef P ks = none := by
  unfold coef
  rw [List.find?_eq_none.mpr (fun q hq => by simpa using h q hq)]
  rfl
theorem setP_new {P : List (List Int × Int)} {ks : List Int} {c : Int} (h : coef P ks = none) : setP P ks c = P ++ [(ks, c)] := by unfold setP; rw [h]; rfl
theorem coef_at {P : List (List Int × Int)} (hn : (P.map (·.1)).Nodup) {i : Nat} {ks : List Int} {c : Int} (h : P[i]? = some (ks, c)) : coef P ks = some c := by
  induction P generalizing i with
  | nil => simp at h
  | cons q P ih =>
    simp only [List.map_cons, List.nodup_cons] at hn
    cases i with
    | zero =>
      simp only [List.getElem?_cons_zero, Option.some.injEq] at h
      subst h
      simp [coef]
    | succ i =>
      simp only [List.getElem?_cons_succ] at h
      have hq : q.1 ≠ ks := fun e => hn.1 (e ▸ List.mem_map.mpr ⟨_, List.mem_of_getElem? h, rfl⟩)
      have := ih hn.2 h
      unfold coef at this ⊢
      rw [List.find?_cons_of_neg (by simpa using hq)]
      exact this
theorem take_snoc {α β : Type} (g : α → β) {l : List α} {i : Nat} {x : α} (h : l[i]? = some x) : (l.take (i + 1)).map g = (l.take i).map g ++ [g x] := by
  rw [List.take_add_one, h, List.map_append]; rfl
theorem put_new {P : List (List Int × Int)} (f1 : List Int → List Int) (f2 : Int → Int) (hinj : (P.map fun q => f1 q.1).Nodup) {i : Nat} {ks : List Int} {c : Int} (h : P[i]? = some (ks, c)) :
    setP ((P.take i).map fun q => (f1 q.1, f2 q.2)) (f1 ks) (f2 c) = (P.take (i + 1)).map fun q => (f1 q.1, f2 q.2) := by
  rw [take_snoc _ h]
  refine setP_new (coef_none ?_)
  intro q hq e
  obtain ⟨p, hp, rfl⟩ := List.mem_map.mp hq
  have hl : (P.take (i + 1)).map (fun q => f1 q.1) = (P.take i).map (fun q => f1 q.1) ++ [f1 ks] := take_snoc (fun q => f1 q.1) h
  have hs : List.Sublist ((P.take (i + 1)).map (fun q => f1 q.1)) (P.map fun q => f1 q.1) := List.Sublist.map _ (List.take_sublist _ _)
  have hn := hs.nodup hinj
  rw [hl, List.nodup_append] at hn
  exact hn.2.2 _ (List.mem_map_of_mem hp) _ List.mem_cons_self e

section
variable {w : World} {A : Around} {E : Value → Shared → Prop} {s : Shared} {h₀ : Heap} {L : Addr} {m : Str → Option Value} {env : Env} {d a : Addr} {ks : List Int} {c : Int} {P : List (List Int × Int)} {ns all : Ledger}
theorem dset_poly2 {o : Obj} {v : Value} {Q : Unit → Shared → Prop} (hu : A.units < cLine) (F : Fr h₀ L s.heap m) (N : News h₀ L s.heap ((d, o) :: all)) (hne : ∀ p ∈ all, p.1 ≠ d) (hs : ∀ p ∈ ns, p ∈ all) (PO : PolyObj w ns o P) (hk : TupIn ns ks (.ref a)) (hv : RatIn ns c v) (hsz : P.length ≤ 10000)
    (h : ∀ h' tk' o', Fr h₀ L h' m → News h₀ L h' ((d, o') :: all) → PolyObj w ns o' (setP P ks c) → Q () { s with heap := h', toks := tk' }) :
    wpAny (model PR w) A (dictSet d (.ref a) v) Q E s := by
  have Nt : News h₀ L s.heap ns := fun p hp => tail_news N p (hs p hp)
  obtain ⟨xs, hD, T, _⟩ := PO.at Nt (N.get List.mem_cons_self)
  have hl := T.length
  refine wpAny_dictSet_heap (knd := PK w) (hsz := by rw [sizeLine_eq]; omega) hu (hk.key Nt) hD fun h' hD' hs' => ?_
  obtain ⟨o', ho', PO'⟩ := PolyObj.of hD' (T.stored hk hv)
  have hax := N (d, o) List.mem_cons_self
  exact h h' _ o' (F.change hs' hax.2.1 hax.2.2) (set_news N hne hs' ho') PO'
/-- a turn of a dict comprehension: key and value are told -/
def DcEnd (h₀ : Heap) (L : Addr) (m : Str → Option Value) (s₁ : Shared) (fix ns : Ledger) (ks : List Int) (c : Int) (kv vv : Value) (s₂ : Shared) : Prop :=
  ∃ h' tk' tl b, s₂ = { s₁ with heap := h', toks := tk' } ∧ kv = .ref b ∧ Fr h₀ L h' m ∧ News h₀ L h' (tl ++ (fix ++ ns)) ∧ AllTup tl ∧ TupIn (tl ++ ns) ks kv ∧ RatIn (tl ++ ns) c vv
theorem DcEnd.intro {s₁ : Shared} {fix ns all : Ledger} {h' : Heap} {tk : Nat} {b : Addr} {vv : Value} (F : Fr h₀ L h' m) (N : News h₀ L h' all) (tl : Ledger) (sub : ∀ p ∈ tl ++ (fix ++ ns), p ∈ all) (at' : AllTup tl) (hk : TupIn (tl ++ ns) ks (.ref b)) (hv : RatIn (tl ++ ns) c vv) :
    DcEnd h₀ L m s₁ fix ns ks c (.ref b) vv { s₁ with heap := h', toks := tk } := ⟨h', tk, tl, b, rfl, rfl, F, fun p hp => N p (sub p hp), at', hk, hv⟩

/-- {kx: vx for x in d}, d a polynomial -/
theorem dc_poly0 {kx vx : Expr} {x : Str} {scope : Scope} {cl : List (Str × Addr)} {Q : Value → Shared → Prop} {news : Ledger} (hh : A.handled = none) (hu : A.units < cLine) (F : Fr h₀ L s.heap m) (N : News h₀ L s.heap news) (hd : PolyIn w news P (.ref d)) (hbig : sysModules < h₀.objs.size)
    (f1 : List Int → List Int) (f2 : Int → Int) (hinj : (P.map fun q => f1 q.1).Nodup) (hsz : P.length ≤ 10000)
    (step : ∀ (i : Nat) (ks : List Int) (c : Int) (a : Addr) (pre own : Ledger) (C : Addr) (oC : Obj) (mC : Str → Option Value) (h : Heap) (tk : Nat) (E' : Value → Shared → Prop), P[i]? = some (ks, c) → mC x = some (.ref a) → NsObj oC mC → Fr h₀ L h m → News h₀ L h (((C, oC) :: own) ++ (pre ++ news)) → TupIn news ks (.ref a) →
      wpAny (model PR w) A (eval kx (compEnvC scope cl C env)) (fun kv s₄ => wpAny (model PR w) A (eval vx (compEnvC scope cl C env)) (fun vv s₅ => DcEnd h₀ L m { s with heap := h, toks := tk } ((C, oC) :: own) (pre ++ news) (f1 ks) (f2 c) kv vv s₅) E' s₄) E' { s with heap := h, toks := tk })
    (fin : ∀ D h tk oD tl, Fr h₀ L h m → News h₀ L h ((D, oD) :: (tl ++ news)) → (∀ p ∈ news, p.1 ≠ D) → (D == sysModules) = false → AllTup tl → PolyObj w (tl ++ news) oD (P.map fun q => (f1 q.1, f2 q.2)) → Q (.ref D) { s with heap := h, toks := tk }) :
    wpAny (model PR w) A (pyIter (.ref d)) (DcAt PR w A h₀ L m env x kx vx scope cl Q) E s := by
  obtain ⟨d', o, e, lo, hm, PO⟩ := hd
  cases e
  obtain ⟨hx1, es, ep, xs, hdat, he, hnd, T⟩ := PO
  have hg := N.get hm
  have hes := size_of_entries he
  have hl := T.length
  have hdl : d < s.heap.objs.size := Heap.lt_size hg
  refine iter_dictRaw lo ⟨o, hg, hx1, hdat⟩ ?_
  have keep : ∀ b o', s.heap.get? b = some o' → (s.heap.push { cls := .type "dict_keyiterator", data := .fields #[.ref d, .int 0 0, .int es.size 0, .int ep 0] }).get? b = some o' := fun b o' e => Heap.get?_push_of_some _ e
  have hLs : L < s.heap.objs.size := F.ns.lt
  refine ⟨s.heap.objs.size, [s.heap.objs.size, d], [s.heap.objs.size], es.size, _, _, news, fun i oD ns => ∃ tl, ns = tl ++ news ∧ AllTup tl ∧ PolyObj w ns oD ((P.take i).map fun q => (f1 q.1, f2 q.2)), rfl,
    walksKeys hh s.heap.objs.size d (Nat.ne_of_lt hdl) es ep, ⟨⟨_, Heap.get?_push_size _ rfl, rfl, rfl⟩, ⟨o, keep _ _ hg, hx1, hdat⟩⟩, ?_, F.keeps keep, N.grown keep, ?_, ?_, ?_, ⟨[], rfl, allTup_nil, polyObj_new⟩, ?_, ?_⟩
  · intro b hb
    simp only [List.mem_cons, List.not_mem_nil, or_false] at hb
    rw [Heap.size_push]
    rcases hb with rfl | rfl
    · exact Nat.lt_succ_self _
    · exact Nat.lt_succ_of_lt hdl
  · intro hL
    simp only [List.mem_cons, List.not_mem_nil, or_false] at hL
    rcases hL with hL | hL
    · exact Nat.ne_of_lt hLs hL
    · exact (N _ hm).2.1 hL.symm
  · intro b hb
    rw [List.mem_singleton] at hb
    subst hb
    exact fresh_above F (Nat.le_refl _)
  · intro p hp hb
    rw [List.mem_singleton] at hb
    exact Nat.ne_of_lt (Heap.lt_size (N p hp).1) hb
  · rintro i v oD news₁ own C oC D mC h tk E' hi hP ⟨tl, rfl, ht, PD⟩ hmx hoC F' N' off hDw hCw hCD hown hA
    replace hP : es[i]?.map (·.key) = some v := hP
    rw [entry_at he i] at hP
    cases hxi : xs[i]? with
    | none => rw [hxi] at hP; cases hP
    | some z =>
      rw [hxi] at hP
      simp only [Option.map_some, Option.some.injEq] at hP
      subst hP
      obtain ⟨c, hc, hT⟩ := T.get hxi
      have hi' : i < P.length := by rw [← hl, ← hes]; exact hi
      refine wpAny_mono (step i z.1 c z.2.1 ((D, oD) :: tl) own C oC mC h tk E' hc hmx hoC F' N' hT) (fun kv s₄ h4 => wpAny_mono h4 (fun vv s₅ h5 => ?_) fun _ _ e => e) fun _ _ e => e
      obtain ⟨h', tk', tl2, b, rfl, rfl, F5, N5, ht2, hk5, hv5⟩ := h5
      have hDin : (D, oD) ∈ tl2 ++ (((C, oC) :: own) ++ (D, oD) :: (tl ++ news)) := List.mem_append_right _ (List.mem_append_right _ List.mem_cons_self)
      have hDt : ∀ p ∈ tl2, p.1 ≠ D := tups_ne N5 hDin PD.nt ht2 fun p hp => List.mem_append_left _ hp
      have hsubT : SubT (tl2 ++ (D, oD) :: (tl ++ news)) (tl2 ++ (tl ++ news)) := fun p hp ⟨vs, ev⟩ => by
        rcases List.mem_append.mp hp with hp | hp
        · exact List.mem_append_left _ hp
        · rcases List.mem_cons.mp hp with rfl | hp
          · exact absurd ev (PD.nt vs)
          · exact List.mem_append_right _ hp
      have N6 : News h₀ L h' ((D, oD) :: (((C, oC) :: own) ++ (tl2 ++ (tl ++ news)))) := fun p hp => N5 p (by
        rcases List.mem_cons.mp hp with rfl | hp
        · exact hDin
        · rcases List.mem_append.mp hp with hp | hp
          · exact List.mem_append_right _ (List.mem_append_left _ hp)
          · rcases List.mem_append.mp hp with hp | hp
            · exact List.mem_append_left _ hp
            · exact List.mem_append_right _ (List.mem_append_right _ (List.mem_cons_of_mem _ hp)))
      have hne6 : ∀ p ∈ ((C, oC) :: own) ++ (tl2 ++ (tl ++ news)), p.1 ≠ D := fun p hp e => by
        rcases List.mem_append.mp hp with hp | hp
        · rcases List.mem_cons.mp hp with rfl | hp
          · exact hCD e
          · exact hown p hp (by rw [List.mem_singleton]; exact e)
        · rcases List.mem_append.mp hp with hp | hp
          · exact hDt p hp e
          · exact off p hp (by rw [e]; exact List.mem_cons_of_mem _ List.mem_cons_self)
      refine dset_poly2 (all := ((C, oC) :: own) ++ (tl2 ++ (tl ++ news))) (ns := tl2 ++ (tl ++ news)) hu F5 N6 hne6 (fun p hp => List.mem_append_right _ hp) (PD.mono fun p hp => List.mem_append_right _ hp) (hk5.monoT hsubT) (hv5.monoT hsubT) (by rw [List.length_map, List.length_take]; omega) ?_
      intro h6 tk6 o6 F6 N7 PO6
      refine ⟨h6, tk6, (D, o6) :: (tl2 ++ (tl ++ news)), rfl, F6, fun p hp => N7 p ?_, fun p _ hb => (by cases hb), o6, tl2 ++ (tl ++ news), rfl, ?_, tl2 ++ tl, by rw [List.append_assoc], allTup_app ht2 ht, ?_⟩
      · rcases List.mem_append.mp hp with hp | hp
        · exact List.mem_cons_of_mem _ (List.mem_append_left _ hp)
        · rcases List.mem_cons.mp hp with rfl | hp
          · exact List.mem_cons_self
          · exact List.mem_cons_of_mem _ (List.mem_append_right _ hp)
      · refine off_app (fun p hp hb => ?_) off
        have h1 := off_tups N5 (hA keysNT) (fun p hp => List.mem_append_right _ (List.mem_append_left _ hp)) ht2 (fun p hp => List.mem_append_left _ hp) p hp
        rcases List.mem_cons.mp hb with hb | hb
        · exact h1 (by rw [hb]; exact List.mem_cons_self)
        · rcases List.mem_cons.mp hb with hb | hb
          · exact hDt p hp hb
          · exact h1 (List.mem_cons_of_mem _ hb)
      · rw [put_new f1 f2 hinj hc] at PO6
        exact PO6
  · rintro D h tk oD news' F' N' off ⟨tl, rfl, ht, PD⟩ hlt hge
    refine fin D h tk oD tl F' N' (fun p hp => Nat.ne_of_lt (hlt p hp)) ?_ ht ?_
    · have : sysModules < D := Nat.lt_of_lt_of_le hbig hge
      simpa using (Nat.ne_of_gt this)
    · rw [hes, hl, List.take_length] at PD
      exact PD
theorem dc_poly {kx vx : Expr} {x : Str} {scope : Scope} {cl : List (Str × Addr)} {Q : Value → Shared → Prop} {news : Ledger} (cells : Ledger) (hh : A.handled = none) (hu : A.units < cLine) (F : Fr h₀ L s.heap m) (N : News h₀ L s.heap (cells ++ news)) (hd : PolyIn w news P (.ref d)) (hcl : ∀ p ∈ cells, NT p.2) (hbig : sysModules < h₀.objs.size)
    (f1 : List Int → List Int) (f2 : Int → Int) (hinj : (P.map fun q => f1 q.1).Nodup) (hsz : P.length ≤ 10000)
    (step : ∀ (i : Nat) (ks : List Int) (c : Int) (a : Addr) (pre own : Ledger) (C : Addr) (oC : Obj) (mC : Str → Option Value) (h : Heap) (tk : Nat) (E' : Value → Shared → Prop), P[i]? = some (ks, c) → mC x = some (.ref a) → NsObj oC mC → Fr h₀ L h m → News h₀ L h (((C, oC) :: own) ++ (pre ++ (cells ++ news))) → TupIn (cells ++ news) ks (.ref a) →
      wpAny (model PR w) A (eval kx (compEnvC scope cl C env)) (fun kv s₄ => wpAny (model PR w) A (eval vx (compEnvC scope cl C env)) (fun vv s₅ => DcEnd h₀ L m { s with heap := h, toks := tk } ((C, oC) :: own) (pre ++ (cells ++ news)) (f1 ks) (f2 c) kv vv s₅) E' s₄) E' { s with heap := h, toks := tk })
    (fin : ∀ D h tk oD tl, Fr h₀ L h m → News h₀ L h ((D, oD) :: (tl ++ news)) → (∀ p ∈ news, p.1 ≠ D) → (D == sysModules) = false → AllTup tl → PolyObj w (tl ++ news) oD (P.map fun q => (f1 q.1, f2 q.2)) → Q (.ref D) { s with heap := h, toks := tk }) :
    wpAny (model PR w) A (pyIter (.ref d)) (DcAt PR w A h₀ L m env x kx vx scope cl Q) E s := by
  refine dc_poly0 hh hu F N (hd.mono fun p hp => List.mem_append_right _ hp) hbig f1 f2 hinj hsz step ?_
  intro D h tk oD tl F' N' hne lo ht PD
  refine fin D h tk oD tl F' (fun p hp => N' p ?_) (fun p hp => hne p (List.mem_append_right _ hp)) lo ht (PD.monoT ?_)
  · rcases List.mem_cons.mp hp with rfl | hp
    · exact List.mem_cons_self
    · rcases List.mem_append.mp hp with hp | hp
      · exact List.mem_cons_of_mem _ (List.mem_append_left _ hp)
      · exact List.mem_cons_of_mem _ (List.mem_append_right _ (List.mem_append_right _ hp))
  · rintro p hp ⟨vs, ev⟩
    rcases List.mem_append.mp hp with hp | hp
    · exact List.mem_append_left _ hp
    · rcases List.mem_append.mp hp with hp | hp
      · exact absurd ev (hcl p hp vs)
      · exact List.mem_append_right _ hp
theorem NT.cell {o : Obj} {v : Option Value} (h : o.data = .cell v) : NT o := fun _ e => by rw [e] at h; cases h
theorem cells1 {a1 : Addr} {o1 : Obj} {v1 : Option Value} (h1 : o1.data = .cell v1) : ∀ p ∈ [(a1, o1)], NT p.2 := fun p hp => by
  rw [List.mem_singleton] at hp
  subst hp
  exact NT.cell h1
theorem cells_cons {a1 : Addr} {o1 : Obj} {v1 : Option Value} {r : Ledger} (h1 : o1.data = .cell v1) (h : ∀ p ∈ r, NT p.2) : ∀ p ∈ (a1, o1) :: r, NT p.2 := fun p hp => by
  rcases List.mem_cons.mp hp with rfl | hp
  · exact NT.cell h1
  · exact h p hp
end
end PKit10
set_option maxRecDepth 100000
set_option maxHeartbeats 1000000

theorem lines_18 : True := by
  k_with "X:m sub" => (intro p hp; (repeat (first | exact hp | refine List.Mem.tail _ ?_ | refine List.mem_append_right _ ?_)))
  k_with "X:m mem" => (repeat (first | assumption | exact List.Mem.head _ | refine List.Mem.tail _ ?_ | refine List.mem_append_right _ ?_))
  k_with "X:m rel" => first | assumption | exact RatIn.mono (by assumption) (by walk_at "m sub") | exact ⟨_, _, _, rfl, by walk_at "m mem"⟩
  k_with "X:m args" => (
    (case zqk1 => k_asm)
    (case zqk2 => k_asm)
    (case zqk3 => k_asm)
    (case zqk5 => k_asm)
    (case zqkK => first | exact rfl | assumption)
    (case zqkd => ktr_room)
    (case zqku => ktr_units))
  trivial
theorem RatIn.key {w : World} {ns : Ledger} {h₀ h : Heap} {L : Addr} {c : Int} {a : Addr} (x : RatIn ns c (.ref a)) (N : News h₀ L h ns) : IsTupleKey (intKind PR w) h [c, 1] a := by
  obtain ⟨b, t, u, e, hm⟩ := x
  cases e
  exact (TupKeyObj.made (keys_of_ints (.cons _ _ (.cons _ _ .nil)))).key (N.get hm)
theorem r0_key {w : World} {h₀ h : Heap} {L : Addr} {m : Str → Option Value} (X : (hd.heap_1 w.params).In h₀) (F : Fr h₀ L h m) : IsTupleKey (intKind PR w) h [0, 1] 71 := by
  have := F.keep _ _ (X 71 _ (by k_is))
  exact (TupKeyObj.made (keys_of_ints (.cons _ _ (.cons _ _ .nil)))).key this
theorem big_of {w : World} {h₀ : Heap} (X : (hd.heap_1 w.params).In h₀) : sysModules < h₀.objs.size :=
  Nat.lt_trans (by decide) (Heap.lt_size (X 71 _ (by k_is)))
theorem in_polyB {w : World} {A : Around} {E : Value → Shared → Prop} {s : Shared} {h₀ : Heap} {L : Addr} {d a : Addr} {ks : List Int} {P : List (List Int × Int)} {ns : Ledger} {oc : Option Int} {Q : Value → Shared → Prop} (hu : A.units + 1 < cLine) (N : News h₀ L s.heap ns) (hd : PolyIn w ns P (.ref d)) (hk : TupIn ns ks (.ref a)) (hc : coef P ks = oc)
    (h : Q (.bool oc.isSome) { s with toks := s.toks + (ks.length + 1) }) : wpAny (model PR w) A (compareOp .In (.ref a) (.ref d)) Q E s := by
  subst hc
  exact in_poly hu N hd hk h
theorem News.apart {h₀ h : Heap} {L : Addr} {ns : Ledger} {d r : Addr} {o o' : Obj} (N : News h₀ L h ns) (h1 : (d, o) ∈ ns) (h2 : (r, o') ∈ ns) (hc : o'.cls ≠ o.cls) : r ≠ d := by
  rintro rfl
  have e1 := (N _ h1).1
  have e2 := (N _ h2).1
  rw [e1] at e2
  exact hc (congrArg Obj.cls (Option.some.inj e2)).symm
theorem tup_ne_dict (vs : List Value) : (tupO vs).cls ≠ .type "dict" := fun e => by injection e with e; revert e; decide
theorem eq_r0 {w : World} {A : Around} {E : Value → Shared → Prop} {s : Shared} {h₀ : Heap} {L : Addr} {m : Str → Option Value} {c : Int} {a : Addr} {ns : Ledger} {b : Bool} {Q : Value → Shared → Prop} (hu : A.units < cLine) (F : Fr h₀ L s.heap m) (N : News h₀ L s.heap ns) (X : (hd.heap_1 w.params).In h₀)
    (hx : RatIn ns c (.ref a)) (hb : decide (c = 0) = b) (h : Q (.bool b) s) : wpAny (model PR w) A (compareOp .Eq (.ref a) (.ref 71)) Q E s := by
  refine eq_tup hu (hx.key N) (r0_key X F) ?_
  rw [lexEq_eq, show decide ([c, 1] = [(0 : Int), 1]) = decide (c = 0) from by simp, hb]
  exact h
theorem get_polyS {w : World} {A : Around} {E : Value → Shared → Prop} {s : Shared} {h₀ : Heap} {L : Addr} {d a : Addr} {ks : List Int} {c : Int} {P : List (List Int × Int)} {ns nk all : Ledger} {value slice : Expr} {Q : Value → Shared → Prop} (hu : A.units + 1 < cLine) (N : News h₀ L s.heap all) (hd : PolyIn w ns P (.ref d)) (hsub : ∀ p ∈ ns, p ∈ all) (hk : TupIn nk ks (.ref a)) (hsub2 : ∀ p ∈ nk, p ∈ all) (hc : coef P ks = some c)
    (h : ∀ r t u, (r, tupO [.int c t, .int 1 u]) ∈ ns → Q (.ref r) { s with toks := s.toks + (ks.length + 1) })
    (hs : subscripted slice false (.ref d) (.ref a) = operate [.ref d, .ref a] (getItem (.ref d) (.ref a))) (hg : ∀ r, letTemporaryGo value (.ref d) r = pure ()) :
    wpAny (model PR w) A (subscriptTail value slice (.ref d) (.ref a)) Q E s := by
  obtain ⟨d', o, e, lo, hm, PO⟩ := hd
  cases e
  obtain ⟨xs, hD, T, _⟩ := PO.at (fun p hp => N p (hsub p hp)) (N.get (hsub _ hm))
  rcases T.atKey (ks := ks) with ⟨_, e2⟩ | ⟨p, c', e1, e2, hr, _⟩
  · rw [hc] at e2; cases e2
  · rw [hc] at e2
    cases e2
    obtain ⟨r, t, u, er, hmr⟩ := hr
    refine subscriptTail_builtin hD.typeIs slot_dict_getitem.lookup (wpAny_getItem_heap (knd := PK w) (tupleKind_room_in1 hu) (hk.key (fun p hp => N p (hsub2 p hp))) hD e1 ?_) hs hg
    rw [er]
    exact h r t u hmr
theorem pop_method {w : World} {A : Around} {E : Value → Shared → Prop} {s : Shared} {h₀ : Heap} {L d : Addr} {ns : Ledger} {P : List (List Int × Int)} {pl : Sem Bool} {Q : Value × List Value → Shared → Prop} (N : News h₀ L s.heap ns) (hd : PolyIn w ns P (.ref d)) (h : Q (.builtin "dict.pop", [.ref d]) s) :
    wpAny (model PR w) A (getMethod (.ref d) (Str.ofString "pop") pl) Q E s := by
  obtain ⟨d', o, e, lo, hm, PO⟩ := hd
  cases e
  have ho := N.get hm
  exact getMethod_builtin ⟨o, ho, PO.1.1⟩ PySem.F.plainAttrs_dict PySem.F.slot_dict_pop PySem.F.type_dict_pop (fun b e => by injection e with e; subst e; exact ⟨o, ho, PO.1.2.1⟩) h

section PKit12
set_option maxRecDepth 100000
set_option maxHeartbeats 1000000
open PyProof.Rows.LCg (NsObj lst ns_obj lst_snoc)
section
variable {w : World} {A : Around} {E : Value → Shared → Prop} {s : Shared} {h₀ : Heap} {m : Str → Option Value} {env : Env} {d : Addr} {P : List (List Int × Int)} {news : Ledger}
/-- a turn of a for that stores no name but its own -/
def ForL (h₀ : Heap) (L : Addr) (m : Str → Option Value) (s₁ : Shared) (own : Ledger) (wr : List Addr) (Q : Flow → Shared → Prop) (R : Ledger → Prop) (f : Flow) (s' : Shared) : Prop :=
  match f with
  | .ret v => Q (.ret v) s'
  | .brk => Q .next s'
  | _ => ∃ h' tk' news', s' = { s₁ with heap := h', toks := tk' } ∧ Fr h₀ L h' m ∧ News h₀ L h' (own ++ news') ∧ Off wr news' ∧ R news'
theorem ForL.next {L : Addr} {s₁ : Shared} {own : Ledger} {wr : List Addr} {Q : Flow → Shared → Prop} {R : Ledger → Prop} {h' : Heap} {tk' : Nat} {all : Ledger}
    (F : Fr h₀ L h' m) (N : News h₀ L h' all) (news' : Ledger) (sub : ∀ p ∈ own ++ news', p ∈ all) (off : Off wr news') (r : R news') : ForL h₀ L m s₁ own wr Q R .next { s₁ with heap := h', toks := tk' } :=
  ⟨h', tk', news', rfl, F, fun p hp => N p (sub p hp), off, r⟩
theorem map1 {m₀ m₁ : Str → Option Value} {a : Str} {u : Option Value} (h : ∀ y, y ≠ a → m₁ y = m₀ y) : (fun y => if y = a then u else m₁ y) = (fun y => if y = a then u else m₀ y) := by
  funext y
  by_cases h1 : y = a
  · simp [h1]
  · simp [h1, h y h1]
theorem for_polyL {x : Str} {px : Pos} {body : List Stmt} {Q : Flow → Shared → Prop} (hh : A.handled = none) (F : Fr h₀ env.locals s.heap m) (N : News h₀ env.locals s.heap news) (hd : PolyIn w news P (.ref d)) (hx : env.kindOf x = some .local)
    (hp : (env.scope.kind == .class || (env.scope.kind == .module && env.locals != env.globals)) = false)
    (J : Nat → Ledger → Prop) (h0 : J 0 news)
    (step : ∀ i ks c a news₁ own I h tk, P[i]? = some (ks, c) → J i news₁ → TupIn news ks (.ref a) → Fr h₀ env.locals h (fun z => if z = x then some (.ref a) else m z) → News h₀ env.locals h (own ++ news₁) → Off [I] news₁ → Apart [I] own → (∀ p ∈ own, p.1 = I ∨ p.1 = d) →
      wpAny (model PR w) A (execs body env) (ForL h₀ env.locals (fun z => if z = x then some (.ref a) else m z) { s with heap := h, toks := tk } own [I] Q (J (i + 1))) E { s with heap := h, toks := tk })
    (done : ∀ h' tk u news', Fr h₀ env.locals h' (fun z => if z = x then u else m z) → News h₀ env.locals h' news' → J P.length news' → Q .next { s with heap := h', toks := tk }) :
    wpAny (model PR w) A (pyIter (.ref d)) (fun it s₂ => TurnsAt PR w A h₀ env (.Name x px) body Q E it s₂) E s := by
  refine for_poly hh F N hd hx hp (fun i m₁ ns => (∀ z, z ≠ x → m₁ z = m z) ∧ J i ns) ⟨fun _ _ => rfl, h0⟩ ?_ ?_
  · rintro i ks c a m₁ news₁ own I h tk hPi ⟨hm, hJ⟩ hT F' N' off hA ho
    rw [map1 hm] at F'
    refine wpAny_mono (step i ks c a news₁ own I h tk hPi hJ hT F' N' off hA ho) (fun f s' q => ?_) fun _ _ e => e
    have fin : ForL h₀ env.locals (fun z => if z = x then some (.ref a) else m z) { s with heap := h, toks := tk } own [I] Q (J (i + 1)) .next s' →
        ForEnd h₀ env.locals { s with heap := h, toks := tk } own [I] Q (fun m₁ ns => (∀ z, z ≠ x → m₁ z = m z) ∧ J (i + 1) ns) .next s' := by
      rintro ⟨h', tk', news', rfl, F₃, N₃, off', hJ'⟩
      exact ⟨h', tk', _, news', rfl, F₃, N₃, off', fun y h1 => by simp [h1], hJ'⟩
    cases f with
    | ret v => exact q
    | brk => exact q
    | next => exact fin q
    | cont => exact fin q
  · rintro h' tk m' news' F' N' ⟨hm, hJ⟩
    have e1 : m' = fun z => if z = x then m' x else m z := by
      funext y
      by_cases h1 : y = x
      · simp [h1]
      · simp [h1, hm y h1]
    rw [e1] at F'
    exact done h' tk _ news' F' N' hJ
theorem for_polyM {x : Str} {px : Pos} {body : List Stmt} {Q : Flow → Shared → Prop} (hh : A.handled = none) (F : Fr h₀ env.locals s.heap m) (N : News h₀ env.locals s.heap news) (hd : PolyIn w news P (.ref d)) (hx : env.kindOf x = some .local)
    (hp : (env.scope.kind == .class || (env.scope.kind == .module && env.locals != env.globals)) = false)
    (J : (Str → Option Value) → Nat → (Str → Option Value) → Ledger → Prop) (h0 : J m 0 m news)
    (step : ∀ i ks c a m₁ news₁ own I h tk, P[i]? = some (ks, c) → J m i m₁ news₁ → TupIn news ks (.ref a) → Fr h₀ env.locals h (fun z => if z = x then some (.ref a) else m₁ z) → News h₀ env.locals h (own ++ news₁) → Off [I] news₁ → Apart [I] own → (∀ p ∈ own, p.1 = I ∨ p.1 = d) →
      wpAny (model PR w) A (execs body env) (ForEnd h₀ env.locals { s with heap := h, toks := tk } own [I] Q (J m (i + 1))) E { s with heap := h, toks := tk })
    (done : ∀ h' tk m' news', Fr h₀ env.locals h' m' → News h₀ env.locals h' news' → J m P.length m' news' → Q .next { s with heap := h', toks := tk }) :
    wpAny (model PR w) A (pyIter (.ref d)) (fun it s₂ => TurnsAt PR w A h₀ env (.Name x px) body Q E it s₂) E s :=
  for_poly hh F N hd hx hp (J m) h0 step done
end
theorem subT_cons {d : Addr} {o : Obj} {ns : Ledger} (h : NT o) : SubT ((d, o) :: ns) ns := fun p hp ⟨vs, ev⟩ => by
  rcases List.mem_cons.mp hp with rfl | hp
  · exact absurd ev (h vs)
  · exact hp
theorem News.sub {h₀ h : Heap} {L : Addr} {ns all : Ledger} (N : News h₀ L h all) (hs : ∀ p ∈ ns, p ∈ all) : News h₀ L h ns := fun p hp => N p (hs p hp)
theorem News.front {h₀ h : Heap} {L : Addr} {a b : Ledger} {x : Addr × Obj} (N : News h₀ L h (a ++ (x :: b))) : News h₀ L h (x :: (a ++ b)) := fun p hp => N p (by
  rcases List.mem_cons.mp hp with rfl | hp
  · exact List.mem_append_right _ List.mem_cons_self
  · rcases List.mem_append.mp hp with hp | hp
    · exact List.mem_append_left _ hp
    · exact List.mem_append_right _ (List.mem_cons_of_mem _ hp))
theorem fix_of {own ns news : Ledger} {I d2 D : Addr} {o2 oD : Obj} (ho : ∀ p ∈ own, p.1 = I ∨ p.1 = d2) (off : Off [I] ((D, oD) :: ns)) (hne : ∀ p ∈ news, p.1 ≠ D) (hb : (d2, o2) ∈ news) : ∀ p ∈ own, p.1 ≠ D := fun p hp e => by
  rcases ho p hp with h | h
  · exact off (D, oD) List.mem_cons_self (List.mem_singleton.mpr (e.symm.trans h))
  · exact hne _ hb (h.symm.trans e)
theorem addEnd {w : World} {h₀ h' : Heap} {L I D : Addr} {m : Str → Option Value} {s₁ : Shared} {own tl tl9 news : Ledger} {oD o' : Obj} {P' : List (List Int × Int)} {tk' : Nat} {Q : Flow → Shared → Prop} (ht : AllTup tl) (off : Off [I] ((D, oD) :: (tl ++ news))) (hA : Apart [I] own)
    (F : Fr h₀ L h' m) (N : News h₀ L h' ((D, o') :: (tl9 ++ (own ++ (tl ++ news))))) (ht9 : AllTup tl9) (PO : PolyObj w (tl9 ++ (tl ++ news)) o' P') :
    ForL h₀ L m s₁ own [I] Q (fun ns => ∃ oD tl, ns = (D, oD) :: (tl ++ news) ∧ AllTup tl ∧ PolyObj w (tl ++ news) oD P') .next { s₁ with heap := h', toks := tk' } := by
  refine ForL.next F N ((D, o') :: ((tl9 ++ tl) ++ news)) ?_ ?_ ⟨o', tl9 ++ tl, rfl, allTup_app ht9 ht, by rw [List.append_assoc]; exact PO⟩
  · intro p hp
    rw [List.append_assoc] at hp
    rcases List.mem_append.mp hp with hp | hp
    · exact List.mem_cons_of_mem _ (List.mem_append_right _ (List.mem_append_left _ hp))
    · rcases List.mem_cons.mp hp with rfl | hp
      · exact List.mem_cons_self
      · rcases List.mem_append.mp hp with hp | hp
        · exact List.mem_cons_of_mem _ (List.mem_append_left _ hp)
        · exact List.mem_cons_of_mem _ (List.mem_append_right _ (List.mem_append_right _ hp))
  · intro p hp
    rw [List.append_assoc] at hp
    rcases List.mem_cons.mp hp with rfl | hp
    · exact off (D, oD) List.mem_cons_self
    · rcases List.mem_append.mp hp with hp | hp
      · exact off_tups N hA (fun p hp => List.mem_cons_of_mem _ (List.mem_append_right _ (List.mem_append_left _ hp))) ht9 (fun p hp => List.mem_cons_of_mem _ (List.mem_append_left _ hp)) p hp
      · exact off _ (List.mem_cons_of_mem _ hp)
/-- a polynomial with a term added -/
def addT (P : List (List Int × Int)) (ks : List Int) (c : Int) : List (List Int × Int) :=
  match coef P ks with
  | none => setP P ks c
  | some c' => if c' + c = 0 then delP P ks else setP P ks (c' + c)
/-- one polynomial's terms added to another -/
def addP (P R : List (List Int × Int)) : List (List Int × Int) := R.foldl (fun P q => addT P q.1 q.2) P
theorem addP_snoc {P R : List (List Int × Int)} {i : Nat} {ks : List Int} {c : Int} (h : R[i]? = some (ks, c)) : addP P (R.take (i + 1)) = addT (addP P (R.take i)) ks c := by
  unfold addP
  rw [List.take_add_one, h, List.foldl_append]; rfl
theorem delP_length (P : List (List Int × Int)) (ks : List Int) : (delP P ks).length ≤ P.length := List.length_filter_le _ _
theorem setP_length (P : List (List Int × Int)) (ks : List Int) (c : Int) : (setP P ks c).length ≤ P.length + 1 := by
  unfold setP
  split
  · simp
  · simp
theorem addT_length (P : List (List Int × Int)) (ks : List Int) (c : Int) : (addT P ks c).length ≤ P.length + 1 := by
  unfold addT
  split
  · exact setP_length ..
  · split
    · exact Nat.le_trans (delP_length ..) (Nat.le_succ _)
    · exact setP_length ..
theorem addP_length (P : List (List Int × Int)) : ∀ R : List (List Int × Int), (addP P R).length ≤ P.length + R.length
  | [] => Nat.le_refl _
  | q :: R => by
    have h1 := addP_length (addT P q.1 q.2) R
    have h2 := addT_length P q.1 q.2
    show (addP (addT P q.1 q.2) R).length ≤ _
    rw [List.length_cons]
    omega
end PKit12
set_option maxRecDepth 100000
set_option maxHeartbeats 1000000

theorem lines_19 : True := by
  k_with "X:m poly" => first | assumption | exact PolyIn.mono (by assumption) (by walk_at "m sub")
  k_with "X:m tup" => first | assumption | exact TupIn.mono (by assumption) (by walk_at "m sub") | exact ⟨_, _, rfl, by walk_at "m mem", by assumption⟩
  k_with "X:compareOp Eq ref ref" => (k_here; (with_reducible show wpAny _ _ (compareOp _ (Value.ref _) (Value.ref 71)) _ _ _); k_dflt (
    refine' eq_r0 ?zqhu ?zqhF ?zqhN ?zqhX ?zqhx ?zqhb ?_
    (case zqhN => k_asm)
    (case zqhx => walk_at "m rel")
    (case zqhu => ktr_units)
    (case zqhF => k_asm)
    (case zqhX => k_asm)
    (case zqhb => first | exact decide_eq_false (by assumption) | exact decide_eq_true (by assumption) | rfl)
    (try dsimp only)
    (try k_fold)))
  k_with "X:compareOp In ref ref" => (k_here; k_dflt (
    refine' in_polyB ?zqhu ?zqhN ?zqhd ?zqhk ?zqhc ?_
    (case zqhN => k_asm)
    (case zqhd => walk_at "m poly")
    (case zqhk => walk_at "m tup")
    (case zqhu => ktr_units)
    (case zqhc => assumption)
    (try simp only [Option.isSome_some, Option.isSome_none])
    (try k_fold)))
  k_with "X:subscriptTail" => (k_here; (with_reducible show wpAny _ _ (subscriptTail _ _ (Value.ref _) (Value.ref _)) _ _ _); k_dflt (
    refine' get_polyS ?zqhu ?zqhN ?zqhd ?zqhs1 ?zqhk ?zqhs2 ?zqhc ?_ (by rfl) (by intro _; rfl)
    (case zqhN => k_asm)
    (case zqhd => assumption)
    (case zqhs1 => walk_at "m sub")
    (case zqhk => assumption)
    (case zqhs2 => walk_at "m sub")
    (case zqhu => ktr_units)
    (case zqhc => assumption)
    intro _ _ _ _
    (try dsimp only)
    (try k_fold)))
  k_with "X:getMethod ref" => (k_here; (with_reducible show wpAny _ _ (getMethod (Value.ref _) (PySem.Str.ofString "pop") _) _ _ _); k_dflt (
    refine' pop_method ?zqhN ?zqhd ?_
    (case zqhN => k_asm)
    (case zqhd => walk_at "m poly")
    (try k_fold)))
  k_with "X:call builtin:dict.pop" => fail "by hand"
  k_with "X:eval DictComp" => (k_here; k_dflt (refine dc_eval (by k_asm) (by with_unfolding_all rfl) (by decide) (by rfl) (by decide) (by rfl) ?_))
  k_with "X:call ref" => (k_here; (with_reducible show wpAny _ _ (call (Value.ref 63) _) _ _ _); k_dflt (
    refine' told_int (gcd_ok _ _ _ _ _) ?zqk1 ?zqk2 ?zqk3 ?zqk4 ?zqk5 ?zqkK ?zqkd ?zqku ?_
    (case zqk4 => k_asm)
    walk_at "m args"
    intro _ _ _ _ _
    (try dsimp only)
    (try k_fold)))
  k_with "X:call ref" => (k_here; (with_reducible show wpAny _ _ (call (Value.ref 79) _) _ _ _); k_dflt (
    refine' told_rat (rat_ok _ _ _ ?zqh0 _ _ _) ?zqk1 ?zqk2 ?zqk3 ?zqk4 ?zqk5 ?zqkK ?zqkd ?zqku ?_
    (case zqk4 => k_asm)
    (case zqh0 => (first | rfl | simp))
    walk_at "m args"
    intro _ _ _ _ _ _ _
    (try dsimp only)
    (try k_fold)))
  k_with "X:call ref" => (k_here; (with_reducible show wpAny _ _ (call (Value.ref 86) _) _ _ _); k_dflt (
    refine' told_rat (radd_ok _ _ _ _ _ _ ?zqha ?zqhb) ?zqk1 ?zqk2 ?zqk3 ?zqk4 ?zqk5 ?zqkK ?zqkd ?zqku ?_
    (case zqk4 => k_asm)
    (case zqha => walk_at "m rel")
    (case zqhb => walk_at "m rel")
    walk_at "m args"
    intro _ _ _ _ _ _ _
    (try dsimp only)
    (try k_fold)))
  k_with "X:call ref" => (k_here; (with_reducible show wpAny _ _ (call (Value.ref 93) _) _ _ _); k_dflt (
    refine' told_rat (rmul_ok _ _ _ _ _ _ ?zqha ?zqhb ?zqhm) ?zqk1 ?zqk2 ?zqk3 ?zqk4 ?zqk5 ?zqkK ?zqkd ?zqku ?_
    (case zqk4 => k_asm)
    (case zqha => walk_at "m rel")
    (case zqhb => walk_at "m rel")
    (case zqhm => first | assumption | mul_fits)
    walk_at "m args"
    intro _ _ _ _ _ _ _
    (try dsimp only)
    (try k_fold)))
  k_with "X:call ref" => (k_here; (with_reducible show wpAny _ _ (call (Value.ref 100) _) _ _ _); k_dflt (
    refine' told_rat (rdiv_ok _ _ _ _ _ ?zqha ?zqhb) ?zqk1 ?zqk2 ?zqk3 ?zqk4 ?zqk5 ?zqkK ?zqkd ?zqku ?_
    (case zqk4 => k_asm)
    (case zqha => walk_at "m rel")
    (case zqhb => walk_at "m rel")
    walk_at "m args"
    intro _ _ _ _ _ _ _
    (try dsimp only)
    (try k_fold)))
  k_with "X:call ref" => (k_here; (with_reducible show wpAny _ _ (call (Value.ref 107) _) _ _ _); k_dflt (
    refine' told_rat (rneg_ok _ _ _ _ ?zqha) ?zqk1 ?zqk2 ?zqk3 ?zqk4 ?zqk5 ?zqkK ?zqkd ?zqku ?_
    (case zqk4 => k_asm)
    (case zqha => walk_at "m rel")
    walk_at "m args"
    intro _ _ _ _ _ _ _
    (try dsimp only)
    (try k_fold)))
  k_with "X:call ref" => (k_here; (with_reducible show wpAny _ _ (call (Value.ref 114) _) _ _ _); k_dflt (
    refine' told_rat (rinv_ok _ _ _ ?zqha) ?zqk1 ?zqk2 ?zqk3 ?zqk4 ?zqk5 ?zqkK ?zqkd ?zqku ?_
    (case zqk4 => k_asm)
    (case zqha => walk_at "m rel")
    walk_at "m args"
    intro _ _ _ _ _ _ _
    (try dsimp only)
    (try k_fold)))
  k_with "X:call ref" => (k_here; (with_reducible show wpAny _ _ (call (Value.ref 121) _) _ _ _); k_dflt (
    refine' told_val (is_vast_ok _ _ _ _ ?zqha ?zqhb ?zqhc) ?zqk1 ?zqk2 ?zqk3 ?zqk4 ?zqk5 ?zqkK ?zqkd ?zqku ?_
    (case zqk4 => k_asm)
    (case zqha => walk_at "m rel")
    (case zqhb => first | assumption | omega)
    (case zqhc => first | assumption | omega)
    walk_at "m args"
    intro _ _ _ _
    (try dsimp only)
    (try k_fold)))
  k_with "X:call ref" => (k_here; (with_reducible show wpAny _ _ (call (Value.ref 39) _) _ _ _); k_dflt (
    refine' told_val (order_key_ok _ _ _ _) ?zqk1 ?zqk2 ?zqk3 ?zqk4 ?zqk5 ?zqkK ?zqkd ?zqku ?_
    (case zqk4 => k_asm)
    walk_at "m args"
    intro _ _ _ _
    (try dsimp only)
    (try k_fold)))
  trivial
theorem addterm_ok (w : World) (P : List (List Int × Int)) (ks : List Int) (c : Int) (d : Addr) (o : Obj) (x y : Value) (news : Ledger) (lo : (d == sysModules) = false) (hne : ∀ p ∈ news, p.1 ≠ d) (PO : PolyObj w news o P) (hx : TupIn news ks x) (hy : RatIn news c y) (hc : c ≠ 0) (hsz : P.length ≤ 10000) :
    ToldM w 135 [.ref d, x, y] d o news 6 (addT P ks c) := by
  have hxk := hx
  have hyk := hy
  obtain ⟨a1, vs, rfl, hx, hvx⟩ := hx
  obtain ⟨b1, t1, t2, rfl, hy⟩ := hy
  unfold ToldM
  intro mean mg mb dp un gd cn cs a ccd cl outer A₀ base h₀ L m s fix Q E B F X N hfix T hk hdp hun hret
  have hfn : ∀ p ∈ fix ++ news, p.1 ≠ d := fun p hp => (List.mem_append.mp hp).elim (hfix p) (hne p)
  have hPd : PolyIn w ((d, o) :: (fix ++ news)) P (.ref d) := ⟨d, o, rfl, lo, List.mem_cons_self, PO.mono fun p hp => List.mem_cons_of_mem _ (List.mem_append_right _ hp)⟩
  refine wpAny_call ?_
  rcases hcf : coef P ks with _ | c'
  · have e : addT P ks c = setP P ks c := by unfold addT; rw [hcf]
    rw [e] at hret
    k_dflt cell_enter
    k_steps
    refine set_poly (by ktr_units) (by assumption) (by assumption) hfn (fun p hp => List.mem_append_right _ hp) PO hxk hyk hsz ?_
    intro h' tk' o' F' N' PO'
    k_steps
    exact told_endM (o' := o') hret (by assumption) (by assumption) [] (by walk_at "m mem") (by walk_at "m sub") allTup_nil PO'
  · by_cases hz : c' + c = 0
    · have e : addT P ks c = delP P ks := by unfold addT; rw [hcf]; simp [hz]
      rw [e] at hret
      k_dflt cell_enter
      k_steps
      have hap := News.apart (by assumption) (d := d) (o := o) (by walk_at "m mem") (List.mem_cons_self) (by rw [PO.1.1]; exact tup_ne_dict _)
      refine' pop_poly (by ktr_units) (by assumption) (News.swap (by assumption)) ?hne2 ?hsb (ns := (_, tupO [.int (c' + c) _, .int 1 _]) :: news) (PO.mono fun p hp => List.mem_cons_of_mem _ hp) (hxk.mono fun p hp => List.mem_cons_of_mem _ hp) (by rw [hcf]; rfl) hsz (.inr rfl) ?_
      case hsb =>
        intro p hp
        rcases List.mem_cons.mp hp with rfl | hp
        · exact List.mem_cons_self
        · exact List.mem_cons_of_mem _ (List.mem_append_right _ hp)
      case hne2 =>
        intro p hp
        rcases List.mem_cons.mp hp with rfl | hp
        · exact hap
        · exact hfn p hp
      intro h' tk' o' v9 F' N' PO'
      k_steps
      exact told_endM (o' := o') hret (by assumption) (by assumption) [(_, _)] (by walk_at "m mem") (by walk_at "m sub") (allTup_one _ _) PO'
    · have e : addT P ks c = setP P ks (c' + c) := by unfold addT; rw [hcf]; simp [hz]
      rw [e] at hret
      k_dflt cell_enter
      k_steps
      have hap := News.apart (by assumption) (d := d) (o := o) (by walk_at "m mem") (List.mem_cons_self) (by rw [PO.1.1]; exact tup_ne_dict _)
      refine' set_poly (by ktr_units) (by assumption) (News.swap (by assumption)) ?hne2 ?hsb (ns := (_, tupO [.int (c' + c) _, .int 1 _]) :: news) (PO.mono fun p hp => List.mem_cons_of_mem _ hp) (hxk.mono fun p hp => List.mem_cons_of_mem _ hp) ⟨_, _, _, rfl, List.mem_cons_self⟩ hsz ?_
      case hsb =>
        intro p hp
        rcases List.mem_cons.mp hp with rfl | hp
        · exact List.mem_cons_self
        · exact List.mem_cons_of_mem _ (List.mem_append_right _ hp)
      case hne2 =>
        intro p hp
        rcases List.mem_cons.mp hp with rfl | hp
        · exact hap
        · exact hfn p hp
      intro h' tk' o' F' N' PO'
      k_steps
      exact told_endM (o' := o') hret (by assumption) (by assumption) [(_, _)] (by walk_at "m mem") (by walk_at "m sub") (allTup_one _ _) PO'

set_option maxRecDepth 100000
set_option maxHeartbeats 1000000

theorem mvneg_ok (w : World) (P : List (List Int × Int)) (x : Value) (news : Ledger) (ha : PolyIn w news P x) (hsz : P.length ≤ 10000) : ToldN w 140 [x] news 4 (P.map fun q => (q.1, -q.2)) := by
  have hnd := ha.nodup
  obtain ⟨d1, o1, rfl, lo1, ha1, PO1⟩ := ha
  have hPd : PolyIn w news P (.ref d1) := ⟨d1, o1, rfl, lo1, ha1, PO1⟩
  unfold ToldN
  intro mean mg mb dp un gd cn cs a ccd cl outer A₀ base h₀ L m s Q E B F X N T hk hdp hun hret
  refine wpAny_call ?_
  k_dflt (walk_at "m enterC")
  k_steps
  refine dc_poly [(_, _)] rfl (by ktr_units) (by assumption) (by assumption) (by walk_at "m poly") (cells1 (by assumption)) (big_of (by assumption)) (fun ks => ks) (fun c => -c) hnd hsz ?_ ?_
  · intro i ks1 c1 a1 pre own C oC mC h tk E' hP hmx hoC F9 N9 hT
    have hc := coef_at hnd hP
    k_steps
    exact DcEnd.intro (by assumption) (by assumption) [(_, tupO _)] (by walk_at "m sub") (allTup_one _ _) (by walk_at "m tup") (by walk_at "m rel")
  · intro D9 h' tk' o9 tl9 F' N' hne9 lo9 ht9 hP9
    k_steps
    exact told_endN hret (by assumption) (by assumption) tl9 (by walk_at "m mem") (by walk_at "m sub") (by assumption) (by assumption) (by assumption) (by assumption)

set_option maxRecDepth 100000
set_option maxHeartbeats 1000000

theorem lines_20 : True := by
  k_with "X:call ref" => (k_here; (with_reducible show wpAny _ _ (call (Value.ref 44) _) _ _ _); k_dflt (
    refine' told_tup (pprod_ok _ _ _ _ _ _ ?zqha ?zqhb ?zqhl ?zqhz) ?zqk1 ?zqk2 ?zqk3 ?zqk4 ?zqk5 ?zqkK ?zqkd ?zqku ?_
    (case zqk4 => k_asm)
    (case zqha => walk_at "m tup")
    (case zqhb => walk_at "m tup")
    (case zqhl => first | assumption | omega)
    (case zqhz => first | assumption | omega)
    walk_at "m args"
    intro _ _ _ _ _ _ _
    (try dsimp only)
    (try k_fold)))
  k_with "X:call ref" => (k_here; (with_reducible show wpAny _ _ (call (Value.ref 56) _) _ _ _); k_dflt (
    refine' told_tup (pquot_ok _ _ _ _ _ _ ?zqha ?zqhb ?zqhl ?zqhz) ?zqk1 ?zqk2 ?zqk3 ?zqk4 ?zqk5 ?zqkK ?zqkd ?zqku ?_
    (case zqk4 => k_asm)
    (case zqha => walk_at "m tup")
    (case zqhb => walk_at "m tup")
    (case zqhl => first | assumption | omega)
    (case zqhz => first | assumption | omega)
    walk_at "m args"
    intro _ _ _ _ _ _ _
    (try dsimp only)
    (try k_fold)))
  k_with "X:call ref" => (k_here; (with_reducible show wpAny _ _ (call (Value.ref 51) _) _ _ _); k_dflt (
    refine' told_val (pdiv_ok _ _ _ _ _ _ ?zqha ?zqhb ?zqhl ?zqhz) ?zqk1 ?zqk2 ?zqk3 ?zqk4 ?zqk5 ?zqkK ?zqkd ?zqku ?_
    (case zqk4 => k_asm)
    (case zqha => walk_at "m tup")
    (case zqhb => walk_at "m tup")
    (case zqhl => first | assumption | omega)
    (case zqhz => first | assumption | omega)
    walk_at "m args"
    intro _ _ _ _
    (try dsimp only)
    (try k_fold)))
  trivial
theorem mvscale_ok (w : World) (P : List (List Int × Int)) (x : Value) (news : Ledger) (ha : PolyIn w news P x) (hsz : P.length ≤ 10000) (c : Int) (y : Value) (hy : RatIn news c y) (hc : c ≠ 0) (hm : ∀ q ∈ P, IntMulOk q.2 c) : ToldN w 152 [x, y] news 5 (P.map fun q => (q.1, q.2 * c)) := by
  have hnd := ha.nodup
  obtain ⟨d1, o1, rfl, lo1, ha1, PO1⟩ := ha
  have hPd : PolyIn w news P (.ref d1) := ⟨d1, o1, rfl, lo1, ha1, PO1⟩
  have hyk := hy
  obtain ⟨b1, t1, t2, rfl, hy⟩ := hy
  unfold ToldN
  intro mean mg mb dp un gd cn cs a ccd cl outer A₀ base h₀ L m s Q E B F X N T hk hdp hun hret
  refine wpAny_call ?_
  k_dflt (walk_at "m enterC")
  k_steps
  refine dc_poly [(_, _), (_, _)] rfl (by ktr_units) (by assumption) (by assumption) (by walk_at "m poly") (cells_cons (by assumption) (cells1 (by assumption))) (big_of (by assumption)) (fun ks => ks) (fun n => n * c) hnd hsz ?_ ?_
  · intro i ks1 c1 a1 pre own C oC mC h tk E' hP hmx hoC F9 N9 hT
    have hc := coef_at hnd hP
    have hm1 := hm _ (List.mem_of_getElem? hP)
    dsimp only at hm1
    k_steps
    exact DcEnd.intro (by assumption) (by assumption) [(_, tupO _)] (by walk_at "m sub") (allTup_one _ _) (by walk_at "m tup") (by walk_at "m rel")
  · intro D9 h' tk' o9 tl9 F' N' hne9 lo9 ht9 hP9
    k_steps
    exact told_endN hret (by assumption) (by assumption) tl9 (by walk_at "m mem") (by walk_at "m sub") (by assumption) (by assumption) (by assumption) (by assumption)
theorem mvshift_ok (w : World) (P : List (List Int × Int)) (x : Value) (news : Ledger) (ha : PolyIn w news P x) (hsz : P.length ≤ 10000) (ls : List Int) (z : Value) (hz : TupIn news ls z) (hlen : ∀ q ∈ P, q.1.length = ls.length) (hls : ls.length ≤ 1000) (hinj : (P.map fun q => List.zipWith (fun p q => p + q) q.1 ls).Nodup) (c : Int) (y : Value) (hy : RatIn news c y) (hc : c ≠ 0) (hm : ∀ q ∈ P, IntMulOk q.2 c) : ToldN w 157 [x, z, y] news 6 (P.map fun q => (List.zipWith (fun p q => p + q) q.1 ls, q.2 * c)) := by
  have hnd := ha.nodup
  obtain ⟨d1, o1, rfl, lo1, ha1, PO1⟩ := ha
  have hPd : PolyIn w news P (.ref d1) := ⟨d1, o1, rfl, lo1, ha1, PO1⟩
  have hyk := hy
  have hzk := hz
  obtain ⟨b1, t1, t2, rfl, hy⟩ := hy
  obtain ⟨z1, zs, rfl, hz, hzs⟩ := hz
  unfold ToldN
  intro mean mg mb dp un gd cn cs a ccd cl outer A₀ base h₀ L m s Q E B F X N T hk hdp hun hret
  refine wpAny_call ?_
  k_dflt (walk_at "m enterC")
  k_steps
  refine dc_poly [(_, _), (_, _), (_, _)] rfl (by ktr_units) (by assumption) (by assumption) (by walk_at "m poly") (cells_cons (by assumption) (cells_cons (by assumption) (cells1 (by assumption)))) (big_of (by assumption)) (fun ks => List.zipWith (fun p q => p + q) ks ls) (fun n => n * c) hinj hsz ?_ ?_
  · intro i ks1 c1 a1 pre own C oC mC h tk E' hP hmx hoC F9 N9 hT
    have hc := coef_at hnd hP
    have hm1 := hm _ (List.mem_of_getElem? hP)
    have hl1 := hlen _ (List.mem_of_getElem? hP)
    dsimp only at hm1 hl1
    have hl2 : ks1.length ≤ 1000 := by omega
    k_steps
    exact DcEnd.intro (by assumption) (by assumption) [(_, tupO _), (_, tupO _)] (by walk_at "m sub") (allTup_two _ _ _ _) (by walk_at "m tup") (by walk_at "m rel")
  · intro D9 h' tk' o9 tl9 F' N' hne9 lo9 ht9 hP9
    k_steps
    exact told_endN hret (by assumption) (by assumption) tl9 (by walk_at "m mem") (by walk_at "m sub") (by assumption) (by assumption) (by assumption) (by assumption)

set_option maxRecDepth 100000
set_option maxHeartbeats 1000000

theorem lines_21 : True := by
  k_with "X:call type:dict" => (k_here; (with_reducible show wpAny _ _ (call (Value.type "dict") [Value.ref _]) _ _ _); k_dflt (
    refine' copy_poly ?zqhF ?zqhN ?zqhB ?zqhd ?zqhP ?zqhH ?zqhz ?_
    (case zqhF => k_asm)
    (case zqhN => k_asm)
    (case zqhd => walk_at "m poly")
    (case zqhB => exact big_of (by k_asm))
    (case zqhP => assumption)
    (case zqhH => assumption)
    (case zqhz => first | assumption | omega)
    intro _ _ _ _ _ _ _ _
    (try dsimp only)
    (try k_fold)))
  k_with "X:exec For Name Name cons nil" => (k_here; (with_unfolding_all refine' For_turns (by assumption) ?_); k_whole)
  k_with "X:call ref" => (k_here; (with_reducible show wpAny _ _ (call (Value.ref 135) _) _ _ _); k_dflt (
    refine' toldM_use (addterm_ok _ _ _ _ _ _ _ _ _ ?zqlo ?zqhne ?zqPO ?zqhx ?zqhy ?zqhc ?zqhz) ?zqk1 ?zqk2 ?zqk3 ?zqk4 ?zqhf ?zqk5 ?zqkK ?zqkd ?zqku ?_
    (case zqk4 => assumption)
    (case zqlo => assumption)
    (case zqhne => assumption)
    (case zqhf => assumption)
    (case zqPO => assumption)
    (case zqhx => walk_at "m tup")
    (case zqhy => walk_at "m rel")
    (case zqhc => assumption)
    (case zqhz => first | assumption | omega)
    walk_at "m args"
    intro _ _ _ _ _ _ _ _
    (try dsimp only)
    (try k_fold)))
  trivial
theorem mvadd_ok (w : World) (P R : List (List Int × Int)) (x y : Value) (news : Ledger) (ha : PolyIn w news P x) (hb : PolyIn w news R y) (hne : P ≠ []) (hH : HashApart w P) (hc0 : ∀ q ∈ R, q.2 ≠ 0) (hsz : P.length + R.length ≤ 10000) : ToldN w 128 [x, y] news 8 (addP P R) := by
  have hndR := hb.nodup
  obtain ⟨d1, o1, rfl, lo1, ha1, PO1⟩ := ha
  have hPd : PolyIn w news P (.ref d1) := ⟨d1, o1, rfl, lo1, ha1, PO1⟩
  obtain ⟨d2, o2, rfl, lo2, hb2, PO2⟩ := hb
  have hRd : PolyIn w news R (.ref d2) := ⟨d2, o2, rfl, lo2, hb2, PO2⟩
  have hsz1 : P.length ≤ 10000 := by omega
  unfold ToldN
  intro mean mg mb dp un gd cn cs a ccd cl outer A₀ base h₀ L m s Q E B F X N T hk hdp hun hret
  refine wpAny_call ?_
  k_dflt cell_enter
  k_steps
  rename PolyObj _ _ _ _ => hP9
  rename (∀ p ∈ news, p.1 ≠ _) => hne9
  refine for_polyL rfl (by assumption) (by assumption) (hRd.mono (by walk_at "m sub")) rfl rfl
    (fun i ns => ∃ oD tl, ns = (_, oD) :: (tl ++ news) ∧ AllTup tl ∧ PolyObj w (tl ++ news) oD (addP P (R.take i))) ⟨_, [], rfl, allTup_nil, hP9⟩ ?_ ?_
  · rintro i ks1 c1 a1 news₁ own I h tk hPi ⟨oD, tl, rfl, ht, PD⟩ hT F9 N9 off hA ho
    have hfix := fix_of ho off hne9 hb2
    have N10 := News.front N9
    have hneT := fun p hp => (List.mem_append.mp hp).elim (tups_ne N10 List.mem_cons_self PD.nt ht (fun p hp => List.mem_cons_of_mem _ (List.mem_append_right _ (List.mem_append_left _ hp))) p) (hne9 p)
    have hc1 := hc0 _ (List.mem_of_getElem? hPi)
    dsimp only at hc1
    have hcR := coef_at hndR hPi
    have hT' : TupIn (tl ++ news) ks1 _ := (hT.monoT (subT_cons hP9.nt)).mono (fun p hp => List.mem_append_right _ hp)
    have hiR := (List.getElem?_eq_some_iff.mp hPi).1
    have hlen : (addP P (R.take i)).length ≤ 10000 := by have := addP_length P (R.take i); rw [List.length_take] at this; omega
    simp only [addP_snoc hPi]
    k_steps
    exact addEnd ht off hA (by assumption) (by assumption) (by assumption) (by assumption)
  · rintro h' tk u news' F' N' ⟨oD, tl, rfl, ht, PD⟩
    rw [List.take_length] at PD
    k_steps
    exact told_endN hret (by assumption) (by assumption) tl (by walk_at "m mem") (by walk_at "m sub") hne9 (by assumption) ht PD

set_option maxRecDepth 100000
set_option maxHeartbeats 1000000

theorem lines_22 : True := by
  k_with "X:m poly" => first | assumption | exact PolyIn.mono (by assumption) (by walk_at "m sub") | exact ⟨_, _, rfl, by assumption, by walk_at "m mem", PolyObj.mono (by assumption) (by walk_at "m sub")⟩
  k_with "X:call ref" => (k_here; (with_reducible show wpAny _ _ (call (Value.ref 140) _) _ _ _); k_dflt (
    refine' toldN_use (mvneg_ok _ _ _ _ ?zqha ?zqhz) ?zqk1 ?zqk2 ?zqk3 ?zqk4 ?zqk5 ?zqkK ?zqkd ?zqku ?_
    (case zqk4 => k_asm)
    (case zqha => walk_at "m poly")
    (case zqhz => first | assumption | omega)
    walk_at "m args"
    intro _ _ _ _ _ _ _ _ _ _ _
    (try dsimp only)
    (try k_fold)))
  k_with "X:call ref" => (k_here; (with_reducible show wpAny _ _ (call (Value.ref 128) _) _ _ _); k_dflt (
    refine' toldN_use (mvadd_ok _ _ _ _ _ _ ?zqha ?zqhb ?zqhn ?zqhH ?zqhc ?zqhz) ?zqk1 ?zqk2 ?zqk3 ?zqk4 ?zqk5 ?zqkK ?zqkd ?zqku ?_
    (case zqk4 => k_asm)
    (case zqha => walk_at "m poly")
    (case zqhb => walk_at "m poly")
    (case zqhn => assumption)
    (case zqhH => assumption)
    (case zqhc => assumption)
    (case zqhz => first | assumption | omega)
    walk_at "m args"
    intro _ _ _ _ _ _ _ _ _ _ _
    (try dsimp only)
    (try k_fold)))
  trivial
theorem mvsub_ok (w : World) (P R : List (List Int × Int)) (x y : Value) (news : Ledger) (ha : PolyIn w news P x) (hb : PolyIn w news R y) (hne : P ≠ []) (hH : HashApart w P) (hc0 : ∀ q ∈ R, q.2 ≠ 0) (hsz : P.length + R.length ≤ 10000) : ToldN w 147 [x, y] news 9 (addP P (R.map fun q => (q.1, -q.2))) := by
  obtain ⟨d1, o1, rfl, lo1, ha1, PO1⟩ := ha
  have hPd : PolyIn w news P (.ref d1) := ⟨d1, o1, rfl, lo1, ha1, PO1⟩
  obtain ⟨d2, o2, rfl, lo2, hb2, PO2⟩ := hb
  have hRd : PolyIn w news R (.ref d2) := ⟨d2, o2, rfl, lo2, hb2, PO2⟩
  have hc0' : ∀ q ∈ R.map (fun q => (q.1, -q.2)), q.2 ≠ 0 := fun q hq => by
    obtain ⟨p, hp, rfl⟩ := List.mem_map.mp hq
    have := hc0 p hp
    dsimp only
    omega
  have hl1 : P.length + (R.map (fun q => (q.1, -q.2))).length ≤ 10000 := by rw [List.length_map]; exact hsz
  have hl2 : R.length ≤ 10000 := by omega
  unfold ToldN
  intro mean mg mb dp un gd cn cs a ccd cl outer A₀ base h₀ L m s Q E B F X N T hk hdp hun hret
  refine wpAny_call ?_
  k_dflt cell_enter
  k_steps
  rename PolyObj _ _ _ (addP _ _) => hP2
  rename PolyObj _ _ _ (List.map _ _) => hP1
  exact told_endN2 hret (by assumption) (by assumption) hP1.nt (by assumption) (by assumption) (by assumption) (by assumption) hP2

theorem lines_23 : True := by
  k_with "X:call ref" => (k_here; (with_reducible show wpAny _ _ (call (Value.ref 147) _) _ _ _); k_dflt (
    refine' toldN_use (mvsub_ok _ _ _ _ _ _ ?zqha ?zqhb ?zqhn ?zqhH ?zqhc ?zqhz) ?zqk1 ?zqk2 ?zqk3 ?zqk4 ?zqk5 ?zqkK ?zqkd ?zqku ?_
    (case zqk4 => k_asm)
    (case zqha => walk_at "m poly")
    (case zqhb => walk_at "m poly")
    (case zqhn => assumption)
    (case zqhH => assumption)
    (case zqhc => assumption)
    (case zqhz => first | assumption | omega)
    walk_at "m args"
    intro _ _ _ _ _ _ _ _ _ _ _
    (try dsimp only)
    (try k_fold)))
  trivial
section PKit13
set_option maxRecDepth 100000
set_option maxHeartbeats 1000000
/-- v is the pair of powers and ratio -/
def LeadIn (ns : Ledger) (ks : List Int) (c : Int) (v : Value) : Prop := ∃ r x y, v = .ref r ∧ (r, tupO [x, y]) ∈ ns ∧ TupIn ns ks x ∧ RatIn ns c y
theorem LeadIn.monoT {ns ns' : Ledger} {ks : List Int} {c : Int} {v : Value} (h : LeadIn ns ks c v) (hs : SubT ns ns') : LeadIn ns' ks c v :=
  let ⟨r, x, y, e, hm, h1, h2⟩ := h; ⟨r, x, y, e, hs _ hm ⟨_, rfl⟩, h1.monoT hs, h2.monoT hs⟩
theorem LeadIn.mono {ns ns' : Ledger} {ks : List Int} {c : Int} {v : Value} (h : LeadIn ns ks c v) (hs : ∀ p ∈ ns, p ∈ ns') : LeadIn ns' ks c v := h.monoT (SubT.of hs)
section
variable {w : World} {A : Around} {E : Value → Shared → Prop} {s : Shared} {h₀ : Heap} {L : Addr} {all n1 n2 : Ledger} {a b : Addr} {ks ls : List Int} {r : Bool} {Q : Value → Shared → Prop}
theorem gt_tupS (hu : A.units < cLine) (N : News h₀ L s.heap all) (hx : TupIn n1 ks (.ref a)) (h1 : ∀ p ∈ n1, p ∈ all) (hy : TupIn n2 ls (.ref b)) (h2 : ∀ p ∈ n2, p ∈ all) (hr : lexGt ks ls = r) (h : Q (.bool r) s) :
    wpAny (model PR w) A (compareOp .Gt (.ref a) (.ref b)) Q E s :=
  gt_tup hu (hx.key fun p hp => N p (h1 p hp)) (hy.key fun p hp => N p (h2 p hp)) (by rw [hr]; exact h)
theorem ne_tupS (hu : A.units < cLine) (N : News h₀ L s.heap all) (hx : TupIn n1 ks (.ref a)) (h1 : ∀ p ∈ n1, p ∈ all) (hy : TupIn n2 ls (.ref b)) (h2 : ∀ p ∈ n2, p ∈ all) (hr : lexNe ks ls = r) (h : Q (.bool r) s) :
    wpAny (model PR w) A (compareOp .NotEq (.ref a) (.ref b)) Q E s :=
  ne_tup hu (hx.key fun p hp => N p (h1 p hp)) (hy.key fun p hp => N p (h2 p hp)) (by rw [hr]; exact h)
end
section
variable {w : World} {f : Addr} {vs : List Value} {news : Ledger} {dep : Nat} 
    {mean : ExcName → Option Value} {mg mb : Str → Option Value} {dp un : Nat} {gd : Option (List Code)} {cn : Str} {cs : Scope} {a : Addr} {ccd : Value} {cl : List (Str × Addr)} {outer : List Env} {A₀ : Around} {base h₀ : Heap} {L : Addr} {m : Str → Option Value} {s : Shared} {Q E : Value → Shared → Prop}
theorem told_lead {ks : List Int} {c : Int} (C : Told w f vs news dep (fun ns v => LeadIn ns ks c v))
    (B : Below A₀ base outer h₀) (F : Fr h₀ L s.heap m) (X : (hd.heap_1 w.params).In h₀) (N : News h₀ L s.heap news) (T : Top VW LO mean mg mb h₀) (hk : cs.kind = .function) (hdp : dp + dep < recursionLimit) (hun : un + 8 * dep < cLine)
    (ret : ∀ r x r2 us t u h' tk', Fr h₀ L h' m → News h₀ L h' ((r, tupO [.ref x, .ref r2]) :: (x, tupO us) :: (r2, tupO [.int c t, .int 1 u]) :: news) → IntsAre us ks → Q (.ref r) { s with heap := h', toks := tk' }) :
    wpAny (model PR w) (ktrTop dp un gd cn cs L a ccd cl outer) (call (.ref f) vs) Q E s :=
  told_use C B F X N T hk hdp hun fun _ _ h' tk' F' N' hr => by
    obtain ⟨r, x, y, rfl, hm, ⟨x1, us, rfl, hx, hi⟩, ⟨r2, t, u, rfl, hy⟩⟩ := hr
    refine ret r x1 r2 us t u h' tk' F' (fun p hp => ?_) hi
    rcases List.mem_cons.mp hp with rfl | hp
    · exact N' _ hm
    · rcases List.mem_cons.mp hp with rfl | hp
      · exact N' _ hx
      · rcases List.mem_cons.mp hp with rfl | hp
        · exact N' _ hy
        · exact N' p (List.mem_append_right _ hp)
theorem told_end_lead {ks : List Int} {c : Int} {h' : Heap} {tk' : Nat} {ns : Ledger} {r : Addr} {x y : Value}
    (hret : ∀ v tl h' tk', Fr h₀ L h' m → News h₀ L h' (tl ++ news) → LeadIn (tl ++ news) ks c v → Q v { s with heap := h', toks := tk' })
    (F : Fr h₀ L h' m) (N : News h₀ L h' ns) (hr : (r, tupO [x, y]) ∈ ns) (hs : ∀ p ∈ news, p ∈ ns) (hx : TupIn news ks x) (hy : RatIn news c y) : Q (.ref r) { s with heap := h', toks := tk' } :=
  hret _ [(r, tupO [x, y])] h' tk' F (fun p hp => N p ((List.mem_cons.mp hp).elim (fun e => e ▸ hr) (hs p))) ⟨r, x, y, rfl, List.mem_cons_self, hx.mono fun p hp => List.mem_cons_of_mem _ hp, hy.mono fun p hp => List.mem_cons_of_mem _ hp⟩
end
/-- the first term is the lead -/
def HeadMax (P : List (List Int × Int)) (ks : List Int) (c : Int) : Prop := ∃ R, P = (ks, c) :: R ∧ ∀ q ∈ R, lexGt q.1 ks = false
end PKit13
set_option maxRecDepth 100000
set_option maxHeartbeats 1000000

theorem lines_24 : True := by
  k_with "X:compareOp Gt ref ref" => (k_here; k_dflt (
    refine' gt_tupS ?zqhu ?zqhN ?zqhx ?zqh1 ?zqhy ?zqh2 ?zqhr ?_
    (case zqhN => k_asm)
    (case zqhx => assumption)
    (case zqh1 => walk_at "m sub")
    (case zqhy => assumption)
    (case zqh2 => walk_at "m sub")
    (case zqhu => ktr_units)
    (case zqhr => assumption)
    (try dsimp only)
    (try k_fold)))
  k_with "X:compareOp NotEq ref ref" => (k_here; k_dflt (
    refine' ne_tupS ?zqhu ?zqhN ?zqhx ?zqh1 ?zqhy ?zqh2 ?zqhr ?_
    (case zqhN => k_asm)
    (case zqhx => assumption)
    (case zqh1 => walk_at "m sub")
    (case zqhy => assumption)
    (case zqh2 => walk_at "m sub")
    (case zqhu => ktr_units)
    (case zqhr => assumption)
    (try dsimp only)
    (try k_fold)))
  k_with "X:call ref" => (k_here; (with_reducible show wpAny _ _ (call (Value.ref 152) _) _ _ _); k_dflt (
    refine' toldN_use (mvscale_ok _ _ _ _ ?zqha ?zqhz _ _ ?zqhy ?zqhc ?zqhm) ?zqk1 ?zqk2 ?zqk3 ?zqk4 ?zqk5 ?zqkK ?zqkd ?zqku ?_
    (case zqk4 => k_asm)
    (case zqha => walk_at "m poly")
    (case zqhy => walk_at "m rel")
    (case zqhz => first | assumption | omega)
    (case zqhc => first | assumption | omega)
    (case zqhm => assumption)
    walk_at "m args"
    intro _ _ _ _ _ _ _ _ _ _ _
    (try dsimp only)
    (try k_fold)))
  k_with "X:call ref" => (k_here; (with_reducible show wpAny _ _ (call (Value.ref 157) _) _ _ _); k_dflt (
    refine' toldN_use (mvshift_ok _ _ _ _ ?zqha ?zqhz _ _ ?zqht ?zqhl ?zqhs ?zqhi _ _ ?zqhy ?zqhc ?zqhm) ?zqk1 ?zqk2 ?zqk3 ?zqk4 ?zqk5 ?zqkK ?zqkd ?zqku ?_
    (case zqk4 => k_asm)
    (case zqha => walk_at "m poly")
    (case zqht => walk_at "m tup")
    (case zqhy => walk_at "m rel")
    (case zqhz => first | assumption | omega)
    (case zqhl => assumption)
    (case zqhs => first | assumption | omega)
    (case zqhi => assumption)
    (case zqhc => first | assumption | omega)
    (case zqhm => assumption)
    walk_at "m args"
    intro _ _ _ _ _ _ _ _ _ _ _
    (try dsimp only)
    (try k_fold)))
  trivial
theorem fun_best {m : Str → Option Value} {pw pl b hi kv pv bv hv : Option Value} : (fun z : Str => if z = Str.ofString "best" then b else if z = Str.ofString "highest" then hi else if z = Str.ofString "place" then pl else if z = Str.ofString "powers" then pw else if z = Str.ofString "highest" then hv else if z = Str.ofString "best" then bv else if z = Str.ofString "place" then pv else if z = Str.ofString "powers" then kv else m z) = (fun z => if z = Str.ofString "highest" then hi else if z = Str.ofString "best" then b else if z = Str.ofString "place" then pl else if z = Str.ofString "powers" then pw else m z) := by
  funext z
  by_cases h1 : z = Str.ofString "highest"
  · subst h1; rfl
  · by_cases h2 : z = Str.ofString "best"
    · subst h2; rfl
    · by_cases h3 : z = Str.ofString "place"
      · subst h3; rfl
      · by_cases h4 : z = Str.ofString "powers"
        · subst h4; rfl
        · simp only [h1, h2, h3, h4, if_false]
theorem fun_best2 {m : Str → Option Value} {pw pl kv pv bv hv : Option Value} : (fun z : Str => if z = Str.ofString "place" then pl else if z = Str.ofString "powers" then pw else if z = Str.ofString "highest" then hv else if z = Str.ofString "best" then bv else if z = Str.ofString "place" then pv else if z = Str.ofString "powers" then kv else m z) = (fun z => if z = Str.ofString "highest" then hv else if z = Str.ofString "best" then bv else if z = Str.ofString "place" then pl else if z = Str.ofString "powers" then pw else m z) := by
  funext z
  by_cases h1 : z = Str.ofString "highest"
  · subst h1; simp only [if_true]; rw [if_neg (by decide), if_neg (by decide)]
  · by_cases h2 : z = Str.ofString "best"
    · subst h2; simp only [if_true]; rw [if_neg (by decide), if_neg (by decide), if_neg (by decide)]
    · simp only [h1, h2, if_false]
      repeat' split
      all_goals first | rfl | contradiction
theorem mvlead_ok (w : World) (P : List (List Int × Int)) (x : Value) (news : Ledger) (ha : PolyIn w news P x) (hsz : P.length ≤ 10000) (k0 : List Int) (c0 : Int) (hH : HeadMax P k0 c0) (t : Tok) : Told w 164 [x, .str (Str.ofString "lex") t] news 4 (fun ns v => LeadIn ns k0 c0 v) := by
  have hnd := ha.nodup
  obtain ⟨d1, o1, rfl, lo1, ha1, PO1⟩ := ha
  have hPd : PolyIn w news P (.ref d1) := ⟨d1, o1, rfl, lo1, ha1, PO1⟩
  obtain ⟨R, hPR, hmax⟩ := hH
  unfold Told
  intro mean mg mb dp un gd cn cs a ccd cl outer A₀ base h₀ L m s Q E B F X N T hk hdp hun hret
  refine wpAny_call ?_
  k_dflt cell_enter
  k_steps
  refine for_polyM (news := news) rfl (by assumption) (News.sub (by assumption) (by walk_at "m sub")) hPd rfl rfl
    (fun mm i m₁ ns => ns = news ∧ ∃ hv bv pv kv : Option Value, m₁ = (fun z => if z = Str.ofString "highest" then hv else if z = Str.ofString "best" then bv else if z = Str.ofString "place" then pv else if z = Str.ofString "powers" then kv else mm z) ∧ (i = 0 → hv = some Value.none ∧ bv = some Value.none) ∧ (0 < i → ∃ a0, TupIn news k0 (.ref a0) ∧ hv = some (Value.ref a0) ∧ bv = some (Value.ref a0))) ?_ ?_ ?_
  · refine ⟨rfl, some Value.none, some Value.none, none, none, ?_, fun _ => ⟨rfl, rfl⟩, fun h => absurd h (Nat.lt_irrefl 0)⟩
    exact map_four (by rfl) (by rfl) (by rfl) (by rfl) fun z h1 h2 h3 h4 => by simp only [h1, h2, h3, h4, if_false]
  · rintro i ks1 c1 a1 m₁ news₁ own I h tk hPi ⟨rfl, hv, bv, pv, kv, rfl, hz, hpos⟩ hT F9 N9 off hA ho
    rcases Nat.eq_zero_or_pos i with rfl | hi
    · obtain ⟨rfl, rfl⟩ := hz rfl
      have e0 : ks1 = k0 := by rw [hPR] at hPi; simp at hPi; exact hPi.1.symm
      subst e0
      k_steps
      exact ForEnd.next (by assumption) (by assumption) _ (by walk_at "m sub") off ⟨rfl, _, _, _, _, fun_best, fun h => absurd h (Nat.succ_ne_zero _), fun _ => ⟨_, hT, rfl, rfl⟩⟩
    · obtain ⟨a0, hT0, rfl, rfl⟩ := hpos hi
      have hgt : lexGt ks1 k0 = false := by
        subst hPR
        cases i with
        | zero => exact absurd hi (Nat.lt_irrefl 0)
        | succ i => exact hmax _ (List.mem_of_getElem? (by simpa using hPi))
      k_steps
      exact ForEnd.next (by assumption) (by assumption) _ (by walk_at "m sub") off ⟨rfl, _, _, _, _, fun_best2, fun h => absurd h (Nat.succ_ne_zero _), fun _ => ⟨_, hT0, rfl, rfl⟩⟩
  · rintro h' tk m' news' F' N' ⟨rfl, hv, bv, pv, kv, rfl, _, hpos⟩
    obtain ⟨a0, hT0, rfl, rfl⟩ := hpos (by rw [hPR]; exact Nat.succ_pos _)
    have hc := coef_at (i := 0) hnd (by rw [hPR]; rfl)
    k_steps
    exact told_end_lead hret (by assumption) (by assumption) (by walk_at "m mem") (by walk_at "m sub") hT0 ⟨_, _, _, rfl, by walk_at "m mem"⟩

theorem lines_25 : True := by
  k_with "X:call ref" => (k_here; (with_reducible show wpAny _ _ (call (Value.ref 164) _) _ _ _); k_dflt (
    refine' told_lead (mvlead_ok _ _ _ _ ?zqha ?zqhz _ _ ?zqhH _) ?zqk1 ?zqk2 ?zqk3 ?zqk4 ?zqk5 ?zqkK ?zqkd ?zqku ?_
    (case zqk4 => k_asm)
    (case zqha => walk_at "m poly")
    (case zqhz => first | assumption | omega)
    (case zqhH => assumption)
    walk_at "m args"
    intro _ _ _ _ _ _ _ _ _ _ _
    (try dsimp only)
    (try k_fold)))
  trivial
section PKit14
set_option maxRecDepth 100000
set_option maxHeartbeats 1000000
open PyProof.Rows.LCg (NsObj lst ns_obj lst_snoc)
section
variable {prog : Program} {w : World} {A : Around} {E : Value → Shared → Prop} {s : Shared} {h₀ : Heap} {L : Addr} {m : Str → Option Value} {env : Env}
/-- [elt for x in l], l a list -/
theorem lc_list {elt : Expr} {x : Str} {px : Pos} {scope : Scope} {cl : List (Str × Addr)} {Q : Value → Shared → Prop} {l : Addr} {ot : Obj} {vs : List Value} {nt : Nat} {news : Ledger}
    (hh : A.handled = none) (F : Fr h₀ L s.heap m) (N : News h₀ L s.heap news) (hm : (l, ot) ∈ news) (hc : ot.cls = .type "list") (hd : ot.data = .seq vs.toArray nt) (hsz : vs.length ≤ 10000)
    (hkind : scope.kind = .function) (hx : scope.names.lookup x = some .local)
    (J : Nat → List Value → Ledger → Prop) (h0 : J 0 [] news)
    (step : ∀ (i : Nat) (v : Value) ys news₁ own C oC D mC h tk (as : List Addr) (E' : Value → Shared → Prop), vs[i]? = some v → J i ys news₁ → mC x = some v → NsObj oC mC → Fr h₀ L h m → News h₀ L h (((C, oC) :: (D, lst ys) :: own) ++ news₁) → Off as news₁ → Apart as ((C, oC) :: (D, lst ys) :: own) →
      wpAny (model prog w) A (eval elt (compEnvC scope cl C env)) (fun y => TurnEnd h₀ L m { s with heap := h, toks := tk } ((C, oC) :: (D, lst ys) :: own) as (fun news' => J (i + 1) (ys ++ [y]) news')) E' { s with heap := h, toks := tk })
    (fin : ∀ D h tk ys news', Fr h₀ L h m → News h₀ L h ((D, lst ys) :: news') → Off [D] news' → J vs.length ys news' → Q (.ref D) { s with heap := h, toks := tk }) :
    wpAny (model prog w) A (pyIter (.ref l)) (LcAt prog w A h₀ L m env (.Name x px) elt scope cl Q) E s := by
  have hax := N _ hm
  have hT : s.heap.IsList l vs.toArray := ⟨ot, hax.1, hc, nt, hd⟩
  have hlt : l < s.heap.objs.size := Heap.lt_size hax.1
  have hLs : L < s.heap.objs.size := F.ns.lt
  refine wpAny_pyIter_list hT ?_
  have keep : ∀ b o', s.heap.get? b = some o' → (s.heap.push { cls := .type "list_iterator", data := .fields #[.ref l, .int 0 0] }).get? b = some o' := fun b o' e => Heap.get?_push_of_some _ e
  refine ⟨s.heap.objs.size, [s.heap.objs.size, l], [s.heap.objs.size], vs.toArray.size, _, _, _, news, fun i mC => ∃ v, vs[i]? = some v ∧ mC x = some v, J, rfl,
    KTurns.ofWalks (Walks.list hh s.heap.objs.size l (Nat.ne_of_lt hlt) vs.toArray) (fun i v s' Q E _ h => wpAny_pure h), fun s Q E st hQ => wpAny_pyIter_listiter st.1 hQ, ?_, ⟨⟨_, Heap.get?_push_size _ rfl, rfl, rfl⟩, hT.at fun o e => keep l o e⟩, ?_, F.keeps keep, N.grown keep, ?_, ?_, ?_, ?_, h0, ?_, fun D h tk ys news' a b c d => fin D h tk ys news' a b c (by simpa using d)⟩
  · rw [List.size_toArray, sizeLine_eq]; omega
  · intro b hb
    simp only [List.mem_cons, List.not_mem_nil, or_false] at hb
    rw [Heap.size_push]
    rcases hb with rfl | rfl
    · exact Nat.lt_succ_self _
    · exact Nat.lt_succ_of_lt hlt
  · intro hL
    simp only [List.mem_cons, List.not_mem_nil, or_false] at hL
    rcases hL with hL | hL
    · exact Nat.ne_of_lt hLs hL
    · exact (N _ hm).2.1 hL.symm
  · intro b hb
    rw [List.mem_singleton] at hb
    subst hb
    exact fresh_above F (Nat.le_refl _)
  · intro p hp hb
    rw [List.mem_singleton] at hb
    exact Nat.ne_of_lt (Heap.lt_size (N p hp).1) hb
  · intro i v C h tk mC Q' E' hP hn hQ
    refine wpAny_assign_Name (wpAny_storeName_local (lookup_relabel_local hx) hn (fun h' hn' hs' => ?_) (by simp [compEnvC, relabel, hkind]))
    exact hQ h' _ _ ⟨v, by simpa using hP, by simp⟩ hn' fun c o hc e => hs'.extBut c o hc e
  · rintro i ys news₁ own C oC D mC h tk E' hi hJ ⟨v, hv, hmx⟩ hoC F' N' off hA
    refine step i v ys news₁ own C oC D mC h tk _ E' hv hJ hmx hoC F' N' off (hA ?_)
    intro i h st b hb
    rw [List.mem_singleton] at hb
    subst hb
    obtain ⟨o, e, hc, _⟩ := st.1
    exact ⟨o, e, NT.type hc (by decide)⟩
end
/-- the values are tuples that open with these powers -/
inductive HeadsIn (ns : Ledger) : List Value → List (List Int) → Prop
  | nil : HeadsIn ns [] []
  | cons {r : Addr} {x y : Value} {ks : List Int} {vs : List Value} {Ls : List (List Int)} : (r, tupO [x, y]) ∈ ns → TupIn ns ks x → HeadsIn ns vs Ls → HeadsIn ns (.ref r :: vs) (ks :: Ls)
theorem HeadsIn.length {ns : Ledger} : ∀ {vs : List Value} {Ls : List (List Int)}, HeadsIn ns vs Ls → vs.length = Ls.length
  | _, _, .nil => rfl
  | _, _, .cons _ _ h => by simp [h.length]
theorem HeadsIn.mono {ns ns' : Ledger} (hs : ∀ p ∈ ns, p ∈ ns') : ∀ {vs : List Value} {Ls : List (List Int)}, HeadsIn ns vs Ls → HeadsIn ns' vs Ls
  | _, _, .nil => .nil
  | _, _, .cons h1 h2 h3 => .cons (hs _ h1) (h2.mono hs) (h3.mono hs)
theorem HeadsIn.get {ns : Ledger} : ∀ {vs : List Value} {Ls : List (List Int)} {i : Nat} {v : Value}, HeadsIn ns vs Ls → vs[i]? = some v → ∃ r x y ks, v = .ref r ∧ (r, tupO [x, y]) ∈ ns ∧ TupIn ns ks x ∧ Ls[i]? = some ks
  | _, _, i, v, .nil, h => by simp at h
  | _, _, 0, v, .cons h1 h2 _, h => by simp only [List.getElem?_cons_zero, Option.some.injEq] at h; subst h; exact ⟨_, _, _, _, rfl, h1, h2, rfl⟩
  | _, _, i + 1, v, .cons _ _ h3, h => by simp only [List.getElem?_cons_succ] at h ⊢; exact h3.get h
/-- the first that divides -/
def firstDiv : List (List Int) → List Int → Int
  | [], _ => -1
  | l :: Ls, ks => if divB l ks then 0 else (if firstDiv Ls ks < 0 then -1 else firstDiv Ls ks + 1)
theorem firstDiv_none {Ls : List (List Int)} {ks : List Int} (h : ∀ l ∈ Ls, divB l ks = false) : firstDiv Ls ks = -1 := by
  induction Ls with
  | nil => rfl
  | cons l Ls ih =>
    unfold firstDiv
    rw [h l List.mem_cons_self, ih fun l hl => h l (List.mem_cons_of_mem _ hl)]
    rfl
theorem firstDiv_some {Ls : List (List Int)} {ks : List Int} : ∀ {i : Nat} {l : List Int}, (∀ j < i, ∀ l', Ls[j]? = some l' → divB l' ks = false) → Ls[i]? = some l → divB l ks = true → firstDiv Ls ks = i := by
  induction Ls with
  | nil => intro i l _ h; simp at h
  | cons l0 Ls ih =>
    intro i l hall hi hd
    unfold firstDiv
    cases i with
    | zero =>
      simp only [List.getElem?_cons_zero, Option.some.injEq] at hi
      subst hi
      rw [hd]; rfl
    | succ i =>
      simp only [List.getElem?_cons_succ] at hi
      have h0 := hall 0 (Nat.succ_pos _) l0 rfl
      have e := ih (fun j hj l' hl' => hall (j + 1) (Nat.succ_lt_succ hj) l' (by simpa using hl')) hi hd
      rw [h0, e]
      simp only [Bool.false_eq_true, if_false]
      rw [if_neg (by omega)]
      omega
theorem allTup_cons (r : Addr) (vs : List Value) {tl : Ledger} (h : AllTup tl) : AllTup ((r, tupO vs) :: tl) := fun p hp => by
  rcases List.mem_cons.mp hp with rfl | hp
  · exact ⟨vs, rfl⟩
  · exact h p hp
section
variable {w : World} {news : Ledger} {P : List (List Int × Int)} {h₀ : Heap} {L : Addr} {m : Str → Option Value} {s : Shared} {Q : Value → Shared → Prop}
theorem told_endN3 {tl9 ext : Ledger} {d2 : Addr} {o2 : Obj} {h' : Heap} {tk' : Nat}
    (hret : ∀ d o tl h' tk', Fr h₀ L h' m → News h₀ L h' ((d, o) :: (tl ++ news)) → (∀ p ∈ news, p.1 ≠ d) → (d == sysModules) = false → AllTup tl → PolyObj w (tl ++ news) o P → Q (.ref d) { s with heap := h', toks := tk' })
    (F : Fr h₀ L h' m) (N : News h₀ L h' ((d2, o2) :: (tl9 ++ (ext ++ news)))) (he : AllTup ext) (hd : ∀ p ∈ ext ++ news, p.1 ≠ d2) (lo : (d2 == sysModules) = false) (h2 : AllTup tl9) (hr : PolyObj w (tl9 ++ (ext ++ news)) o2 P) : Q (.ref d2) { s with heap := h', toks := tk' } :=
  hret d2 o2 (tl9 ++ ext) h' tk' F (by rw [List.append_assoc]; exact N) (fun p hp => hd p (List.mem_append_right _ hp)) lo (allTup_app h2 he) (by rw [List.append_assoc]; exact hr)
end
end PKit14
set_option maxRecDepth 100000
set_option maxHeartbeats 1000000

theorem mvmonic_ok (w : World) (P : List (List Int × Int)) (x : Value) (news : Ledger) (ha : PolyIn w news P x) (hsz : P.length ≤ 10000) (k0 : List Int) (hH : HeadMax P k0 1) (hm : ∀ q ∈ P, IntMulOk q.2 1) (t : Tok) : ToldN w 171 [x, .str (Str.ofString "lex") t] news 7 (P.map fun q => (q.1, q.2 * 1)) := by
  have hnd := ha.nodup
  obtain ⟨d1, o1, rfl, lo1, ha1, PO1⟩ := ha
  have hPd : PolyIn w news P (.ref d1) := ⟨d1, o1, rfl, lo1, ha1, PO1⟩
  unfold ToldN
  intro mean mg mb dp un gd cn cs a ccd cl outer A₀ base h₀ L m s Q E B F X N T hk hdp hun hret
  refine wpAny_call ?_
  k_dflt cell_enter
  k_steps
  exact told_endN3 (ext := [(_, tupO _), (_, tupO _), (_, tupO _), (_, tupO _)]) hret (by assumption) (by assumption) (by repeat (first | exact allTup_nil | refine allTup_cons _ _ ?_)) (by assumption) (by assumption) (by assumption) (by assumption)
theorem lines_26 : True := by
  k_with "X:call ref" => (k_here; (with_reducible show wpAny _ _ (call (Value.ref 171) _) _ _ _); k_dflt (
    refine' toldN_use (mvmonic_ok _ _ _ _ ?zqha ?zqhz _ ?zqhH ?zqhm _) ?zqk1 ?zqk2 ?zqk3 ?zqk4 ?zqk5 ?zqkK ?zqkd ?zqku ?_
    (case zqk4 => k_asm)
    (case zqha => walk_at "m poly")
    (case zqhz => first | assumption | omega)
    (case zqhH => assumption)
    (case zqhm => assumption)
    walk_at "m args"
    intro _ _ _ _ _ _ _ _ _ _ _
    (try dsimp only)
    (try k_fold)))
  trivial
theorem pdiv_okB (w : World) (ks ls : List Int) (x y : Value) (news : Ledger) (ha : TupIn news ks x) (hb : TupIn news ls y) (hlen : ks.length = ls.length) (hsz : ks.length ≤ 1000) (b : Bool) (hd : divB ks ls = b) : Told w 51 [x, y] news 2 (fun _ v => v = .bool b) := by
  subst hd; exact pdiv_ok w ks ls x y news ha hb hlen hsz
theorem lines_27 : True := by
  k_with "X:call ref" => (k_here; (with_reducible show wpAny _ _ (call (Value.ref 51) _) _ _ _); k_dflt (
    refine' told_val (pdiv_okB _ _ _ _ _ _ ?zqha ?zqhb ?zqhl ?zqhz _ ?zqhd) ?zqk1 ?zqk2 ?zqk3 ?zqk4 ?zqk5 ?zqkK ?zqkd ?zqku ?_
    (case zqk4 => k_asm)
    (case zqha => walk_at "m tup")
    (case zqhb => walk_at "m tup")
    (case zqhl => first | assumption | omega)
    (case zqhz => first | assumption | omega)
    (case zqhd => assumption)
    walk_at "m args"
    intro _ _ _ _
    (try dsimp only)
    (try k_fold)))
  trivial
section
theorem lines_28 : True := by
  k_with "X:exec For Tuple Name cons nil" => (k_here; (with_unfolding_all refine' For_turns (by assumption) ?_); k_whole)
  k_with "X:exec For Tuple Call cons nil" => (k_here; (with_unfolding_all refine' For_turns (by assumption) ?_); k_whole)
  trivial
theorem first_divisor_ok (w : World) (Ls : List (List Int)) (ks : List Int) (x : Value) (l : Addr) (ot : Obj) (vs : List Value) (nt : Nat) (news : Ledger) (hx : TupIn news ks x) (hl : (l, ot) ∈ news) (hcl : ot.cls = .type "list") (hdl : ot.data = .seq vs.toArray nt) (hv : HeadsIn news vs Ls) (hlen : ∀ q ∈ Ls, q.length = ks.length) (hsz : ks.length ≤ 1000) :
    Told w 178 [x, .ref l] news 4 (fun _ v => IsInt (firstDiv Ls ks) v) := by
  have hxk := hx
  obtain ⟨x1, xs, rfl, hx, hxs⟩ := hx
  unfold Told
  intro mean mg mb dp un gd cn cs a ccd cl outer A₀ base h₀ L m s Q E B F X N T hk hdp hun hret
  refine wpAny_call ?_
  k_dflt cell_enter
  k_steps
  refine for_enum_list (news := news) rfl (by assumption) (News.sub (by assumption) (by walk_at "m sub")) hl hcl hdl rfl rfl rfl (fun i => ∀ j < i, ∀ q, Ls[j]? = some q → divB q ks = false) (fun j hj => absurd hj (Nat.not_lt_zero j)) ?_ ?_
  · intro i tk₀ v own h tk hvi hJ F9 N9
    obtain ⟨r1, y1, z1, k1, rfl, hr1, hy1, hL1⟩ := hv.get hvi
    have hy1k := hy1
    obtain ⟨y2, ys, rfl, hy1, hys⟩ := hy1
    have hl1 := hlen _ (List.mem_of_getElem? hL1)
    have hl2 : k1.length ≤ 1000 := by omega
    rcases hdv : divB k1 ks with _ | _
    · k_steps
      exact PureEnd.intro (by assumption) (by assumption) (by walk_at "m sub") (fun j hj q hq => by
        rcases Nat.lt_or_ge j i with h | h
        · exact hJ j h q hq
        · obtain rfl : j = i := by omega
          rw [hL1] at hq; cases hq; exact hdv)
    · have he := firstDiv_some hJ hL1 hdv
      rw [he] at hret
      k_steps
      exact told_end_int hret (by assumption) (by assumption) (by walk_at "m sub")
  · intro h' tk u v F9 N9 hJ
    have he : firstDiv Ls ks = -1 := firstDiv_none fun q hq => by
      obtain ⟨j, hj⟩ := List.getElem?_of_mem hq
      exact hJ j (by have := (List.getElem?_eq_some_iff.mp hj).1; rw [hv.length]; exact this) q hj
    rw [he] at hret
    k_steps
    exact told_end_int hret (by assumption) (by assumption) (by walk_at "m sub")
end

theorem lines_29 : True := by
  k_with_none
  k_with "X:m sub" => (intro p hp; (repeat (first | exact hp | refine List.Mem.tail _ ?_ | refine List.mem_append_right _ ?_)))
  k_with "X:m mem" => (repeat (first | assumption | exact List.Mem.head _ | refine List.Mem.tail _ ?_ | refine List.mem_append_right _ ?_))
  k_with "X:m rel" => first | assumption | exact RatIn.mono (by assumption) (by walk_at "m sub") | exact ⟨_, _, _, rfl, by walk_at "m mem"⟩
  k_with "X:m args" => (
    (case zqk1 => k_asm)
    (case zqk2 => k_asm)
    (case zqk3 => k_asm)
    (case zqk5 => k_asm)
    (case zqkK => first | exact rfl | assumption)
    (case zqkd => ktr_room)
    (case zqku => ktr_units))
  k_with "X:m tup" => first | assumption | exact TupIn.mono (by assumption) (by walk_at "m sub") | exact ⟨_, _, rfl, by walk_at "m mem", by assumption⟩
  k_with "X:compareOp Eq ref ref" => (k_here; (with_reducible show wpAny _ _ (compareOp _ (Value.ref _) (Value.ref 71)) _ _ _); k_dflt (
    refine' eq_r0 ?zqhu ?zqhF ?zqhN ?zqhX ?zqhx ?zqhb ?_
    (case zqhN => k_asm)
    (case zqhx => walk_at "m rel")
    (case zqhu => ktr_units)
    (case zqhF => k_asm)
    (case zqhX => k_asm)
    (case zqhb => first | exact decide_eq_false (by assumption) | exact decide_eq_true (by assumption) | rfl)
    (try dsimp only)
    (try k_fold)))
  k_with "X:compareOp In ref ref" => (k_here; k_dflt (
    refine' in_polyB ?zqhu ?zqhN ?zqhd ?zqhk ?zqhc ?_
    (case zqhN => k_asm)
    (case zqhd => walk_at "m poly")
    (case zqhk => walk_at "m tup")
    (case zqhu => ktr_units)
    (case zqhc => assumption)
    (try simp only [Option.isSome_some, Option.isSome_none])
    (try k_fold)))
  k_with "X:subscriptTail" => (k_here; (with_reducible show wpAny _ _ (subscriptTail _ _ (Value.ref _) (Value.ref _)) _ _ _); k_dflt (
    refine' get_polyS ?zqhu ?zqhN ?zqhd ?zqhs1 ?zqhk ?zqhs2 ?zqhc ?_ (by rfl) (by intro _; rfl)
    (case zqhN => k_asm)
    (case zqhd => assumption)
    (case zqhs1 => walk_at "m sub")
    (case zqhk => assumption)
    (case zqhs2 => walk_at "m sub")
    (case zqhu => ktr_units)
    (case zqhc => assumption)
    intro _ _ _ _
    (try dsimp only)
    (try k_fold)))
  k_with "X:getMethod ref" => (k_here; (with_reducible show wpAny _ _ (getMethod (Value.ref _) (PySem.Str.ofString "pop") _) _ _ _); k_dflt (
    refine' pop_method ?zqhN ?zqhd ?_
    (case zqhN => k_asm)
    (case zqhd => walk_at "m poly")
    (try k_fold)))
  k_with "X:call builtin:dict.pop" => fail "by hand"
  k_with "X:eval DictComp" => (k_here; k_dflt (refine dc_eval (by k_asm) (by with_unfolding_all rfl) (by decide) (by rfl) (by decide) (by rfl) ?_))
  k_with "X:call ref" => (k_here; (with_reducible show wpAny _ _ (call (Value.ref 63) _) _ _ _); k_dflt (
    refine' told_int (gcd_ok _ _ _ _ _) ?zqk1 ?zqk2 ?zqk3 ?zqk4 ?zqk5 ?zqkK ?zqkd ?zqku ?_
    (case zqk4 => k_asm)
    walk_at "m args"
    intro _ _ _ _ _
    (try dsimp only)
    (try k_fold)))
  k_with "X:call ref" => (k_here; (with_reducible show wpAny _ _ (call (Value.ref 79) _) _ _ _); k_dflt (
    refine' told_rat (rat_ok _ _ _ ?zqh0 _ _ _) ?zqk1 ?zqk2 ?zqk3 ?zqk4 ?zqk5 ?zqkK ?zqkd ?zqku ?_
    (case zqk4 => k_asm)
    (case zqh0 => (first | rfl | simp))
    walk_at "m args"
    intro _ _ _ _ _ _ _
    (try dsimp only)
    (try k_fold)))
  k_with "X:call ref" => (k_here; (with_reducible show wpAny _ _ (call (Value.ref 86) _) _ _ _); k_dflt (
    refine' told_rat (radd_ok _ _ _ _ _ _ ?zqha ?zqhb) ?zqk1 ?zqk2 ?zqk3 ?zqk4 ?zqk5 ?zqkK ?zqkd ?zqku ?_
    (case zqk4 => k_asm)
    (case zqha => walk_at "m rel")
    (case zqhb => walk_at "m rel")
    walk_at "m args"
    intro _ _ _ _ _ _ _
    (try dsimp only)
    (try k_fold)))
  k_with "X:call ref" => (k_here; (with_reducible show wpAny _ _ (call (Value.ref 93) _) _ _ _); k_dflt (
    refine' told_rat (rmul_ok _ _ _ _ _ _ ?zqha ?zqhb ?zqhm) ?zqk1 ?zqk2 ?zqk3 ?zqk4 ?zqk5 ?zqkK ?zqkd ?zqku ?_
    (case zqk4 => k_asm)
    (case zqha => walk_at "m rel")
    (case zqhb => walk_at "m rel")
    (case zqhm => first | assumption | mul_fits)
    walk_at "m args"
    intro _ _ _ _ _ _ _
    (try dsimp only)
    (try k_fold)))
  k_with "X:call ref" => (k_here; (with_reducible show wpAny _ _ (call (Value.ref 100) _) _ _ _); k_dflt (
    refine' told_rat (rdiv_ok _ _ _ _ _ ?zqha ?zqhb) ?zqk1 ?zqk2 ?zqk3 ?zqk4 ?zqk5 ?zqkK ?zqkd ?zqku ?_
    (case zqk4 => k_asm)
    (case zqha => walk_at "m rel")
    (case zqhb => walk_at "m rel")
    walk_at "m args"
    intro _ _ _ _ _ _ _
    (try dsimp only)
    (try k_fold)))
  k_with "X:call ref" => (k_here; (with_reducible show wpAny _ _ (call (Value.ref 107) _) _ _ _); k_dflt (
    refine' told_rat (rneg_ok _ _ _ _ ?zqha) ?zqk1 ?zqk2 ?zqk3 ?zqk4 ?zqk5 ?zqkK ?zqkd ?zqku ?_
    (case zqk4 => k_asm)
    (case zqha => walk_at "m rel")
    walk_at "m args"
    intro _ _ _ _ _ _ _
    (try dsimp only)
    (try k_fold)))
  k_with "X:call ref" => (k_here; (with_reducible show wpAny _ _ (call (Value.ref 114) _) _ _ _); k_dflt (
    refine' told_rat (rinv_ok _ _ _ ?zqha) ?zqk1 ?zqk2 ?zqk3 ?zqk4 ?zqk5 ?zqkK ?zqkd ?zqku ?_
    (case zqk4 => k_asm)
    (case zqha => walk_at "m rel")
    walk_at "m args"
    intro _ _ _ _ _ _ _
    (try dsimp only)
    (try k_fold)))
  k_with "X:call ref" => (k_here; (with_reducible show wpAny _ _ (call (Value.ref 121) _) _ _ _); k_dflt (
    refine' told_val (is_vast_ok _ _ _ _ ?zqha ?zqhb ?zqhc) ?zqk1 ?zqk2 ?zqk3 ?zqk4 ?zqk5 ?zqkK ?zqkd ?zqku ?_
    (case zqk4 => k_asm)
    (case zqha => walk_at "m rel")
    (case zqhb => first | assumption | omega)
    (case zqhc => first | assumption | omega)
    walk_at "m args"
    intro _ _ _ _
    (try dsimp only)
    (try k_fold)))
  k_with "X:call ref" => (k_here; (with_reducible show wpAny _ _ (call (Value.ref 39) _) _ _ _); k_dflt (
    refine' told_val (order_key_ok _ _ _ _) ?zqk1 ?zqk2 ?zqk3 ?zqk4 ?zqk5 ?zqkK ?zqkd ?zqku ?_
    (case zqk4 => k_asm)
    walk_at "m args"
    intro _ _ _ _
    (try dsimp only)
    (try k_fold)))
  k_with "X:call ref" => (k_here; (with_reducible show wpAny _ _ (call (Value.ref 44) _) _ _ _); k_dflt (
    refine' told_tup (pprod_ok _ _ _ _ _ _ ?zqha ?zqhb ?zqhl ?zqhz) ?zqk1 ?zqk2 ?zqk3 ?zqk4 ?zqk5 ?zqkK ?zqkd ?zqku ?_
    (case zqk4 => k_asm)
    (case zqha => walk_at "m tup")
    (case zqhb => walk_at "m tup")
    (case zqhl => first | assumption | omega)
    (case zqhz => first | assumption | omega)
    walk_at "m args"
    intro _ _ _ _ _ _ _
    (try dsimp only)
    (try k_fold)))
  k_with "X:call ref" => (k_here; (with_reducible show wpAny _ _ (call (Value.ref 56) _) _ _ _); k_dflt (
    refine' told_tup (pquot_ok _ _ _ _ _ _ ?zqha ?zqhb ?zqhl ?zqhz) ?zqk1 ?zqk2 ?zqk3 ?zqk4 ?zqk5 ?zqkK ?zqkd ?zqku ?_
    (case zqk4 => k_asm)
    (case zqha => walk_at "m tup")
    (case zqhb => walk_at "m tup")
    (case zqhl => first | assumption | omega)
    (case zqhz => first | assumption | omega)
    walk_at "m args"
    intro _ _ _ _ _ _ _
    (try dsimp only)
    (try k_fold)))
  k_with "X:call ref" => (k_here; (with_reducible show wpAny _ _ (call (Value.ref 51) _) _ _ _); k_dflt (
    refine' told_val (pdiv_ok _ _ _ _ _ _ ?zqha ?zqhb ?zqhl ?zqhz) ?zqk1 ?zqk2 ?zqk3 ?zqk4 ?zqk5 ?zqkK ?zqkd ?zqku ?_
    (case zqk4 => k_asm)
    (case zqha => walk_at "m tup")
    (case zqhb => walk_at "m tup")
    (case zqhl => first | assumption | omega)
    (case zqhz => first | assumption | omega)
    walk_at "m args"
    intro _ _ _ _
    (try dsimp only)
    (try k_fold)))
  k_with "X:call type:dict" => (k_here; (with_reducible show wpAny _ _ (call (Value.type "dict") [Value.ref _]) _ _ _); k_dflt (
    refine' copy_poly ?zqhF ?zqhN ?zqhB ?zqhd ?zqhP ?zqhH ?zqhz ?_
    (case zqhF => k_asm)
    (case zqhN => k_asm)
    (case zqhd => walk_at "m poly")
    (case zqhB => exact big_of (by k_asm))
    (case zqhP => assumption)
    (case zqhH => assumption)
    (case zqhz => first | assumption | omega)
    intro _ _ _ _ _ _ _ _
    (try dsimp only)
    (try k_fold)))
  k_with "X:exec For Name Name cons nil" => (k_here; (with_unfolding_all refine' For_turns (by assumption) ?_); k_whole)
  k_with "X:call ref" => (k_here; (with_reducible show wpAny _ _ (call (Value.ref 135) _) _ _ _); k_dflt (
    refine' toldM_use (addterm_ok _ _ _ _ _ _ _ _ _ ?zqlo ?zqhne ?zqPO ?zqhx ?zqhy ?zqhc ?zqhz) ?zqk1 ?zqk2 ?zqk3 ?zqk4 ?zqhf ?zqk5 ?zqkK ?zqkd ?zqku ?_
    (case zqk4 => assumption)
    (case zqlo => assumption)
    (case zqhne => assumption)
    (case zqhf => assumption)
    (case zqPO => assumption)
    (case zqhx => walk_at "m tup")
    (case zqhy => walk_at "m rel")
    (case zqhc => assumption)
    (case zqhz => first | assumption | omega)
    walk_at "m args"
    intro _ _ _ _ _ _ _ _
    (try dsimp only)
    (try k_fold)))
  k_with "X:m poly" => first | assumption | exact PolyIn.mono (by assumption) (by walk_at "m sub") | exact ⟨_, _, rfl, by assumption, by walk_at "m mem", PolyObj.mono (by assumption) (by walk_at "m sub")⟩
  k_with "X:call ref" => (k_here; (with_reducible show wpAny _ _ (call (Value.ref 140) _) _ _ _); k_dflt (
    refine' toldN_use (mvneg_ok _ _ _ _ ?zqha ?zqhz) ?zqk1 ?zqk2 ?zqk3 ?zqk4 ?zqk5 ?zqkK ?zqkd ?zqku ?_
    (case zqk4 => k_asm)
    (case zqha => walk_at "m poly")
    (case zqhz => first | assumption | omega)
    walk_at "m args"
    intro _ _ _ _ _ _ _ _ _ _ _
    (try dsimp only)
    (try k_fold)))
  k_with "X:call ref" => (k_here; (with_reducible show wpAny _ _ (call (Value.ref 128) _) _ _ _); k_dflt (
    refine' toldN_use (mvadd_ok _ _ _ _ _ _ ?zqha ?zqhb ?zqhn ?zqhH ?zqhc ?zqhz) ?zqk1 ?zqk2 ?zqk3 ?zqk4 ?zqk5 ?zqkK ?zqkd ?zqku ?_
    (case zqk4 => k_asm)
    (case zqha => walk_at "m poly")
    (case zqhb => walk_at "m poly")
    (case zqhn => assumption)
    (case zqhH => assumption)
    (case zqhc => assumption)
    (case zqhz => first | assumption | omega)
    walk_at "m args"
    intro _ _ _ _ _ _ _ _ _ _ _
    (try dsimp only)
    (try k_fold)))
  k_with "X:call ref" => (k_here; (with_reducible show wpAny _ _ (call (Value.ref 147) _) _ _ _); k_dflt (
    refine' toldN_use (mvsub_ok _ _ _ _ _ _ ?zqha ?zqhb ?zqhn ?zqhH ?zqhc ?zqhz) ?zqk1 ?zqk2 ?zqk3 ?zqk4 ?zqk5 ?zqkK ?zqkd ?zqku ?_
    (case zqk4 => k_asm)
    (case zqha => walk_at "m poly")
    (case zqhb => walk_at "m poly")
    (case zqhn => assumption)
    (case zqhH => assumption)
    (case zqhc => assumption)
    (case zqhz => first | assumption | omega)
    walk_at "m args"
    intro _ _ _ _ _ _ _ _ _ _ _
    (try dsimp only)
    (try k_fold)))
  k_with "X:compareOp Gt ref ref" => (k_here; k_dflt (
    refine' gt_tupS ?zqhu ?zqhN ?zqhx ?zqh1 ?zqhy ?zqh2 ?zqhr ?_
    (case zqhN => k_asm)
    (case zqhx => assumption)
    (case zqh1 => walk_at "m sub")
    (case zqhy => assumption)
    (case zqh2 => walk_at "m sub")
    (case zqhu => ktr_units)
    (case zqhr => assumption)
    (try dsimp only)
    (try k_fold)))
  k_with "X:compareOp NotEq ref ref" => (k_here; k_dflt (
    refine' ne_tupS ?zqhu ?zqhN ?zqhx ?zqh1 ?zqhy ?zqh2 ?zqhr ?_
    (case zqhN => k_asm)
    (case zqhx => assumption)
    (case zqh1 => walk_at "m sub")
    (case zqhy => assumption)
    (case zqh2 => walk_at "m sub")
    (case zqhu => ktr_units)
    (case zqhr => assumption)
    (try dsimp only)
    (try k_fold)))
  k_with "X:call ref" => (k_here; (with_reducible show wpAny _ _ (call (Value.ref 152) _) _ _ _); k_dflt (
    refine' toldN_use (mvscale_ok _ _ _ _ ?zqha ?zqhz _ _ ?zqhy ?zqhc ?zqhm) ?zqk1 ?zqk2 ?zqk3 ?zqk4 ?zqk5 ?zqkK ?zqkd ?zqku ?_
    (case zqk4 => k_asm)
    (case zqha => walk_at "m poly")
    (case zqhy => walk_at "m rel")
    (case zqhz => first | assumption | omega)
    (case zqhc => first | assumption | omega)
    (case zqhm => assumption)
    walk_at "m args"
    intro _ _ _ _ _ _ _ _ _ _ _
    (try dsimp only)
    (try k_fold)))
  k_with "X:call ref" => (k_here; (with_reducible show wpAny _ _ (call (Value.ref 157) _) _ _ _); k_dflt (
    refine' toldN_use (mvshift_ok _ _ _ _ ?zqha ?zqhz _ _ ?zqht ?zqhl ?zqhs ?zqhi _ _ ?zqhy ?zqhc ?zqhm) ?zqk1 ?zqk2 ?zqk3 ?zqk4 ?zqk5 ?zqkK ?zqkd ?zqku ?_
    (case zqk4 => k_asm)
    (case zqha => walk_at "m poly")
    (case zqht => walk_at "m tup")
    (case zqhy => walk_at "m rel")
    (case zqhz => first | assumption | omega)
    (case zqhl => assumption)
    (case zqhs => first | assumption | omega)
    (case zqhi => assumption)
    (case zqhc => first | assumption | omega)
    (case zqhm => assumption)
    walk_at "m args"
    intro _ _ _ _ _ _ _ _ _ _ _
    (try dsimp only)
    (try k_fold)))
  k_with "X:call ref" => (k_here; (with_reducible show wpAny _ _ (call (Value.ref 164) _) _ _ _); k_dflt (
    refine' told_lead (mvlead_ok _ _ _ _ ?zqha ?zqhz _ _ ?zqhH _) ?zqk1 ?zqk2 ?zqk3 ?zqk4 ?zqk5 ?zqkK ?zqkd ?zqku ?_
    (case zqk4 => k_asm)
    (case zqha => walk_at "m poly")
    (case zqhz => first | assumption | omega)
    (case zqhH => assumption)
    walk_at "m args"
    intro _ _ _ _ _ _ _ _ _ _ _
    (try dsimp only)
    (try k_fold)))
  k_with "X:call ref" => (k_here; (with_reducible show wpAny _ _ (call (Value.ref 171) _) _ _ _); k_dflt (
    refine' toldN_use (mvmonic_ok _ _ _ _ ?zqha ?zqhz _ ?zqhH ?zqhm _) ?zqk1 ?zqk2 ?zqk3 ?zqk4 ?zqk5 ?zqkK ?zqkd ?zqku ?_
    (case zqk4 => k_asm)
    (case zqha => walk_at "m poly")
    (case zqhz => first | assumption | omega)
    (case zqhH => assumption)
    (case zqhm => assumption)
    walk_at "m args"
    intro _ _ _ _ _ _ _ _ _ _ _
    (try dsimp only)
    (try k_fold)))
  k_with "X:exec For Tuple Name cons nil" => (k_here; (with_unfolding_all refine' For_turns (by assumption) ?_); k_whole)
  k_with "X:exec For Tuple Call cons nil" => (k_here; (with_unfolding_all refine' For_turns (by assumption) ?_); k_whole)
  trivial
section PKit15
set_option maxRecDepth 100000
set_option maxHeartbeats 1000000
open PyProof.Rows.LCg (NsObj lst ns_obj lst_snoc)
theorem HeadsIn.snoc {ns : Ledger} {r : Addr} {x y : Value} {ks : List Int} (h1 : (r, tupO [x, y]) ∈ ns) (h2 : TupIn ns ks x) : ∀ {vs : List Value} {Ls : List (List Int)}, HeadsIn ns vs Ls → HeadsIn ns (vs ++ [.ref r]) (Ls ++ [ks])
  | _, _, .nil => .cons h1 h2 .nil
  | _, _, .cons g1 g2 g3 => .cons g1 g2 (g3.snoc h1 h2)
/-- the values are tuples of ints -/
inductive TupsIn (ns : Ledger) : List Value → List (List Int) → Prop
  | nil : TupsIn ns [] []
  | cons {x : Value} {ks : List Int} {vs : List Value} {Ls : List (List Int)} : TupIn ns ks x → TupsIn ns vs Ls → TupsIn ns (x :: vs) (ks :: Ls)
theorem TupsIn.length {ns : Ledger} : ∀ {vs : List Value} {Ls : List (List Int)}, TupsIn ns vs Ls → vs.length = Ls.length
  | _, _, .nil => rfl
  | _, _, .cons _ h => by simp [h.length]
theorem TupsIn.get {ns : Ledger} : ∀ {vs : List Value} {Ls : List (List Int)} {i : Nat} {v : Value}, TupsIn ns vs Ls → vs[i]? = some v → ∃ ks, Ls[i]? = some ks ∧ TupIn ns ks v
  | _, _, i, v, .nil, h => by simp at h
  | _, _, 0, v, .cons h1 _, h => by simp only [List.getElem?_cons_zero, Option.some.injEq] at h; subst h; exact ⟨_, rfl, h1⟩
  | _, _, i + 1, v, .cons _ h3, h => by simp only [List.getElem?_cons_succ] at h ⊢; exact h3.get h
theorem TupsIn.mono {ns ns' : Ledger} (hs : ∀ p ∈ ns, p ∈ ns') : ∀ {vs : List Value} {Ls : List (List Int)}, TupsIn ns vs Ls → TupsIn ns' vs Ls
  | _, _, .nil => .nil
  | _, _, .cons h2 h3 => .cons (h2.mono hs) (h3.mono hs)
theorem TupsIn.snoc {ns : Ledger} {x : Value} {ks : List Int} (h2 : TupIn ns ks x) : ∀ {vs : List Value} {Ls : List (List Int)}, TupsIn ns vs Ls → TupsIn ns (vs ++ [x]) (Ls ++ [ks])
  | _, _, .nil => .cons h2 .nil
  | _, _, .cons g2 g3 => .cons g2 (g3.snoc h2)
theorem take_snoc' {α : Type} {l : List α} {i : Nat} {x : α} (h : l[i]? = some x) : l.take (i + 1) = l.take i ++ [x] := by
  rw [List.take_add_one, h]; rfl
section
variable {h₀ : Heap} {L : Addr} {m : Str → Option Value} {s₁ : Shared}
/-- the end of a turn that has made tuples -/
theorem turnTup {fix ns tl all : Ledger} {as : List Addr} {rest : Ledger → Prop} {h' : Heap} {tk : Nat} (off : Off as ns) (hA : Apart as fix) (ht : AllTup tl)
    (F : Fr h₀ L h' m) (N : News h₀ L h' all) (sub : ∀ p ∈ fix ++ (tl ++ ns), p ∈ all) (r : rest (tl ++ ns)) :
    TurnEnd h₀ L m s₁ fix as rest { s₁ with heap := h', toks := tk } :=
  TurnEnd.intro F N (tl ++ ns) sub (off_app (off_tups N hA (fun p hp => sub p (List.mem_append_left _ hp)) ht (fun p hp => sub p (List.mem_append_right _ (List.mem_append_left _ hp)))) off) r
theorem turnTup1 {fix ns all : Ledger} {as : List Addr} {rest : Ledger → Prop} {h' : Heap} {tk : Nat} {r : Addr} {us : List Value} (off : Off as ns) (hA : Apart as fix)
    (F : Fr h₀ L h' m) (N : News h₀ L h' ((r, tupO us) :: all)) (sub : ∀ p ∈ fix ++ ns, p ∈ all) (hr : rest ((r, tupO us) :: ns)) :
    TurnEnd h₀ L m s₁ fix as rest { s₁ with heap := h', toks := tk } :=
  turnTup (tl := [(r, tupO us)]) off hA (allTup_one _ _) F N (fun p hp => (List.mem_append.mp hp).elim (fun h => List.mem_cons_of_mem _ (sub p (List.mem_append_left _ h))) fun h => (List.mem_cons.mp h).elim (fun e => e ▸ List.mem_cons_self) fun h => List.mem_cons_of_mem _ (sub p (List.mem_append_right _ h))) hr
end
end PKit15
section PKit16
set_option maxRecDepth 100000
set_option maxHeartbeats 1000000
open PyProof.Rows.LCg (NsObj lst ns_obj lst_snoc)
theorem nest_turn0 (elt t0 i0 t1 i1 : Expr) (scope : Scope) (pos : Pos) (it acc : Value) (env : Env) (hs : ∀ x, foldedSetIterable i1 env x = pure x) :
    compTurn (.ListComp elt [⟨t0, i0, [], 0⟩, ⟨t1, i1, [], 0⟩] scope pos) 0 it acc env = (standAt i0.pos >>= fun _ => pyNext it >>= fun r => match r with
      | none => pure (.done .next)
      | some v => letOwnedTupleGo t0 it v >>= fun _ => assign t0 env v >>= fun _ =>
        eval i1 env >>= fun x => standAt i1.pos >>= fun _ => foldedSetIterable i1 env x >>= fun x => holding [x] (pyIter x) >>= fun it1 => runOwn (.compStart (.ListComp elt [⟨t0, i0, [], 0⟩, ⟨t1, i1, [], 0⟩] scope pos) 1 it1 acc env) env >>= fun _ =>
          again (.compLoop (.ListComp elt [⟨t0, i0, [], 0⟩, ⟨t1, i1, [], 0⟩] scope pos) 0 it acc env)) := by rfl
theorem nest_turn1 (elt t0 i0 t1 i1 : Expr) (scope : Scope) (pos : Pos) (it acc : Value) (env : Env) :
    compTurn (.ListComp elt [⟨t0, i0, [], 0⟩, ⟨t1, i1, [], 0⟩] scope pos) 1 it acc env = (standAt i1.pos >>= fun _ => pyNext it >>= fun r => match r with
      | none => pure (.done .next)
      | some v => letOwnedTupleGo t1 it v >>= fun _ => assign t1 env v >>= fun _ =>
        (eval elt env >>= fun x => call (.builtin "list.append") [acc, x] >>= fun _ => pure ()) >>= fun _ =>
          again (.compLoop (.ListComp elt [⟨t0, i0, [], 0⟩, ⟨t1, i1, [], 0⟩] scope pos) 1 it acc env)) := by rfl
section
variable {prog : Program} {w : World} {A : Around} {R : Result → Shared → Prop} {s : Shared}
theorem nest_start {elt t0 i0 t1 i1 scope pos it acc env}
    (h0 : codeAny (model prog w) A (.compLoop (.ListComp elt [⟨t0, i0, [], 0⟩, ⟨t1, i1, [], 0⟩] scope pos) 1 it acc env) R s)
    (h : wpAny (model prog w) A (pyIter it) (fun it' s' => codeAny (model prog w) A (.compLoop (.ListComp elt [⟨t0, i0, [], 0⟩, ⟨t1, i1, [], 0⟩] scope pos) 1 it' acc env) R s')
      (notedBy (model prog w) A env fun x s' => R (.error x) s') s) :
    codeAny (model prog w) A (.compStart (.ListComp elt [⟨t0, i0, [], 0⟩, ⟨t1, i1, [], 0⟩] scope pos) 1 it acc env) R s := by
  refine codeAny_of_tree ?_
  show wpAny _ _ ((compStart (.ListComp elt [⟨t0, i0, [], 0⟩, ⟨t1, i1, [], 0⟩] scope pos) 1 it acc env).onRaise (fun x => do noteFrame x env; standAt theWindowsPlace)) _ _ s
  refine wpAny_notedAt ?_
  unfold compStart
  show wpAny _ _ (ask >>= _) _ _ s
  refine wpAny_bind (wpAny_askSetting (wpAny_ite ?_))
  split
  · first
      | exact wpAny_bind (wpAny_pure (wpAny_pure (And.intro rfl h0)))
      | exact wpAny_pure (And.intro rfl h0)
  · first
      | exact wpAny_bind (wpAny_rule (wpAny_bind (wpAny_standAt (wpAny_bind (wpAny_mono h (fun it' s' h' => wpAny_pure (And.intro rfl h')) fun _ _ x => x)))))
      | (refine wpAny_bind (wpAny_rule ?_); show wpAny _ _ (standAt i1.pos >>= _) _ _ s; exact wpAny_bind (wpAny_standAt (wpAny_bind (wpAny_mono h (fun it' s' h' => wpAny_pure (And.intro rfl h')) fun _ _ x => x))))
/-- the inner loop -/
theorem nest_loop1 {elt t0 i0 t1 i1 : Expr} {scope : Scope} {pos : Pos} {it acc : Value} {env : Env} (I : Nat → Shared → Prop)
    (turn : ∀ n s, I n s → wpAny (model prog w) A (pyNext it) (fun r s₁ => match r with
      | none => R (.ok .next) s₁
      | some v => wpAny (model prog w) A (letOwnedTupleGo t1 it v) (fun _ s₀ => wpAny (model prog w) A (assign t1 env v) (fun _ s₂ =>
          wpAny (model prog w) A (eval elt env) (fun x s₄ =>
            wpAny (model prog w) A (call (.builtin "list.append") [acc, x]) (fun _ s₅ => ∃ m, m < n ∧ I m s₅) (notedBy (model prog w) A env fun e s' => R (.error e) s') s₄) (notedBy (model prog w) A env fun e s' => R (.error e) s') s₂)
          (notedBy (model prog w) A env fun e s' => R (.error e) s') s₀) (notedBy (model prog w) A env fun e s' => R (.error e) s') s₁) (notedBy (model prog w) A env fun e s' => R (.error e) s') s)
    (n : Nat) (h : I n s) : codeAny (model prog w) A (.compLoop (.ListComp elt [⟨t0, i0, [], 0⟩, ⟨t1, i1, [], 0⟩] scope pos) 1 it acc env) R s := by
  refine codeAny_loop rfl I (fun n s hI => ?_) n h
  show wpAny _ A ((compTurn (.ListComp elt [⟨t0, i0, [], 0⟩, ⟨t1, i1, [], 0⟩] scope pos) 1 it acc env).onRaise (fun x => do noteFrame x env; theTreesLotGoes x)) _ _ s
  refine wpAny_noted ?_
  rw [nest_turn1]
  refine wpAny_bind (wpAny_standAt (wpAny_bind (wpAny_mono (turn n s hI) (fun r s₁ h₁ => ?_) fun _ _ h' => h')))
  cases r with
  | none => exact wpAny_pure h₁
  | some v =>
    refine wpAny_bind (wpAny_mono h₁ (fun _ s₀ h₀' => ?_) fun _ _ h' => h')
    refine wpAny_bind (wpAny_mono h₀' (fun _ s₂ h₂ => ?_) fun _ _ h' => h')
    exact wpAny_bind (wpAny_bind (wpAny_mono h₂ (fun x s₄ h₄ => wpAny_bind (wpAny_mono h₄ (fun _ s₅ h₅ => wpAny_pure (wpAny_pure ⟨rfl, h₅⟩)) fun _ _ h' => h')) fun _ _ h' => h'))
/-- the outer loop -/
theorem nest_loop0 {elt t0 i0 t1 i1 : Expr} {scope : Scope} {pos : Pos} {it acc : Value} {env : Env} (hs : ∀ x, foldedSetIterable i1 env x = pure x) (I : Nat → Shared → Prop)
    (turn : ∀ n s, I n s → wpAny (model prog w) A (pyNext it) (fun r s₁ => match r with
      | none => R (.ok .next) s₁
      | some v => wpAny (model prog w) A (letOwnedTupleGo t0 it v) (fun _ s₀ => wpAny (model prog w) A (assign t0 env v) (fun _ s₂ =>
          wpAny (model prog w) A (eval i1 env) (fun x s₄ =>
            wpAny (model prog w) A (pyIter x) (fun it1 s₅ => codeAny (model prog w) (A.mark none) (.compStart (.ListComp elt [⟨t0, i0, [], 0⟩, ⟨t1, i1, [], 0⟩] scope pos) 1 it1 acc env) (fun r s' => match r with | .ok _ => ∃ m, m < n ∧ I m s' | .error e => cameBackBy (model prog w) A env (notedBy (model prog w) A env fun e s' => R (.error e) s') e s') s₅) (notedBy (model prog w) A env fun e s' => R (.error e) s') s₄) (notedBy (model prog w) A env fun e s' => R (.error e) s') s₂)
          (notedBy (model prog w) A env fun e s' => R (.error e) s') s₀) (notedBy (model prog w) A env fun e s' => R (.error e) s') s₁) (notedBy (model prog w) A env fun e s' => R (.error e) s') s)
    (n : Nat) (h : I n s) : codeAny (model prog w) A (.compLoop (.ListComp elt [⟨t0, i0, [], 0⟩, ⟨t1, i1, [], 0⟩] scope pos) 0 it acc env) R s := by
  refine codeAny_loop rfl I (fun n s hI => ?_) n h
  show wpAny _ A ((compTurn (.ListComp elt [⟨t0, i0, [], 0⟩, ⟨t1, i1, [], 0⟩] scope pos) 0 it acc env).onRaise (fun x => do noteFrame x env; theTreesLotGoes x)) _ _ s
  refine wpAny_noted ?_
  rw [nest_turn0 (hs := hs)]
  refine wpAny_bind (wpAny_standAt (wpAny_bind (wpAny_mono (turn n s hI) (fun r s₁ h₁ => ?_) fun _ _ h' => h')))
  cases r with
  | none => exact wpAny_pure h₁
  | some v =>
    refine wpAny_bind (wpAny_mono h₁ (fun _ s₀ h₀' => ?_) fun _ _ h' => h')
    refine wpAny_bind (wpAny_mono h₀' (fun _ s₂ h₂ => ?_) fun _ _ h' => h')
    refine wpAny_bind (wpAny_mono h₂ (fun x s₄ h₄ => wpAny_bind (wpAny_standAt (wpAny_bind (wpAny_of_eq (hs x) ?_)))) fun _ _ h' => h')
    refine wpAny_bind (wpAny_holding (wpAny_mono h₄ (fun it1 s₅ h₅ => ?_) fun _ _ h' => h'))
    refine wpAny_bind (wpAny_runOwn (codeAny_mono h₅ fun r s' h' => ?_))
    cases r with
    | ok f => exact wpAny_pure ⟨rfl, h'⟩
    | error e => exact h'
end
end PKit16
section PKit17
set_option maxRecDepth 100000
set_option maxHeartbeats 1000000
open PyProof.Rows.LCg (NsObj lst ns_obj lst_snoc)
section
variable {prog : Program} {w : World} {A : Around} {E : Value → Shared → Prop} {s : Shared} {h₀ : Heap} {L : Addr} {m : Str → Option Value} {env : Env}
theorem kcpT_loop {ct elt target iter : Expr} {scope : Scope} {pos : Pos} {it acc : Value} {env : Env} {R : Result → Shared → Prop} (I : Nat → Shared → Prop)
    (turn : ∀ n s, I n s → wpAny (model prog w) A (pyNext it) (fun r s₁ => match r with
      | none => R (.ok .next) s₁
      | some v => wpAny (model prog w) A (letOwnedTupleGo target it v) (fun _ s₀ => wpAny (model prog w) A (assign target env v) (fun _ s₂ =>
          wpAny (model prog w) A (isTrue ct env (eval ct env)) (fun ok s₃ => ok = true ∧ wpAny (model prog w) A (eval elt env) (fun x s₄ =>
            wpAny (model prog w) A (call (.builtin "list.append") [acc, x]) (fun _ s₅ => ∃ m, m < n ∧ I m s₅) (notedBy (model prog w) A env fun e s' => R (.error e) s') s₄) (notedBy (model prog w) A env fun e s' => R (.error e) s') s₃) (notedBy (model prog w) A env fun e s' => R (.error e) s') s₂)
          (notedBy (model prog w) A env fun e s' => R (.error e) s') s₀) (notedBy (model prog w) A env fun e s' => R (.error e) s') s₁) (notedBy (model prog w) A env fun e s' => R (.error e) s') s)
    (n : Nat) (h : I n s) : codeAny (model prog w) A (.compLoop (.ListComp elt [⟨target, iter, [ct], 0⟩] scope pos) 0 it acc env) R s := by
  refine codeAny_loop rfl I (fun n s hI => ?_) n h
  show wpAny _ A ((compTurn (.ListComp elt [⟨target, iter, [ct], 0⟩] scope pos) 0 it acc env).onRaise (fun x => do noteFrame x env; theTreesLotGoes x)) _ _ s
  refine wpAny_noted ?_
  rw [compTurn_list]
  refine wpAny_bind (wpAny_standAt (wpAny_bind (wpAny_mono (turn n s hI) (fun r s₁ h₁ => ?_) fun _ _ h' => h')))
  cases r with
  | none => exact wpAny_pure h₁
  | some v =>
    refine wpAny_bind (wpAny_mono h₁ (fun _ s₀ h₀' => ?_) fun _ _ h' => h')
    refine wpAny_bind (wpAny_mono h₀' (fun _ s₂ h₂ => ?_) fun _ _ h' => h')
    refine wpAny_bind (wpAny_tests_one (wpAny_mono h₂ (fun ok s₃ h₃ => ?_) fun _ _ h' => h'))
    obtain ⟨rfl, h₃⟩ := h₃
    exact wpAny_bind (wpAny_bind (wpAny_mono h₃ (fun x s₄ h₄ => wpAny_bind (wpAny_mono h₄ (fun _ s₅ h₅ => wpAny_pure (wpAny_pure ⟨rfl, h₅⟩)) fun _ _ h' => h')) fun _ _ h' => h'))
/-- a list comprehension over any iterator of KTurns, by an invariant J over the turn's number, the list so far and the ledger -/
theorem lcT_block {ct target elt iter : Expr} {scope : Scope} {cl : List (Str × Addr)} {pos : Pos} {s₂ : Shared} {I : Addr} {fp wr : List Addr} {n : Nat} {P Md : Nat → Value → Heap → Prop} {St : Nat → Heap → Prop} {news : Ledger} {RR : Value → Addr → Result → Shared → Prop}
    {PX : Nat → (Str → Option Value) → Prop}
    (W : KTurns prog w A target I fp wr n P Md St)
    (self : ∀ (s : Shared) (Q : Value → Shared → Prop) (E : Value → Shared → Prop), St 0 s.heap → Q (.ref I) s → wpAny (model prog w) A (pyIter (.ref I)) Q E s)
    (hsz : n ≤ sizeLine) (hcell : ∀ y ∈ scope.names, y.2 ≠ .cell) (hkind : scope.kind = .function)
    (hst : St 0 s₂.heap) (hfp : ∀ b ∈ fp, b < s₂.heap.objs.size) (F : Fr h₀ L s₂.heap m) (N : News h₀ L s₂.heap news)
    (hLf : L ∉ fp) (hwr : ∀ b ∈ wr, h₀.get? b = none) (off : Off wr news)
    (asg : ∀ i v C (h : Heap) tk mC (Q : Unit → Shared → Prop) (E' : Value → Shared → Prop), P i v h → h.Ns C mC →
      (∀ h' tk' mC', PX i mC' → h'.Ns C mC' → (∀ c o, c ≠ C → h.get? c = some o → h'.get? c = some o) → Q () { s₂ with heap := h', toks := tk' }) →
      wpAny (model prog w) A (assign target (compEnvC scope cl C env) v) Q E' { s₂ with heap := h, toks := tk })
    (J : Nat → List Value → Ledger → Prop) (h0 : J 0 [] news)
    (step : ∀ i ys news₁ own C oC D mC h tk (E' : Value → Shared → Prop), i < n → J i ys news₁ → PX i mC → NsObj oC mC → Fr h₀ L h m → News h₀ L h (((C, oC) :: (D, lst ys) :: own) ++ news₁) → Off (C :: D :: wr) news₁ → ((∀ i h, St i h → ∀ b ∈ wr, ∃ o, h.get? b = some o ∧ NT o) → Apart (C :: D :: wr) ((C, oC) :: (D, lst ys) :: own)) →
      wpAny (model prog w) A (isTrue ct (compEnvC scope cl C env) (eval ct (compEnvC scope cl C env))) (fun ok s' => ok = true ∧ wpAny (model prog w) A (eval elt (compEnvC scope cl C env)) (fun y => TurnEnd h₀ L m { s₂ with heap := h, toks := tk } ((C, oC) :: (D, lst ys) :: own) (C :: D :: wr) (fun news' => J (i + 1) (ys ++ [y]) news')) E' s') E' { s₂ with heap := h, toks := tk })
    (hRR : ∀ D C h tk m' ys news', Fr h₀ L h m → News h₀ L h ((D, lst ys) :: news') → Off (C :: D :: wr) news' → h.Ns C m' → h₀.get? C = none → h₀.get? D = none → C ≠ L → D ≠ L → C ≠ D → J n ys news' → RR (.ref D) C (.ok .next) { s₂ with heap := h, toks := tk }) :
    wpAny (model prog w) A (newList []) (fun acc s₃ => wpAny (model prog w) A (newFunctionEnv scope env.globals cl [] env.qual none .none (some env)) (fun cenv s₄ =>
      codeAny (model prog w) A (.compStart (.ListComp elt [⟨target, iter, [ct], 0⟩] scope pos) 0 (.ref I) acc { cenv with scope := relabel scope env }) (RR acc cenv.locals) s₄) E s₃) E s₂ := by
  refine wpAny_newObj_type (wpAny_newFunctionEnv hcell (by intro y hy; simp at hy) (fun h₁ hns₁ hsb₁ => ?_) hkind)
  dsimp only at hns₁ hsb₁ ⊢
  generalize hH2 : s₂.heap.push { cls := .type "list", dict := none, data := .seq ([] : List Value).toArray } = H2 at hns₁ hsb₁ ⊢
  have hC : H2.objs.size = s₂.heap.objs.size + 1 := by rw [← hH2, Heap.size_push]
  have hDC : s₂.heap.objs.size ≠ H2.objs.size := by rw [hC]; exact Nat.ne_of_lt (Nat.lt_succ_self _)
  have hLlt : L < s₂.heap.objs.size := F.ns.lt
  have hDf : s₂.heap.objs.size ∉ fp := fun hm => Nat.lt_irrefl _ (hfp _ hm)
  have hCf : H2.objs.size ∉ fp := fun hm => by have := hfp _ hm; rw [hC] at this; exact Nat.lt_irrefl _ (Nat.lt_of_succ_lt this)
  have old : ∀ b o, s₂.heap.get? b = some o → h₁.get? b = some o := fun b o e =>
    hsb₁.extBut b o (by have := Heap.lt_size e; rw [hC]; exact Nat.ne_of_lt (Nat.lt_succ_of_lt this)) (Heap.get?_push_of_some _ (hH2 ▸ Heap.get?_push_of_some _ e))
  have hacc : h₁.get? s₂.heap.objs.size = some (lst []) := hsb₁.extBut _ _ hDC (Heap.get?_push_of_some _ (hH2 ▸ Heap.get?_push_size _ rfl))
  have hD₀ : h₀.get? s₂.heap.objs.size = none := fresh_above F (Nat.le_refl _)
  have hC₀ : h₀.get? H2.objs.size = none := fresh_above F (by rw [hC]; exact Nat.le_succ _)
  have hDL : s₂.heap.objs.size ≠ L := Nat.ne_of_gt hLlt
  have hCL : H2.objs.size ≠ L := by rw [hC]; exact Nat.ne_of_gt (Nat.lt_succ_of_lt hLlt)
  have hst₁ : St 0 h₁ := W.frame _ _ _ hst fun b _ o e => old b o e
  have hDw : s₂.heap.objs.size ∉ wr := fun h => hDf (W.sub _ h)
  have hCw : H2.objs.size ∉ wr := fun h => hCf (W.sub _ h)
  have hLw : L ∉ wr := fun h => hLf (W.sub _ h)
  have off₀ : Off (H2.objs.size :: s₂.heap.objs.size :: wr) news := fun p hp => by
    have h1 := Heap.lt_size (N p hp).1
    have h2 := off p hp
    simp only [List.mem_cons, not_or]
    exact ⟨by rw [hC]; exact Nat.ne_of_lt (Nat.lt_succ_of_lt h1), Nat.ne_of_lt h1, h2⟩
  have keepB : ∀ {h h' : Heap}, (∀ b o, b ∉ wr → h.get? b = some o → h'.get? b = some o) → Fr h₀ L h m → Fr h₀ L h' m := fun {h h'} hk F' =>
    ⟨F'.ns.at' fun o e => hk _ o hLw e, fun b o e => hk b o (fun hb => by rw [hwr b hb] at e; cases e) (F'.keep b o e), F'.above⟩
  have newsB : ∀ {h h' : Heap} {ns : Ledger}, (∀ b o, b ∉ wr → h.get? b = some o → h'.get? b = some o) → Off wr ns → News h₀ L h ns → News h₀ L h' ns := fun hk ho N' p hp =>
    ⟨hk _ _ (ho p hp) (N' p hp).1, (N' p hp).2⟩
  have loop : ∀ s₃ : Shared, s₃ = { s₂ with heap := h₁, toks := s₂.toks + ([] : List (Str × Value)).length } →
      codeAny (model prog w) A (.compLoop (.ListComp elt [⟨target, iter, [ct], 0⟩] scope pos) 0 (.ref I) (.ref s₂.heap.objs.size) (compEnvC scope cl H2.objs.size env)) (RR (.ref s₂.heap.objs.size) H2.objs.size) s₃ := by
    rintro s₃ rfl
    refine kcpT_loop
      (fun k s' => ∃ h' tk i ys m' news', s' = { s₂ with heap := h', toks := tk } ∧ i ≤ n ∧ k = n + 1 - i ∧ ys.length = i ∧ St i h' ∧ Fr h₀ L h' m ∧ h'.Ns H2.objs.size m' ∧
        News h₀ L h' ((s₂.heap.objs.size, lst ys) :: news') ∧ Off (H2.objs.size :: s₂.heap.objs.size :: wr) news' ∧ J i ys news') ?_ (n + 1)
      ⟨h₁, _, 0, [], _, news, rfl, Nat.zero_le _, rfl, rfl, hst₁, F.keeps old, hns₁, ?_, off₀, h0⟩
    · rintro k s' ⟨h', tk, i, ys, m', news', rfl, hi, rfl, hyl, hst', F', hn', N', off', hJ⟩
      have offw : Off wr ((s₂.heap.objs.size, lst ys) :: news') := fun p hp => by
        rcases List.mem_cons.mp hp with rfl | hp
        · exact hDw
        · exact fun h => off' p hp (List.mem_cons_of_mem _ (List.mem_cons_of_mem _ h))
      by_cases hlt : i < n
      · refine W.item i _ _ _ hlt hst' fun v h₂ tk₂ hMd hk₂ => ?_
        refine W.go i v _ _ _ hMd fun h₃ hP hst₃ hk₃ => ?_
        have up₃ : ∀ b o, b ∉ wr → h'.get? b = some o → h₃.get? b = some o := fun b o hb e => hk₃ b o hb (hk₂ b o hb e)
        refine asg i v H2.objs.size h₃ tk₂ m' _ _ hP (hn'.at' fun o e => up₃ _ o hCw e) fun h₄ tk₄ mC hPX hn₄ hk₄ => ?_
        have up₄ : ∀ b o, b ∉ wr → b ≠ H2.objs.size → h'.get? b = some o → h₄.get? b = some o := fun b o hb hc e => hk₄ b o hc (up₃ b o hb e)
        have F₃ := keepB up₃ F'
        have F₄ : Fr h₀ L h₄ m := ⟨F₃.ns.at' fun o e => hk₄ _ o (Ne.symm hCL) e, fun b o e => hk₄ b o (fun q => by rw [q, hC₀] at e; cases e) (F₃.keep b o e), F₃.above⟩
        have hst₄ : St (i + 1) h₄ := W.frame _ _ _ hst₃ fun b hb o e => hk₄ b o (fun q => hCf (q ▸ hb)) e
        obtain ⟨oC, heC, hoC⟩ := ns_obj hn₄
        have N₃ := newsB up₃ offw N'
        have N₄ : News h₀ L h₄ (((H2.objs.size, oC) :: (s₂.heap.objs.size, lst ys) :: PyProof.Rows.ownOf h₀ fp h₄) ++ news') := fun p hp => by
          rcases List.mem_append.mp hp with hp | hp
          · rcases List.mem_cons.mp hp with rfl | hp
            · exact ⟨heC, hCL, hC₀⟩
            · rcases List.mem_cons.mp hp with rfl | hp
              · exact ⟨hk₄ _ _ hDC (N₃ _ List.mem_cons_self).1, hDL, hD₀⟩
              · exact news_ownOf hLf p hp
          · have z := N₃ p (List.mem_cons_of_mem _ hp)
            exact ⟨hk₄ _ _ (fun q => off' p hp (by rw [q]; exact List.mem_cons_self)) z.1, z.2⟩
        have hA : (∀ i h, St i h → ∀ b ∈ wr, ∃ o, h.get? b = some o ∧ NT o) → Apart (H2.objs.size :: s₂.heap.objs.size :: wr) ((H2.objs.size, oC) :: (s₂.heap.objs.size, lst ys) :: PyProof.Rows.ownOf h₀ fp h₄) := by
          intro hc b hb
          rcases List.mem_cons.mp hb with rfl | hb
          · exact ⟨oC, List.mem_cons_self, NT.ns hoC⟩
          · rcases List.mem_cons.mp hb with rfl | hb
            · exact ⟨_, List.mem_cons_of_mem _ List.mem_cons_self, NT.lst ys⟩
            · obtain ⟨o, e, hn⟩ := hc _ _ hst₄ b hb
              exact ⟨o, List.mem_cons_of_mem _ (List.mem_cons_of_mem _ (mem_ownOf (W.sub b hb) (hwr b hb) e)), hn⟩
        refine wpAny_mono (step i ys news' _ H2.objs.size oC s₂.heap.objs.size mC h₄ tk₄ _ hlt hJ hPX hoC F₄ N₄ off' hA) (fun ok s₆ h₆ => ⟨h₆.1, wpAny_mono h₆.2 (fun y s₅ h₅ => ?_) fun _ _ e => e⟩) fun _ _ e => e
        obtain ⟨h₅, tk₅, news₅, rfl, F₅, N₅, off₅, hJ₅⟩ := h₅
        have zC := (N₅ (H2.objs.size, oC) List.mem_cons_self).1
        have zD := (N₅ (s₂.heap.objs.size, lst ys) (List.mem_cons_of_mem _ List.mem_cons_self)).1
        have hst₅ : St (i + 1) h₅ := by
          refine W.frame _ _ _ hst₄ fun b hb o e => ?_
          cases hq : h₀.get? b with
          | some o₀ =>
            have : o₀ = o := by have q := F₄.keep b o₀ hq; rw [e] at q; exact (Option.some.inj q).symm
            exact this ▸ F₅.keep b o₀ hq
          | none => exact (N₅ _ (List.mem_append_left _ (List.mem_cons_of_mem _ (List.mem_cons_of_mem _ (mem_ownOf hb hq e))))).1
        refine append_at (hsz := by show ys.toArray.size ≤ sizeLine; rw [List.size_toArray, hyl]; exact Nat.le_trans hi hsz) zD fun h₆ hs₆ hD₆ => ?_
        refine ⟨n + 1 - (i + 1), by omega, h₆, tk₅, i + 1, ys ++ [y], _, news₅, rfl, hlt, rfl, by rw [List.length_append, List.length_singleton, hyl],
          W.frame _ _ _ hst₅ fun b hb o e => hs₆.extBut b o (fun q => hDf (q ▸ hb)) e, F₅.change hs₆ hDL hD₀, (hoC.ns zC).sameBut hs₆ (Ne.symm hDC), fun q hq => ?_, off₅, hJ₅⟩
        rcases List.mem_cons.mp hq with rfl | hq
        · exact ⟨hD₆.trans (congrArg some (lst_snoc ys y)), hDL, hD₀⟩
        · have z := N₅ q (List.mem_append_right _ hq)
          exact ⟨hs₆.extBut _ _ (fun e => off₅ q hq (by rw [e]; exact List.mem_cons_of_mem _ List.mem_cons_self)) z.1, z.2⟩
      · obtain rfl : i = n := Nat.le_antisymm hi (Nat.not_lt.mp hlt)
        refine W.done _ _ _ hst' fun h₂ tk₂ hk₂ => ?_
        exact hRR s₂.heap.objs.size H2.objs.size h₂ tk₂ m' ys news' (keepB hk₂ F') (newsB hk₂ offw N') off' (hn'.at' fun o e => hk₂ _ o hCw e) hC₀ hD₀ hCL hDL (Ne.symm hDC) hJ
    · intro p hp
      rcases List.mem_cons.mp hp with rfl | hp
      · exact ⟨hacc, hDL, hD₀⟩
      · exact ⟨old _ _ (N p hp).1, (N p hp).2⟩
  exact codeAny_compStart_list (loop _ rfl) (self _ _ _ hst₁ (loop _ rfl))

/-- what an iterator must bring for a list comprehension -/
inductive LcAtT (prog : Program) (w : World) (A : Around) (h₀ : Heap) (L : Addr) (m : Str → Option Value) (env : Env) (ct target elt : Expr) (scope : Scope) (cl : List (Str × Addr)) (Q : Value → Shared → Prop) (it : Value) (s₂ : Shared) : Prop
  | mk (I : Addr) (fp wr : List Addr) (n : Nat) (P Md : Nat → Value → Heap → Prop) (St : Nat → Heap → Prop) (news : Ledger) (PX : Nat → (Str → Option Value) → Prop) (J : Nat → List Value → Ledger → Prop) :
    it = .ref I →
    KTurns prog w A target I fp wr n P Md St →
    (∀ (s : Shared) (Q : Value → Shared → Prop) (E : Value → Shared → Prop), St 0 s.heap → Q (.ref I) s → wpAny (model prog w) A (pyIter (.ref I)) Q E s) →
    n ≤ sizeLine →
    St 0 s₂.heap →
    (∀ b ∈ fp, b < s₂.heap.objs.size) →
    Fr h₀ L s₂.heap m →
    News h₀ L s₂.heap news →
    L ∉ fp →
    (∀ b ∈ wr, h₀.get? b = none) →
    Off wr news →
    (∀ i v C (h : Heap) tk mC (Q : Unit → Shared → Prop) (E' : Value → Shared → Prop), P i v h → h.Ns C mC →
      (∀ h' tk' mC', PX i mC' → h'.Ns C mC' → (∀ c o, c ≠ C → h.get? c = some o → h'.get? c = some o) → Q () { s₂ with heap := h', toks := tk' }) →
      wpAny (model prog w) A (assign target (compEnvC scope cl C env) v) Q E' { s₂ with heap := h, toks := tk }) →
    J 0 [] news →
    (∀ i ys news₁ own C oC D mC h tk (E' : Value → Shared → Prop), i < n → J i ys news₁ → PX i mC → NsObj oC mC → Fr h₀ L h m → News h₀ L h (((C, oC) :: (D, lst ys) :: own) ++ news₁) → Off (C :: D :: wr) news₁ → ((∀ i h, St i h → ∀ b ∈ wr, ∃ o, h.get? b = some o ∧ NT o) → Apart (C :: D :: wr) ((C, oC) :: (D, lst ys) :: own)) →
      wpAny (model prog w) A (isTrue ct (compEnvC scope cl C env) (eval ct (compEnvC scope cl C env))) (fun ok s' => ok = true ∧ wpAny (model prog w) A (eval elt (compEnvC scope cl C env)) (fun y => TurnEnd h₀ L m { s₂ with heap := h, toks := tk } ((C, oC) :: (D, lst ys) :: own) (C :: D :: wr) (fun news' => J (i + 1) (ys ++ [y]) news')) E' s') E' { s₂ with heap := h, toks := tk }) →
    (∀ D h tk ys news', Fr h₀ L h m → News h₀ L h ((D, lst ys) :: news') → Off [D] news' → J n ys news' → Q (.ref D) { s₂ with heap := h, toks := tk }) →
    LcAtT prog w A h₀ L m env ct target elt scope cl Q it s₂
theorem lcT_eval {ct target elt iter : Expr} {scope : Scope} {cl : List (Str × Addr)} {pos : Pos} {Q : Value → Shared → Prop}
    (_F₀ : Fr h₀ L s.heap m) (hclos : closureFor scope env = pure cl) (hcell : ∀ y ∈ scope.names, y.2 ≠ .cell) (hkind : scope.kind = .function)
    (hnames : ∀ y ∈ scope.names, y.2 = .local → scope.names.lookup y.1 = some .local)
    (h : wpAny (model prog w) A (eval iter env) (fun xv s₁ => wpAny (model prog w) A (pyIter xv) (LcAtT prog w A h₀ L m env ct target elt scope cl Q) E s₁) E s)
    (hs : ∀ x, foldedSetIterable iter env x = pure x := by intro _; rfl) :
    wpAny (model prog w) A (eval (.ListComp elt [⟨target, iter, [ct], 0⟩] scope pos) env) Q E s := by
  rw [eval_ListComp]
  refine wpAny_comprehension_free (use := none) rfl hs hclos hkind hnames (wpAny_mono h (fun xv s₁ h₁ => wpAny_mono h₁ (fun it s₂ h₂ => ?_) fun _ _ e => e) fun _ _ e => e)
  obtain ⟨I, fp, wr, n, P, Md, St, news, PX, J, rfl, W, self, hsz, hst, hfp, F, N, hLf, hwr, off, asg, h0, step, fin⟩ := h₂
  refine lcT_block W self hsz hcell hkind hst hfp F N hLf hwr off asg J h0 step ?_
  intro D C h tk m' ys news' F' N' off' hn hC₀ hD₀ hCL hDL hCD hJ
  refine ⟨m', hn, fun h'' hs'' => fin D h'' tk ys news' (F'.change hs'' hCL hC₀) (fun p hp => ?_) (fun p hp => ?_) hJ⟩
  · refine ⟨hs''.extBut _ _ ?_ (N' p hp).1, (N' p hp).2⟩
    rcases List.mem_cons.mp hp with rfl | hp
    · exact Ne.symm hCD
    · exact fun e => off' p hp (by rw [e]; exact List.mem_cons_self)
  · intro h
    rw [List.mem_singleton] at h
    exact off' p hp (by rw [h]; exact List.mem_cons_of_mem _ List.mem_cons_self)
/-- [elt for x in l], l a list -/
theorem lcT_list {ct elt : Expr} {x : Str} {px : Pos} {scope : Scope} {cl : List (Str × Addr)} {Q : Value → Shared → Prop} {l : Addr} {ot : Obj} {vs : List Value} {nt : Nat} {news : Ledger}
    (hh : A.handled = none) (F : Fr h₀ L s.heap m) (N : News h₀ L s.heap news) (hm : (l, ot) ∈ news) (hc : ot.cls = .type "list") (hd : ot.data = .seq vs.toArray nt) (hsz : vs.length ≤ 10000)
    (hkind : scope.kind = .function) (hx : scope.names.lookup x = some .local)
    (J : Nat → List Value → Ledger → Prop) (h0 : J 0 [] news)
    (step : ∀ (i : Nat) (v : Value) ys news₁ own C oC D mC h tk (as : List Addr) (E' : Value → Shared → Prop), vs[i]? = some v → J i ys news₁ → mC x = some v → NsObj oC mC → Fr h₀ L h m → News h₀ L h (((C, oC) :: (D, lst ys) :: own) ++ news₁) → Off as news₁ → Apart as ((C, oC) :: (D, lst ys) :: own) →
      wpAny (model prog w) A (isTrue ct (compEnvC scope cl C env) (eval ct (compEnvC scope cl C env))) (fun ok s' => ok = true ∧ wpAny (model prog w) A (eval elt (compEnvC scope cl C env)) (fun y => TurnEnd h₀ L m { s with heap := h, toks := tk } ((C, oC) :: (D, lst ys) :: own) as (fun news' => J (i + 1) (ys ++ [y]) news')) E' s') E' { s with heap := h, toks := tk })
    (fin : ∀ D h tk ys news', Fr h₀ L h m → News h₀ L h ((D, lst ys) :: news') → Off [D] news' → J vs.length ys news' → Q (.ref D) { s with heap := h, toks := tk }) :
    wpAny (model prog w) A (pyIter (.ref l)) (LcAtT prog w A h₀ L m env ct (.Name x px) elt scope cl Q) E s := by
  have hax := N _ hm
  have hT : s.heap.IsList l vs.toArray := ⟨ot, hax.1, hc, nt, hd⟩
  have hlt : l < s.heap.objs.size := Heap.lt_size hax.1
  have hLs : L < s.heap.objs.size := F.ns.lt
  refine wpAny_pyIter_list hT ?_
  have keep : ∀ b o', s.heap.get? b = some o' → (s.heap.push { cls := .type "list_iterator", data := .fields #[.ref l, .int 0 0] }).get? b = some o' := fun b o' e => Heap.get?_push_of_some _ e
  refine ⟨s.heap.objs.size, [s.heap.objs.size, l], [s.heap.objs.size], vs.toArray.size, _, _, _, news, fun i mC => ∃ v, vs[i]? = some v ∧ mC x = some v, J, rfl,
    KTurns.ofWalks (Walks.list hh s.heap.objs.size l (Nat.ne_of_lt hlt) vs.toArray) (fun i v s' Q E _ h => wpAny_pure h), fun s Q E st hQ => wpAny_pyIter_listiter st.1 hQ, ?_, ⟨⟨_, Heap.get?_push_size _ rfl, rfl, rfl⟩, hT.at fun o e => keep l o e⟩, ?_, F.keeps keep, N.grown keep, ?_, ?_, ?_, ?_, h0, ?_, fun D h tk ys news' a b c d => fin D h tk ys news' a b c (by simpa using d)⟩
  · rw [List.size_toArray, sizeLine_eq]; omega
  · intro b hb
    simp only [List.mem_cons, List.not_mem_nil, or_false] at hb
    rw [Heap.size_push]
    rcases hb with rfl | rfl
    · exact Nat.lt_succ_self _
    · exact Nat.lt_succ_of_lt hlt
  · intro hL
    simp only [List.mem_cons, List.not_mem_nil, or_false] at hL
    rcases hL with hL | hL
    · exact Nat.ne_of_lt hLs hL
    · exact (N _ hm).2.1 hL.symm
  · intro b hb
    rw [List.mem_singleton] at hb
    subst hb
    exact fresh_above F (Nat.le_refl _)
  · intro p hp hb
    rw [List.mem_singleton] at hb
    exact Nat.ne_of_lt (Heap.lt_size (N p hp).1) hb
  · intro i v C h tk mC Q' E' hP hn hQ
    refine wpAny_assign_Name (wpAny_storeName_local (lookup_relabel_local hx) hn (fun h' hn' hs' => ?_) (by simp [compEnvC, relabel, hkind]))
    exact hQ h' _ _ ⟨v, by simpa using hP, by simp⟩ hn' fun c o hc e => hs'.extBut c o hc e
  · rintro i ys news₁ own C oC D mC h tk E' hi hJ ⟨v, hv, hmx⟩ hoC F' N' off hA
    refine step i v ys news₁ own C oC D mC h tk _ E' hv hJ hmx hoC F' N' off (hA ?_)
    intro i h st b hb
    rw [List.mem_singleton] at hb
    subst hb
    obtain ⟨o, e, hc, _⟩ := st.1
    exact ⟨o, e, NT.type hc (by decide)⟩
/-- what an iterator must bring for a list comprehension -/
inductive LcAtG (prog : Program) (w : World) (A : Around) (h₀ : Heap) (L : Addr) (m : Str → Option Value) (env : Env) (target elt : Expr) (scope : Scope) (cl : List (Str × Addr)) (mf : Addr → Str → Option Value) (Q : Addr → Shared → Prop) (it : Value) (s₂ : Shared) : Prop
  | mk (I : Addr) (fp wr : List Addr) (n : Nat) (P Md : Nat → Value → Heap → Prop) (St : Nat → Heap → Prop) (news : Ledger) (PX : Nat → (Str → Option Value) → Prop) (J : Nat → List Value → Ledger → Prop) :
    it = .ref I →
    KTurns prog w A target I fp wr n P Md St →
    (∀ (s : Shared) (Q : Value → Shared → Prop) (E : Value → Shared → Prop), St 0 s.heap → Q (.ref I) s → wpAny (model prog w) A (pyIter (.ref I)) Q E s) →
    n ≤ sizeLine →
    St 0 s₂.heap →
    (∀ b ∈ fp, b < s₂.heap.objs.size) →
    Fr h₀ L s₂.heap m →
    News h₀ L s₂.heap news →
    L ∉ fp →
    (∀ b ∈ wr, h₀.get? b = none) →
    Off wr news →
    (∀ i v C (h : Heap) tk mC (Q : Unit → Shared → Prop) (E' : Value → Shared → Prop), P i v h → h.Ns C mC →
      (∀ h' tk' mC', PX i mC' → h'.Ns C mC' → (∀ c o, c ≠ C → h.get? c = some o → h'.get? c = some o) → Q () { s₂ with heap := h', toks := tk' }) →
      wpAny (model prog w) A (assign target (compEnvC scope cl C env) v) Q E' { s₂ with heap := h, toks := tk }) →
    J 0 [] news →
    (∀ i ys news₁ own C oC D mC h tk (E' : Value → Shared → Prop), i < n → J i ys news₁ → PX i mC → NsObj oC mC → Fr h₀ L h m → News h₀ L h (((C, oC) :: (D, lst ys) :: own) ++ news₁) → Off (C :: D :: wr) news₁ → ((∀ i h, St i h → ∀ b ∈ wr, ∃ o, h.get? b = some o ∧ NT o) → Apart (C :: D :: wr) ((C, oC) :: (D, lst ys) :: own)) →
      wpAny (model prog w) A (eval elt (compEnvC scope cl C env)) (fun y => TurnEnd h₀ L m { s₂ with heap := h, toks := tk } ((C, oC) :: (D, lst ys) :: own) (C :: D :: wr) (fun news' => J (i + 1) (ys ++ [y]) news')) E' { s₂ with heap := h, toks := tk }) →
    (∀ D h tk ys news', Fr h₀ L h (mf D) → News h₀ L h ((D, lst ys) :: news') → Off [D] news' → J n ys news' → Q D { s₂ with heap := h, toks := tk }) →
    LcAtG prog w A h₀ L m env target elt scope cl mf Q it s₂
/-- what an iterator must bring for a list comprehension -/
inductive LcAtTG (prog : Program) (w : World) (A : Around) (h₀ : Heap) (L : Addr) (m : Str → Option Value) (env : Env) (ct target elt : Expr) (scope : Scope) (cl : List (Str × Addr)) (mf : Addr → Str → Option Value) (Q : Addr → Shared → Prop) (it : Value) (s₂ : Shared) : Prop
  | mk (I : Addr) (fp wr : List Addr) (n : Nat) (P Md : Nat → Value → Heap → Prop) (St : Nat → Heap → Prop) (news : Ledger) (PX : Nat → (Str → Option Value) → Prop) (J : Nat → List Value → Ledger → Prop) :
    it = .ref I →
    KTurns prog w A target I fp wr n P Md St →
    (∀ (s : Shared) (Q : Value → Shared → Prop) (E : Value → Shared → Prop), St 0 s.heap → Q (.ref I) s → wpAny (model prog w) A (pyIter (.ref I)) Q E s) →
    n ≤ sizeLine →
    St 0 s₂.heap →
    (∀ b ∈ fp, b < s₂.heap.objs.size) →
    Fr h₀ L s₂.heap m →
    News h₀ L s₂.heap news →
    L ∉ fp →
    (∀ b ∈ wr, h₀.get? b = none) →
    Off wr news →
    (∀ i v C (h : Heap) tk mC (Q : Unit → Shared → Prop) (E' : Value → Shared → Prop), P i v h → h.Ns C mC →
      (∀ h' tk' mC', PX i mC' → h'.Ns C mC' → (∀ c o, c ≠ C → h.get? c = some o → h'.get? c = some o) → Q () { s₂ with heap := h', toks := tk' }) →
      wpAny (model prog w) A (assign target (compEnvC scope cl C env) v) Q E' { s₂ with heap := h, toks := tk }) →
    J 0 [] news →
    (∀ i ys news₁ own C oC D mC h tk (E' : Value → Shared → Prop), i < n → J i ys news₁ → PX i mC → NsObj oC mC → Fr h₀ L h m → News h₀ L h (((C, oC) :: (D, lst ys) :: own) ++ news₁) → Off (C :: D :: wr) news₁ → ((∀ i h, St i h → ∀ b ∈ wr, ∃ o, h.get? b = some o ∧ NT o) → Apart (C :: D :: wr) ((C, oC) :: (D, lst ys) :: own)) →
      wpAny (model prog w) A (isTrue ct (compEnvC scope cl C env) (eval ct (compEnvC scope cl C env))) (fun ok s' => ok = true ∧ wpAny (model prog w) A (eval elt (compEnvC scope cl C env)) (fun y => TurnEnd h₀ L m { s₂ with heap := h, toks := tk } ((C, oC) :: (D, lst ys) :: own) (C :: D :: wr) (fun news' => J (i + 1) (ys ++ [y]) news')) E' s') E' { s₂ with heap := h, toks := tk }) →
    (∀ D h tk ys news', Fr h₀ L h (mf D) → News h₀ L h ((D, lst ys) :: news') → Off [D] news' → J n ys news' → Q D { s₂ with heap := h, toks := tk }) →
    LcAtTG prog w A h₀ L m env ct target elt scope cl mf Q it s₂
theorem lcG_assign {target elt iter : Expr} {scope : Scope} {cl : List (Str × Addr)} {y : Str} {py : Pos} {pos spos : Pos} {Q : Flow → Shared → Prop}
    (_F₀ : Fr h₀ env.locals s.heap m) (hsw : swapsWith (.ListComp elt [⟨target, iter, [], 0⟩] scope pos) (some (.Name y py)) spos.line env = pure true)
    (hclos : closureFor scope env = pure cl) (hcell : ∀ y ∈ scope.names, y.2 ≠ .cell) (hkind : scope.kind = .function)
    (hnames : ∀ y ∈ scope.names, y.2 = .local → scope.names.lookup y.1 = some .local)
    (hy : env.kindOf y = some .local) (hp : (env.scope.kind == .class || (env.scope.kind == .module && env.locals != env.globals)) = false)
    (h : wpAny (model prog w) A (eval iter env) (fun xv s₁ => wpAny (model prog w) A (pyIter xv) (LcAtG prog w A h₀ env.locals m env target elt scope cl (fun D z => if z = y then some (.ref D) else m z) (fun _ s' => Q .next s')) E s₁) E s)
    (hs : ∀ x, foldedSetIterable iter env x = pure x := by intro _; rfl) :
    wpAny (model prog w) A (exec (.Assign [.Name y py] (.ListComp elt [⟨target, iter, [], 0⟩] scope pos) spos) env) Q E s := by
  rw [exec_Assign_Name_used _ _ _ _ hsw]
  refine wpAny_bind (wpAny_standAt (wpAny_bind ?_))
  show wpAny _ A (do let _ ← comprehension (.ListComp elt [⟨target, iter, [], 0⟩] scope pos) scope env _ (newList []) false (eval iter env) (some (assign (.Name y py) env))) _ _ s
  refine wpAny_bind (wpAny_mono (wpAny_comprehension_free (use := some (assign (.Name y py) env)) (Q := fun _ s' => Q .next s') rfl hs hclos hkind hnames
    (wpAny_mono h (fun xv s₁ h₁ => wpAny_mono h₁ (fun it s₂ h₂ => ?_) fun _ _ e => e) fun _ _ e => e)) (fun _ s' hq => wpAny_pure (wpAny_pure hq)) fun _ _ e => e)
  obtain ⟨I, fp, wr, n, P, Md, St, news, PX, J, rfl, W, self, hsz, hst, hfp, F, N, hLf, hwr, off, asg, h0, step, fin⟩ := h₂
  refine lc_block W self hsz hcell hkind hst hfp F N hLf hwr off asg J h0 step ?_
  intro D C h tk m' ys news' F' N' off' hn hC₀ hD₀ hCL hDL hCD hJ
  show wpAny _ A (assign (.Name y py) env (.ref D)) _ _ _
  refine wpAny_assign_Name (wpAny_storeName_local hy F'.ns (fun h₂ hn₂ hs₂ => ?_) hp)
  have hL₀ : h₀.get? env.locals = none := Heap.get?_none_of_le F'.above
  have F₂ : Fr h₀ env.locals h₂ (fun z => if z = y then some (.ref D) else m z) := ⟨hn₂, fun b o e => hs₂.extBut b o (fun q => by rw [q, hL₀] at e; cases e) (F'.keep b o e), F'.above⟩
  refine ⟨m', hn.sameBut hs₂ hCL, fun h'' hs'' => fin D h'' _ ys news' (F₂.change hs'' hCL hC₀) (fun p hp => ?_) (fun p hp => ?_) hJ⟩
  · have z : h₂.get? p.1 = some p.2 := hs₂.extBut _ _ (N' p hp).2.1 (N' p hp).1
    refine ⟨hs''.extBut _ _ ?_ z, (N' p hp).2⟩
    rcases List.mem_cons.mp hp with rfl | hp
    · exact Ne.symm hCD
    · exact fun e => off' p hp (by rw [e]; exact List.mem_cons_self)
  · intro h
    rw [List.mem_singleton] at h
    exact off' p hp (by rw [h]; exact List.mem_cons_of_mem _ List.mem_cons_self)
theorem lcTG_assign {ct target elt iter : Expr} {scope : Scope} {cl : List (Str × Addr)} {y : Str} {py : Pos} {pos spos : Pos} {Q : Flow → Shared → Prop}
    (_F₀ : Fr h₀ env.locals s.heap m) (hsw : swapsWith (.ListComp elt [⟨target, iter, [ct], 0⟩] scope pos) (some (.Name y py)) spos.line env = pure true)
    (hclos : closureFor scope env = pure cl) (hcell : ∀ y ∈ scope.names, y.2 ≠ .cell) (hkind : scope.kind = .function)
    (hnames : ∀ y ∈ scope.names, y.2 = .local → scope.names.lookup y.1 = some .local)
    (hy : env.kindOf y = some .local) (hp : (env.scope.kind == .class || (env.scope.kind == .module && env.locals != env.globals)) = false)
    (h : wpAny (model prog w) A (eval iter env) (fun xv s₁ => wpAny (model prog w) A (pyIter xv) (LcAtTG prog w A h₀ env.locals m env ct target elt scope cl (fun D z => if z = y then some (.ref D) else m z) (fun _ s' => Q .next s')) E s₁) E s)
    (hs : ∀ x, foldedSetIterable iter env x = pure x := by intro _; rfl) :
    wpAny (model prog w) A (exec (.Assign [.Name y py] (.ListComp elt [⟨target, iter, [ct], 0⟩] scope pos) spos) env) Q E s := by
  rw [exec_Assign_Name_used _ _ _ _ hsw]
  refine wpAny_bind (wpAny_standAt (wpAny_bind ?_))
  show wpAny _ A (do let _ ← comprehension (.ListComp elt [⟨target, iter, [ct], 0⟩] scope pos) scope env _ (newList []) false (eval iter env) (some (assign (.Name y py) env))) _ _ s
  refine wpAny_bind (wpAny_mono (wpAny_comprehension_free (use := some (assign (.Name y py) env)) (Q := fun _ s' => Q .next s') rfl hs hclos hkind hnames
    (wpAny_mono h (fun xv s₁ h₁ => wpAny_mono h₁ (fun it s₂ h₂ => ?_) fun _ _ e => e) fun _ _ e => e)) (fun _ s' hq => wpAny_pure (wpAny_pure hq)) fun _ _ e => e)
  obtain ⟨I, fp, wr, n, P, Md, St, news, PX, J, rfl, W, self, hsz, hst, hfp, F, N, hLf, hwr, off, asg, h0, step, fin⟩ := h₂
  refine lcT_block W self hsz hcell hkind hst hfp F N hLf hwr off asg J h0 step ?_
  intro D C h tk m' ys news' F' N' off' hn hC₀ hD₀ hCL hDL hCD hJ
  show wpAny _ A (assign (.Name y py) env (.ref D)) _ _ _
  refine wpAny_assign_Name (wpAny_storeName_local hy F'.ns (fun h₂ hn₂ hs₂ => ?_) hp)
  have hL₀ : h₀.get? env.locals = none := Heap.get?_none_of_le F'.above
  have F₂ : Fr h₀ env.locals h₂ (fun z => if z = y then some (.ref D) else m z) := ⟨hn₂, fun b o e => hs₂.extBut b o (fun q => by rw [q, hL₀] at e; cases e) (F'.keep b o e), F'.above⟩
  refine ⟨m', hn.sameBut hs₂ hCL, fun h'' hs'' => fin D h'' _ ys news' (F₂.change hs'' hCL hC₀) (fun p hp => ?_) (fun p hp => ?_) hJ⟩
  · have z : h₂.get? p.1 = some p.2 := hs₂.extBut _ _ (N' p hp).2.1 (N' p hp).1
    refine ⟨hs''.extBut _ _ ?_ z, (N' p hp).2⟩
    rcases List.mem_cons.mp hp with rfl | hp
    · exact Ne.symm hCD
    · exact fun e => off' p hp (by rw [e]; exact List.mem_cons_self)
  · intro h
    rw [List.mem_singleton] at h
    exact off' p hp (by rw [h]; exact List.mem_cons_of_mem _ List.mem_cons_self)
/-- [elt for x in l], l a list -/
theorem lcG_list {elt : Expr} {x : Str} {px : Pos} {scope : Scope} {cl : List (Str × Addr)} {mf : Addr → Str → Option Value} {Q : Addr → Shared → Prop} {l : Addr} {ot : Obj} {vs : List Value} {nt : Nat} {news : Ledger}
    (hh : A.handled = none) (F : Fr h₀ L s.heap m) (N : News h₀ L s.heap news) (hm : (l, ot) ∈ news) (hc : ot.cls = .type "list") (hd : ot.data = .seq vs.toArray nt) (hsz : vs.length ≤ 10000)
    (hkind : scope.kind = .function) (hx : scope.names.lookup x = some .local)
    (J : Nat → List Value → Ledger → Prop) (h0 : J 0 [] news)
    (step : ∀ (i : Nat) (v : Value) ys news₁ own C oC D mC h tk (as : List Addr) (E' : Value → Shared → Prop), vs[i]? = some v → J i ys news₁ → mC x = some v → NsObj oC mC → Fr h₀ L h m → News h₀ L h (((C, oC) :: (D, lst ys) :: own) ++ news₁) → Off as news₁ → Apart as ((C, oC) :: (D, lst ys) :: own) →
      wpAny (model prog w) A (eval elt (compEnvC scope cl C env)) (fun y => TurnEnd h₀ L m { s with heap := h, toks := tk } ((C, oC) :: (D, lst ys) :: own) as (fun news' => J (i + 1) (ys ++ [y]) news')) E' { s with heap := h, toks := tk })
    (fin : ∀ D h tk ys news', Fr h₀ L h (mf D) → News h₀ L h ((D, lst ys) :: news') → Off [D] news' → J vs.length ys news' → Q D { s with heap := h, toks := tk }) :
    wpAny (model prog w) A (pyIter (.ref l)) (LcAtG prog w A h₀ L m env (.Name x px) elt scope cl mf Q) E s := by
  have hax := N _ hm
  have hT : s.heap.IsList l vs.toArray := ⟨ot, hax.1, hc, nt, hd⟩
  have hlt : l < s.heap.objs.size := Heap.lt_size hax.1
  have hLs : L < s.heap.objs.size := F.ns.lt
  refine wpAny_pyIter_list hT ?_
  have keep : ∀ b o', s.heap.get? b = some o' → (s.heap.push { cls := .type "list_iterator", data := .fields #[.ref l, .int 0 0] }).get? b = some o' := fun b o' e => Heap.get?_push_of_some _ e
  refine ⟨s.heap.objs.size, [s.heap.objs.size, l], [s.heap.objs.size], vs.toArray.size, _, _, _, news, fun i mC => ∃ v, vs[i]? = some v ∧ mC x = some v, J, rfl,
    KTurns.ofWalks (Walks.list hh s.heap.objs.size l (Nat.ne_of_lt hlt) vs.toArray) (fun i v s' Q E _ h => wpAny_pure h), fun s Q E st hQ => wpAny_pyIter_listiter st.1 hQ, ?_, ⟨⟨_, Heap.get?_push_size _ rfl, rfl, rfl⟩, hT.at fun o e => keep l o e⟩, ?_, F.keeps keep, N.grown keep, ?_, ?_, ?_, ?_, h0, ?_, fun D h tk ys news' a b c d => fin D h tk ys news' a b c (by simpa using d)⟩
  · rw [List.size_toArray, sizeLine_eq]; omega
  · intro b hb
    simp only [List.mem_cons, List.not_mem_nil, or_false] at hb
    rw [Heap.size_push]
    rcases hb with rfl | rfl
    · exact Nat.lt_succ_self _
    · exact Nat.lt_succ_of_lt hlt
  · intro hL
    simp only [List.mem_cons, List.not_mem_nil, or_false] at hL
    rcases hL with hL | hL
    · exact Nat.ne_of_lt hLs hL
    · exact (N _ hm).2.1 hL.symm
  · intro b hb
    rw [List.mem_singleton] at hb
    subst hb
    exact fresh_above F (Nat.le_refl _)
  · intro p hp hb
    rw [List.mem_singleton] at hb
    exact Nat.ne_of_lt (Heap.lt_size (N p hp).1) hb
  · intro i v C h tk mC Q' E' hP hn hQ
    refine wpAny_assign_Name (wpAny_storeName_local (lookup_relabel_local hx) hn (fun h' hn' hs' => ?_) (by simp [compEnvC, relabel, hkind]))
    exact hQ h' _ _ ⟨v, by simpa using hP, by simp⟩ hn' fun c o hc e => hs'.extBut c o hc e
  · rintro i ys news₁ own C oC D mC h tk E' hi hJ ⟨v, hv, hmx⟩ hoC F' N' off hA
    refine step i v ys news₁ own C oC D mC h tk _ E' hv hJ hmx hoC F' N' off (hA ?_)
    intro i h st b hb
    rw [List.mem_singleton] at hb
    subst hb
    obtain ⟨o, e, hc, _⟩ := st.1
    exact ⟨o, e, NT.type hc (by decide)⟩
/-- [elt for x in l], l a list -/
theorem lcTG_list {ct elt : Expr} {x : Str} {px : Pos} {scope : Scope} {cl : List (Str × Addr)} {mf : Addr → Str → Option Value} {Q : Addr → Shared → Prop} {l : Addr} {ot : Obj} {vs : List Value} {nt : Nat} {news : Ledger}
    (hh : A.handled = none) (F : Fr h₀ L s.heap m) (N : News h₀ L s.heap news) (hm : (l, ot) ∈ news) (hc : ot.cls = .type "list") (hd : ot.data = .seq vs.toArray nt) (hsz : vs.length ≤ 10000)
    (hkind : scope.kind = .function) (hx : scope.names.lookup x = some .local)
    (J : Nat → List Value → Ledger → Prop) (h0 : J 0 [] news)
    (step : ∀ (i : Nat) (v : Value) ys news₁ own C oC D mC h tk (as : List Addr) (E' : Value → Shared → Prop), vs[i]? = some v → J i ys news₁ → mC x = some v → NsObj oC mC → Fr h₀ L h m → News h₀ L h (((C, oC) :: (D, lst ys) :: own) ++ news₁) → Off as news₁ → Apart as ((C, oC) :: (D, lst ys) :: own) →
      wpAny (model prog w) A (isTrue ct (compEnvC scope cl C env) (eval ct (compEnvC scope cl C env))) (fun ok s' => ok = true ∧ wpAny (model prog w) A (eval elt (compEnvC scope cl C env)) (fun y => TurnEnd h₀ L m { s with heap := h, toks := tk } ((C, oC) :: (D, lst ys) :: own) as (fun news' => J (i + 1) (ys ++ [y]) news')) E' s') E' { s with heap := h, toks := tk })
    (fin : ∀ D h tk ys news', Fr h₀ L h (mf D) → News h₀ L h ((D, lst ys) :: news') → Off [D] news' → J vs.length ys news' → Q D { s with heap := h, toks := tk }) :
    wpAny (model prog w) A (pyIter (.ref l)) (LcAtTG prog w A h₀ L m env ct (.Name x px) elt scope cl mf Q) E s := by
  have hax := N _ hm
  have hT : s.heap.IsList l vs.toArray := ⟨ot, hax.1, hc, nt, hd⟩
  have hlt : l < s.heap.objs.size := Heap.lt_size hax.1
  have hLs : L < s.heap.objs.size := F.ns.lt
  refine wpAny_pyIter_list hT ?_
  have keep : ∀ b o', s.heap.get? b = some o' → (s.heap.push { cls := .type "list_iterator", data := .fields #[.ref l, .int 0 0] }).get? b = some o' := fun b o' e => Heap.get?_push_of_some _ e
  refine ⟨s.heap.objs.size, [s.heap.objs.size, l], [s.heap.objs.size], vs.toArray.size, _, _, _, news, fun i mC => ∃ v, vs[i]? = some v ∧ mC x = some v, J, rfl,
    KTurns.ofWalks (Walks.list hh s.heap.objs.size l (Nat.ne_of_lt hlt) vs.toArray) (fun i v s' Q E _ h => wpAny_pure h), fun s Q E st hQ => wpAny_pyIter_listiter st.1 hQ, ?_, ⟨⟨_, Heap.get?_push_size _ rfl, rfl, rfl⟩, hT.at fun o e => keep l o e⟩, ?_, F.keeps keep, N.grown keep, ?_, ?_, ?_, ?_, h0, ?_, fun D h tk ys news' a b c d => fin D h tk ys news' a b c (by simpa using d)⟩
  · rw [List.size_toArray, sizeLine_eq]; omega
  · intro b hb
    simp only [List.mem_cons, List.not_mem_nil, or_false] at hb
    rw [Heap.size_push]
    rcases hb with rfl | rfl
    · exact Nat.lt_succ_self _
    · exact Nat.lt_succ_of_lt hlt
  · intro hL
    simp only [List.mem_cons, List.not_mem_nil, or_false] at hL
    rcases hL with hL | hL
    · exact Nat.ne_of_lt hLs hL
    · exact (N _ hm).2.1 hL.symm
  · intro b hb
    rw [List.mem_singleton] at hb
    subst hb
    exact fresh_above F (Nat.le_refl _)
  · intro p hp hb
    rw [List.mem_singleton] at hb
    exact Nat.ne_of_lt (Heap.lt_size (N p hp).1) hb
  · intro i v C h tk mC Q' E' hP hn hQ
    refine wpAny_assign_Name (wpAny_storeName_local (lookup_relabel_local hx) hn (fun h' hn' hs' => ?_) (by simp [compEnvC, relabel, hkind]))
    exact hQ h' _ _ ⟨v, by simpa using hP, by simp⟩ hn' fun c o hc e => hs'.extBut c o hc e
  · rintro i ys news₁ own C oC D mC h tk E' hi hJ ⟨v, hv, hmx⟩ hoC F' N' off hA
    refine step i v ys news₁ own C oC D mC h tk _ E' hv hJ hmx hoC F' N' off (hA ?_)
    intro i h st b hb
    rw [List.mem_singleton] at hb
    subst hb
    obtain ⟨o, e, hc, _⟩ := st.1
    exact ⟨o, e, NT.type hc (by decide)⟩
/-- a comprehension over enumerate -/
theorem lcAtG_enum {elt : Expr} {a b : Str} {pa pb tp : Pos} {kk : Nat} {scope : Scope} {cl : List (Str × Addr)} {mf : Addr → Str → Option Value} {Q : Addr → Shared → Prop} {s₂ : Shared} {e it l : Addr} {items : Array Value} {Sx : Nat → Heap → Prop} {news : Ledger}
    (hh : A.handled = none) (K : Inner prog w it l items Sx) (hE : IsEnum s₂.heap e it 0 .none) (hS : Sx 0 s₂.heap) (hei : e ≠ it) (hle : l ≠ e) (hli : l ≠ it)
    (F : Fr h₀ L s₂.heap m) (N : News h₀ L s₂.heap news) (he₀ : h₀.get? e = none) (hi₀ : h₀.get? it = none) (off : Off [e, it] news) (hLf : L ∉ [e, it, l]) (hl : l < s₂.heap.objs.size) (hsz : items.size ≤ sizeLine)
    (hkind : scope.kind = .function) (hxa : scope.names.lookup a = some .local) (hxb : scope.names.lookup b = some .local) (hab : a ≠ b)
    (J : Nat → List Value → Ledger → Prop) (h0 : J 0 [] news)
    (step : ∀ i t x ys news₁ own C oC D mC h tk (E' : Value → Shared → Prop), items[i]? = some x → J i ys news₁ → mC a = some (.int (i : Int) t) → mC b = some x → NsObj oC mC → Fr h₀ L h m → News h₀ L h (((C, oC) :: (D, lst ys) :: own) ++ news₁) → Off [C, D, e, it] news₁ → Apart [C, D, e, it] ((C, oC) :: (D, lst ys) :: own) →
      wpAny (model prog w) A (eval elt (compEnvC scope cl C env)) (fun y => TurnEnd h₀ L m { s₂ with heap := h, toks := tk } ((C, oC) :: (D, lst ys) :: own) [C, D, e, it] (fun news' => J (i + 1) (ys ++ [y]) news')) E' { s₂ with heap := h, toks := tk })
    (fin : ∀ D h tk ys news', Fr h₀ L h (mf D) → News h₀ L h ((D, lst ys) :: news') → Off [D] news' → J items.size ys news' → Q D { s₂ with heap := h, toks := tk }) :
    LcAtG prog w A h₀ L m env (.Tuple [.Name a pa, .Name b pb] kk tp) elt scope cl mf Q (.ref e) s₂ := by
  refine ⟨e, [e, it, l], [e, it], items.size, _, _, _, news, fun i mC => ∃ t x, items[i]? = some x ∧ mC a = some (.int (i : Int) t) ∧ mC b = some x, J, rfl, enumTurns hh e it l hei hle hli items K, ?_, hsz, ⟨⟨_, hE⟩, hS⟩, ?_, F, N, hLf, ?_, off, ?_, h0, ?_, fin⟩
  · rintro s Q E ⟨⟨old, he⟩, _⟩ hQ
    exact wpAny_pyIter_enum he hQ
  · intro c hc
    simp only [List.mem_cons, List.not_mem_nil, or_false] at hc
    rcases hc with rfl | rfl | rfl
    · exact Heap.lt_size hE
    · exact K.lt hS
    · exact hl
  · intro c hc
    simp only [List.mem_cons, List.not_mem_nil, or_false] at hc
    rcases hc with rfl | rfl
    · exact he₀
    · exact hi₀
  · rintro i v C h tk mC Q E' ⟨T, t, x, rfl, hx, hT⟩ hn hQ
    refine kcp_assign (env := compEnvC scope cl C env) hh hT (lookup_relabel_local hxa) (lookup_relabel_local hxb) (by simp [compEnvC, relabel, hkind]) hn fun h' tk' hn' hk' => ?_
    exact hQ h' tk' _ ⟨t, x, hx, by simp [hab], by simp⟩ hn' hk'
  · rintro i ys news₁ own C oC D mC h tk E' hi hJ ⟨t, x, hx, ha, hb⟩ hoC F' N' off' hA
    exact step i t x ys news₁ own C oC D mC h tk E' hx hJ ha hb hoC F' N' off' (hA (enumNT K))

/-- .. over the items of a list -/
theorem lcG_enum_list {elt : Expr} {a b : Str} {pa pb tp : Pos} {kk : Nat} {scope : Scope} {cl : List (Str × Addr)} {mf : Addr → Str → Option Value} {Q : Addr → Shared → Prop} {t : Addr} {ot : Obj} {vs : List Value} {nt : Nat} {news : Ledger}
    (hh : A.handled = none) (F : Fr h₀ L s.heap m) (N : News h₀ L s.heap news) (hm : (t, ot) ∈ news) (hc : ot.cls = .type "list") (hd : ot.data = .seq vs.toArray nt) (hsz : vs.length ≤ sizeLine)
    (hkind : scope.kind = .function) (hxa : scope.names.lookup a = some .local) (hxb : scope.names.lookup b = some .local) (hab : a ≠ b)
    (J : Nat → List Value → Ledger → Prop) (h0 : J 0 [] news)
    (step : ∀ i tk₀ x ys news₁ own C oC D mC h tk (as : List Addr) (E' : Value → Shared → Prop), vs[i]? = some x → J i ys news₁ → mC a = some (.int (i : Int) tk₀) → mC b = some x → NsObj oC mC → Fr h₀ L h m → News h₀ L h (((C, oC) :: (D, lst ys) :: own) ++ news₁) → Off as news₁ → Apart as ((C, oC) :: (D, lst ys) :: own) →
      wpAny (model prog w) A (eval elt (compEnvC scope cl C env)) (fun y => TurnEnd h₀ L m { s with heap := h, toks := tk } ((C, oC) :: (D, lst ys) :: own) as (fun news' => J (i + 1) (ys ++ [y]) news')) E' { s with heap := h, toks := tk })
    (fin : ∀ D h tk ys news', Fr h₀ L h (mf D) → News h₀ L h ((D, lst ys) :: news') → Off [D] news' → J vs.length ys news' → Q D { s with heap := h, toks := tk }) :
    wpAny (model prog w) A (call (.type "enumerate") [.ref t]) (fun xv s₁ => wpAny (model prog w) A (pyIter xv) (LcAtG prog w A h₀ L m env (.Tuple [.Name a pa, .Name b pb] kk tp) elt scope cl mf Q) E s₁) E s := by
  have hax := N _ hm
  have hT : s.heap.IsList t vs.toArray := ⟨ot, hax.1, hc, nt, hd⟩
  have hlt : t < s.heap.objs.size := Heap.lt_size hax.1
  have hLs : L < s.heap.objs.size := F.ns.lt
  refine call_enumerate_list hT fun h' hE hI hsize hk => ?_
  refine wpAny_pyIter_enum hE ?_
  refine lcAtG_enum (s₂ := { s with heap := h' }) hh (innerList s.heap.objs.size t (Nat.ne_of_lt hlt) vs.toArray) hE ⟨hI, hT.at fun o e => hk t o e⟩ (Nat.succ_ne_self _) (ktu_ne 1 hlt) (Nat.ne_of_lt hlt) (F.keeps hk) (N.grown hk)
    (fresh_above F (Nat.le_succ _)) (fresh_above F (Nat.le_refl _)) (fun p hp => ?_) ?_ (by show t < h'.objs.size; rw [hsize]; exact Nat.lt_of_lt_of_le hlt (Nat.le_add_right _ _)) (by simpa using hsz) hkind hxa hxb hab J h0 ?_ (fun D h tk ys news' a b c d => fin D h tk ys news' a b c (by simpa using d))
  · have := Heap.lt_size (N p hp).1
    simp only [List.mem_cons, List.not_mem_nil, or_false, not_or]
    exact ⟨ktu_ne 1 this, Nat.ne_of_lt this⟩
  · simp only [List.mem_cons, List.not_mem_nil, or_false, not_or]
    exact ⟨ktu_ne 1 hLs, Nat.ne_of_lt hLs, fun e => hax.2.1 e.symm⟩
  · intro i t x ys news₁ own C oC D mC h tk E' hx hJ ha hb hoC F' N' off' hA
    exact step i t x ys news₁ own C oC D mC h tk _ E' (by simpa using hx) hJ ha hb hoC F' N' off' hA

end
end PKit17
section PKit18
set_option maxRecDepth 100000
set_option maxHeartbeats 1000000
open PyProof.Rows.LCg (NsObj lst ns_obj lst_snoc)
/-- the values are polynomials -/
inductive PolysIn (w : World) (ns : Ledger) : List Value → List (List (List Int × Int)) → Prop
  | nil : PolysIn w ns [] []
  | cons {x : Value} {P : List (List Int × Int)} {vs : List Value} {Ps : List (List (List Int × Int))} : PolyIn w ns P x → PolysIn w ns vs Ps → PolysIn w ns (x :: vs) (P :: Ps)
theorem PolysIn.length {w : World} {ns : Ledger} : ∀ {vs : List Value} {Ls : List (List (List Int × Int))}, PolysIn w ns vs Ls → vs.length = Ls.length
  | _, _, .nil => rfl
  | _, _, .cons _ h => by simp [h.length]
theorem PolysIn.get {w : World} {ns : Ledger} : ∀ {vs : List Value} {Ls : List (List (List Int × Int))} {i : Nat} {v : Value}, PolysIn w ns vs Ls → vs[i]? = some v → ∃ P, Ls[i]? = some P ∧ PolyIn w ns P v
  | _, _, i, v, .nil, h => by simp at h
  | _, _, 0, v, .cons h1 _, h => by simp only [List.getElem?_cons_zero, Option.some.injEq] at h; subst h; exact ⟨_, rfl, h1⟩
  | _, _, i + 1, v, .cons _ h3, h => by simp only [List.getElem?_cons_succ] at h ⊢; exact h3.get h
theorem PolysIn.mono {w : World} {ns ns' : Ledger} (hs : ∀ p ∈ ns, p ∈ ns') : ∀ {vs : List Value} {Ls : List (List (List Int × Int))}, PolysIn w ns vs Ls → PolysIn w ns' vs Ls
  | _, _, .nil => .nil
  | _, _, .cons h2 h3 => .cons (h2.mono hs) (h3.mono hs)
theorem PolysIn.snoc {w : World} {ns : Ledger} {x : Value} {P : List (List Int × Int)} (h2 : PolyIn w ns P x) : ∀ {vs : List Value} {Ls : List (List (List Int × Int))}, PolysIn w ns vs Ls → PolysIn w ns (vs ++ [x]) (Ls ++ [P])
  | _, _, .nil => .cons h2 .nil
  | _, _, .cons g2 g3 => .cons g2 (g3.snoc h2)
theorem TupsIn.take {ns : Ledger} : ∀ {vs : List Value} {Ls : List (List Int)}, TupsIn ns vs Ls → ∀ k : Nat, TupsIn ns (vs.take k) (Ls.take k)
  | _, _, _, 0 => .nil
  | _, _, .nil, _ + 1 => .nil
  | _, _, .cons h g, k + 1 => .cons h (g.take k)
theorem TupsIn.drop {ns : Ledger} : ∀ {vs : List Value} {Ls : List (List Int)}, TupsIn ns vs Ls → ∀ k : Nat, TupsIn ns (vs.drop k) (Ls.drop k)
  | _, _, h, 0 => h
  | _, _, .nil, _ + 1 => .nil
  | _, _, .cons _ g, k + 1 => g.drop k
theorem TupsIn.append {ns : Ledger} {us : List Value} {Ms : List (List Int)} (b : TupsIn ns us Ms) : ∀ {vs : List Value} {Ls : List (List Int)}, TupsIn ns vs Ls → TupsIn ns (vs ++ us) (Ls ++ Ms)
  | _, _, .nil => b
  | _, _, .cons h g => .cons h (TupsIn.append b g)
section
variable {prog : Program} {w : World} {A : Around} {E : Value → Shared → Prop} {s : Shared} {h₀ : Heap} {L : Addr} {m : Str → Option Value} {env : Env} {news : Ledger}
/-- an item of a list -/
theorem item_listS {value slice : Expr} {l : Addr} {o : Obj} {vs : List Value} {nt : Nat} {i : Nat} {u : Tok} {x : Value} {Q : Value → Shared → Prop} (N : News h₀ L s.heap news) (hm : (l, o) ∈ news) (hc : o.cls = .type "list") (hd : o.data = .seq vs.toArray nt) (hx : vs[i]? = some x) (hi : i < 10000) (h : Q x s)
    (hs : subscripted slice false (.ref l) (.int (i : Int) u) = operate [.ref l, .int i u] (getItem (.ref l) (.int i u)) := by with_unfolding_all rfl) : wpAny (model prog w) A (subscriptTail value slice (.ref l) (.int (i : Int) u)) Q E s := by
  have hl : s.heap.IsList l vs.toArray := ⟨o, (N _ hm).1, hc, nt, hd⟩
  exact tail_any hl.typeIs slot_list_getitem.lookup (wpAny_getItem_list hl (by omega) (by omega) (by simpa using hx) h) hs
/-- a slice's begin -/
theorem slice_uptoS {value slice : Expr} {l : Addr} {o : Obj} {vs : List Value} {nt : Nat} {i : Nat} {u : Tok} {Q : Value → Shared → Prop} (F : Fr h₀ L s.heap m) (N : News h₀ L s.heap news) (hm : (l, o) ∈ news) (hc : o.cls = .type "list") (hd : o.data = .seq vs.toArray nt) (hsz : vs.length ≤ 10000)
    (h : ∀ D h', Fr h₀ L h' m → News h₀ L h' ((D, { cls := .type "list", data := .seq (vs.take i).toArray }) :: news) → Q (.ref D) { s with heap := h' })
    (hs : subscripted slice false (.ref l) (.ref s.heap.objs.size) = operate [.ref s.heap.objs.size, .ref l] (getItem (.ref l) (.ref s.heap.objs.size))) (ht : ∀ r, letTemporaryGo value (.ref l) r = pure ()) :
    wpAny (model prog w) A (subscriptTail value slice (.ref l) (.ref s.heap.objs.size)) Q E { s with heap := s.heap.push { cls := .type "slice", data := .fields #[.none, .int (i : Int) u, .none] } } := by
  have hl : s.heap.IsList l vs.toArray := ⟨o, (N _ hm).1, hc, nt, hd⟩
  refine kmk_slice F N hl .none (.int _ _) (fun D h' F' N' _ => h D h' F' ?_) hs ht (by rw [List.size_toArray, sizeLine_eq]; omega)
  rw [slicePick_upto'] at N'
  exact N'
theorem slice_fromS {value slice : Expr} {l : Addr} {o : Obj} {vs : List Value} {nt : Nat} {i : Nat} {k : Int} {u : Tok} {Q : Value → Shared → Prop} (F : Fr h₀ L s.heap m) (N : News h₀ L s.heap news) (hm : (l, o) ∈ news) (hc : o.cls = .type "list") (hd : o.data = .seq vs.toArray nt) (hsz : vs.length ≤ 10000) (hk : k = (i : Int))
    (h : ∀ D h', Fr h₀ L h' m → News h₀ L h' ((D, { cls := .type "list", data := .seq (vs.drop i).toArray }) :: news) → Q (.ref D) { s with heap := h' })
    (hs : subscripted slice false (.ref l) (.ref s.heap.objs.size) = operate [.ref s.heap.objs.size, .ref l] (getItem (.ref l) (.ref s.heap.objs.size))) (ht : ∀ r, letTemporaryGo value (.ref l) r = pure ()) :
    wpAny (model prog w) A (subscriptTail value slice (.ref l) (.ref s.heap.objs.size)) Q E { s with heap := s.heap.push { cls := .type "slice", data := .fields #[.int k u, .none, .none] } } := by
  subst hk
  have hl : s.heap.IsList l vs.toArray := ⟨o, (N _ hm).1, hc, nt, hd⟩
  refine kmk_slice F N hl (.int _ _) .none (fun D h' F' N' _ => h D h' F' ?_) hs ht (by rw [List.size_toArray, sizeLine_eq]; omega)
  rw [slicePick_from'] at N'
  exact N'
/-- two lists glued -/
theorem add_listS {l b : Addr} {o o2 : Obj} {vs ws : List Value} {nt n2 : Nat} {Q : Value → Shared → Prop} (F : Fr h₀ L s.heap m) (N : News h₀ L s.heap news) (hm : (l, o) ∈ news) (hc : o.cls = .type "list") (hd : o.data = .seq vs.toArray nt) (hm2 : (b, o2) ∈ news) (hc2 : o2.cls = .type "list") (hd2 : o2.data = .seq ws.toArray n2)
    (hsz : vs.length + ws.length ≤ 10000000)
    (h : ∀ D h', Fr h₀ L h' m → News h₀ L h' ((D, { cls := .type "list", data := .seq (vs ++ ws).toArray }) :: news) → Q (.ref D) { s with heap := h' }) :
    wpAny (model prog w) A (binaryOp .Add (.ref l) (.ref b)) Q E s :=
  add_lists F N ⟨o, (N _ hm).1, hc, nt, hd⟩ ⟨o2, (N _ hm2).1, hc2, n2, hd2⟩ (fun h' F' N' => h _ h' F' N') (by rw [sizeLine_eq]; omega)
/-- an append to the list that stands first -/
theorem append_listS {D : Addr} {vs : List Value} {n : Nat} {x : Value} {rest all : Ledger} {Q : Value → Shared → Prop} (F : Fr h₀ L s.heap m) (N : News h₀ L s.heap all) (hs : ∀ p ∈ (D, ({ cls := .type "list", data := .seq vs.toArray n } : Obj)) :: rest, p ∈ all) (hap : ∀ p ∈ rest, p.1 ≠ D) (hsz : vs.length ≤ 10000)
    (h : ∀ h', Fr h₀ L h' m → News h₀ L h' ((D, { cls := .type "list", data := .seq (vs ++ [x]).toArray (n + 1) }) :: rest) → Q .none { s with heap := h' }) :
    wpAny (model prog w) A (call (.builtin "list.append") [.ref D, x]) Q E s :=
  append_head (hsz := by rw [List.size_toArray, sizeLine_eq]; omega) F (News.sub N hs) hap fun h' F' N' => h h' F' (by simpa using N')
end
section
variable {prog : Program} {w : World} {A : Around} {E : Value → Shared → Prop} {s : Shared} {h₀ : Heap} {m : Str → Option Value} {env : Env} {body : List Stmt} {Q : Flow → Shared → Prop}
end
/-- the first term -/
def headK (P : List (List Int × Int)) : List Int := match P with | [] => [] | q :: _ => q.1
def headC (P : List (List Int × Int)) : Int := match P with | [] => 0 | q :: _ => q.2
/-- a place where the walk waits -/
def Held (P : Prop) : Prop := P
theorem Held.out {P : Prop} (h : Held P) : P := h
theorem Held.intro {P : Prop} (h : P) : Held P := h
section
variable {prog : Program} {w : World} {A : Around} {E : Value → Shared → Prop} {s : Shared} {h₀ : Heap} {m : Str → Option Value} {env : Env} {target : Expr} {body : List Stmt} {Q : Flow → Shared → Prop}
/-- a for over any iterator of KTurns, whose target may change the ledger -/
theorem for_turnsX {s₂ : Shared} {I : Addr} {fp wr : List Addr} {n : Nat} {P Md : Nat → Value → Heap → Prop} {St : Nat → Heap → Prop} {news : Ledger} {AX : Nat → (Str → Option Value) → Ledger → (Str → Option Value) → Ledger → Prop}
    (W : KTurns prog w A target I fp wr n P Md St) (hLf : env.locals ∉ fp) (hwr : ∀ b ∈ wr, h₀.get? b = none) (off : Off wr news) (hst : St 0 s₂.heap) (F : Fr h₀ env.locals s₂.heap m) (N : News h₀ env.locals s₂.heap news)
    (J : Nat → (Str → Option Value) → Ledger → Prop) (h0 : J 0 m news)
    (asg : ∀ i v (h : Heap) tk m₁ ns own (Q : Unit → Shared → Prop) (E' : Value → Shared → Prop), P i v h → J i m₁ ns → (∀ p ∈ own, p.1 ∈ fp) → Fr h₀ env.locals h m₁ → News h₀ env.locals h (own ++ ns) → Off wr ns →
      (∀ h' tk' m₂ ns₂, AX i m₁ ns m₂ ns₂ → Fr h₀ env.locals h' m₂ → News h₀ env.locals h' (own ++ ns₂) → Off wr ns₂ → Q () { s₂ with heap := h', toks := tk' }) → wpAny (model prog w) A (assign target env v) Q E' { s₂ with heap := h, toks := tk })
    (step : ∀ i m₁ m₂ news₁ news₂ own h tk, i < n → J i m₁ news₁ → AX i m₁ news₁ m₂ news₂ → Fr h₀ env.locals h m₂ → News h₀ env.locals h (own ++ news₂) → Off wr news₂ → ((∀ i h, St i h → ∀ b ∈ wr, ∃ o, h.get? b = some o ∧ NT o) → Apart wr own) → (∀ p ∈ own, p.1 ∈ fp) →
      wpAny (model prog w) A (execs body env) (ForEnd h₀ env.locals { s₂ with heap := h, toks := tk } own wr Q (J (i + 1))) E { s₂ with heap := h, toks := tk })
    (done : ∀ h' tk m' news', Fr h₀ env.locals h' m' → News h₀ env.locals h' news' → J n m' news' → Q .next { s₂ with heap := h', toks := tk }) :
    TurnsAt prog w A h₀ env target body Q E (.ref I) s₂ := by
  refine ⟨I, fp, wr, n, P, Md, St, m, news, J, rfl, W, hLf, hwr, off, hst, F, N, h0, ?_, fun h' tk m' news' F' N' _ hJ => done h' tk m' news' F' N' hJ⟩
  intro i v m₁ news₁ h₁ tk₁ own hin hP hJ hoff hown hget hall hst₁ F₁ N₁
  refine asg i v h₁ tk₁ m₁ _ own _ _ hP hJ hown F₁ N₁ hoff fun h' tk' m₂ ns₂ hAX F₂ N₂ hoff₂ => ?_
  have hA : (∀ i h, St i h → ∀ b ∈ wr, ∃ o, h.get? b = some o ∧ NT o) → Apart wr own := by
    intro hc b hb
    obtain ⟨o, e, hn⟩ := hc _ _ hst₁ b hb
    exact ⟨o, hall b (W.sub b hb) (hwr b hb) o e, hn⟩
  refine wpAny_mono (step i m₁ m₂ news₁ ns₂ own h' tk' hin hJ hAX F₂ N₂ hoff₂ hA hown) (fun f s₃ x => ?_) fun _ _ e => e
  cases f with
  | ret v => exact x
  | brk => exact x
  | next => obtain ⟨h₃, tk₃, m₃, n₃, rfl, a, b, c, d⟩ := x; exact ⟨rfl, h₃, tk₃, m₃, n₃, rfl, a, b, c, d⟩
  | cont => obtain ⟨h₃, tk₃, m₃, n₃, rfl, a, b, c, d⟩ := x; exact ⟨rfl, h₃, tk₃, m₃, n₃, rfl, a, b, c, d⟩
/-- a pair unpacked into a local name and a cell -/
theorem asg_pairC {s₂ : Shared} {a b : Str} {pa pb tp : Pos} {kk : Nat} {T cb : Addr} {oc : Obj} {v₀ : Option Value} {x y : Value} {h : Heap} {tk : Nat} {m₁ : Str → Option Value} {own ns : Ledger} {Qu : Unit → Shared → Prop} {E' : Value → Shared → Prop}
    (hh : A.handled = none) (ha : env.kindOf a = some .local) (hk : env.scope.kind = .function) (hb : env.kindOf b = some .cell) (hcb : env.cells.lookup b = some cb) (hd : oc.data = .cell v₀)
    (hT : h.IsTuple T #[x, y]) (F : Fr h₀ env.locals h m₁) (N : News h₀ env.locals h (own ++ ((cb, oc) :: ns))) (h1 : ∀ p ∈ own, p.1 ≠ cb) (h2 : ∀ p ∈ ns, p.1 ≠ cb)
    (hQ : ∀ h' tk' oc', oc'.data = .cell (some y) → Fr h₀ env.locals h' (fun z => if z = a then some x else m₁ z) → News h₀ env.locals h' (own ++ ((cb, oc') :: ns)) → Qu () { s₂ with heap := h', toks := tk' }) :
    wpAny (model prog w) A (assign (.Tuple [.Name a pa, .Name b pb] kk tp) env (.ref T)) Qu E' { s₂ with heap := h, toks := tk } := by
  refine wpAny_assign_Tuple hh hT rfl rfl fun h₁ he₁ => ?_
  dsimp only at he₁
  have hL : env.locals ≠ h.objs.size := Nat.ne_of_lt F.ns.lt
  have hL₀ : ∀ (h : Heap) m, Fr h₀ env.locals h m → h₀.get? env.locals = none := fun h m F => Heap.get?_none_of_le F.above
  have F₁ : Fr h₀ env.locals h₁ m₁ := ⟨F.ns.at' fun o e => he₁ _ o hL e, fun c o e => he₁ c o (Nat.ne_of_lt (Heap.lt_size (F.keep c o e))) (F.keep c o e), F.above⟩
  have N₁ : News h₀ env.locals h₁ (own ++ ((cb, oc) :: ns)) := fun p hp => ⟨he₁ _ _ (Nat.ne_of_lt (Heap.lt_size (N p hp).1)) (N p hp).1, (N p hp).2⟩
  show wpAny _ _ (assignInOrder [assign (.Name a pa) env, assign (.Name b pb) env] [x, y]) _ _ _
  refine assignInOrder_cons ?_
  refine wpAny_assign_Name (wpAny_storeName_local ha F₁.ns (fun h₂ hn₂ hs₂ => ?_) (by rw [hk]; rfl))
  have F₂ := F₁.set hn₂ hs₂
  have N₂ := N₁.set hs₂
  refine assignInOrder_cons ?_
  have hmem := N₂ (cb, oc) (List.mem_append_right _ (.head _))
  refine wpAny_assign_Name (wpAny_storeName_cell hk hb hcb ⟨oc, hmem.1, hd⟩ fun h₃ hv hs => ?_)
  obtain ⟨o', ho', hd'⟩ := hv
  refine assignInOrder_nil ?_
  refine hQ h₃ _ o' hd' ⟨F₂.ns.sameBut hs (Ne.symm hmem.2.1), fun b ob e => (hs.2 b (fun q => ?_)).trans (F₂.keep b ob e), F₂.above⟩ (N₂.setAt h1 h2 hs ho')
  rw [q, hmem.2.2] at e; cases e
/-- for a, b in enumerate(l), b a cell -/
theorem for_enum_listC {a b : Str} {pa pb tp : Pos} {kk : Nat} {t cb : Addr} {oc₀ ot : Obj} {v₀ : Option Value} {vs : List Value} {nt : Nat} {news : Ledger}
    (hh : A.handled = none) (F : Fr h₀ env.locals s.heap m) (N : News h₀ env.locals s.heap ((cb, oc₀) :: news)) (hd₀ : oc₀.data = .cell v₀) (hm : (t, ot) ∈ news) (hc : ot.cls = .type "list") (hd : ot.data = .seq vs.toArray nt)
    (ha : env.kindOf a = some .local) (hk : env.scope.kind = .function) (hb : env.kindOf b = some .cell) (hcb : env.cells.lookup b = some cb)
    (J : (Str → Option Value) → Nat → (Str → Option Value) → Ledger → Prop) (h0 : J m 0 m news) (hJ : ∀ i m₁ ns, J m i m₁ ns → ∀ p ∈ ns, p.1 ≠ cb)
    (step : ∀ i tk₀ x m₁ news₁ own oc h tk (wr : List Addr), vs[i]? = some x → oc.data = .cell (some x) → J m i m₁ news₁ → Fr h₀ env.locals h (fun y => if y = a then some (.int (i : Int) tk₀) else m₁ y) → News h₀ env.locals h (own ++ ((cb, oc) :: news₁)) → Off wr ((cb, oc) :: news₁) → Apart wr own → (∀ p ∈ own, p.1 ∈ wr ∨ p.1 = t) →
      wpAny (model prog w) A (execs body env) (ForEnd h₀ env.locals { s with heap := h, toks := tk } own wr Q (fun m' ns => ∃ oc v ns', ns = (cb, oc) :: ns' ∧ oc.data = .cell v ∧ J m (i + 1) m' ns')) E { s with heap := h, toks := tk })
    (done : ∀ h' tk m' oc news', Fr h₀ env.locals h' m' → News h₀ env.locals h' ((cb, oc) :: news') → J m vs.length m' news' → Q .next { s with heap := h', toks := tk }) :
    wpAny (model prog w) A (call (.type "enumerate") [.ref t]) (fun xv s₁ => wpAny (model prog w) A (pyIter xv) (fun it s₂ => TurnsAt prog w A h₀ env (.Tuple [.Name a pa, .Name b pb] kk tp) body Q E it s₂) E s₁) E s := by
  have hax := N _ (List.mem_cons_of_mem _ hm)
  have hcc := (N (cb, oc₀) List.mem_cons_self).1
  have htc : t ≠ cb := hJ 0 m news h0 _ hm
  have hT : s.heap.IsList t vs.toArray := ⟨ot, hax.1, hc, nt, hd⟩
  have hlt : t < s.heap.objs.size := Heap.lt_size hax.1
  have hLs : env.locals < s.heap.objs.size := F.ns.lt
  refine call_enumerate_list hT fun h' hE hI hsize hk' => ?_
  refine wpAny_pyIter_enum hE ?_
  refine for_turnsX (s₂ := { s with heap := h' }) (AX := fun i m₁ ns m₂ ns₂ => ∃ tk₀ x oc oc' ns', vs[i]? = some x ∧ oc'.data = .cell (some x) ∧ ns = (cb, oc) :: ns' ∧ ns₂ = (cb, oc') :: ns' ∧ m₂ = fun y => if y = a then some (.int (i : Int) tk₀) else m₁ y)
    (enumTurns hh (s.heap.objs.size + 1) s.heap.objs.size t (Nat.succ_ne_self _) (ktu_ne 1 hlt) (Nat.ne_of_lt hlt) vs.toArray (innerList s.heap.objs.size t (Nat.ne_of_lt hlt) vs.toArray)) ?_ ?_ ?_ ⟨⟨_, hE⟩, hI, hT.at fun o e => hk' t o e⟩ (F.keeps hk') (N.grown hk')
    (fun i m' ns => ∃ oc v ns', ns = (cb, oc) :: ns' ∧ oc.data = .cell v ∧ J m i m' ns') ⟨oc₀, v₀, news, rfl, hd₀, h0⟩ ?_ ?_ (fun h tk m' news' a b c => by
      obtain ⟨oc, v, ns', rfl, _, hj⟩ := c
      exact done h tk m' oc ns' a b (by simpa using hj))
  · simp only [List.mem_cons, List.not_mem_nil, or_false, not_or]
    exact ⟨ktu_ne 1 hLs, Nat.ne_of_lt hLs, fun e => hax.2.1 e.symm⟩
  · intro c hc
    simp only [List.mem_cons, List.not_mem_nil, or_false] at hc
    rcases hc with rfl | rfl
    · exact fresh_above F (Nat.le_succ _)
    · exact fresh_above F (Nat.le_refl _)
  · intro p hp
    have := Heap.lt_size (N p hp).1
    simp only [List.mem_cons, List.not_mem_nil, or_false, not_or]
    exact ⟨ktu_ne 1 this, Nat.ne_of_lt this⟩
  · rintro i v h tk m₁ ns own Qu E' ⟨T, t1, x, rfl, hx, hT⟩ ⟨oc, v0, ns', rfl, hd1, hj⟩ hown F₁ N₁ hoff hQ
    have hne := hJ i m₁ ns' hj
    refine asg_pairC (v₀ := v0) hh ha hk hb hcb hd1 hT F₁ N₁ (fun p hp => ?_) hne fun h' tk' oc' hd' F' N' => hQ h' tk' _ _ ⟨t1, x, oc, oc', ns', by simpa using hx, hd', rfl, rfl, rfl⟩ F' N' (fun p hp => ?_)
    · have h1 := hoff (cb, oc) List.mem_cons_self
      have h2 := hown p hp
      simp only [List.mem_cons, List.not_mem_nil, or_false, not_or] at h1 h2
      rcases h2 with h2 | h2 | h2
      · exact fun e => h1.1 (e.symm.trans h2)
      · exact fun e => h1.2 (e.symm.trans h2)
      · exact fun e => htc (h2.symm.trans e)
    · rcases List.mem_cons.mp hp with rfl | hp
      · exact hoff (cb, oc) List.mem_cons_self
      · exact hoff p (List.mem_cons_of_mem _ hp)
  · rintro i m₁ m₂ news₁ news₂ own h tk hi ⟨oc, v0, ns', rfl, hd1, hj⟩ ⟨t1, x, oc1, oc', ns1, hx, hd', e1, rfl, rfl⟩ F' N' off' hA ho
    cases e1
    refine step i t1 x m₁ ns' own oc' h tk _ hx hd' hj F' N' off' (hA (enumNT (innerList (prog := prog) (w := w) s.heap.objs.size t (Nat.ne_of_lt hlt) vs.toArray))) (fun p hp => ?_)
    have := ho p hp
    simp only [List.mem_cons, List.not_mem_nil, or_false] at this ⊢
    rcases this with h | h | h
    · exact .inl (.inl h)
    · exact .inl (.inr h)
    · exact .inr h
end
theorem News.name {h₀ h : Heap} {L : Addr} {ns : Ledger} (_ : News h₀ L h ns) : ∃ ns', ns' = ns := ⟨ns, rfl⟩
section
variable {prog : Program} {w : World} {A : Around} {E : Value → Shared → Prop} {s : Shared} {h₀ : Heap} {L : Addr} {m : Str → Option Value} {env : Env} {news : Ledger}
theorem slice_fromS1 {value slice : Expr} {l : Addr} {o : Obj} {vs : List Value} {nt : Nat} {i : Nat} {u : Tok} {Q : Value → Shared → Prop} (F : Fr h₀ L s.heap m) (N : News h₀ L s.heap news) (hm : (l, o) ∈ news) (hc : o.cls = .type "list") (hd : o.data = .seq vs.toArray nt) (hsz : vs.length ≤ 10000)
    (h : ∀ D h', Fr h₀ L h' m → News h₀ L h' ((D, { cls := .type "list", data := .seq (vs.drop (i + 1)).toArray }) :: news) → Q (.ref D) { s with heap := h' })
    (hs : subscripted slice false (.ref l) (.ref s.heap.objs.size) = operate [.ref s.heap.objs.size, .ref l] (getItem (.ref l) (.ref s.heap.objs.size))) (ht : ∀ r, letTemporaryGo value (.ref l) r = pure ()) :
    wpAny (model prog w) A (subscriptTail value slice (.ref l) (.ref s.heap.objs.size)) Q E { s with heap := s.heap.push { cls := .type "slice", data := .fields #[.int ((i : Int) + 1) u, .none, .none] } } :=
  slice_fromS (i := i + 1) F N hm hc hd hsz (show (i : Int) + 1 = ((i + 1 : Nat) : Int) by omega) h hs ht
theorem fun_ao {a b : Str} {v1 v2 v3 v4 : Option Value} {m : Str → Option Value} : (fun z : Str => if z = b then v1 else if z = a then v2 else if z = b then v3 else if z = a then v4 else m z) = (fun z => if z = b then v1 else if z = a then v2 else m z) := by
  funext z
  by_cases h1 : z = b
  · simp [h1]
  · by_cases h2 : z = a
    · simp [h1, h2]
    · simp [h1, h2]
theorem News.cellFirst {h : Heap} {k d2 d c1 : Addr × Obj} {tl : Ledger} (N : News h₀ L h (k :: d2 :: (tl ++ (d :: c1 :: news)))) : News h₀ L h (c1 :: k :: d2 :: (tl ++ (d :: news))) := fun p hp => N p (by
  simp only [List.mem_cons, List.mem_append] at hp ⊢
  rcases hp with h | h | h | h | h | h
  · exact .inr (.inr (.inr (.inr (.inl h))))
  · exact .inl h
  · exact .inr (.inl h)
  · exact .inr (.inr (.inl h))
  · exact .inr (.inr (.inr (.inl h)))
  · exact .inr (.inr (.inr (.inr (.inr h)))))
/-- what is no cell lies not where a cell lies -/
theorem News.offCell {h : Heap} {all : Ledger} {cb : Addr} {oc : Obj} {v : Option Value} {p : Addr × Obj} (N : News h₀ L h all) (h1 : (cb, oc) ∈ all) (hd : oc.data = .cell v) (h2 : p ∈ all) (hn : ∀ v, p.2.data ≠ .cell v) : p.1 ≠ cb := fun e => by
  have e1 := (N _ h1).1
  have e2 := (N _ h2).1
  rw [e, e1] at e2
  have e3 := Option.some.inj e2
  have e4 : oc = p.2 := e3
  rw [e4] at hd
  exact hn v hd
theorem allLt_ne {d : Nat} {l : List (Addr × Obj)} (h : AllLt d l) : ∀ p ∈ l, p.1 ≠ d := by
  induction l with
  | nil => intro p hp; cases hp
  | cons q r ih =>
    intro p hp
    rcases List.mem_cons.mp hp with e | hp
    · rw [e]; exact Nat.ne_of_lt h.1
    · exact ih h.2 p hp
end
theorem turnTup3 {h₀ : Heap} {L : Addr} {m : Str → Option Value} {s₁ : Shared} {fix ns all : Ledger} {as : List Addr} {rest : Ledger → Prop} {h' : Heap} {tk : Nat} {r q t : Addr} {us qs ts : List Value} (off : Off as ns) (hA : Apart as fix)
    (F : Fr h₀ L h' m) (N : News h₀ L h' ((r, tupO us) :: (q, tupO qs) :: (t, tupO ts) :: all)) (sub : ∀ p ∈ fix ++ ns, p ∈ all) (hr : rest ((r, tupO us) :: (q, tupO qs) :: (t, tupO ts) :: ns)) :
    TurnEnd h₀ L m s₁ fix as rest { s₁ with heap := h', toks := tk } :=
  turnTup (tl := [(r, tupO us), (q, tupO qs), (t, tupO ts)]) off hA (allTup_cons _ _ (allTup_cons _ _ (allTup_cons _ _ allTup_nil))) F N (fun p hp => by
    rcases List.mem_append.mp hp with h | h
    · exact .tail _ (.tail _ (.tail _ (sub p (List.mem_append_left _ h))))
    · rcases List.mem_append.mp h with h | h
      · rcases List.mem_cons.mp h with rfl | h
        · exact .head _
        · rcases List.mem_cons.mp h with rfl | h
          · exact .tail _ (.head _)
          · rw [List.mem_singleton] at h; subst h
            exact .tail _ (.tail _ (.head _))
      · exact .tail _ (.tail _ (.tail _ (sub p (List.mem_append_right _ h))))) hr
theorem TupsIn.monoT {ns ns' : Ledger} (hs : SubT ns ns') : ∀ {vs : List Value} {Ls : List (List Int)}, TupsIn ns vs Ls → TupsIn ns' vs Ls
  | _, _, .nil => .nil
  | _, _, .cons h2 h3 => .cons (h2.monoT hs) (h3.monoT hs)
/-- a cell is no tuple -/
theorem subT_dropCell {tl news : Ledger} {d c : Addr × Obj} {v : Option Value} (hd : c.2.data = .cell v) : SubT (tl ++ (d :: c :: news)) (tl ++ (d :: news)) := fun p hp ⟨vs, ev⟩ => by
  rcases List.mem_append.mp hp with h | h
  · exact List.mem_append_left _ h
  · rcases List.mem_cons.mp h with rfl | h
    · exact List.mem_append_right _ (.head _)
    · rcases List.mem_cons.mp h with rfl | h
      · rw [ev] at hd; cases hd
      · exact List.mem_append_right _ (.tail _ h)
theorem nodup_ne {α : Type} {l : List α} (h : l.Nodup) {i j : Nat} {x y : α} (hi : l[i]? = some x) (hj : l[j]? = some y) (hij : i ≠ j) : x ≠ y := by
  rintro rfl
  obtain ⟨hi', e1⟩ := List.getElem?_eq_some_iff.mp hi
  obtain ⟨hj', e2⟩ := List.getElem?_eq_some_iff.mp hj
  exact hij ((List.getElem_inj h).mp (e1.trans e2.symm))
theorem nodup_drop_ne {l : List (List Int)} (h : l.Nodup) {i j : Nat} {x y : List Int} (hi : l[i]? = some x) (hj : (l.drop (i + 1))[j]? = some y) : lexNe y x = true := by
  rw [List.getElem?_drop] at hj
  rw [lexNe_eq, decide_eq_false (nodup_ne h hj hi (by omega))]
  rfl
end PKit18
set_option maxRecDepth 100000
set_option maxHeartbeats 8000000

theorem lines_30 : True := by
  k_with "X:call ref" => (k_here; (with_reducible show wpAny _ _ (call (Value.ref 178) _) _ _ _); k_dflt (
    refine' told_int (first_divisor_ok _ _ _ _ _ _ _ _ _ ?zqhx ?zqhl ?zqhc ?zqhd ?zqhv ?zqhn ?zqhz) ?zqk1 ?zqk2 ?zqk3 ?zqk4 ?zqk5 ?zqkK ?zqkd ?zqku ?_
    (case zqk4 => k_asm)
    (case zqhx => walk_at "m tup")
    (case zqhl => walk_at "m mem")
    (case zqhc => first | assumption | rfl)
    (case zqhd => first | assumption | rfl)
    (case zqhv => first | assumption | (refine HeadsIn.mono ?_ (by assumption); walk_at "m sub"))
    (case zqhn => assumption)
    (case zqhz => first | assumption | omega)
    walk_at "m args"
    intro _ _ _ _ _
    (try dsimp only)
    (try k_fold)))
  trivial
section
theorem lines_31 : True := by
  k_with "X:eval ListComp" => (k_here; k_dflt (refine lc_eval (by k_asm) (by with_unfolding_all rfl) (by decide) (by rfl) (by decide) ?_))
  trivial
theorem is_divided_ok (w : World) (Ls : List (List Int)) (ks : List Int) (x : Value) (l : Addr) (ot : Obj) (vs : List Value) (nt : Nat) (news : Ledger) (hx : TupIn news ks x) (hl : (l, ot) ∈ news) (hcl : ot.cls = .type "list") (hdl : ot.data = .seq vs.toArray nt) (hv : TupsIn news vs Ls) (hlen : ∀ q ∈ Ls, q.length = ks.length) (hsz : ks.length ≤ 1000) (hls : Ls.length ≤ 1000) :
    Told w 195 [x, .ref l] news 6 (fun _ v => v = .bool (decide (firstDiv Ls ks ≥ 0))) := by
  have hvl := hv.length
  unfold Told
  intro mean mg mb dp un gd cn cs a ccd cl outer A₀ base h₀ L m s Q E B F X N T hk hdp hun hret
  refine wpAny_call ?_
  k_dflt cell_enter
  k_steps
  refine lc_list (news := news) rfl (by assumption) (News.sub (by assumption) (by walk_at "m sub")) hl hcl hdl (by omega) rfl rfl
    (fun i ys ns => ∃ tl, ns = tl ++ news ∧ AllTup tl ∧ HeadsIn ns ys (Ls.take i)) ⟨[], rfl, allTup_nil, .nil⟩ ?_ ?_
  · rintro i v ys news₁ own C oC D mC h tk as E' hvi ⟨tl, rfl, ht, hh⟩ hmx hoC F9 N9 off hA
    obtain ⟨k1, hk1, hT1⟩ := hv.get hvi
    k_steps
    refine turnTup1 off hA (by assumption) (by assumption) (fun _ hp => hp) ⟨_ :: tl, rfl, allTup_cons _ _ ht, ?_⟩
    rw [take_snoc' hk1]
    exact HeadsIn.snoc List.mem_cons_self (hT1.mono (by walk_at "m sub")) (hh.mono (by walk_at "m sub"))
  · rintro D h tk ys news' F9 N9 off ⟨tl, rfl, ht, hh⟩
    rw [hvl, List.take_length] at hh
    k_steps
    exact told_end_val hret (by assumption) (by assumption) (by walk_at "m sub") rfl
end
theorem is_divided_okB (w : World) (Ls : List (List Int)) (ks : List Int) (x : Value) (l : Addr) (ot : Obj) (vs : List Value) (nt : Nat) (news : Ledger) (hx : TupIn news ks x) (hl : (l, ot) ∈ news) (hcl : ot.cls = .type "list") (hdl : ot.data = .seq vs.toArray nt) (hv : TupsIn news vs Ls) (hlen : ∀ q ∈ Ls, q.length = ks.length) (hsz : ks.length ≤ 1000) (hls : Ls.length ≤ 1000) (hf : firstDiv Ls ks = -1) :
    Told w 195 [x, .ref l] news 6 (fun _ v => v = .bool false) := by
  have h := is_divided_ok w Ls ks x l ot vs nt news hx hl hcl hdl hv hlen hsz hls
  rw [hf] at h
  exact h

theorem lines_32 : True := by
  k_with "X:call ref" => (k_here; (with_reducible show wpAny _ _ (call (Value.ref 195) _) _ _ _); k_dflt (
    refine' told_val (is_divided_okB _ _ _ _ _ _ _ _ ?zqhx ?zqhl ?zqhc ?zqhd ?zqhv ?zqhn ?zqhz ?zqhs ?zqhf) ?zqk1 ?zqk2 ?zqk3 ?zqk4 ?zqk5 ?zqkK ?zqkd ?zqku ?_
    (case zqk4 => k_asm)
    (case zqhl => walk_at "m mem")
    (case zqhx => walk_at "m tup")
    (case zqhc => first | assumption | rfl)
    (case zqhd => first | assumption | rfl)
    (case zqhv => first | assumption | (refine TupsIn.mono ?_ (by assumption); walk_at "m sub"))
    (case zqhn => assumption)
    (case zqhz => first | assumption | omega)
    (case zqhs => first | assumption | omega)
    (case zqhf => assumption)
    walk_at "m args"
    intro _ _ _ _
    (try dsimp only)
    (try k_fold)))
  trivial
theorem lines_33 : True := by
  k_with_none
  k_with "X:m sub" => (intro p hp; (repeat (first | exact hp | refine List.Mem.tail _ ?_ | refine List.mem_append_right _ ?_)))
  k_with "X:m mem" => (repeat (first | assumption | exact List.Mem.head _ | refine List.Mem.tail _ ?_ | refine List.mem_append_right _ ?_))
  k_with "X:m rel" => first | assumption | exact RatIn.mono (by assumption) (by walk_at "m sub") | exact ⟨_, _, _, rfl, by walk_at "m mem"⟩
  k_with "X:m args" => (
    (case zqk1 => k_asm)
    (case zqk2 => k_asm)
    (case zqk3 => k_asm)
    (case zqk5 => k_asm)
    (case zqkK => first | exact rfl | assumption)
    (case zqkd => ktr_room)
    (case zqku => ktr_units))
  k_with "X:m tup" => first | assumption | exact TupIn.mono (by assumption) (by walk_at "m sub") | exact ⟨_, _, rfl, by walk_at "m mem", by assumption⟩
  k_with "X:compareOp Eq ref ref" => (k_here; (with_reducible show wpAny _ _ (compareOp _ (Value.ref _) (Value.ref 71)) _ _ _); k_dflt (
    refine' eq_r0 ?zqhu ?zqhF ?zqhN ?zqhX ?zqhx ?zqhb ?_
    (case zqhN => k_asm)
    (case zqhx => walk_at "m rel")
    (case zqhu => ktr_units)
    (case zqhF => k_asm)
    (case zqhX => k_asm)
    (case zqhb => first | exact decide_eq_false (by assumption) | exact decide_eq_true (by assumption) | rfl)
    (try dsimp only)
    (try k_fold)))
  k_with "X:compareOp In ref ref" => (k_here; k_dflt (
    refine' in_polyB ?zqhu ?zqhN ?zqhd ?zqhk ?zqhc ?_
    (case zqhN => k_asm)
    (case zqhd => walk_at "m poly")
    (case zqhk => walk_at "m tup")
    (case zqhu => ktr_units)
    (case zqhc => assumption)
    (try simp only [Option.isSome_some, Option.isSome_none])
    (try k_fold)))
  k_with "X:subscriptTail" => (k_here; (with_reducible show wpAny _ _ (subscriptTail _ _ (Value.ref _) (Value.ref _)) _ _ _); k_dflt (
    refine' get_polyS ?zqhu ?zqhN ?zqhd ?zqhs1 ?zqhk ?zqhs2 ?zqhc ?_ (by rfl) (by intro _; rfl)
    (case zqhN => k_asm)
    (case zqhd => assumption)
    (case zqhs1 => walk_at "m sub")
    (case zqhk => assumption)
    (case zqhs2 => walk_at "m sub")
    (case zqhu => ktr_units)
    (case zqhc => assumption)
    intro _ _ _ _
    (try dsimp only)
    (try k_fold)))
  k_with "X:getMethod ref" => (k_here; (with_reducible show wpAny _ _ (getMethod (Value.ref _) (PySem.Str.ofString "pop") _) _ _ _); k_dflt (
    refine' pop_method ?zqhN ?zqhd ?_
    (case zqhN => k_asm)
    (case zqhd => walk_at "m poly")
    (try k_fold)))
  k_with "X:call builtin:dict.pop" => fail "by hand"
  k_with "X:eval DictComp" => (k_here; k_dflt (refine dc_eval (by k_asm) (by with_unfolding_all rfl) (by decide) (by rfl) (by decide) (by rfl) ?_))
  k_with "X:call ref" => (k_here; (with_reducible show wpAny _ _ (call (Value.ref 63) _) _ _ _); k_dflt (
    refine' told_int (gcd_ok _ _ _ _ _) ?zqk1 ?zqk2 ?zqk3 ?zqk4 ?zqk5 ?zqkK ?zqkd ?zqku ?_
    (case zqk4 => k_asm)
    walk_at "m args"
    intro _ _ _ _ _
    (try dsimp only)
    (try k_fold)))
  k_with "X:call ref" => (k_here; (with_reducible show wpAny _ _ (call (Value.ref 79) _) _ _ _); k_dflt (
    refine' told_rat (rat_ok _ _ _ ?zqh0 _ _ _) ?zqk1 ?zqk2 ?zqk3 ?zqk4 ?zqk5 ?zqkK ?zqkd ?zqku ?_
    (case zqk4 => k_asm)
    (case zqh0 => (first | rfl | simp))
    walk_at "m args"
    intro _ _ _ _ _ _ _
    (try dsimp only)
    (try k_fold)))
  k_with "X:call ref" => (k_here; (with_reducible show wpAny _ _ (call (Value.ref 86) _) _ _ _); k_dflt (
    refine' told_rat (radd_ok _ _ _ _ _ _ ?zqha ?zqhb) ?zqk1 ?zqk2 ?zqk3 ?zqk4 ?zqk5 ?zqkK ?zqkd ?zqku ?_
    (case zqk4 => k_asm)
    (case zqha => walk_at "m rel")
    (case zqhb => walk_at "m rel")
    walk_at "m args"
    intro _ _ _ _ _ _ _
    (try dsimp only)
    (try k_fold)))
  k_with "X:call ref" => (k_here; (with_reducible show wpAny _ _ (call (Value.ref 93) _) _ _ _); k_dflt (
    refine' told_rat (rmul_ok _ _ _ _ _ _ ?zqha ?zqhb ?zqhm) ?zqk1 ?zqk2 ?zqk3 ?zqk4 ?zqk5 ?zqkK ?zqkd ?zqku ?_
    (case zqk4 => k_asm)
    (case zqha => walk_at "m rel")
    (case zqhb => walk_at "m rel")
    (case zqhm => first | assumption | mul_fits)
    walk_at "m args"
    intro _ _ _ _ _ _ _
    (try dsimp only)
    (try k_fold)))
  k_with "X:call ref" => (k_here; (with_reducible show wpAny _ _ (call (Value.ref 100) _) _ _ _); k_dflt (
    refine' told_rat (rdiv_ok _ _ _ _ _ ?zqha ?zqhb) ?zqk1 ?zqk2 ?zqk3 ?zqk4 ?zqk5 ?zqkK ?zqkd ?zqku ?_
    (case zqk4 => k_asm)
    (case zqha => walk_at "m rel")
    (case zqhb => walk_at "m rel")
    walk_at "m args"
    intro _ _ _ _ _ _ _
    (try dsimp only)
    (try k_fold)))
  k_with "X:call ref" => (k_here; (with_reducible show wpAny _ _ (call (Value.ref 107) _) _ _ _); k_dflt (
    refine' told_rat (rneg_ok _ _ _ _ ?zqha) ?zqk1 ?zqk2 ?zqk3 ?zqk4 ?zqk5 ?zqkK ?zqkd ?zqku ?_
    (case zqk4 => k_asm)
    (case zqha => walk_at "m rel")
    walk_at "m args"
    intro _ _ _ _ _ _ _
    (try dsimp only)
    (try k_fold)))
  k_with "X:call ref" => (k_here; (with_reducible show wpAny _ _ (call (Value.ref 114) _) _ _ _); k_dflt (
    refine' told_rat (rinv_ok _ _ _ ?zqha) ?zqk1 ?zqk2 ?zqk3 ?zqk4 ?zqk5 ?zqkK ?zqkd ?zqku ?_
    (case zqk4 => k_asm)
    (case zqha => walk_at "m rel")
    walk_at "m args"
    intro _ _ _ _ _ _ _
    (try dsimp only)
    (try k_fold)))
  k_with "X:call ref" => (k_here; (with_reducible show wpAny _ _ (call (Value.ref 121) _) _ _ _); k_dflt (
    refine' told_val (is_vast_ok _ _ _ _ ?zqha ?zqhb ?zqhc) ?zqk1 ?zqk2 ?zqk3 ?zqk4 ?zqk5 ?zqkK ?zqkd ?zqku ?_
    (case zqk4 => k_asm)
    (case zqha => walk_at "m rel")
    (case zqhb => first | assumption | omega)
    (case zqhc => first | assumption | omega)
    walk_at "m args"
    intro _ _ _ _
    (try dsimp only)
    (try k_fold)))
  k_with "X:call ref" => (k_here; (with_reducible show wpAny _ _ (call (Value.ref 39) _) _ _ _); k_dflt (
    refine' told_val (order_key_ok _ _ _ _) ?zqk1 ?zqk2 ?zqk3 ?zqk4 ?zqk5 ?zqkK ?zqkd ?zqku ?_
    (case zqk4 => k_asm)
    walk_at "m args"
    intro _ _ _ _
    (try dsimp only)
    (try k_fold)))
  k_with "X:call ref" => (k_here; (with_reducible show wpAny _ _ (call (Value.ref 44) _) _ _ _); k_dflt (
    refine' told_tup (pprod_ok _ _ _ _ _ _ ?zqha ?zqhb ?zqhl ?zqhz) ?zqk1 ?zqk2 ?zqk3 ?zqk4 ?zqk5 ?zqkK ?zqkd ?zqku ?_
    (case zqk4 => k_asm)
    (case zqha => walk_at "m tup")
    (case zqhb => walk_at "m tup")
    (case zqhl => first | assumption | omega)
    (case zqhz => first | assumption | omega)
    walk_at "m args"
    intro _ _ _ _ _ _ _
    (try dsimp only)
    (try k_fold)))
  k_with "X:call ref" => (k_here; (with_reducible show wpAny _ _ (call (Value.ref 56) _) _ _ _); k_dflt (
    refine' told_tup (pquot_ok _ _ _ _ _ _ ?zqha ?zqhb ?zqhl ?zqhz) ?zqk1 ?zqk2 ?zqk3 ?zqk4 ?zqk5 ?zqkK ?zqkd ?zqku ?_
    (case zqk4 => k_asm)
    (case zqha => walk_at "m tup")
    (case zqhb => walk_at "m tup")
    (case zqhl => first | assumption | omega)
    (case zqhz => first | assumption | omega)
    walk_at "m args"
    intro _ _ _ _ _ _ _
    (try dsimp only)
    (try k_fold)))
  k_with "X:call ref" => (k_here; (with_reducible show wpAny _ _ (call (Value.ref 51) _) _ _ _); k_dflt (
    refine' told_val (pdiv_ok _ _ _ _ _ _ ?zqha ?zqhb ?zqhl ?zqhz) ?zqk1 ?zqk2 ?zqk3 ?zqk4 ?zqk5 ?zqkK ?zqkd ?zqku ?_
    (case zqk4 => k_asm)
    (case zqha => walk_at "m tup")
    (case zqhb => walk_at "m tup")
    (case zqhl => first | assumption | omega)
    (case zqhz => first | assumption | omega)
    walk_at "m args"
    intro _ _ _ _
    (try dsimp only)
    (try k_fold)))
  k_with "X:call type:dict" => (k_here; (with_reducible show wpAny _ _ (call (Value.type "dict") [Value.ref _]) _ _ _); k_dflt (
    refine' copy_poly ?zqhF ?zqhN ?zqhB ?zqhd ?zqhP ?zqhH ?zqhz ?_
    (case zqhF => k_asm)
    (case zqhN => k_asm)
    (case zqhd => walk_at "m poly")
    (case zqhB => exact big_of (by k_asm))
    (case zqhP => assumption)
    (case zqhH => assumption)
    (case zqhz => first | assumption | omega)
    intro _ _ _ _ _ _ _ _
    (try dsimp only)
    (try k_fold)))
  k_with "X:exec For Name Name cons nil" => (k_here; (with_unfolding_all refine' For_turns (by assumption) ?_); k_whole)
  k_with "X:call ref" => (k_here; (with_reducible show wpAny _ _ (call (Value.ref 135) _) _ _ _); k_dflt (
    refine' toldM_use (addterm_ok _ _ _ _ _ _ _ _ _ ?zqlo ?zqhne ?zqPO ?zqhx ?zqhy ?zqhc ?zqhz) ?zqk1 ?zqk2 ?zqk3 ?zqk4 ?zqhf ?zqk5 ?zqkK ?zqkd ?zqku ?_
    (case zqk4 => assumption)
    (case zqlo => assumption)
    (case zqhne => assumption)
    (case zqhf => assumption)
    (case zqPO => assumption)
    (case zqhx => walk_at "m tup")
    (case zqhy => walk_at "m rel")
    (case zqhc => assumption)
    (case zqhz => first | assumption | omega)
    walk_at "m args"
    intro _ _ _ _ _ _ _ _
    (try dsimp only)
    (try k_fold)))
  k_with "X:m poly" => first | assumption | exact PolyIn.mono (by assumption) (by walk_at "m sub") | exact ⟨_, _, rfl, by assumption, by walk_at "m mem", PolyObj.mono (by assumption) (by walk_at "m sub")⟩
  k_with "X:call ref" => (k_here; (with_reducible show wpAny _ _ (call (Value.ref 140) _) _ _ _); k_dflt (
    refine' toldN_use (mvneg_ok _ _ _ _ ?zqha ?zqhz) ?zqk1 ?zqk2 ?zqk3 ?zqk4 ?zqk5 ?zqkK ?zqkd ?zqku ?_
    (case zqk4 => k_asm)
    (case zqha => walk_at "m poly")
    (case zqhz => first | assumption | omega)
    walk_at "m args"
    intro _ _ _ _ _ _ _ _ _ _ _
    (try dsimp only)
    (try k_fold)))
  k_with "X:call ref" => (k_here; (with_reducible show wpAny _ _ (call (Value.ref 128) _) _ _ _); k_dflt (
    refine' toldN_use (mvadd_ok _ _ _ _ _ _ ?zqha ?zqhb ?zqhn ?zqhH ?zqhc ?zqhz) ?zqk1 ?zqk2 ?zqk3 ?zqk4 ?zqk5 ?zqkK ?zqkd ?zqku ?_
    (case zqk4 => k_asm)
    (case zqha => walk_at "m poly")
    (case zqhb => walk_at "m poly")
    (case zqhn => assumption)
    (case zqhH => assumption)
    (case zqhc => assumption)
    (case zqhz => first | assumption | omega)
    walk_at "m args"
    intro _ _ _ _ _ _ _ _ _ _ _
    (try dsimp only)
    (try k_fold)))
  k_with "X:call ref" => (k_here; (with_reducible show wpAny _ _ (call (Value.ref 147) _) _ _ _); k_dflt (
    refine' toldN_use (mvsub_ok _ _ _ _ _ _ ?zqha ?zqhb ?zqhn ?zqhH ?zqhc ?zqhz) ?zqk1 ?zqk2 ?zqk3 ?zqk4 ?zqk5 ?zqkK ?zqkd ?zqku ?_
    (case zqk4 => k_asm)
    (case zqha => walk_at "m poly")
    (case zqhb => walk_at "m poly")
    (case zqhn => assumption)
    (case zqhH => assumption)
    (case zqhc => assumption)
    (case zqhz => first | assumption | omega)
    walk_at "m args"
    intro _ _ _ _ _ _ _ _ _ _ _
    (try dsimp only)
    (try k_fold)))
  k_with "X:compareOp Gt ref ref" => (k_here; k_dflt (
    refine' gt_tupS ?zqhu ?zqhN ?zqhx ?zqh1 ?zqhy ?zqh2 ?zqhr ?_
    (case zqhN => k_asm)
    (case zqhx => assumption)
    (case zqh1 => walk_at "m sub")
    (case zqhy => assumption)
    (case zqh2 => walk_at "m sub")
    (case zqhu => ktr_units)
    (case zqhr => assumption)
    (try dsimp only)
    (try k_fold)))
  k_with "X:compareOp NotEq ref ref" => (k_here; k_dflt (
    refine' ne_tupS ?zqhu ?zqhN ?zqhx ?zqh1 ?zqhy ?zqh2 ?zqhr ?_
    (case zqhN => k_asm)
    (case zqhx => assumption)
    (case zqh1 => walk_at "m sub")
    (case zqhy => assumption)
    (case zqh2 => walk_at "m sub")
    (case zqhu => ktr_units)
    (case zqhr => assumption)
    (try dsimp only)
    (try k_fold)))
  k_with "X:call ref" => (k_here; (with_reducible show wpAny _ _ (call (Value.ref 152) _) _ _ _); k_dflt (
    refine' toldN_use (mvscale_ok _ _ _ _ ?zqha ?zqhz _ _ ?zqhy ?zqhc ?zqhm) ?zqk1 ?zqk2 ?zqk3 ?zqk4 ?zqk5 ?zqkK ?zqkd ?zqku ?_
    (case zqk4 => k_asm)
    (case zqha => walk_at "m poly")
    (case zqhy => walk_at "m rel")
    (case zqhz => first | assumption | omega)
    (case zqhc => first | assumption | omega)
    (case zqhm => assumption)
    walk_at "m args"
    intro _ _ _ _ _ _ _ _ _ _ _
    (try dsimp only)
    (try k_fold)))
  k_with "X:call ref" => (k_here; (with_reducible show wpAny _ _ (call (Value.ref 157) _) _ _ _); k_dflt (
    refine' toldN_use (mvshift_ok _ _ _ _ ?zqha ?zqhz _ _ ?zqht ?zqhl ?zqhs ?zqhi _ _ ?zqhy ?zqhc ?zqhm) ?zqk1 ?zqk2 ?zqk3 ?zqk4 ?zqk5 ?zqkK ?zqkd ?zqku ?_
    (case zqk4 => k_asm)
    (case zqha => walk_at "m poly")
    (case zqht => walk_at "m tup")
    (case zqhy => walk_at "m rel")
    (case zqhz => first | assumption | omega)
    (case zqhl => assumption)
    (case zqhs => first | assumption | omega)
    (case zqhi => assumption)
    (case zqhc => first | assumption | omega)
    (case zqhm => assumption)
    walk_at "m args"
    intro _ _ _ _ _ _ _ _ _ _ _
    (try dsimp only)
    (try k_fold)))
  k_with "X:call ref" => (k_here; (with_reducible show wpAny _ _ (call (Value.ref 164) _) _ _ _); k_dflt (
    refine' told_lead (mvlead_ok _ _ _ _ ?zqha ?zqhz _ _ ?zqhH _) ?zqk1 ?zqk2 ?zqk3 ?zqk4 ?zqk5 ?zqkK ?zqkd ?zqku ?_
    (case zqk4 => k_asm)
    (case zqha => walk_at "m poly")
    (case zqhz => first | assumption | omega)
    (case zqhH => assumption)
    walk_at "m args"
    intro _ _ _ _ _ _ _ _ _ _ _
    (try dsimp only)
    (try k_fold)))
  k_with "X:call ref" => (k_here; (with_reducible show wpAny _ _ (call (Value.ref 171) _) _ _ _); k_dflt (
    refine' toldN_use (mvmonic_ok _ _ _ _ ?zqha ?zqhz _ ?zqhH ?zqhm _) ?zqk1 ?zqk2 ?zqk3 ?zqk4 ?zqk5 ?zqkK ?zqkd ?zqku ?_
    (case zqk4 => k_asm)
    (case zqha => walk_at "m poly")
    (case zqhz => first | assumption | omega)
    (case zqhH => assumption)
    (case zqhm => assumption)
    walk_at "m args"
    intro _ _ _ _ _ _ _ _ _ _ _
    (try dsimp only)
    (try k_fold)))
  k_with "X:exec For Tuple Name cons nil" => (k_here; (with_unfolding_all refine' For_turns (by assumption) ?_); k_whole)
  k_with "X:exec For Tuple Call cons nil" => (k_here; (with_unfolding_all refine' For_turns (by assumption) ?_); k_whole)
  k_with "X:eval ListComp" => (k_here; k_dflt (refine lc_eval (by k_asm) (by with_unfolding_all rfl) (by decide) (by rfl) (by decide) ?_))
  trivial
set_option maxRecDepth 100000
set_option maxHeartbeats 2000000

theorem lines_34 : True := by
  k_with "X:m lsub" => (repeat' (first | exact subs_nil | refine subs_cons (by walk_at "m memr") ?_ | refine subs_app ?_ ?_ | walk_at "m subo"))
  k_with "X:m memr" => first | assumption | exact List.Mem.head _ | (refine List.Mem.tail _ ?_; walk_at "m memr"; done) | (refine List.mem_append_right _ ?_; walk_at "m memr"; done) | (refine List.mem_append_left _ ?_; walk_at "m memr"; done)
  k_with "X:m subo" => first | exact subs_refl | assumption | (refine subs_tl ?_; walk_at "m subo"; done) | (refine subs_inr ?_; walk_at "m subo"; done) | (refine subs_inl ?_; walk_at "m subo"; done)
  k_with "X:m ifs" => (repeat (first | exact rfl | refine (if_neg (by assumption)).trans ?_))
  k_with "X:m memo" => first | assumption | exact List.Mem.head _ | (refine List.mem_append_left _ ?_; walk_at "m memo"; done) | (refine List.mem_append_right _ ?_; walk_at "m memo"; done) | (refine List.Mem.tail _ ?_; walk_at "m memo"; done)
  k_with "X:call builtin:len" => (k_here; (with_reducible show wpAny _ _ (call (Value.builtin _) [Value.ref _]) _ _ _); k_dflt (
    refine' len_poly ?zqhN ?zqhd ?zqhz ?_
    (case zqhN => k_asm)
    (case zqhd => walk_at "m poly")
    (case zqhz => first | assumption | omega)
    intro _
    (try dsimp only)
    (try k_fold)))
  k_with "X:call ref" => (k_here; (with_reducible show wpAny _ _ (call (Value.ref 195) _) _ _ _); k_dflt (
    refine' told_val (is_divided_okB _ _ _ _ _ _ _ _ _ ?zqhx ?zqhl ?zqhc ?zqhd ?zqhv ?zqhn ?zqhz ?zqhs ?zqhf) ?zqk1 ?zqk2 ?zqk3 ?zqk4 ?zqk5 ?zqkK ?zqkd ?zqku ?_
    (case zqk4 => k_asm)
    (case zqhl => walk_at "m mem")
    (case zqhx => walk_at "m tup")
    (case zqhc => first | assumption | rfl)
    (case zqhd => first | assumption | rfl)
    (case zqhv => first | assumption | (refine TupsIn.mono ?_ (by assumption); walk_at "m sub"))
    (case zqhn => assumption)
    (case zqhz => first | assumption | omega)
    (case zqhs => first | assumption | omega)
    (case zqhf => assumption)
    walk_at "m args"
    intro _ _ _ _
    (try dsimp only)
    (try k_fold)))
  trivial
section
theorem lines_35 : True := by
  k_with "X:eval ListComp" => (k_here; (with_reducible show wpAny _ _ (eval (PySem.Expr.ListComp _ [⟨_, _, [_], 0⟩] _ _) _) _ _ _); k_dflt (refine lcT_eval (by k_asm) (by with_unfolding_all rfl) (by decide) (by rfl) (by decide) ?_))
  k_with "X:exec Assign cons ListComp" => (k_here; (with_reducible show wpAny _ _ (exec (PySem.Stmt.Assign _ (PySem.Expr.ListComp _ [⟨_, _, [], 0⟩] _ _) _) _) _ _ _); k_dflt (refine lcG_assign (by k_asm) (by with_unfolding_all rfl) (by with_unfolding_all rfl) (by decide) (by rfl) (by decide) (by rfl) (by rfl) ?_))
  k_with "X:exec Assign cons ListComp" => (k_here; (with_reducible show wpAny _ _ (exec (PySem.Stmt.Assign _ (PySem.Expr.ListComp _ [⟨_, _, [_], 0⟩] _ _) _) _) _ _ _); k_dflt (refine lcTG_assign (by k_asm) (by with_unfolding_all rfl) (by with_unfolding_all rfl) (by decide) (by rfl) (by decide) (by rfl) (by rfl) ?_))
  k_with "X:pyIter ref" => (k_here; (with_reducible show wpAny _ _ (pyIter (Value.ref _)) (LcAtT _ _ _ _ _ _ _ _ _ _ _ _ _) _ _); refine Held.out ?_)
  k_with "X:pyIter ref" => (k_here; (with_reducible show wpAny _ _ (pyIter (Value.ref _)) (LcAt _ _ _ _ _ _ _ _ _ _ _ _) _ _); refine Held.out ?_)
  k_with "X:pyIter ref" => (k_here; (with_reducible show wpAny _ _ (pyIter (Value.ref _)) (LcAtTG _ _ _ _ _ _ _ _ _ _ _ _ _ _) _ _); refine Held.out ?_)
  k_with "X:pyIter ref" => (k_here; (with_reducible show wpAny _ _ (pyIter (Value.ref _)) (LcAtG _ _ _ _ _ _ _ _ _ _ _ _ _) _ _); refine Held.out ?_)
  k_with "X:call builtin:list.append" => (k_here; (with_reducible show wpAny _ _ (call (Value.builtin _) [Value.ref _, _]) _ _ _); refine Held.out ?_)
  k_with "X:subscriptTail Name Slice ref ref" => (k_here; (with_reducible show wpAny _ _ (subscriptTail _ (PySem.Expr.Slice none (some _) none _) (Value.ref _) (Value.ref _)) _ _ _); k_dflt (
    refine' slice_uptoS ?zqF ?zqN ?zqm ?zqc ?zqd ?zqz ?_ ?zqs ?zqt
    (case zqF => k_asm)
    (case zqN => k_asm)
    (case zqm => walk_at "m mem")
    (case zqc => rfl)
    (case zqd => rfl)
    (case zqz => first | assumption | omega)
    (case zqs => with_unfolding_all rfl)
    (case zqt => (intro _; rfl))
    intro _ _ _ _
    (try dsimp only)
    (try k_fold)))
  k_with "X:subscriptTail Name Slice ref ref" => (k_here; (with_reducible show wpAny _ _ (subscriptTail _ (PySem.Expr.Slice (some _) none none _) (Value.ref _) (Value.ref _)) _ _ _); k_dflt (
    refine' slice_fromS1 ?zqF ?zqN ?zqm ?zqc ?zqd ?zqz ?_ ?zqs ?zqt
    (case zqF => k_asm)
    (case zqN => k_asm)
    (case zqm => walk_at "m mem")
    (case zqc => rfl)
    (case zqd => rfl)
    (case zqz => first | assumption | omega)
    (case zqs => with_unfolding_all rfl)
    (case zqt => (intro _; rfl))
    intro _ _ _ _
    (try dsimp only)
    (try k_fold)))
  k_with "X:binaryOp Add ref ref" => (k_here; (with_reducible show wpAny _ _ (binaryOp _ (Value.ref _) (Value.ref _)) _ _ _); k_dflt (
    refine' add_listS ?zqF ?zqN ?zqm ?zqc ?zqd ?zqm2 ?zqc2 ?zqd2 ?zqz ?_
    (case zqF => k_asm)
    (case zqN => k_asm)
    (case zqm => walk_at "m mem")
    (case zqc => rfl)
    (case zqd => rfl)
    (case zqm2 => walk_at "m mem")
    (case zqc2 => rfl)
    (case zqd2 => rfl)
    (case zqz => first | assumption | (simp only [List.length_take, List.length_drop]; omega))
    intro _ _ _ _
    (try dsimp only)
    (try k_fold)))
  k_with "X:subscriptTail" => (k_here; (with_reducible show wpAny _ _ (subscriptTail _ _ (Value.ref _) (Value.int (Nat.cast _) _)) _ _ _); k_dflt (
    refine' item_listS ?zqN ?zqm ?zqc ?zqd ?zqx ?zqi ?_ ?zqs
    (case zqN => k_asm)
    (case zqm => walk_at "m mem")
    (case zqc => rfl)
    (case zqd => rfl)
    (case zqx => assumption)
    (case zqi => omega)
    (case zqs => with_unfolding_all rfl)
    (try dsimp only)
    (try k_fold)))
  trivial
theorem minimal_basis_ok (w : World) (Bs : List (List (List Int × Int))) (n : Nat) (l : Addr) (ot : Obj) (vs : List Value) (nt : Nat) (t : Tok) (news : Ledger) (hl : (l, ot) ∈ news) (hcl : ot.cls = .type "list") (hdl : ot.data = .seq vs.toArray nt) (hv : PolysIn w news vs Bs) (hB : ∀ P ∈ Bs, P.length ≤ 10000 ∧ HeadMax P (headK P) (headC P) ∧ (headK P).length = n) (hn : n ≤ 1000) (hls : Bs.length ≤ 1000)
    (hnd : (Bs.map headK).Nodup) (hdv : ∀ i ks, (Bs.map headK)[i]? = some ks → firstDiv ((Bs.map headK).take i ++ (Bs.map headK).drop (i + 1)) ks = -1) :
    Told w 200 [.ref l, .str (Str.ofString "lex") t] news 8 (fun ns v => ∃ d k, v = .ref d ∧ (d, ({ cls := .type "list", data := .seq vs.toArray k } : Obj)) ∈ ns) := by
  have hvl := hv.length
  unfold Told
  intro mean mg mb dp un gd cn cs a ccd cl outer A₀ base h₀ L m s Q E B F X N T hk hdp hun hret
  refine wpAny_call ?_
  k_dflt (walk_at "m enterC")
  rename_i gA LA hA0 tkA FGA FA BA XA TA lA oA oB dA dB NC
  k_steps
  refine Held.intro ?_
  obtain ⟨nC, hC⟩ := News.name NC
  refine lcTG_list (news := nC) rfl (by assumption) (hC ▸ NC) (by rw [hC]; walk_at "m mem") hcl hdl (by omega) rfl rfl
    (fun i ys ns => ns = nC ∧ ys = vs.take i) ⟨rfl, rfl⟩ ?_ ?_
  · rintro i v ys news₁ own C oC D mC h tk as E' hvi ⟨rfl, rfl⟩ hmx hoC F9 N9 off hA
    subst hC
    obtain ⟨P1, hP1, hPI1⟩ := hv.get hvi
    obtain ⟨hPz, hPh, hPn⟩ := hB _ (List.mem_of_getElem? hP1)
    obtain ⟨d1, o1, rfl, lo1, hm1, PO1⟩ := hPI1
    have hPI : PolyIn w news P1 (.ref d1) := ⟨d1, o1, rfl, lo1, hm1, PO1⟩
    k_steps
    · have : 0 < P1.length := by obtain ⟨R1, e1, _⟩ := hPh; rw [e1]; exact Nat.succ_pos _
      exact decide_eq_true (by omega)
    · exact TurnEnd.intro (by assumption) (by assumption) _ (by walk_at "m sub") off ⟨rfl, (take_snoc' hvi).symm⟩
  · rintro D h tk ys news' F9 N9 off ⟨rfl, rfl⟩
    subst hC
    rw [List.take_length] at N9
    dsimp only
    k_steps
    refine Held.intro ?_
    obtain ⟨n2, hn2⟩ := News.name N9
    refine lcG_list (news := n2) rfl (by assumption) (hn2 ▸ N9) (by rw [hn2]; exact List.mem_cons_self) rfl rfl (by omega) rfl rfl
      (fun i ys ns => ∃ tl, ns = tl ++ n2 ∧ AllTup tl ∧ TupsIn ns ys ((Bs.map headK).take i)) ⟨[], rfl, allTup_nil, .nil⟩ ?_ ?_
    · rintro i v ys news₁ own C oC D2 mC h tk as E' hvi ⟨tl, rfl, ht, hh⟩ hmx hoC F8 N8 off8 hA
      subst hn2
      obtain ⟨P1, hP1, hPI1⟩ := hv.get hvi
      obtain ⟨hPz, hPh, hPn⟩ := hB _ (List.mem_of_getElem? hP1)
      obtain ⟨d1, o1, rfl, lo1, hm1, PO1⟩ := hPI1
      have hPI : PolyIn w news P1 (.ref d1) := ⟨d1, o1, rfl, lo1, hm1, PO1⟩
      k_steps
      refine turnTup3 off8 hA (by assumption) (by assumption) (by walk_at "m sub") ⟨_ :: _ :: _ :: tl, rfl, allTup_cons _ _ (allTup_cons _ _ (allTup_cons _ _ ht)), ?_⟩
      · rw [take_snoc' (show (Bs.map headK)[i]? = some (headK P1) by rw [List.getElem?_map, hP1]; rfl)]
        exact TupsIn.snoc ⟨_, _, rfl, by walk_at "m mem", by assumption⟩ (hh.mono (by walk_at "m sub"))
    · rintro D2 h tk ys news' F8 N8 off8 ⟨tl, rfl, ht, hh⟩
      subst hn2
      rw [hvl, List.take_of_length_le (by rw [List.length_map]; exact Nat.le_refl _)] at hh
      have hyl := hh.length
      rw [List.length_map] at hyl
      have hyl2 : ys.length ≤ 10000 := by omega
      dsimp only
      k_steps
      rename_i K h70 F70 N70 hK h6 F7 N7
      have N6 := News.cellFirst N7
      have hcm : (LA + 1 + 1, oA) ∈ (K, W.listOf #[] 0) :: (D2, LCg.lst ys) :: (tl ++ (D, LCg.lst vs) :: (LA + 1 + 1, oA) :: (LA + 1, oB) :: news) := by walk_at "m mem"
      have hKc : K ≠ LA + 1 + 1 := News.offCell N7 (p := (K, W.listOf #[] 0)) hcm dA (by walk_at "m mem") (fun v e => by cases e)
      have hbc : ∀ p ∈ (D2, LCg.lst ys) :: (tl ++ (D, LCg.lst vs) :: (LA + 1, oB) :: news), p.1 ≠ LA + 1 + 1 := by
        intro p hp
        rcases List.mem_cons.mp hp with rfl | hp
        · exact News.offCell N7 (p := (D2, LCg.lst ys)) hcm dA (by walk_at "m mem") (fun v e => by cases e)
        · rcases List.mem_append.mp hp with hp | hp
          · obtain ⟨us, e⟩ := ht p hp
            exact News.offCell N7 hcm dA (.tail _ (.tail _ (List.mem_append_left _ hp))) (fun v e' => by rw [e] at e'; cases e')
          · rcases List.mem_cons.mp hp with rfl | hp
            · exact News.offCell N7 (p := (D, LCg.lst vs)) hcm dA (by walk_at "m mem") (fun v e => by cases e)
            · rcases List.mem_cons.mp hp with rfl | hp
              · exact Nat.ne_of_lt (Nat.lt_succ_self _)
              · have h1 : @LT.lt Nat _ p.1 LA := lA p hp
                exact Nat.ne_of_lt (Nat.lt_of_lt_of_le h1 (Nat.le_add_right LA 2))
      have hbK : ∀ p ∈ (D2, LCg.lst ys) :: (tl ++ (D, LCg.lst vs) :: (LA + 1 + 1, oA) :: (LA + 1, oB) :: news), p.1 ≠ K := by
        intro p hp
        rcases List.mem_cons.mp hp with rfl | hp
        · exact Nat.ne_of_lt hK.1
        · exact allLt_ne hK.2 p hp
      refine for_enum_listC rfl F7 N6 dA (by walk_at "m mem") rfl rfl rfl rfl rfl rfl
        (fun mm i m₁ ns => ∃ av ov k, m₁ = (fun z => if z = Str.ofString "others" then ov else if z = Str.ofString "at" then av else mm z) ∧ ns = (K, ({ cls := .type "list", data := .seq (vs.take i).toArray k } : Obj)) :: (D2, LCg.lst ys) :: (tl ++ (D, LCg.lst vs) :: (LA + 1, oB) :: news)) ?_ ?_ ?_ ?_
      · refine ⟨none, none, 0, ?_, rfl⟩
        exact map_two (by rfl) (by rfl) fun z h1 h2 => by walk_at "m ifs"
      · rintro i m₁ ns ⟨av, ov, k, rfl, rfl⟩ p hp
        rcases List.mem_cons.mp hp with rfl | hp
        · exact hKc
        · exact hbc p hp
      · have hh2 : TupsIn (tl ++ (D, LCg.lst vs) :: (LA + 1, oB) :: news) ys (Bs.map headK) := hh.monoT (subT_dropCell dA)
        rintro i tk₀ x m₁ news₁ own oc h tk wr hxi hoc ⟨av, ov, k, rfl, rfl⟩ F5 N5 off5 hA5 ho5
        obtain ⟨k1, hk1, hT1⟩ := hh2.get hxi
        have hT1k := hT1
        obtain ⟨x1, xs, rfl, hx1, hxs⟩ := hT1
        have hll : k1.length = n := by
          obtain ⟨P, hP, rfl⟩ := List.mem_map.mp (List.mem_of_getElem? hk1)
          exact (hB P hP).2.2
        have hil : i < ys.length := (List.getElem?_eq_some_iff.mp hxi).1
        obtain ⟨vi, hvi⟩ : ∃ vi, vs[i]? = some vi := ⟨_, List.getElem?_eq_getElem (by omega)⟩
        have hLs : TupsIn (tl ++ (D, LCg.lst vs) :: (LA + 1, oB) :: news) (ys.take i ++ ys.drop (i + 1)) ((Bs.map headK).take i ++ (Bs.map headK).drop (i + 1)) := TupsIn.append (hh2.drop (i + 1)) (hh2.take i)
        have hLn : ∀ q ∈ (Bs.map headK).take i ++ (Bs.map headK).drop (i + 1), q.length = k1.length := by
          intro q hq
          have hq' : q ∈ Bs.map headK := (List.mem_append.mp hq).elim (fun h => List.mem_of_mem_take h) (fun h => List.mem_of_mem_drop h)
          obtain ⟨P, hP, rfl⟩ := List.mem_map.mp hq'
          rw [hll]
          exact (hB P hP).2.2
        have hLz : ((Bs.map headK).take i ++ (Bs.map headK).drop (i + 1)).length ≤ 1000 := by
          rw [List.length_append, List.length_take, List.length_drop, List.length_map]; omega
        have hLf := hdv i k1 hk1
        have hn1 : k1.length ≤ 1000 := by omega
        k_steps
        rename_i S1 hS1 FS1 NS1 S2 hS2 FS2 NS2
        refine Held.intro ?_
        obtain ⟨n5, hn5⟩ := News.name NS2
        refine lcT_list (news := n5) rfl FS2 (hn5 ▸ NS2) (by rw [hn5]; exact List.mem_cons_self) rfl rfl (by rw [List.length_drop]; omega) rfl rfl
          (fun j zs ns => ns = n5 ∧ zs = (ys.drop (i + 1)).take j) ⟨rfl, rfl⟩ ?_ ?_
        · rintro j v zs news₁ own2 C oC D3 mC h tk as E' hvj ⟨rfl, rfl⟩ hmx hoC F4 N4 off4 hA4
          subst hn5
          obtain ⟨k2, hk2, hT2⟩ := (hh2.drop (i + 1)).get hvj
          have hT2k := hT2
          obtain ⟨y1, yv, rfl, hy1, hyv⟩ := hT2
          have hne := nodup_drop_ne hnd hk1 hk2
          k_steps
          exact TurnEnd.intro (by assumption) (by assumption) _ (by walk_at "m sub") off4 ⟨rfl, (take_snoc' hvj).symm⟩
        · rintro D3 h tk zs news' F3 N3 off3 ⟨rfl, rfl⟩
          subst hn5
          rw [List.take_length] at N3
          dsimp only
          k_steps
          refine Held.intro ?_
          refine append_listS (D := K) (vs := vs.take i) (n := k) (rest := own ++ ((LA + 1 + 1, oc) :: (D2, LCg.lst ys) :: (tl ++ (D, LCg.lst vs) :: (LA + 1, oB) :: news))) (by assumption) (by assumption) ?hs ?hap ?hz ?_
          case hs =>
            walk_at "m lsub"
          case hap =>
            intro p hp
            rcases List.mem_append.mp hp with hp | hp
            · rcases ho5 p hp with h | h
              · exact fun e => off5 _ (.tail _ (.head _)) (by rw [← e]; exact h)
              · exact fun e => Nat.ne_of_lt hK.1 (h.symm.trans e)
            · rcases List.mem_cons.mp hp with rfl | hp
              · exact fun e => hKc e.symm
              · refine hbK p (subs_ap ?_ hp)
                walk_at "m lsub"
          case hz => rw [List.length_take]; omega
          intro h9 F2 N2
          (try dsimp only)
          k_steps
          refine ForEnd.next (by assumption) (by assumption) ((LA + 1 + 1, oc) :: (K, { cls := .type "list", data := .seq (vs.take i ++ [vi]).toArray (k + 1) }) :: (D2, LCg.lst ys) :: (tl ++ (D, LCg.lst vs) :: (LA + 1, oB) :: news)) ?_ ?_ ⟨oc, _, _, rfl, hoc, _, _, k + 1, fun_ao, by rw [take_snoc' hvi]⟩
          · walk_at "m lsub"
          · intro p hp
            rcases List.mem_cons.mp hp with rfl | hp
            · exact off5 _ (.head _)
            · rcases List.mem_cons.mp hp with rfl | hp
              · exact off5 (K, { cls := .type "list", data := .seq (vs.take i).toArray k }) (.tail _ (.head _))
              · exact off5 _ (.tail _ (.tail _ hp))
      · rintro h' tk m' oc news' F5 N5 ⟨av, ov, k, rfl, rfl⟩
        rw [show vs.take ys.length = vs from List.take_of_length_le (by omega)] at N5
        dsimp only
        k_steps
        exact told_end (R := fun ns v => ∃ d k, v = .ref d ∧ (d, ({ cls := .type "list", data := .seq vs.toArray k } : Obj)) ∈ ns) hret (by assumption) (by assumption) [(K, { cls := .type "list", data := .seq vs.toArray k })] (fun p hp => by
          rcases List.mem_cons.mp hp with rfl | hp
          · exact .tail _ (.head _)
          · exact .tail _ (.tail _ (.tail _ (List.mem_append_right _ (.tail _ (.tail _ hp)))))) ⟨K, k, rfl, List.mem_cons_self⟩
end

theorem lines_36 : True := by
  k_with_none
  k_with "X:m sub" => (intro p hp; (repeat (first | exact hp | refine List.Mem.tail _ ?_ | refine List.mem_append_right _ ?_)))
  k_with "X:m mem" => (repeat (first | assumption | exact List.Mem.head _ | refine List.Mem.tail _ ?_ | refine List.mem_append_right _ ?_))
  k_with "X:m rel" => first | assumption | exact RatIn.mono (by assumption) (by walk_at "m sub") | exact ⟨_, _, _, rfl, by walk_at "m mem"⟩
  k_with "X:m args" => (
    (case zqk1 => k_asm)
    (case zqk2 => k_asm)
    (case zqk3 => k_asm)
    (case zqk5 => k_asm)
    (case zqkK => first | exact rfl | assumption)
    (case zqkd => ktr_room)
    (case zqku => ktr_units))
  k_with "X:m tup" => first | assumption | exact TupIn.mono (by assumption) (by walk_at "m sub") | exact ⟨_, _, rfl, by walk_at "m mem", by assumption⟩
  k_with "X:compareOp Eq ref ref" => (k_here; (with_reducible show wpAny _ _ (compareOp _ (Value.ref _) (Value.ref 71)) _ _ _); k_dflt (
    refine' eq_r0 ?zqhu ?zqhF ?zqhN ?zqhX ?zqhx ?zqhb ?_
    (case zqhN => k_asm)
    (case zqhx => walk_at "m rel")
    (case zqhu => ktr_units)
    (case zqhF => k_asm)
    (case zqhX => k_asm)
    (case zqhb => first | exact decide_eq_false (by assumption) | exact decide_eq_true (by assumption) | rfl)
    (try dsimp only)
    (try k_fold)))
  k_with "X:compareOp In ref ref" => (k_here; k_dflt (
    refine' in_polyB ?zqhu ?zqhN ?zqhd ?zqhk ?zqhc ?_
    (case zqhN => k_asm)
    (case zqhd => walk_at "m poly")
    (case zqhk => walk_at "m tup")
    (case zqhu => ktr_units)
    (case zqhc => assumption)
    (try simp only [Option.isSome_some, Option.isSome_none])
    (try k_fold)))
  k_with "X:subscriptTail" => (k_here; (with_reducible show wpAny _ _ (subscriptTail _ _ (Value.ref _) (Value.ref _)) _ _ _); k_dflt (
    refine' get_polyS ?zqhu ?zqhN ?zqhd ?zqhs1 ?zqhk ?zqhs2 ?zqhc ?_ (by rfl) (by intro _; rfl)
    (case zqhN => k_asm)
    (case zqhd => assumption)
    (case zqhs1 => walk_at "m sub")
    (case zqhk => assumption)
    (case zqhs2 => walk_at "m sub")
    (case zqhu => ktr_units)
    (case zqhc => assumption)
    intro _ _ _ _
    (try dsimp only)
    (try k_fold)))
  k_with "X:getMethod ref" => (k_here; (with_reducible show wpAny _ _ (getMethod (Value.ref _) (PySem.Str.ofString "pop") _) _ _ _); k_dflt (
    refine' pop_method ?zqhN ?zqhd ?_
    (case zqhN => k_asm)
    (case zqhd => walk_at "m poly")
    (try k_fold)))
  k_with "X:call builtin:dict.pop" => fail "by hand"
  k_with "X:eval DictComp" => (k_here; k_dflt (refine dc_eval (by k_asm) (by with_unfolding_all rfl) (by decide) (by rfl) (by decide) (by rfl) ?_))
  k_with "X:call ref" => (k_here; (with_reducible show wpAny _ _ (call (Value.ref 63) _) _ _ _); k_dflt (
    refine' told_int (gcd_ok _ _ _ _ _) ?zqk1 ?zqk2 ?zqk3 ?zqk4 ?zqk5 ?zqkK ?zqkd ?zqku ?_
    (case zqk4 => k_asm)
    walk_at "m args"
    intro _ _ _ _ _
    (try dsimp only)
    (try k_fold)))
  k_with "X:call ref" => (k_here; (with_reducible show wpAny _ _ (call (Value.ref 79) _) _ _ _); k_dflt (
    refine' told_rat (rat_ok _ _ _ ?zqh0 _ _ _) ?zqk1 ?zqk2 ?zqk3 ?zqk4 ?zqk5 ?zqkK ?zqkd ?zqku ?_
    (case zqk4 => k_asm)
    (case zqh0 => (first | rfl | simp))
    walk_at "m args"
    intro _ _ _ _ _ _ _
    (try dsimp only)
    (try k_fold)))
  k_with "X:call ref" => (k_here; (with_reducible show wpAny _ _ (call (Value.ref 86) _) _ _ _); k_dflt (
    refine' told_rat (radd_ok _ _ _ _ _ _ ?zqha ?zqhb) ?zqk1 ?zqk2 ?zqk3 ?zqk4 ?zqk5 ?zqkK ?zqkd ?zqku ?_
    (case zqk4 => k_asm)
    (case zqha => walk_at "m rel")
    (case zqhb => walk_at "m rel")
    walk_at "m args"
    intro _ _ _ _ _ _ _
    (try dsimp only)
    (try k_fold)))
  k_with "X:call ref" => (k_here; (with_reducible show wpAny _ _ (call (Value.ref 93) _) _ _ _); k_dflt (
    refine' told_rat (rmul_ok _ _ _ _ _ _ ?zqha ?zqhb ?zqhm) ?zqk1 ?zqk2 ?zqk3 ?zqk4 ?zqk5 ?zqkK ?zqkd ?zqku ?_
    (case zqk4 => k_asm)
    (case zqha => walk_at "m rel")
    (case zqhb => walk_at "m rel")
    (case zqhm => first | assumption | mul_fits)
    walk_at "m args"
    intro _ _ _ _ _ _ _
    (try dsimp only)
    (try k_fold)))
  k_with "X:call ref" => (k_here; (with_reducible show wpAny _ _ (call (Value.ref 100) _) _ _ _); k_dflt (
    refine' told_rat (rdiv_ok _ _ _ _ _ ?zqha ?zqhb) ?zqk1 ?zqk2 ?zqk3 ?zqk4 ?zqk5 ?zqkK ?zqkd ?zqku ?_
    (case zqk4 => k_asm)
    (case zqha => walk_at "m rel")
    (case zqhb => walk_at "m rel")
    walk_at "m args"
    intro _ _ _ _ _ _ _
    (try dsimp only)
    (try k_fold)))
  k_with "X:call ref" => (k_here; (with_reducible show wpAny _ _ (call (Value.ref 107) _) _ _ _); k_dflt (
    refine' told_rat (rneg_ok _ _ _ _ ?zqha) ?zqk1 ?zqk2 ?zqk3 ?zqk4 ?zqk5 ?zqkK ?zqkd ?zqku ?_
    (case zqk4 => k_asm)
    (case zqha => walk_at "m rel")
    walk_at "m args"
    intro _ _ _ _ _ _ _
    (try dsimp only)
    (try k_fold)))
  k_with "X:call ref" => (k_here; (with_reducible show wpAny _ _ (call (Value.ref 114) _) _ _ _); k_dflt (
    refine' told_rat (rinv_ok _ _ _ ?zqha) ?zqk1 ?zqk2 ?zqk3 ?zqk4 ?zqk5 ?zqkK ?zqkd ?zqku ?_
    (case zqk4 => k_asm)
    (case zqha => walk_at "m rel")
    walk_at "m args"
    intro _ _ _ _ _ _ _
    (try dsimp only)
    (try k_fold)))
  k_with "X:call ref" => (k_here; (with_reducible show wpAny _ _ (call (Value.ref 121) _) _ _ _); k_dflt (
    refine' told_val (is_vast_ok _ _ _ _ ?zqha ?zqhb ?zqhc) ?zqk1 ?zqk2 ?zqk3 ?zqk4 ?zqk5 ?zqkK ?zqkd ?zqku ?_
    (case zqk4 => k_asm)
    (case zqha => walk_at "m rel")
    (case zqhb => first | assumption | omega)
    (case zqhc => first | assumption | omega)
    walk_at "m args"
    intro _ _ _ _
    (try dsimp only)
    (try k_fold)))
  k_with "X:call ref" => (k_here; (with_reducible show wpAny _ _ (call (Value.ref 39) _) _ _ _); k_dflt (
    refine' told_val (order_key_ok _ _ _ _) ?zqk1 ?zqk2 ?zqk3 ?zqk4 ?zqk5 ?zqkK ?zqkd ?zqku ?_
    (case zqk4 => k_asm)
    walk_at "m args"
    intro _ _ _ _
    (try dsimp only)
    (try k_fold)))
  k_with "X:call ref" => (k_here; (with_reducible show wpAny _ _ (call (Value.ref 44) _) _ _ _); k_dflt (
    refine' told_tup (pprod_ok _ _ _ _ _ _ ?zqha ?zqhb ?zqhl ?zqhz) ?zqk1 ?zqk2 ?zqk3 ?zqk4 ?zqk5 ?zqkK ?zqkd ?zqku ?_
    (case zqk4 => k_asm)
    (case zqha => walk_at "m tup")
    (case zqhb => walk_at "m tup")
    (case zqhl => first | assumption | omega)
    (case zqhz => first | assumption | omega)
    walk_at "m args"
    intro _ _ _ _ _ _ _
    (try dsimp only)
    (try k_fold)))
  k_with "X:call ref" => (k_here; (with_reducible show wpAny _ _ (call (Value.ref 56) _) _ _ _); k_dflt (
    refine' told_tup (pquot_ok _ _ _ _ _ _ ?zqha ?zqhb ?zqhl ?zqhz) ?zqk1 ?zqk2 ?zqk3 ?zqk4 ?zqk5 ?zqkK ?zqkd ?zqku ?_
    (case zqk4 => k_asm)
    (case zqha => walk_at "m tup")
    (case zqhb => walk_at "m tup")
    (case zqhl => first | assumption | omega)
    (case zqhz => first | assumption | omega)
    walk_at "m args"
    intro _ _ _ _ _ _ _
    (try dsimp only)
    (try k_fold)))
  k_with "X:call ref" => (k_here; (with_reducible show wpAny _ _ (call (Value.ref 51) _) _ _ _); k_dflt (
    refine' told_val (pdiv_ok _ _ _ _ _ _ ?zqha ?zqhb ?zqhl ?zqhz) ?zqk1 ?zqk2 ?zqk3 ?zqk4 ?zqk5 ?zqkK ?zqkd ?zqku ?_
    (case zqk4 => k_asm)
    (case zqha => walk_at "m tup")
    (case zqhb => walk_at "m tup")
    (case zqhl => first | assumption | omega)
    (case zqhz => first | assumption | omega)
    walk_at "m args"
    intro _ _ _ _
    (try dsimp only)
    (try k_fold)))
  k_with "X:call type:dict" => (k_here; (with_reducible show wpAny _ _ (call (Value.type "dict") [Value.ref _]) _ _ _); k_dflt (
    refine' copy_poly ?zqhF ?zqhN ?zqhB ?zqhd ?zqhP ?zqhH ?zqhz ?_
    (case zqhF => k_asm)
    (case zqhN => k_asm)
    (case zqhd => walk_at "m poly")
    (case zqhB => exact big_of (by k_asm))
    (case zqhP => assumption)
    (case zqhH => assumption)
    (case zqhz => first | assumption | omega)
    intro _ _ _ _ _ _ _ _
    (try dsimp only)
    (try k_fold)))
  k_with "X:exec For Name Name cons nil" => (k_here; (with_unfolding_all refine' For_turns (by assumption) ?_); k_whole)
  k_with "X:call ref" => (k_here; (with_reducible show wpAny _ _ (call (Value.ref 135) _) _ _ _); k_dflt (
    refine' toldM_use (addterm_ok _ _ _ _ _ _ _ _ _ ?zqlo ?zqhne ?zqPO ?zqhx ?zqhy ?zqhc ?zqhz) ?zqk1 ?zqk2 ?zqk3 ?zqk4 ?zqhf ?zqk5 ?zqkK ?zqkd ?zqku ?_
    (case zqk4 => assumption)
    (case zqlo => assumption)
    (case zqhne => assumption)
    (case zqhf => assumption)
    (case zqPO => assumption)
    (case zqhx => walk_at "m tup")
    (case zqhy => walk_at "m rel")
    (case zqhc => assumption)
    (case zqhz => first | assumption | omega)
    walk_at "m args"
    intro _ _ _ _ _ _ _ _
    (try dsimp only)
    (try k_fold)))
  k_with "X:m poly" => first | assumption | exact PolyIn.mono (by assumption) (by walk_at "m sub") | exact ⟨_, _, rfl, by assumption, by walk_at "m mem", PolyObj.mono (by assumption) (by walk_at "m sub")⟩
  k_with "X:call ref" => (k_here; (with_reducible show wpAny _ _ (call (Value.ref 140) _) _ _ _); k_dflt (
    refine' toldN_use (mvneg_ok _ _ _ _ ?zqha ?zqhz) ?zqk1 ?zqk2 ?zqk3 ?zqk4 ?zqk5 ?zqkK ?zqkd ?zqku ?_
    (case zqk4 => k_asm)
    (case zqha => walk_at "m poly")
    (case zqhz => first | assumption | omega)
    walk_at "m args"
    intro _ _ _ _ _ _ _ _ _ _ _
    (try dsimp only)
    (try k_fold)))
  k_with "X:call ref" => (k_here; (with_reducible show wpAny _ _ (call (Value.ref 128) _) _ _ _); k_dflt (
    refine' toldN_use (mvadd_ok _ _ _ _ _ _ ?zqha ?zqhb ?zqhn ?zqhH ?zqhc ?zqhz) ?zqk1 ?zqk2 ?zqk3 ?zqk4 ?zqk5 ?zqkK ?zqkd ?zqku ?_
    (case zqk4 => k_asm)
    (case zqha => walk_at "m poly")
    (case zqhb => walk_at "m poly")
    (case zqhn => assumption)
    (case zqhH => assumption)
    (case zqhc => assumption)
    (case zqhz => first | assumption | omega)
    walk_at "m args"
    intro _ _ _ _ _ _ _ _ _ _ _
    (try dsimp only)
    (try k_fold)))
  k_with "X:call ref" => (k_here; (with_reducible show wpAny _ _ (call (Value.ref 147) _) _ _ _); k_dflt (
    refine' toldN_use (mvsub_ok _ _ _ _ _ _ ?zqha ?zqhb ?zqhn ?zqhH ?zqhc ?zqhz) ?zqk1 ?zqk2 ?zqk3 ?zqk4 ?zqk5 ?zqkK ?zqkd ?zqku ?_
    (case zqk4 => k_asm)
    (case zqha => walk_at "m poly")
    (case zqhb => walk_at "m poly")
    (case zqhn => assumption)
    (case zqhH => assumption)
    (case zqhc => assumption)
    (case zqhz => first | assumption | omega)
    walk_at "m args"
    intro _ _ _ _ _ _ _ _ _ _ _
    (try dsimp only)
    (try k_fold)))
  k_with "X:compareOp Gt ref ref" => (k_here; k_dflt (
    refine' gt_tupS ?zqhu ?zqhN ?zqhx ?zqh1 ?zqhy ?zqh2 ?zqhr ?_
    (case zqhN => k_asm)
    (case zqhx => assumption)
    (case zqh1 => walk_at "m sub")
    (case zqhy => assumption)
    (case zqh2 => walk_at "m sub")
    (case zqhu => ktr_units)
    (case zqhr => assumption)
    (try dsimp only)
    (try k_fold)))
  k_with "X:compareOp NotEq ref ref" => (k_here; k_dflt (
    refine' ne_tupS ?zqhu ?zqhN ?zqhx ?zqh1 ?zqhy ?zqh2 ?zqhr ?_
    (case zqhN => k_asm)
    (case zqhx => assumption)
    (case zqh1 => walk_at "m sub")
    (case zqhy => assumption)
    (case zqh2 => walk_at "m sub")
    (case zqhu => ktr_units)
    (case zqhr => assumption)
    (try dsimp only)
    (try k_fold)))
  k_with "X:call ref" => (k_here; (with_reducible show wpAny _ _ (call (Value.ref 152) _) _ _ _); k_dflt (
    refine' toldN_use (mvscale_ok _ _ _ _ ?zqha ?zqhz _ _ ?zqhy ?zqhc ?zqhm) ?zqk1 ?zqk2 ?zqk3 ?zqk4 ?zqk5 ?zqkK ?zqkd ?zqku ?_
    (case zqk4 => k_asm)
    (case zqha => walk_at "m poly")
    (case zqhy => walk_at "m rel")
    (case zqhz => first | assumption | omega)
    (case zqhc => first | assumption | omega)
    (case zqhm => assumption)
    walk_at "m args"
    intro _ _ _ _ _ _ _ _ _ _ _
    (try dsimp only)
    (try k_fold)))
  k_with "X:call ref" => (k_here; (with_reducible show wpAny _ _ (call (Value.ref 157) _) _ _ _); k_dflt (
    refine' toldN_use (mvshift_ok _ _ _ _ ?zqha ?zqhz _ _ ?zqht ?zqhl ?zqhs ?zqhi _ _ ?zqhy ?zqhc ?zqhm) ?zqk1 ?zqk2 ?zqk3 ?zqk4 ?zqk5 ?zqkK ?zqkd ?zqku ?_
    (case zqk4 => k_asm)
    (case zqha => walk_at "m poly")
    (case zqht => walk_at "m tup")
    (case zqhy => walk_at "m rel")
    (case zqhz => first | assumption | omega)
    (case zqhl => assumption)
    (case zqhs => first | assumption | omega)
    (case zqhi => assumption)
    (case zqhc => first | assumption | omega)
    (case zqhm => assumption)
    walk_at "m args"
    intro _ _ _ _ _ _ _ _ _ _ _
    (try dsimp only)
    (try k_fold)))
  k_with "X:call ref" => (k_here; (with_reducible show wpAny _ _ (call (Value.ref 164) _) _ _ _); k_dflt (
    refine' told_lead (mvlead_ok _ _ _ _ ?zqha ?zqhz _ _ ?zqhH _) ?zqk1 ?zqk2 ?zqk3 ?zqk4 ?zqk5 ?zqkK ?zqkd ?zqku ?_
    (case zqk4 => k_asm)
    (case zqha => walk_at "m poly")
    (case zqhz => first | assumption | omega)
    (case zqhH => assumption)
    walk_at "m args"
    intro _ _ _ _ _ _ _ _ _ _ _
    (try dsimp only)
    (try k_fold)))
  k_with "X:call ref" => (k_here; (with_reducible show wpAny _ _ (call (Value.ref 171) _) _ _ _); k_dflt (
    refine' toldN_use (mvmonic_ok _ _ _ _ ?zqha ?zqhz _ ?zqhH ?zqhm _) ?zqk1 ?zqk2 ?zqk3 ?zqk4 ?zqk5 ?zqkK ?zqkd ?zqku ?_
    (case zqk4 => k_asm)
    (case zqha => walk_at "m poly")
    (case zqhz => first | assumption | omega)
    (case zqhH => assumption)
    (case zqhm => assumption)
    walk_at "m args"
    intro _ _ _ _ _ _ _ _ _ _ _
    (try dsimp only)
    (try k_fold)))
  k_with "X:exec For Tuple Name cons nil" => (k_here; (with_unfolding_all refine' For_turns (by assumption) ?_); k_whole)
  k_with "X:exec For Tuple Call cons nil" => (k_here; (with_unfolding_all refine' For_turns (by assumption) ?_); k_whole)
  k_with "X:eval ListComp" => (k_here; k_dflt (refine lc_eval (by k_asm) (by with_unfolding_all rfl) (by decide) (by rfl) (by decide) ?_))
  k_with "X:m lsub" => (repeat' (first | exact subs_nil | refine subs_cons (by walk_at "m memr") ?_ | refine subs_app ?_ ?_ | walk_at "m subo"))
  k_with "X:m memr" => first | assumption | exact List.Mem.head _ | (refine List.Mem.tail _ ?_; walk_at "m memr"; done) | (refine List.mem_append_right _ ?_; walk_at "m memr"; done) | (refine List.mem_append_left _ ?_; walk_at "m memr"; done)
  k_with "X:m subo" => first | exact subs_refl | assumption | (refine subs_tl ?_; walk_at "m subo"; done) | (refine subs_inr ?_; walk_at "m subo"; done) | (refine subs_inl ?_; walk_at "m subo"; done)
  k_with "X:m ifs" => (repeat (first | exact rfl | refine (if_neg (by assumption)).trans ?_))
  k_with "X:m memo" => first | assumption | exact List.Mem.head _ | (refine List.mem_append_left _ ?_; walk_at "m memo"; done) | (refine List.mem_append_right _ ?_; walk_at "m memo"; done) | (refine List.Mem.tail _ ?_; walk_at "m memo"; done)
  k_with "X:call builtin:len" => (k_here; (with_reducible show wpAny _ _ (call (Value.builtin _) [Value.ref _]) _ _ _); k_dflt (
    refine' len_poly ?zqhN ?zqhd ?zqhz ?_
    (case zqhN => k_asm)
    (case zqhd => walk_at "m poly")
    (case zqhz => first | assumption | omega)
    intro _
    (try dsimp only)
    (try k_fold)))
  k_with "X:eval ListComp" => (k_here; (with_reducible show wpAny _ _ (eval (PySem.Expr.ListComp _ [⟨_, _, [_], 0⟩] _ _) _) _ _ _); k_dflt (refine lcT_eval (by k_asm) (by with_unfolding_all rfl) (by decide) (by rfl) (by decide) ?_))
  k_with "X:exec Assign cons ListComp" => (k_here; (with_reducible show wpAny _ _ (exec (PySem.Stmt.Assign _ (PySem.Expr.ListComp _ [⟨_, _, [], 0⟩] _ _) _) _) _ _ _); k_dflt (refine lcG_assign (by k_asm) (by with_unfolding_all rfl) (by with_unfolding_all rfl) (by decide) (by rfl) (by decide) (by rfl) (by rfl) ?_))
  k_with "X:exec Assign cons ListComp" => (k_here; (with_reducible show wpAny _ _ (exec (PySem.Stmt.Assign _ (PySem.Expr.ListComp _ [⟨_, _, [_], 0⟩] _ _) _) _) _ _ _); k_dflt (refine lcTG_assign (by k_asm) (by with_unfolding_all rfl) (by with_unfolding_all rfl) (by decide) (by rfl) (by decide) (by rfl) (by rfl) ?_))
  k_with "X:pyIter ref" => (k_here; (with_reducible show wpAny _ _ (pyIter (Value.ref _)) (LcAtT _ _ _ _ _ _ _ _ _ _ _ _ _) _ _); refine Held.out ?_)
  k_with "X:pyIter ref" => (k_here; (with_reducible show wpAny _ _ (pyIter (Value.ref _)) (LcAt _ _ _ _ _ _ _ _ _ _ _ _) _ _); refine Held.out ?_)
  k_with "X:pyIter ref" => (k_here; (with_reducible show wpAny _ _ (pyIter (Value.ref _)) (LcAtTG _ _ _ _ _ _ _ _ _ _ _ _ _ _) _ _); refine Held.out ?_)
  k_with "X:pyIter ref" => (k_here; (with_reducible show wpAny _ _ (pyIter (Value.ref _)) (LcAtG _ _ _ _ _ _ _ _ _ _ _ _ _) _ _); refine Held.out ?_)
  k_with "X:call builtin:list.append" => (k_here; (with_reducible show wpAny _ _ (call (Value.builtin _) [Value.ref _, _]) _ _ _); refine Held.out ?_)
  k_with "X:subscriptTail Name Slice ref ref" => (k_here; (with_reducible show wpAny _ _ (subscriptTail _ (PySem.Expr.Slice none (some _) none _) (Value.ref _) (Value.ref _)) _ _ _); k_dflt (
    refine' slice_uptoS ?zqF ?zqN ?zqm ?zqc ?zqd ?zqz ?_ ?zqs ?zqt
    (case zqF => k_asm)
    (case zqN => k_asm)
    (case zqm => walk_at "m mem")
    (case zqc => rfl)
    (case zqd => rfl)
    (case zqz => first | assumption | omega)
    (case zqs => with_unfolding_all rfl)
    (case zqt => (intro _; rfl))
    intro _ _ _ _
    (try dsimp only)
    (try k_fold)))
  k_with "X:subscriptTail Name Slice ref ref" => (k_here; (with_reducible show wpAny _ _ (subscriptTail _ (PySem.Expr.Slice (some _) none none _) (Value.ref _) (Value.ref _)) _ _ _); k_dflt (
    refine' slice_fromS1 ?zqF ?zqN ?zqm ?zqc ?zqd ?zqz ?_ ?zqs ?zqt
    (case zqF => k_asm)
    (case zqN => k_asm)
    (case zqm => walk_at "m mem")
    (case zqc => rfl)
    (case zqd => rfl)
    (case zqz => first | assumption | omega)
    (case zqs => with_unfolding_all rfl)
    (case zqt => (intro _; rfl))
    intro _ _ _ _
    (try dsimp only)
    (try k_fold)))
  trivial
section PKit19
set_option maxRecDepth 100000
set_option maxHeartbeats 1000000
open PyProof.Rows.LCg (NsObj lst ns_obj lst_snoc)
section
variable {prog : Program} {w : World} {A : Around} {E : Value → Shared → Prop} {s : Shared} {h₀ : Heap} {L : Addr} {m : Str → Option Value} {env : Env}
/-- [elt for x in l], l a tuple -/
theorem lc_tup {elt : Expr} {x : Str} {px : Pos} {scope : Scope} {cl : List (Str × Addr)} {Q : Value → Shared → Prop} {l : Addr} {ot : Obj} {vs : List Value} {nt : Nat} {news : Ledger}
    (hh : A.handled = none) (F : Fr h₀ L s.heap m) (N : News h₀ L s.heap news) (hm : (l, ot) ∈ news) (hc : ot.cls = .type "tuple") (hd : ot.data = .seq vs.toArray nt) (hsz : vs.length ≤ 10000)
    (hkind : scope.kind = .function) (hx : scope.names.lookup x = some .local)
    (J : Nat → List Value → Ledger → Prop) (h0 : J 0 [] news)
    (step : ∀ (i : Nat) (v : Value) ys news₁ own C oC D mC h tk (as : List Addr) (E' : Value → Shared → Prop), vs[i]? = some v → J i ys news₁ → mC x = some v → NsObj oC mC → Fr h₀ L h m → News h₀ L h (((C, oC) :: (D, lst ys) :: own) ++ news₁) → Off as news₁ → Apart as ((C, oC) :: (D, lst ys) :: own) →
      wpAny (model prog w) A (eval elt (compEnvC scope cl C env)) (fun y => TurnEnd h₀ L m { s with heap := h, toks := tk } ((C, oC) :: (D, lst ys) :: own) as (fun news' => J (i + 1) (ys ++ [y]) news')) E' { s with heap := h, toks := tk })
    (fin : ∀ D h tk ys news', Fr h₀ L h m → News h₀ L h ((D, lst ys) :: news') → Off [D] news' → J vs.length ys news' → Q (.ref D) { s with heap := h, toks := tk }) :
    wpAny (model prog w) A (pyIter (.ref l)) (LcAt prog w A h₀ L m env (.Name x px) elt scope cl Q) E s := by
  have hax := N _ hm
  have hT : s.heap.IsTuple l vs.toArray := ⟨ot, hax.1, hc, nt, hd⟩
  have hlt : l < s.heap.objs.size := Heap.lt_size hax.1
  have hLs : L < s.heap.objs.size := F.ns.lt
  refine wpAny_pyIter_tuple hT ?_
  have keep : ∀ b o', s.heap.get? b = some o' → (s.heap.push { cls := .type "tuple_iterator", data := .fields #[.ref l, .int 0 0] }).get? b = some o' := fun b o' e => Heap.get?_push_of_some _ e
  refine ⟨s.heap.objs.size, [s.heap.objs.size, l], [s.heap.objs.size], vs.toArray.size, _, _, _, news, fun i mC => ∃ v, vs[i]? = some v ∧ mC x = some v, J, rfl,
    KTurns.ofWalks (Walks.tuple hh s.heap.objs.size l (Nat.ne_of_lt hlt) vs.toArray) (fun i v s' Q E _ h => wpAny_pure h), fun s Q E st hQ => wpAny_pyIter_tupleiter st.1 hQ, ?_, ⟨⟨_, Heap.get?_push_size _ rfl, rfl, rfl⟩, hT.at fun o e => keep l o e⟩, ?_, F.keeps keep, N.grown keep, ?_, ?_, ?_, ?_, h0, ?_, fun D h tk ys news' a b c d => fin D h tk ys news' a b c (by simpa using d)⟩
  · rw [List.size_toArray, sizeLine_eq]; omega
  · intro b hb
    simp only [List.mem_cons, List.not_mem_nil, or_false] at hb
    rw [Heap.size_push]
    rcases hb with rfl | rfl
    · exact Nat.lt_succ_self _
    · exact Nat.lt_succ_of_lt hlt
  · intro hL
    simp only [List.mem_cons, List.not_mem_nil, or_false] at hL
    rcases hL with hL | hL
    · exact Nat.ne_of_lt hLs hL
    · exact (N _ hm).2.1 hL.symm
  · intro b hb
    rw [List.mem_singleton] at hb
    subst hb
    exact fresh_above F (Nat.le_refl _)
  · intro p hp hb
    rw [List.mem_singleton] at hb
    exact Nat.ne_of_lt (Heap.lt_size (N p hp).1) hb
  · intro i v C h tk mC Q' E' hP hn hQ
    refine wpAny_assign_Name (wpAny_storeName_local (lookup_relabel_local hx) hn (fun h' hn' hs' => ?_) (by simp [compEnvC, relabel, hkind]))
    exact hQ h' _ _ ⟨v, by simpa using hP, by simp⟩ hn' fun c o hc e => hs'.extBut c o hc e
  · rintro i ys news₁ own C oC D mC h tk E' hi hJ ⟨v, hv, hmx⟩ hoC F' N' off hA
    refine step i v ys news₁ own C oC D mC h tk _ E' hv hJ hmx hoC F' N' off (hA ?_)
    intro i h st b hb
    rw [List.mem_singleton] at hb
    subst hb
    obtain ⟨o, e, hc, _⟩ := st.1
    exact ⟨o, e, NT.type hc (by decide)⟩
end

/-- what the nested comprehension over a polynomial's keys asks for -/
def NestKeys (w : World) (h₀ : Heap) (L : Addr) (m : Str → Option Value) (Q : Value → Shared → Prop) (xv : Value) (s : Shared) : Prop :=
  ∃ (d : Addr) (P : List (List Int × Int)) (news : Ledger), xv = .ref d ∧ Fr h₀ L s.heap m ∧ News h₀ L s.heap news ∧ PolyIn w news P (.ref d) ∧ P.length ≤ 1000 ∧ (∀ q ∈ P, q.1.length ≤ 1000) ∧
    ∀ D h tk ys ns, Fr h₀ L h m → News h₀ L h ((D, lst ys) :: news) → (∀ p ∈ news, p.1 ≠ D) → IntsAre ys ns → ys.length ≤ 1000000 → Q (.ref D) { s with heap := h, toks := tk }
/-- the outer loop's state -/
inductive NestOut (s₁ : Shared) (h₀ : Heap) (L I d D C : Addr) (es : Array DictEntry) (ep : Nat) (m : Str → Option Value) (news : Ledger) (k : Nat) (s' : Shared) : Prop
  | mk (h' : Heap) (tk i : Nat) (ys : List Value) (ns : List Int) (m' : Str → Option Value) : s' = { s₁ with heap := h', toks := tk } → i ≤ es.size → k = es.size + 1 - i → ys.length ≤ 1000 * i → IntsAre ys ns →
      (h'.IsKeyIter I d i es.size ep ∧ DictRaw h' d es ep) → Fr h₀ L h' m → h'.Ns C m' → h'.get? D = some (lst ys) → News h₀ L h' news → NestOut s₁ h₀ L I d D C es ep m news k s'
/-- the inner loop's state -/
inductive NestIn (s₁ : Shared) (h₀ : Heap) (L I d D C : Addr) (es : Array DictEntry) (ep : Nat) (m : Str → Option Value) (news : Ledger) (I1 x : Addr) (us : List Value) (i k : Nat) (s' : Shared) : Prop
  | mk (h' : Heap) (tk j : Nat) (ys' : List Value) (ns : List Int) (m' : Str → Option Value) : s' = { s₁ with heap := h', toks := tk } → j ≤ us.toArray.size → k = us.toArray.size + 1 - j → ys'.length ≤ 1000 * i + j → IntsAre ys' ns →
      (h'.IsTupleIter I1 x j ∧ h'.IsTuple x us.toArray) → (h'.IsKeyIter I d (i + 1) es.size ep ∧ DictRaw h' d es ep) → Fr h₀ L h' m → h'.Ns C m' → h'.get? D = some (lst ys') → News h₀ L h' news →
      NestIn s₁ h₀ L I d D C es ep m news I1 x us i k s'
theorem nest_eval {w : World} {A : Around} {E : Value → Shared → Prop} {s : Shared} {h₀ : Heap} {L : Addr} {m : Str → Option Value} {env : Env} {x y : Str} {px py pe pi : Pos} {iter : Expr} {scope : Scope} {cl : List (Str × Addr)} {pos : Pos} {Q : Value → Shared → Prop}
    (hh : A.handled = none) (_F₀ : Fr h₀ L s.heap m) (hclos : closureFor scope env = pure cl) (hcell : ∀ y ∈ scope.names, y.2 ≠ .cell) (hkind : scope.kind = .function)
    (hnames : ∀ y ∈ scope.names, y.2 = .local → scope.names.lookup y.1 = some .local) (hx : scope.names.lookup x = some .local) (hy : scope.names.lookup y = some .local)
    (hdx : (x == ("__debug__" : Str)) = false) (hdy : (y == ("__debug__" : Str)) = false)
    (h : wpAny (model PR w) A (eval iter env) (NestKeys w h₀ L m Q) E s)
    (hs : ∀ x, foldedSetIterable iter env x = pure x := by intro _; rfl) (hs1 : ∀ c z, foldedSetIterable (.Name x pi) (compEnvC scope cl c env) z = pure z := by intro _ _; rfl) :
    wpAny (model PR w) A (eval (.ListComp (.Name y pe) [⟨.Name x px, iter, [], 0⟩, ⟨.Name y py, .Name x pi, [], 0⟩] scope pos) env) Q E s := by
  rw [eval_ListComp]
  refine wpAny_comprehension_free (use := none) rfl hs hclos hkind hnames (wpAny_mono h (fun xv s₁ h₁ => ?_) fun _ _ e => e)
  obtain ⟨d, P, news, rfl, F, N, ⟨d', o, e, lo, hm, PO⟩, hPz, hkz, fin⟩ := h₁
  cases e
  obtain ⟨hx1, es, ep, xs, hdat, he, _, T⟩ := PO
  have hg := N.get hm
  have hes := size_of_entries he
  have hl := T.length
  have hdl : d < s₁.heap.objs.size := Heap.lt_size hg
  have hLs : L < s₁.heap.objs.size := F.ns.lt
  refine iter_dictRaw lo ⟨o, hg, hx1, hdat⟩ ?_
  have keep : ∀ b o', s₁.heap.get? b = some o' → (s₁.heap.push { cls := .type "dict_keyiterator", data := .fields #[.ref d, .int 0 0, .int es.size 0, .int ep 0] }).get? b = some o' := fun b o' e => Heap.get?_push_of_some _ e
  have W := walksKeys (prog := PR) (w := w) hh s₁.heap.objs.size d (Nat.ne_of_lt hdl) es ep
  have hst0 : (s₁.heap.push { cls := .type "dict_keyiterator", data := .fields #[.ref d, .int 0 0, .int es.size 0, .int ep 0] }).IsKeyIter s₁.heap.objs.size d 0 es.size ep ∧ DictRaw (s₁.heap.push { cls := .type "dict_keyiterator", data := .fields #[.ref d, .int 0 0, .int es.size 0, .int ep 0] }) d es ep :=
    ⟨⟨_, Heap.get?_push_size _ rfl, rfl, rfl⟩, ⟨o, keep _ _ hg, hx1, hdat⟩⟩
  have F1 := F.keeps keep
  have N1 : News h₀ L _ news := N.grown keep
  generalize hH1 : s₁.heap.push { cls := .type "dict_keyiterator", data := .fields #[.ref d, .int 0 0, .int es.size 0, .int ep 0] } = H1 at hst0 F1 N1 ⊢
  have hs1' : H1.objs.size = s₁.heap.objs.size + 1 := by rw [← hH1, Heap.size_push]
  generalize hI : s₁.heap.objs.size = I at W hst0 hs1' ⊢
  refine wpAny_newObj_type (wpAny_newFunctionEnv hcell (by intro y hy; simp at hy) (fun h₁ hns₁ hsb₁ => ?_) hkind)
  dsimp only at hns₁ hsb₁ ⊢
  generalize hH2 : H1.push { cls := .type "list", dict := none, data := .seq ([] : List Value).toArray } = H2 at hns₁ hsb₁ ⊢
  have hC : H2.objs.size = H1.objs.size + 1 := by rw [← hH2, Heap.size_push]
  generalize hD : H1.objs.size = D at hs1' hC hns₁ hsb₁ ⊢
  generalize hCe : H2.objs.size = C at hC hns₁ hsb₁ ⊢
  have hDC : D ≠ C := by rw [hC]; exact Nat.ne_of_lt (Nat.lt_succ_self _)
  have hIltD : I < D := by rw [hs1']; exact Nat.lt_succ_self _
  have hID : I ≠ D := Nat.ne_of_lt hIltD
  have hIC : I ≠ C := by rw [hC]; exact Nat.ne_of_lt (Nat.lt_succ_of_lt hIltD)
  have hdI : d < I := hI ▸ hdl
  have hdD : d ≠ D := Nat.ne_of_lt (Nat.lt_trans hdI hIltD)
  have hdC : d ≠ C := by rw [hC]; exact Nat.ne_of_lt (Nat.lt_succ_of_lt (Nat.lt_trans hdI hIltD))
  have hLI : L < I := hI ▸ hLs
  have hLD : L ≠ D := Nat.ne_of_lt (Nat.lt_trans hLI hIltD)
  have hLC : L ≠ C := by rw [hC]; exact Nat.ne_of_lt (Nat.lt_succ_of_lt (Nat.lt_trans hLI hIltD))
  have old : ∀ b o, H1.get? b = some o → h₁.get? b = some o := fun b o e =>
    hsb₁.extBut b o (by have := Heap.lt_size e; rw [hD] at this; rw [hC]; exact Nat.ne_of_lt (Nat.lt_succ_of_lt this)) (Heap.get?_push_of_some _ (hH2 ▸ Heap.get?_push_of_some _ e))
  have hacc : h₁.get? D = some (lst []) := hsb₁.extBut _ _ hDC (Heap.get?_push_of_some _ (hH2 ▸ (by rw [← hD]; exact Heap.get?_push_size _ rfl)))
  have hD₀ : h₀.get? D = none := fresh_above F1 (Nat.le_of_eq hD)
  have hC₀ : h₀.get? C = none := fresh_above F1 (by rw [hC, hD]; exact Nat.le_succ _)
  have hI₀ : h₀.get? I = none := fresh_above F (Nat.le_of_eq hI)
  have hnD : ∀ p ∈ news, p.1 ≠ D := fun p hp => by have := Heap.lt_size (N1 p hp).1; rw [hD] at this; exact Nat.ne_of_lt this
  have hnC : ∀ p ∈ news, p.1 ≠ C := fun p hp => by have := Heap.lt_size (N1 p hp).1; rw [hD] at this; rw [hC]; exact Nat.ne_of_lt (Nat.lt_succ_of_lt this)
  have hnI : ∀ p ∈ news, p.1 ≠ I := fun p hp => by have := Heap.lt_size (N p hp).1; rw [hI] at this; exact Nat.ne_of_lt this
  have hst₁ := W.frame _ _ _ hst0 fun b _ o e => old b o e
  -- the inner list, at a turn of the outer loop
  have loop : ∀ s₃ : Shared, s₃ = { s₁ with heap := h₁, toks := s₁.toks + ([] : List (Str × Value)).length } →
      codeAny (model PR w) A (.compLoop (.ListComp (.Name y pe) [⟨.Name x px, iter, [], 0⟩, ⟨.Name y py, .Name x pi, [], 0⟩] scope pos) 0 (.ref I) (.ref D) (compEnvC scope cl C env)) (compPost (model PR w) A E none Q (.ref D) C) s₃ := by
    rintro s₃ rfl
    refine nest_loop0 (hs1 C)
      (NestOut s₁ h₀ L I d D C es ep m news) ?_ (es.size + 1)
      ⟨h₁, _, 0, [], [], _, rfl, Nat.zero_le _, rfl, Nat.le_refl _, .nil, hst₁, F1.keeps old, hns₁, hacc, fun p hp => ⟨old _ _ (N1 p hp).1, (N1 p hp).2⟩⟩
    rintro k s' ⟨h', tk, i, ys, ns, m', rfl, hi, rfl, hyl, hys, hst', F', hn', hD', N'⟩
    by_cases hlt : i < es.size
    · refine W.item i _ _ _ hlt hst' fun v h₂ tk₂ hP hst₂ hk₂ => ?_
      replace hk₂ : ∀ b o, b ≠ I → h'.get? b = some o → h₂.get? b = some o := fun b o hb e => hk₂ b o (by simpa using hb) e
      replace hP : es[i]?.map (·.key) = some v := hP
      rw [entry_at he i] at hP
      cases hxi : xs[i]? with
      | none => rw [hxi] at hP; cases hP
      | some x1 =>
        rw [hxi] at hP
        have ev : v = .ref x1.2.1 := (Option.some.inj hP).symm
        subst ev
        obtain ⟨c1, hPi, hT1⟩ := T.get hxi
        obtain ⟨a1, us, e1, hm1, hus⟩ := hT1
        cases e1
        have hkl := hkz _ (List.mem_of_getElem? hPi)
        refine wpAny_pure ?_
        have hn₂ := hn'.at' fun o e => hk₂ C o (Ne.symm hIC) e
        refine wpAny_assign_Name (wpAny_storeName_local (lookup_relabel_local hx) hn₂ (fun h₃ hn₃ hs₃ => ?_) (by simp [compEnvC, relabel, hkind]))
        have up₃ : ∀ b o, b ≠ I → b ≠ C → h'.get? b = some o → h₃.get? b = some o := fun b o hb hc e => hs₃.extBut b o hc (hk₂ b o hb e)
        refine wpAny_Name (wpAny_loadName_local (by simp [compEnvC, relabel, hkind]) (lookup_relabel_local hx) hn₃ (if_pos rfl) ?_) hdx
        have hLIne : L ≠ I := Nat.ne_of_lt hLI
        have F₃ : Fr h₀ L h₃ m := ⟨F'.ns.at' fun o e => up₃ L o hLIne hLC e, fun b o e => up₃ b o (fun q => by rw [q, hI₀] at e; cases e) (fun q => by rw [q, hC₀] at e; cases e) (F'.keep b o e), F'.above⟩
        have N₃ : News h₀ L h₃ news := fun p hp => ⟨up₃ _ _ (hnI p hp) (hnC p hp) (N' p hp).1, (N' p hp).2⟩
        have hD₃ : h₃.get? D = some (lst ys) := up₃ D _ (Ne.symm hID) hDC hD'
        have hst₃ := W.frame _ _ _ hst₂ fun b hb o e => hs₃.extBut b o (fun q => by
          simp only [List.mem_cons, List.not_mem_nil, or_false] at hb
          rcases hb with rfl | rfl
          · exact hIC q
          · exact hdC q) e
        have hT : h₃.IsTuple x1.2.1 us.toArray := ⟨_, (N₃ _ hm1).1, rfl, _, rfl⟩
        refine wpAny_pyIter_tuple hT ?_
        dsimp only
        have hne : x1.2.1 ≠ h₃.objs.size := Nat.ne_of_lt (Heap.lt_size (N₃ _ hm1).1)
        have W1 := Walks.tuple (prog := PR) (w := w) (A := A.mark none) hh h₃.objs.size x1.2.1 hne us.toArray
        have keep4 : ∀ b o', h₃.get? b = some o' → (h₃.push { cls := .type "tuple_iterator", data := .fields #[.ref x1.2.1, .int 0 0] }).get? b = some o' := fun b o' e => Heap.get?_push_of_some _ e
        have hit4 : (h₃.push { cls := .type "tuple_iterator", data := .fields #[.ref x1.2.1, .int 0 0] }).IsTupleIter h₃.objs.size x1.2.1 0 := ⟨_, Heap.get?_push_size _ rfl, rfl, rfl⟩
        have hT4 := hT.at fun o e => keep4 x1.2.1 o e
        have F₄ := F₃.keeps keep4
        have N₄ : News h₀ L _ news := N₃.grown keep4
        have hD₄ := keep4 _ _ hD₃
        have hn₄ := hn₃.at' fun o e => keep4 C o e
        have hst₄ := W.frame _ _ _ hst₃ fun b _ o e => keep4 b o e
        have hJ₀ : h₀.get? h₃.objs.size = none := fresh_above F₃ (Nat.le_refl _)
        have hJD : D ≠ h₃.objs.size := Nat.ne_of_lt (Heap.lt_size hD₃)
        have hJC : C ≠ h₃.objs.size := Nat.ne_of_lt hn₃.lt
        have hJL : L ≠ h₃.objs.size := Nat.ne_of_lt F₃.ns.lt
        have hJI : I ≠ h₃.objs.size := by obtain ⟨_, e, _⟩ := hst₃.1; exact Nat.ne_of_lt (Heap.lt_size e)
        have hJd : d ≠ h₃.objs.size := Nat.ne_of_lt hst₃.2.lt
        have hJn : ∀ p ∈ news, p.1 ≠ h₃.objs.size := fun p hp => Nat.ne_of_lt (Heap.lt_size (N₃ p hp).1)
        generalize h₃.push { cls := .type "tuple_iterator", data := .fields #[.ref x1.2.1, .int 0 0] } = H4 at hit4 hT4 F₄ N₄ hD₄ hn₄ hst₄ ⊢
        generalize h₃.objs.size = I1 at W1 hit4 hJ₀ hJD hJC hJL hJI hJd hJn hne ⊢
        have hul := hus.length
        have hul2 : us.length ≤ 1000 := by rw [hul]; exact hkl
        have inner : ∀ (s₅ : Shared), (∃ tk, s₅ = { s₁ with heap := H4, toks := tk }) → codeAny (model PR w) (A.mark none) (.compLoop (.ListComp (.Name y pe) [⟨.Name x px, iter, [], 0⟩, ⟨.Name y py, .Name x pi, [], 0⟩] scope pos) 1 (.ref I1) (.ref D) (compEnvC scope cl C env))
            (fun r s' => match r with
              | .ok _ => ∃ mm, mm < es.size + 1 - i ∧ NestOut s₁ h₀ L I d D C es ep m news mm s'
              | .error e => cameBackBy (model PR w) A (compEnvC scope cl C env) (notedBy (model PR w) A (compEnvC scope cl C env) fun e s' => compPost (model PR w) A E none Q (.ref D) C (.error e) s') e s') s₅ := by
          rintro s₅ ⟨tk₅, rfl⟩
          refine nest_loop1
            (NestIn s₁ h₀ L I d D C es ep m news I1 x1.2.1 us i) ?_ (us.toArray.size + 1)
            ⟨H4, _, 0, ys, ns, _, rfl, Nat.zero_le _, rfl, hyl, hys, ⟨hit4, hT4⟩, hst₄, F₄, hn₄, hD₄, N₄⟩
          rintro k s' ⟨h5, tk5, j, ys', ns', m5, rfl, hj, rfl, hyl', hys', hst5, hkk5, F5, hn5, hD5, N5⟩
          by_cases hlj : j < us.toArray.size
          · refine W1.item j _ _ _ hlj hst5 fun v h6 tk6 hv hst6 hk6 => ?_
            replace hk6 : ∀ b o, b ≠ I1 → h5.get? b = some o → h6.get? b = some o := fun b o hb e => hk6 b o (by simpa using hb) e
            have hv' : us[j]? = some v := by simpa using hv
            obtain ⟨n1, t1, rfl, hnj⟩ := hus.at j _ hv'
            refine wpAny_pure ?_
            have hn6 := hn5.at' fun o e => hk6 C o hJC e
            refine wpAny_assign_Name (wpAny_storeName_local (lookup_relabel_local hy) hn6 (fun h7 hn7 hs7 => ?_) (by simp [compEnvC, relabel, hkind]))
            have up7 : ∀ b o, b ≠ I1 → b ≠ C → h5.get? b = some o → h7.get? b = some o := fun b o hb hc e => hs7.extBut b o hc (hk6 b o hb e)
            refine wpAny_Name (wpAny_loadName_local (by simp [compEnvC, relabel, hkind]) (lookup_relabel_local hy) hn7 (if_pos rfl) ?_) hdy
            have hD7 : h7.get? D = some (lst ys') := up7 D _ hJD hDC hD5
            refine append_at (hsz := by rw [List.size_toArray, sizeLine_eq]; simp only [List.size_toArray] at hlj; have := hkl; omega) hD7 fun h8 hs8 hD8 => ?_
            have up8 : ∀ b o, b ≠ I1 → b ≠ C → b ≠ D → h5.get? b = some o → h8.get? b = some o := fun b o h1 h2 h3 e => hs8.extBut b o h3 (up7 b o h1 h2 e)
            refine ⟨us.toArray.size + 1 - (j + 1), by omega, h8, _, j + 1, ys' ++ [.int n1 t1], ns' ++ [n1], _, rfl, hlj, rfl, ?_, hys'.append (.cons _ _ .nil), ?_, ?_, ?_, (hn7.sameBut hs8 (Ne.symm hDC)), ?_, ?_⟩
            · rw [List.length_append, List.length_singleton]; omega
            · refine W1.frame _ _ _ hst6 fun b hb o e => ?_
              simp only [List.mem_cons, List.not_mem_nil, or_false] at hb
              rcases hb with rfl | rfl
              · exact hs8.extBut _ o (Ne.symm hJD) (hs7.extBut _ o (Ne.symm hJC) e)
              · exact hs8.extBut _ o (hnD _ hm1) (hs7.extBut _ o (hnC _ hm1) e)
            · refine W.frame _ _ _ hkk5 fun b hb o e => ?_
              simp only [List.mem_cons, List.not_mem_nil, or_false] at hb
              rcases hb with rfl | rfl
              · exact up8 _ o hJI hIC hID e
              · exact up8 _ o hJd hdC hdD e
            · exact ⟨F5.ns.at' fun o e => up8 L o hJL hLC hLD e, fun b o e => up8 b o (fun q => by rw [q, hJ₀] at e; cases e) (fun q => by rw [q, hC₀] at e; cases e) (fun q => by rw [q, hD₀] at e; cases e) (F5.keep b o e), F5.above⟩
            · exact hD8.trans (congrArg some (lst_snoc ys' _))
            · exact fun p hp => ⟨up8 _ _ (hJn p hp) (hnC p hp) (hnD p hp) (N5 p hp).1, (N5 p hp).2⟩
          · obtain rfl : j = us.toArray.size := Nat.le_antisymm hj (Nat.not_lt.mp hlj)
            refine W1.done _ _ _ hst5 fun h6 tk6 hk6 => ?_
            replace hk6 : ∀ b o, b ≠ I1 → h5.get? b = some o → h6.get? b = some o := fun b o hb e => hk6 b o (by simpa using hb) e
            refine ⟨es.size + 1 - (i + 1), by omega, h6, _, i + 1, ys', ns', _, rfl, hlt, rfl, ?_, hys', ?_, ?_, hn5.at' fun o e => hk6 C o hJC e, hk6 D _ hJD hD5, fun p hp => ⟨hk6 _ _ (hJn p hp) (N5 p hp).1, (N5 p hp).2⟩⟩
            · rw [List.size_toArray] at hyl'; omega
            · refine W.frame _ _ _ hkk5 fun b hb o e => ?_
              simp only [List.mem_cons, List.not_mem_nil, or_false] at hb
              rcases hb with rfl | rfl
              · exact hk6 _ o hJI e
              · exact hk6 _ o hJd e
            · exact ⟨F5.ns.at' fun o e => hk6 L o hJL e, fun b o e => hk6 b o (fun q => by rw [q, hJ₀] at e; cases e) (F5.keep b o e), F5.above⟩
        exact nest_start (inner _ ⟨_, rfl⟩) (wpAny_pyIter_tupleiter hit4 (inner _ ⟨_, rfl⟩))
    · obtain rfl : i = es.size := Nat.le_antisymm hi (Nat.not_lt.mp hlt)
      refine W.done _ _ _ hst' fun h₂ tk₂ hk₂ => ?_
      replace hk₂ : ∀ b o, b ≠ I → h'.get? b = some o → h₂.get? b = some o := fun b o hb e => hk₂ b o (by simpa using hb) e
      refine ⟨m', hn'.at' fun o e => hk₂ C o (Ne.symm hIC) e, fun h₉ hs₉ => fin D h₉ _ ys ns ?_ ?_ hnD hys (by omega)⟩
      · have F₂ : Fr h₀ L h₂ m := ⟨F'.ns.at' fun o e => hk₂ L o (Nat.ne_of_lt hLI) e, fun b o e => hk₂ b o (fun q => by rw [q, hI₀] at e; cases e) (F'.keep b o e), F'.above⟩
        exact F₂.change hs₉ (Ne.symm hLC) hC₀
      · intro p hp
        rcases List.mem_cons.mp hp with rfl | hp
        · exact ⟨hs₉.extBut _ _ hDC (hk₂ _ _ (Ne.symm hID) hD'), Ne.symm hLD, hD₀⟩
        · exact ⟨hs₉.extBut _ _ (hnC p hp) (hk₂ _ _ (hnI p hp) (N' p hp).1), (N' p hp).2⟩
  exact codeAny_compStart_list (loop _ rfl) (self_keyIter hst₁.1 (loop _ rfl))
end PKit19
section PKit20
set_option maxRecDepth 100000
set_option maxHeartbeats 1000000
open PyProof.Rows.LCg (NsObj lst ns_obj lst_snoc)
/-- the values are leads, with the ratio one -/
inductive LeadsIn (ns : Ledger) : List Value → List (List Int) → Prop
  | nil : LeadsIn ns [] []
  | cons {x : Value} {ks : List Int} {vs : List Value} {Ls : List (List Int)} : LeadIn ns ks 1 x → LeadsIn ns vs Ls → LeadsIn ns (x :: vs) (ks :: Ls)
theorem LeadsIn.length {ns : Ledger} : ∀ {vs : List Value} {Ls : List (List Int)}, LeadsIn ns vs Ls → vs.length = Ls.length
  | _, _, .nil => rfl
  | _, _, .cons _ h => by simp [h.length]
theorem LeadsIn.get {ns : Ledger} : ∀ {vs : List Value} {Ls : List (List Int)} {i : Nat} {ks : List Int}, LeadsIn ns vs Ls → Ls[i]? = some ks → ∃ v, vs[i]? = some v ∧ LeadIn ns ks 1 v
  | _, _, i, v, .nil, h => by simp at h
  | _, _, 0, v, .cons h1 _, h => by simp only [List.getElem?_cons_zero, Option.some.injEq] at h; subst h; exact ⟨_, rfl, h1⟩
  | _, _, i + 1, v, .cons _ h3, h => by simp only [List.getElem?_cons_succ] at h ⊢; exact h3.get h
theorem LeadsIn.mono {ns ns' : Ledger} (hs : ∀ p ∈ ns, p ∈ ns') : ∀ {vs : List Value} {Ls : List (List Int)}, LeadsIn ns vs Ls → LeadsIn ns' vs Ls
  | _, _, .nil => .nil
  | _, _, .cons h2 h3 => .cons (h2.mono hs) (h3.mono hs)
theorem LeadsIn.snoc {ns : Ledger} {x : Value} {ks : List Int} (h2 : LeadIn ns ks 1 x) : ∀ {vs : List Value} {Ls : List (List Int)}, LeadsIn ns vs Ls → LeadsIn ns (vs ++ [x]) (Ls ++ [ks])
  | _, _, .nil => .cons h2 .nil
  | _, _, .cons g2 g3 => .cons g2 (g3.snoc h2)
theorem LeadsIn.heads {ns : Ledger} : ∀ {vs : List Value} {Ls : List (List Int)}, LeadsIn ns vs Ls → HeadsIn ns vs Ls
  | _, _, .nil => .nil
  | _, _, .cons ⟨r, x, y, e, hm, h1, _⟩ h => by subst e; exact .cons hm h1 h.heads
theorem PolysIn.get' {w : World} {ns : Ledger} : ∀ {vs : List Value} {Ls : List (List (List Int × Int))} {i : Nat} {P : List (List Int × Int)}, PolysIn w ns vs Ls → Ls[i]? = some P → ∃ v, vs[i]? = some v ∧ PolyIn w ns P v
  | _, _, i, v, .nil, h => by simp at h
  | _, _, 0, v, .cons h1 _, h => by simp only [List.getElem?_cons_zero, Option.some.injEq] at h; subst h; exact ⟨_, rfl, h1⟩
  | _, _, i + 1, v, .cons _ h3, h => by simp only [List.getElem?_cons_succ] at h ⊢; exact h3.get' h

/-- the polynomial that is taken off -/
def shifted (S : List (List Int × Int)) (sh : List Int) (c : Int) : List (List Int × Int) := S.map fun q => (List.zipWith (fun p q => p + q) q.1 sh, q.2 * c)
def less (k l : List Int) : List Int := List.zipWith (fun p q => p - q) k l
/-- n steps of the division lead from rest and left to F -/
inductive DivN (w : World) (Ss : List (List (List Int × Int))) (nn : Nat) (F : List (List Int × Int)) : Nat → List (List Int × Int) → List (List Int × Int) → Prop
  | done : DivN w Ss nn F 0 F []
  | out {n : Nat} {R P : List (List Int × Int)} {k : List Int} {c : Int} : HeadMax P k c → -18446744073709551616 < c → c < 18446744073709551616 → (∀ x ∈ k, x ≤ 20000) → k.length = nn → P.length ≤ 1000 → R.length ≤ 1000 →
      firstDiv (Ss.map headK) k = -1 → DivN w Ss nn F n (setP R k c) (delP P k) → DivN w Ss nn F (n + 1) R P
  | sub {n : Nat} {R P S : List (List Int × Int)} {k : List Int} {c : Int} {i : Nat} : HeadMax P k c → -18446744073709551616 < c → c < 18446744073709551616 → c ≠ 0 → (∀ x ∈ k, x ≤ 20000) → k.length = nn → P.length ≤ 1000 → HashApart w P →
      firstDiv (Ss.map headK) k = (i : Int) → Ss[i]? = some S → (∀ q ∈ S, IntMulOk q.2 c) → (∀ q ∈ S, q.2 ≠ 0) → ((shifted S (less k (headK S)) c).map (·.1)).Nodup → (∀ q ∈ S, q.1.length = nn) →
      DivN w Ss nn F n R (addP P ((shifted S (less k (headK S)) c).map fun q => (q.1, -q.2))) → DivN w Ss nn F (n + 1) R P
/-- dicts apart from each other and from the rest -/
def QsOk (w : World) (ns : Ledger) (k : Nat) (qs : Ledger) : Prop := ∀ p ∈ qs, ∃ P, PolyObj w ns p.2 P ∧ P.length ≤ k
theorem QsOk.mono {w : World} {ns ns' : Ledger} {k k' : Nat} {qs : Ledger} (h : QsOk w ns k qs) (hs : ∀ p ∈ ns, p ∈ ns') (hk : k ≤ k') : QsOk w ns' k' qs := fun p hp =>
  let ⟨P, h1, h2⟩ := h p hp; ⟨P, h1.mono hs, Nat.le_trans h2 hk⟩
/-- the state of the division -/
inductive DvJ (w : World) (Ss : List (List (List Int × Int))) (nn N0 : Nat) (G : List (List Int × Int)) (d : Addr) (qa : List Addr) (base : Ledger) (mm : Str → Option Value) (n : Nat) (m₁ : Str → Option Value) (ns : Ledger) : Prop
  | mk (R P : List (List Int × Int)) (oR oL : Obj) (l : Addr) (qs tl : Ledger) (W : Int) (u : Tok) (pv rv av sv fv : Option Value) :
    DivN w Ss nn G n R P →
    n ≤ N0 →
    0 ≤ W →
    W ≤ 1000 * ((N0 : Int) - n) →
    m₁ = (fun z => if z = Str.ofString "left" then some (.ref l) else if z = Str.ofString "work" then some (.int W u) else if z = Str.ofString "powers" then pv else if z = Str.ofString "rational" then rv else if z = Str.ofString "at" then av else if z = Str.ofString "shift" then sv else if z = Str.ofString "factor" then fv else mm z) →
    ns = (d, oR) :: (qs ++ ((l, oL) :: (tl ++ base))) →
    AllTup tl →
    PolyObj w (tl ++ base) oR R →
    PolyObj w (tl ++ base) oL P →
    QsOk w (tl ++ base) (N0 - n) qs →
    qs.map (·.1) = qa →
    (l == sysModules) = false →
    l ≠ d →
    l ∉ qa →
    (∀ p ∈ base, p.1 ≠ l) →
    DvJ w Ss nn N0 G d qa base mm n m₁ ns
section
variable {M : Model} {A : Around} {E : Value → Shared → Prop} {s : Shared} {h₀ : Heap} {L : Addr} {m : Str → Option Value} {env : Env}
/-- a cell stored, what else is known kept -/
theorem store_cellM {x : Str} {c : Addr} {o : Obj} {v₀ : Option Value} {v : Value} {all ns : Ledger} {Q : Unit → Shared → Prop} (F : Fr h₀ L s.heap m) (N : News h₀ L s.heap all) (hk : env.scope.kind = .function) (hl : env.kindOf x = some .cell) (hc : env.cells.lookup x = some c)
    (hm : (c, o) ∈ all) (hd : o.data = .cell v₀) (hs : ∀ p ∈ ns, p ∈ all) (hne : ∀ p ∈ ns, p.1 ≠ c)
    (h : ∀ h' o', Fr h₀ L h' m → News h₀ L h' ((c, o') :: ns) → o'.data = .cell (some v) → Q () { s with heap := h' }) :
    wpAny M A (storeName env x v) Q E s := by
  have hmem := N (c, o) hm
  refine wpAny_storeName_cell hk hl hc ⟨o, hmem.1, hd⟩ fun h' hv hs' => ?_
  obtain ⟨o', ho', hd'⟩ := hv
  refine h h' o' ⟨F.ns.sameBut hs' (Ne.symm hmem.2.1), fun b ob e => (hs'.2 b (fun q => ?_)).trans (F.keep b ob e), F.above⟩ (fun p hp => ?_) hd'
  · rw [q, hmem.2.2] at e; cases e
  · rcases List.mem_cons.mp hp with rfl | hp
    · exact ⟨ho', hmem.2⟩
    · exact ⟨hs'.extBut _ _ (hne p hp) (N p (hs p hp)).1, (N p (hs p hp)).2⟩
end
theorem PolyObj.nc {w : World} {ns : Ledger} {o : Obj} {P : List (List Int × Int)} (x : PolyObj w ns o P) : ∀ v, o.data ≠ .cell v := fun v e => by
  obtain ⟨_, es, ep, xs, h, _⟩ := x
  rw [e] at h; cases h
theorem Fr.mname {h₀ h : Heap} {L : Addr} {m : Str → Option Value} (_ : Fr h₀ L h m) : ∃ mm, mm = m := ⟨m, rfl⟩
theorem boolsSnoc {b : Bool} : ∀ {vs : List Value} {bs : List Bool}, LSm.BoolsAre vs bs → LSm.BoolsAre (vs ++ [.bool b]) (bs ++ [b])
  | _, _, .nil => .cons _ .nil
  | _, _, .cons b h => .cons b (boolsSnoc h)
theorem any_rep (n : Nat) : (List.replicate n false).any id = false := by
  rw [List.any_eq_false]
  intro x hx
  rw [List.eq_of_mem_replicate hx]
  decide
theorem LeadsIn.monoT {ns ns' : Ledger} (hs : SubT ns ns') : ∀ {vs : List Value} {Ls : List (List Int)}, LeadsIn ns vs Ls → LeadsIn ns' vs Ls
  | _, _, .nil => .nil
  | _, _, .cons h2 h3 => .cons (h2.monoT hs) (h3.monoT hs)
end PKit20
set_option maxRecDepth 100000
set_option maxHeartbeats 3000000

theorem first_divisor_okB (w : World) (Ls : List (List Int)) (ks : List Int) (x : Value) (l : Addr) (ot : Obj) (vs : List Value) (nt : Nat) (news : Ledger) (hx : TupIn news ks x) (hl : (l, ot) ∈ news) (hcl : ot.cls = .type "list") (hdl : ot.data = .seq vs.toArray nt) (hv : HeadsIn news vs Ls) (hlen : ∀ q ∈ Ls, q.length = ks.length) (hsz : ks.length ≤ 1000) (r : Int) (hr : firstDiv Ls ks = r) :
    Told w 178 [x, .ref l] news 4 (fun _ v => IsInt r v) := by
  subst hr; exact first_divisor_ok w Ls ks x l ot vs nt news hx hl hcl hdl hv hlen hsz
theorem lines_37 : True := by
  k_with "X:call ref" => (k_here; (with_reducible show wpAny _ _ (call (Value.ref 178) _) _ _ _); k_dflt (
    refine' told_int (first_divisor_okB _ _ _ _ _ _ _ _ _ ?zqhx ?zqhl ?zqhc ?zqhd ?zqhv ?zqhn ?zqhz _ ?zqhr) ?zqk1 ?zqk2 ?zqk3 ?zqk4 ?zqk5 ?zqkK ?zqkd ?zqku ?_
    (case zqk4 => k_asm)
    (case zqhx => walk_at "m tup")
    (case zqhl => walk_at "m mem")
    (case zqhc => first | assumption | rfl)
    (case zqhd => first | assumption | rfl)
    (case zqhv => first | assumption | (refine HeadsIn.mono ?_ (by assumption); walk_at "m sub"))
    (case zqhn => assumption)
    (case zqhz => first | assumption | omega)
    (case zqhr => assumption)
    walk_at "m args"
    intro _ _ _ _ _
    (try dsimp only)
    (try k_fold)))
  trivial
section
theorem lines_38 : True := by
  k_with "X:eval ListComp" => (k_here; (with_reducible show wpAny _ _ (eval (PySem.Expr.ListComp _ [⟨_, _, [], 0⟩] _ _) _) _ _ _); k_dflt (refine lc_eval (by k_asm) (by with_unfolding_all rfl) (by decide) (by rfl) (by decide) ?_))
  k_with "X:eval ListComp" => (k_here; (with_reducible show wpAny _ _ (eval (PySem.Expr.ListComp _ [⟨_, _, [], 0⟩, ⟨_, _, [], 0⟩] _ _) _) _ _ _); k_dflt (refine nest_eval (by rfl) (by k_asm) (by with_unfolding_all rfl) (by decide) (by rfl) (by decide) (by rfl) (by rfl) (by decide) (by decide) ?_))
  k_with "X:binaryOp Add ref ref" => (k_here; (with_reducible show wpAny _ _ (binaryOp _ (Value.ref _) (Value.ref _)) _ _ _); k_dflt (
    refine' add_listS ?zqF ?zqN ?zqm ?zqc ?zqd ?zqm2 ?zqc2 ?zqd2 ?zqz ?_
    (case zqF => k_asm)
    (case zqN => k_asm)
    (case zqm => walk_at "m mem")
    (case zqc => rfl)
    (case zqd => rfl)
    (case zqm2 => walk_at "m mem")
    (case zqc2 => rfl)
    (case zqd2 => rfl)
    (case zqz => first | assumption | (simp only [List.length_take, List.length_drop, List.length_cons, List.length_nil]; omega))
    intro _ _ _ _
    (try dsimp only)
    (try k_fold)))
  k_with "X:subscriptTail" => (k_here; (with_reducible show wpAny _ _ (subscriptTail _ _ (Value.ref _) (Value.int (Nat.cast _) _)) _ _ _); k_dflt (
    refine' item_listS ?zqN ?zqm ?zqc ?zqd ?zqx ?zqi ?_ ?zqs
    (case zqN => k_asm)
    (case zqm => walk_at "m mem")
    (case zqc => first | rfl | assumption)
    (case zqd => first | rfl | assumption)
    (case zqx => assumption)
    (case zqi => omega)
    (case zqs => with_unfolding_all rfl)
    (try dsimp only)
    (try k_fold)))
  k_with "X:setItem ref ref" => (k_here; refine Held.out ?_)
  k_with "X:call builtin:dict.pop" => (k_here; refine Held.out ?_)
  k_with "X:call ref" => (k_here; (with_reducible show wpAny _ _ (call (Value.ref 135) _) _ _ _); refine Held.out ?_)
  k_with "X:call builtin:any" => (k_here; (with_reducible show wpAny _ _ (call (Value.builtin _) [Value.ref _]) _ _ _); refine Held.out ?_)
  k_with "X:exec While Compare cons nil" => (k_here; refine Held.out ?_)
  k_with "X:exec While" => (k_here; refine Held.out ?_)
  k_with "X:call builtin:max" => (k_here; (with_reducible show wpAny _ _ (call (Value.builtin _) [Value.ref _]) _ _ _); refine Held.out ?_)
  trivial
theorem mvdivide_ok (w : World) (Ss : List (List (List Int × Int))) (P G : List (List Int × Int)) (nn N0 : Nat) (x : Value) (l : Addr) (ot : Obj) (vs : List Value) (nt : Nat) (t : Tok) (news : Ledger) (hx : PolyIn w news P x) (hl : (l, ot) ∈ news) (hcl : ot.cls = .type "list") (hdl : ot.data = .seq vs.toArray nt) (hv : PolysIn w news vs Ss) (hB : ∀ S ∈ Ss, S.length ≤ 1000 ∧ HeadMax S (headK S) 1 ∧ (headK S).length = nn) (hn : nn ≤ 1000) (hls : Ss.length ≤ 1000)
    (hP : P ≠ []) (hPH : HashApart w P) (hPz : P.length ≤ 1000) (hPk : ∀ q ∈ P, q.1.length ≤ 1000) (hN : N0 ≤ 1000) (hD : DivN w Ss nn G N0 [] P) :
    Told w 183 [x, .ref l, .str (Str.ofString "lex") t] news 12 (fun ns v => ∃ r q d, v = .ref r ∧ (r, tupO [q, d]) ∈ ns ∧ PolyIn w ns G d) := by
  have hvl := hv.length
  obtain ⟨dx, ox, rfl, lox, hmx, POx⟩ := hx
  have hxP : PolyIn w news P (.ref dx) := ⟨dx, ox, rfl, lox, hmx, POx⟩
  unfold Told
  intro mean mg mb dp un gd cn cs a ccd cl outer A₀ base h₀ L m s Q E B F X N T hk hdp hun hret
  refine wpAny_call ?_
  k_dflt (walk_at "m enterC")
  rename_i gA LA hA0 tkA FGA FA BA XA TA lA oA oB dA dB NC
  k_steps
  refine Held.intro ?_
  obtain ⟨nC, hC⟩ := News.name NC
  refine lcG_list (news := nC) rfl (by assumption) (hC ▸ NC) (by rw [hC]; walk_at "m mem") hcl hdl (by omega) rfl rfl
    (fun i ys ns => ∃ tl, ns = tl ++ nC ∧ AllTup tl ∧ LeadsIn ns ys ((Ss.map headK).take i)) ⟨[], rfl, allTup_nil, .nil⟩ ?_ ?_
  · rintro i v ys news₁ own C oC D2 mC h tk as E' hvi ⟨tl, rfl, ht, hh⟩ hmx hoC F8 N8 off8 hA
    subst hC
    obtain ⟨P1, hP1, hPI1⟩ := hv.get hvi
    obtain ⟨hPz, hPh, hPn⟩ := hB _ (List.mem_of_getElem? hP1)
    obtain ⟨d1, o1, rfl, lo1, hm1, PO1⟩ := hPI1
    have hPI : PolyIn w news P1 (.ref d1) := ⟨d1, o1, rfl, lo1, hm1, PO1⟩
    have hPz2 : P1.length ≤ 10000 := by omega
    k_steps
    refine turnTup3 off8 hA (by assumption) (by assumption) (by walk_at "m sub") ⟨_ :: _ :: _ :: tl, rfl, allTup_cons _ _ (allTup_cons _ _ (allTup_cons _ _ ht)), ?_⟩
    rw [take_snoc' (show (Ss.map headK)[i]? = some (headK P1) by rw [List.getElem?_map, hP1]; rfl)]
    exact LeadsIn.snoc ⟨_, _, _, rfl, List.mem_cons_self, ⟨_, _, rfl, by walk_at "m mem", by assumption⟩, ⟨_, _, _, rfl, by walk_at "m mem"⟩⟩ (hh.mono (by walk_at "m sub"))
  · rintro D2 h tk ys news' F8 N8 off8 ⟨tl, rfl, ht, hh⟩
    rw [hvl, List.take_of_length_le (by rw [List.length_map]; exact Nat.le_refl _)] at hh
    have hyl := hh.length
    rw [List.length_map] at hyl
    subst hC
    dsimp only
    k_steps
    refine Held.intro ?_
    obtain ⟨n2, hn2⟩ := News.name N8
    refine lcG_list (news := n2) rfl (by assumption) (hn2 ▸ N8) (by rw [hn2]; walk_at "m mem") hcl hdl (by omega) rfl rfl
      (fun i ys ns => ∃ qs, ns = qs ++ n2 ∧ ys = qs.map (fun p => Value.ref p.1) ∧ qs.length = i ∧ QsOk w [] 0 qs ∧ (qs.map (·.1)).Nodup ∧ (∀ p ∈ qs, (p.1 == sysModules) = false ∧ ∀ q ∈ n2, q.1 < p.1)) ⟨[], rfl, rfl, rfl, (by intro p hp; cases hp), List.nodup_nil, (by intro p hp; cases hp)⟩ ?_ ?_
    · rintro i v zs news₁ own C oC D3 mC h tk as E' hvi ⟨qs, rfl, rfl, hql, hqk, hqn, hqa⟩ hmx hoC F7 N7 off7 hA
      subst hn2
      k_steps
      rename_i d9 h9 o9 F9 N9 l9 lo9 hs9 fs9 hi9 fi9
      refine TurnEnd.intro F9 N9 ((qs ++ [(d9, o9)]) ++ ((D2, LCg.lst ys) :: (tl ++ (LA + 1 + 1, oA) :: (LA + 1, oB) :: news))) ?_ ?_ ⟨qs ++ [(d9, o9)], rfl, by rw [List.map_append]; rfl, by rw [List.length_append, hql]; rfl, ?_, ?_, ?_⟩
      · walk_at "m lsub"
      · intro p hp hb
        rcases List.mem_append.mp hp with hp | hp
        · rcases List.mem_append.mp hp with hp | hp
          · exact off7 p (List.mem_append_left _ hp) hb
          · rw [List.mem_singleton] at hp
            subst hp
            obtain ⟨o, ho, _⟩ := hA _ hb
            exact Nat.lt_irrefl _ (l9 _ (List.mem_append_left _ ho))
        · exact off7 p (List.mem_append_right _ hp) hb
      · intro p hp
        rcases List.mem_append.mp hp with hp | hp
        · exact hqk p hp
        · rw [List.mem_singleton] at hp
          subst hp
          exact ⟨[], polyObj_nil hi9, Nat.le_refl _⟩
      · rw [List.map_append]
        refine List.nodup_append.mpr ⟨hqn, by simp, ?_⟩
        intro a ha b hb e
        obtain ⟨p, hp, rfl⟩ := List.mem_map.mp ha
        rw [List.map_cons, List.map_nil, List.mem_singleton] at hb
        exact Nat.ne_of_lt (l9 p (List.mem_append_right _ (List.mem_append_left _ hp))) (e.trans hb)
      · intro p hp
        rcases List.mem_append.mp hp with hp | hp
        · exact hqa p hp
        · rw [List.mem_singleton] at hp
          subst hp
          exact ⟨lo9, fun q hq => l9 q (List.mem_append_right _ (List.mem_append_right _ hq))⟩
    · rintro D3 h tkq zs news' F7 N7 off7 ⟨qs, rfl, rfl, hql, hqk, hqn, hqa⟩
      subst hn2
      dsimp only
      k_steps
      rename_i d6 h60 o6 lo6 hs6 fs6 hi6 fi6 l6 D9 o9 h61 hne9 lo9 hP9 DT h62 lT h63 F63 N63 h64 h65 h66 K9 h67 F67 N67 l67
      refine ⟨dx, P, _, rfl, by assumption, by assumption, hxP.mono (by walk_at "m sub"), hPz, hPk, ?_⟩
      intro DN h7 tk7 zs ns7 F6 N6 hne6 hi7 hz7
      dsimp only
      k_steps
      refine Held.intro ?_
      refine max_list_N rfl (by assumption) (by assumption) (News.isList (by assumption) (by walk_at "m mem")) (.cons 20000 _ hi7) (by simp) ?_
      intro h8 M8 t8 tk8 F8 N8 hM8 hA8
      have hM : 20000 ≤ M8 := hA8 20000 (.head _)
      dsimp only
      k_steps
      obtain ⟨nA, hnA⟩ := News.name N8
      have N8' : News gA LA h8 nA := hnA ▸ N8
      have hcm : (LA + 1 + 1, oA) ∈ nA := by rw [hnA]; walk_at "m mem"
      have hne10 : ∀ p ∈ (d6, o6) :: (qs ++ ((D9, o9) :: (tl ++ ((D3, LCg.lst (qs.map (fun p => Value.ref p.1))) :: (D2, LCg.lst ys) :: (LA + 1, oB) :: news)))), p.1 ≠ LA + 1 + 1 := by
        intro p hp
        rcases List.mem_cons.mp hp with rfl | hp
        · exact News.offCell (p := (d6, o6)) N8' hcm dA (by rw [hnA]; walk_at "m mem") (polyObj_nil (w := w) (ns := []) hi6).nc
        · rcases List.mem_append.mp hp with hp | hp
          · obtain ⟨P', h1, _⟩ := hqk p hp
            exact News.offCell N8' hcm dA (by rw [hnA]; exact .tail _ (.tail _ (.tail _ (.tail _ (.tail _ (.tail _ (.tail _ (List.mem_append_left _ hp)))))))) h1.nc
          · rcases List.mem_cons.mp hp with rfl | hp
            · exact News.offCell (p := (D9, o9)) N8' hcm dA (by rw [hnA]; walk_at "m mem") hP9.nc
            · rcases List.mem_append.mp hp with hp | hp
              · obtain ⟨us, e⟩ := ht p hp
                exact News.offCell N8' hcm dA (by rw [hnA]; exact .tail _ (.tail _ (.tail _ (.tail _ (.tail _ (.tail _ (.tail _ (List.mem_append_right _ (.tail _ (List.mem_append_left _ hp)))))))))) (fun v e' => by rw [e] at e'; cases e')
              · rcases List.mem_cons.mp hp with rfl | hp
                · exact News.offCell (p := (D3, LCg.lst (qs.map (fun p => Value.ref p.1)))) N8' hcm dA (by rw [hnA]; walk_at "m mem") (fun v e => by cases e)
                · rcases List.mem_cons.mp hp with rfl | hp
                  · exact News.offCell (p := (D2, LCg.lst ys)) N8' hcm dA (by rw [hnA]; walk_at "m mem") (fun v e => by cases e)
                  · rcases List.mem_cons.mp hp with rfl | hp
                    · exact Nat.ne_of_lt (Nat.lt_succ_self _)
                    · have h1 : @LT.lt Nat _ p.1 LA := lA p hp
                      exact Nat.ne_of_lt (Nat.lt_of_lt_of_le h1 (Nat.le_add_right LA 2))
      refine store_cellM (ns := (d6, o6) :: (qs ++ ((D9, o9) :: (tl ++ ((D3, LCg.lst (qs.map (fun p => Value.ref p.1))) :: (D2, LCg.lst ys) :: (LA + 1, oB) :: news))))) F8 N8' rfl rfl rfl hcm dA ?_ hne10 ?_
      · rw [hnA]
        walk_at "m lsub"
      intro h10 oc F10 N10 hoc
      dsimp only
      k_steps
      refine Held.intro ?_
      obtain ⟨mm, hmm⟩ := Fr.mname F10
      obtain ⟨base, hbase⟩ : ∃ base : Ledger, base = (LA + 1 + 1, oc) :: (D3, LCg.lst (qs.map (fun p => Value.ref p.1))) :: (D2, LCg.lst ys) :: (LA + 1, oB) :: (tl ++ news) := ⟨_, rfl⟩
      have hnlt : ∀ {p : Addr × Obj} {D : Addr}, (∀ q ∈ (D3, LCg.lst (qs.map (fun p => Value.ref p.1))) :: (qs ++ (D2, LCg.lst ys) :: (tl ++ (LA + 1 + 1, oA) :: (LA + 1, oB) :: news)), q.1 ≠ D) → p ∈ base → p.1 ≠ D := by
        intro p D h hp
        rw [hbase] at hp
        rcases List.mem_cons.mp hp with rfl | hp
        · exact h (LA + 1 + 1, oA) (by walk_at "m mem")
        · refine h p (subs_ap ?_ hp)
          walk_at "m lsub"
      have hd6 : ∀ q ∈ (D3, LCg.lst (qs.map (fun p => Value.ref p.1))) :: (qs ++ (D2, LCg.lst ys) :: (tl ++ (LA + 1 + 1, oA) :: (LA + 1, oB) :: news)), q.1 ≠ d6 := by
        intro q hq
        rcases List.mem_cons.mp hq with rfl | hq
        · exact Nat.ne_of_lt l6.1
        · exact allLt_ne l6.2 q hq
      have hd9 : ∀ q ∈ (D3, LCg.lst (qs.map (fun p => Value.ref p.1))) :: (qs ++ (D2, LCg.lst ys) :: (tl ++ (LA + 1 + 1, oA) :: (LA + 1, oB) :: news)), q.1 ≠ D9 := fun q hq => hne9 q (.tail _ hq)
      have hdb : ∀ p ∈ base, p.1 ≠ d6 := fun p hp => hnlt hd6 hp
      have hqb : ∀ p ∈ qs, ∀ q ∈ base, p.1 ≠ q.1 := by
        intro p hp q hq
        rw [hbase] at hq
        rcases List.mem_cons.mp hq with rfl | hq
        · exact hne10 p (.tail _ (List.mem_append_left _ hp))
        · rcases List.mem_cons.mp hq with rfl | hq
          · intro e
            exact off7 p (List.mem_append_left _ hp) (by rw [e]; exact List.mem_singleton.mpr rfl)
          · refine Nat.ne_of_gt ((hqa p hp).2 q (subs_ap ?_ hq))
            walk_at "m lsub"
      have hqd : d6 ∉ qs.map (·.1) := by
        intro h
        obtain ⟨p, hp, e⟩ := List.mem_map.mp h
        exact hd6 p (.tail _ (List.mem_append_left _ hp)) e
      have hsT : SubT ((d6, o6) :: (D3, LCg.lst (qs.map (fun p => Value.ref p.1))) :: (qs ++ (D2, LCg.lst ys) :: (tl ++ (LA + 1 + 1, oA) :: (LA + 1, oB) :: news))) base := by
        rw [hbase]
        exact st_no (polyObj_nil (w := w) (ns := []) hi6).nt (st_no (NT.lst _) (st_app (st_none fun p h us e => let ⟨_, h1, _⟩ := hqk p h; absurd e (h1.nt us)) (st_no (NT.lst _) (st_app (st_of (by walk_at "m lsub")) (st_no (fun us e => by have e' : oA = tupO us := e; rw [e'] at dA; cases dA) (st_in (by walk_at "m memr") (st_of (by walk_at "m lsub"))))))))
      have hLdB : LeadsIn base ys (Ss.map headK) := hh.monoT (by
        rw [hbase]
        exact st_app (st_of (by walk_at "m lsub")) (st_no (fun us e => by have e' : oA = tupO us := e; rw [e'] at dA; cases dA) (st_no (fun us e => by have e' : oB = tupO us := e; rw [e'] at dB; cases dB) (st_of (by walk_at "m lsub")))))
      have hLhB := hLdB.heads
      have hnb : ∀ p ∈ news, p ∈ base := by
        intro p hp
        rw [hbase]
        exact .tail _ (.tail _ (.tail _ (.tail _ (List.mem_append_right _ hp))))
      have hvB := hv.mono hnb
      have hb1 : (LA + 1 + 1, oc) ∈ base := by rw [hbase]; walk_at "m mem"
      have hb2 : (LA + 1, oB) ∈ base := by rw [hbase]; walk_at "m mem"
      have hb3 : (D3, LCg.lst (qs.map (fun p => Value.ref p.1))) ∈ base := by rw [hbase]; walk_at "m mem"
      have hb4 : (D2, LCg.lst ys) ∈ base := by rw [hbase]; walk_at "m mem"
      have hb5 : (l, ot) ∈ base := hnb _ hl
      have hqlo : ∀ a ∈ qs.map (·.1), (a == sysModules) = false := by
        intro a ha
        obtain ⟨p, hp, rfl⟩ := List.mem_map.mp ha
        exact (hqa p hp).1
      refine While_inv2 (DvJ w Ss nn N0 G d6 (qs.map (·.1)) base mm) (n₀ := N0) F10 (news := (d6, o6) :: (qs ++ ((D9, o9) :: ([] ++ base)))) ?_ ?_ ?_
      · refine News.sub N10 ?_
        rw [hbase]
        walk_at "m lsub"
      · refine ⟨[], P, o6, o9, D9, qs, [], 0, tkq, none, none, none, none, none, hD, Nat.le_refl _, by omega, by omega, ?_, rfl, allTup_nil, polyObj_nil hi6, hP9.monoT hsT, ?_, rfl, lo9, ?_, ?_, fun p hp => hnlt hd9 hp⟩
        · subst hmm
          exact map_seven (by rfl) (by rfl) (by rfl) (by rfl) (by rfl) (by rfl) (by rfl) fun z h1 h2 h3 h4 h5 h6 h7 => by walk_at "m ifs"
        · rw [Nat.sub_self]
          exact hqk.mono (fun p hp => nomatch hp) (Nat.le_refl _)
        · exact fun e => hne9 (d6, o6) (.head _) e.symm
        · intro h
          obtain ⟨p, hp, e⟩ := List.mem_map.mp h
          exact hd9 p (.tail _ (List.mem_append_left _ hp)) e
      rintro n m₁ ns h11 tk11 F11 N12 ⟨R, Lf, oR, oL, lf, qs2, tl2, W, u, pv, rv, av, sv, fv, hDv, hnN, hW0, hW1, rfl, rfl, ht2, hR, hL, hQ, hqa2, lol, hld, hlq, hlb⟩
      subst hmm
      have hPl : PolyIn w ((lf, oL) :: (tl2 ++ base)) Lf (.ref lf) := ⟨lf, oL, rfl, lol, .head _, hL.mono (fun p hp => .tail _ hp)⟩
      clear N10 F10 N8' hnA hcm hA8 hM8 N8 F8 hne6 N6 F6 N67 F67 l67 lT hne9 hP9 l6 hs6 fs6 hi6 fi6 N63 F63 off7 off8 hne10 hd6 hd9 hsT hqa hh hqk hnlt
      have hLn : ∀ q ∈ Ss.map headK, q.length = nn := by
        intro q hq
        obtain ⟨S, hS, rfl⟩ := List.mem_map.mp hq
        exact (hB S hS).2.2
      cases hDv with
      | done =>
        have hz2 : ([] : List (List Int × Int)).length ≤ 10000 := Nat.zero_le _
        k_steps
        refine told_end (R := fun ns v => ∃ r q d, v = .ref r ∧ (r, tupO [q, d]) ∈ ns ∧ PolyIn w ns G d) hret (by assumption) (by assumption) ((_, tupO [.ref D3, .ref d6]) :: (d6, oR) :: (tl2 ++ tl)) ?_ ⟨_, _, _, rfl, List.mem_cons_self, d6, oR, rfl, lo6, .tail _ (.head _), hR.monoT ?_⟩
        · rw [hbase]
          walk_at "m lsub"
        · rw [hbase]
          exact st_app (st_of (by walk_at "m lsub")) (st_no (fun us e => by have e' : oc = tupO us := e; rw [e'] at hoc; cases hoc) (st_no (NT.lst _) (st_no (NT.lst _) (st_no (fun us e => by have e' : oB = tupO us := e; rw [e'] at dB; cases dB) (st_app (st_of (by walk_at "m lsub")) (st_of (by walk_at "m lsub")))))))
      | @out n1 R1 P1 k1 c1 hH hc1 hc2 hkz hkl hz hRz hfd hD2 =>
        have hz2 : Lf.length ≤ 10000 := by omega
        have hpos : 0 < Lf.length := by obtain ⟨R1, e1, _⟩ := hH; rw [e1]; exact Nat.succ_pos _
        have hcoef : coef Lf k1 = some c1 := by
          obtain ⟨R1, e1, _⟩ := hH
          exact coef_at hPl.nodup (i := 0) (by rw [e1]; rfl)
        have hLn1 : ∀ q ∈ Ss.map headK, q.length = k1.length := by rw [hkl]; exact hLn
        have hk1 : k1.length ≤ 1000 := by omega
        k_steps
        refine Held.intro ?_
        rename_i e1 e2 e3 e4 r9 x9 q9 us9 t90 u90 hh1 tk1 hi9 e5 e6 hh2 hh3 hh4 tkw t91 e7 e8 hh5 F13a N13a hh6 tk3 F13 N13
        have hil := hi9.length
        obtain ⟨n5, hn5⟩ := News.name N13
        refine lc_tup (news := n5) rfl (by assumption) (hn5 ▸ N13) (by rw [hn5]; walk_at "m mem") rfl rfl (by omega) rfl rfl
          (fun j zs ns => ns = n5 ∧ LSm.BoolsAre zs (List.replicate j false)) ⟨rfl, .nil⟩ ?_ ?_
        · rintro j v zs news₁ own C oC D mC h tk as E' hvj ⟨rfl, hb⟩ hmx hoC F4 N4 off4 hA4
          subst hn5
          obtain ⟨nj, tj, rfl, hkj⟩ := hi9.at j _ hvj
          have hle := hkz _ (List.mem_of_getElem? hkj)
          k_steps
          refine TurnEnd.intro (by assumption) (by assumption) _ (by walk_at "m sub") off4 ⟨rfl, ?_⟩
          rw [show decide (nj > M8) = false from decide_eq_false (by omega), List.replicate_succ']
          exact boolsSnoc hb
        · rintro D h tk zs news' F3 N3 off3 ⟨rfl, hb⟩
          subst hn5
          dsimp only
          k_steps
          refine Held.intro ?_
          refine LSm.any_bools F3 N3 rfl (News.isList (by assumption) (by walk_at "m mem")) hb ?_
          intro h14 tk14 F14 N14
          rw [any_rep]
          dsimp only
          k_steps
          refine Held.intro ?_
          rename (News gA LA _ _) => N15
          have hTx : TupIn ((r9, tupO [.ref x9, .ref q9]) :: (x9, tupO us9) :: (q9, tupO [.int c1 t90, .int 1 u90]) :: (tl2 ++ base)) k1 (.ref x9) := ⟨_, _, rfl, by walk_at "m mem", hi9⟩
          have hRq : RatIn ((r9, tupO [.ref x9, .ref q9]) :: (x9, tupO us9) :: (q9, tupO [.int c1 t90, .int 1 u90]) :: (tl2 ++ base)) c1 (.ref q9) := ⟨_, _, _, rfl, by walk_at "m mem"⟩
          have hT3 : AllTup ((r9, tupO [.ref x9, .ref q9]) :: (x9, tupO us9) :: (q9, tupO [.int c1 t90, .int 1 u90]) :: tl2) := allTup_cons _ _ (allTup_cons _ _ (allTup_cons _ _ ht2))
          have hqn2 : ∀ p ∈ qs2, p.1 ≠ d6 := fun p hp e => hqd (hqa2 ▸ List.mem_map.mpr ⟨p, hp, e⟩)
          have hqn3 : ∀ p ∈ qs2, p.1 ≠ lf := fun p hp e => hlq (hqa2 ▸ List.mem_map.mpr ⟨p, hp, e⟩)
          have htd := tups_ne N15 (d := d6) (o := oR) (by walk_at "m mem") hR.nt hT3 (by walk_at "m lsub")
          have htl := tups_ne N15 (d := lf) (o := oL) (by walk_at "m mem") hL.nt hT3 (by walk_at "m lsub")
          refine set_poly (all := (r9, tupO [.ref x9, .ref q9]) :: (x9, tupO us9) :: (q9, tupO [.int c1 t90, .int 1 u90]) :: (qs2 ++ ((lf, oL) :: (tl2 ++ base)))) (ns := (r9, tupO [.ref x9, .ref q9]) :: (x9, tupO us9) :: (q9, tupO [.int c1 t90, .int 1 u90]) :: (tl2 ++ base)) (by ktr_units) (by assumption) (News.sub N15 ?_) ?_ ?_ (hR.mono (fun p hp => .tail _ (.tail _ (.tail _ hp)))) hTx hRq (by omega) ?_
          · walk_at "m lsub"
          · exact all_cons (htd _ (by walk_at "m mem")) (all_cons (htd _ (by walk_at "m mem")) (all_cons (htd _ (by walk_at "m mem")) (all_app hqn2 (all_cons hld (all_app (fun p h => htd p (.tail _ (.tail _ (.tail _ h)))) hdb)))))
          · walk_at "m lsub"
          intro h16 tk16 oR' F16 N16 hR16
          dsimp only
          k_steps
          refine Held.intro ?_
          refine pop_poly (d := lf) (o := oL) (all := (d6, oR') :: (r9, tupO [.ref x9, .ref q9]) :: (x9, tupO us9) :: (q9, tupO [.int c1 t90, .int 1 u90]) :: (qs2 ++ (tl2 ++ base))) (ns := (r9, tupO [.ref x9, .ref q9]) :: (x9, tupO us9) :: (q9, tupO [.int c1 t90, .int 1 u90]) :: (tl2 ++ base)) (more := []) (by ktr_units) (by assumption) (News.sub N16 ?_) ?_ ?_ (hL.mono (fun p hp => .tail _ (.tail _ (.tail _ hp)))) hTx (by rw [hcoef]; rfl) hz2 (.inl rfl) ?_
          · walk_at "m lsub"
          · exact all_cons (fun e => hld e.symm) (all_cons (htl _ (by walk_at "m mem")) (all_cons (htl _ (by walk_at "m mem")) (all_cons (htl _ (by walk_at "m mem")) (all_app hqn3 (all_app (fun p h => htl p (.tail _ (.tail _ (.tail _ h)))) hlb)))))
          · walk_at "m lsub"
          intro h17 tk17 oL' v17 F17 N17 hL17
          dsimp only
          k_steps
          refine ⟨_, _, _, (d6, oR') :: (qs2 ++ ((lf, oL') :: (((r9, tupO [.ref x9, .ref q9]) :: (x9, tupO us9) :: (q9, tupO [.int c1 t90, .int 1 u90]) :: tl2) ++ base))), n1, rfl, F17, News.sub N17 ?hsub, Nat.lt_succ_self _, setP R k1 c1, delP Lf k1, oR', oL', lf, qs2, (r9, tupO [.ref x9, .ref q9]) :: (x9, tupO us9) :: (q9, tupO [.int c1 t90, .int 1 u90]) :: tl2, W + Lf.length, ?ut, some (.ref x9), some (.ref q9), ?av, sv, fv, hD2, by omega, by omega, by omega, ?hmap, rfl, hT3, hR16, hL17, hQ.mono (fun p hp => .tail _ (.tail _ (.tail _ hp))) (by omega), hqa2, lol, hld, hlq, hlb⟩
          case hsub =>
            walk_at "m lsub"
          case hmap =>
            exact map_seven (by rfl) (by rfl) (by rfl) (by rfl) (by rfl) (by rfl) (by rfl) fun z h1 h2 h3 h4 h5 h6 h7 => by walk_at "m ifs"
      | @sub n1 R1 P1 S1 k1 c1 i1 hH hc1 hc2 hc0 hkz hkl hz hHA hfd hS hmul hcf hnd hSl hD2 =>
        have hz2 : Lf.length ≤ 10000 := by omega
        have hpos : 0 < Lf.length := by obtain ⟨R1, e1, _⟩ := hH; rw [e1]; exact Nat.succ_pos _
        have hLne : Lf ≠ [] := fun e => by rw [e] at hpos; exact Nat.lt_irrefl _ hpos
        have hLn1 : ∀ q ∈ Ss.map headK, q.length = k1.length := by rw [hkl]; exact hLn
        have hk1 : k1.length ≤ 1000 := by omega
        have hSB := hB S1 (List.mem_of_getElem? hS)
        have hSz : S1.length ≤ 10000 := by omega
        have hSk : (Ss.map headK)[i1]? = some (headK S1) := by rw [List.getElem?_map, hS]; rfl
        obtain ⟨vl, hvl1, rl, xl0, yl0, rfl, hlm, ⟨xl, xls, rfl, hxlm, hxli⟩, ⟨yl, ty, uy, rfl, hylm⟩⟩ := LeadsIn.get hLdB hSk
        have hTl : TupIn base (headK S1) (.ref xl) := ⟨_, _, rfl, hxlm, hxli⟩
        have hRl : RatIn base 1 (.ref yl) := ⟨_, _, _, rfl, hylm⟩
        obtain ⟨vS, hvS, sd, os, rfl, los, hsm, POs⟩ := PolysIn.get' hvB hS
        have hSp : PolyIn w base S1 (.ref sd) := ⟨sd, os, rfl, los, hsm, POs⟩
        have hi1 : i1 < Ss.length := (List.getElem?_eq_some_iff.mp hS).1
        have hi1000 : i1 < 10000 := by omega
        obtain ⟨⟨qd, oq0⟩, hqi0⟩ : ∃ q, qs[i1]? = some q := ⟨_, List.getElem?_eq_getElem (by omega)⟩
        have hqi : (qs.map (fun p => Value.ref p.1))[i1]? = some (.ref qd) := by rw [List.getElem?_map, hqi0]; rfl
        have hqm : qd ∈ qs2.map (·.1) := by
          rw [hqa2]
          exact List.mem_map.mpr ⟨_, List.mem_of_getElem? hqi0, rfl⟩
        obtain ⟨⟨qd', oq⟩, hqm2, rfl⟩ := List.mem_map.mp hqm
        dsimp only at hqi
        obtain ⟨qa1, qa2, rfl⟩ := List.append_of_mem hqm2
        have hl8 : k1.length = (headK S1).length := by omega
        have hl9 : ∀ q ∈ S1, q.1.length = (List.zipWith (fun p q => p - q) k1 (headK S1)).length := by
          intro q hq
          rw [hSl q hq, List.length_zipWith]; omega
        have hl10 : (List.zipWith (fun p q => p - q) k1 (headK S1)).length ≤ 1000 := by rw [List.length_zipWith]; omega
        have hnd2 : (S1.map fun q => List.zipWith (fun p q => p + q) q.1 (List.zipWith (fun p q => p - q) k1 (headK S1))).Nodup := by
          unfold shifted less at hnd
          rw [List.map_map] at hnd
          exact hnd
        have hcf2 : ∀ q ∈ S1.map (fun q => (List.zipWith (fun p q => p + q) q.1 (List.zipWith (fun p q => p - q) k1 (headK S1)), q.2 * c1)), q.2 ≠ 0 := by
          intro q hq
          obtain ⟨p, hp, rfl⟩ := List.mem_map.mp hq
          exact Int.mul_ne_zero (hcf p hp) hc0
        have hz3 : Lf.length + (S1.map (fun q => (List.zipWith (fun p q => p + q) q.1 (List.zipWith (fun p q => p - q) k1 (headK S1)), q.2 * c1))).length ≤ 10000 := by rw [List.length_map]; omega
        k_steps
        refine Held.intro ?_
        rename_i e1 e2 e3 e4 r9 x9 q9 us9 t90 u90 hh1 tk1 hi9 e5 e6 hh2 hh3 hh4 tkw t91 e7 e8 hh5 F13a N13a hh6 tk3 F13 N13
        have hil := hi9.length
        obtain ⟨n5, hn5⟩ := News.name N13
        refine lc_tup (news := n5) rfl (by assumption) (hn5 ▸ N13) (by rw [hn5]; walk_at "m mem") rfl rfl (by omega) rfl rfl
          (fun j zs ns => ns = n5 ∧ LSm.BoolsAre zs (List.replicate j false)) ⟨rfl, .nil⟩ ?_ ?_
        · rintro j v zs news₁ own C oC D mC h tk as E' hvj ⟨rfl, hb⟩ hmx hoC F4 N4 off4 hA4
          subst hn5
          obtain ⟨nj, tj, rfl, hkj⟩ := hi9.at j _ hvj
          have hle := hkz _ (List.mem_of_getElem? hkj)
          k_steps
          refine TurnEnd.intro (by assumption) (by assumption) _ (by walk_at "m sub") off4 ⟨rfl, ?_⟩
          rw [show decide (nj > M8) = false from decide_eq_false (by omega), List.replicate_succ']
          exact boolsSnoc hb
        · rintro D h tk zs news' F3 N3 off3 ⟨rfl, hb⟩
          subst hn5
          dsimp only
          k_steps
          refine Held.intro ?_
          refine LSm.any_bools F3 N3 rfl (News.isList (by assumption) (by walk_at "m mem")) hb ?_
          intro h14 tk14 F14 N14
          rw [any_rep]
          dsimp only
          k_steps
          refine Held.intro ?_
          rename_i sh ush hs1 tks his z1 z2 z3 z4 fa tfa ufa hs2 tkf z5 z6 DP hs3 lDP hs4 hs5 hs6 F18 N18
          have hT6 : AllTup ((DP, tupO [.ref sh, .ref fa]) :: (fa, tupO [.int c1 tfa, .int 1 ufa]) :: (sh, tupO ush) :: (r9, tupO [.ref x9, .ref q9]) :: (x9, tupO us9) :: (q9, tupO [.int c1 t90, .int 1 u90]) :: tl2) := allTup_cons _ _ (allTup_cons _ _ (allTup_cons _ _ (allTup_cons _ _ (allTup_cons _ _ (allTup_cons _ _ ht2)))))
          have hTs6 : ∀ p ∈ (DP, tupO [.ref sh, .ref fa]) :: (fa, tupO [.int c1 tfa, .int 1 ufa]) :: (sh, tupO ush) :: (r9, tupO [.ref x9, .ref q9]) :: (x9, tupO us9) :: (q9, tupO [.int c1 t90, .int 1 u90]) :: tl2, p ∈ (DP, tupO [.ref sh, .ref fa]) :: (fa, tupO [.int c1 tfa, .int 1 ufa]) :: (sh, tupO ush) :: (D, LCg.lst zs) :: (r9, tupO [.ref x9, .ref q9]) :: (x9, tupO us9) :: (q9, tupO [.int c1 t90, .int 1 u90]) :: (d6, oR) :: ((qa1 ++ (qd', oq) :: qa2) ++ (lf, oL) :: (tl2 ++ base)) := by
            walk_at "m lsub"
          obtain ⟨Pq, hPq, hPqz⟩ := hQ (qd', oq) hqm2
          have hnq : ((qa1 ++ (qd', oq) :: qa2).map (·.1)).Nodup := by rw [hqa2]; exact hqn
          have hqa1 : ∀ p ∈ qa1, p.1 ≠ qd' := by
            intro p hp e
            rw [List.map_append, List.map_cons] at hnq
            exact (List.nodup_append.mp hnq).2.2 p.1 (List.mem_map.mpr ⟨p, hp, rfl⟩) qd' (.head _) e
          have hqa2' : ∀ p ∈ qa2, p.1 ≠ qd' := by
            intro p hp e
            rw [List.map_append, List.map_cons] at hnq
            exact (List.nodup_cons.mp (List.nodup_append.mp hnq).2.1).1 (List.mem_map.mpr ⟨p, hp, e⟩)
          have hqd6 : qd' ≠ d6 := fun e => hqd (by rw [← hqa2, ← e]; exact hqm)
          have hqlf : qd' ≠ lf := fun e => hlq (by rw [← hqa2, ← e]; exact hqm)
          have hlo : (qd' == sysModules) = false := hqlo _ (by rw [← hqa2]; exact hqm)
          have hqb2 : ∀ q ∈ base, q.1 ≠ qd' := by
            intro q hq e
            rw [hqa2] at hqm
            obtain ⟨p, hp, e'⟩ := List.mem_map.mp hqm
            exact hqb p hp q hq (e'.trans e.symm)
          have htq := tups_ne N18 (d := qd') (o := oq) (by walk_at "m memr") hPq.nt hT6 hTs6
          refine toldM_use (fix := (d6, oR) :: (qa1 ++ (qa2 ++ [(lf, oL)]))) (addterm_ok w Pq (List.zipWith (fun p q => p - q) k1 (headK S1)) c1 qd' oq (.ref sh) (.ref fa) ((DP, tupO [.ref sh, .ref fa]) :: (fa, tupO [.int c1 tfa, .int 1 ufa]) :: (sh, tupO ush) :: (r9, tupO [.ref x9, .ref q9]) :: (x9, tupO us9) :: (q9, tupO [.int c1 t90, .int 1 u90]) :: (tl2 ++ base)) hlo ?hne (hPq.mono (fun p hp => .tail _ (.tail _ (.tail _ (.tail _ (.tail _ (.tail _ hp))))))) ⟨_, _, rfl, by walk_at "m mem", his⟩ ⟨_, _, _, rfl, by walk_at "m mem"⟩ hc0 (by omega)) (by k_asm) F18 (by k_asm) (News.sub N18 ?hsN) ?hfix (by k_asm) (by first | rfl | assumption) (by ktr_room) (by ktr_units) ?_
          case hne =>
            exact all_cons (htq _ (by walk_at "m mem")) (all_cons (htq _ (by walk_at "m mem")) (all_cons (htq _ (by walk_at "m mem")) (all_cons (htq _ (by walk_at "m mem")) (all_cons (htq _ (by walk_at "m mem")) (all_cons (htq _ (by walk_at "m mem")) (all_app (fun p h => htq p (.tail _ (.tail _ (.tail _ (.tail _ (.tail _ (.tail _ h))))))) hqb2))))))
          case hsN =>
            walk_at "m lsub"
          case hfix =>
            exact all_cons (fun e => hqd6 e.symm) (all_app hqa1 (all_app hqa2' (all_cons (fun e => hqlf e.symm) all_nil)))
          intro tlq oq' h19 tk19 F19 N19 htlq hPq'
          have N20 : News gA LA h19 ((qd', oq') :: (d6, oR) :: (qa1 ++ (qa2 ++ (tlq ++ ((DP, tupO [.ref sh, .ref fa]) :: (fa, tupO [.int c1 tfa, .int 1 ufa]) :: (sh, tupO ush) :: (r9, tupO [.ref x9, .ref q9]) :: (x9, tupO us9) :: (q9, tupO [.int c1 t90, .int 1 u90]) :: ((lf, oL) :: (tl2 ++ base))))))) := News.sub N19 (by
            walk_at "m lsub")
          clear N19 N18
          dsimp only
          k_steps
          rename_i dA1 oA1 tlA hA1 tkA1 hneA loA htA hPA z7 z8 dB1 oB1 tlB hB1 tkB1 hneB loB htB hPB hB2 F21 N21
          refine ⟨_, _, _, (d6, oR) :: ((qa1 ++ (qd', oq') :: qa2) ++ ((dB1, oB1) :: ((tlB ++ (tlA ++ (tlq ++ ((DP, tupO [.ref sh, .ref fa]) :: (fa, tupO [.int c1 tfa, .int 1 ufa]) :: (sh, tupO ush) :: (r9, tupO [.ref x9, .ref q9]) :: (x9, tupO us9) :: (q9, tupO [.int c1 t90, .int 1 u90]) :: tl2)))) ++ base))), n1, rfl, F21, News.sub N21 ?hsub2, Nat.lt_succ_self _, R, _, oR, oB1, dB1, qa1 ++ (qd', oq') :: qa2, tlB ++ (tlA ++ (tlq ++ ((DP, tupO [.ref sh, .ref fa]) :: (fa, tupO [.int c1 tfa, .int 1 ufa]) :: (sh, tupO ush) :: (r9, tupO [.ref x9, .ref q9]) :: (x9, tupO us9) :: (q9, tupO [.int c1 t90, .int 1 u90]) :: tl2))), W + Lf.length, ?ut2, some (.ref x9), some (.ref q9), ?av2, ?sv2, ?fv2, hD2, by omega, by omega, by omega, ?hmap2, rfl, allTup_app htB (allTup_app htA (allTup_app htlq hT6)), hR.mono ?hRs, hPB.monoT ?hLs, ?hQs, ?hqs, loB, ?hd6, ?hdq, ?hdb⟩
          case hmap2 =>
            exact map_seven (by rfl) (by rfl) (by rfl) (by rfl) (by rfl) (by rfl) (by rfl) fun z h1 h2 h3 h4 h5 h6 h7 => by walk_at "m ifs"
          case hsub2 =>
            walk_at "m lsub"
          case hRs =>
            walk_at "m lsub"
          case hLs =>
            exact st_app (st_of (by walk_at "m lsub")) (st_no hPA.nt (st_app (st_of (by walk_at "m lsub")) (st_no hPq'.nt (st_no hR.nt (st_app (st_none fun p h us e => let ⟨_, h1, _⟩ := hQ p (List.mem_append_left _ h); absurd e (h1.nt us)) (st_app (st_none fun p h us e => let ⟨_, h1, _⟩ := hQ p (List.mem_append_right _ (.tail _ h)); absurd e (h1.nt us)) (st_app (st_of (by walk_at "m lsub")) (st_in (by walk_at "m memr") (st_in (by walk_at "m memr") (st_in (by walk_at "m memr") (st_in (by walk_at "m memr") (st_in (by walk_at "m memr") (st_in (by walk_at "m memr") (st_no hL.nt (st_app (st_of (by walk_at "m lsub")) (st_of (by walk_at "m lsub")))))))))))))))))
          case hQs =>
            have hup : ∀ p ∈ tl2 ++ base, p ∈ (tlB ++ (tlA ++ (tlq ++ ((DP, tupO [.ref sh, .ref fa]) :: (fa, tupO [.int c1 tfa, .int 1 ufa]) :: (sh, tupO ush) :: (r9, tupO [.ref x9, .ref q9]) :: (x9, tupO us9) :: (q9, tupO [.int c1 t90, .int 1 u90]) :: tl2)))) ++ base := by
              walk_at "m lsub"
            intro p hp
            rcases List.mem_append.mp hp with hp | hp
            · obtain ⟨P', h1, h2⟩ := hQ p (List.mem_append_left _ hp)
              exact ⟨P', h1.mono hup, by omega⟩
            · rcases List.mem_cons.mp hp with rfl | hp
              · refine ⟨_, hPq'.mono ?_, Nat.le_trans (addT_length _ _ _) (by omega)⟩
                walk_at "m lsub"
              · obtain ⟨P', h1, h2⟩ := hQ p (List.mem_append_right _ (.tail _ hp))
                exact ⟨P', h1.mono hup, by omega⟩
          case hqs =>
            rw [← hqa2, List.map_append, List.map_append, List.map_cons, List.map_cons]
          case hd6 => exact fun e => hneB (d6, oR) (by walk_at "m memr") e.symm
          case hdq =>
            intro h
            rw [← hqa2] at h
            obtain ⟨p, hp, e⟩ := List.mem_map.mp h
            rcases List.mem_append.mp hp with hp | hp
            · exact hneB p (by walk_at "m memr") e
            · rcases List.mem_cons.mp hp with rfl | hp
              · exact hneB (qd', oq') (by walk_at "m memr") e
              · exact hneB p (by walk_at "m memr") e
          case hdb => exact fun p hp => hneB p (by walk_at "m memr")
end

theorem lines_39 : True := by
  k_with_none
  k_with "X:m sub" => (intro p hp; (repeat (first | exact hp | refine List.Mem.tail _ ?_ | refine List.mem_append_right _ ?_)))
  k_with "X:m mem" => (repeat (first | assumption | exact List.Mem.head _ | refine List.Mem.tail _ ?_ | refine List.mem_append_right _ ?_))
  k_with "X:m rel" => first | assumption | exact RatIn.mono (by assumption) (by walk_at "m sub") | exact ⟨_, _, _, rfl, by walk_at "m mem"⟩
  k_with "X:m args" => (
    (case zqk1 => k_asm)
    (case zqk2 => k_asm)
    (case zqk3 => k_asm)
    (case zqk5 => k_asm)
    (case zqkK => first | exact rfl | assumption)
    (case zqkd => ktr_room)
    (case zqku => ktr_units))
  k_with "X:m tup" => first | assumption | exact TupIn.mono (by assumption) (by walk_at "m sub") | exact ⟨_, _, rfl, by walk_at "m mem", by assumption⟩
  k_with "X:compareOp Eq ref ref" => (k_here; (with_reducible show wpAny _ _ (compareOp _ (Value.ref _) (Value.ref 71)) _ _ _); k_dflt (
    refine' eq_r0 ?zqhu ?zqhF ?zqhN ?zqhX ?zqhx ?zqhb ?_
    (case zqhN => k_asm)
    (case zqhx => walk_at "m rel")
    (case zqhu => ktr_units)
    (case zqhF => k_asm)
    (case zqhX => k_asm)
    (case zqhb => first | exact decide_eq_false (by assumption) | exact decide_eq_true (by assumption) | rfl)
    (try dsimp only)
    (try k_fold)))
  k_with "X:compareOp In ref ref" => (k_here; k_dflt (
    refine' in_polyB ?zqhu ?zqhN ?zqhd ?zqhk ?zqhc ?_
    (case zqhN => k_asm)
    (case zqhd => walk_at "m poly")
    (case zqhk => walk_at "m tup")
    (case zqhu => ktr_units)
    (case zqhc => assumption)
    (try simp only [Option.isSome_some, Option.isSome_none])
    (try k_fold)))
  k_with "X:subscriptTail" => (k_here; (with_reducible show wpAny _ _ (subscriptTail _ _ (Value.ref _) (Value.ref _)) _ _ _); k_dflt (
    refine' get_polyS ?zqhu ?zqhN ?zqhd ?zqhs1 ?zqhk ?zqhs2 ?zqhc ?_ (by rfl) (by intro _; rfl)
    (case zqhN => k_asm)
    (case zqhd => assumption)
    (case zqhs1 => walk_at "m sub")
    (case zqhk => assumption)
    (case zqhs2 => walk_at "m sub")
    (case zqhu => ktr_units)
    (case zqhc => assumption)
    intro _ _ _ _
    (try dsimp only)
    (try k_fold)))
  k_with "X:getMethod ref" => (k_here; (with_reducible show wpAny _ _ (getMethod (Value.ref _) (PySem.Str.ofString "pop") _) _ _ _); k_dflt (
    refine' pop_method ?zqhN ?zqhd ?_
    (case zqhN => k_asm)
    (case zqhd => walk_at "m poly")
    (try k_fold)))
  k_with "X:call builtin:dict.pop" => fail "by hand"
  k_with "X:eval DictComp" => (k_here; k_dflt (refine dc_eval (by k_asm) (by with_unfolding_all rfl) (by decide) (by rfl) (by decide) (by rfl) ?_))
  k_with "X:call ref" => (k_here; (with_reducible show wpAny _ _ (call (Value.ref 39) _) _ _ _); k_dflt (
    refine' told_val (order_key_ok _ _ _ _) ?zqk1 ?zqk2 ?zqk3 ?zqk4 ?zqk5 ?zqkK ?zqkd ?zqku ?_
    (case zqk4 => k_asm)
    walk_at "m args"
    intro _ _ _ _
    (try dsimp only)
    (try k_fold)))
  k_with "X:call type:dict" => (k_here; (with_reducible show wpAny _ _ (call (Value.type "dict") [Value.ref _]) _ _ _); k_dflt (
    refine' copy_poly ?zqhF ?zqhN ?zqhB ?zqhd ?zqhP ?zqhH ?zqhz ?_
    (case zqhF => k_asm)
    (case zqhN => k_asm)
    (case zqhd => walk_at "m poly")
    (case zqhB => exact big_of (by k_asm))
    (case zqhP => assumption)
    (case zqhH => assumption)
    (case zqhz => first | assumption | omega)
    intro _ _ _ _ _ _ _ _
    (try dsimp only)
    (try k_fold)))
  k_with "X:exec For Name Name cons nil" => (k_here; (with_unfolding_all refine' For_turns (by assumption) ?_); k_whole)
  k_with "X:call ref" => (k_here; (with_reducible show wpAny _ _ (call (Value.ref 135) _) _ _ _); k_dflt (
    refine' toldM_use (addterm_ok _ _ _ _ _ _ _ _ _ ?zqlo ?zqhne ?zqPO ?zqhx ?zqhy ?zqhc ?zqhz) ?zqk1 ?zqk2 ?zqk3 ?zqk4 ?zqhf ?zqk5 ?zqkK ?zqkd ?zqku ?_
    (case zqk4 => assumption)
    (case zqlo => assumption)
    (case zqhne => assumption)
    (case zqhf => assumption)
    (case zqPO => assumption)
    (case zqhx => walk_at "m tup")
    (case zqhy => walk_at "m rel")
    (case zqhc => assumption)
    (case zqhz => first | assumption | omega)
    walk_at "m args"
    intro _ _ _ _ _ _ _ _
    (try dsimp only)
    (try k_fold)))
  k_with "X:m poly" => first | assumption | exact PolyIn.mono (by assumption) (by walk_at "m sub") | exact ⟨_, _, rfl, by assumption, by walk_at "m mem", PolyObj.mono (by assumption) (by walk_at "m sub")⟩
  k_with "X:compareOp Gt ref ref" => (k_here; k_dflt (
    refine' gt_tupS ?zqhu ?zqhN ?zqhx ?zqh1 ?zqhy ?zqh2 ?zqhr ?_
    (case zqhN => k_asm)
    (case zqhx => assumption)
    (case zqh1 => walk_at "m sub")
    (case zqhy => assumption)
    (case zqh2 => walk_at "m sub")
    (case zqhu => ktr_units)
    (case zqhr => assumption)
    (try dsimp only)
    (try k_fold)))
  k_with "X:compareOp NotEq ref ref" => (k_here; k_dflt (
    refine' ne_tupS ?zqhu ?zqhN ?zqhx ?zqh1 ?zqhy ?zqh2 ?zqhr ?_
    (case zqhN => k_asm)
    (case zqhx => assumption)
    (case zqh1 => walk_at "m sub")
    (case zqhy => assumption)
    (case zqh2 => walk_at "m sub")
    (case zqhu => ktr_units)
    (case zqhr => assumption)
    (try dsimp only)
    (try k_fold)))
  k_with "X:call ref" => (k_here; (with_reducible show wpAny _ _ (call (Value.ref 164) _) _ _ _); k_dflt (
    refine' told_lead (mvlead_ok _ _ _ _ ?zqha ?zqhz _ _ ?zqhH _) ?zqk1 ?zqk2 ?zqk3 ?zqk4 ?zqk5 ?zqkK ?zqkd ?zqku ?_
    (case zqk4 => k_asm)
    (case zqha => walk_at "m poly")
    (case zqhz => first | assumption | omega)
    (case zqhH => assumption)
    walk_at "m args"
    intro _ _ _ _ _ _ _ _ _ _ _
    (try dsimp only)
    (try k_fold)))
  k_with "X:call ref" => (k_here; (with_reducible show wpAny _ _ (call (Value.ref 171) _) _ _ _); k_dflt (
    refine' toldN_use (mvmonic_ok _ _ _ _ ?zqha ?zqhz _ ?zqhH ?zqhm _) ?zqk1 ?zqk2 ?zqk3 ?zqk4 ?zqk5 ?zqkK ?zqkd ?zqku ?_
    (case zqk4 => k_asm)
    (case zqha => walk_at "m poly")
    (case zqhz => first | assumption | omega)
    (case zqhH => assumption)
    (case zqhm => assumption)
    walk_at "m args"
    intro _ _ _ _ _ _ _ _ _ _ _
    (try dsimp only)
    (try k_fold)))
  k_with "X:exec For Tuple Name cons nil" => (k_here; (with_unfolding_all refine' For_turns (by assumption) ?_); k_whole)
  k_with "X:exec For Tuple Call cons nil" => (k_here; (with_unfolding_all refine' For_turns (by assumption) ?_); k_whole)
  k_with "X:eval ListComp" => (k_here; k_dflt (refine lc_eval (by k_asm) (by with_unfolding_all rfl) (by decide) (by rfl) (by decide) ?_))
  k_with "X:m lsub" => (repeat' (first | exact subs_nil | refine subs_cons (by walk_at "m memr") ?_ | refine subs_app ?_ ?_ | walk_at "m subo"))
  k_with "X:m memr" => first | assumption | exact List.Mem.head _ | (refine List.Mem.tail _ ?_; walk_at "m memr"; done) | (refine List.mem_append_right _ ?_; walk_at "m memr"; done) | (refine List.mem_append_left _ ?_; walk_at "m memr"; done)
  k_with "X:m subo" => first | exact subs_refl | assumption | (refine subs_tl ?_; walk_at "m subo"; done) | (refine subs_inr ?_; walk_at "m subo"; done) | (refine subs_inl ?_; walk_at "m subo"; done)
  k_with "X:m ifs" => (repeat (first | exact rfl | refine (if_neg (by assumption)).trans ?_))
  k_with "X:m memo" => first | assumption | exact List.Mem.head _ | (refine List.mem_append_left _ ?_; walk_at "m memo"; done) | (refine List.mem_append_right _ ?_; walk_at "m memo"; done) | (refine List.Mem.tail _ ?_; walk_at "m memo"; done)
  k_with "X:call builtin:len" => (k_here; (with_reducible show wpAny _ _ (call (Value.builtin _) [Value.ref _]) _ _ _); k_dflt (
    refine' len_poly ?zqhN ?zqhd ?zqhz ?_
    (case zqhN => k_asm)
    (case zqhd => walk_at "m poly")
    (case zqhz => first | assumption | omega)
    intro _
    (try dsimp only)
    (try k_fold)))
  k_with "X:exec Assign cons ListComp" => (k_here; (with_reducible show wpAny _ _ (exec (PySem.Stmt.Assign _ (PySem.Expr.ListComp _ [⟨_, _, [], 0⟩] _ _) _) _) _ _ _); k_dflt (refine lcG_assign (by k_asm) (by with_unfolding_all rfl) (by with_unfolding_all rfl) (by decide) (by rfl) (by decide) (by rfl) (by rfl) ?_))
  k_with "X:exec Assign cons ListComp" => (k_here; (with_reducible show wpAny _ _ (exec (PySem.Stmt.Assign _ (PySem.Expr.ListComp _ [⟨_, _, [_], 0⟩] _ _) _) _) _ _ _); k_dflt (refine lcTG_assign (by k_asm) (by with_unfolding_all rfl) (by with_unfolding_all rfl) (by decide) (by rfl) (by decide) (by rfl) (by rfl) ?_))
  k_with "X:pyIter ref" => (k_here; (with_reducible show wpAny _ _ (pyIter (Value.ref _)) (LcAtT _ _ _ _ _ _ _ _ _ _ _ _ _) _ _); refine Held.out ?_)
  k_with "X:pyIter ref" => (k_here; (with_reducible show wpAny _ _ (pyIter (Value.ref _)) (LcAt _ _ _ _ _ _ _ _ _ _ _ _) _ _); refine Held.out ?_)
  k_with "X:pyIter ref" => (k_here; (with_reducible show wpAny _ _ (pyIter (Value.ref _)) (LcAtTG _ _ _ _ _ _ _ _ _ _ _ _ _ _) _ _); refine Held.out ?_)
  k_with "X:pyIter ref" => (k_here; (with_reducible show wpAny _ _ (pyIter (Value.ref _)) (LcAtG _ _ _ _ _ _ _ _ _ _ _ _ _) _ _); refine Held.out ?_)
  k_with "X:call builtin:list.append" => (k_here; (with_reducible show wpAny _ _ (call (Value.builtin _) [Value.ref _, _]) _ _ _); refine Held.out ?_)
  k_with "X:subscriptTail Name Slice ref ref" => (k_here; (with_reducible show wpAny _ _ (subscriptTail _ (PySem.Expr.Slice none (some _) none _) (Value.ref _) (Value.ref _)) _ _ _); k_dflt (
    refine' slice_uptoS ?zqF ?zqN ?zqm ?zqc ?zqd ?zqz ?_ ?zqs ?zqt
    (case zqF => k_asm)
    (case zqN => k_asm)
    (case zqm => walk_at "m mem")
    (case zqc => rfl)
    (case zqd => rfl)
    (case zqz => first | assumption | omega)
    (case zqs => with_unfolding_all rfl)
    (case zqt => (intro _; rfl))
    intro _ _ _ _
    (try dsimp only)
    (try k_fold)))
  k_with "X:subscriptTail Name Slice ref ref" => (k_here; (with_reducible show wpAny _ _ (subscriptTail _ (PySem.Expr.Slice (some _) none none _) (Value.ref _) (Value.ref _)) _ _ _); k_dflt (
    refine' slice_fromS1 ?zqF ?zqN ?zqm ?zqc ?zqd ?zqz ?_ ?zqs ?zqt
    (case zqF => k_asm)
    (case zqN => k_asm)
    (case zqm => walk_at "m mem")
    (case zqc => rfl)
    (case zqd => rfl)
    (case zqz => first | assumption | omega)
    (case zqs => with_unfolding_all rfl)
    (case zqt => (intro _; rfl))
    intro _ _ _ _
    (try dsimp only)
    (try k_fold)))
  k_with "X:binaryOp Add ref ref" => (k_here; (with_reducible show wpAny _ _ (binaryOp _ (Value.ref _) (Value.ref _)) _ _ _); k_dflt (
    refine' add_listS ?zqF ?zqN ?zqm ?zqc ?zqd ?zqm2 ?zqc2 ?zqd2 ?zqz ?_
    (case zqF => k_asm)
    (case zqN => k_asm)
    (case zqm => walk_at "m mem")
    (case zqc => rfl)
    (case zqd => rfl)
    (case zqm2 => walk_at "m mem")
    (case zqc2 => rfl)
    (case zqd2 => rfl)
    (case zqz => first | assumption | (simp only [List.length_take, List.length_drop, List.length_cons, List.length_nil]; omega))
    intro _ _ _ _
    (try dsimp only)
    (try k_fold)))
  k_with "X:subscriptTail" => (k_here; (with_reducible show wpAny _ _ (subscriptTail _ _ (Value.ref _) (Value.int (Nat.cast _) _)) _ _ _); k_dflt (
    refine' item_listS ?zqN ?zqm ?zqc ?zqd ?zqx ?zqi ?_ ?zqs
    (case zqN => k_asm)
    (case zqm => walk_at "m mem")
    (case zqc => first | rfl | assumption)
    (case zqd => first | rfl | assumption)
    (case zqx => assumption)
    (case zqi => omega)
    (case zqs => with_unfolding_all rfl)
    (try dsimp only)
    (try k_fold)))
  trivial
section PKit21
set_option maxRecDepth 100000
set_option maxHeartbeats 1000000
open PyProof.Rows.LCg (NsObj lst ns_obj lst_snoc)
/-- a sort's questions answered by lt, all places below n -/
def runB {α : Type} (n : Nat) (lt : Nat → Nat → Bool) : KasT α → Option α
  | .ret a => some a
  | .ask i j k => if i < n ∧ j < n then runB n lt (k (lt i j)) else none
theorem runB_wp {α : Type} {n : Nat} {lt : Nat → Nat → Bool} {cmp : Nat → Nat → (Bool → Shared → Prop) → Shared → Prop} {Q : α → Shared → Prop} {s : Shared}
    (hcmp : ∀ i j C, i < n → j < n → C (lt i j) s → cmp i j C s) {a : α} (hq : Q a s) : ∀ (t : KasT α), runB n lt t = some a → t.kasWp cmp Q s
  | .ret b, h => by
    have : b = a := Option.some.inj h
    subst this
    exact hq
  | .ask i j k, h => by
    unfold runB at h
    by_cases hb : i < n ∧ j < n
    · rw [if_pos hb] at h
      exact hcmp i j _ hb.1 hb.2 (runB_wp hcmp hq (k (lt i j)) h)
    · rw [if_neg hb] at h; cases h
/-- pairs of a tuple of ints and the place -/
def KeyedIn (ns : Ledger) (vs : List Value) (Ls : List (List Int)) : Prop :=
  vs.length = Ls.length ∧ ∀ (i : Nat) v, vs[i]? = some v → ∃ r pl t ks, v = .ref r ∧ (r, tupO [.ref pl, .int (i : Int) t]) ∈ ns ∧ Ls[i]? = some ks ∧ TupIn ns ks (.ref pl)
theorem KeyedIn.mono {ns ns' : Ledger} {vs : List Value} {Ls : List (List Int)} (h : KeyedIn ns vs Ls) (hs : ∀ p ∈ ns, p ∈ ns') : KeyedIn ns' vs Ls :=
  ⟨h.1, fun i v hv => let ⟨r, pl, t, ks, e, hm, hk, hT⟩ := h.2 i v hv; ⟨r, pl, t, ks, e, hs _ hm, hk, hT.mono hs⟩⟩
theorem KeyedIn.nil {ns : Ledger} : KeyedIn ns [] [] := ⟨rfl, fun i v h => by simp at h⟩
theorem KeyedIn.snoc {ns : Ledger} {vs : List Value} {Ls : List (List Int)} {r pl : Addr} {t : Tok} {ks : List Int} {i : Nat} (h : KeyedIn ns vs Ls) (hi : i = vs.length) (hm : (r, tupO [.ref pl, .int (i : Int) t]) ∈ ns) (hT : TupIn ns ks (.ref pl)) : KeyedIn ns (vs ++ [.ref r]) (Ls ++ [ks]) := by
  subst hi
  refine ⟨by simp [h.1], fun j v hv => ?_⟩
  rcases Nat.lt_or_ge j vs.length with hj | hj
  · rw [List.getElem?_append_left hj] at hv
    obtain ⟨r', pl', t', ks', e, hm', hk, hT'⟩ := h.2 j v hv
    exact ⟨r', pl', t', ks', e, hm', by rw [List.getElem?_append_left (by rw [← h.1]; exact hj)]; exact hk, hT'⟩
  · rw [List.getElem?_append_right hj] at hv
    have hj0 : j - vs.length = 0 := by
      rcases Nat.eq_zero_or_pos (j - vs.length) with e | e
      · exact e
      · rw [List.getElem?_eq_none (by simp; omega)] at hv; cases hv
    have hje : j = vs.length := by omega
    subst hje
    rw [Nat.sub_self] at hv
    simp only [List.getElem?_cons_zero, Option.some.injEq] at hv
    subst hv
    exact ⟨r, pl, t, ks, rfl, hm, by rw [List.getElem?_append_right (by rw [h.1]; exact Nat.le_refl _), h.1, Nat.sub_self]; rfl, hT⟩
theorem lexLt_self : ∀ ks : List Int, lexLt ks ks = false
  | [] => rfl
  | x :: xs => by simp [lexLt, lexLt_self xs]
section
variable {w : World} {A : Around} {E : Value → Shared → Prop} {s : Shared} {h₀ : Heap} {L : Addr} {m : Str → Option Value}
theorem firsts_of {h : Heap} {ns : Ledger} (N : News h₀ L h ns) : ∀ vs : List Value, (∀ v ∈ vs, ∃ r pl t ks i, v = .ref r ∧ (r, tupO [.ref pl, .int i t]) ∈ ns ∧ TupIn ns ks (.ref pl)) → ∃ fs, KatTups h vs fs ∧ fs.length = vs.length ∧ ∀ f ∈ fs, ∃ pl ks, f = .ref pl ∧ TupIn ns ks (.ref pl)
  | [], _ => ⟨[], .nil, rfl, fun f hf => nomatch hf⟩
  | v :: vs, hv => by
    obtain ⟨r, pl, t, ks, i, rfl, hm, hT⟩ := hv v List.mem_cons_self
    obtain ⟨fs, h1, h2, h3⟩ := firsts_of N vs fun v h => hv v (List.mem_cons_of_mem _ h)
    refine ⟨.ref pl :: fs, .cons (N _ hm).1 rfl rfl rfl h1, by simp [h2], fun f hf => ?_⟩
    rcases List.mem_cons.mp hf with rfl | hf
    · exact ⟨pl, ks, rfl, hT⟩
    · exact h3 f hf
theorem sort_keyed {D : Addr} {n : Nat} {vs : List Value} {Ls : List (List Int)} {rest : Ledger} {p : Array Nat} {Q : Value → Shared → Prop} (hu : A.units + 1 < cLine) (F : Fr h₀ L s.heap m) (N : News h₀ L s.heap ((D, { cls := .type "list", data := .seq vs.toArray n }) :: rest)) (hap : ∀ p ∈ rest, p.1 ≠ D)
    (hk : KeyedIn rest vs Ls) (hnd : Ls.Nodup) (h2 : 2 ≤ vs.length) (h64 : vs.length < 64) (hrun : runB vs.length (fun i j => lexLt (Ls.getD i []) (Ls.getD j [])) (kas_sort vs.length) = some p)
    (h : ∀ h' c, Fr h₀ L h' m → News h₀ L h' ((D, { cls := .type "list", data := .seq (p.toList.map fun i => vs.getD i Value.none).toArray c }) :: rest) → Q .none { s with heap := h' }) :
    wpAny (model PR w) A (call (.builtin "list.sort") [.ref D]) Q E s := by
  refine kat_lsort (its := vs.toArray) (vs := vs) (n := n) (g := fun o => (D, o) :: rest) F N (.head hap) (by simp) h2 h64 fun e1 h' F' N' => ?_
  have Nr : News h₀ L h' rest := fun p hp => N' p (.tail _ hp)
  obtain ⟨fs, hfs, hfl, hft⟩ := firsts_of Nr vs (fun v hv => by
    obtain ⟨i, hi⟩ := List.getElem?_of_mem hv
    obtain ⟨r, pl, t, ks, e, hm, _, hT⟩ := hk.2 i v hi
    exact ⟨r, pl, t, ks, _, e, hm, hT⟩)
  refine kat_kind (fs := fs) (T := Value.type "tuple") hfs (by omega) (fun f hf => ?_) (by decide) ?_
  · obtain ⟨pl, ks, rfl, b, us, e, hm, hi⟩ := hft f hf
    cases e
    exact (show Looks _ _ (typeOf (.ref pl)) (tupO us).cls from (Looks.ld (Nr _ hm).1).andThen .now)
  · have hb : (Value.type "tuple" != Value.type "tuple") = false := by decide
    rw [hb]
    refine runB_wp (n := vs.length) (lt := fun i j => lexLt (Ls.getD i []) (Ls.getD j [])) (fun i j C hi hj hC => ?_) ?_ _ hrun
    · obtain ⟨vi, hvi⟩ : ∃ v, vs[i]? = some v := ⟨_, List.getElem?_eq_getElem hi⟩
      obtain ⟨vj, hvj⟩ : ∃ v, vs[j]? = some v := ⟨_, List.getElem?_eq_getElem hj⟩
      obtain ⟨ri, pi, ti, ki, rfl, hmi, hki, hTi⟩ := hk.2 i vi hvi
      obtain ⟨rj, pj, tj, kj, rfl, hmj, hkj, hTj⟩ := hk.2 j vj hvj
      unfold kas_ask
      rw [show vs.getD i Value.none = .ref ri by simp [List.getD, hvi], show vs.getD j Value.none = .ref rj by simp [List.getD, hvj]]
      have hC' : C (lexLt ki kj) { s with heap := h' } := by
        have e1 : Ls.getD i [] = ki := by simp [List.getD, hki]
        have e2 : Ls.getD j [] = kj := by simp [List.getD, hkj]
        simpa only [e1, e2] using hC
      refine kat_lt (Nr _ hmi).1 rfl (Nr _ hmj).1 rfl ?_
      refine kat_cons (wpAny_eqBool_tuple (knd := intKind PR w) hu (hTi.key Nr) (hTj.key Nr) ?_)
      by_cases hkk : ki = kj
      · rw [decide_eq_true hkk]
        have hij : i = j := by
          rcases Nat.decEq i j with hne | he
          · exact absurd hkk (nodup_ne hnd hki hkj hne)
          · exact he
        subst hij
        refine kat_yes (kat_cons (wpAny_eqBool_int ?_))
        rw [show ((i : Int) == (i : Int)) = true from by simp]
        refine kat_yes (kat_nil ?_)
        rw [← hkk, lexLt_self] at hC'
        exact hC'
      · rw [decide_eq_false hkk]
        refine kat_no ?_
        simp only [Bool.false_and]
        refine kat_one _ _ (lt_tup hu (hTi.key Nr) (hTj.key Nr) ?_)
        exact hC'
    · exact KasFin.intro F' N' (.head hap) fun h'' c F'' N'' => h h'' c F'' N''
end
/-- the reduced form, step by step: the places that are left, what is found, the end -/
inductive RedN (w : World) (Bs : List (List (List Int × Int))) (nn : Nat) (Z : List (List (List Int × Int))) : List Nat → List (List (List Int × Int)) → Prop
  | done : RedN w Bs nn Z [] Z
  | step {i : Nat} {is : List Nat} {Fs : List (List (List Int × Int))} {P G : List (List Int × Int)} {N : Nat} : Bs[i]? = some P → (∀ S ∈ Fs, S.length ≤ 1000 ∧ HeadMax S (headK S) 1 ∧ (headK S).length = nn) → Fs.length ≤ 1000 →
      P ≠ [] → HashApart w P → P.length ≤ 1000 → (∀ q ∈ P, q.1.length ≤ 1000) → N ≤ 1000 → DivN w Fs nn G N [] P → G.length ≤ 1000 → HeadMax G (headK G) 1 → (∀ q ∈ G, IntMulOk q.2 1) →
      RedN w Bs nn Z is (Fs ++ [G]) → RedN w Bs nn Z (i :: is) Fs
theorem mapOne (G : List (List Int × Int)) : (G.map fun q => (q.1, q.2 * 1)) = G := by
  simp
end PKit21
section PKit22
set_option maxRecDepth 100000
set_option maxHeartbeats 1000000
open PyProof.Rows.LCg (NsObj lst ns_obj lst_snoc)
section
variable {w : World} {f : Addr} {vs : List Value} {news : Ledger} {dep : Nat}
    {mean : ExcName → Option Value} {mg mb : Str → Option Value} {dp un : Nat} {gd : Option (List Code)} {cn : Str} {cs : Scope} {a : Addr} {ccd : Value} {cl : List (Str × Addr)} {outer : List Env} {A₀ : Around} {base h₀ : Heap} {L : Addr} {m : Str → Option Value} {s : Shared} {Q E : Value → Shared → Prop}
theorem told_lst {ys : List Value} (C : Told w f vs news dep (fun ns v => ∃ d k, v = .ref d ∧ (d, ({ cls := .type "list", data := .seq ys.toArray k } : Obj)) ∈ ns))
    (B : Below A₀ base outer h₀) (F : Fr h₀ L s.heap m) (X : (hd.heap_1 w.params).In h₀) (N : News h₀ L s.heap news) (T : Top VW LO mean mg mb h₀) (hk : cs.kind = .function) (hdp : dp + dep < recursionLimit) (hun : un + 8 * dep < cLine)
    (ret : ∀ d k h' tk', Fr h₀ L h' m → News h₀ L h' ((d, { cls := .type "list", data := .seq ys.toArray k }) :: news) → Q (.ref d) { s with heap := h', toks := tk' }) :
    wpAny (model PR w) (ktrTop dp un gd cn cs L a ccd cl outer) (call (.ref f) vs) Q E s :=
  told_use C B F X N T hk hdp hun fun _ _ h' tk' F' N' hr => by
    obtain ⟨d, k, rfl, hm⟩ := hr
    refine ret d k h' tk' F' (fun p hp => ?_)
    rcases List.mem_cons.mp hp with rfl | hp
    · exact N' _ hm
    · exact N' p (List.mem_append_right _ hp)
theorem told_poly {G : List (List Int × Int)} (C : Told w f vs news dep (fun ns v => PolyIn w ns G v))
    (B : Below A₀ base outer h₀) (F : Fr h₀ L s.heap m) (X : (hd.heap_1 w.params).In h₀) (N : News h₀ L s.heap news) (T : Top VW LO mean mg mb h₀) (hk : cs.kind = .function) (hdp : dp + dep < recursionLimit) (hun : un + 8 * dep < cLine)
    (ret : ∀ d tl h' tk', Fr h₀ L h' m → News h₀ L h' (tl ++ news) → PolyIn w (tl ++ news) G (.ref d) → Q (.ref d) { s with heap := h', toks := tk' }) :
    wpAny (model PR w) (ktrTop dp un gd cn cs L a ccd cl outer) (call (.ref f) vs) Q E s :=
  told_use C B F X N T hk hdp hun fun _ tl h' tk' F' N' hr => by
    obtain ⟨d, o, rfl, lo, hm, PO⟩ := hr
    exact ret d tl h' tk' F' N' ⟨d, o, rfl, lo, hm, PO⟩
theorem told_div {G : List (List Int × Int)} (C : Told w f vs news dep (fun ns v => ∃ r q d, v = .ref r ∧ (r, tupO [q, d]) ∈ ns ∧ PolyIn w ns G d))
    (B : Below A₀ base outer h₀) (F : Fr h₀ L s.heap m) (X : (hd.heap_1 w.params).In h₀) (N : News h₀ L s.heap news) (T : Top VW LO mean mg mb h₀) (hk : cs.kind = .function) (hdp : dp + dep < recursionLimit) (hun : un + 8 * dep < cLine)
    (ret : ∀ r q d tl h' tk', Fr h₀ L h' m → News h₀ L h' (tl ++ news) → (r, tupO [q, .ref d]) ∈ tl ++ news → PolyIn w (tl ++ news) G (.ref d) → Q (.ref r) { s with heap := h', toks := tk' }) :
    wpAny (model PR w) (ktrTop dp un gd cn cs L a ccd cl outer) (call (.ref f) vs) Q E s :=
  told_use C B F X N T hk hdp hun fun _ tl h' tk' F' N' hr => by
    obtain ⟨r, q, d, rfl, hm, d1, o, rfl, lo, hm2, PO⟩ := hr
    exact ret r q d1 tl h' tk' F' N' hm ⟨d1, o, rfl, lo, hm2, PO⟩
end
/-- the tuples of a ledger -/
noncomputable def tupsOf (ns : Ledger) : Ledger := by
  classical exact ns.filter fun p => decide (∃ vs, p.2 = tupO vs)
theorem tupsOf_sub {ns : Ledger} : ∀ p ∈ tupsOf ns, p ∈ ns := fun p hp => by
  classical
  unfold tupsOf at hp
  exact (List.mem_filter.mp hp).1
theorem tupsOf_all {ns : Ledger} : AllTup (tupsOf ns) := fun p hp => by
  classical
  unfold tupsOf at hp
  exact of_decide_eq_true (List.mem_filter.mp hp).2
theorem subT_tupsOf {ns : Ledger} : SubT ns (tupsOf ns) := fun p hp h => by
  classical
  unfold tupsOf
  exact List.mem_filter.mpr ⟨hp, decide_eq_true h⟩
theorem turnTup4 {h₀ : Heap} {L : Addr} {m : Str → Option Value} {s₁ : Shared} {fix ns all : Ledger} {as : List Addr} {rest : Ledger → Prop} {h' : Heap} {tk : Nat} {r0 r q t : Addr} {us0 us qs ts : List Value} (off : Off as ns) (hA : Apart as fix)
    (F : Fr h₀ L h' m) (N : News h₀ L h' ((r0, tupO us0) :: (r, tupO us) :: (q, tupO qs) :: (t, tupO ts) :: all)) (sub : ∀ p ∈ fix ++ ns, p ∈ all) (hr : rest ((r0, tupO us0) :: (r, tupO us) :: (q, tupO qs) :: (t, tupO ts) :: ns)) :
    TurnEnd h₀ L m s₁ fix as rest { s₁ with heap := h', toks := tk } :=
  turnTup (tl := [(r0, tupO us0), (r, tupO us), (q, tupO qs), (t, tupO ts)]) off hA (allTup_cons _ _ (allTup_cons _ _ (allTup_cons _ _ (allTup_cons _ _ allTup_nil)))) F N (fun p hp => by
    rcases List.mem_append.mp hp with h | h
    · exact .tail _ (.tail _ (.tail _ (.tail _ (sub p (List.mem_append_left _ h)))))
    · rcases List.mem_append.mp h with h | h
      · simp only [List.mem_cons, List.not_mem_nil, or_false] at h ⊢
        rcases h with h | h | h | h <;> simp [h]
      · exact .tail _ (.tail _ (.tail _ (.tail _ (sub p (List.mem_append_right _ h)))))) hr
section
variable {prog : Program} {w : World} {A : Around} {E : Value → Shared → Prop} {s : Shared} {h₀ : Heap} {m : Str → Option Value} {env : Env} {body : List Stmt} {Q : Flow → Shared → Prop}
/-- for a, b in l, l a list of pairs -/
theorem for_pair_listM {a b : Str} {pa pb tp : Pos} {kk : Nat} {t : Addr} {ot : Obj} {vs : List Value} {nt : Nat} {news base : Ledger}
    (hh : A.handled = none) (F : Fr h₀ env.locals s.heap m) (N : News h₀ env.locals s.heap news) (hm : (t, ot) ∈ news) (hc : ot.cls = .type "list") (hd : ot.data = .seq vs.toArray nt)
    (ha : env.kindOf a = some .local) (hb : env.kindOf b = some .local) (hp : (env.scope.kind == .class || (env.scope.kind == .module && env.locals != env.globals)) = false)
    (PP : Nat → Value → Value → Prop) (hpairs : ∀ (i : Nat) v, vs[i]? = some v → ∃ T x y, v = .ref T ∧ (T, tupO [x, y]) ∈ base ∧ PP i x y)
    (J : (Str → Option Value) → Nat → (Str → Option Value) → Ledger → Prop) (h0 : J m 0 m news) (hJ : ∀ i m₁ ns, J m i m₁ ns → ∀ p ∈ base, p ∈ ns)
    (step : ∀ i T x y m₁ news₁ own h tk (wr : List Addr), vs[i]? = some (.ref T) → (T, tupO [x, y]) ∈ base → PP i x y → J m i m₁ news₁ → Fr h₀ env.locals h (fun z => if z = b then some y else if z = a then some x else m₁ z) → News h₀ env.locals h (own ++ news₁) → Off wr news₁ → Apart wr own → (∀ p ∈ own, p.1 ∈ wr ∨ p.1 = t) →
      wpAny (model prog w) A (execs body env) (ForEnd h₀ env.locals { s with heap := h, toks := tk } own wr Q (J m (i + 1))) E { s with heap := h, toks := tk })
    (done : ∀ h' tk m' news', Fr h₀ env.locals h' m' → News h₀ env.locals h' news' → J m vs.length m' news' → Q .next { s with heap := h', toks := tk }) :
    wpAny (model prog w) A (pyIter (.ref t)) (fun it s₂ => TurnsAt prog w A h₀ env (.Tuple [.Name a pa, .Name b pb] kk tp) body Q E it s₂) E s := by
  have hax := N _ hm
  have hT : s.heap.IsList t vs.toArray := ⟨ot, hax.1, hc, nt, hd⟩
  have hlt : t < s.heap.objs.size := Heap.lt_size hax.1
  have hLs : env.locals < s.heap.objs.size := F.ns.lt
  refine wpAny_pyIter_list hT ?_
  have keep : ∀ b o', s.heap.get? b = some o' → (s.heap.push { cls := .type "list_iterator", data := .fields #[.ref t, .int 0 0] }).get? b = some o' := fun b o' e => Heap.get?_push_of_some _ e
  refine for_turnsX (s₂ := { s with heap := s.heap.push { cls := .type "list_iterator", data := .fields #[.ref t, .int 0 0] } }) (AX := fun i m₁ ns m₂ ns₂ => ∃ T x y, vs[i]? = some (.ref T) ∧ (T, tupO [x, y]) ∈ base ∧ PP i x y ∧ ns₂ = ns ∧ m₂ = fun z => if z = b then some y else if z = a then some x else m₁ z)
    (KTurns.ofWalks (Walks.list hh s.heap.objs.size t (Nat.ne_of_lt hlt) vs.toArray) (fun i v s' Q E st h => by
      cases v <;> first | exact wpAny_letOwnedTupleGo_listiter st.1 h | exact wpAny_pure h)) ?_ ?_ ?_ ⟨⟨_, Heap.get?_push_size _ rfl, rfl, rfl⟩, hT.at fun o e => keep t o e⟩ (F.keeps keep) (N.grown keep)
    (J m) h0 ?_ ?_ (fun h tk m' news' a b c => done h tk m' news' a b (by simpa using c))
  · simp only [List.mem_cons, List.not_mem_nil, or_false, not_or]
    exact ⟨Nat.ne_of_lt hLs, fun e => hax.2.1 e.symm⟩
  · intro c hc
    rw [List.mem_singleton] at hc
    subst hc
    exact fresh_above F (Nat.le_refl _)
  · intro p hp hb
    rw [List.mem_singleton] at hb
    exact Nat.ne_of_lt (Heap.lt_size (N p hp).1) hb
  · rintro i v h tk m₁ ns own Qu E' hP hj hown F₁ N₁ hoff hQ
    have hv : vs[i]? = some v := by simpa using hP
    obtain ⟨T, x, y, rfl, hTm, hpp⟩ := hpairs i v hv
    have hTn := (N₁ _ (List.mem_append_right _ (hJ i m₁ ns hj _ hTm))).1
    exact asg_pair hh ha hb hp ⟨_, hTn, rfl, _, rfl⟩ F₁ N₁ fun h' tk' F' N' => hQ h' tk' _ _ ⟨T, x, y, hv, hTm, hpp, rfl, rfl⟩ F' N' hoff
  · rintro i m₁ m₂ news₁ news₂ own h tk hi hj ⟨T, x, y, hv, hTm, hpp, rfl, rfl⟩ F' N' off' hA ho
    refine step i T x y m₁ news₂ own h tk _ hv hTm hpp hj F' N' off' (hA ?_) (fun p hp => ?_)
    · intro i h st b hb
      rw [List.mem_singleton] at hb
      subst hb
      obtain ⟨o, e, hc, _⟩ := st.1
      exact ⟨o, e, NT.type hc (by decide)⟩
    · have := ho p hp
      simp only [List.mem_cons, List.not_mem_nil, or_false] at this ⊢
      exact this
end
theorem RedN.lt {w : World} {Bs Z : List (List (List Int × Int))} {nn : Nat} {is : List Nat} {Fs : List (List (List Int × Int))} (h : RedN w Bs nn Z is Fs) : ∀ i ∈ is, i < Bs.length := by
  induction h with
  | done => intro i hi; cases hi
  | step hB _ _ _ _ _ _ _ _ _ _ _ _ ih =>
    intro i hi
    rcases List.mem_cons.mp hi with rfl | hi
    · exact (List.getElem?_eq_some_iff.mp hB).1
    · exact ih i hi
theorem drop_cons {α : Type} {l : List α} {j : Nat} {x : α} (h : l[j]? = some x) : l.drop j = x :: l.drop (j + 1) := by
  obtain ⟨hj, e⟩ := List.getElem?_eq_some_iff.mp h
  rw [← e]
  exact List.drop_eq_getElem_cons hj
end PKit22
set_option maxRecDepth 100000
set_option maxHeartbeats 3000000

theorem lines_40 : True := by
  k_with "X:call ref" => (k_here; (with_reducible show wpAny _ _ (call (Value.ref 183) _) _ _ _); k_dflt (
    refine' told_div (mvdivide_ok _ _ _ _ _ _ _ _ _ _ _ _ _ ?zqhx ?zqhl ?zqhc ?zqhd ?zqhv ?zqhB ?zqhn ?zqhz ?zqhP ?zqhPH ?zqhPz ?zqhPk ?zqhN ?zqhD) ?zqk1 ?zqk2 ?zqk3 ?zqk4 ?zqk5 ?zqkK ?zqkd ?zqku ?_
    (case zqk4 => k_asm)
    (case zqhx => walk_at "m poly")
    (case zqhl => walk_at "m mem")
    (case zqhc => first | assumption | rfl)
    (case zqhd => first | assumption | rfl)
    (case zqhv => first | assumption | (refine PolysIn.mono ?_ (by assumption); walk_at "m sub"))
    (case zqhB => assumption)
    (case zqhn => first | assumption | omega)
    (case zqhz => first | assumption | omega)
    (case zqhD => assumption)
    (case zqhP => assumption)
    (case zqhPH => assumption)
    (case zqhPz => assumption)
    (case zqhPk => assumption)
    (case zqhN => assumption)
    walk_at "m args"
    intro _ _ _ _ _ _ _ _ _ _
    (try dsimp only)
    (try k_fold)))
  k_with "X:call ref" => (k_here; (with_reducible show wpAny _ _ (call (Value.ref 200) _) _ _ _); k_dflt (
    refine' told_lst (minimal_basis_ok _ _ _ _ _ _ _ _ _ ?zqhl ?zqhc ?zqhd ?zqhv ?zqhB ?zqhn ?zqhz ?zqhnd ?zqhdv) ?zqk1 ?zqk2 ?zqk3 ?zqk4 ?zqk5 ?zqkK ?zqkd ?zqku ?_
    (case zqk4 => k_asm)
    (case zqhl => walk_at "m mem")
    (case zqhc => first | assumption | rfl)
    (case zqhd => first | assumption | rfl)
    (case zqhv => first | assumption | (refine PolysIn.mono ?_ (by assumption); walk_at "m sub"))
    (case zqhB => assumption)
    (case zqhn => first | assumption | omega)
    (case zqhz => first | assumption | omega)
    (case zqhnd => assumption)
    (case zqhdv => assumption)
    walk_at "m args"
    intro _ _ _ _ _ _
    (try dsimp only)
    (try k_fold)))
  trivial
theorem rest_of_ok (w : World) (Ss : List (List (List Int × Int))) (P G : List (List Int × Int)) (nn N0 : Nat) (x : Value) (l : Addr) (ot : Obj) (vs : List Value) (nt : Nat) (t : Tok) (news : Ledger) (hx : PolyIn w news P x) (hl : (l, ot) ∈ news) (hcl : ot.cls = .type "list") (hdl : ot.data = .seq vs.toArray nt) (hv : PolysIn w news vs Ss) (hB : ∀ S ∈ Ss, S.length ≤ 1000 ∧ HeadMax S (headK S) 1 ∧ (headK S).length = nn) (hn : nn ≤ 1000) (hls : Ss.length ≤ 1000)
    (hP : P ≠ []) (hPH : HashApart w P) (hPz : P.length ≤ 1000) (hPk : ∀ q ∈ P, q.1.length ≤ 1000) (hN : N0 ≤ 1000) (hD : DivN w Ss nn G N0 [] P) :
    Told w 190 [x, .ref l, .str (Str.ofString "lex") t] news 13 (fun ns v => PolyIn w ns G v) := by
  obtain ⟨dx, ox, rfl, lox, hmx, POx⟩ := hx
  have hxP : PolyIn w news P (.ref dx) := ⟨dx, ox, rfl, lox, hmx, POx⟩
  unfold Told
  intro mean mg mb dp un gd cn cs a ccd cl outer A₀ base h₀ L m s Q E B F X N T hk hdp hun hret
  refine wpAny_call ?_
  k_dflt cell_enter
  k_steps
  rename (PolyIn _ _ G _) => hG
  exact told_end (R := fun ns v => PolyIn w ns G v) hret (by assumption) (by assumption) _ (fun p hp => hp) hG
theorem lines_41 : True := by
  k_with "X:call ref" => (k_here; (with_reducible show wpAny _ _ (call (Value.ref 190) _) _ _ _); k_dflt (
    refine' told_poly (rest_of_ok _ _ _ _ _ _ _ _ _ _ _ _ _ ?zqhx ?zqhl ?zqhc ?zqhd ?zqhv ?zqhB ?zqhn ?zqhz ?zqhP ?zqhPH ?zqhPz ?zqhPk ?zqhN ?zqhD) ?zqk1 ?zqk2 ?zqk3 ?zqk4 ?zqk5 ?zqkK ?zqkd ?zqku ?_
    (case zqk4 => k_asm)
    (case zqhx => walk_at "m poly")
    (case zqhl => walk_at "m mem")
    (case zqhc => first | assumption | rfl)
    (case zqhd => first | assumption | rfl)
    (case zqhv => first | assumption | (refine PolysIn.mono ?_ (by assumption); walk_at "m sub"))
    (case zqhB => assumption)
    (case zqhn => first | assumption | omega)
    (case zqhz => first | assumption | omega)
    (case zqhD => assumption)
    (case zqhP => assumption)
    (case zqhPH => assumption)
    (case zqhPz => assumption)
    (case zqhPk => assumption)
    (case zqhN => assumption)
    walk_at "m args"
    intro _ _ _ _ _ _ _
    (try dsimp only)
    (try k_fold)))
  trivial
section
theorem lines_42 : True := by
  k_with "X:pyIter ref" => (k_here; (with_reducible show wpAny _ _ (pyIter (Value.ref _)) (fun it s₂ => TurnsAt _ _ _ _ _ _ _ _ _ it s₂) _ _); refine Held.out ?_)
  k_with "X:call builtin:list.sort" => (k_here; refine Held.out ?_)
  trivial
theorem reduced_form_ok (w : World) (Bs Z : List (List (List Int × Int))) (n : Nat) (l : Addr) (ot : Obj) (vs : List Value) (nt : Nat) (t : Tok) (news : Ledger) (hl : (l, ot) ∈ news) (hcl : ot.cls = .type "list") (hdl : ot.data = .seq vs.toArray nt) (hv : PolysIn w news vs Bs) (hB : ∀ P ∈ Bs, P.length ≤ 10000 ∧ HeadMax P (headK P) (headC P) ∧ (headK P).length = n) (hn : n ≤ 1000) (hls : Bs.length ≤ 60) (hl2 : 2 ≤ Bs.length)
    (hnd : (Bs.map headK).Nodup) (hdv : ∀ i ks, (Bs.map headK)[i]? = some ks → firstDiv ((Bs.map headK).take i ++ (Bs.map headK).drop (i + 1)) ks = -1)
    (p : Array Nat) (hrun : runB Bs.length (fun i j => lexLt ((Bs.map headK).getD i []) ((Bs.map headK).getD j [])) (kas_sort Bs.length) = some p) (hR : RedN w Bs n Z p.toList []) :
    Told w 205 [.ref l, .str (Str.ofString "lex") t] news 15 (fun ns v => ∃ d k zs, v = .ref d ∧ (d, ({ cls := .type "list", data := .seq zs.toArray k } : Obj)) ∈ ns ∧ PolysIn w ns zs Z) := by
  have hvl := hv.length
  have hls2 : Bs.length ≤ 1000 := by omega
  unfold Told
  intro mean mg mb dp un gd cn cs a ccd cl outer A₀ base h₀ L m s Q E B F X N T hk hdp hun hret
  refine wpAny_call ?_
  k_dflt (walk_at "m enterC")
  rename_i gA LA hA0 tkA FGA FA BA XA TA lA oA dA NC
  k_steps
  rename_i DK kK hK1 tkK hK2 FK NK
  obtain ⟨nC, hC⟩ := News.name NK
  refine lcG_enum_list (news := nC) rfl FK (hC ▸ NK) (by rw [hC]; exact List.mem_cons_self) rfl rfl (by rw [sizeLine_eq]; omega) rfl rfl rfl (by decide)
    (fun i ys ns => ∃ tl, ns = tl ++ nC ∧ AllTup tl ∧ KeyedIn ns ys ((Bs.map headK).take i)) ⟨[], rfl, allTup_nil, .nil⟩ ?_ ?_
  · rintro i tk₀ x ys news₁ own C oC D2 mC h tk as E' hvi ⟨tl, rfl, ht, hh⟩ hma hmb hoC F8 N8 off8 hA
    subst hC
    obtain ⟨P1, hP1, hPI1⟩ := hv.get hvi
    obtain ⟨hPz, hPh, hPn⟩ := hB _ (List.mem_of_getElem? hP1)
    obtain ⟨d1, o1, rfl, lo1, hm1, PO1⟩ := hPI1
    have hPI : PolyIn w news P1 (.ref d1) := ⟨d1, o1, rfl, lo1, hm1, PO1⟩
    have hiB : i < Bs.length := (List.getElem?_eq_some_iff.mp hP1).1
    have hyi : i = ys.length := by have := hh.1; rw [List.length_take, List.length_map] at this; omega
    k_steps
    refine turnTup4 off8 hA (by assumption) (by assumption) (by walk_at "m sub") ⟨_ :: _ :: _ :: _ :: tl, rfl, allTup_cons _ _ (allTup_cons _ _ (allTup_cons _ _ (allTup_cons _ _ ht))), ?_⟩
    rw [take_snoc' (show (Bs.map headK)[i]? = some (headK P1) by rw [List.getElem?_map, hP1]; rfl)]
    exact KeyedIn.snoc (hh.mono (by walk_at "m sub")) hyi List.mem_cons_self ⟨_, _, rfl, by walk_at "m mem", by assumption⟩
  · rintro D2 h tk ys news' F8 N8 off8 ⟨tl, rfl, ht, hh⟩
    rw [hvl, List.take_of_length_le (by rw [List.length_map]; exact Nat.le_refl _)] at hh
    have hyl := hh.1
    rw [List.length_map] at hyl
    subst hC
    dsimp only
    k_steps
    refine Held.intro ?_
    refine sort_keyed (by ktr_units) F8 N8 (fun q hq e => off8 q hq (by rw [e]; exact List.mem_singleton.mpr rfl)) hh hnd (by omega) (by omega) (by rw [hyl]; exact hrun) ?_
    intro h9 c9 F9 N9
    clear F8 N8 FK NK
    dsimp only
    k_steps
    refine Held.intro ?_
    rename_i K h70 F70 N70 hK h6 F7 N7
    have hplt := hR.lt
    refine for_pair_listM (base := tl ++ ((DK, { cls := .type "list", data := .seq vs.toArray kK }) :: (LA + 1, oA) :: news)) rfl F7 N7 (by walk_at "m mem") rfl rfl rfl rfl rfl
      (fun j x y => ∃ i pl tt, p.toList[j]? = some i ∧ x = .ref pl ∧ y = .int ((i : Nat) : Int) tt) ?_
      (fun mm j m₁ ns => ∃ pv av k zs Fs tl', m₁ = (fun z => if z = Str.ofString "at" then av else if z = Str.ofString "place" then pv else mm z) ∧
        ns = (K, ({ cls := .type "list", data := .seq (List.toArray zs) k } : Obj)) :: (tl' ++ ((D2, { cls := .type "list", data := .seq (p.toList.map fun i => ys.getD i Value.none).toArray c9 }) :: (tl ++ ((DK, { cls := .type "list", data := .seq vs.toArray kK }) :: (LA + 1, oA) :: news)))) ∧
        PolysIn w (tl' ++ ((D2, { cls := .type "list", data := .seq (p.toList.map fun i => ys.getD i Value.none).toArray c9 }) :: (tl ++ ((DK, { cls := .type "list", data := .seq vs.toArray kK }) :: (LA + 1, oA) :: news)))) zs Fs ∧ RedN w Bs n Z (p.toList.drop j) Fs ∧
        (∀ q ∈ tl' ++ ((D2, ({ cls := .type "list", data := .seq (p.toList.map fun i => ys.getD i Value.none).toArray c9 } : Obj)) :: (tl ++ ((DK, { cls := .type "list", data := .seq vs.toArray kK }) :: (LA + 1, oA) :: news))), q.1 ≠ K)) ?_ ?_ ?_ ?_
    · intro j v hv'
      rw [List.getElem?_map] at hv'
      cases hpj : p.toList[j]? with
      | none => rw [hpj] at hv'; cases hv'
      | some i =>
        rw [hpj] at hv'
        have hilt := hplt i (List.mem_of_getElem? hpj)
        obtain ⟨u, hu⟩ : ∃ u, ys[i]? = some u := ⟨_, List.getElem?_eq_getElem (by omega)⟩
        obtain ⟨r, pl, tt, ks, rfl, hm, _, _⟩ := hh.2 i u hu
        refine ⟨r, .ref pl, .int (i : Int) tt, ?_, hm, i, pl, tt, rfl, rfl, rfl⟩
        have e := Option.some.inj hv'
        rw [← e]
        simp [List.getD, hu]
    · refine ⟨none, none, 0, [], [], [], ?_, rfl, .nil, hR, ?_⟩
      · exact map_two (by rfl) (by rfl) fun z h1 h2 => by walk_at "m ifs"
      · intro q hq
        rcases List.mem_cons.mp hq with rfl | hq
        · exact Nat.ne_of_lt hK.1
        · exact allLt_ne hK.2 q hq
    · rintro j m₁ ns ⟨pv, av, k, zs, Fs, tl', rfl, rfl, _⟩ q hq
      exact .tail _ (List.mem_append_right _ (.tail _ hq))
    · rintro j T x y m₁ news₁ own h tk wr hxj hTm ⟨i, pl, tt, hpj, rfl, rfl⟩ ⟨pv, av, k, zs, Fs, tl', rfl, rfl, hzF, hRed, hKa⟩ F5 N5 off5 hA5 ho5
      rw [drop_cons hpj] at hRed
      cases hRed with
      | @step _ _ _ P1 G1 N1 hBi hSS hFl hP hPH hPz hPk hN hD hGz hGH hGm hrest =>
        obtain ⟨vB, hvB, dB, oB, rfl, loB, hmB, POB⟩ := PolysIn.get' hv hBi
        have hPB : PolyIn w news P1 (.ref dB) := ⟨dB, oB, rfl, loB, hmB, POB⟩
        have hi1000 : i < 10000 := by have := (List.getElem?_eq_some_iff.mp hBi).1; omega
        have hGz2 : G1.length ≤ 10000 := by omega
        clear N7 F7 N70 F70 hB
        k_steps
        refine Held.intro ?_
        rename_i dR tlR hR1 tkR FR NR hPR z1 z2 dM oM tlM hM tkM FM NM hneM loM htM hPM
        rw [mapOne] at hPM
        have hzl : zs.length ≤ 10000 := by have := hzF.length; omega
        have hTUs : ∀ q ∈ tupsOf (tlM ++ (tlR ++ own)), q ∈ (dM, oM) :: (tlM ++ (tlR ++ (own ++ ((K, ({ cls := .type "list", data := .seq (List.toArray zs) k } : Obj)) :: (tl' ++ ((D2, ({ cls := .type "list", data := .seq (p.toList.map fun i => ys.getD i Value.none).toArray c9 } : Obj)) :: (tl ++ ((DK, { cls := .type "list", data := .seq vs.toArray kK }) :: (LA + 1, oA) :: news)))))))) := by
          exact subs_via tupsOf_sub (by walk_at "m lsub")
        have hTUK := tups_ne NM (d := K) (o := { cls := .type "list", data := .seq (List.toArray zs) k }) (by walk_at "m memr") (NT.type rfl (by decide)) tupsOf_all hTUs
        have hDK : dM ≠ K := fun e => hneM (K, { cls := .type "list", data := .seq (List.toArray zs) k }) (by walk_at "m memr") e.symm
        have hTUw := off_tups NM hA5 (by walk_at "m lsub") tupsOf_all hTUs
        refine append_listS (D := K) (vs := zs) (n := k) (rest := own ++ ((dM, oM) :: (tupsOf (tlM ++ (tlR ++ own)) ++ (tl' ++ ((D2, ({ cls := .type "list", data := .seq (p.toList.map fun i => ys.getD i Value.none).toArray c9 } : Obj)) :: (tl ++ ((DK, { cls := .type "list", data := .seq vs.toArray kK }) :: (LA + 1, oA) :: news))))))) FM NM ?hs ?hap hzl ?_
        case hs =>
          exact subs_cons (by walk_at "m memr") (subs_app (by walk_at "m subo") (subs_cons (by walk_at "m memr") (subs_app hTUs (by walk_at "m lsub"))))
        case hap =>
          intro q hq
          rcases List.mem_append.mp hq with hq | hq
          · rcases ho5 q hq with h | h
            · exact fun e => off5 _ (.head _) (by rw [← e]; exact h)
            · rw [h]; exact hKa (D2, _) (List.mem_append_right _ (.head _))
          · rcases List.mem_cons.mp hq with rfl | hq
            · exact hDK
            · rcases List.mem_append.mp hq with hq | hq
              · exact hTUK q hq
              · exact hKa q hq
        intro h19 F2 N2
        (try dsimp only)
        k_steps
        refine ForEnd.next (by assumption) (by assumption) ((K, { cls := .type "list", data := .seq (List.toArray (zs ++ [.ref dM])) (k + 1) }) :: (((dM, oM) :: (tupsOf (tlM ++ (tlR ++ own)) ++ tl')) ++ ((D2, ({ cls := .type "list", data := .seq (p.toList.map fun i => ys.getD i Value.none).toArray c9 } : Obj)) :: (tl ++ ((DK, { cls := .type "list", data := .seq vs.toArray kK }) :: (LA + 1, oA) :: news))))) ?sub3 ?off3 ⟨_, _, k + 1, zs ++ [.ref dM], Fs ++ [G1], (dM, oM) :: (tupsOf (tlM ++ (tlR ++ own)) ++ tl'), fun_ao, rfl, ?hps, hrest, ?hka3⟩
        case sub3 =>
          walk_at "m lsub"
        case off3 =>
          exact all_cons (fun hb => off5 (K, { cls := .type "list", data := .seq (List.toArray zs) k }) (.head _) hb) (all_app (all_cons (fun hb => let ⟨o, ho, _⟩ := hA5 _ hb; hneM (dM, o) (by walk_at "m memo") rfl) (all_app hTUw fun q h => off5 q (.tail _ (List.mem_append_left _ h)))) fun q h => off5 q (.tail _ (List.mem_append_right _ h)))
        case hka3 =>
          exact all_app (all_cons hDK (all_app hTUK fun q h => hKa q (List.mem_append_left _ h))) fun q h => hKa q (List.mem_append_right _ h)
        case hps =>
          refine PolysIn.snoc ⟨dM, oM, rfl, loM, by walk_at "m memr", hPM.monoT ?_⟩ (hzF.mono ?_)
          · have hT : SubT (tlM ++ (tlR ++ own)) (tupsOf (tlM ++ (tlR ++ own))) := fun q h e => subT_tupsOf _ h e
            exact st_app (fun q h e => subs_ap (by walk_at "m lsub") (hT q (List.mem_append_left _ h) e)) (st_app (fun q h e => subs_ap (by walk_at "m lsub") (hT q (List.mem_append_right _ (List.mem_append_left _ h)) e)) (st_app (fun q h e => subs_ap (by walk_at "m lsub") (hT q (List.mem_append_right _ (List.mem_append_right _ h)) e))
              (st_no (NT.type (o := { cls := .type "list", data := .seq (List.toArray zs) k }) rfl (by decide)) (st_of (by walk_at "m lsub")))))
          · walk_at "m lsub"
    · rintro h' tk m' ns' F5 N5 ⟨pv, av, k, zs, Fs, tl', rfl, rfl, hzF, hRed, hKa⟩
      rw [List.length_map, List.drop_length] at hRed
      cases hRed
      dsimp only
      k_steps
      exact told_end (R := fun ns v => ∃ d k zs, v = .ref d ∧ (d, ({ cls := .type "list", data := .seq zs.toArray k } : Obj)) ∈ ns ∧ PolysIn w ns zs Z) hret (by assumption) (by assumption)
        ((K, { cls := .type "list", data := .seq (List.toArray zs) k }) :: (tl' ++ ((D2, { cls := .type "list", data := .seq (p.toList.map fun i => ys.getD i Value.none).toArray c9 }) :: (tl ++ [(DK, { cls := .type "list", data := .seq vs.toArray kK }), (LA + 1, oA)]))))
        (by walk_at "m lsub") ⟨K, k, zs, rfl, List.mem_cons_self, hzF.mono (by walk_at "m lsub")⟩
end

theorem lines_43 : True := by
  k_with_none
  k_with "X:m sub" => (intro p hp; (repeat (first | exact hp | refine List.Mem.tail _ ?_ | refine List.mem_append_right _ ?_)))
  k_with "X:m mem" => (repeat (first | assumption | exact List.Mem.head _ | refine List.Mem.tail _ ?_ | refine List.mem_append_right _ ?_))
  k_with "X:m rel" => first | assumption | exact RatIn.mono (by assumption) (by walk_at "m sub") | exact ⟨_, _, _, rfl, by walk_at "m mem"⟩
  k_with "X:m args" => (
    (case zqk1 => k_asm)
    (case zqk2 => k_asm)
    (case zqk3 => k_asm)
    (case zqk5 => k_asm)
    (case zqkK => first | exact rfl | assumption)
    (case zqkd => ktr_room)
    (case zqku => ktr_units))
  k_with "X:m tup" => first | assumption | exact TupIn.mono (by assumption) (by walk_at "m sub") | exact ⟨_, _, rfl, by walk_at "m mem", by assumption⟩
  k_with "X:compareOp Eq ref ref" => (k_here; (with_reducible show wpAny _ _ (compareOp _ (Value.ref _) (Value.ref 71)) _ _ _); k_dflt (
    refine' eq_r0 ?zqhu ?zqhF ?zqhN ?zqhX ?zqhx ?zqhb ?_
    (case zqhN => k_asm)
    (case zqhx => walk_at "m rel")
    (case zqhu => ktr_units)
    (case zqhF => k_asm)
    (case zqhX => k_asm)
    (case zqhb => first | exact decide_eq_false (by assumption) | exact decide_eq_true (by assumption) | rfl)
    (try dsimp only)
    (try k_fold)))
  k_with "X:compareOp In ref ref" => (k_here; k_dflt (
    refine' in_polyB ?zqhu ?zqhN ?zqhd ?zqhk ?zqhc ?_
    (case zqhN => k_asm)
    (case zqhd => walk_at "m poly")
    (case zqhk => walk_at "m tup")
    (case zqhu => ktr_units)
    (case zqhc => assumption)
    (try simp only [Option.isSome_some, Option.isSome_none])
    (try k_fold)))
  k_with "X:subscriptTail" => (k_here; (with_reducible show wpAny _ _ (subscriptTail _ _ (Value.ref _) (Value.ref _)) _ _ _); k_dflt (
    refine' get_polyS ?zqhu ?zqhN ?zqhd ?zqhs1 ?zqhk ?zqhs2 ?zqhc ?_ (by rfl) (by intro _; rfl)
    (case zqhN => k_asm)
    (case zqhd => assumption)
    (case zqhs1 => walk_at "m sub")
    (case zqhk => assumption)
    (case zqhs2 => walk_at "m sub")
    (case zqhu => ktr_units)
    (case zqhc => assumption)
    intro _ _ _ _
    (try dsimp only)
    (try k_fold)))
  k_with "X:getMethod ref" => (k_here; (with_reducible show wpAny _ _ (getMethod (Value.ref _) (PySem.Str.ofString "pop") _) _ _ _); k_dflt (
    refine' pop_method ?zqhN ?zqhd ?_
    (case zqhN => k_asm)
    (case zqhd => walk_at "m poly")
    (try k_fold)))
  k_with "X:call builtin:dict.pop" => fail "by hand"
  k_with "X:eval DictComp" => (k_here; k_dflt (refine dc_eval (by k_asm) (by with_unfolding_all rfl) (by decide) (by rfl) (by decide) (by rfl) ?_))
  k_with "X:call type:dict" => (k_here; (with_reducible show wpAny _ _ (call (Value.type "dict") [Value.ref _]) _ _ _); k_dflt (
    refine' copy_poly ?zqhF ?zqhN ?zqhB ?zqhd ?zqhP ?zqhH ?zqhz ?_
    (case zqhF => k_asm)
    (case zqhN => k_asm)
    (case zqhd => walk_at "m poly")
    (case zqhB => exact big_of (by k_asm))
    (case zqhP => assumption)
    (case zqhH => assumption)
    (case zqhz => first | assumption | omega)
    intro _ _ _ _ _ _ _ _
    (try dsimp only)
    (try k_fold)))
  k_with "X:exec For Name Name cons nil" => (k_here; (with_unfolding_all refine' For_turns (by assumption) ?_); k_whole)
  k_with "X:call ref" => (k_here; (with_reducible show wpAny _ _ (call (Value.ref 135) _) _ _ _); k_dflt (
    refine' toldM_use (addterm_ok _ _ _ _ _ _ _ _ _ ?zqlo ?zqhne ?zqPO ?zqhx ?zqhy ?zqhc ?zqhz) ?zqk1 ?zqk2 ?zqk3 ?zqk4 ?zqhf ?zqk5 ?zqkK ?zqkd ?zqku ?_
    (case zqk4 => assumption)
    (case zqlo => assumption)
    (case zqhne => assumption)
    (case zqhf => assumption)
    (case zqPO => assumption)
    (case zqhx => walk_at "m tup")
    (case zqhy => walk_at "m rel")
    (case zqhc => assumption)
    (case zqhz => first | assumption | omega)
    walk_at "m args"
    intro _ _ _ _ _ _ _ _
    (try dsimp only)
    (try k_fold)))
  k_with "X:m poly" => first | assumption | exact PolyIn.mono (by assumption) (by walk_at "m sub") | exact ⟨_, _, rfl, by assumption, by walk_at "m mem", PolyObj.mono (by assumption) (by walk_at "m sub")⟩
  k_with "X:compareOp Gt ref ref" => (k_here; k_dflt (
    refine' gt_tupS ?zqhu ?zqhN ?zqhx ?zqh1 ?zqhy ?zqh2 ?zqhr ?_
    (case zqhN => k_asm)
    (case zqhx => assumption)
    (case zqh1 => walk_at "m sub")
    (case zqhy => assumption)
    (case zqh2 => walk_at "m sub")
    (case zqhu => ktr_units)
    (case zqhr => assumption)
    (try dsimp only)
    (try k_fold)))
  k_with "X:compareOp NotEq ref ref" => (k_here; k_dflt (
    refine' ne_tupS ?zqhu ?zqhN ?zqhx ?zqh1 ?zqhy ?zqh2 ?zqhr ?_
    (case zqhN => k_asm)
    (case zqhx => assumption)
    (case zqh1 => walk_at "m sub")
    (case zqhy => assumption)
    (case zqh2 => walk_at "m sub")
    (case zqhu => ktr_units)
    (case zqhr => assumption)
    (try dsimp only)
    (try k_fold)))
  k_with "X:exec For Tuple Name cons nil" => (k_here; (with_unfolding_all refine' For_turns (by assumption) ?_); k_whole)
  k_with "X:exec For Tuple Call cons nil" => (k_here; (with_unfolding_all refine' For_turns (by assumption) ?_); k_whole)
  k_with "X:eval ListComp" => (k_here; k_dflt (refine lc_eval (by k_asm) (by with_unfolding_all rfl) (by decide) (by rfl) (by decide) ?_))
  k_with "X:m lsub" => (repeat' (first | exact subs_nil | refine subs_cons (by walk_at "m memr") ?_ | refine subs_app ?_ ?_ | walk_at "m subo"))
  k_with "X:m memr" => first | assumption | exact List.Mem.head _ | (refine List.Mem.tail _ ?_; walk_at "m memr"; done) | (refine List.mem_append_right _ ?_; walk_at "m memr"; done) | (refine List.mem_append_left _ ?_; walk_at "m memr"; done)
  k_with "X:m subo" => first | exact subs_refl | assumption | (refine subs_tl ?_; walk_at "m subo"; done) | (refine subs_inr ?_; walk_at "m subo"; done) | (refine subs_inl ?_; walk_at "m subo"; done)
  k_with "X:m ifs" => (repeat (first | exact rfl | refine (if_neg (by assumption)).trans ?_))
  k_with "X:call builtin:len" => (k_here; (with_reducible show wpAny _ _ (call (Value.builtin _) [Value.ref _]) _ _ _); k_dflt (
    refine' len_poly ?zqhN ?zqhd ?zqhz ?_
    (case zqhN => k_asm)
    (case zqhd => walk_at "m poly")
    (case zqhz => first | assumption | omega)
    intro _
    (try dsimp only)
    (try k_fold)))
  k_with "X:call builtin:list.append" => (k_here; (with_reducible show wpAny _ _ (call (Value.builtin _) [Value.ref _, _]) _ _ _); refine Held.out ?_)
  k_with "X:subscriptTail Name Slice ref ref" => (k_here; (with_reducible show wpAny _ _ (subscriptTail _ (PySem.Expr.Slice none (some _) none _) (Value.ref _) (Value.ref _)) _ _ _); k_dflt (
    refine' slice_uptoS ?zqF ?zqN ?zqm ?zqc ?zqd ?zqz ?_ ?zqs ?zqt
    (case zqF => k_asm)
    (case zqN => k_asm)
    (case zqm => walk_at "m mem")
    (case zqc => rfl)
    (case zqd => rfl)
    (case zqz => first | assumption | omega)
    (case zqs => with_unfolding_all rfl)
    (case zqt => (intro _; rfl))
    intro _ _ _ _
    (try dsimp only)
    (try k_fold)))
  k_with "X:subscriptTail Name Slice ref ref" => (k_here; (with_reducible show wpAny _ _ (subscriptTail _ (PySem.Expr.Slice (some _) none none _) (Value.ref _) (Value.ref _)) _ _ _); k_dflt (
    refine' slice_fromS1 ?zqF ?zqN ?zqm ?zqc ?zqd ?zqz ?_ ?zqs ?zqt
    (case zqF => k_asm)
    (case zqN => k_asm)
    (case zqm => walk_at "m mem")
    (case zqc => rfl)
    (case zqd => rfl)
    (case zqz => first | assumption | omega)
    (case zqs => with_unfolding_all rfl)
    (case zqt => (intro _; rfl))
    intro _ _ _ _
    (try dsimp only)
    (try k_fold)))
  k_with "X:binaryOp Add ref ref" => (k_here; (with_reducible show wpAny _ _ (binaryOp _ (Value.ref _) (Value.ref _)) _ _ _); k_dflt (
    refine' add_listS ?zqF ?zqN ?zqm ?zqc ?zqd ?zqm2 ?zqc2 ?zqd2 ?zqz ?_
    (case zqF => k_asm)
    (case zqN => k_asm)
    (case zqm => walk_at "m mem")
    (case zqc => rfl)
    (case zqd => rfl)
    (case zqm2 => walk_at "m mem")
    (case zqc2 => rfl)
    (case zqd2 => rfl)
    (case zqz => first | assumption | (simp only [List.length_take, List.length_drop, List.length_cons, List.length_nil]; omega))
    intro _ _ _ _
    (try dsimp only)
    (try k_fold)))
  k_with "X:subscriptTail" => (k_here; (with_reducible show wpAny _ _ (subscriptTail _ _ (Value.ref _) (Value.int (Nat.cast _) _)) _ _ _); k_dflt (
    refine' item_listS ?zqN ?zqm ?zqc ?zqd ?zqx ?zqi ?_ ?zqs
    (case zqN => k_asm)
    (case zqm => walk_at "m mem")
    (case zqc => first | rfl | assumption)
    (case zqd => first | rfl | assumption)
    (case zqx => assumption)
    (case zqi => omega)
    (case zqs => with_unfolding_all rfl)
    (try dsimp only)
    (try k_fold)))
  trivial
section PKit23
set_option maxRecDepth 100000
set_option maxHeartbeats 1000000
open PyProof.Rows.LCg (NsObj lst ns_obj lst_snoc)
section
variable {w : World} {A : Around} {E : Value → Shared → Prop} {s : Shared} {h₀ : Heap} {L : Addr} {m : Str → Option Value} {env : Env} {news : Ledger}
/-- the pairs are stored into the new dict -/
def PolyStores (w : World) (A : Around) (E : Value → Shared → Prop) (D : Addr) (Q : Value → Shared → Prop) (vs : List (Value × Value)) (s : Shared) : Prop := wpAny (model PR w) A (storeAll D vs) (fun _ s₂ => Q (.ref D) s₂) E s
theorem eval_Dict_poly {keys : List (Option Expr)} {values : List Expr} {pos : Pos} {Q : Value → Shared → Prop} (F : Fr h₀ L s.heap m) (N : News h₀ L s.heap news) (hbig : sysModules < h₀.objs.size)
    (hall : keys.all (·.isSome) = true) (hl : keys.length = values.length) (h0 : keys ≠ []) (hlen : keys.length ≤ 15)
    (h : ∀ D h', Fr h₀ L h' m → News h₀ L h' ((D, { cls := .type "dict", data := .dict #[] }) :: news) → (∀ p ∈ news, p.1 < D) → (D == sysModules) = false →
      wpAny (model PR w) A (evalPairs (pairTrees keys values env pos)) (PolyStores w A E D Q) E { s with heap := h' }) :
    wpAny (model PR w) A (eval (.Dict keys values pos) env) Q E s :=
  wpAny_Dict_any hall hl h0 hlen (h _ _ (F.push _) (News.push F N _) (fun p hp => Heap.lt_size (N p hp).1) (F.notModules hbig))
theorem polyStores1 {D a1 : Addr} {v1 : Value} {k1 : List Int} {c1 : Int} {all rest ns : Ledger} {Q : Value → Shared → Prop} (hu : A.units < cLine) (F : Fr h₀ L s.heap m) (N : News h₀ L s.heap all) (hs : ∀ p ∈ (D, ({ cls := .type "dict", data := .dict #[] } : Obj)) :: rest, p ∈ all) (hne : ∀ p ∈ rest, p.1 ≠ D) (hns : ∀ p ∈ ns, p ∈ rest)
    (t1 : TupIn ns k1 (.ref a1)) (r1 : RatIn ns c1 v1)
    (h : ∀ h' tk o, Fr h₀ L h' m → News h₀ L h' ((D, o) :: rest) → PolyObj w ns o [(k1, c1)] → Q (.ref D) { s with heap := h', toks := tk }) :
    PolyStores w A E D Q [(.ref a1, v1)] s := by
  unfold PolyStores storeAll
  rw [List.forIn_cons]
  refine wpAny_bind (wpAny_bind (dset_poly (ns := ns) hu F (News.sub N hs) hne hns polyObj_new t1 r1 (by simp) fun h1 tk1 o1 F1 N1 P1 => wpAny_pure ?_))
  dsimp only
  rw [List.forIn_nil]
  exact wpAny_pure (h h1 tk1 o1 F1 N1 P1)
theorem polyStores2 {D a1 a2 : Addr} {v1 v2 : Value} {k1 k2 : List Int} {c1 c2 : Int} {all rest ns : Ledger} {Q : Value → Shared → Prop} (hu : A.units < cLine) (F : Fr h₀ L s.heap m) (N : News h₀ L s.heap all) (hs : ∀ p ∈ (D, ({ cls := .type "dict", data := .dict #[] } : Obj)) :: rest, p ∈ all) (hne : ∀ p ∈ rest, p.1 ≠ D) (hns : ∀ p ∈ ns, p ∈ rest)
    (t1 : TupIn ns k1 (.ref a1)) (r1 : RatIn ns c1 v1) (t2 : TupIn ns k2 (.ref a2)) (r2 : RatIn ns c2 v2) (hk : k1 ≠ k2)
    (h : ∀ h' tk o, Fr h₀ L h' m → News h₀ L h' ((D, o) :: rest) → PolyObj w ns o [(k1, c1), (k2, c2)] → Q (.ref D) { s with heap := h', toks := tk }) :
    PolyStores w A E D Q [(.ref a1, v1), (.ref a2, v2)] s := by
  unfold PolyStores storeAll
  rw [List.forIn_cons]
  refine wpAny_bind (wpAny_bind (dset_poly (ns := ns) hu F (News.sub N hs) hne hns polyObj_new t1 r1 (by simp) fun h1 tk1 o1 F1 N1 P1 => wpAny_pure ?_))
  dsimp only
  rw [List.forIn_cons]
  refine wpAny_bind (wpAny_bind (dset_poly (ns := ns) (s := { s with heap := h1, toks := tk1 }) hu F1 N1 hne hns P1 t2 r2 (by simp [setP, coef]) fun h2 tk2 o2 F2 N2 P2 => wpAny_pure ?_))
  dsimp only
  rw [List.forIn_nil]
  refine wpAny_pure (h h2 tk2 o2 F2 N2 ?_)
  have e : setP (setP [] k1 c1) k2 c2 = [(k1, c1), (k2, c2)] := by simp [setP, coef, hk]
  rw [← e]
  exact P2
end
section
variable {prog : Program} {w : World} {A : Around} {E : Value → Shared → Prop} {s : Shared} {h₀ : Heap} {L : Addr} {m : Str → Option Value} {env : Env}
/-- [elt for x in range(n)] -/
theorem lc_range {elt : Expr} {x : Str} {px : Pos} {scope : Scope} {cl : List (Str × Addr)} {Q : Value → Shared → Prop} {n : Nat} {k : Int} {t : Tok} {news : Ledger}
    (hh : A.handled = none) (F : Fr h₀ L s.heap m) (N : News h₀ L s.heap news) (hk : k = (n : Int)) (hn : n ≤ 1000)
    (hkind : scope.kind = .function) (hx : scope.names.lookup x = some .local)
    (J : Nat → List Value → Ledger → Prop) (h0 : J 0 [] news)
    (step : ∀ (i : Nat) (tk₀ : Tok) ys news₁ own C oC D mC h tk (as : List Addr) (E' : Value → Shared → Prop), i < n → J i ys news₁ → mC x = some (.int (i : Int) tk₀) → NsObj oC mC → Fr h₀ L h m → News h₀ L h (((C, oC) :: (D, lst ys) :: own) ++ news₁) → Off as news₁ → Apart as ((C, oC) :: (D, lst ys) :: own) →
      wpAny (model prog w) A (eval elt (compEnvC scope cl C env)) (fun y => TurnEnd h₀ L m { s with heap := h, toks := tk } ((C, oC) :: (D, lst ys) :: own) as (fun news' => J (i + 1) (ys ++ [y]) news')) E' { s with heap := h, toks := tk })
    (fin : ∀ D h tk ys news', Fr h₀ L h m → News h₀ L h ((D, lst ys) :: news') → Off [D] news' → J n ys news' → Q (.ref D) { s with heap := h, toks := tk }) :
    wpAny (model prog w) A (call (.type "range") [.int k t]) (fun xv s₁ => wpAny (model prog w) A (pyIter xv) (LcAt prog w A h₀ L m env (.Name x px) elt scope cl Q) E s₁) E s := by
  subst hk
  have hLs : L < s.heap.objs.size := F.ns.lt
  refine call_range_1 ?_
  refine wpAny_pyIter_range (IsRange.new _ _ _ _ _ _ _) (small_one (by omega) (by omega) (by omega) (by omega)) ?_
  have hsz : Builtin.Range.rangeSize 0 (n : Int) 1 = (n : Int) := by rw [rangeSize_one]; split <;> omega
  rw [hsz]
  dsimp only
  generalize hH1 : s.heap.push { cls := .type "range", data := .fields #[.int 0 s.toks, .int (n : Int) t, .int 1 (s.toks + 1)] } = H1
  have keep1 : ∀ b o', s.heap.get? b = some o' → H1.get? b = some o' := fun b o' e => hH1 ▸ Heap.get?_push_of_some _ e
  have keep : ∀ b o', s.heap.get? b = some o' → (H1.push { cls := .type "range_iterator", data := .fields #[rawInt 0, rawInt (n : Int), rawInt 1] }).get? b = some o' := fun b o' e => Heap.get?_push_of_some _ (keep1 b o' e)
  have hH1s : H1.objs.size = s.heap.objs.size + 1 := by rw [← hH1, Heap.size_push]
  refine ⟨H1.objs.size, [H1.objs.size], [H1.objs.size], n, _, _, _, news, fun i mC => ∃ tk₀, i < n ∧ mC x = some (.int (i : Int) tk₀), J, rfl,
    KTurns.ofWalks (Walks.range hh H1.objs.size 0 1 n).bound (fun i v s' Q E _ h => wpAny_pure h), fun s Q E st hQ => wpAny_pyIter_rangeiter st hQ, ?_, ?_, ?_, F.keeps keep, N.grown keep, ?_, ?_, ?_, ?_, h0, ?_, fin⟩
  · rw [sizeLine_eq]; omega
  · show IsRangeIter _ _ _ _ _
    have e1 : (0 : Int) + ((0 : Nat) : Int) * 1 = 0 := by omega
    have e2 : (n : Int) - ((0 : Nat) : Int) = (n : Int) := by omega
    rw [e1, e2]
    exact Heap.get?_push_size _ rfl
  · intro b hb
    rw [List.mem_singleton] at hb
    subst hb
    rw [Heap.size_push]
    exact Nat.lt_succ_self _
  · intro hL
    rw [List.mem_singleton] at hL
    rw [hH1s] at hL
    exact Nat.ne_of_lt (Nat.lt_succ_of_lt hLs) hL
  · intro b hb
    rw [List.mem_singleton] at hb
    subst hb
    exact fresh_above F (by rw [hH1s]; exact Nat.le_succ _)
  · intro p hp hb
    rw [List.mem_singleton, hH1s] at hb
    exact Nat.ne_of_lt (Nat.lt_succ_of_lt (Heap.lt_size (N p hp).1)) hb
  · rintro i v C h tk mC Q' E' ⟨hi, tv, rfl⟩ hn hQ
    refine wpAny_assign_Name (wpAny_storeName_local (lookup_relabel_local hx) hn (fun h' hn' hs' => ?_) (by simp [compEnvC, relabel, hkind]))
    exact hQ h' _ _ ⟨tv, hi, by simp⟩ hn' fun c o hc e => hs'.extBut c o hc e
  · rintro i ys news₁ own C oC D mC h tk E' hi hJ ⟨tv, _, hmx⟩ hoC F' N' off hA
    refine step i tv ys news₁ own C oC D mC h tk _ E' hi hJ hmx hoC F' N' off (hA ?_)
    intro i h st b hb
    rw [List.mem_singleton] at hb
    subst hb
    exact ⟨_, st, NT.type rfl (by decide)⟩
end
/-- the powers with m at the place a -/
def upow (a m : Int) (n : Nat) : List Int := (List.range n).map fun s : Nat => if ((s : Nat) : Int) = a then m else 0
theorem upow_length (a m : Int) (n : Nat) : (upow a m n).length = n := by simp [upow]
theorem upow_get {a m : Int} {n i : Nat} (h : i < n) : (upow a m n)[i]? = some (if (i : Int) = a then m else 0) := by
  unfold upow
  rw [List.getElem?_map, List.getElem?_range h]
  rfl
theorem len_listS {prog : Program} {w : World} {A : Around} {E : Value → Shared → Prop} {s : Shared} {h₀ : Heap} {L : Addr} {news : Ledger} {l : Addr} {o : Obj} {vs : List Value} {nt : Nat} {Q : Value → Shared → Prop} (N : News h₀ L s.heap news) (hm : (l, o) ∈ news) (hc : o.cls = .type "list") (hd : o.data = .seq vs.toArray nt) (hz : vs.length ≤ 10000)
    (h : ∀ t tk, Q (.int vs.length t) { s with toks := tk }) : wpAny (model prog w) A (call (.builtin "len") [.ref l]) Q E s := by
  refine len_list (items := vs.toArray) ⟨o, (N _ hm).1, hc, nt, hd⟩ (by rw [List.size_toArray]; omega) ?_
  rw [List.size_toArray]
  exact h _ _
section
variable {prog : Program} {w : World} {A : Around} {E : Value → Shared → Prop} {s : Shared} {h₀ : Heap} {m : Str → Option Value} {env : Env} {body : List Stmt} {Q : Flow → Shared → Prop}
/-- for x in range(n): by an invariant over the names and the ledger -/
theorem for_rangeM {x : Str} {px : Pos} {n : Nat} {k : Int} {t : Tok} {news : Ledger} (hk : k = (n : Int)) (hn : n ≤ 1000)
    (hh : A.handled = none) (F : Fr h₀ env.locals s.heap m) (N : News h₀ env.locals s.heap news)
    (ha : env.kindOf x = some .local) (hp : (env.scope.kind == .class || (env.scope.kind == .module && env.locals != env.globals)) = false)
    (J : (Str → Option Value) → Nat → (Str → Option Value) → Ledger → Prop) (h0 : J m 0 m news)
    (step : ∀ (i : Nat) (tk₀ : Tok) m₁ news₁ own h tk (wr : List Addr), i < n → J m i m₁ news₁ → Fr h₀ env.locals h (fun z => if z = x then some (.int (i : Int) tk₀) else m₁ z) → News h₀ env.locals h (own ++ news₁) → Off wr news₁ → Apart wr own → (∀ p ∈ own, p.1 ∈ wr) →
      wpAny (model prog w) A (execs body env) (ForEnd h₀ env.locals { s with heap := h, toks := tk } own wr Q (J m (i + 1))) E { s with heap := h, toks := tk })
    (done : ∀ h' tk m' news', Fr h₀ env.locals h' m' → News h₀ env.locals h' news' → J m n m' news' → Q .next { s with heap := h', toks := tk }) :
    wpAny (model prog w) A (call (.type "range") [.int k t]) (fun xv s₁ => wpAny (model prog w) A (pyIter xv) (fun it s₂ => TurnsAt prog w A h₀ env (.Name x px) body Q E it s₂) E s₁) E s := by
  subst hk
  have hLs : env.locals < s.heap.objs.size := F.ns.lt
  refine call_range_1 ?_
  refine wpAny_pyIter_range (IsRange.new _ _ _ _ _ _ _) (small_one (by omega) (by omega) (by omega) (by omega)) ?_
  have hsz : Builtin.Range.rangeSize 0 (n : Int) 1 = (n : Int) := by rw [rangeSize_one]; split <;> omega
  rw [hsz]
  dsimp only
  generalize hH1 : s.heap.push { cls := .type "range", data := .fields #[.int 0 s.toks, .int (n : Int) t, .int 1 (s.toks + 1)] } = H1
  have keep1 : ∀ b o', s.heap.get? b = some o' → H1.get? b = some o' := fun b o' e => hH1 ▸ Heap.get?_push_of_some _ e
  have keep : ∀ b o', s.heap.get? b = some o' → (H1.push { cls := .type "range_iterator", data := .fields #[rawInt 0, rawInt (n : Int), rawInt 1] }).get? b = some o' := fun b o' e => Heap.get?_push_of_some _ (keep1 b o' e)
  have hH1s : H1.objs.size = s.heap.objs.size + 1 := by rw [← hH1, Heap.size_push]
  refine for_turnsX (s₂ := { heap := H1.push { cls := .type "range_iterator", data := .fields #[rawInt 0, rawInt (n : Int), rawInt 1] }, gens := s.gens, drawn := s.drawn, toks := s.toks + 1 + 1, os := s.os }) (AX := fun i m₁ ns m₂ ns₂ => ∃ tk₀, ns₂ = ns ∧ m₂ = fun z => if z = x then some (.int (i : Int) tk₀) else m₁ z)
    (KTurns.ofWalks (Walks.range hh H1.objs.size 0 1 n).bound (fun i v s' Q E st h => wpAny_pure h)) ?_ ?_ ?_ ?_ (F.keeps keep) (N.grown keep)
    (J m) h0 ?_ ?_ (fun h tk m' news' a b c => done h tk m' news' a b c)
  · rw [List.mem_singleton, hH1s]
    exact Nat.ne_of_lt (Nat.lt_succ_of_lt hLs)
  · intro c hc
    rw [List.mem_singleton] at hc
    subst hc
    exact fresh_above F (by rw [hH1s]; exact Nat.le_succ _)
  · intro p hp hb
    rw [List.mem_singleton, hH1s] at hb
    exact Nat.ne_of_lt (Nat.lt_succ_of_lt (Heap.lt_size (N p hp).1)) hb
  · show IsRangeIter _ _ _ _ _
    have e1 : (0 : Int) + ((0 : Nat) : Int) * 1 = 0 := by omega
    have e2 : (n : Int) - ((0 : Nat) : Int) = (n : Int) := by omega
    rw [e1, e2]
    exact Heap.get?_push_size _ rfl
  · rintro i v h tk m₁ ns own Qu E' ⟨hi, tv, rfl⟩ hj hown F₁ N₁ hoff hQ
    have e1 : (0 : Int) + (i : Int) * 1 = (i : Int) := by omega
    rw [e1]
    exact asg_name ha hp F₁ N₁ fun h' tk' F' N' => hQ h' tk' _ _ ⟨tv, rfl, rfl⟩ F' N' hoff
  · rintro i m₁ m₂ news₁ news₂ own h tk hi hj ⟨tv, rfl, rfl⟩ F' N' off' hA ho
    refine step i tv m₁ news₂ own h tk _ hi hj F' N' off' (hA ?_) (fun p hp => ho p hp)
    intro i h st b hb
    rw [List.mem_singleton] at hb
    subst hb
    exact ⟨_, st, NT.type rfl (by decide)⟩
/-- two lists glued, the new one apart -/
theorem add_listF {l b : Addr} {L : Addr} {news : Ledger} {o o2 : Obj} {vs ws : List Value} {nt n2 : Nat} {Q : Value → Shared → Prop} (F : Fr h₀ L s.heap m) (N : News h₀ L s.heap news) (hm : (l, o) ∈ news) (hc : o.cls = .type "list") (hd : o.data = .seq vs.toArray nt) (hm2 : (b, o2) ∈ news) (hc2 : o2.cls = .type "list") (hd2 : o2.data = .seq ws.toArray n2)
    (hsz : vs.length + ws.length ≤ 10000000)
    (h : ∀ D h', Fr h₀ L h' m → News h₀ L h' ((D, { cls := .type "list", data := .seq (vs ++ ws).toArray }) :: news) → (∀ p ∈ news, p.1 < D) → Q (.ref D) { s with heap := h' }) :
    wpAny (model prog w) A (binaryOp .Add (.ref l) (.ref b)) Q E s :=
  add_lists F N ⟨o, (N _ hm).1, hc, nt, hd⟩ ⟨o2, (N _ hm2).1, hc2, n2, hd2⟩ (fun h' F' N' => h _ h' F' N' (fun p hp => Heap.lt_size (N p hp).1)) (by rw [sizeLine_eq]; omega)
end
theorem ifexp_join {M : Model} {A : Around} {E : Value → Shared → Prop} {s : Shared} {env : Env} {test a b : Expr} {pos : Pos} {P : Value → Shared → Prop} (good : Int → Prop)
    (h1 : wpAny M A (eval (.IfExp test a b pos) env) (fun r s' => ∃ v t tk, good v ∧ r = .int v t ∧ s' = { s with toks := tk }) E s)
    (h2 : ∀ v t tk, good v → P (.int v t) { s with toks := tk }) : wpAny M A (eval (.IfExp test a b pos) env) P E s :=
  wpAny_mono h1 (fun r s' ⟨v, t, tk, hg, hr, hs⟩ => by subst hr hs; exact h2 v t tk hg) fun _ _ x => x
theorem menu_val {r : Int} (h0 : 0 ≤ r) (h1 : r < 4) : ([1, -1, 0, 2] : List Int).getD r.toNat 0 = 1 ∨ ([1, -1, 0, 2] : List Int).getD r.toNat 0 = -1 ∨ ([1, -1, 0, 2] : List Int).getD r.toNat 0 = 0 ∨ ([1, -1, 0, 2] : List Int).getD r.toNat 0 = 2 := by
  have h : r = 0 ∨ r = 1 ∨ r = 2 ∨ r = 3 := by omega
  rcases h with rfl | rfl | rfl | rfl <;> decide
/-- the chain of powers -/
def pws (lv : Int) (m : Nat) : Nat → Int
  | 0 => lv
  | j + 1 => (pws lv m j) ^ m
def valL (lv : Int) (m : Nat) : Nat → List Int
  | 0 => [lv]
  | j + 1 => pws lv m (j + 1) :: valL lv m j
theorem valL_head (lv : Int) (m i : Nat) : ∃ r, valL lv m i = pws lv m i :: r := by
  cases i with
  | zero => exact ⟨[], rfl⟩
  | succ j => exact ⟨_, rfl⟩
theorem valL_length (lv : Int) (m i : Nat) : (valL lv m i).length = i + 1 := by
  induction i with
  | zero => rfl
  | succ j ih => simp [valL, ih]
/-- a letter less a power of the next one -/
def bp (mv : Int) (n : Nat) (i : Nat) : List (List Int × Int) := [(upow (i : Int) 1 n, 1), (upow ((i : Int) + 1) mv n, -1)]
theorem neg_pow (m : Nat) : ((-1 : Int) ^ m = 1) ∨ ((-1 : Int) ^ m = -1) := by
  induction m with
  | zero => left; rfl
  | succ m ih =>
    rw [Int.pow_succ]
    rcases ih with h | h <;> rw [h]
    · right; rfl
    · left; rfl
theorem pm_pow {v : Int} (h : v = 1 ∨ v = -1 ∨ v = 0) {m : Nat} (hm : m ≠ 0) : v ^ m = 1 ∨ v ^ m = -1 ∨ v ^ m = 0 := by
  rcases h with rfl | rfl | rfl
  · left; exact Int.one_pow ..
  · rcases neg_pow m with h | h
    · exact .inl h
    · exact .inr (.inl h)
  · right; right; exact Int.zero_pow hm
/-- what the law draws: the last value and the exponent -/
def Good (lv mv : Int) : Prop := (lv = 2 ∧ (mv = 2 ∨ mv = 3)) ∨ ((lv = 1 ∨ lv = -1 ∨ lv = 0) ∧ 2 ≤ mv ∧ mv ≤ 40)
theorem pws_pm {lv mv : Int} (h : lv = 1 ∨ lv = -1 ∨ lv = 0) (hm : 2 ≤ mv) : ∀ j, pws lv mv.toNat j = 1 ∨ pws lv mv.toNat j = -1 ∨ pws lv mv.toNat j = 0
  | 0 => h
  | j + 1 => pm_pow (pws_pm h hm j) (by omega)
theorem pws_small {lv mv : Int} (h : Good lv mv) {j : Nat} (hj : j ≤ 2) : (pws lv mv.toNat j).natAbs < 2 ^ 64 := by
  rcases h with ⟨rfl, hm⟩ | ⟨h, hm, _⟩
  · have hj' : j = 0 ∨ j = 1 ∨ j = 2 := by omega
    rcases hm with rfl | rfl <;> rcases hj' with rfl | rfl | rfl <;> decide
  · have : (pws lv mv.toNat j).natAbs ≤ 1 := by rcases pws_pm h hm j with h | h | h <;> rw [h] <;> decide
    omega
theorem upow_ne {a b m k : Int} {n i : Nat} (hi : i < n) (ha : (i : Int) = a) (hb : (i : Int) ≠ b) (hm : m ≠ 0) : upow a m n ≠ upow b k n := by
  intro e
  have h1 := upow_get (a := a) (m := m) hi
  have h2 := upow_get (a := b) (m := k) hi
  rw [e, h2, if_neg hb, if_pos ha] at h1
  exact hm (Option.some.inj h1).symm
end PKit23
set_option maxRecDepth 100000
set_option maxHeartbeats 3000000

section
theorem lines_44 : True := by
  k_with "X:call type:range" => (k_here; refine Held.out ?_)
  trivial
theorem law_powers_ok (w : World) (pa pm k : Int) (n : Nat) (hk : k = (n : Int)) (hn : n ≤ 1000) (t1 t2 t3 : Tok) (news : Ledger) : Told w 217 [.int pa t1, .int pm t2, .int k t3] news 2 (fun ns v => TupIn ns (upow pa pm n) v) := by
  subst hk
  have hul := upow_length pa pm n
  unfold Told
  intro mean mg mb dp un gd cn cs a ccd cl outer A₀ base h₀ L m s Q E B F X N T hk hdp hun hret
  refine wpAny_call ?_
  k_dflt (walk_at "m enterC")
  rename_i gA LA hA0 tkA FGA FA BA XA TA lA oA oB dA dB NC
  k_steps
  refine Held.intro ?_
  obtain ⟨nC, hC⟩ := News.name NC
  refine lc_range (news := nC) (n := n) rfl (by assumption) (hC ▸ NC) rfl hn rfl rfl
    (fun i ys ns => ns = nC ∧ IntsAre ys ((upow pa pm n).take i)) ⟨rfl, .nil⟩ ?_ ?_
  · rintro i tk₀ ys news₁ own C oC D2 mC h tk as E' hi ⟨rfl, hh⟩ hmx hoC F8 N8 off8 hA
    subst hC
    have hu := upow_get (a := pa) (m := pm) hi
    k_steps
    all_goals refine TurnEnd.intro (by assumption) (by assumption) _ (by walk_at "m sub") off8 ⟨rfl, ?_⟩
    · rw [take_snoc' hu, if_pos (by assumption)]
      exact hh.append (.cons _ _ .nil)
    · rw [take_snoc' hu, if_neg (by assumption)]
      exact hh.append (.cons _ _ .nil)
  · rintro D2 h tk ys news' F8 N8 off8 ⟨rfl, hh⟩
    subst hC
    rw [List.take_of_length_le (by omega)] at hh
    dsimp only
    k_steps
    exact told_end_tup hret (by assumption) (by assumption) (by walk_at "m mem") hh (by walk_at "m sub")
end

theorem lines_45 : True := by
  k_with "X:call ref" => (k_here; (with_reducible show wpAny _ _ (call (Value.ref 217) _) _ _ _); k_dflt (
    refine' told_tup (law_powers_ok _ _ _ _ _ ?zqhk ?zqhn _ _ _ _) ?zqk1 ?zqk2 ?zqk3 ?zqk4 ?zqk5 ?zqkK ?zqkd ?zqku ?_
    (case zqk4 => k_asm)
    (case zqhk => first | assumption | omega)
    (case zqhn => first | assumption | omega)
    walk_at "m args"
    intro _ _ _ _ _ _ _
    (try dsimp only)
    (try k_fold)))
  trivial
set_option maxRecDepth 100000
set_option maxHeartbeats 3000000

theorem box_set {w : World} {A : Around} {E : Value → Shared → Prop} {s : Shared} {h₀ : Heap} {L : Addr} {m : Str → Option Value} {b : Addr} {x y v : Value} {k : Nat} {u : Tok} {rest : Ledger} {Q : Unit → Shared → Prop} (F : Fr h₀ L s.heap m) (N : News h₀ L s.heap ((b, { cls := .type "list", data := .seq #[x, y] k }) :: rest)) (hb : ∀ p ∈ rest, p.1 ≠ b)
    (h : ∀ h', Fr h₀ L h' m → News h₀ L h' ((b, { cls := .type "list", data := .seq #[x, v] k }) :: rest) → Q () { s with heap := h' }) : wpAny (model PR w) A (setItem (.ref b) (.int 1 u) v) Q E s :=
  ki_set F N (by decide) (by decide) rfl (.head hb) h
section
theorem lines_46 : True := by
  k_with "X:call builtin:len" => (k_here; (with_reducible show wpAny _ _ (call (Value.builtin _) [Value.ref _]) _ _ _); k_dflt (
    refine' len_listS ?zqhN ?zqhm ?zqhc ?zqhd ?zqhz ?_
    (case zqhN => k_asm)
    (case zqhm => walk_at "m mem")
    (case zqhc => first | rfl | assumption)
    (case zqhd => first | rfl | assumption)
    (case zqhz => first | assumption | omega)
    intro _ _
    (try dsimp only)
    (try k_fold)))
  k_with "X:setItem ref int" => (k_here; refine Held.out ?_)
  trivial
theorem law_take_ok (w : World) (b lb : Addr) (c : Nat) (t0 tm : Tok) (kb nl : Nat) (xs : List Value) (ns : List Int) (pm : Int) (rest : Ledger) (hb : ∀ p ∈ rest, p.1 ≠ b) (hl : (lb, ({ cls := .type "list", data := .seq xs.toArray nl } : Obj)) ∈ rest) (hi : IntsAre xs ns) (hz : ns.length ≤ 8) (hc : c ≤ 10) (hm : 2 ≤ pm) (hm2 : pm ≤ 100)
    {mean : ExcName → Option Value} {mg mb : Str → Option Value} {dp un : Nat} {gd : Option (List Code)} {cn : Str} {cs : Scope} {a : Addr} {ccd : Value} {cl : List (Str × Addr)} {outer : List Env} {A₀ : Around} {base h₀ : Heap} {L : Addr} {m : Str → Option Value} {s : Shared} {Q E : Value → Shared → Prop}
    (B : Below A₀ base outer h₀) (F : Fr h₀ L s.heap m) (X : (hd.heap_1 w.params).In h₀) (N : News h₀ L s.heap ((b, { cls := .type "list", data := .seq #[.ref lb, .int (c : Int) t0] kb }) :: rest)) (T : Top VW LO mean mg mb h₀) (hk : cs.kind = .function) (hdp : dp + 1 < recursionLimit) (hun : un + 8 * 1 < cLine)
    (hret : ∀ r t' t1 k1 h' tk', 0 ≤ r → r < pm → Fr h₀ L h' m → News h₀ L h' ((b, { cls := .type "list", data := .seq #[.ref lb, .int ((c : Int) + 1) t1] k1 }) :: rest) → Q (.int r t') { s with heap := h', toks := tk' }) :
    wpAny (model PR w) (ktrTop dp un gd cn cs L a ccd cl outer) (call (.ref 212) [.ref b, .int pm tm]) Q E s := by
  have hil := hi.length
  refine wpAny_call ?_
  k_dflt cell_enter
  k_steps
  refine Held.intro ?_
  rename_i gA LA hA FGA FA BA XA TA NA
  refine box_set (by assumption) (by assumption) hb ?_
  intro h9 F9 N9
  dsimp only
  k_steps
  all_goals exact hret _ _ _ _ _ _ (Int.fmod_nonneg_of_pos _ (by omega)) (Int.fmod_lt_of_pos _ (by omega)) (by assumption) (by assumption)
end
theorem lines_47 : True := by
  k_with_none
  k_with "X:m sub" => (intro p hp; (repeat (first | exact hp | refine List.Mem.tail _ ?_ | refine List.mem_append_right _ ?_)))
  k_with "X:m mem" => (repeat (first | assumption | exact List.Mem.head _ | refine List.Mem.tail _ ?_ | refine List.mem_append_right _ ?_))
  k_with "X:m rel" => first | assumption | exact RatIn.mono (by assumption) (by walk_at "m sub") | exact ⟨_, _, _, rfl, by walk_at "m mem"⟩
  k_with "X:m args" => (
    (case zqk1 => k_asm)
    (case zqk2 => k_asm)
    (case zqk3 => k_asm)
    (case zqk5 => k_asm)
    (case zqkK => first | exact rfl | assumption)
    (case zqkd => ktr_room)
    (case zqku => ktr_units))
  k_with "X:m tup" => first | assumption | exact TupIn.mono (by assumption) (by walk_at "m sub") | exact ⟨_, _, rfl, by walk_at "m mem", by assumption⟩
  k_with "X:compareOp Eq ref ref" => (k_here; (with_reducible show wpAny _ _ (compareOp _ (Value.ref _) (Value.ref 71)) _ _ _); k_dflt (
    refine' eq_r0 ?zqhu ?zqhF ?zqhN ?zqhX ?zqhx ?zqhb ?_
    (case zqhN => k_asm)
    (case zqhx => walk_at "m rel")
    (case zqhu => ktr_units)
    (case zqhF => k_asm)
    (case zqhX => k_asm)
    (case zqhb => first | exact decide_eq_false (by assumption) | exact decide_eq_true (by assumption) | rfl)
    (try dsimp only)
    (try k_fold)))
  k_with "X:compareOp In ref ref" => (k_here; k_dflt (
    refine' in_polyB ?zqhu ?zqhN ?zqhd ?zqhk ?zqhc ?_
    (case zqhN => k_asm)
    (case zqhd => walk_at "m poly")
    (case zqhk => walk_at "m tup")
    (case zqhu => ktr_units)
    (case zqhc => assumption)
    (try simp only [Option.isSome_some, Option.isSome_none])
    (try k_fold)))
  k_with "X:subscriptTail" => (k_here; (with_reducible show wpAny _ _ (subscriptTail _ _ (Value.ref _) (Value.ref _)) _ _ _); k_dflt (
    refine' get_polyS ?zqhu ?zqhN ?zqhd ?zqhs1 ?zqhk ?zqhs2 ?zqhc ?_ (by rfl) (by intro _; rfl)
    (case zqhN => k_asm)
    (case zqhd => assumption)
    (case zqhs1 => walk_at "m sub")
    (case zqhk => assumption)
    (case zqhs2 => walk_at "m sub")
    (case zqhu => ktr_units)
    (case zqhc => assumption)
    intro _ _ _ _
    (try dsimp only)
    (try k_fold)))
  k_with "X:getMethod ref" => (k_here; (with_reducible show wpAny _ _ (getMethod (Value.ref _) (PySem.Str.ofString "pop") _) _ _ _); k_dflt (
    refine' pop_method ?zqhN ?zqhd ?_
    (case zqhN => k_asm)
    (case zqhd => walk_at "m poly")
    (try k_fold)))
  k_with "X:call builtin:dict.pop" => fail "by hand"
  k_with "X:eval DictComp" => (k_here; k_dflt (refine dc_eval (by k_asm) (by with_unfolding_all rfl) (by decide) (by rfl) (by decide) (by rfl) ?_))
  k_with "X:call type:dict" => (k_here; (with_reducible show wpAny _ _ (call (Value.type "dict") [Value.ref _]) _ _ _); k_dflt (
    refine' copy_poly ?zqhF ?zqhN ?zqhB ?zqhd ?zqhP ?zqhH ?zqhz ?_
    (case zqhF => k_asm)
    (case zqhN => k_asm)
    (case zqhd => walk_at "m poly")
    (case zqhB => exact big_of (by k_asm))
    (case zqhP => assumption)
    (case zqhH => assumption)
    (case zqhz => first | assumption | omega)
    intro _ _ _ _ _ _ _ _
    (try dsimp only)
    (try k_fold)))
  k_with "X:exec For Name Name cons nil" => (k_here; (with_unfolding_all refine' For_turns (by assumption) ?_); k_whole)
  k_with "X:call ref" => (k_here; (with_reducible show wpAny _ _ (call (Value.ref 135) _) _ _ _); k_dflt (
    refine' toldM_use (addterm_ok _ _ _ _ _ _ _ _ _ ?zqlo ?zqhne ?zqPO ?zqhx ?zqhy ?zqhc ?zqhz) ?zqk1 ?zqk2 ?zqk3 ?zqk4 ?zqhf ?zqk5 ?zqkK ?zqkd ?zqku ?_
    (case zqk4 => assumption)
    (case zqlo => assumption)
    (case zqhne => assumption)
    (case zqhf => assumption)
    (case zqPO => assumption)
    (case zqhx => walk_at "m tup")
    (case zqhy => walk_at "m rel")
    (case zqhc => assumption)
    (case zqhz => first | assumption | omega)
    walk_at "m args"
    intro _ _ _ _ _ _ _ _
    (try dsimp only)
    (try k_fold)))
  k_with "X:m poly" => first | assumption | exact PolyIn.mono (by assumption) (by walk_at "m sub") | exact ⟨_, _, rfl, by assumption, by walk_at "m mem", PolyObj.mono (by assumption) (by walk_at "m sub")⟩
  k_with "X:compareOp Gt ref ref" => (k_here; k_dflt (
    refine' gt_tupS ?zqhu ?zqhN ?zqhx ?zqh1 ?zqhy ?zqh2 ?zqhr ?_
    (case zqhN => k_asm)
    (case zqhx => assumption)
    (case zqh1 => walk_at "m sub")
    (case zqhy => assumption)
    (case zqh2 => walk_at "m sub")
    (case zqhu => ktr_units)
    (case zqhr => assumption)
    (try dsimp only)
    (try k_fold)))
  k_with "X:compareOp NotEq ref ref" => (k_here; k_dflt (
    refine' ne_tupS ?zqhu ?zqhN ?zqhx ?zqh1 ?zqhy ?zqh2 ?zqhr ?_
    (case zqhN => k_asm)
    (case zqhx => assumption)
    (case zqh1 => walk_at "m sub")
    (case zqhy => assumption)
    (case zqh2 => walk_at "m sub")
    (case zqhu => ktr_units)
    (case zqhr => assumption)
    (try dsimp only)
    (try k_fold)))
  k_with "X:exec For Tuple Name cons nil" => (k_here; (with_unfolding_all refine' For_turns (by assumption) ?_); k_whole)
  k_with "X:exec For Tuple Call cons nil" => (k_here; (with_unfolding_all refine' For_turns (by assumption) ?_); k_whole)
  k_with "X:m lsub" => (repeat' (first | exact subs_nil | refine subs_cons (by walk_at "m memr") ?_ | refine subs_app ?_ ?_ | walk_at "m subo"))
  k_with "X:m memr" => first | assumption | exact List.Mem.head _ | (refine List.Mem.tail _ ?_; walk_at "m memr"; done) | (refine List.mem_append_right _ ?_; walk_at "m memr"; done) | (refine List.mem_append_left _ ?_; walk_at "m memr"; done)
  k_with "X:m subo" => first | exact subs_refl | assumption | (refine subs_tl ?_; walk_at "m subo"; done) | (refine subs_inr ?_; walk_at "m subo"; done) | (refine subs_inl ?_; walk_at "m subo"; done)
  k_with "X:m ifs" => (repeat (first | exact rfl | refine (if_neg (by assumption)).trans ?_))
  k_with "X:call builtin:len" => (k_here; (with_reducible show wpAny _ _ (call (Value.builtin _) [Value.ref _]) _ _ _); k_dflt (
    refine' len_poly ?zqhN ?zqhd ?zqhz ?_
    (case zqhN => k_asm)
    (case zqhd => walk_at "m poly")
    (case zqhz => first | assumption | omega)
    intro _
    (try dsimp only)
    (try k_fold)))
  k_with "X:call builtin:list.append" => (k_here; (with_reducible show wpAny _ _ (call (Value.builtin _) [Value.ref _, _]) _ _ _); refine Held.out ?_)
  k_with "X:subscriptTail Name Slice ref ref" => (k_here; (with_reducible show wpAny _ _ (subscriptTail _ (PySem.Expr.Slice none (some _) none _) (Value.ref _) (Value.ref _)) _ _ _); k_dflt (
    refine' slice_uptoS ?zqF ?zqN ?zqm ?zqc ?zqd ?zqz ?_ ?zqs ?zqt
    (case zqF => k_asm)
    (case zqN => k_asm)
    (case zqm => walk_at "m mem")
    (case zqc => rfl)
    (case zqd => rfl)
    (case zqz => first | assumption | omega)
    (case zqs => with_unfolding_all rfl)
    (case zqt => (intro _; rfl))
    intro _ _ _ _
    (try dsimp only)
    (try k_fold)))
  k_with "X:subscriptTail Name Slice ref ref" => (k_here; (with_reducible show wpAny _ _ (subscriptTail _ (PySem.Expr.Slice (some _) none none _) (Value.ref _) (Value.ref _)) _ _ _); k_dflt (
    refine' slice_fromS1 ?zqF ?zqN ?zqm ?zqc ?zqd ?zqz ?_ ?zqs ?zqt
    (case zqF => k_asm)
    (case zqN => k_asm)
    (case zqm => walk_at "m mem")
    (case zqc => rfl)
    (case zqd => rfl)
    (case zqz => first | assumption | omega)
    (case zqs => with_unfolding_all rfl)
    (case zqt => (intro _; rfl))
    intro _ _ _ _
    (try dsimp only)
    (try k_fold)))
  k_with "X:binaryOp Add ref ref" => (k_here; (with_reducible show wpAny _ _ (binaryOp _ (Value.ref _) (Value.ref _)) _ _ _); k_dflt (
    refine' add_listS ?zqF ?zqN ?zqm ?zqc ?zqd ?zqm2 ?zqc2 ?zqd2 ?zqz ?_
    (case zqF => k_asm)
    (case zqN => k_asm)
    (case zqm => walk_at "m mem")
    (case zqc => rfl)
    (case zqd => rfl)
    (case zqm2 => walk_at "m mem")
    (case zqc2 => rfl)
    (case zqd2 => rfl)
    (case zqz => first | assumption | (simp only [List.length_take, List.length_drop, List.length_cons, List.length_nil]; omega))
    intro _ _ _ _
    (try dsimp only)
    (try k_fold)))
  k_with "X:subscriptTail" => (k_here; (with_reducible show wpAny _ _ (subscriptTail _ _ (Value.ref _) (Value.int (Nat.cast _) _)) _ _ _); k_dflt (
    refine' item_listS ?zqN ?zqm ?zqc ?zqd ?zqx ?zqi ?_ ?zqs
    (case zqN => k_asm)
    (case zqm => walk_at "m mem")
    (case zqc => first | rfl | assumption)
    (case zqd => first | rfl | assumption)
    (case zqx => assumption)
    (case zqi => omega)
    (case zqs => with_unfolding_all rfl)
    (try dsimp only)
    (try k_fold)))
  k_with "X:call type:range" => (k_here; refine Held.out ?_)
  k_with "X:call ref" => (k_here; (with_reducible show wpAny _ _ (call (Value.ref 217) _) _ _ _); k_dflt (
    refine' told_tup (law_powers_ok _ _ _ _ _ ?zqhk ?zqhn _ _ _ _) ?zqk1 ?zqk2 ?zqk3 ?zqk4 ?zqk5 ?zqkK ?zqkd ?zqku ?_
    (case zqk4 => k_asm)
    (case zqhk => first | assumption | omega)
    (case zqhn => first | assumption | omega)
    walk_at "m args"
    intro _ _ _ _ _ _ _
    (try dsimp only)
    (try k_fold)))
  trivial

section PKit24
set_option maxRecDepth 100000
set_option maxHeartbeats 1000000
/-- a letter less a number -/
def gp (e z : List Int) (v : Int) : List (List Int × Int) := (e, 1) :: (if v = 0 then [] else [(z, -v)])
theorem addCancel {k k' : List Int} {c d : Int} (hk : k ≠ k') : addP [(k, c)] [(k, -(1 * c)), (k', d)] = [(k', d)] := by
  have e : c + -c = 0 := by omega
  simp [addP, addT, coef, e, delP, setP]
theorem addCancel1 {k : List Int} {c : Int} : addP [(k, c)] [(k, -(1 * c))] = [] := by
  have e : c + -c = 0 := by omega
  simp [addP, addT, coef, e, delP]
theorem headMax1 {k : List Int} {c : Int} : HeadMax [(k, c)] k c := ⟨[], rfl, fun q hq => nomatch hq⟩
theorem apart1 {w : World} {q : List Int × Int} : HashApart w [q] := by simp [HashApart]
theorem bitsOk {a b : Int} (ha : -18446744073709551616 < a) (ha' : a < 18446744073709551616) : IntMulOk a b := IntMulOk.of_left (intBits_le_64 ha ha')
theorem powNe {v : Int} (hv : v ≠ 0) : ∀ m : Nat, v ^ m ≠ 0
  | 0 => by rw [Int.pow_zero]; exact Int.one_ne_zero
  | m + 1 => by rw [Int.pow_succ]; exact Int.mul_ne_zero (powNe hv m) hv
section
variable {w : World} {Ss : List (List (List Int × Int))} {nn i : Nat} {e : List Int} {v : Int} {kf : Nat → List Int}
/-- a power of the letter e comes to a power of its number -/
theorem divChain {R : List (List Int × Int)} (hv : v ≠ 0) (hget : Ss[i]? = some (gp e (kf 0) v)) (he : e.length = nn) (hR : R.length ≤ 1000)
    (hvb : -18446744073709551616 < v ∧ v < 18446744073709551616) :
    ∀ (j : Nat) (c : Int), (∀ t, t ≤ j → (kf t).length = nn ∧ (∀ x ∈ kf t, x ≤ 20000)) →
      (∀ t, t < j → firstDiv (Ss.map headK) (kf (t + 1)) = (i : Int) ∧ List.zipWith (fun p q => p + q) e (less (kf (t + 1)) e) = kf (t + 1) ∧ List.zipWith (fun p q => p + q) (kf 0) (less (kf (t + 1)) e) = kf t ∧ kf (t + 1) ≠ kf t) →
      firstDiv (Ss.map headK) (kf 0) = -1 → c ≠ 0 → (∀ t, t ≤ j → -18446744073709551616 < c * v ^ t ∧ c * v ^ t < 18446744073709551616) →
      DivN w Ss nn (setP R (kf 0) (c * v ^ j)) (j + 1) R [(kf j, c)]
  | 0, c, h1, _, h3, _, h5 => by
    have hb := h5 0 (Nat.le_refl _)
    have hl := h1 0 (Nat.le_refl _)
    rw [Int.pow_zero, Int.mul_one] at hb ⊢
    refine .out headMax1 hb.1 hb.2 hl.2 hl.1 (by simp) hR h3 ?_
    rw [show delP [(kf 0, c)] (kf 0) = [] by simp [delP]]
    exact .done
  | j + 1, c, h1, h2, h3, h4, h5 => by
    have hb := h5 0 (Nat.zero_le _)
    rw [Int.pow_zero, Int.mul_one] at hb
    have hl := h1 (j + 1) (Nat.le_refl _)
    obtain ⟨g1, g2, g3, g4⟩ := h2 j (Nat.lt_succ_self _)
    have hS : gp e (kf 0) v = [(e, 1), (kf 0, -v)] := by simp [gp, hv]
    have hh : headK (gp e (kf 0) v) = e := rfl
    have hsh : shifted (gp e (kf 0) v) (less (kf (j + 1)) (headK (gp e (kf 0) v))) c = [(kf (j + 1), 1 * c), (kf j, -v * c)] := by
      rw [hh, hS]
      simp only [shifted, List.map_cons, List.map_nil, g2, g3]
    refine .sub headMax1 hb.1 hb.2 h4 hl.2 hl.1 (by simp) apart1 g1 hget ?_ ?_ ?_ ?_ ?_
    · intro q hq
      rw [hS] at hq
      simp only [List.mem_cons, List.not_mem_nil, or_false] at hq
      rcases hq with rfl | rfl
      · exact bitsOk (by dsimp only; omega) (by dsimp only; omega)
      · exact bitsOk (by dsimp only; omega) (by dsimp only; omega)
    · intro q hq
      rw [hS] at hq
      simp only [List.mem_cons, List.not_mem_nil, or_false] at hq
      rcases hq with rfl | rfl
      · exact Int.one_ne_zero
      · dsimp only; omega
    · rw [hsh]
      simp [g4]
    · intro q hq
      rw [hS] at hq
      simp only [List.mem_cons, List.not_mem_nil, or_false] at hq
      rcases hq with rfl | rfl
      · exact he
      · exact (h1 0 (Nat.zero_le _)).1
    · rw [hsh]
      simp only [List.map_cons, List.map_nil]
      rw [addCancel g4]
      have ev : -(-v * c) = c * v := by rw [Int.neg_mul, Int.neg_neg, Int.mul_comm]
      rw [ev]
      have ih := divChain hv hget he hR hvb j (c * v) (fun t ht => h1 t (by omega)) (fun t ht => h2 t (by omega)) h3 (Int.mul_ne_zero h4 hv) (fun t ht => by
        have := h5 (t + 1) (by omega)
        rw [Int.pow_succ, Int.mul_comm (v ^ t) v, ← Int.mul_assoc] at this
        exact this)
      have ep : c * v ^ (j + 1) = c * v * v ^ j := by rw [Int.pow_succ, Int.mul_comm (v ^ j) v, ← Int.mul_assoc]
      rw [ep]
      exact ih
/-- a letter that comes to nothing -/
theorem divZero {R : List (List Int × Int)} {k z : List Int} {c : Int} (hget : Ss[i]? = some (gp e z 0)) (he : e.length = nn) (hl : k.length = nn ∧ ∀ x ∈ k, x ≤ 20000) (g1 : firstDiv (Ss.map headK) k = (i : Int)) (g2 : List.zipWith (fun p q => p + q) e (less k e) = k) (hc : c ≠ 0)
    (hb : -18446744073709551616 < c ∧ c < 18446744073709551616) : DivN w Ss nn R 1 R [(k, c)] := by
  have hS : gp e z 0 = [(e, 1)] := by simp [gp]
  have hh : headK (gp e z 0) = e := rfl
  have hsh : shifted (gp e z 0) (less k (headK (gp e z 0))) c = [(k, 1 * c)] := by
    rw [hh, hS]
    simp only [shifted, List.map_cons, List.map_nil, g2]
  refine .sub headMax1 hb.1 hb.2 hc hl.2 hl.1 (by simp) apart1 g1 hget ?_ ?_ ?_ ?_ ?_
  · intro q hq
    rw [hS, List.mem_singleton] at hq
    subst hq
    exact bitsOk (by dsimp only; omega) (by dsimp only; omega)
  · intro q hq
    rw [hS, List.mem_singleton] at hq
    subst hq
    exact Int.one_ne_zero
  · rw [hsh]; simp
  · intro q hq
    rw [hS, List.mem_singleton] at hq
    subst hq
    exact he
  · rw [hsh]
    simp only [List.map_cons, List.map_nil]
    rw [addCancel1]
    exact .done
/-- the power of a letter divided, whatever its number -/
theorem divPower {l : List Int} {m : Nat} (hm : m ≠ 0) (hm2 : m ≤ 40) (hget : Ss[i]? = some (gp e (kf 0) v)) (he : e.length = nn) (hlk : l ≠ kf 0)
    (hvb : ∀ t, t ≤ m → -18446744073709551616 < v ^ t ∧ v ^ t < 18446744073709551616)
    (h1 : ∀ t, t ≤ m → (kf t).length = nn ∧ (∀ x ∈ kf t, x ≤ 20000))
    (h2 : ∀ t, t < m → firstDiv (Ss.map headK) (kf (t + 1)) = (i : Int) ∧ List.zipWith (fun p q => p + q) e (less (kf (t + 1)) e) = kf (t + 1) ∧ List.zipWith (fun p q => p + q) (kf 0) (less (kf (t + 1)) e) = kf t ∧ kf (t + 1) ≠ kf t)
    (h3 : firstDiv (Ss.map headK) (kf 0) = -1) : ∃ N, N ≤ 50 ∧ DivN w Ss nn (gp l (kf 0) (v ^ m)) N [(l, 1)] [(kf m, -1)] := by
  by_cases hv : v = 0
  · subst hv
    refine ⟨1, by omega, ?_⟩
    rw [Int.zero_pow hm, show gp l (kf 0) 0 = [(l, 1)] by simp [gp]]
    obtain ⟨j, rfl⟩ : ∃ j, m = j + 1 := ⟨m - 1, by omega⟩
    have g := h2 j (Nat.lt_succ_self _)
    exact divZero hget he (h1 _ (Nat.le_refl _)) g.1 g.2.1 (by decide) ⟨by decide, by decide⟩
  · refine ⟨m + 1, by omega, ?_⟩
    have h := divChain (w := w) (R := [(l, 1)]) hv hget he (by simp) (by have := hvb 1 (by omega); rwa [Int.pow_succ, Int.pow_zero, Int.one_mul] at this) m (-1) h1 h2 h3 (by decide) (fun t ht => by have := hvb t ht; omega)
    have hp : v ^ m ≠ 0 := powNe hv m
    have e : gp l (kf 0) (v ^ m) = setP [(l, 1)] (kf 0) (-1 * v ^ m) := by
      simp [gp, setP, coef, hp, hlk]
    rw [e]
    exact h
/-- a letter less a power of the next divided -/
theorem divTwo {l : List Int} {m N : Nat} {G : List (List Int × Int)} (hll : l.length = nn) (hlb : ∀ x ∈ l, x ≤ 20000) (hlk : kf m ≠ l) (hgt : lexGt (kf m) l = false) (hf : firstDiv (Ss.map headK) l = -1)
    (h : DivN w Ss nn G N [(l, 1)] [(kf m, -1)]) : DivN w Ss nn G (N + 1) [] [(l, 1), (kf m, -1)] := by
  refine .out (k := l) (c := 1) ⟨_, rfl, fun q hq => ?_⟩ (by decide) (by decide) hlb hll (by simp) (by simp) hf ?_
  · rw [List.mem_singleton] at hq
    subst hq
    exact hgt
  · have e1 : setP ([] : List (List Int × Int)) l 1 = [(l, 1)] := by simp [setP, coef]
    have e2 : delP [(l, 1), (kf m, -1)] l = [(kf m, -1)] := by simp [delP, hlk]
    rw [e1, e2]
    exact h
/-- the last letter's: nothing found -/
theorem divLast {l z : List Int} (hll : l.length = nn) (hlb : ∀ x ∈ l, x ≤ 20000) (hzl : z.length = nn) (hzb : ∀ x ∈ z, x ≤ 20000) (hzk : z ≠ l) (hgt : lexGt z l = false) (hvb : -18446744073709551616 < v ∧ v < 18446744073709551616) :
    ∃ N, N ≤ 50 ∧ DivN w [] nn (gp l z v) N [] (gp l z v) := by
  have e1 : setP ([] : List (List Int × Int)) l 1 = [(l, 1)] := by simp [setP, coef]
  by_cases hv : v = 0
  · refine ⟨1, by omega, ?_⟩
    subst hv
    have hg : gp l z 0 = [(l, 1)] := by simp [gp]
    rw [hg]
    refine .out (k := l) (c := 1) headMax1 (by decide) (by decide) hlb hll (by simp) (by simp) rfl ?_
    rw [e1, show delP [(l, 1)] l = [] by simp [delP]]
    exact .done
  · refine ⟨2, by omega, ?_⟩
    have hg : gp l z v = [(l, 1), (z, -v)] := by simp [gp, hv]
    rw [hg]
    refine .out (k := l) (c := 1) ⟨_, rfl, fun q hq => ?_⟩ (by decide) (by decide) hlb hll (by simp) (by simp) rfl ?_
    · rw [List.mem_singleton] at hq
      subst hq
      exact hgt
    · have e2 : delP [(l, 1), (z, -v)] l = [(z, -v)] := by simp [delP, hzk]
      rw [e1, e2]
      refine .out (k := z) (c := -v) headMax1 (by omega) (by omega) hzb hzl (by simp) (by simp) rfl ?_
      rw [show delP [(z, -v)] z = [] by simp [delP], show setP [(l, 1)] z (-v) = [(l, 1), (z, -v)] by simp [setP, coef, Ne.symm hzk]]
      exact .done
end
theorem gp_len {e z : List Int} {v : Int} : (gp e z v).length ≤ 2 := by
  unfold gp
  split <;> simp
theorem gp_head {e z : List Int} {v : Int} (h : lexGt z e = false) : HeadMax (gp e z v) (headK (gp e z v)) 1 := by
  refine ⟨_, rfl, fun q hq => ?_⟩
  by_cases hv : v = 0
  · simp [hv] at hq
  · simp only [hv, if_false, List.mem_singleton] at hq
    subst hq
    exact h
theorem gp_mul {e z : List Int} {v : Int} : ∀ q ∈ gp e z v, IntMulOk q.2 1 := fun q _ => IntMulOk.of_right (by decide)
end PKit24
section PKit25
set_option maxRecDepth 100000
set_option maxHeartbeats 1000000
/-- the number under which a tuple of ints is kept -/
def hsh (ks : List Int) : Int := reduceHash (Builtin.Tuple.tupleHashOf (ks.map hashInt))
theorem hsh_eq (w : World) (ks : List Int) : (PK w).hash ks = hsh ks := rfl
theorem apart2 {w : World} {k l : List Int} {c d : Int} (h : hsh k ≠ hsh l) : HashApart w [(k, c), (l, d)] := by
  simp only [HashApart, List.map_cons, List.map_nil, hsh_eq]
  simp [h]
section
variable {w : World} {Bs Z Fs : List (List (List Int × Int))} {nn : Nat} {is : List Nat} {l z : List Int} {v : Int}
def FsOk (nn : Nat) (z : List Int) (Fs : List (List (List Int × Int))) : Prop := ∀ S ∈ Fs, ∃ e v, S = gp e z v ∧ lexGt z e = false ∧ e.length = nn
theorem fsOk_nil : FsOk nn z [] := fun S hS => nomatch hS
theorem fsOk_snoc (h : FsOk nn z Fs) (h1 : lexGt z l = false) (h2 : l.length = nn) : FsOk nn z (Fs ++ [gp l z v]) := fun S hS => by
  rcases List.mem_append.mp hS with hS | hS
  · exact h S hS
  · rw [List.mem_singleton] at hS
    exact ⟨l, v, hS, h1, h2⟩
theorem redTwo {i i0 m : Nat} {kf : Nat → List Int} {e : List Int} (hB : Bs[i0]? = some [(l, 1), (kf m, -1)]) (hFs : FsOk nn (kf 0) Fs) (hFl : Fs.length ≤ 1000) (hh : hsh l ≠ hsh (kf m))
    (hm : m ≠ 0) (hm2 : m ≤ 40) (hll : l.length = nn) (hn : nn ≤ 1000) (hlb : ∀ x ∈ l, x ≤ 20000) (hlk : kf m ≠ l) (hlz : l ≠ kf 0) (hgt : lexGt (kf m) l = false) (hgz : lexGt (kf 0) l = false) (hf : firstDiv (Fs.map headK) l = -1)
    (hget : Fs[i]? = some (gp e (kf 0) v)) (he : e.length = nn) (hvb : ∀ t, t ≤ m → -18446744073709551616 < v ^ t ∧ v ^ t < 18446744073709551616)
    (h1 : ∀ t, t ≤ m → (kf t).length = nn ∧ (∀ x ∈ kf t, x ≤ 20000))
    (h2 : ∀ t, t < m → firstDiv (Fs.map headK) (kf (t + 1)) = (i : Int) ∧ List.zipWith (fun p q => p + q) e (less (kf (t + 1)) e) = kf (t + 1) ∧ List.zipWith (fun p q => p + q) (kf 0) (less (kf (t + 1)) e) = kf t ∧ kf (t + 1) ≠ kf t)
    (h3 : firstDiv (Fs.map headK) (kf 0) = -1)
    (h : RedN w Bs nn Z is (Fs ++ [gp l (kf 0) (v ^ m)])) : RedN w Bs nn Z (i0 :: is) Fs := by
  obtain ⟨N, hN, hD⟩ := divPower (w := w) hm hm2 hget he hlz hvb h1 h2 h3
  refine .step (N := N + 1) hB (fun S hS => ?_) hFl (by simp) (apart2 hh) (by simp) (fun q hq => ?_) (by omega) (divTwo hll hlb hlk hgt hf hD) (Nat.le_trans gp_len (by decide)) (gp_head hgz) gp_mul h
  · obtain ⟨e', v', rfl, hg, hl⟩ := hFs S hS
    exact ⟨Nat.le_trans gp_len (by decide), gp_head hg, hl⟩
  · simp only [List.mem_cons, List.not_mem_nil, or_false] at hq
    rcases hq with rfl | rfl
    · show l.length ≤ 1000
      omega
    · show (kf m).length ≤ 1000
      have := (h1 m (Nat.le_refl _)).1
      omega
theorem redLast {i0 : Nat} (hB : Bs[i0]? = some (gp l z v)) (hh : hsh l ≠ hsh z) (hll : l.length = nn) (hn : nn ≤ 1000) (hlb : ∀ x ∈ l, x ≤ 20000) (hzl : z.length = nn) (hzb : ∀ x ∈ z, x ≤ 20000) (hzk : z ≠ l) (hgt : lexGt z l = false) (hvb : -18446744073709551616 < v ∧ v < 18446744073709551616)
    (h : RedN w Bs nn Z is [gp l z v]) : RedN w Bs nn Z (i0 :: is) [] := by
  obtain ⟨N, hN, hD⟩ := divLast (w := w) (v := v) hll hlb hzl hzb hzk hgt hvb
  refine .step (N := N) hB (fun S hS => nomatch hS) (by simp) (by simp [gp]) ?_ (Nat.le_trans gp_len (by decide)) (fun q hq => ?_) (by omega) hD (Nat.le_trans gp_len (by decide)) (gp_head hgt) gp_mul h
  · by_cases hv : v = 0
    · simp only [gp, hv, if_true]
      exact apart1
    · simp only [gp, hv, if_false]
      exact apart2 hh
  · by_cases hv : v = 0
    · simp only [gp, hv, if_true, List.mem_singleton] at hq
      subst hq
      show l.length ≤ 1000
      omega
    · simp only [gp, hv, if_false, List.mem_cons, List.not_mem_nil, or_false] at hq
      rcases hq with rfl | rfl
      · show l.length ≤ 1000
        omega
      · show z.length ≤ 1000
        omega
end
theorem vpow {v : Int} {m : Nat} (h : v = 1 ∨ v = -1 ∨ v = 0 ∨ (1 ≤ v ∧ v ^ m < 18446744073709551616)) : ∀ t, t ≤ m → -18446744073709551616 < v ^ t ∧ v ^ t < 18446744073709551616 := by
  intro t ht
  rcases h with rfl | rfl | rfl | ⟨h, h'⟩
  · rw [Int.one_pow]; exact ⟨by decide, by decide⟩
  · rcases neg_pow t with e | e <;> rw [e] <;> exact ⟨by decide, by decide⟩
  · rcases Nat.eq_zero_or_pos t with rfl | ht
    · exact ⟨by decide, by decide⟩
    · rw [Int.zero_pow (by omega)]; exact ⟨by decide, by decide⟩
  · have h0 : (0 : Int) < v ^ t := Int.pow_pos (by omega)
    have h1 : v ^ t ≤ v ^ m := by
      obtain ⟨d, rfl⟩ : ∃ d, m = t + d := ⟨m - t, by omega⟩
      rw [Int.pow_add]
      have hd : (0 : Int) < v ^ d := Int.pow_pos (by omega)
      have := Int.mul_le_mul_of_nonneg_left (show (1 : Int) ≤ v ^ d by omega) (Int.le_of_lt h0)
      rwa [Int.mul_one] at this
    omega
theorem hne_30 {m : Nat} (h : 2 ≤ m) (h2 : m ≤ 40) : hsh [1, 0, 0] ≠ hsh [0, (m : Int), 0] := by
  have : ∀ k : Fin 41, 2 ≤ k.val → hsh [1, 0, 0] ≠ hsh [0, (k.val : Int), 0] := by decide +kernel
  exact this ⟨m, by omega⟩ h
theorem hne_31 {m : Nat} (h : 2 ≤ m) (h2 : m ≤ 40) : hsh [0, 1, 0] ≠ hsh [0, 0, (m : Int)] := by
  have : ∀ k : Fin 41, 2 ≤ k.val → hsh [0, 1, 0] ≠ hsh [0, 0, (k.val : Int)] := by decide +kernel
  exact this ⟨m, by omega⟩ h
theorem hz_3 : hsh [0, 0, 1] ≠ hsh [0, 0, 0] := by decide +kernel
theorem hne_40 {m : Nat} (h : 2 ≤ m) (h2 : m ≤ 40) : hsh [1, 0, 0, 0] ≠ hsh [0, (m : Int), 0, 0] := by
  have : ∀ k : Fin 41, 2 ≤ k.val → hsh [1, 0, 0, 0] ≠ hsh [0, (k.val : Int), 0, 0] := by decide +kernel
  exact this ⟨m, by omega⟩ h
theorem hne_41 {m : Nat} (h : 2 ≤ m) (h2 : m ≤ 40) : hsh [0, 1, 0, 0] ≠ hsh [0, 0, (m : Int), 0] := by
  have : ∀ k : Fin 41, 2 ≤ k.val → hsh [0, 1, 0, 0] ≠ hsh [0, 0, (k.val : Int), 0] := by decide +kernel
  exact this ⟨m, by omega⟩ h
theorem hne_42 {m : Nat} (h : 2 ≤ m) (h2 : m ≤ 40) : hsh [0, 0, 1, 0] ≠ hsh [0, 0, 0, (m : Int)] := by
  have : ∀ k : Fin 41, 2 ≤ k.val → hsh [0, 0, 1, 0] ≠ hsh [0, 0, 0, (k.val : Int)] := by decide +kernel
  exact this ⟨m, by omega⟩ h
theorem hz_4 : hsh [0, 0, 0, 1] ≠ hsh [0, 0, 0, 0] := by decide +kernel
theorem red_30 {w : World} {Bs : List (List (List Int × Int))} {i2 i1 i0 m : Nat} {v : Int} (hm : 2 ≤ m) (hm2 : m ≤ 40) (hb0 : (v) = 1 ∨ (v) = -1 ∨ (v) = 0 ∨ (1 ≤ (v) ∧ (v) ^ m < 18446744073709551616)) (hb1 : (v ^ m) = 1 ∨ (v ^ m) = -1 ∨ (v ^ m) = 0 ∨ (1 ≤ (v ^ m) ∧ (v ^ m) ^ m < 18446744073709551616)) (h2 : Bs[i2]? = some (gp [0, 0, 1] [0, 0, 0] v)) (h1 : Bs[i1]? = some [([0, 1, 0], 1), ([0, 0, (m : Int)], -1)]) (h0 : Bs[i0]? = some [([1, 0, 0], 1), ([0, (m : Int), 0], -1)]) : RedN w Bs 3 [gp [0, 0, 1] [0, 0, 0] (v), gp [0, 1, 0] [0, 0, 0] (v ^ m), gp [1, 0, 0] [0, 0, 0] ((v ^ m) ^ m)] [i2, i1, i0] [] := by
  refine redLast h2 hz_3 rfl (by decide) (by decide) rfl (by decide) (by decide) rfl (by have := vpow hb0 1 (by omega); rwa [Int.pow_succ, Int.pow_zero, Int.one_mul] at this) ?_
  refine redTwo (kf := fun t : Nat => [0, 0, (t : Int)]) (i := 0) (e := [0, 0, 1]) (l := [0, 1, 0]) (v := v) (m := m) h1 (fsOk_snoc (Fs := []) fsOk_nil rfl rfl) (by simp) (hne_31 hm hm2) (by omega) hm2 rfl (by decide) (by decide) (by simp) (by decide) rfl rfl rfl rfl rfl (vpow hb0) (fun t ht => ⟨rfl, by simp; omega⟩) (fun t ht => ⟨?_, ?_, ?_, ?_⟩) rfl ?_
  · simp [firstDiv, divB, headK, gp]
    try omega
  · simp [less]
    try omega
  · simp [less]
    try omega
  · simp
    try omega
  refine redTwo (kf := fun t : Nat => [0, (t : Int), 0]) (i := 1) (e := [0, 1, 0]) (l := [1, 0, 0]) (v := v ^ m) (m := m) h0 (fsOk_snoc (fsOk_snoc (Fs := []) fsOk_nil rfl rfl) rfl rfl) (by simp) (hne_30 hm hm2) (by omega) hm2 rfl (by decide) (by decide) (by simp) (by decide) rfl rfl rfl rfl rfl (vpow hb1) (fun t ht => ⟨rfl, by simp; omega⟩) (fun t ht => ⟨?_, ?_, ?_, ?_⟩) rfl ?_
  · simp [firstDiv, divB, headK, gp]
    try omega
  · simp [less]
    try omega
  · simp [less]
    try omega
  · simp
    try omega
  exact .done
theorem red_40 {w : World} {Bs : List (List (List Int × Int))} {i3 i2 i1 i0 m : Nat} {v : Int} (hm : 2 ≤ m) (hm2 : m ≤ 40) (hb0 : (v) = 1 ∨ (v) = -1 ∨ (v) = 0 ∨ (1 ≤ (v) ∧ (v) ^ m < 18446744073709551616)) (hb1 : (v ^ m) = 1 ∨ (v ^ m) = -1 ∨ (v ^ m) = 0 ∨ (1 ≤ (v ^ m) ∧ (v ^ m) ^ m < 18446744073709551616)) (hb2 : ((v ^ m) ^ m) = 1 ∨ ((v ^ m) ^ m) = -1 ∨ ((v ^ m) ^ m) = 0 ∨ (1 ≤ ((v ^ m) ^ m) ∧ ((v ^ m) ^ m) ^ m < 18446744073709551616)) (h3 : Bs[i3]? = some (gp [0, 0, 0, 1] [0, 0, 0, 0] v)) (h2 : Bs[i2]? = some [([0, 0, 1, 0], 1), ([0, 0, 0, (m : Int)], -1)]) (h1 : Bs[i1]? = some [([0, 1, 0, 0], 1), ([0, 0, (m : Int), 0], -1)]) (h0 : Bs[i0]? = some [([1, 0, 0, 0], 1), ([0, (m : Int), 0, 0], -1)]) : RedN w Bs 4 [gp [0, 0, 0, 1] [0, 0, 0, 0] (v), gp [0, 0, 1, 0] [0, 0, 0, 0] (v ^ m), gp [0, 1, 0, 0] [0, 0, 0, 0] ((v ^ m) ^ m), gp [1, 0, 0, 0] [0, 0, 0, 0] (((v ^ m) ^ m) ^ m)] [i3, i2, i1, i0] [] := by
  refine redLast h3 hz_4 rfl (by decide) (by decide) rfl (by decide) (by decide) rfl (by have := vpow hb0 1 (by omega); rwa [Int.pow_succ, Int.pow_zero, Int.one_mul] at this) ?_
  refine redTwo (kf := fun t : Nat => [0, 0, 0, (t : Int)]) (i := 0) (e := [0, 0, 0, 1]) (l := [0, 0, 1, 0]) (v := v) (m := m) h2 (fsOk_snoc (Fs := []) fsOk_nil rfl rfl) (by simp) (hne_42 hm hm2) (by omega) hm2 rfl (by decide) (by decide) (by simp) (by decide) rfl rfl rfl rfl rfl (vpow hb0) (fun t ht => ⟨rfl, by simp; omega⟩) (fun t ht => ⟨?_, ?_, ?_, ?_⟩) rfl ?_
  · simp [firstDiv, divB, headK, gp]
    try omega
  · simp [less]
    try omega
  · simp [less]
    try omega
  · simp
    try omega
  refine redTwo (kf := fun t : Nat => [0, 0, (t : Int), 0]) (i := 1) (e := [0, 0, 1, 0]) (l := [0, 1, 0, 0]) (v := v ^ m) (m := m) h1 (fsOk_snoc (fsOk_snoc (Fs := []) fsOk_nil rfl rfl) rfl rfl) (by simp) (hne_41 hm hm2) (by omega) hm2 rfl (by decide) (by decide) (by simp) (by decide) rfl rfl rfl rfl rfl (vpow hb1) (fun t ht => ⟨rfl, by simp; omega⟩) (fun t ht => ⟨?_, ?_, ?_, ?_⟩) rfl ?_
  · simp [firstDiv, divB, headK, gp]
    try omega
  · simp [less]
    try omega
  · simp [less]
    try omega
  · simp
    try omega
  refine redTwo (kf := fun t : Nat => [0, (t : Int), 0, 0]) (i := 2) (e := [0, 1, 0, 0]) (l := [1, 0, 0, 0]) (v := (v ^ m) ^ m) (m := m) h0 (fsOk_snoc (fsOk_snoc (fsOk_snoc (Fs := []) fsOk_nil rfl rfl) rfl rfl) rfl rfl) (by simp) (hne_40 hm hm2) (by omega) hm2 rfl (by decide) (by decide) (by simp) (by decide) rfl rfl rfl rfl rfl (vpow hb2) (fun t ht => ⟨rfl, by simp; omega⟩) (fun t ht => ⟨?_, ?_, ?_, ?_⟩) rfl ?_
  · simp [firstDiv, divB, headK, gp]
    try omega
  · simp [less]
    try omega
  · simp [less]
    try omega
  · simp
    try omega
  exact .done
theorem red_41 {w : World} {Bs : List (List (List Int × Int))} {i3 i2 i1 m : Nat} {v : Int} (hm : 2 ≤ m) (hm2 : m ≤ 40) (hb0 : (v) = 1 ∨ (v) = -1 ∨ (v) = 0 ∨ (1 ≤ (v) ∧ (v) ^ m < 18446744073709551616)) (hb1 : (v ^ m) = 1 ∨ (v ^ m) = -1 ∨ (v ^ m) = 0 ∨ (1 ≤ (v ^ m) ∧ (v ^ m) ^ m < 18446744073709551616)) (h3 : Bs[i3]? = some (gp [0, 0, 0, 1] [0, 0, 0, 0] v)) (h2 : Bs[i2]? = some [([0, 0, 1, 0], 1), ([0, 0, 0, (m : Int)], -1)]) (h1 : Bs[i1]? = some [([0, 1, 0, 0], 1), ([0, 0, (m : Int), 0], -1)]) : RedN w Bs 4 [gp [0, 0, 0, 1] [0, 0, 0, 0] (v), gp [0, 0, 1, 0] [0, 0, 0, 0] (v ^ m), gp [0, 1, 0, 0] [0, 0, 0, 0] ((v ^ m) ^ m)] [i3, i2, i1] [] := by
  refine redLast h3 hz_4 rfl (by decide) (by decide) rfl (by decide) (by decide) rfl (by have := vpow hb0 1 (by omega); rwa [Int.pow_succ, Int.pow_zero, Int.one_mul] at this) ?_
  refine redTwo (kf := fun t : Nat => [0, 0, 0, (t : Int)]) (i := 0) (e := [0, 0, 0, 1]) (l := [0, 0, 1, 0]) (v := v) (m := m) h2 (fsOk_snoc (Fs := []) fsOk_nil rfl rfl) (by simp) (hne_42 hm hm2) (by omega) hm2 rfl (by decide) (by decide) (by simp) (by decide) rfl rfl rfl rfl rfl (vpow hb0) (fun t ht => ⟨rfl, by simp; omega⟩) (fun t ht => ⟨?_, ?_, ?_, ?_⟩) rfl ?_
  · simp [firstDiv, divB, headK, gp]
    try omega
  · simp [less]
    try omega
  · simp [less]
    try omega
  · simp
    try omega
  refine redTwo (kf := fun t : Nat => [0, 0, (t : Int), 0]) (i := 1) (e := [0, 0, 1, 0]) (l := [0, 1, 0, 0]) (v := v ^ m) (m := m) h1 (fsOk_snoc (fsOk_snoc (Fs := []) fsOk_nil rfl rfl) rfl rfl) (by simp) (hne_41 hm hm2) (by omega) hm2 rfl (by decide) (by decide) (by simp) (by decide) rfl rfl rfl rfl rfl (vpow hb1) (fun t ht => ⟨rfl, by simp; omega⟩) (fun t ht => ⟨?_, ?_, ?_, ?_⟩) rfl ?_
  · simp [firstDiv, divB, headK, gp]
    try omega
  · simp [less]
    try omega
  · simp [less]
    try omega
  · simp
    try omega
  exact .done
end PKit25
section PKit26
set_option maxRecDepth 100000
set_option maxHeartbeats 1000000
/-- all that the reduced form asks of a basis -/
def Cfg (w : World) (Bs : List (List (List Int × Int))) (n : Nat) (Z : List (List (List Int × Int))) : Prop :=
  (∀ P ∈ Bs, P.length ≤ 10000 ∧ HeadMax P (headK P) (headC P) ∧ (headK P).length = n) ∧ (Bs.map headK).Nodup ∧
  (∀ i ks, (Bs.map headK)[i]? = some ks → firstDiv ((Bs.map headK).take i ++ (Bs.map headK).drop (i + 1)) ks = -1) ∧
  ∃ p, runB Bs.length (fun i j => lexLt ((Bs.map headK).getD i []) ((Bs.map headK).getD j [])) (kas_sort Bs.length) = some p ∧ RedN w Bs n Z p.toList []
theorem okTwo {n : Nat} {l k : List Int} (h : lexGt k l = false) (hl : l.length = n) : ([(l, 1), (k, -1)] : List (List Int × Int)).length ≤ 10000 ∧ HeadMax [(l, 1), (k, -1)] (headK [(l, 1), (k, -1)]) (headC [(l, 1), (k, -1)]) ∧ (headK [(l, 1), (k, -1)]).length = n :=
  ⟨by simp, ⟨_, rfl, fun q hq => by rw [List.mem_singleton] at hq; subst hq; exact h⟩, hl⟩
theorem okGp {n : Nat} {l k : List Int} {v : Int} (h : lexGt k l = false) (hl : l.length = n) : (gp l k v).length ≤ 10000 ∧ HeadMax (gp l k v) (headK (gp l k v)) (headC (gp l k v)) ∧ (headK (gp l k v)).length = n :=
  ⟨Nat.le_trans gp_len (by decide), gp_head h, hl⟩

theorem cfg_300 {w : World} {m : Nat} {v : Int} (hm : 2 ≤ m) (hm2 : m ≤ 40) (hb0 : (v) = 1 ∨ (v) = -1 ∨ (v) = 0 ∨ (1 ≤ (v) ∧ (v) ^ m < 18446744073709551616)) (hb1 : (v ^ m) = 1 ∨ (v ^ m) = -1 ∨ (v ^ m) = 0 ∨ (1 ≤ (v ^ m) ∧ (v ^ m) ^ m < 18446744073709551616)) : Cfg w [[([1, 0, 0], 1), ([0, (m : Int), 0], -1)], [([0, 1, 0], 1), ([0, 0, (m : Int)], -1)], gp [0, 0, 1] [0, 0, 0] v] 3 [gp [0, 0, 1] [0, 0, 0] (v), gp [0, 1, 0] [0, 0, 0] (v ^ m), gp [1, 0, 0] [0, 0, 0] ((v ^ m) ^ m)] := by
  refine ⟨fun P hP => ?_, ?_, ?_, #[2, 1, 0], ?_, red_30 hm hm2 hb0 hb1 rfl rfl rfl⟩
  · simp only [List.mem_cons, List.not_mem_nil, or_false] at hP
    rcases hP with rfl | rfl | rfl
    · exact okTwo rfl rfl
    · exact okTwo rfl rfl
    · exact okGp rfl rfl
  · show ([[1, 0, 0], [0, 1, 0], [0, 0, 1]] : List (List Int)).Nodup
    decide
  · show ∀ i ks, ([[1, 0, 0], [0, 1, 0], [0, 0, 1]] : List (List Int))[i]? = some ks → firstDiv (([[1, 0, 0], [0, 1, 0], [0, 0, 1]] : List (List Int)).take i ++ ([[1, 0, 0], [0, 1, 0], [0, 0, 1]] : List (List Int)).drop (i + 1)) ks = -1
    intro i ks h
    match i, h with
    | 0, h => cases h; decide
    | 1, h => cases h; decide
    | 2, h => cases h; decide
    | j + 3, h => simp at h
  · show runB 3 (fun i j => lexLt (([[1, 0, 0], [0, 1, 0], [0, 0, 1]] : List (List Int)).getD i []) (([[1, 0, 0], [0, 1, 0], [0, 0, 1]] : List (List Int)).getD j [])) (kas_sort 3) = some #[2, 1, 0]
    decide +kernel
theorem cfg_301 {w : World} {m : Nat} {v : Int} (hm : 2 ≤ m) (hm2 : m ≤ 40) (hb0 : (v) = 1 ∨ (v) = -1 ∨ (v) = 0 ∨ (1 ≤ (v) ∧ (v) ^ m < 18446744073709551616)) (hb1 : (v ^ m) = 1 ∨ (v ^ m) = -1 ∨ (v ^ m) = 0 ∨ (1 ≤ (v ^ m) ∧ (v ^ m) ^ m < 18446744073709551616)) : Cfg w [[([0, 1, 0], 1), ([0, 0, (m : Int)], -1)], gp [0, 0, 1] [0, 0, 0] v, [([1, 0, 0], 1), ([0, (m : Int), 0], -1)]] 3 [gp [0, 0, 1] [0, 0, 0] (v), gp [0, 1, 0] [0, 0, 0] (v ^ m), gp [1, 0, 0] [0, 0, 0] ((v ^ m) ^ m)] := by
  refine ⟨fun P hP => ?_, ?_, ?_, #[1, 0, 2], ?_, red_30 hm hm2 hb0 hb1 rfl rfl rfl⟩
  · simp only [List.mem_cons, List.not_mem_nil, or_false] at hP
    rcases hP with rfl | rfl | rfl
    · exact okTwo rfl rfl
    · exact okGp rfl rfl
    · exact okTwo rfl rfl
  · show ([[0, 1, 0], [0, 0, 1], [1, 0, 0]] : List (List Int)).Nodup
    decide
  · show ∀ i ks, ([[0, 1, 0], [0, 0, 1], [1, 0, 0]] : List (List Int))[i]? = some ks → firstDiv (([[0, 1, 0], [0, 0, 1], [1, 0, 0]] : List (List Int)).take i ++ ([[0, 1, 0], [0, 0, 1], [1, 0, 0]] : List (List Int)).drop (i + 1)) ks = -1
    intro i ks h
    match i, h with
    | 0, h => cases h; decide
    | 1, h => cases h; decide
    | 2, h => cases h; decide
    | j + 3, h => simp at h
  · show runB 3 (fun i j => lexLt (([[0, 1, 0], [0, 0, 1], [1, 0, 0]] : List (List Int)).getD i []) (([[0, 1, 0], [0, 0, 1], [1, 0, 0]] : List (List Int)).getD j [])) (kas_sort 3) = some #[1, 0, 2]
    decide +kernel
theorem cfg_302 {w : World} {m : Nat} {v : Int} (hm : 2 ≤ m) (hm2 : m ≤ 40) (hb0 : (v) = 1 ∨ (v) = -1 ∨ (v) = 0 ∨ (1 ≤ (v) ∧ (v) ^ m < 18446744073709551616)) (hb1 : (v ^ m) = 1 ∨ (v ^ m) = -1 ∨ (v ^ m) = 0 ∨ (1 ≤ (v ^ m) ∧ (v ^ m) ^ m < 18446744073709551616)) : Cfg w [gp [0, 0, 1] [0, 0, 0] v, [([1, 0, 0], 1), ([0, (m : Int), 0], -1)], [([0, 1, 0], 1), ([0, 0, (m : Int)], -1)]] 3 [gp [0, 0, 1] [0, 0, 0] (v), gp [0, 1, 0] [0, 0, 0] (v ^ m), gp [1, 0, 0] [0, 0, 0] ((v ^ m) ^ m)] := by
  refine ⟨fun P hP => ?_, ?_, ?_, #[0, 2, 1], ?_, red_30 hm hm2 hb0 hb1 rfl rfl rfl⟩
  · simp only [List.mem_cons, List.not_mem_nil, or_false] at hP
    rcases hP with rfl | rfl | rfl
    · exact okGp rfl rfl
    · exact okTwo rfl rfl
    · exact okTwo rfl rfl
  · show ([[0, 0, 1], [1, 0, 0], [0, 1, 0]] : List (List Int)).Nodup
    decide
  · show ∀ i ks, ([[0, 0, 1], [1, 0, 0], [0, 1, 0]] : List (List Int))[i]? = some ks → firstDiv (([[0, 0, 1], [1, 0, 0], [0, 1, 0]] : List (List Int)).take i ++ ([[0, 0, 1], [1, 0, 0], [0, 1, 0]] : List (List Int)).drop (i + 1)) ks = -1
    intro i ks h
    match i, h with
    | 0, h => cases h; decide
    | 1, h => cases h; decide
    | 2, h => cases h; decide
    | j + 3, h => simp at h
  · show runB 3 (fun i j => lexLt (([[0, 0, 1], [1, 0, 0], [0, 1, 0]] : List (List Int)).getD i []) (([[0, 0, 1], [1, 0, 0], [0, 1, 0]] : List (List Int)).getD j [])) (kas_sort 3) = some #[0, 2, 1]
    decide +kernel
theorem cfg_303 {w : World} {m : Nat} {v : Int} (hm : 2 ≤ m) (hm2 : m ≤ 40) (hb0 : (v) = 1 ∨ (v) = -1 ∨ (v) = 0 ∨ (1 ≤ (v) ∧ (v) ^ m < 18446744073709551616)) (hb1 : (v ^ m) = 1 ∨ (v ^ m) = -1 ∨ (v ^ m) = 0 ∨ (1 ≤ (v ^ m) ∧ (v ^ m) ^ m < 18446744073709551616)) : Cfg w [[([1, 0, 0], 1), ([0, (m : Int), 0], -1)], [([0, 1, 0], 1), ([0, 0, (m : Int)], -1)], gp [0, 0, 1] [0, 0, 0] v] 3 [gp [0, 0, 1] [0, 0, 0] (v), gp [0, 1, 0] [0, 0, 0] (v ^ m), gp [1, 0, 0] [0, 0, 0] ((v ^ m) ^ m)] := by
  refine ⟨fun P hP => ?_, ?_, ?_, #[2, 1, 0], ?_, red_30 hm hm2 hb0 hb1 rfl rfl rfl⟩
  · simp only [List.mem_cons, List.not_mem_nil, or_false] at hP
    rcases hP with rfl | rfl | rfl
    · exact okTwo rfl rfl
    · exact okTwo rfl rfl
    · exact okGp rfl rfl
  · show ([[1, 0, 0], [0, 1, 0], [0, 0, 1]] : List (List Int)).Nodup
    decide
  · show ∀ i ks, ([[1, 0, 0], [0, 1, 0], [0, 0, 1]] : List (List Int))[i]? = some ks → firstDiv (([[1, 0, 0], [0, 1, 0], [0, 0, 1]] : List (List Int)).take i ++ ([[1, 0, 0], [0, 1, 0], [0, 0, 1]] : List (List Int)).drop (i + 1)) ks = -1
    intro i ks h
    match i, h with
    | 0, h => cases h; decide
    | 1, h => cases h; decide
    | 2, h => cases h; decide
    | j + 3, h => simp at h
  · show runB 3 (fun i j => lexLt (([[1, 0, 0], [0, 1, 0], [0, 0, 1]] : List (List Int)).getD i []) (([[1, 0, 0], [0, 1, 0], [0, 0, 1]] : List (List Int)).getD j [])) (kas_sort 3) = some #[2, 1, 0]
    decide +kernel
theorem cfg_400 {w : World} {m : Nat} {v : Int} (hm : 2 ≤ m) (hm2 : m ≤ 40) (hb0 : (v) = 1 ∨ (v) = -1 ∨ (v) = 0 ∨ (1 ≤ (v) ∧ (v) ^ m < 18446744073709551616)) (hb1 : (v ^ m) = 1 ∨ (v ^ m) = -1 ∨ (v ^ m) = 0 ∨ (1 ≤ (v ^ m) ∧ (v ^ m) ^ m < 18446744073709551616)) (hb2 : ((v ^ m) ^ m) = 1 ∨ ((v ^ m) ^ m) = -1 ∨ ((v ^ m) ^ m) = 0 ∨ (1 ≤ ((v ^ m) ^ m) ∧ ((v ^ m) ^ m) ^ m < 18446744073709551616)) : Cfg w [[([1, 0, 0, 0], 1), ([0, (m : Int), 0, 0], -1)], [([0, 1, 0, 0], 1), ([0, 0, (m : Int), 0], -1)], [([0, 0, 1, 0], 1), ([0, 0, 0, (m : Int)], -1)], gp [0, 0, 0, 1] [0, 0, 0, 0] v] 4 [gp [0, 0, 0, 1] [0, 0, 0, 0] (v), gp [0, 0, 1, 0] [0, 0, 0, 0] (v ^ m), gp [0, 1, 0, 0] [0, 0, 0, 0] ((v ^ m) ^ m), gp [1, 0, 0, 0] [0, 0, 0, 0] (((v ^ m) ^ m) ^ m)] := by
  refine ⟨fun P hP => ?_, ?_, ?_, #[3, 2, 1, 0], ?_, red_40 hm hm2 hb0 hb1 hb2 rfl rfl rfl rfl⟩
  · simp only [List.mem_cons, List.not_mem_nil, or_false] at hP
    rcases hP with rfl | rfl | rfl | rfl
    · exact okTwo rfl rfl
    · exact okTwo rfl rfl
    · exact okTwo rfl rfl
    · exact okGp rfl rfl
  · show ([[1, 0, 0, 0], [0, 1, 0, 0], [0, 0, 1, 0], [0, 0, 0, 1]] : List (List Int)).Nodup
    decide
  · show ∀ i ks, ([[1, 0, 0, 0], [0, 1, 0, 0], [0, 0, 1, 0], [0, 0, 0, 1]] : List (List Int))[i]? = some ks → firstDiv (([[1, 0, 0, 0], [0, 1, 0, 0], [0, 0, 1, 0], [0, 0, 0, 1]] : List (List Int)).take i ++ ([[1, 0, 0, 0], [0, 1, 0, 0], [0, 0, 1, 0], [0, 0, 0, 1]] : List (List Int)).drop (i + 1)) ks = -1
    intro i ks h
    match i, h with
    | 0, h => cases h; decide
    | 1, h => cases h; decide
    | 2, h => cases h; decide
    | 3, h => cases h; decide
    | j + 4, h => simp at h
  · show runB 4 (fun i j => lexLt (([[1, 0, 0, 0], [0, 1, 0, 0], [0, 0, 1, 0], [0, 0, 0, 1]] : List (List Int)).getD i []) (([[1, 0, 0, 0], [0, 1, 0, 0], [0, 0, 1, 0], [0, 0, 0, 1]] : List (List Int)).getD j [])) (kas_sort 4) = some #[3, 2, 1, 0]
    decide +kernel
theorem cfg_401 {w : World} {m : Nat} {v : Int} (hm : 2 ≤ m) (hm2 : m ≤ 40) (hb0 : (v) = 1 ∨ (v) = -1 ∨ (v) = 0 ∨ (1 ≤ (v) ∧ (v) ^ m < 18446744073709551616)) (hb1 : (v ^ m) = 1 ∨ (v ^ m) = -1 ∨ (v ^ m) = 0 ∨ (1 ≤ (v ^ m) ∧ (v ^ m) ^ m < 18446744073709551616)) (hb2 : ((v ^ m) ^ m) = 1 ∨ ((v ^ m) ^ m) = -1 ∨ ((v ^ m) ^ m) = 0 ∨ (1 ≤ ((v ^ m) ^ m) ∧ ((v ^ m) ^ m) ^ m < 18446744073709551616)) : Cfg w [[([0, 1, 0, 0], 1), ([0, 0, (m : Int), 0], -1)], [([0, 0, 1, 0], 1), ([0, 0, 0, (m : Int)], -1)], gp [0, 0, 0, 1] [0, 0, 0, 0] v, [([1, 0, 0, 0], 1), ([0, (m : Int), 0, 0], -1)]] 4 [gp [0, 0, 0, 1] [0, 0, 0, 0] (v), gp [0, 0, 1, 0] [0, 0, 0, 0] (v ^ m), gp [0, 1, 0, 0] [0, 0, 0, 0] ((v ^ m) ^ m), gp [1, 0, 0, 0] [0, 0, 0, 0] (((v ^ m) ^ m) ^ m)] := by
  refine ⟨fun P hP => ?_, ?_, ?_, #[2, 1, 0, 3], ?_, red_40 hm hm2 hb0 hb1 hb2 rfl rfl rfl rfl⟩
  · simp only [List.mem_cons, List.not_mem_nil, or_false] at hP
    rcases hP with rfl | rfl | rfl | rfl
    · exact okTwo rfl rfl
    · exact okTwo rfl rfl
    · exact okGp rfl rfl
    · exact okTwo rfl rfl
  · show ([[0, 1, 0, 0], [0, 0, 1, 0], [0, 0, 0, 1], [1, 0, 0, 0]] : List (List Int)).Nodup
    decide
  · show ∀ i ks, ([[0, 1, 0, 0], [0, 0, 1, 0], [0, 0, 0, 1], [1, 0, 0, 0]] : List (List Int))[i]? = some ks → firstDiv (([[0, 1, 0, 0], [0, 0, 1, 0], [0, 0, 0, 1], [1, 0, 0, 0]] : List (List Int)).take i ++ ([[0, 1, 0, 0], [0, 0, 1, 0], [0, 0, 0, 1], [1, 0, 0, 0]] : List (List Int)).drop (i + 1)) ks = -1
    intro i ks h
    match i, h with
    | 0, h => cases h; decide
    | 1, h => cases h; decide
    | 2, h => cases h; decide
    | 3, h => cases h; decide
    | j + 4, h => simp at h
  · show runB 4 (fun i j => lexLt (([[0, 1, 0, 0], [0, 0, 1, 0], [0, 0, 0, 1], [1, 0, 0, 0]] : List (List Int)).getD i []) (([[0, 1, 0, 0], [0, 0, 1, 0], [0, 0, 0, 1], [1, 0, 0, 0]] : List (List Int)).getD j [])) (kas_sort 4) = some #[2, 1, 0, 3]
    decide +kernel
theorem cfg_402 {w : World} {m : Nat} {v : Int} (hm : 2 ≤ m) (hm2 : m ≤ 40) (hb0 : (v) = 1 ∨ (v) = -1 ∨ (v) = 0 ∨ (1 ≤ (v) ∧ (v) ^ m < 18446744073709551616)) (hb1 : (v ^ m) = 1 ∨ (v ^ m) = -1 ∨ (v ^ m) = 0 ∨ (1 ≤ (v ^ m) ∧ (v ^ m) ^ m < 18446744073709551616)) (hb2 : ((v ^ m) ^ m) = 1 ∨ ((v ^ m) ^ m) = -1 ∨ ((v ^ m) ^ m) = 0 ∨ (1 ≤ ((v ^ m) ^ m) ∧ ((v ^ m) ^ m) ^ m < 18446744073709551616)) : Cfg w [[([0, 0, 1, 0], 1), ([0, 0, 0, (m : Int)], -1)], gp [0, 0, 0, 1] [0, 0, 0, 0] v, [([1, 0, 0, 0], 1), ([0, (m : Int), 0, 0], -1)], [([0, 1, 0, 0], 1), ([0, 0, (m : Int), 0], -1)]] 4 [gp [0, 0, 0, 1] [0, 0, 0, 0] (v), gp [0, 0, 1, 0] [0, 0, 0, 0] (v ^ m), gp [0, 1, 0, 0] [0, 0, 0, 0] ((v ^ m) ^ m), gp [1, 0, 0, 0] [0, 0, 0, 0] (((v ^ m) ^ m) ^ m)] := by
  refine ⟨fun P hP => ?_, ?_, ?_, #[1, 0, 3, 2], ?_, red_40 hm hm2 hb0 hb1 hb2 rfl rfl rfl rfl⟩
  · simp only [List.mem_cons, List.not_mem_nil, or_false] at hP
    rcases hP with rfl | rfl | rfl | rfl
    · exact okTwo rfl rfl
    · exact okGp rfl rfl
    · exact okTwo rfl rfl
    · exact okTwo rfl rfl
  · show ([[0, 0, 1, 0], [0, 0, 0, 1], [1, 0, 0, 0], [0, 1, 0, 0]] : List (List Int)).Nodup
    decide
  · show ∀ i ks, ([[0, 0, 1, 0], [0, 0, 0, 1], [1, 0, 0, 0], [0, 1, 0, 0]] : List (List Int))[i]? = some ks → firstDiv (([[0, 0, 1, 0], [0, 0, 0, 1], [1, 0, 0, 0], [0, 1, 0, 0]] : List (List Int)).take i ++ ([[0, 0, 1, 0], [0, 0, 0, 1], [1, 0, 0, 0], [0, 1, 0, 0]] : List (List Int)).drop (i + 1)) ks = -1
    intro i ks h
    match i, h with
    | 0, h => cases h; decide
    | 1, h => cases h; decide
    | 2, h => cases h; decide
    | 3, h => cases h; decide
    | j + 4, h => simp at h
  · show runB 4 (fun i j => lexLt (([[0, 0, 1, 0], [0, 0, 0, 1], [1, 0, 0, 0], [0, 1, 0, 0]] : List (List Int)).getD i []) (([[0, 0, 1, 0], [0, 0, 0, 1], [1, 0, 0, 0], [0, 1, 0, 0]] : List (List Int)).getD j [])) (kas_sort 4) = some #[1, 0, 3, 2]
    decide +kernel
theorem cfg_403 {w : World} {m : Nat} {v : Int} (hm : 2 ≤ m) (hm2 : m ≤ 40) (hb0 : (v) = 1 ∨ (v) = -1 ∨ (v) = 0 ∨ (1 ≤ (v) ∧ (v) ^ m < 18446744073709551616)) (hb1 : (v ^ m) = 1 ∨ (v ^ m) = -1 ∨ (v ^ m) = 0 ∨ (1 ≤ (v ^ m) ∧ (v ^ m) ^ m < 18446744073709551616)) (hb2 : ((v ^ m) ^ m) = 1 ∨ ((v ^ m) ^ m) = -1 ∨ ((v ^ m) ^ m) = 0 ∨ (1 ≤ ((v ^ m) ^ m) ∧ ((v ^ m) ^ m) ^ m < 18446744073709551616)) : Cfg w [gp [0, 0, 0, 1] [0, 0, 0, 0] v, [([1, 0, 0, 0], 1), ([0, (m : Int), 0, 0], -1)], [([0, 1, 0, 0], 1), ([0, 0, (m : Int), 0], -1)], [([0, 0, 1, 0], 1), ([0, 0, 0, (m : Int)], -1)]] 4 [gp [0, 0, 0, 1] [0, 0, 0, 0] (v), gp [0, 0, 1, 0] [0, 0, 0, 0] (v ^ m), gp [0, 1, 0, 0] [0, 0, 0, 0] ((v ^ m) ^ m), gp [1, 0, 0, 0] [0, 0, 0, 0] (((v ^ m) ^ m) ^ m)] := by
  refine ⟨fun P hP => ?_, ?_, ?_, #[0, 3, 2, 1], ?_, red_40 hm hm2 hb0 hb1 hb2 rfl rfl rfl rfl⟩
  · simp only [List.mem_cons, List.not_mem_nil, or_false] at hP
    rcases hP with rfl | rfl | rfl | rfl
    · exact okGp rfl rfl
    · exact okTwo rfl rfl
    · exact okTwo rfl rfl
    · exact okTwo rfl rfl
  · show ([[0, 0, 0, 1], [1, 0, 0, 0], [0, 1, 0, 0], [0, 0, 1, 0]] : List (List Int)).Nodup
    decide
  · show ∀ i ks, ([[0, 0, 0, 1], [1, 0, 0, 0], [0, 1, 0, 0], [0, 0, 1, 0]] : List (List Int))[i]? = some ks → firstDiv (([[0, 0, 0, 1], [1, 0, 0, 0], [0, 1, 0, 0], [0, 0, 1, 0]] : List (List Int)).take i ++ ([[0, 0, 0, 1], [1, 0, 0, 0], [0, 1, 0, 0], [0, 0, 1, 0]] : List (List Int)).drop (i + 1)) ks = -1
    intro i ks h
    match i, h with
    | 0, h => cases h; decide
    | 1, h => cases h; decide
    | 2, h => cases h; decide
    | 3, h => cases h; decide
    | j + 4, h => simp at h
  · show runB 4 (fun i j => lexLt (([[0, 0, 0, 1], [1, 0, 0, 0], [0, 1, 0, 0], [0, 0, 1, 0]] : List (List Int)).getD i []) (([[0, 0, 0, 1], [1, 0, 0, 0], [0, 1, 0, 0], [0, 0, 1, 0]] : List (List Int)).getD j [])) (kas_sort 4) = some #[0, 3, 2, 1]
    decide +kernel
theorem cfg_410 {w : World} {m : Nat} {v : Int} (hm : 2 ≤ m) (hm2 : m ≤ 40) (hb0 : (v) = 1 ∨ (v) = -1 ∨ (v) = 0 ∨ (1 ≤ (v) ∧ (v) ^ m < 18446744073709551616)) (hb1 : (v ^ m) = 1 ∨ (v ^ m) = -1 ∨ (v ^ m) = 0 ∨ (1 ≤ (v ^ m) ∧ (v ^ m) ^ m < 18446744073709551616)) : Cfg w [[([0, 1, 0, 0], 1), ([0, 0, (m : Int), 0], -1)], [([0, 0, 1, 0], 1), ([0, 0, 0, (m : Int)], -1)], gp [0, 0, 0, 1] [0, 0, 0, 0] v] 4 [gp [0, 0, 0, 1] [0, 0, 0, 0] (v), gp [0, 0, 1, 0] [0, 0, 0, 0] (v ^ m), gp [0, 1, 0, 0] [0, 0, 0, 0] ((v ^ m) ^ m)] := by
  refine ⟨fun P hP => ?_, ?_, ?_, #[2, 1, 0], ?_, red_41 hm hm2 hb0 hb1 rfl rfl rfl⟩
  · simp only [List.mem_cons, List.not_mem_nil, or_false] at hP
    rcases hP with rfl | rfl | rfl
    · exact okTwo rfl rfl
    · exact okTwo rfl rfl
    · exact okGp rfl rfl
  · show ([[0, 1, 0, 0], [0, 0, 1, 0], [0, 0, 0, 1]] : List (List Int)).Nodup
    decide
  · show ∀ i ks, ([[0, 1, 0, 0], [0, 0, 1, 0], [0, 0, 0, 1]] : List (List Int))[i]? = some ks → firstDiv (([[0, 1, 0, 0], [0, 0, 1, 0], [0, 0, 0, 1]] : List (List Int)).take i ++ ([[0, 1, 0, 0], [0, 0, 1, 0], [0, 0, 0, 1]] : List (List Int)).drop (i + 1)) ks = -1
    intro i ks h
    match i, h with
    | 0, h => cases h; decide
    | 1, h => cases h; decide
    | 2, h => cases h; decide
    | j + 3, h => simp at h
  · show runB 3 (fun i j => lexLt (([[0, 1, 0, 0], [0, 0, 1, 0], [0, 0, 0, 1]] : List (List Int)).getD i []) (([[0, 1, 0, 0], [0, 0, 1, 0], [0, 0, 0, 1]] : List (List Int)).getD j [])) (kas_sort 3) = some #[2, 1, 0]
    decide +kernel
theorem cfg_411 {w : World} {m : Nat} {v : Int} (hm : 2 ≤ m) (hm2 : m ≤ 40) (hb0 : (v) = 1 ∨ (v) = -1 ∨ (v) = 0 ∨ (1 ≤ (v) ∧ (v) ^ m < 18446744073709551616)) (hb1 : (v ^ m) = 1 ∨ (v ^ m) = -1 ∨ (v ^ m) = 0 ∨ (1 ≤ (v ^ m) ∧ (v ^ m) ^ m < 18446744073709551616)) : Cfg w [[([0, 0, 1, 0], 1), ([0, 0, 0, (m : Int)], -1)], gp [0, 0, 0, 1] [0, 0, 0, 0] v, [([0, 1, 0, 0], 1), ([0, 0, (m : Int), 0], -1)]] 4 [gp [0, 0, 0, 1] [0, 0, 0, 0] (v), gp [0, 0, 1, 0] [0, 0, 0, 0] (v ^ m), gp [0, 1, 0, 0] [0, 0, 0, 0] ((v ^ m) ^ m)] := by
  refine ⟨fun P hP => ?_, ?_, ?_, #[1, 0, 2], ?_, red_41 hm hm2 hb0 hb1 rfl rfl rfl⟩
  · simp only [List.mem_cons, List.not_mem_nil, or_false] at hP
    rcases hP with rfl | rfl | rfl
    · exact okTwo rfl rfl
    · exact okGp rfl rfl
    · exact okTwo rfl rfl
  · show ([[0, 0, 1, 0], [0, 0, 0, 1], [0, 1, 0, 0]] : List (List Int)).Nodup
    decide
  · show ∀ i ks, ([[0, 0, 1, 0], [0, 0, 0, 1], [0, 1, 0, 0]] : List (List Int))[i]? = some ks → firstDiv (([[0, 0, 1, 0], [0, 0, 0, 1], [0, 1, 0, 0]] : List (List Int)).take i ++ ([[0, 0, 1, 0], [0, 0, 0, 1], [0, 1, 0, 0]] : List (List Int)).drop (i + 1)) ks = -1
    intro i ks h
    match i, h with
    | 0, h => cases h; decide
    | 1, h => cases h; decide
    | 2, h => cases h; decide
    | j + 3, h => simp at h
  · show runB 3 (fun i j => lexLt (([[0, 0, 1, 0], [0, 0, 0, 1], [0, 1, 0, 0]] : List (List Int)).getD i []) (([[0, 0, 1, 0], [0, 0, 0, 1], [0, 1, 0, 0]] : List (List Int)).getD j [])) (kas_sort 3) = some #[1, 0, 2]
    decide +kernel
theorem cfg_412 {w : World} {m : Nat} {v : Int} (hm : 2 ≤ m) (hm2 : m ≤ 40) (hb0 : (v) = 1 ∨ (v) = -1 ∨ (v) = 0 ∨ (1 ≤ (v) ∧ (v) ^ m < 18446744073709551616)) (hb1 : (v ^ m) = 1 ∨ (v ^ m) = -1 ∨ (v ^ m) = 0 ∨ (1 ≤ (v ^ m) ∧ (v ^ m) ^ m < 18446744073709551616)) : Cfg w [gp [0, 0, 0, 1] [0, 0, 0, 0] v, [([0, 1, 0, 0], 1), ([0, 0, (m : Int), 0], -1)], [([0, 0, 1, 0], 1), ([0, 0, 0, (m : Int)], -1)]] 4 [gp [0, 0, 0, 1] [0, 0, 0, 0] (v), gp [0, 0, 1, 0] [0, 0, 0, 0] (v ^ m), gp [0, 1, 0, 0] [0, 0, 0, 0] ((v ^ m) ^ m)] := by
  refine ⟨fun P hP => ?_, ?_, ?_, #[0, 2, 1], ?_, red_41 hm hm2 hb0 hb1 rfl rfl rfl⟩
  · simp only [List.mem_cons, List.not_mem_nil, or_false] at hP
    rcases hP with rfl | rfl | rfl
    · exact okGp rfl rfl
    · exact okTwo rfl rfl
    · exact okTwo rfl rfl
  · show ([[0, 0, 0, 1], [0, 1, 0, 0], [0, 0, 1, 0]] : List (List Int)).Nodup
    decide
  · show ∀ i ks, ([[0, 0, 0, 1], [0, 1, 0, 0], [0, 0, 1, 0]] : List (List Int))[i]? = some ks → firstDiv (([[0, 0, 0, 1], [0, 1, 0, 0], [0, 0, 1, 0]] : List (List Int)).take i ++ ([[0, 0, 0, 1], [0, 1, 0, 0], [0, 0, 1, 0]] : List (List Int)).drop (i + 1)) ks = -1
    intro i ks h
    match i, h with
    | 0, h => cases h; decide
    | 1, h => cases h; decide
    | 2, h => cases h; decide
    | j + 3, h => simp at h
  · show runB 3 (fun i j => lexLt (([[0, 0, 0, 1], [0, 1, 0, 0], [0, 0, 1, 0]] : List (List Int)).getD i []) (([[0, 0, 0, 1], [0, 1, 0, 0], [0, 0, 1, 0]] : List (List Int)).getD j [])) (kas_sort 3) = some #[0, 2, 1]
    decide +kernel
theorem cfg_413 {w : World} {m : Nat} {v : Int} (hm : 2 ≤ m) (hm2 : m ≤ 40) (hb0 : (v) = 1 ∨ (v) = -1 ∨ (v) = 0 ∨ (1 ≤ (v) ∧ (v) ^ m < 18446744073709551616)) (hb1 : (v ^ m) = 1 ∨ (v ^ m) = -1 ∨ (v ^ m) = 0 ∨ (1 ≤ (v ^ m) ∧ (v ^ m) ^ m < 18446744073709551616)) : Cfg w [[([0, 1, 0, 0], 1), ([0, 0, (m : Int), 0], -1)], [([0, 0, 1, 0], 1), ([0, 0, 0, (m : Int)], -1)], gp [0, 0, 0, 1] [0, 0, 0, 0] v] 4 [gp [0, 0, 0, 1] [0, 0, 0, 0] (v), gp [0, 0, 1, 0] [0, 0, 0, 0] (v ^ m), gp [0, 1, 0, 0] [0, 0, 0, 0] ((v ^ m) ^ m)] := by
  refine ⟨fun P hP => ?_, ?_, ?_, #[2, 1, 0], ?_, red_41 hm hm2 hb0 hb1 rfl rfl rfl⟩
  · simp only [List.mem_cons, List.not_mem_nil, or_false] at hP
    rcases hP with rfl | rfl | rfl
    · exact okTwo rfl rfl
    · exact okTwo rfl rfl
    · exact okGp rfl rfl
  · show ([[0, 1, 0, 0], [0, 0, 1, 0], [0, 0, 0, 1]] : List (List Int)).Nodup
    decide
  · show ∀ i ks, ([[0, 1, 0, 0], [0, 0, 1, 0], [0, 0, 0, 1]] : List (List Int))[i]? = some ks → firstDiv (([[0, 1, 0, 0], [0, 0, 1, 0], [0, 0, 0, 1]] : List (List Int)).take i ++ ([[0, 1, 0, 0], [0, 0, 1, 0], [0, 0, 0, 1]] : List (List Int)).drop (i + 1)) ks = -1
    intro i ks h
    match i, h with
    | 0, h => cases h; decide
    | 1, h => cases h; decide
    | 2, h => cases h; decide
    | j + 3, h => simp at h
  · show runB 3 (fun i j => lexLt (([[0, 1, 0, 0], [0, 0, 1, 0], [0, 0, 0, 1]] : List (List Int)).getD i []) (([[0, 1, 0, 0], [0, 0, 1, 0], [0, 0, 0, 1]] : List (List Int)).getD j [])) (kas_sort 3) = some #[2, 1, 0]
    decide +kernel
/-- what the law holds against the code's answer -/
def dueP (lv : Int) (m n : Nat) (i : Nat) : List (List Int × Int) := gp (upow ((n : Int) - 1 - (i : Int)) 1 n) (List.replicate n 0) (pws lv m i)
def endP (lv : Int) (n : Nat) : List (List Int × Int) := gp (upow ((n : Int) - 1) 1 n) (List.replicate n 0) lv
def baseP (lv mv : Int) (n low : Nat) : List (List (List Int × Int)) := ((List.range (n - 1)).map (bp mv n) ++ [endP lv n]).drop low
theorem vb_small {lv : Int} {m : Nat} (h : lv = 1 ∨ lv = -1 ∨ lv = 0) (hm : m ≠ 0) : ∀ j, pws lv m j = 1 ∨ pws lv m j = -1 ∨ pws lv m j = 0 ∨ (1 ≤ pws lv m j ∧ (pws lv m j) ^ m < 18446744073709551616)
  | 0 => by rcases h with h | h | h <;> simp [pws, h]
  | j + 1 => by
    have : pws lv m j = 1 ∨ pws lv m j = -1 ∨ pws lv m j = 0 := by
      clear hm
      induction j with
      | zero => exact h
      | succ j ih =>
        by_cases hm : m = 0
        · subst hm
          left
          exact Int.pow_zero _
        · exact pm_pow ih hm
    rcases pm_pow this hm with e | e | e
    · exact .inl e
    · exact .inr (.inl e)
    · exact .inr (.inr (.inl e))
theorem vb_two {m : Nat} (h : m = 2 ∨ m = 3) : ∀ j, j ≤ 1 → pws 2 m j = 1 ∨ pws 2 m j = -1 ∨ pws 2 m j = 0 ∨ (1 ≤ pws 2 m j ∧ (pws 2 m j) ^ m < 18446744073709551616) := by
  intro j hj
  have hj' : j = 0 ∨ j = 1 := by omega
  rcases h with rfl | rfl <;> rcases hj' with rfl | rfl <;> (right; right; right; exact ⟨by decide, by decide⟩)
theorem plain {w : World} {lv mv : Int} {n t low : Nat} (hg : Good lv mv) (hn : n = 3 ∨ n = 4) (ht : t < 4) (hlow : low = if lv = 2 ∧ n = 4 then 1 else 0) :
    Cfg w ((baseP lv mv n low).drop t ++ (baseP lv mv n low).take t) n ((List.range (n - low)).map (dueP lv mv.toNat n)) := by
  obtain ⟨m, rfl⟩ : ∃ m : Nat, mv = (m : Int) := ⟨mv.toNat, by unfold Good at hg; omega⟩
  have hm : 2 ≤ m := by unfold Good at hg; omega
  have hm2 : m ≤ 40 := by unfold Good at hg; omega
  have hm0 : m ≠ 0 := by omega
  have ht' : t = 0 ∨ t = 1 ∨ t = 2 ∨ t = 3 := by omega
  rw [Int.toNat_natCast]
  have hvb : ∀ j, j + 1 < n - low → pws lv m j = 1 ∨ pws lv m j = -1 ∨ pws lv m j = 0 ∨ (1 ≤ pws lv m j ∧ (pws lv m j) ^ m < 18446744073709551616) := by
    intro j hj
    rcases hg with ⟨h2, hq⟩ | ⟨h2, _⟩
    · subst h2
      refine vb_two (by omega) j ?_
      rcases hn with rfl | rfl
      · omega
      · rw [if_pos ⟨rfl, rfl⟩] at hlow
        omega
    · exact vb_small h2 hm0 j
  rcases hn with rfl | rfl
  · have hl : low = 0 := by rw [if_neg (by omega)] at hlow; exact hlow
    subst hl
    have b0 := hvb 0 (by omega)
    have b1 := hvb 1 (by omega)
    clear hlow hvb hg ht
    rcases ht' with rfl | rfl | rfl | rfl
    · exact cfg_300 hm hm2 b0 b1
    · exact cfg_301 hm hm2 b0 b1
    · exact cfg_302 hm hm2 b0 b1
    · exact cfg_303 hm hm2 b0 b1
  · by_cases h2 : lv = 2
    · have hl : low = 1 := by rw [if_pos ⟨h2, rfl⟩] at hlow; exact hlow
      subst hl
      have b0 := hvb 0 (by omega)
      have b1 := hvb 1 (by omega)
      clear hlow hvb hg ht
      rcases ht' with rfl | rfl | rfl | rfl
      · exact cfg_410 hm hm2 b0 b1
      · exact cfg_411 hm hm2 b0 b1
      · exact cfg_412 hm hm2 b0 b1
      · exact cfg_413 hm hm2 b0 b1
    · have hl : low = 0 := by rw [if_neg (by omega)] at hlow; exact hlow
      subst hl
      have b0 := hvb 0 (by omega)
      have b1 := hvb 1 (by omega)
      have b2 := hvb 2 (by omega)
      clear hlow hvb hg ht
      rcases ht' with rfl | rfl | rfl | rfl
      · exact cfg_400 hm hm2 b0 b1 b2
      · exact cfg_401 hm hm2 b0 b1 b2
      · exact cfg_402 hm hm2 b0 b1 b2
      · exact cfg_403 hm hm2 b0 b1 b2
end PKit26
section PKit27
set_option maxRecDepth 100000
set_option maxHeartbeats 1000000
section
variable {prog : Program} {w : World} {A : Around} {E : Value → Shared → Prop} {s : Shared} {h₀ : Heap} {L : Addr} {m : Str → Option Value} {news : Ledger}
theorem item_listI {value slice : Expr} {l : Addr} {o : Obj} {vs : List Value} {nt : Nat} {k : Int} (i : Nat) {u : Tok} {x : Value} {Q : Value → Shared → Prop} (hk : k = (i : Int)) (N : News h₀ L s.heap news) (hm : (l, o) ∈ news) (hc : o.cls = .type "list") (hd : o.data = .seq vs.toArray nt) (hx : vs[i]? = some x) (hi : i < 10000) (h : Q x s)
    (hs : subscripted slice false (.ref l) (.int k u) = operate [.ref l, .int k u] (getItem (.ref l) (.int k u)) := by with_unfolding_all rfl) : wpAny (model prog w) A (subscriptTail value slice (.ref l) (.int k u)) Q E s := by
  subst hk
  exact item_listS N hm hc hd hx hi h hs
end
end PKit27
section PKit28
set_option maxRecDepth 100000
set_option maxHeartbeats 1000000
open PySem.SeqAt (EqAt RcAt)
theorem entry_of {w : World} {es : Array DictEntry} {xs : List (List Int × Addr × Value)} (he : es.toList = xs.map (entryOfKey (PK w))) {i : Nat} {x : List Int × Addr × Value} (hx : xs[i]? = some x) : es[i]? = some (entryOfKey (PK w) x) := by
  rw [← Array.getElem?_toList, he, List.getElem?_map, hx]; rfl
theorem TermsIn.getB {ns : Ledger} : ∀ {xs : List (List Int × Addr × Value)} {P : List (List Int × Int)} {i : Nat} {x : List Int × Addr × Value}, TermsIn ns xs P → xs[i]? = some x → ∃ c, P[i]? = some (x.1, c) ∧ TupIn ns x.1 (.ref x.2.1) ∧ RatIn ns c x.2.2
  | _, _, i, x, .nil, h => by simp at h
  | _, _, 0, x, .cons h1 h2 _, h => by
    simp only [List.getElem?_cons_zero, Option.some.injEq] at h
    subst h
    exact ⟨_, rfl, h1, h2⟩
  | _, _, i + 1, x, .cons _ _ h3, h => by
    simp only [List.getElem?_cons_succ] at h ⊢
    exact h3.getB h
theorem keysG {prog : Program} {w : World} : ∀ {vs : List Value} {ks : List Int}, IntsAre vs ks → PySem.ItemsAre (intKind prog w) ks vs
  | _, _, .nil => .nil
  | _, _, .cons n t h => .cons (intKind_is _ _ n t) (keysG h)
theorem tupKeyG {prog : Program} {w' : World} {ns : Ledger} {h₀ h : Heap} {L : Addr} {ks : List Int} {a : Addr} (x : TupIn ns ks (.ref a)) (N : News h₀ L h ns) : (tupleKind (intKind prog w')).is h ks a := by
  obtain ⟨b, vs, e, hm, hi⟩ := x
  cases e
  exact (TupKeyObj.made (knd := intKind prog w') (keysG hi)).key (N.get hm)
theorem termsAreG {prog : Program} {w' : World} {ns : Ledger} {h₀ h : Heap} {L : Addr} (N : News h₀ L h ns) : ∀ {xs : List (List Int × Addr × Value)} {P : List (List Int × Int)}, TermsIn ns xs P → ∀ x ∈ xs, (tupleKind (intKind prog w')).is h x.1 x.2.1
  | _, _, .nil => fun x hx => nomatch hx
  | _, _, .cons h1 _ h3 => fun x hx => by
    rcases List.mem_cons.mp hx with rfl | hx
    · exact tupKeyG h1 N
    · exact termsAreG N h3 x hx
theorem eqAt_rat {ns : Ledger} {h₀ : Heap} {L : Addr} {c : Int} {x y : Value} {A : Around} {s : Shared} (N : News h₀ L s.heap ns) (hx : RatIn ns c x) (hy : RatIn ns c y) (hu : A.units < cLine) : EqAt A s x y true := by
  obtain ⟨a, t1, t2, rfl, ma⟩ := hx
  obtain ⟨b, u1, u2, rfl, mb⟩ := hy
  by_cases hab : a = b
  · subst hab
    exact EqAt.same _
  · have := RcAt.tuples (A := A) (s := s) (e := fun _ => true) (items := #[.int c t1, .int 1 t2]) (items2 := #[.int c u1, .int 1 u2]) ⟨_, (N _ ma).1, rfl, _, rfl⟩ ⟨_, (N _ mb).1, rfl, _, rfl⟩ hu (fun j h1 h2 => by
      match j, h1 with
      | 0, _ =>
        have := SeqAt.EqAt.int_int (A := A.in1) (s := s) c t1 c u1
        rwa [beq_self_eq_true] at this
      | 1, _ =>
        have := SeqAt.EqAt.int_int (A := A.in1) (s := s) 1 t2 1 u2
        rwa [beq_self_eq_true] at this)
    exact EqAt.of_refs hab this
theorem samePolys {prog : Program} {w w' : World} {nm : String} {ns : Ledger} {h₀ : Heap} {L : Addr} {P : List (List Int × Int)} {A : Around} {E : Value → Shared → Prop} {s : Shared} {a b : Addr} {oa ob : Obj} {Q : Bool → Shared → Prop} (N : News h₀ L s.heap ns) (ha : (a == sysModules) = false) (hb : (b == sysModules) = false)
    (ma : (a, oa) ∈ ns) (mb : (b, ob) ∈ ns) (Pa : PolyObj w ns oa P) (Pb : PolyObj w ns ob P) (hu : A.units < cLine) (h : Q true s) :
    wpAny (model prog w') A (Builtin.Dict.samePairs nm a b) Q E s := by
  have hoa := (N _ ma).1
  have hob := (N _ mb).1
  obtain ⟨_, es, ep, xs, hda, hea, hnd, Ta⟩ := Pa
  obtain ⟨_, es', ep', ys, hdb, heb, _, Tb⟩ := Pb
  dsimp only at hoa hob
  have hla : es.size = P.length := by rw [size_of_entries hea, Ta.length]
  have hlb : es'.size = P.length := by rw [size_of_entries heb, Tb.length]
  unfold Builtin.Dict.samePairs Builtin.Dict.showsAll
  rw [if_neg (show ¬ (a == sysModules) = true by rw [ha]; exact Bool.false_ne_true), if_neg (show ¬ (b == sysModules) = true by rw [hb]; exact Bool.false_ne_true)]
  refine wpAny_bind (wpAny_pure (wpAny_bind (wpAny_pure ?_)))
  refine wpAny_bind (wpAny_dictEntries hoa hda ?_)
  dsimp only
  refine wpAny_bind (wpAny_dictEntries hob hdb ?_)
  rw [if_neg (by rw [hla, hlb]; simp)]
  refine wpAny_bind (wpAny_dictEpoch hoa hda ?_)
  refine wpAny_bind ?_
  rw [Std.Legacy.Range.forIn_eq_forIn_range']
  simp only [Std.Legacy.Range.size, Nat.sub_zero, Nat.add_sub_cancel, Nat.div_one]
  refine wpAny_forIn_list _
    (fun rest q s' => s' = s ∧ q = (none, ()) ∧ ∃ i, rest = List.range' i (es.size - i) ∧ i ≤ es.size)
    _ ?_ ?_ _ _ ⟨rfl, rfl, 0, by simp, Nat.zero_le _⟩
  · rintro x rest q s' ⟨rfl, rfl, i, hr, hi⟩
    have hlt : i < es.size := by
      rcases Nat.lt_or_ge i es.size with h | h
      · exact h
      · rw [Nat.sub_eq_zero_of_le h] at hr; simp at hr
    obtain ⟨rfl, hrest⟩ : x = i ∧ rest = List.range' (i + 1) (es.size - (i + 1)) := by
      have e : es.size - i = (es.size - (i + 1)) + 1 := by omega
      rw [e, List.range'_succ] at hr
      injection hr with h1 h2
      exact ⟨h1, h2⟩
    obtain ⟨⟨ks, ka, va⟩, hxa⟩ : ∃ y, xs[x]? = some y := ⟨_, List.getElem?_eq_getElem (by rw [Ta.length, ← hla]; exact hlt)⟩
    obtain ⟨c, hPc, hTk, hRa⟩ := Ta.getB hxa
    have hee := entry_of hea hxa
    refine wpAny_bind (wpAny_dictEntries hoa hda ?_)
    rw [hee]
    show wpAny _ _ (holding [Value.ref ka, va] _ >>= _) _ _ _
    refine wpAny_bind (wpAny_holding (wpAny_bind (wpAny_dictFind_heap (knd := tupleKind (intKind prog w')) (k := ks) hu (tupKeyG hTk N) hob hdb heb (termsAreG N Tb) (by rw [Tb.keys]; exact hnd) ?_ ?_)))
    · intro hno
      obtain ⟨⟨ks', kb, vb⟩, hxb⟩ : ∃ y, ys[x]? = some y := ⟨_, List.getElem?_eq_getElem (by rw [Tb.length, ← hla]; exact hlt)⟩
      obtain ⟨c', hPc', _, _⟩ := Tb.getB hxb
      rw [hPc] at hPc'
      cases hPc'
      exact absurd hxb (hno x _)
    · rintro j ⟨kb, vb⟩ hj
      obtain ⟨c', hPj, _, hRb⟩ := Tb.getB hj
      have hjx : j = x := by
        have h1 : (P.map (·.1))[j]? = some ks := by rw [List.getElem?_map, hPj]; rfl
        have h2 : (P.map (·.1))[x]? = some ks := by rw [List.getElem?_map, hPc]; rfl
        rcases Nat.decEq j x with hne | he
        · exact absurd rfl (nodup_ne hnd h1 h2 hne)
        · exact he
      subst hjx
      rw [hPc] at hPj
      cases hPj
      have hee' := entry_of heb hj
      refine wpAny_bind (wpAny_dictEntries hob hdb ?_)
      rw [hee']
      refine wpAny_holding (eqAt_rat N hRa hRb hu prog w' _ _ ?_)
      show wpAny _ _ (if (!true) = true then _ else _) _ _ _
      rw [if_neg (by decide)]
      refine wpAny_bind (wpAny_dictEpoch hoa hda ?_)
      rw [if_neg (by simp)]
      exact wpAny_pure ⟨rfl, rfl, j + 1, hrest, hlt⟩
  · rintro q s' ⟨rfl, rfl, i, hr, hi⟩
    exact wpAny_pure h
theorem eqAt_polys {w : World} {ns : Ledger} {h₀ : Heap} {L : Addr} {P : List (List Int × Int)} {A : Around} {s : Shared} {x y : Value} (N : News h₀ L s.heap ns) (hx : PolyIn w ns P x) (hy : PolyIn w ns P y) (hu : A.units + 3 < cLine) : EqAt A s x y true := by
  obtain ⟨a, oa, rfl, ha, ma, Pa⟩ := hx
  obtain ⟨b, ob, rfl, hb, mb, Pb⟩ := hy
  by_cases hab : a = b
  · subst hab
    exact EqAt.same _
  · refine EqAt.of_refs hab fun prog w' E Q hQ => ?_
    have ta : s.TypeIs (.ref a) "dict" := ⟨oa, (N _ ma).1, Pa.1.1⟩
    have tb : s.TypeIs (.ref b) "dict" := ⟨ob, (N _ mb).1, Pb.1.1⟩
    refine wpAny_richCompare_same_room (op := .Eq) ta tb PySem.F.slot_dict_eq (wpAny_call_entry PySem.F.slot_dict_eq ta PySem.F.entry_dict_eq ?_ (PySem.F.args_dict_eq_2 _ _)) (by omega)
    show wpAny _ _ (Builtin.Dict.dictSlotArgs "__eq__" ⟨[.ref a, .ref b], []⟩ >>= _) _ _ s
    refine wpAny_bind ?_
    unfold Builtin.Dict.dictSlotArgs
    refine wpAny_bind (wpAny_notOrdered_dict ta ?_)
    show wpAny _ _ (pure (Value.ref a, Value.ref b)) _ _ s
    refine wpAny_pure ?_
    refine wpAny_bind (wpAny_isInstance (T := "dict") tb PySem.F.sub_dict_dict ?_)
    simp only [Bool.not_true, Bool.false_eq_true, if_false]
    refine wpAny_bind (wpAny_pure (wpAny_bind (wpAny_pure ?_)))
    refine wpAny_bind (samePolys N ha hb ma mb Pa Pb (by simp only [Around.in1_units]; omega) ?_)
    refine wpAny_pure ⟨_, rfl, ?_, ?_⟩
    · exact fun x => nomatch x
    · simpa using hQ
/-- two lists of polynomials, alike -/
theorem eq_polys {prog : Program} {w w' : World} {ns : Ledger} {h₀ : Heap} {L : Addr} {Z : List (List (List Int × Int))} {A : Around} {E : Value → Shared → Prop} {s : Shared} {a b : Addr} {oa ob : Obj} {na nb : Nat} {vs us : List Value} {Q : Value → Shared → Prop} (N : News h₀ L s.heap ns) (ma : (a, oa) ∈ ns) (ca : oa.cls = .type "list") (da : oa.data = .seq vs.toArray na) (mb : (b, ob) ∈ ns) (cb : ob.cls = .type "list") (db : ob.data = .seq us.toArray nb)
    (hv : PolysIn w ns vs Z) (hw : PolysIn w ns us Z) (hu : A.units + 6 < cLine) (h : Q (.bool true) s) : wpAny (model prog w') A (compareOp .Eq (.ref a) (.ref b)) Q E s := by
  have hl : vs.length = us.length := by rw [hv.length, hw.length]
  refine SeqAt.eq_listAt (e := fun _ => true) (items := vs.toArray) (items2 := us.toArray) ⟨oa, (N _ ma).1, ca, na, da⟩ ⟨ob, (N _ mb).1, cb, nb, db⟩ (by simpa using hl) (by omega) (fun j h1 h2 => ?_) (by rw [show ((List.range vs.toArray.size).all fun _ => true) = true from List.all_eq_true.mpr fun _ _ => rfl]; exact h)
  obtain ⟨P, hP, hx⟩ := hv.get (i := j) (v := vs.toArray[j]) (by simp)
  obtain ⟨P', hP', hy⟩ := hw.get (i := j) (v := us.toArray[j]) (by simp)
  rw [hP] at hP'
  cases hP'
  exact eqAt_polys N hx hy (by simp only [Around.in1_units]; omega)
end PKit28
section PKit29
set_option maxRecDepth 100000
set_option maxHeartbeats 1000000
theorem noFill_tuple_mul : fillsNumberSlot (.type "tuple") "mul" = pure false :=
  PySem.fillsNumberSlot_seq (id := "tuple.__mul__") (r := some (.builtin "tuple.__rmul__")) F.slot_tuple_mul.lookup (by decide +kernel) F.slot_tuple_rmul.lookup (by decide +kernel)
theorem repeat_tuple : seqRepeat? (.type "tuple") = pure (some (.builtin "tuple.__mul__")) := by
  unfold seqRepeat?
  rw [PySem.seqSlot_of (T := "tuple") (name := "__mul__") (id := "tuple.__mul__") F.slot_tuple_mul.lookup (by decide +kernel), PySem.seqSlot_of (T := "tuple") (name := "__rmul__") (id := "tuple.__rmul__") F.slot_tuple_rmul.lookup (by decide +kernel)]
  rfl
theorem int_rmul_tup (a : Int) (t : Tok) (l : Addr) (items : Array Value) (n : Nat) (d : Option Addr) (sl : Array (Option Value)) :
    Meets (Builtin.«int.__rmul__» ⟨[.int a t, .ref l], []⟩) (fun _ R s => s.heap.get? l = some { cls := .type "tuple", dict := d, data := .seq items n, slots := sl } ∧ R (.ok (.ret Value.notImplemented)) s) :=
  .of_wp fun prog w A R s h => by obtain ⟨hp, g, d, tk, os⟩ := s; obtain ⟨hl, h⟩ := h; wp_walk; exact ⟨_, rfl, h⟩
theorem fold_rep (v : Value) : ∀ (n : Nat) (acc : List Value), List.foldl (fun (x1 x2 : Array Value) => x1 ++ x2) acc.toArray (List.replicate n #[v]) = (acc ++ List.replicate n v).toArray
  | 0, acc => by simp
  | n + 1, acc => by
    rw [List.replicate_succ, List.foldl_cons]
    have e : acc.toArray ++ #[v] = (acc ++ [v]).toArray := by simp
    rw [e, fold_rep v n (acc ++ [v])]
    simp [List.replicate_succ]
theorem tuple_mul_any (l : Addr) (v : Value) (n : Nat) (d : Option Addr) (sl : Array (Option Value)) (x : Int) (u : Tok) (h2 : 2 ≤ x) (hx : x ≤ 1000) :
    Meets (Builtin.«tuple.__mul__» ⟨[.ref l, .int x u], []⟩) (fun _ R s => s.heap.get? l = some { cls := .type "tuple", dict := d, data := .seq #[v] n, slots := sl } ∧ R (.ok (.ret (Value.ref s.heap.objs.size))) { s with heap := s.heap.push (tupO (List.replicate x.toNat v)) }) :=
  .of_wp fun prog w A R s h => by
    obtain ⟨hp, g, d, tk, os⟩ := s; obtain ⟨hl, h⟩ := h
    wp_walk
    rw [if_neg (show ¬ (decide (x < -2 ^ 63) || decide (x ≥ 2 ^ 63)) = true by simp; omega)]
    wp_walk
    rw [if_neg (show ¬ ((#[v] : Array Value).isEmpty || x == 1) = true by simp; omega)]
    wp_walk
    rw [if_neg (show ¬ (decide (x ≤ 0) || (#[v] : Array Value).isEmpty) = true by simp; omega)]
    wp_walk
    rw [if_neg (show ¬ (((#[v] : Array Value).size : Int) * x > (2 ^ 63 - 1) / 8) by simp; omega)]
    wp_walk
    rw [if_neg (show ¬ Builtin.Tuple.tupleTooMany (((#[v] : Array Value).size : Int) * x) = true by simp [Builtin.Tuple.tupleTooMany, sizeLine]; omega)]
    wp_walk
    have hf : List.foldl (fun (x1 x2 : Array Value) => x1 ++ x2) #[] (List.replicate x.toNat #[v]) = (List.replicate x.toNat v).toArray := fold_rep v x.toNat []
    rw [hf]
    rw [if_neg (show ¬ ((List.replicate x.toNat v).toArray.size > sizeLine) by rw [List.size_toArray, List.length_replicate, sizeLine_eq]; omega)]
    wp_walk
    exact ⟨_, rfl, h⟩
section
variable {prog : Program} {w : World} {A : Around} {E : Value → Shared → Prop} {s : Shared} {h₀ : Heap} {L : Addr} {m : Str → Option Value} {news : Ledger}
/-- (v,) * x -/
theorem mul_tup {l : Addr} {v : Value} {n : Nat} {x : Int} {u : Tok} {Q : Value → Shared → Prop} (Fm : Fr h₀ L s.heap m) (N : News h₀ L s.heap news) (hm : (l, ({ cls := .type "tuple", data := .seq #[v] n } : Obj)) ∈ news) (h2 : 2 ≤ x) (hx : x ≤ 1000)
    (h : ∀ D h', Fr h₀ L h' m → News h₀ L h' ((D, tupO (List.replicate x.toNat v)) :: news) → (∀ p ∈ news, p.1 < D) → Q (.ref D) { s with heap := h' }) : wpAny (model prog w) A (binaryOp .Mult (.ref l) (.int x u)) Q E s := by
  have ho := (N _ hm).1
  refine wpAny_binaryOp_repeat_ref (T := "tuple") (U := "int") (by decide) ⟨_, ho, rfl⟩ (fun s' => typeIs_int s' x u) noFill_tuple_mul F.fills_int_mul F.slot_int_rmul repeat_tuple F.slot_int_index.lookup
    (call_meets F.slot_int_rmul (typeIs_int s x u) F.entry_int_rmul (F.args_int_rmul_2 _ _) (int_rmul_tup x u l _ _ _ _)
      ⟨ho, rfl, ⟨_, ho, rfl⟩, call_meets F.slot_tuple_mul ⟨_, ho, rfl⟩ F.entry_tuple_mul (F.args_tuple_mul_2 _ _) (tuple_mul_any l v _ _ _ x u h2 hx) ⟨ho, ?_⟩⟩)
  exact h _ _ (Fm.push _) (News.push Fm N _) (fun p hp => Heap.lt_size (N p hp).1)
end
theorem ints_rep (t : Tok) : ∀ n : Nat, IntsAre (List.replicate n (.int 0 t)) (List.replicate n 0)
  | 0 => .nil
  | n + 1 => by rw [List.replicate_succ, List.replicate_succ]; exact .cons _ _ (ints_rep t n)
end PKit29
section PKit30
set_option maxRecDepth 100000
set_option maxHeartbeats 1000000
theorem exec_join {M : Model} {A : Around} {E : Value → Shared → Prop} {s : Shared} {env : Env} {st : Stmt} {P : Flow → Shared → Prop} (R : Shared → Prop)
    (h1 : wpAny M A (exec st env) (fun f s' => f = .next ∧ R s') E s) (h2 : ∀ s', R s' → P .next s') : wpAny M A (exec st env) P E s :=
  wpAny_mono h1 (fun f s' ⟨hf, hr⟩ => by subst hf; exact h2 s' hr) fun _ _ x => x
/-- a branch ends: what is known there -/
def JoinEnd (h₀ : Heap) (L : Addr) (s : Shared) (R : (Str → Option Value) → Ledger → Prop) (f : Flow) (s' : Shared) : Prop :=
  f = .next ∧ ∃ h' tk' m' ns, s' = { s with heap := h', toks := tk' } ∧ Fr h₀ L h' m' ∧ News h₀ L h' ns ∧ R m' ns
theorem JoinEnd.intro {h₀ h' : Heap} {L : Addr} {s : Shared} {R : (Str → Option Value) → Ledger → Prop} {tk' : Nat} {m' : Str → Option Value} {all : Ledger} (F : Fr h₀ L h' m') (N : News h₀ L h' all) (ns : Ledger) (hs : ∀ p ∈ ns, p ∈ all) (r : R m' ns) : JoinEnd h₀ L s R .next { s with heap := h', toks := tk' } :=
  ⟨rfl, h', tk', m', ns, rfl, F, fun p hp => N p (hs p hp), r⟩
theorem exec_joinF {M : Model} {A : Around} {E : Value → Shared → Prop} {s : Shared} {env : Env} {st : Stmt} {P : Flow → Shared → Prop} {h₀ : Heap} {L : Addr} {m : Str → Option Value} (_ : Fr h₀ L s.heap m) (R : (Str → Option Value) → (Str → Option Value) → Ledger → Prop)
    (h1 : wpAny M A (exec st env) (JoinEnd h₀ L s (R m)) E s) (h2 : ∀ h' tk' m' ns, Fr h₀ L h' m' → News h₀ L h' ns → R m m' ns → P .next { s with heap := h', toks := tk' }) : wpAny M A (exec st env) P E s :=
  wpAny_mono h1 (fun f s' ⟨hf, h', tk', m', ns, hs, F, N, r⟩ => by subst hf hs; exact h2 h' tk' m' ns F N r) fun _ _ x => x
theorem valL_get (lv : Int) (m : Nat) : ∀ (k i : Nat), i ≤ k → (valL lv m k)[k - i]? = some (pws lv m i)
  | 0, i, h => by
    have : i = 0 := by omega
    subst this
    rfl
  | k + 1, i, h => by
    rcases Nat.lt_or_ge k i with hk | hk
    · have : i = k + 1 := by omega
      subst this
      rw [Nat.sub_self]
      rfl
    · have e : k + 1 - i = (k - i) + 1 := Nat.succ_sub hk
      rw [e]
      show (pws lv m (k + 1) :: valL lv m k)[(k - i) + 1]? = _
      rw [List.getElem?_cons_succ]
      exact valL_get lv m k i hk
theorem intsGet {vs : List Value} {ks : List Int} (h : IntsAre vs ks) : ∀ {i : Nat} {k : Int}, ks[i]? = some k → ∃ t, vs[i]? = some (.int k t) := by
  induction h with
  | nil => intro i k h; simp at h
  | cons n t _ ih =>
    intro i k h
    cases i with
    | zero =>
      simp only [List.getElem?_cons_zero, Option.some.injEq] at h
      subst h
      exact ⟨t, rfl⟩
    | succ i =>
      simp only [List.getElem?_cons_succ] at h ⊢
      exact ih h
theorem intsDrop1 {vs : List Value} {ks : List Int} (h : IntsAre vs ks) : IntsAre (vs.drop 1) (ks.drop 1) := by
  cases h with
  | nil => exact .nil
  | cons n t h => exact h
theorem upow_ne_zero {a : Int} {n : Nat} (h0 : 0 ≤ a) (h : a < (n : Int)) : upow a 1 n ≠ List.replicate n 0 := by
  intro e
  have h1 := upow_get (a := a) (m := 1) (n := n) (i := a.toNat) (by omega)
  rw [e, if_pos (by omega), List.getElem?_replicate, if_pos (by omega)] at h1
  cases h1
theorem gp_set {e z : List Int} {v : Int} (h : e ≠ z) (hv : v ≠ 0) : setP [(e, 1)] z (0 - v) = gp e z v := by
  simp [gp, setP, coef, h, hv, Int.zero_sub]
theorem gp_zero {e z : List Int} {v : Int} (hv : v = 0) : [(e, 1)] = gp e z v := by
  simp [gp, hv]
theorem polysDrop {w : World} {ns : Ledger} : ∀ (i : Nat) {vs : List Value} {Ls : List (List (List Int × Int))}, PolysIn w ns vs Ls → PolysIn w ns (vs.drop i) (Ls.drop i)
  | 0, _, _, h => h
  | _ + 1, _, _, .nil => .nil
  | i + 1, _, _, .cons _ h => polysDrop i h
theorem polysTake {w : World} {ns : Ledger} : ∀ (i : Nat) {vs : List Value} {Ls : List (List (List Int × Int))}, PolysIn w ns vs Ls → PolysIn w ns (vs.take i) (Ls.take i)
  | 0, _, _, _ => .nil
  | _ + 1, _, _, .nil => .nil
  | i + 1, _, _, .cons h1 h => .cons h1 (polysTake i h)
theorem polysApp {w : World} {ns : Ledger} {us : List Value} {Ks : List (List (List Int × Int))} (h2 : PolysIn w ns us Ks) : ∀ {vs : List Value} {Ls : List (List (List Int × Int))}, PolysIn w ns vs Ls → PolysIn w ns (vs ++ us) (Ls ++ Ks)
  | _, _, .nil => h2
  | _, _, .cons h1 h => .cons h1 (polysApp h2 h)
theorem base_len {lv mv : Int} {n low : Nat} (hn : n ≠ 0) : (baseP lv mv n low).length = n - low := by
  unfold baseP
  rw [List.length_drop, List.length_append, List.length_map, List.length_range, List.length_singleton, Nat.sub_add_cancel (Nat.pos_of_ne_zero hn)]
end PKit30
section PKit31
set_option maxRecDepth 100000
set_option maxHeartbeats 1000000
/-- the law's first loop, between two turns -/
inductive LoopA (wld : World) (lv mv : Int) (n : Nat) (KB : Addr) (mm : Str → Option Value) (i : Nat) (m₁ : Str → Option Value) (ns : Ledger) : Prop
  | mk (av : Option Value) (VL : Addr) (vs : List Value) (kv : Nat) (zs : List Value) (kz : Nat) (tl : Ledger) :
    m₁ = (fun z => if z = Str.ofString "values" then some (.ref VL) else if z = Str.ofString "at" then av else mm z) →
    ns = (KB, ({ cls := .type "list", data := .seq (List.toArray zs) kz } : Obj)) :: tl →
    (VL, ({ cls := .type "list", data := .seq (List.toArray vs) kv } : Obj)) ∈ tl →
    IntsAre vs (valL lv mv.toNat i) → PolysIn wld tl zs ((List.range i).map (bp mv n)) → (∀ q ∈ tl, q.1 ≠ KB) →
    LoopA wld lv mv n KB mm i m₁ ns
/-- the law's second loop, between two turns -/
inductive LoopB (wld : World) (lv mv : Int) (n : Nat) (DU : Addr) (ns15 : Ledger) (mm : Str → Option Value) (i : Nat) (m₁ : Str → Option Value) (ns : Ledger) : Prop
  | mk (av sv ov nv : Option Value) (us : List Value) (ku : Nat) (tl : Ledger) :
    m₁ = (fun z => if z = Str.ofString "number" then nv else if z = Str.ofString "one" then ov else if z = Str.ofString "spot" then sv else if z = Str.ofString "at" then av else mm z) →
    ns = (DU, ({ cls := .type "list", data := .seq (List.toArray us) ku } : Obj)) :: tl →
    PolysIn wld tl us ((List.range i).map (dueP lv mv.toNat n)) → (∀ p ∈ ns15, p ∈ tl) → (∀ q ∈ tl, q.1 ≠ DU) →
    LoopB wld lv mv n DU ns15 mm i m₁ ns
/-- behind the cut of the basis -/
inductive LowJ (wld : World) (lv mv : Int) (n : Nat) (mm mm' : Str → Option Value) (ns : Ledger) : Prop
  | mk (KB2 : Addr) (kz2 : Nat) (zs2 : List Value) (VL2 : Addr) (vs2 : List Value) (kv2 low : Nat) :
    low = (if lv = 2 ∧ n = 4 then 1 else 0) →
    mm' = (fun z => if z = Str.ofString "values" then some (.ref VL2) else if z = Str.ofString "basis" then some (.ref KB2) else mm z) →
    (KB2, ({ cls := .type "list", data := .seq (List.toArray zs2) kz2 } : Obj)) ∈ ns → (VL2, ({ cls := .type "list", data := .seq (List.toArray vs2) kv2 } : Obj)) ∈ ns →
    IntsAre vs2 ((valL lv mv.toNat (n - 1)).drop low) → PolysIn wld ns zs2 (baseP lv mv n low) →
    LowJ wld lv mv n mm mm' ns
end PKit31
set_option maxRecDepth 100000
set_option maxHeartbeats 8000000

section
theorem lines_48 : True := by
  k_with "X:binaryOp Add ref ref" => (k_here; (with_reducible show wpAny _ _ (binaryOp _ (Value.ref _) (Value.ref _)) _ _ _); k_dflt (
    refine' add_listF ?zqF ?zqN ?zqm ?zqc ?zqd ?zqm2 ?zqc2 ?zqd2 ?zqz ?_
    (case zqF => k_asm)
    (case zqN => k_asm)
    (case zqm => walk_at "m mem")
    (case zqc => rfl)
    (case zqd => rfl)
    (case zqm2 => walk_at "m mem")
    (case zqc2 => rfl)
    (case zqd2 => rfl)
    (case zqz => first | assumption | (simp only [List.length_take, List.length_drop, List.length_cons, List.length_nil]; omega))
    intro _ _ _ _ _
    (try dsimp only)
    (try k_fold)))
  k_with "X:eval Dict" => (k_here; k_dflt (
    refine' eval_Dict_poly ?zqF ?zqN ?zqB (by rfl) (by rfl) (List.cons_ne_nil _ _) (by decide) ?_
    (case zqF => k_asm)
    (case zqN => k_asm)
    (case zqB => exact big_of (by k_asm))
    intro _ _ _ _ _ _
    (try dsimp only)
    (try k_fold)))
  k_with "X:eval IfExp" => (k_here; refine Held.out ?_)
  k_with "X:call ref" => (k_here; (with_reducible show wpAny _ _ (call (Value.ref 212) _) _ _ _); refine Held.out ?_)
  k_with "X:call ref" => (k_here; (with_reducible show wpAny _ _ (call (Value.ref 205) _) _ _ _); refine Held.out ?_)
  k_with "X:PolyStores" => (refine Held.out ?_)
  k_with "X:binaryOp Pow int int" => (k_here; (with_reducible show wpAny _ _ (binaryOp _ (Value.int _ _) (Value.int _ _)) _ _ _); refine Held.out ?_)
  k_with "X:subscriptTail Name Constant ref int" => (k_here; (with_reducible show wpAny _ _ (subscriptTail _ _ (Value.ref _) (Value.int 0 _)) _ _ _); refine Held.out ?_)
  k_with "X:subscriptTail" => (k_here; (with_reducible show wpAny _ _ (subscriptTail _ _ (Value.ref _) (Value.int 0 _)) _ _ _); refine Held.out ?_)
  k_with "X:subscriptTail" => (k_here; (with_reducible show wpAny _ _ (subscriptTail _ _ (Value.ref _) (Value.int (_ - _) _)) _ _ _); refine Held.out ?_)
  k_with "X:exec If" => (k_here; (with_reducible show wpAny _ _ (exec (Stmt.If _ _ _ _) _) _ _ _); refine Held.out ?_)
  k_with "X:binaryOp Mult ref int" => (k_here; (with_reducible show wpAny _ _ (binaryOp _ (Value.ref _) (Value.int _ _)) _ _ _); refine Held.out ?_)
  k_with "X:setItem ref ref" => (k_here; (with_reducible show wpAny _ _ (setItem (Value.ref _) (Value.ref _) _) _ _ _); refine Held.out ?_)
  k_with "X:setItem" => (k_here; (with_reducible show wpAny _ _ (setItem (Value.ref _) (Value.ref _) _) _ _ _); refine Held.out ?_)
  k_with "X:subscriptTail Name Slice ref ref" => (k_here; (with_reducible show wpAny _ _ (subscriptTail _ (PySem.Expr.Slice (some _) none none _) (Value.ref _) (Value.ref _)) _ _ _); refine Held.out ?_)
  k_with "X:call builtin:len" => (k_here; (with_reducible show wpAny _ _ (call (Value.builtin _) [Value.ref _]) _ _ _); refine Held.out ?_)
  k_with "X:compareOp Eq ref ref" => (k_here; (with_reducible show wpAny _ _ (compareOp _ (Value.ref _) (Value.ref _)) _ _ _); refine Held.out ?_)
  k_with "X:exec For Name Call cons nil" => (k_here; (with_unfolding_all refine' For_turns (by assumption) ?_); k_whole)
  trivial
theorem law_holds : PySem.Challenge.rw_rh0028_01.Holds := holds_law said0 fun _ => hd (by
  k_fill
  intro w0 _ _ _ _ G Y _ _ _ cd _ _ _ ho hf hc hk hm _ _ _ _ h1 h2 h3 h4 h5
  have hKY := kIn_of Y
  obtain ⟨hX, hV⟩ := Ground.X G
  have hGL := glob_more (Ground.glob G (by decide +kernel) (by decide +kernel)) hV
  refine Ground.open G fun T B D TE TW => ?_
  obtain ⟨_, _, hM⟩ := bmod_of_top T
  try (obtain ⟨_, _, e, hB⟩ := based_of_top T rfl hm ho hf; obtain rfl := e)
  clear hm
  wrow_args h1 h2 h3 h4 h5
  refine enter_call ?_
  w_top on
  try refine codeAny_mono ?_ (fun _ _ g => GoodW.toG g)
  have hbl := below_caller (Top.heap T)
  w_call any ho hf hc hk T F
  clear hf
  k_drop
  all_goals try k_fold
  k_steps
  rename_i DS ws hS1 hIw hCw hLw lS DL cL hS2 lDL b hS3 lb hS4 FB NB
  have hbne : ∀ p ∈ ([(DL, W.listOf ws.toArray cL), (DS, W.listOf ws.toArray 0)] : Ledger), p.1 ≠ b := by
    intro p hp
    simp only [List.mem_cons, List.not_mem_nil, or_false] at hp
    rcases hp with rfl | rfl
    · exact Nat.ne_of_lt lb.1
    · exact Nat.ne_of_lt lb.2
  refine Held.intro ?_
  refine law_take_ok _ b DL 0 _ _ _ cL ws _ 2 ([(DL, W.listOf ws.toArray cL), (DS, W.listOf ws.toArray 0)]) ?hb0 (by walk_at "m mem") hIw (by omega) (by omega) (by omega) (by omega) (by assumption) FB (by assumption) NB (by assumption) rfl (by ktr_room) (by ktr_units) ?_
  case hb0 => exact hbne
  intro r1 t1 u1 kb1 h1 tk1 hr1 hr1' F1 N1
  dsimp only
  k_steps
  refine Held.intro ?_
  refine law_take_ok _ b DL 1 _ _ _ cL ws _ 39 ([(DL, W.listOf ws.toArray cL), (DS, W.listOf ws.toArray 0)]) ?hb1 (by walk_at "m mem") hIw (by omega) (by omega) (by omega) (by omega) (by assumption) (by assumption) (by assumption) N1 (by assumption) rfl (by ktr_room) (by ktr_units) ?_
  case hb1 => exact hbne
  intro r2 t2 u2 kb2 h2 tk2 hr2 hr2' F2 N2
  dsimp only
  k_steps
  rename_i M hM FM NM lM
  have hbne3 : ∀ p ∈ ((M, W.listOf #[.int 1 (tk2 + 1), .int (-1) (tk2 + 1 + 1 + 1), .int 0 (tk2 + 1 + 1 + 1 + 1), .int 2 (tk2 + 1 + 1 + 1 + 1 + 1)] 0) :: [(DL, W.listOf ws.toArray cL), (DS, W.listOf ws.toArray 0)] : Ledger), p.1 ≠ b := by
    intro p hp
    rcases List.mem_cons.mp hp with rfl | hp
    · exact Nat.ne_of_gt lM.1
    · exact hbne p hp
  refine Held.intro ?_
  refine law_take_ok _ b DL 2 u2 _ kb2 cL ws _ 4 ((M, W.listOf #[.int 1 (tk2 + 1), .int (-1) (tk2 + 1 + 1 + 1), .int 0 (tk2 + 1 + 1 + 1 + 1), .int 2 (tk2 + 1 + 1 + 1 + 1 + 1)] 0) :: [(DL, W.listOf ws.toArray cL), (DS, W.listOf ws.toArray 0)]) hbne3 (by walk_at "m mem") hIw (by omega) (by omega) (by omega) (by omega) (by assumption) FM (by assumption) (News.sub NM ?hs3) (by assumption) rfl (by ktr_room) (by ktr_units) ?_
  case hs3 =>
    walk_at "m lsub"
  intro r3 t3 u3 kb3 h3 tk3 hr3 hr3' F3 N3
  dsimp only
  k_steps
  rename_i tlv
  refine Held.intro ?_
  refine law_take_ok _ b DL 3 u3 _ kb3 cL ws _ 4 ((M, W.listOf #[.int 1 (tk2 + 1), .int (-1) (tk2 + 1 + 1 + 1), .int 0 (tk2 + 1 + 1 + 1 + 1), .int 2 (tk2 + 1 + 1 + 1 + 1 + 1)] 0) :: [(DL, W.listOf ws.toArray cL), (DS, W.listOf ws.toArray 0)]) hbne3 (by walk_at "m mem") hIw (by omega) (by omega) (by omega) (by omega) (by assumption) (by assumption) (by assumption) N3 (by assumption) rfl (by ktr_room) (by ktr_units) ?_
  intro r4 t4 u4 kb4 h4 tk4 hr4 hr4' F4 N4
  dsimp only
  k_steps
  rename_i DT hT1 lT hT2 hT3 hT4 hT5 hT6 FT NT
  have hlv := menu_val hr3 hr3'
  generalize ([1, -1, 0, 2] : List Int).getD r3.toNat 0 = lv at hlv FT NT ⊢
  refine Held.intro ?_
  refine ifexp_join (fun v => (lv = 2 ∧ (v = 2 ∨ v = 3)) ∨ ((lv = 1 ∨ lv = -1 ∨ lv = 0) ∧ 2 ≤ v ∧ v ≤ 40)) ?_ ?_
  · refine wpAny_IfExp ?_
    k_steps
    · have e : (2 + r2).fmod 2 = (2 + r2) % 2 := Int.fmod_eq_emod_of_nonneg _ (by decide)
      rw [e]
      refine .inl ⟨by assumption, ?_⟩
      clear e hlv
      omega
    · refine .inr ⟨?_, by omega, by omega⟩
      rcases hlv with h | h | h | h
      · exact .inl h
      · exact .inr (.inl h)
      · exact .inr (.inr h)
      · exact absurd h (by assumption)
  intro mv tm tkm hgood
  have NZ : News _ _ hT6 [] := News.sub NT (fun p hp => nomatch hp)
  clear NT hbne hbne3 lM lT lDL lb hIw hCw hLw lS
  dsimp only
  k_steps
  rename_i KB hB1 lB0 VL0 hV1 lV0 DT2 hD1 lD0 hX2 hX3 hX4 FL NL
  have hgood' : Good lv mv := hgood
  have hmv0 : 2 ≤ mv := by omega
  have hmv1 : mv ≤ 40 := by omega
  obtain ⟨n, hn34, hnk⟩ : ∃ n : Nat, (n = 3 ∨ n = 4) ∧ 3 + r1 = (n : Int) := by
    have h : r1 = 0 ∨ r1 = 1 := by omega
    rcases h with rfl | rfl
    · exact ⟨3, .inl rfl, rfl⟩
    · exact ⟨4, .inr rfl, rfl⟩
  have hn3 : 3 ≤ n := by omega
  have hn4 : n ≤ 4 := by omega
  -- out of omega's sight: it would split on them each time
  have hn34' : ∀ _ : Unit, n = 3 ∨ n = 4 := fun _ => hn34
  clear hn34 hgood hlv
  have hn1000 : n ≤ 1000 := by omega
  rename World => wld
  refine Held.intro ?_
  refine for_rangeM (n := n - 1) (news := [(KB, W.listOf #[] 0), (VL0, W.listOf #[.int lv tlv] 0)]) ?hk1 (by omega) rfl FL (News.sub NL (by walk_at "m lsub")) rfl rfl
    (LoopA wld lv mv n KB) ?_ ?_ ?_
  case hk1 => omega
  · refine ⟨none, VL0, [.int lv tlv], 0, [], 0, [(VL0, W.listOf #[.int lv tlv] 0)], ?_, rfl, List.mem_cons_self, .cons _ _ .nil, .nil, ?_⟩
    · exact map_two (by rfl) (by rfl) fun z h1 h2 => by walk_at "m ifs"
    · intro q hq
      rw [List.mem_singleton] at hq
      rw [hq]
      exact Nat.ne_of_gt lV0
  · rintro i tk₀ m₁ news₁ own h tk wr hi ⟨av, VL, vs, kv, zs, kz, tl, rfl, rfl, hVL, hvs, hzs, htK⟩ F5 N5 off5 hA5 ho5
    clear NL FL lB0 lV0 lD0
    have hpw := pws_small hgood' (j := i) (by omega)
    obtain ⟨vr, hvr⟩ := valL_head lv mv.toNat i
    have hvl : vs.length = i + 1 := (IntsAre.length hvs).trans (valL_length ..)
    rw [hvr] at hvs
    cases hvs with
    | cons n0 t0 hvs' =>
    dsimp only
    k_steps
    rename_i vsr DD hd0 FD0 ND0 lDD loD z1 z2 ra usa hd1 tka hia z3 z4 da hd2 lda rb usb hd3 tkb hib db hd4 FD ND ldb
    refine Held.intro ?_
    have hT4 : AllTup [(db, tupO [.int (-1) (tkb + 1), .int 1 (tkb + 1 + 1)]), (rb, tupO usb), (da, tupO [.int 1 tka, .int 1 (tka + 1)]), (ra, tupO usa)] := allTup_cons _ _ (allTup_cons _ _ (allTup_cons _ _ (allTup_cons _ _ allTup_nil)))
    have hT4s : ∀ p ∈ [(db, tupO [.int (-1) (tkb + 1), .int 1 (tkb + 1 + 1)]), (rb, tupO usb), (da, tupO [.int 1 tka, .int 1 (tka + 1)]), (ra, tupO usa)], p ∈ (db, tupO [.int (-1) (tkb + 1), .int 1 (tkb + 1 + 1)]) :: (rb, tupO usb) :: (da, tupO [.int 1 tka, .int 1 (tka + 1)]) :: (ra, tupO usa) :: (DD, ({ cls := .type "dict", data := .dict #[] } : Obj)) :: (own ++ ((KB, { cls := .type "list", data := .seq (List.toArray zs) kz }) :: tl)) := by
      walk_at "m lsub"
    have hTD := tups_ne ND (d := DD) (o := { cls := .type "dict", data := .dict #[] }) (by walk_at "m memr") (NT.type rfl (by decide)) hT4 hT4s
    have hTK := tups_ne ND (d := KB) (o := { cls := .type "list", data := .seq (List.toArray zs) kz }) (by walk_at "m memr") (NT.type rfl (by decide)) hT4 hT4s
    have hTW := off_tups ND hA5 (by walk_at "m lsub") hT4 hT4s
    have hDK : DD ≠ KB := Nat.ne_of_gt (lDD (KB, _) (List.mem_append_right _ (.head _)))
    refine polyStores2 (rest := (db, tupO [.int (-1) (tkb + 1), .int 1 (tkb + 1 + 1)]) :: (rb, tupO usb) :: (da, tupO [.int 1 tka, .int 1 (tka + 1)]) :: (ra, tupO usa) :: (own ++ ((KB, { cls := .type "list", data := .seq (List.toArray zs) kz }) :: tl))) (ns := (db, tupO [.int (-1) (tkb + 1), .int 1 (tkb + 1 + 1)]) :: (rb, tupO usb) :: (da, tupO [.int 1 tka, .int 1 (tka + 1)]) :: (ra, tupO usa) :: tl) (by ktr_units) FD ND ?hs1 ?hne1 ?hns1 ⟨ra, usa, rfl, by walk_at "m mem", hia⟩ ⟨da, _, _, rfl, by walk_at "m mem"⟩ ⟨rb, usb, rfl, by walk_at "m mem", hib⟩ ⟨db, _, _, rfl, by walk_at "m mem"⟩ ?hkk ?_
    case hs1 =>
      walk_at "m lsub"
    case hne1 => exact all_cons (hTD _ (by walk_at "m mem")) (all_cons (hTD _ (by walk_at "m mem")) (all_cons (hTD _ (by walk_at "m mem")) (all_cons (hTD _ (by walk_at "m mem")) fun p hp => Nat.ne_of_lt (lDD p hp))))
    case hns1 =>
      walk_at "m lsub"
    case hkk => exact upow_ne (i := i) (by omega) rfl (by omega) (by omega)
    intro h9 tk9 oD F9 N9 PD
    clear ND FD ND0 FD0 F5 N5
    dsimp only
    k_steps
    refine Held.intro ?_
    refine append_listS (D := KB) (vs := zs) (n := kz) (rest := own ++ ((DD, oD) :: (db, tupO [.int (-1) (tkb + 1), .int 1 (tkb + 1 + 1)]) :: (rb, tupO usb) :: (da, tupO [.int 1 tka, .int 1 (tka + 1)]) :: (ra, tupO usa) :: tl)) F9 N9 ?hs2 ?hap2 ?hz2 ?_
    case hs2 =>
      walk_at "m lsub"
    case hap2 => exact all_app (fun p h e => off5 _ (.head _) (by rw [← e]; exact ho5 p h)) (all_cons hDK (all_cons (hTK _ (by walk_at "m mem")) (all_cons (hTK _ (by walk_at "m mem")) (all_cons (hTK _ (by walk_at "m mem")) (all_cons (hTK _ (by walk_at "m mem")) htK)))))
    case hz2 =>
      have := hzs.length
      rw [List.length_map, List.length_range] at this
      omega
    intro h10 F10 N10
    clear N9 F9
    dsimp only
    k_steps
    refine Held.intro ?_
    refine item_listI 0 rfl N10 (by walk_at "m mem") rfl rfl rfl (by decide) ?_
    dsimp only
    k_steps
    refine Held.intro ?_
    refine pow_int_small (by omega) (by omega) hpw ?_
    clear hpw
    rw [List.length_cons] at hvl
    dsimp only
    k_steps
    rename_i LL g1 lL DV g2 lDV g3 FV NV
    refine ForEnd.next FV NV ((KB, ({ cls := .type "list", data := .seq (List.toArray (zs ++ [.ref DD])) (kz + 1) } : Obj)) :: (DV, ({ cls := .type "list", data := .seq (List.toArray ([.int (pws lv mv.toNat i ^ mv.toNat) (tk9 + 1)] ++ .int (pws lv mv.toNat i) t0 :: vsr)) } : Obj)) :: (DD, oD) :: (db, tupO [.int (-1) (tkb + 1), .int 1 (tkb + 1 + 1)]) :: (rb, tupO usb) :: (da, tupO [.int 1 tka, .int 1 (tka + 1)]) :: (ra, tupO usa) :: tl) ?_ ?_ ⟨some (.int (i : Int) tk₀), DV, [.int (pws lv mv.toNat i ^ mv.toNat) (tk9 + 1)] ++ .int (pws lv mv.toNat i) t0 :: vsr, 0, zs ++ [.ref DD], kz + 1, (DV, ({ cls := .type "list", data := .seq (List.toArray ([.int (pws lv mv.toNat i ^ mv.toNat) (tk9 + 1)] ++ .int (pws lv mv.toNat i) t0 :: vsr)) } : Obj)) :: (DD, oD) :: (db, tupO [.int (-1) (tkb + 1), .int 1 (tkb + 1 + 1)]) :: (rb, tupO usb) :: (da, tupO [.int 1 tka, .int 1 (tka + 1)]) :: (ra, tupO usa) :: tl, ?_, rfl, List.mem_cons_self, ?_, ?_, ?_⟩
    · walk_at "m lsub"
    · exact all_cons (fun hb => off5 _ (.head _) hb) (all_cons (fun hb => let ⟨_, hob, _⟩ := hA5 _ hb; Nat.lt_irrefl _ (lDV _ (.tail _ (.tail _ (List.mem_append_left _ hob))))) (all_cons (fun hb => let ⟨_, hob, _⟩ := hA5 _ hb; Nat.lt_irrefl _ (lDD _ (List.mem_append_left _ hob)))
        (all_cons (hTW _ (by walk_at "m mem")) (all_cons (hTW _ (by walk_at "m mem")) (all_cons (hTW _ (by walk_at "m mem")) (all_cons (hTW _ (by walk_at "m mem")) fun p h => off5 p (.tail _ h)))))))
    · exact map_two (by rfl) (by rfl) fun z h1 h2 => by walk_at "m ifs"
    · rw [show valL lv mv.toNat (i + 1) = pws lv mv.toNat i ^ mv.toNat :: valL lv mv.toNat i from rfl, hvr]
      exact .cons _ _ (.cons _ _ hvs')
    · rw [List.range_succ, List.map_append]
      exact (hzs.mono (by walk_at "m lsub")).snoc ⟨DD, oD, rfl, loD, by walk_at "m mem", PD.mono (by walk_at "m lsub")⟩
    · exact all_cons (Nat.ne_of_gt (lDV (KB, _) (.tail _ (.head _)))) (all_cons hDK (all_cons (hTK _ (by walk_at "m mem")) (all_cons (hTK _ (by walk_at "m mem")) (all_cons (hTK _ (by walk_at "m mem")) (all_cons (hTK _ (by walk_at "m mem")) htK)))))
  · rintro h11 tk11 m11 news11 F11 N11 ⟨av, VL, vs, kv, zs, kz, tl, rfl, rfl, hVL, hvs, hzs, htK⟩
    clear NL FL lB0 lV0 lD0
    dsimp only
    k_steps
    rename_i DE hE0 FE0 NE0 lDE loE z1 z2 ra usa hE1 tka hia da hE2 FE NE lda
    refine Held.intro ?_
    have hTE2 : AllTup [(da, tupO [.int 1 tka, .int 1 (tka + 1)]), (ra, tupO usa)] := allTup_cons _ _ (allTup_cons _ _ allTup_nil)
    have hTEs : ∀ p ∈ [(da, tupO [.int 1 tka, .int 1 (tka + 1)]), (ra, tupO usa)], p ∈ (da, tupO [.int 1 tka, .int 1 (tka + 1)]) :: (ra, tupO usa) :: (DE, ({ cls := .type "dict", data := .dict #[] } : Obj)) :: (KB, ({ cls := .type "list", data := .seq (List.toArray zs) kz } : Obj)) :: tl := by
      walk_at "m lsub"
    have hTED := tups_ne NE (d := DE) (o := { cls := .type "dict", data := .dict #[] }) (by walk_at "m memr") (NT.type rfl (by decide)) hTE2 hTEs
    have hTEK := tups_ne NE (d := KB) (o := { cls := .type "list", data := .seq (List.toArray zs) kz }) (by walk_at "m memr") (NT.type rfl (by decide)) hTE2 hTEs
    have hEK : DE ≠ KB := Nat.ne_of_gt (lDE (KB, _) (.head _))
    refine polyStores1 (rest := (da, tupO [.int 1 tka, .int 1 (tka + 1)]) :: (ra, tupO usa) :: (KB, { cls := .type "list", data := .seq (List.toArray zs) kz }) :: tl) (ns := (da, tupO [.int 1 tka, .int 1 (tka + 1)]) :: (ra, tupO usa) :: tl) (by ktr_units) FE NE ?hs1 ?hne1 ?hns1 ⟨ra, usa, rfl, by walk_at "m mem", hia⟩ ⟨da, _, _, rfl, by walk_at "m mem"⟩ ?_
    case hs1 =>
      walk_at "m lsub"
    case hne1 => exact all_cons (hTED _ (by walk_at "m mem")) (all_cons (hTED _ (by walk_at "m mem")) fun p hp => Nat.ne_of_lt (lDE p hp))
    case hns1 =>
      walk_at "m lsub"
    intro h12 tk12 oE F12 N12 PE
    have hup : upow (3 + r1 - 1) 1 n = upow ((n : Int) - 1) 1 n := by rw [hnk]
    rw [hup] at PE hia
    clear NE FE NE0 FE0 F11 N11 hTEs
    dsimp only
    k_steps
    rename_i hE3 FE3 NE3
    refine Held.intro ?_
    refine exec_joinF FE3 (fun mm mm' ns => mm' = mm ∧ ∃ o' tl', ns = (DE, o') :: (KB, ({ cls := .type "list", data := .seq (List.toArray zs) kz } : Obj)) :: tl' ∧ PolyObj wld tl' o' (endP lv n) ∧ (∀ p ∈ tl, p ∈ tl') ∧ ∀ q ∈ tl', q.1 ≠ KB ∧ q.1 ≠ DE) ?_ ?_
    · refine wpAny_If ?_
      k_steps
      · rename_i tkq hlv0 DV1 g1 l1 DZ0 g2 FZ NZ l2
        refine Held.intro ?_
        refine mul_tup FZ NZ (by walk_at "m mem") (by omega) (by omega) ?_
        intro DZ hZ FZ2 NZ2 lZ
        have hnn : (3 + r1).toNat = n := by omega
        dsimp only
        k_steps
        refine Held.intro ?_
        refine set_poly (all := (DZ, tupO (List.replicate (3 + r1).toNat (.int 0 (tk + 1 + 1 + 1)))) :: (DZ0, tupO [.int 0 (tk + 1 + 1 + 1)]) :: (DV1, tupO [.int (0 - lv) (tk + 1), .int 1 (tk + 1 + 1)]) :: (da, tupO [.int 1 tka, .int 1 (tka + 1)]) :: (ra, tupO usa) :: (KB, ({ cls := .type "list", data := .seq (List.toArray zs) kz } : Obj)) :: tl) (ns := (DZ, tupO (List.replicate (3 + r1).toNat (.int 0 (tk + 1 + 1 + 1)))) :: (DZ0, tupO [.int 0 (tk + 1 + 1 + 1)]) :: (DV1, tupO [.int (0 - lv) (tk + 1), .int 1 (tk + 1 + 1)]) :: (da, tupO [.int 1 tka, .int 1 (tka + 1)]) :: (ra, tupO usa) :: tl) (by ktr_units) FZ2 (News.sub NZ2 ?hs5) ?hne5 ?hsb5 (PE.mono ?hm5) ⟨DZ, List.replicate (3 + r1).toNat (.int 0 (tk + 1 + 1 + 1)), rfl, by walk_at "m mem", by rw [hnn]; exact ints_rep _ n⟩ ⟨DV1, _, _, rfl, by walk_at "m mem"⟩ (by simp) ?_
        case hs5 =>
          walk_at "m lsub"
        case hne5 => exact all_cons (Nat.ne_of_gt (lZ (DE, oE) (by walk_at "m mem"))) (all_cons (Nat.ne_of_gt l2.2.1) (all_cons (Nat.ne_of_gt l1.1) (all_cons (hTED _ (by walk_at "m mem")) (all_cons (hTED _ (by walk_at "m mem")) fun p hp => Nat.ne_of_lt (lDE p hp)))))
        case hsb5 =>
          walk_at "m lsub"
        case hm5 =>
          walk_at "m lsub"
        intro hq tkqq oF FQ NQ PF
        rw [gp_set (upow_ne_zero (by omega) (by omega)) hlv0] at PF
        dsimp only
        k_steps
        refine JoinEnd.intro FQ NQ ((DE, oF) :: (KB, ({ cls := .type "list", data := .seq (List.toArray zs) kz } : Obj)) :: (DZ, tupO (List.replicate (3 + r1).toNat (.int 0 (tk + 1 + 1 + 1)))) :: (DZ0, tupO [.int 0 (tk + 1 + 1 + 1)]) :: (DV1, tupO [.int (0 - lv) (tk + 1), .int 1 (tk + 1 + 1)]) :: (da, tupO [.int 1 tka, .int 1 (tka + 1)]) :: (ra, tupO usa) :: tl) ?_ ⟨rfl, oF, _, rfl, PF, ?_, ?_⟩
        · walk_at "m lsub"
        · walk_at "m lsub"
        · exact all_cons ⟨Nat.ne_of_gt (lZ (KB, _) (.tail _ (.tail _ (.tail _ (.tail _ (.tail _ (.head _))))))), Nat.ne_of_gt (lZ (DE, oE) (by walk_at "m mem"))⟩ (all_cons ⟨Nat.ne_of_gt l2.2.2.2.2.1, Nat.ne_of_gt l2.2.1⟩ (all_cons ⟨Nat.ne_of_gt l1.2.2.2.1, Nat.ne_of_gt l1.1⟩
            (all_cons ⟨hTEK _ (by walk_at "m mem"), hTED _ (by walk_at "m mem")⟩ (all_cons ⟨hTEK _ (by walk_at "m mem"), hTED _ (by walk_at "m mem")⟩ fun q h => ⟨htK q h, Nat.ne_of_lt (lDE q (.tail _ h))⟩))))
      · rename_i tkq hlv0
        rw [show [(upow ((n : Int) - 1) 1 n, (1 : Int))] = endP lv n from gp_zero hlv0] at PE
        refine JoinEnd.intro FE3 NE3 ((DE, oE) :: (KB, ({ cls := .type "list", data := .seq (List.toArray zs) kz } : Obj)) :: (da, tupO [.int 1 tka, .int 1 (tka + 1)]) :: (ra, tupO usa) :: tl) ?_ ⟨rfl, oE, _, rfl, PE, ?_, ?_⟩
        · walk_at "m lsub"
        · walk_at "m lsub"
        · exact all_cons ⟨hTEK _ (by walk_at "m mem"), hTED _ (by walk_at "m mem")⟩ (all_cons ⟨hTEK _ (by walk_at "m mem"), hTED _ (by walk_at "m mem")⟩ fun q h => ⟨htK q h, Nat.ne_of_lt (lDE q (.tail _ h))⟩)
    · rintro h13 tk13 m13 ns13 F13 N13 ⟨rfl, oF, tl', rfl, PF, hsub, htne⟩
      clear FE3 NE3 hTED hTEK hTE2 lda hia PE lDE htK
      dsimp only
      k_steps
      refine Held.intro ?_
      refine append_listS (D := KB) (vs := zs) (n := kz) (rest := (DE, oF) :: tl') F13 N13 ?hs6 ?hap6 ?hz6 ?_
      case hs6 =>
        walk_at "m lsub"
      case hap6 =>
        exact all_cons hEK fun p h => (htne p h).1
      case hz6 =>
        have := hzs.length
        rw [List.length_map, List.length_range] at this
        omega
      intro h14 F14 N14
      have hzl : (zs ++ [Value.ref DE]).length ≤ 10000 := by
        have := hzs.length
        rw [List.length_map, List.length_range] at this
        rw [List.length_append, List.length_singleton]
        omega
      have hvl : vs.length ≤ 10000 := by
        have := (IntsAre.length hvs).trans (valL_length ..)
        omega
      have hzs2 : PolysIn wld ((DE, oF) :: tl') (zs ++ [Value.ref DE]) (baseP lv mv n 0) := (hzs.mono (fun p hp => .tail _ (hsub p hp))).snoc ⟨DE, oF, rfl, loE, .head _, PF.mono (fun p hp => .tail _ hp)⟩
      have hVL' := hsub _ hVL
      clear F13 N13 hzs hVL hsub
      dsimp only
      k_steps
      refine Held.intro ?_
      refine exec_joinF F14 (LowJ wld lv mv n) ?_ ?_
      · refine wpAny_If ?_
        k_steps
        · rename_i hl2 hr4q
          refine Held.intro ?_
          refine slice_fromS (i := 1) F14 N14 (.head _) rfl rfl hzl rfl ?_ (by with_unfolding_all rfl) (by intro _; rfl)
          intro KB2 h15 F15 N15
          dsimp only
          k_steps
          refine Held.intro ?_
          refine slice_fromS (i := 1) F15 N15 (by walk_at "m mem") rfl rfl hvl rfl ?_ (by with_unfolding_all rfl) (by intro _; rfl)
          intro VL2 h16 F16 N16
          dsimp only
          k_steps
          rename_i FQ NQ
          refine JoinEnd.intro FQ NQ _ (fun _ h => h) ⟨KB2, 0, (zs ++ [Value.ref DE]).drop 1, VL2, vs.drop 1, 0, 1, ?_, ?_, by walk_at "m mem", by walk_at "m mem", intsDrop1 hvs, (polysDrop 1 hzs2).mono ?_⟩
          · rw [if_pos ⟨hl2, by omega⟩]
          · exact map_two (by rfl) (by rfl) fun z h1 h2 => by walk_at "m ifs"
          · exact fun p hp => .tail _ (.tail _ (.tail _ (.tail _ hp)))
        · refine JoinEnd.intro F14 N14 _ (fun _ h => h) ⟨KB, kz + 1, zs ++ [.ref DE], VL, vs, kv, 0, ?_, ?_, .head _, ?_, hvs, hzs2.mono ?_⟩
          · rw [if_neg (by omega)]
          · exact map_two (by rfl) (by rfl) fun z h1 h2 => by walk_at "m ifs"
          · exact .tail _ (.tail _ hVL')
          · exact fun p hp => .tail _ hp
        · refine JoinEnd.intro F14 N14 _ (fun _ h => h) ⟨KB, kz + 1, zs ++ [.ref DE], VL, vs, kv, 0, ?_, ?_, .head _, ?_, hvs, hzs2.mono ?_⟩
          · rw [if_neg (by omega)]
          · exact map_two (by rfl) (by rfl) fun z h1 h2 => by walk_at "m ifs"
          · exact .tail _ (.tail _ hVL')
          · exact fun p hp => .tail _ hp
      · rintro h15 tk15 m15 ns15 F15 N15 ⟨KB2, kz2, zs2, VL2, vs2, kv2, low, hlow, rfl, hKB2, hVL2, hvs2, hzs3⟩
        clear F14 N14 hvs hzs2 hVL' hzl hvl htne PF
        have hlow1 : low ≤ 1 := by rw [hlow]; split <;> omega
        have hlow' : ∀ _ : Unit, low = (if lv = 2 ∧ n = 4 then 1 else 0) := fun _ => hlow
        clear hlow
        have hzl2 : zs2.length = n - low := hzs3.length.trans (base_len (by omega))
        have hvl2 : vs2.length = n - low := (IntsAre.length hvs2).trans (by rw [List.length_drop, valL_length]; omega)
        dsimp only
        k_steps
        rename_i DU g1 lDU g2 FW NW
        refine Held.intro ?_
        refine len_listS NW (l := KB2) (vs := zs2) (by walk_at "m mem") rfl rfl (by omega) ?_
        intro tw tkw
        dsimp only
        k_steps
        refine Held.intro ?_
        refine for_rangeM (n := n - low) (news := (DU, W.listOf #[] 0) :: ns15) ?hk2 (by omega) rfl FW NW rfl rfl
          (LoopB wld lv mv n DU ns15) ?_ ?_ ?_
        case hk2 => rw [hzl2]
        · refine ⟨av, none, none, none, [], 0, ns15, ?_, rfl, .nil, fun p hp => hp, fun q hq => Nat.ne_of_lt (lDU q hq)⟩
          exact map_four (by rfl) (by rfl) (by rfl) (by rfl) fun z h1 h2 h3 h4 => by walk_at "m ifs"
        · rintro i tk₀ m₁ news₁ own h tk wr hi ⟨av', sv, ov, nv, us, ku, tl2, rfl, rfl, hus, hsub2, htD⟩ F5 N5 off5 hA5 ho5
          obtain ⟨tn, hget⟩ : ∃ t, vs2[n - low - 1 - i]? = some (.int (pws lv mv.toNat i) t) := intsGet hvs2 (by
            rw [List.getElem?_drop, show low + (n - low - 1 - i) = (n - 1) - i by omega]
            exact valL_get _ _ _ _ (by omega))
          have hKB3 := hsub2 _ hKB2
          have hVL3 := hsub2 _ hVL2
          clear FW NW
          dsimp only
          k_steps
          rename_i g0 DO g1 lDO loO z1 z2 ra usa g3 tka hia da g4 FO NO lda
          refine Held.intro ?_
          have hT2 : AllTup [(da, tupO [.int 1 tka, .int 1 (tka + 1)]), (ra, tupO usa)] := allTup_cons _ _ (allTup_cons _ _ allTup_nil)
          have hT2s : ∀ p ∈ [(da, tupO [.int 1 tka, .int 1 (tka + 1)]), (ra, tupO usa)], p ∈ (da, tupO [.int 1 tka, .int 1 (tka + 1)]) :: (ra, tupO usa) :: (DO, ({ cls := .type "dict", data := .dict #[] } : Obj)) :: (own ++ ((DU, ({ cls := .type "list", data := .seq (List.toArray us) ku } : Obj)) :: tl2)) := by
            walk_at "m lsub"
          have hTO := tups_ne NO (d := DO) (o := { cls := .type "dict", data := .dict #[] }) (by walk_at "m memr") (NT.type rfl (by decide)) hT2 hT2s
          have hTU := tups_ne NO (d := DU) (o := { cls := .type "list", data := .seq (List.toArray us) ku }) (by walk_at "m memr") (NT.type rfl (by decide)) hT2 hT2s
          have hTW2 := off_tups NO hA5 (by walk_at "m lsub") hT2 hT2s
          have hOU : DO ≠ DU := Nat.ne_of_gt (lDO (DU, _) (List.mem_append_right _ (.head _)))
          refine polyStores1 (rest := (da, tupO [.int 1 tka, .int 1 (tka + 1)]) :: (ra, tupO usa) :: (own ++ ((DU, ({ cls := .type "list", data := .seq (List.toArray us) ku } : Obj)) :: tl2))) (ns := (da, tupO [.int 1 tka, .int 1 (tka + 1)]) :: (ra, tupO usa) :: tl2) (by ktr_units) FO NO ?hs7 ?hne7 ?hns7 ⟨ra, usa, rfl, by walk_at "m mem", hia⟩ ⟨da, _, _, rfl, by walk_at "m mem"⟩ ?_
          case hs7 =>
            walk_at "m lsub"
          case hne7 =>
            exact all_cons (hTO _ (by walk_at "m mem")) (all_cons (hTO _ (by walk_at "m mem")) fun p hp => Nat.ne_of_lt (lDO p hp))
          case hns7 =>
            walk_at "m lsub"
          intro h9 tk9 oO F9 N9 PO
          have hup2 : upow (3 + r1 - 1 - (i : Int)) 1 n = upow ((n : Int) - 1 - (i : Int)) 1 n := by rw [hnk]
          rw [hup2] at PO hia
          clear NO FO hT2s
          dsimp only
          k_steps
          refine Held.intro ?_
          refine len_listS (by assumption) (l := VL2) (vs := vs2) (by walk_at "m mem") rfl rfl (by omega) ?_
          intro tw2 tkw2
          dsimp only
          k_steps
          refine Held.intro ?_
          refine item_listI (n - low - 1 - i) (by rw [hvl2]; omega) (by assumption) (by walk_at "m mem") rfl rfl hget (by omega) ?_
          dsimp only
          k_steps
          rename_i FI NI
          refine Held.intro ?_
          refine exec_joinF FI (fun mm mm' ns => mm' = mm ∧ ∃ o' tl', ns = (DO, o') :: (own ++ ((DU, ({ cls := .type "list", data := .seq (List.toArray us) ku } : Obj)) :: tl')) ∧ PolyObj wld tl' o' (dueP lv mv.toNat n i) ∧ (∀ p ∈ tl2, p ∈ tl') ∧ (∀ q ∈ tl', q.1 ≠ DU ∧ q.1 ≠ DO) ∧ Off wr tl') ?_ ?_
          · refine wpAny_If ?_
            k_steps
            · rename_i tkq hnv DV1 g5 l1 DZ0 g6 FZ NZ l2
              refine Held.intro ?_
              refine mul_tup FZ NZ (by walk_at "m mem") (by omega) (by omega) ?_
              intro DZ hZ FZ2 NZ2 lZ
              have hnn : (3 + r1).toNat = n := by omega
              have hT5 : AllTup [(DZ, tupO (List.replicate (3 + r1).toNat (.int 0 (tk + 1 + 1 + 1)))), (DZ0, tupO [.int 0 (tk + 1 + 1 + 1)]), (DV1, tupO [.int (0 - pws lv mv.toNat i) (tk + 1), .int 1 (tk + 1 + 1)]), (da, tupO [.int 1 tka, .int 1 (tka + 1)]), (ra, tupO usa)] := allTup_cons _ _ (allTup_cons _ _ (allTup_cons _ _ (allTup_cons _ _ (allTup_cons _ _ allTup_nil))))
              have hT5s : ∀ p ∈ [(DZ, tupO (List.replicate (3 + r1).toNat (.int 0 (tk + 1 + 1 + 1)))), (DZ0, tupO [.int 0 (tk + 1 + 1 + 1)]), (DV1, tupO [.int (0 - pws lv mv.toNat i) (tk + 1), .int 1 (tk + 1 + 1)]), (da, tupO [.int 1 tka, .int 1 (tka + 1)]), (ra, tupO usa)], p ∈ (DZ, tupO (List.replicate (3 + r1).toNat (.int 0 (tk + 1 + 1 + 1)))) :: (DZ0, tupO [.int 0 (tk + 1 + 1 + 1)]) :: (DV1, tupO [.int (0 - pws lv mv.toNat i) (tk + 1), .int 1 (tk + 1 + 1)]) :: (DO, oO) :: (da, tupO [.int 1 tka, .int 1 (tka + 1)]) :: (ra, tupO usa) :: (own ++ ((DU, ({ cls := .type "list", data := .seq (List.toArray us) ku } : Obj)) :: tl2)) := by
                walk_at "m lsub"
              have NZ3 : News _ _ _ ((DZ, tupO (List.replicate (3 + r1).toNat (.int 0 (tk + 1 + 1 + 1)))) :: (DZ0, tupO [.int 0 (tk + 1 + 1 + 1)]) :: (DV1, tupO [.int (0 - pws lv mv.toNat i) (tk + 1), .int 1 (tk + 1 + 1)]) :: (DO, oO) :: (da, tupO [.int 1 tka, .int 1 (tka + 1)]) :: (ra, tupO usa) :: (own ++ ((DU, ({ cls := .type "list", data := .seq (List.toArray us) ku } : Obj)) :: tl2))) := NZ2
              have h5O := tups_ne NZ3 (d := DO) (o := oO) (by walk_at "m memr") PO.nt hT5 hT5s
              have h5U := tups_ne NZ3 (d := DU) (o := { cls := .type "list", data := .seq (List.toArray us) ku }) (by walk_at "m memr") (NT.type rfl (by decide)) hT5 hT5s
              have h5W := off_tups NZ3 hA5 (by walk_at "m lsub") hT5 hT5s
              dsimp only
              k_steps
              refine Held.intro ?_
              refine set_poly (all := (DZ, tupO (List.replicate (3 + r1).toNat (.int 0 (tk + 1 + 1 + 1)))) :: (DZ0, tupO [.int 0 (tk + 1 + 1 + 1)]) :: (DV1, tupO [.int (0 - pws lv mv.toNat i) (tk + 1), .int 1 (tk + 1 + 1)]) :: (da, tupO [.int 1 tka, .int 1 (tka + 1)]) :: (ra, tupO usa) :: (own ++ ((DU, ({ cls := .type "list", data := .seq (List.toArray us) ku } : Obj)) :: tl2))) (ns := (DZ, tupO (List.replicate (3 + r1).toNat (.int 0 (tk + 1 + 1 + 1)))) :: (DZ0, tupO [.int 0 (tk + 1 + 1 + 1)]) :: (DV1, tupO [.int (0 - pws lv mv.toNat i) (tk + 1), .int 1 (tk + 1 + 1)]) :: (da, tupO [.int 1 tka, .int 1 (tka + 1)]) :: (ra, tupO usa) :: tl2) (by ktr_units) FZ2 (News.sub NZ2 ?hs8) ?hne8 ?hsb8 (PO.mono ?hm8) ⟨DZ, List.replicate (3 + r1).toNat (.int 0 (tk + 1 + 1 + 1)), rfl, by walk_at "m mem", by rw [hnn]; exact ints_rep _ n⟩ ⟨DV1, _, _, rfl, by walk_at "m mem"⟩ (by simp) ?_
              case hs8 =>
                walk_at "m lsub"
              case hne8 =>
                exact all_cons (h5O _ (by walk_at "m mem")) (all_cons (h5O _ (by walk_at "m mem")) (all_cons (h5O _ (by walk_at "m mem")) (all_cons (h5O _ (by walk_at "m mem")) (all_cons (h5O _ (by walk_at "m mem")) fun p hp => Nat.ne_of_lt (lDO p hp)))))
              case hsb8 =>
                walk_at "m lsub"
              case hm8 =>
                walk_at "m lsub"
              intro hq tkqq oF FQ NQ PF
              rw [gp_set (upow_ne_zero (by omega) (by omega)) hnv] at PF
              dsimp only
              k_steps
              refine JoinEnd.intro FQ NQ ((DO, oF) :: (own ++ ((DU, ({ cls := .type "list", data := .seq (List.toArray us) ku } : Obj)) :: (DZ, tupO (List.replicate (3 + r1).toNat (.int 0 (tk + 1 + 1 + 1)))) :: (DZ0, tupO [.int 0 (tk + 1 + 1 + 1)]) :: (DV1, tupO [.int (0 - pws lv mv.toNat i) (tk + 1), .int 1 (tk + 1 + 1)]) :: (da, tupO [.int 1 tka, .int 1 (tka + 1)]) :: (ra, tupO usa) :: tl2))) ?_ ⟨rfl, oF, _, rfl, PF, ?_, ?_, ?_⟩
              · walk_at "m lsub"
              · walk_at "m lsub"
              · exact all_cons ⟨h5U _ (by walk_at "m mem"), h5O _ (by walk_at "m mem")⟩ (all_cons ⟨h5U _ (by walk_at "m mem"), h5O _ (by walk_at "m mem")⟩ (all_cons ⟨h5U _ (by walk_at "m mem"), h5O _ (by walk_at "m mem")⟩ (all_cons ⟨h5U _ (by walk_at "m mem"), h5O _ (by walk_at "m mem")⟩ (all_cons ⟨h5U _ (by walk_at "m mem"), h5O _ (by walk_at "m mem")⟩ (fun q h => ⟨htD q h, Nat.ne_of_lt (lDO q (List.mem_append_right _ (.tail _ h)))⟩)))))
              · exact all_cons (h5W _ (by walk_at "m mem")) (all_cons (h5W _ (by walk_at "m mem")) (all_cons (h5W _ (by walk_at "m mem")) (all_cons (h5W _ (by walk_at "m mem")) (all_cons (h5W _ (by walk_at "m mem")) (fun q h => off5 q (.tail _ h))))))
            · rename_i tkq hnv
              rw [show [(upow ((n : Int) - 1 - (i : Int)) 1 n, (1 : Int))] = dueP lv mv.toNat n i from gp_zero hnv] at PO
              refine JoinEnd.intro FI NI ((DO, oO) :: (own ++ ((DU, ({ cls := .type "list", data := .seq (List.toArray us) ku } : Obj)) :: (da, tupO [.int 1 tka, .int 1 (tka + 1)]) :: (ra, tupO usa) :: tl2))) ?_ ⟨rfl, oO, _, rfl, PO, ?_, ?_, ?_⟩
              · walk_at "m lsub"
              · walk_at "m lsub"
              · exact all_cons ⟨hTU _ (by walk_at "m mem"), hTO _ (by walk_at "m mem")⟩ (all_cons ⟨hTU _ (by walk_at "m mem"), hTO _ (by walk_at "m mem")⟩ (fun q h => ⟨htD q h, Nat.ne_of_lt (lDO q (List.mem_append_right _ (.tail _ h)))⟩))
              · exact all_cons (hTW2 _ (by walk_at "m mem")) (all_cons (hTW2 _ (by walk_at "m mem")) fun q h => off5 q (.tail _ h))
          · rintro h13 tk13 m13 ns13 F13 N13 ⟨rfl, oF, tl3, rfl, PF, hsub3, htne3, hTW3⟩
            clear FI NI
            dsimp only
            k_steps
            refine Held.intro ?_
            refine append_listS (D := DU) (vs := us) (n := ku) (rest := own ++ ((DO, oF) :: tl3)) F13 N13 ?hs9 ?hap9 ?hz9 ?_
            case hs9 =>
              walk_at "m lsub"
            case hap9 =>
              exact all_app (fun p h e => off5 _ (.head _) (by rw [← e]; exact ho5 p h)) (all_cons hOU fun p h => (htne3 p h).1)
            case hz9 =>
              have := hus.length
              rw [List.length_map, List.length_range] at this
              omega
            intro h14 F14 N14
            clear F13 N13
            dsimp only
            k_steps
            obtain ⟨mm, hmm⟩ := Fr.mname F14
            refine ForEnd.next F14 N14 ((DU, ({ cls := .type "list", data := .seq (List.toArray (us ++ [Value.ref DO])) (ku + 1) } : Obj)) :: (DO, oF) :: tl3) ?_ ?_ ⟨mm (Str.ofString "at"), mm (Str.ofString "spot"), mm (Str.ofString "one"), mm (Str.ofString "number"), us ++ [Value.ref DO], ku + 1, (DO, oF) :: tl3, ?_, rfl, ?_, fun p hp => .tail _ (hsub3 _ (hsub2 _ hp)), ?_⟩
            · walk_at "m lsub"
            · exact all_cons (fun hb => off5 _ (.head _) hb) (all_cons (fun hb => let ⟨_, hob, _⟩ := hA5 _ hb; Nat.lt_irrefl _ (lDO _ (List.mem_append_left _ hob))) hTW3)
            · subst hmm
              exact map_four (by rfl) (by rfl) (by rfl) (by rfl) fun z h1 h2 h3 h4 => by walk_at "m ifs"
            · rw [List.range_succ, List.map_append]
              exact (hus.mono (fun p hp => .tail _ (hsub3 _ hp))).snoc ⟨DO, oF, rfl, loO, .head _, PF.mono (fun p hp => .tail _ hp)⟩
            · intro q hq
              rcases List.mem_cons.mp hq with h | h
              · subst h; exact hOU
              · exact (htne3 q h).1
        · rintro h21 tk21 m21 news21 F21 N21 ⟨av', sv, ov, nv, us, ku, tl2, rfl, rfl, hus, hsub2, htD⟩
          obtain ⟨t, rfl⟩ : ∃ t : Nat, r4 = (t : Int) := ⟨r4.toNat, by omega⟩
          have hKB3 := hsub2 _ hKB2
          have hcfg := plain (w := wld) (lv := lv) (mv := mv) (n := n) (t := t) (low := low) hgood' (hn34' ()) (by omega) (hlow' ())
          clear FW NW
          dsimp only
          k_steps
          refine Held.intro ?_
          refine slice_fromS (i := t) F21 N21 (.tail _ hKB3) rfl rfl (by omega) rfl ?_ (by with_unfolding_all rfl) (by intro _; rfl)
          intro D1 h22 F22 N22
          clear F21 N21
          dsimp only
          k_steps
          rename_i DT g1 FT1 NT1 DR g2 FR NR lDR
          refine Held.intro ?_
          obtain ⟨c1, c2, c3, p, c4, c5⟩ := hcfg
          have hbl : ((baseP lv mv n low).drop t ++ (baseP lv mv n low).take t).length = n - low := by
            rw [List.length_append, Nat.add_comm, ← List.length_append, List.take_append_drop, base_len (by omega)]
          have hzr := polysApp (polysTake t hzs3) (polysDrop t hzs3)
          refine' told_use (reduced_form_ok wld _ _ n DR _ _ _ _ _ (.head _) rfl rfl (hzr.mono fun p hp => .tail _ (.tail _ (.tail _ (.tail _ (hsub2 p hp))))) c1 (by omega) (by omega) (by omega) c2 c3 p c4 c5) ?zqk1 ?zqk2 ?zqk3 NR ?zqk5 ?zqkK ?zqkd ?zqku ?_
          walk_at "m args"
          rintro v tl9 h9 tk9 F9 N9 ⟨d9, k9, zs9, rfl, hm9, hz9⟩
          clear FR NR FT1 NT1 F22 N22
          dsimp only
          k_steps
          refine Held.intro ?_
          refine eq_polys (w := wld) N9 hm9 rfl rfl (List.mem_append_right _ (.tail _ (.tail _ (.tail _ (.head _))))) rfl rfl hz9 (hus.mono fun p hp => List.mem_append_right _ (.tail _ (.tail _ (.tail _ (.tail _ hp))))) (by first | ktr_units | exact Nat.le_of_ble_eq_true rfl | decide) ?_
          (try dsimp only)
          k_steps)
end
theorem lines_49 : True := by
  k_with_none
  k_with "X:m sub" => (intro p hp; (repeat (first | exact hp | refine List.Mem.tail _ ?_ | refine List.mem_append_right _ ?_)))
  k_with "X:m mem" => (repeat (first | assumption | exact List.Mem.head _ | refine List.Mem.tail _ ?_ | refine List.mem_append_right _ ?_))
  k_with "X:m rel" => first | assumption | exact RatIn.mono (by assumption) (by walk_at "m sub") | exact ⟨_, _, _, rfl, by walk_at "m mem"⟩
  k_with "X:m args" => (
    (case zqk1 => k_asm)
    (case zqk2 => k_asm)
    (case zqk3 => k_asm)
    (case zqk5 => k_asm)
    (case zqkK => first | exact rfl | assumption)
    (case zqkd => ktr_room)
    (case zqku => ktr_units))
  k_with "X:m tup" => first | assumption | exact TupIn.mono (by assumption) (by walk_at "m sub") | exact ⟨_, _, rfl, by walk_at "m mem", by assumption⟩
  k_with "X:compareOp Eq ref ref" => (k_here; (with_reducible show wpAny _ _ (compareOp _ (Value.ref _) (Value.ref 71)) _ _ _); k_dflt (
    refine' eq_r0 ?zqhu ?zqhF ?zqhN ?zqhX ?zqhx ?zqhb ?_
    (case zqhN => k_asm)
    (case zqhx => walk_at "m rel")
    (case zqhu => ktr_units)
    (case zqhF => k_asm)
    (case zqhX => k_asm)
    (case zqhb => first | exact decide_eq_false (by assumption) | exact decide_eq_true (by assumption) | rfl)
    (try dsimp only)
    (try k_fold)))
  k_with "X:compareOp In ref ref" => (k_here; k_dflt (
    refine' in_polyB ?zqhu ?zqhN ?zqhd ?zqhk ?zqhc ?_
    (case zqhN => k_asm)
    (case zqhd => walk_at "m poly")
    (case zqhk => walk_at "m tup")
    (case zqhu => ktr_units)
    (case zqhc => assumption)
    (try simp only [Option.isSome_some, Option.isSome_none])
    (try k_fold)))
  k_with "X:subscriptTail" => (k_here; (with_reducible show wpAny _ _ (subscriptTail _ _ (Value.ref _) (Value.ref _)) _ _ _); k_dflt (
    refine' get_polyS ?zqhu ?zqhN ?zqhd ?zqhs1 ?zqhk ?zqhs2 ?zqhc ?_ (by rfl) (by intro _; rfl)
    (case zqhN => k_asm)
    (case zqhd => assumption)
    (case zqhs1 => walk_at "m sub")
    (case zqhk => assumption)
    (case zqhs2 => walk_at "m sub")
    (case zqhu => ktr_units)
    (case zqhc => assumption)
    intro _ _ _ _
    (try dsimp only)
    (try k_fold)))
  k_with "X:getMethod ref" => (k_here; (with_reducible show wpAny _ _ (getMethod (Value.ref _) (PySem.Str.ofString "pop") _) _ _ _); k_dflt (
    refine' pop_method ?zqhN ?zqhd ?_
    (case zqhN => k_asm)
    (case zqhd => walk_at "m poly")
    (try k_fold)))
  k_with "X:call builtin:dict.pop" => fail "by hand"
  k_with "X:eval DictComp" => (k_here; k_dflt (refine dc_eval (by k_asm) (by with_unfolding_all rfl) (by decide) (by rfl) (by decide) (by rfl) ?_))
  k_with "X:call type:dict" => (k_here; (with_reducible show wpAny _ _ (call (Value.type "dict") [Value.ref _]) _ _ _); k_dflt (
    refine' copy_poly ?zqhF ?zqhN ?zqhB ?zqhd ?zqhP ?zqhH ?zqhz ?_
    (case zqhF => k_asm)
    (case zqhN => k_asm)
    (case zqhd => walk_at "m poly")
    (case zqhB => exact big_of (by k_asm))
    (case zqhP => assumption)
    (case zqhH => assumption)
    (case zqhz => first | assumption | omega)
    intro _ _ _ _ _ _ _ _
    (try dsimp only)
    (try k_fold)))
  k_with "X:exec For Name Name cons nil" => (k_here; (with_unfolding_all refine' For_turns (by assumption) ?_); k_whole)
  k_with "X:call ref" => (k_here; (with_reducible show wpAny _ _ (call (Value.ref 135) _) _ _ _); k_dflt (
    refine' toldM_use (addterm_ok _ _ _ _ _ _ _ _ _ ?zqlo ?zqhne ?zqPO ?zqhx ?zqhy ?zqhc ?zqhz) ?zqk1 ?zqk2 ?zqk3 ?zqk4 ?zqhf ?zqk5 ?zqkK ?zqkd ?zqku ?_
    (case zqk4 => assumption)
    (case zqlo => assumption)
    (case zqhne => assumption)
    (case zqhf => assumption)
    (case zqPO => assumption)
    (case zqhx => walk_at "m tup")
    (case zqhy => walk_at "m rel")
    (case zqhc => assumption)
    (case zqhz => first | assumption | omega)
    walk_at "m args"
    intro _ _ _ _ _ _ _ _
    (try dsimp only)
    (try k_fold)))
  k_with "X:m poly" => first | assumption | exact PolyIn.mono (by assumption) (by walk_at "m sub") | exact ⟨_, _, rfl, by assumption, by walk_at "m mem", PolyObj.mono (by assumption) (by walk_at "m sub")⟩
  k_with "X:compareOp Gt ref ref" => (k_here; k_dflt (
    refine' gt_tupS ?zqhu ?zqhN ?zqhx ?zqh1 ?zqhy ?zqh2 ?zqhr ?_
    (case zqhN => k_asm)
    (case zqhx => assumption)
    (case zqh1 => walk_at "m sub")
    (case zqhy => assumption)
    (case zqh2 => walk_at "m sub")
    (case zqhu => ktr_units)
    (case zqhr => assumption)
    (try dsimp only)
    (try k_fold)))
  k_with "X:compareOp NotEq ref ref" => (k_here; k_dflt (
    refine' ne_tupS ?zqhu ?zqhN ?zqhx ?zqh1 ?zqhy ?zqh2 ?zqhr ?_
    (case zqhN => k_asm)
    (case zqhx => assumption)
    (case zqh1 => walk_at "m sub")
    (case zqhy => assumption)
    (case zqh2 => walk_at "m sub")
    (case zqhu => ktr_units)
    (case zqhr => assumption)
    (try dsimp only)
    (try k_fold)))
  k_with "X:exec For Tuple Name cons nil" => (k_here; (with_unfolding_all refine' For_turns (by assumption) ?_); k_whole)
  k_with "X:exec For Tuple Call cons nil" => (k_here; (with_unfolding_all refine' For_turns (by assumption) ?_); k_whole)
  k_with "X:m lsub" => (repeat' (first | exact subs_nil | refine subs_cons (by walk_at "m memr") ?_ | refine subs_app ?_ ?_ | walk_at "m subo"))
  k_with "X:m memr" => first | assumption | exact List.Mem.head _ | (refine List.Mem.tail _ ?_; walk_at "m memr"; done) | (refine List.mem_append_right _ ?_; walk_at "m memr"; done) | (refine List.mem_append_left _ ?_; walk_at "m memr"; done)
  k_with "X:m subo" => first | exact subs_refl | assumption | (refine subs_tl ?_; walk_at "m subo"; done) | (refine subs_inr ?_; walk_at "m subo"; done) | (refine subs_inl ?_; walk_at "m subo"; done)
  k_with "X:m ifs" => (repeat (first | exact rfl | refine (if_neg (by assumption)).trans ?_))
  k_with "X:call builtin:len" => (k_here; (with_reducible show wpAny _ _ (call (Value.builtin _) [Value.ref _]) _ _ _); k_dflt (
    refine' len_poly ?zqhN ?zqhd ?zqhz ?_
    (case zqhN => k_asm)
    (case zqhd => walk_at "m poly")
    (case zqhz => first | assumption | omega)
    intro _
    (try dsimp only)
    (try k_fold)))
  k_with "X:call builtin:list.append" => (k_here; (with_reducible show wpAny _ _ (call (Value.builtin _) [Value.ref _, _]) _ _ _); refine Held.out ?_)
  k_with "X:subscriptTail Name Slice ref ref" => (k_here; (with_reducible show wpAny _ _ (subscriptTail _ (PySem.Expr.Slice none (some _) none _) (Value.ref _) (Value.ref _)) _ _ _); k_dflt (
    refine' slice_uptoS ?zqF ?zqN ?zqm ?zqc ?zqd ?zqz ?_ ?zqs ?zqt
    (case zqF => k_asm)
    (case zqN => k_asm)
    (case zqm => walk_at "m mem")
    (case zqc => rfl)
    (case zqd => rfl)
    (case zqz => first | assumption | omega)
    (case zqs => with_unfolding_all rfl)
    (case zqt => (intro _; rfl))
    intro _ _ _ _
    (try dsimp only)
    (try k_fold)))
  k_with "X:subscriptTail Name Slice ref ref" => (k_here; (with_reducible show wpAny _ _ (subscriptTail _ (PySem.Expr.Slice (some _) none none _) (Value.ref _) (Value.ref _)) _ _ _); k_dflt (
    refine' slice_fromS1 ?zqF ?zqN ?zqm ?zqc ?zqd ?zqz ?_ ?zqs ?zqt
    (case zqF => k_asm)
    (case zqN => k_asm)
    (case zqm => walk_at "m mem")
    (case zqc => rfl)
    (case zqd => rfl)
    (case zqz => first | assumption | omega)
    (case zqs => with_unfolding_all rfl)
    (case zqt => (intro _; rfl))
    intro _ _ _ _
    (try dsimp only)
    (try k_fold)))
  k_with "X:binaryOp Add ref ref" => (k_here; (with_reducible show wpAny _ _ (binaryOp _ (Value.ref _) (Value.ref _)) _ _ _); k_dflt (
    refine' add_listS ?zqF ?zqN ?zqm ?zqc ?zqd ?zqm2 ?zqc2 ?zqd2 ?zqz ?_
    (case zqF => k_asm)
    (case zqN => k_asm)
    (case zqm => walk_at "m mem")
    (case zqc => rfl)
    (case zqd => rfl)
    (case zqm2 => walk_at "m mem")
    (case zqc2 => rfl)
    (case zqd2 => rfl)
    (case zqz => first | assumption | (simp only [List.length_take, List.length_drop, List.length_cons, List.length_nil]; omega))
    intro _ _ _ _
    (try dsimp only)
    (try k_fold)))
  k_with "X:subscriptTail" => (k_here; (with_reducible show wpAny _ _ (subscriptTail _ _ (Value.ref _) (Value.int (Nat.cast _) _)) _ _ _); k_dflt (
    refine' item_listS ?zqN ?zqm ?zqc ?zqd ?zqx ?zqi ?_ ?zqs
    (case zqN => k_asm)
    (case zqm => walk_at "m mem")
    (case zqc => first | rfl | assumption)
    (case zqd => first | rfl | assumption)
    (case zqx => assumption)
    (case zqi => omega)
    (case zqs => with_unfolding_all rfl)
    (try dsimp only)
    (try k_fold)))
  k_with "X:call type:range" => (k_here; refine Held.out ?_)
  k_with "X:call ref" => (k_here; (with_reducible show wpAny _ _ (call (Value.ref 217) _) _ _ _); k_dflt (
    refine' told_tup (law_powers_ok _ _ _ _ _ ?zqhk ?zqhn _ _ _ _) ?zqk1 ?zqk2 ?zqk3 ?zqk4 ?zqk5 ?zqkK ?zqkd ?zqku ?_
    (case zqk4 => k_asm)
    (case zqhk => first | assumption | omega)
    (case zqhn => first | assumption | omega)
    walk_at "m args"
    intro _ _ _ _ _ _ _
    (try dsimp only)
    (try k_fold)))
  trivial

theorem lines_50 : True := by
  k_with_none
  trivial
end Mine
theorem PySem.Challenge.cw_rh0028_01_holds : PySem.Challenge.rw_rh0028_01.Holds :=
  Mine.law_holds
