import PyProof.Rows.All
import Wide.All
import OpenK.AllK
import Wide.FinOn
import PySem.Challenge.RW_pf0325_01
open PySem PySem.W PyProof.Rows
set_option Elab.async false
set_option maxRecDepth 100000
set_option rowWalk.seconds 0
set_option linter.all false
namespace Mine
section H
set_option maxHeartbeats 8000000 in
open_top hd for PySem.Challenge.rw_pf0325_01

end H
section B
noncomputable abbrev Tp (mean : ExcName → Option Value) (mg mb : Str → Option Value) (h : Heap) : Prop :=
  Top hd.view_39 (looseW hd.view_39 [Str.ofString "sum16", Str.ofString "check_of"]) mean mg mb h

noncomputable abbrev Led := List (Addr × Obj)

/- what a call of the text's def f with the arguments vs gives back -/
noncomputable abbrev Spec (w : World) (mean : ExcName → Option Value) (mg mb : Str → Option Value) (f : Addr) (dN uN : Nat) (news : Led) (vs : List Value) (R : Value → Led → Prop) : Prop :=
  ∀ (dp un : Nat) (gd : Option (List Code)) (cn : Str) (cs : Scope) (a : Addr) (ccd : Value) (cl : List (Str × Addr)) (outer : List Env) (A₀ : Around) (base h₀ : Heap) (L : Addr) (m : Str → Option Value) (s : Shared) (Q E : Value → Shared → Prop),
    Below A₀ base outer h₀ → Fr h₀ L s.heap m → (hd.heap_39 w.params).In h₀ → News h₀ L s.heap news → Tp mean mg mb h₀ → cs.kind = .function → dp + dN < recursionLimit → un + uN < cLine →
    (∀ (v : Value) (tl : Led) (h' : Heap) (tk' : Nat), R v tl → Fr h₀ L h' m → News h₀ L h' (tl ++ news) → Q v { s with heap := h', toks := tk' }) →
    wpAny (model PySem.Challenge.rw_pf0325_01.row.prog w) (ktrTop dp un gd cn cs L a ccd cl outer) (call (.ref f) vs) Q E s

/- room for a call: a bound that is at hand, and figures -/
theorem roomA {d a k N lim : Nat} (h : d + N < lim) (e : Nat.ble (a + k) N = true) : d + a + k < lim := by
  rw [Nat.add_assoc]; exact Nat.lt_of_le_of_lt (Nat.add_le_add_left (Nat.le_of_ble_eq_true e) d) h
noncomputable def RInt (x : Int) (v : Value) (tl : Led) : Prop := tl = [] ∧ ∃ t, v = .int x t
noncomputable def RBool (x : Bool) (v : Value) (tl : Led) : Prop := tl = [] ∧ v = .bool x
noncomputable def RBytes (ks : List Int) (v : Value) (tl : Led) : Prop := tl = [] ∧ ∃ b t, v = .bytes b t ∧ KBw.bInts b = ks
noncomputable def RList (ns : List Int) (v : Value) (tl : Led) : Prop := ∃ l vs n, tl = [(l, listOf vs.toArray n)] ∧ v = .ref l ∧ IntsAre vs ns

section
variable {h₀ h' : Heap} {L : Addr} {m : Str → Option Value} {news news' : Led} {s : Shared} {Q : Value → Shared → Prop} {t : Tok} {tk' : Nat}
theorem endI {x y : Int} (hret : ∀ (v : Value) (tl : Led) (h' : Heap) (tk' : Nat), RInt x v tl → Fr h₀ L h' m → News h₀ L h' (tl ++ news) → Q v { s with heap := h', toks := tk' })
    (e : y = x) (F : Fr h₀ L h' m) (N : News h₀ L h' news') (hs : ∀ p ∈ news, p ∈ news') : Q (.int y t) { s with heap := h', toks := tk' } := by
  subst e; exact hret _ [] h' tk' ⟨rfl, _, rfl⟩ F fun p hp => N p (hs p hp)
theorem endB {x y : Bool} (hret : ∀ (v : Value) (tl : Led) (h' : Heap) (tk' : Nat), RBool x v tl → Fr h₀ L h' m → News h₀ L h' (tl ++ news) → Q v { s with heap := h', toks := tk' })
    (e : y = x) (F : Fr h₀ L h' m) (N : News h₀ L h' news') (hs : ∀ p ∈ news, p ∈ news') : Q (.bool y) { s with heap := h', toks := tk' } := by
  subst e; exact hret _ [] h' tk' ⟨rfl, rfl⟩ F fun p hp => N p (hs p hp)
theorem endY {ks : List Int} {b : Array UInt8} (hret : ∀ (v : Value) (tl : Led) (h' : Heap) (tk' : Nat), RBytes ks v tl → Fr h₀ L h' m → News h₀ L h' (tl ++ news) → Q v { s with heap := h', toks := tk' })
    (e : KBw.bInts b = ks) (F : Fr h₀ L h' m) (N : News h₀ L h' news') (hs : ∀ p ∈ news, p ∈ news') : Q (.bytes b t) { s with heap := h', toks := tk' } :=
  hret _ [] h' tk' ⟨rfl, _, _, rfl, e⟩ F fun p hp => N p (hs p hp)
theorem endL {ns : List Int} {vs : List Value} {l : Addr} {n : Nat} (hret : ∀ (v : Value) (tl : Led) (h' : Heap) (tk' : Nat), RList ns v tl → Fr h₀ L h' m → News h₀ L h' (tl ++ news) → Q v { s with heap := h', toks := tk' })
    (e : IntsAre vs ns) (F : Fr h₀ L h' m) (N : News h₀ L h' news') (hl : (l, listOf vs.toArray n) ∈ news') (hs : ∀ p ∈ news, p ∈ news') : Q (.ref l) { s with heap := h', toks := tk' } :=
  hret _ [(l, listOf vs.toArray n)] h' tk' ⟨_, _, _, rfl, rfl, e⟩ F fun p hp => by
    rcases List.mem_cons.mp hp with rfl | hp
    · exact N _ hl
    · exact N p (hs p hp)
theorem retI {x : Int} (k : ∀ (t : Tok) (h' : Heap) (tk' : Nat), Fr h₀ L h' m → News h₀ L h' news → Q (.int x t) { s with heap := h', toks := tk' }) :
    ∀ (v : Value) (tl : Led) (h' : Heap) (tk' : Nat), RInt x v tl → Fr h₀ L h' m → News h₀ L h' (tl ++ news) → Q v { s with heap := h', toks := tk' } := by
  rintro v tl h' tk' ⟨rfl, t, rfl⟩ F N; exact k t h' tk' F N
theorem retI.aux {x : Int} (hret : ∀ (v : Value) (tl : Led) (h' : Heap) (tk' : Nat), RInt x v tl → Fr h₀ L h' m → News h₀ L h' (tl ++ news) → Q v { s with heap := h', toks := tk' }) :
    ∀ (t : Tok) (h' : Heap) (tk' : Nat), Fr h₀ L h' m → News h₀ L h' news → Q (.int x t) { s with heap := h', toks := tk' } := fun t h' tk' F N => hret _ [] h' tk' ⟨rfl, t, rfl⟩ F N
theorem retB {x : Bool} (k : ∀ (h' : Heap) (tk' : Nat), Fr h₀ L h' m → News h₀ L h' news → Q (.bool x) { s with heap := h', toks := tk' }) :
    ∀ (v : Value) (tl : Led) (h' : Heap) (tk' : Nat), RBool x v tl → Fr h₀ L h' m → News h₀ L h' (tl ++ news) → Q v { s with heap := h', toks := tk' } := by
  rintro v tl h' tk' ⟨rfl, rfl⟩ F N; exact k h' tk' F N
theorem retY {ks : List Int} (k : ∀ (b : Array UInt8) (t : Tok) (h' : Heap) (tk' : Nat), KBw.bInts b = ks → Fr h₀ L h' m → News h₀ L h' news → Q (.bytes b t) { s with heap := h', toks := tk' }) :
    ∀ (v : Value) (tl : Led) (h' : Heap) (tk' : Nat), RBytes ks v tl → Fr h₀ L h' m → News h₀ L h' (tl ++ news) → Q v { s with heap := h', toks := tk' } := by
  rintro v tl h' tk' ⟨rfl, b, t, rfl, hb⟩ F N; exact k b t h' tk' hb F N
end

theorem Spec.use {w : World} {mean : ExcName → Option Value} {mg mb : Str → Option Value} {f : Addr} {dN uN : Nat} {news : Led} {vs : List Value} {R : Value → Led → Prop}
    {dp un : Nat} {gd : Option (List Code)} {cn : Str} {cs : Scope} {a : Addr} {ccd : Value} {cl : List (Str × Addr)} {outer : List Env} {A₀ : Around} {base h₀ : Heap} {L : Addr} {m : Str → Option Value} {s : Shared} {Q E : Value → Shared → Prop}
    (B : Below A₀ base outer h₀) (F : Fr h₀ L s.heap m) (X : (hd.heap_39 w.params).In h₀) (N : News h₀ L s.heap news) (T : Tp mean mg mb h₀) (hk : cs.kind = .function)
    (C : Spec w mean mg mb f dN uN news vs R) (hd : dp + dN < recursionLimit) (hu : un + uN < cLine)
    (ret : ∀ (v : Value) (tl : Led) (h' : Heap) (tk' : Nat), R v tl → Fr h₀ L h' m → News h₀ L h' (tl ++ news) → Q v { s with heap := h', toks := tk' }) :
    wpAny (model PySem.Challenge.rw_pf0325_01.row.prog w) (ktrTop dp un gd cn cs L a ccd cl outer) (call (.ref f) vs) Q E s :=
  C dp un gd cn cs a ccd cl outer A₀ base h₀ L m s Q E B F X N T hk hd hu ret

theorem newsCons {h₀ h : Heap} {L : Addr} {news : Led} {p : Addr × Obj} (N : News h₀ L h news) (hp : p ∈ news) : News h₀ L h (p :: news) := fun q hq => by
  rcases List.mem_cons.mp hq with rfl | hq
  · exact N _ hp
  · exact N q hq

/- the same, for a def that is handed the script's list too -/
noncomputable abbrev SpecS (w : World) (mean : ExcName → Option Value) (mg mb : Str → Option Value) (ls : Addr) (vss : List Value) (f : Addr) (dN uN : Nat) (news : Led) (vs : List Value) (R : Value → Led → Prop) : Prop :=
  ∀ (dp un : Nat) (gd : Option (List Code)) (cn : Str) (cs : Scope) (a : Addr) (ccd : Value) (cl : List (Str × Addr)) (outer : List Env) (A₀ : Around) (base h₀ : Heap) (L : Addr) (m : Str → Option Value) (s : Shared) (Q E : Value → Shared → Prop),
    Below A₀ base outer h₀ → Fr h₀ L s.heap m → (hd.heap_39 w.params).In h₀ → News h₀ L s.heap news → Tp mean mg mb h₀ → cs.kind = .function → base.IsList ls vss.toArray → dp + dN < recursionLimit → un + uN < cLine →
    (∀ (v : Value) (tl : Led) (h' : Heap) (tk' : Nat), R v tl → Fr h₀ L h' m → News h₀ L h' (tl ++ news) → Q v { s with heap := h', toks := tk' }) →
    wpAny (model PySem.Challenge.rw_pf0325_01.row.prog w) (ktrTop dp un gd cn cs L a ccd cl outer) (call (.ref f) vs) Q E s
theorem SpecS.use {w : World} {mean : ExcName → Option Value} {mg mb : Str → Option Value} {ls : Addr} {vss : List Value} {f : Addr} {dN uN : Nat} {news : Led} {vs : List Value} {R : Value → Led → Prop}
    {dp un : Nat} {gd : Option (List Code)} {cn : Str} {cs : Scope} {a : Addr} {ccd : Value} {cl : List (Str × Addr)} {outer : List Env} {A₀ : Around} {base h₀ : Heap} {L : Addr} {m : Str → Option Value} {s : Shared} {Q E : Value → Shared → Prop}
    (B : Below A₀ base outer h₀) (F : Fr h₀ L s.heap m) (X : (hd.heap_39 w.params).In h₀) (N : News h₀ L s.heap news) (T : Tp mean mg mb h₀) (hk : cs.kind = .function) (hS : base.IsList ls vss.toArray)
    (C : SpecS w mean mg mb ls vss f dN uN news vs R) (hd : dp + dN < recursionLimit) (hu : un + uN < cLine)
    (ret : ∀ (v : Value) (tl : Led) (h' : Heap) (tk' : Nat), R v tl → Fr h₀ L h' m → News h₀ L h' (tl ++ news) → Q v { s with heap := h', toks := tk' }) :
    wpAny (model PySem.Challenge.rw_pf0325_01.row.prog w) (ktrTop dp un gd cn cs L a ccd cl outer) (call (.ref f) vs) Q E s :=
  C dp un gd cn cs a ccd cl outer A₀ base h₀ L m s Q E B F X N T hk hS hd hu ret
/- the state behind a test whose ways meet -/
noncomputable def JoinAt (h₀ : Heap) (L : Addr) (m : Str → Option Value) (news : Led) (s s' : Shared) : Prop := ∃ h' tk', s' = { s with heap := h', toks := tk' } ∧ Fr h₀ L h' m ∧ News h₀ L h' news
noncomputable def FalseAt (h₀ : Heap) (L : Addr) (m : Str → Option Value) (news : Led) (s : Shared) (b : Bool) (s' : Shared) : Prop := b = false ∧ JoinAt h₀ L m news s s'
noncomputable def DecAt (P : Prop) (h₀ : Heap) (L : Addr) (m : Str → Option Value) (news : Led) (s : Shared) (b : Bool) (s' : Shared) : Prop := (b = true ↔ P) ∧ JoinAt h₀ L m news s s'
section
variable {M : Model} {A : Around} {E : Value → Shared → Prop} {s : Shared} {h₀ : Heap} {L : Addr} {m : Str → Option Value} {news news' : Led} {test : PySem.Expr} {body orelse : List Stmt} {pos : PySem.Pos} {env : Env} {Q : Flow → Shared → Prop}
/- an if whose test is false on each of its ways: what follows is walked once -/
theorem If_false (F : Fr h₀ L s.heap m) (N : News h₀ L s.heap news) (c : wpAny M A (isTrue test env (eval test env)) (FalseAt h₀ L m news s) E s)
    (k : ∀ (h' : Heap) (tk' : Nat), Fr h₀ L h' m → News h₀ L h' news → wpAny M A (execs orelse env) Q E { s with heap := h', toks := tk' }) : wpAny M A (exec (.If test body orelse pos) env) Q E s :=
  wpAny_If (wpAny_mono c (fun b s' h => by obtain ⟨rfl, h', tk', rfl, F', N'⟩ := h; exact k h' tk' F' N') (fun _ _ h => h))
/- an if whose test is P on each of its ways: its two arms are walked once -/
theorem If_dec {P : Prop} (F : Fr h₀ L s.heap m) (N : News h₀ L s.heap news) (c : wpAny M A (isTrue test env (eval test env)) (DecAt P h₀ L m news s) E s)
    (k1 : P → ∀ (h' : Heap) (tk' : Nat), Fr h₀ L h' m → News h₀ L h' news → wpAny M A (execs body env) Q E { s with heap := h', toks := tk' })
    (k2 : ¬ P → ∀ (h' : Heap) (tk' : Nat), Fr h₀ L h' m → News h₀ L h' news → wpAny M A (execs orelse env) Q E { s with heap := h', toks := tk' }) : wpAny M A (exec (.If test body orelse pos) env) Q E s :=
  wpAny_If (wpAny_mono c (fun b s' h => by
    obtain ⟨hb, h', tk', rfl, F', N'⟩ := h
    cases b
    · exact k2 (fun p => by cases hb.mpr p) h' tk' F' N'
    · exact k1 (hb.mp rfl) h' tk' F' N') (fun _ _ h => h))
theorem join_false {b : Bool} {h' : Heap} {tk' : Nat} (e : b = false) (F : Fr h₀ L h' m) (N : News h₀ L h' news') (hs : ∀ p ∈ news, p ∈ news') : FalseAt h₀ L m news s b { s with heap := h', toks := tk' } :=
  ⟨e, h', tk', rfl, F, fun p hp => N p (hs p hp)⟩
theorem join_dec {P : Prop} {b : Bool} {h' : Heap} {tk' : Nat} (e : b = true ↔ P) (F : Fr h₀ L h' m) (N : News h₀ L h' news') (hs : ∀ p ∈ news, p ∈ news') : DecAt P h₀ L m news s b { s with heap := h', toks := tk' } :=
  ⟨e, h', tk', rfl, F, fun p hp => N p (hs p hp)⟩
end
noncomputable def IntAt (x : Int) (h₀ : Heap) (L : Addr) (m : Str → Option Value) (news : Led) (s : Shared) (v : Value) (s' : Shared) : Prop := (∃ t, v = .int x t) ∧ JoinAt h₀ L m news s s'
/- an expression that is one int on each of its ways -/
theorem Eval_int {M : Model} {A : Around} {E : Value → Shared → Prop} {s : Shared} {h₀ : Heap} {L : Addr} {m : Str → Option Value} {news : Led} {e : PySem.Expr} {env : Env} {Q : Value → Shared → Prop} {x : Int}
    (F : Fr h₀ L s.heap m) (N : News h₀ L s.heap news) (c : wpAny M A (eval e env) (IntAt x h₀ L m news s) E s)
    (k : ∀ (t : Tok) (h' : Heap) (tk' : Nat), Fr h₀ L h' m → News h₀ L h' news → Q (.int x t) { s with heap := h', toks := tk' }) : wpAny M A (eval e env) Q E s :=
  wpAny_mono c (fun v s' h => by obtain ⟨⟨t, rfl⟩, h', tk', rfl, F', N'⟩ := h; exact k t h' tk' F' N') (fun _ _ h => h)
theorem join_int {h₀ h' : Heap} {L : Addr} {m : Str → Option Value} {news news' : Led} {s : Shared} {x y : Int} {t : Tok} {tk' : Nat} (e : y = x) (F : Fr h₀ L h' m) (N : News h₀ L h' news') (hs : ∀ p ∈ news, p ∈ news') : IntAt x h₀ L m news s (.int y t) { s with heap := h', toks := tk' } :=
  ⟨⟨t, by rw [e]⟩, h', tk', rfl, F, fun p hp => N p (hs p hp)⟩

end B
section loops
section
variable {prog : Program} {w : World} {A : Around} {E : Value → Shared → Prop} {s : Shared} {env : Env} {h₀ : Heap} {x : Str} {body : List Stmt} {Q : Flow → Shared → Prop}

/- a for over a range of any step, by what holds of the frame and the ledger before each turn -/
theorem rngAny {r : Addr} {a₀ b₀ c : Int} {t₀ u₀ v₀ : Tok} {n : Nat} {m₀ : Str → Option Value} {news : Led} (J : Nat → (Str → Option Value) → Led → Prop)
    (hh : A.handled = none) (hr : IsRange s.heap r a₀ b₀ c t₀ u₀ v₀) (hsmall : Builtin.Range.small a₀ b₀ c = true) (hn : Builtin.Range.rangeSize a₀ b₀ c = (n : Int)) (F : Fr h₀ env.locals s.heap m₀) (N : News h₀ env.locals s.heap news) (hj : J 0 m₀ news)
    (turn : ∀ i t m₁ news₁ h tk own, i < n → news₁.map (·.1) = news.map (·.1) → OwnOff own (news.map (·.1)) → J i m₁ news₁ →
      Fr h₀ env.locals h (fun y => if y = x then some (.int (a₀ + (i : Int) * c) t) else m₁ y) → News h₀ env.locals h (news₁ ++ own) →
      wpAny (model prog w) A (execs body env) (InvPostN h₀ env.locals (J (i + 1)) own (news.map (·.1)) { s with heap := h, toks := tk } Q) E { s with heap := h, toks := tk })
    (done : ∀ m₁ news₁ h tk, J n m₁ news₁ → Fr h₀ env.locals h m₁ → News h₀ env.locals h news₁ → Q .next { s with heap := h, toks := tk }) :
    wpAny (model prog w) A (pyIter (.ref r)) (fun it s₂ => LoopAtV prog w A h₀ env x body Q E it s₂) E s := by
  refine wpAny_pyIter_range hr hsmall ?_
  have W : Walks prog w A s.heap.objs.size [s.heap.objs.size] [s.heap.objs.size] n (fun i v => i < n ∧ ∃ t, v = .int (a₀ + i * c) t)
      (fun i h => IsRangeIter h s.heap.objs.size (a₀ + (i : Nat) * c) ((n : Int) - (i : Nat)) c) := (Walks.range hh _ a₀ c n).bound
  refine loop_invN J W ?_ ?_ ?_ ?_ (by show IsRangeIter _ _ _ _ _; rw [hn]; simpa using Heap.get?_push_size _ rfl) (F.push _) (fun p hp => ⟨Heap.get?_push_of_some _ (N p hp).1, (N p hp).2⟩) hj ?_ ?_
  · intro hm
    exact absurd F.ns.lt ((List.mem_singleton.mp hm) ▸ Nat.lt_irrefl _)
  · intro b hb
    rw [List.mem_singleton.mp hb]
    exact next_is_new F
  · intro p hp hI
    exact absurd (Heap.lt_size (N p hp).1) ((List.mem_singleton.mp hI) ▸ Nat.lt_irrefl _)
  · intro p hp hI
    exact absurd (Heap.lt_size (N p hp).1) ((List.mem_singleton.mp hI) ▸ Nat.lt_irrefl _)
  · rintro i v m₁ nx h tk own _ ⟨hi, t, rfl⟩ hadr hoff hJ F₁ N₁
    exact turn i t m₁ nx h tk own hi hadr hoff hJ F₁ N₁
  · exact done

/- one name of the frame turned, an int whose value before each turn is told -/
noncomputable def OneInt (x y : Str) (v : Int) (m₀ : Str → Option Value) (news : Led) (m : Str → Option Value) (nx : Led) : Prop := nx = news ∧ (∃ t, m y = some (.int v t)) ∧ ∀ z, z ≠ x → z ≠ y → m z = m₀ z
theorem oneInt_fr {L : Addr} {h : Heap} {y : Str} {v k : Int} {t ta : Tok} {m₀ m₁ : Str → Option Value} (ha : m₁ y = some (.int v ta)) (hm : ∀ z, z ≠ x → z ≠ y → m₁ z = m₀ z)
    (F : Fr h₀ L h (fun z => if z = x then some (.int k t) else m₁ z)) : Fr h₀ L h (fun z => if z = x then some (.int k t) else if z = y then some (.int v ta) else m₀ z) := by
  have e : (fun z => if z = x then some (Value.int k t) else if z = y then some (.int v ta) else m₀ z) = fun z => if z = x then some (Value.int k t) else m₁ z := by
    funext z
    by_cases h1 : z = x
    · rw [if_pos h1, if_pos h1]
    · rw [if_neg h1, if_neg h1]
      by_cases h2 : z = y
      · rw [if_pos h2, h2, ha]
      · rw [if_neg h2, hm z h1 h2]
  rw [e]; exact F
theorem oneInt_out {L : Addr} {h : Heap} {y : Str} {v : Int} {ta : Tok} {m₀ m₁ : Str → Option Value} (ha : m₁ y = some (.int v ta)) (hm : ∀ z, z ≠ x → z ≠ y → m₁ z = m₀ z)
    (F : Fr h₀ L h m₁) : Fr h₀ L h (fun z => if z = x then m₁ z else if z = y then some (.int v ta) else m₀ z) := by
  have e : (fun z => if z = x then m₁ z else if z = y then some (.int v ta) else m₀ z) = m₁ := by
    funext z
    by_cases h1 : z = x
    · rw [if_pos h1]
    · rw [if_neg h1]
      by_cases h2 : z = y
      · rw [if_pos h2, h2, ha]
      · rw [if_neg h2, hm z h1 h2]
  rw [e]; exact F
theorem oneInt_end {L : Addr} {y : Str} {v v' : Int} {t' : Tok} {m₀ m' : Str → Option Value} {news own news' : Led} {s₁ : Shared} {h' : Heap} {tk : Nat} (F : Fr h₀ L h' m') (N : News h₀ L h' news') (ha : m' y = some (.int v' t')) (e : v' = v)
    (hm : ∀ z, z ≠ x → z ≠ y → m' z = m₀ z) (hn : ∀ p ∈ news, p ∈ news') (ho : ∀ p ∈ own, p ∈ news') : InvEndN h₀ L (OneInt x y v m₀ news) own (news.map (·.1)) s₁ { s₁ with heap := h', toks := tk } := by
  subst e
  exact InvEndN.intro F N ⟨rfl, ⟨_, ha⟩, hm⟩ rfl hn ho

theorem rngInt {r : Addr} {a₀ b₀ c : Int} {t₀ u₀ v₀ : Tok} {n : Nat} {m₀ : Str → Option Value} {news : Led} {y : Str} {z₀ : Int} {tz : Tok} (V : Nat → Int)
    (hh : A.handled = none) (hr : IsRange s.heap r a₀ b₀ c t₀ u₀ v₀) (hsmall : Builtin.Range.small a₀ b₀ c = true) (hn : Builtin.Range.rangeSize a₀ b₀ c = (n : Int)) (F : Fr h₀ env.locals s.heap m₀) (N : News h₀ env.locals s.heap news) (hy : m₀ y = some (.int z₀ tz)) (hz : z₀ = V 0)
    (turn : ∀ i t ta h tk own, i < n → OwnOff own (news.map (·.1)) →
      Fr h₀ env.locals h (fun z => if z = x then some (.int (a₀ + (i : Int) * c) t) else if z = y then some (.int (V i) ta) else m₀ z) → News h₀ env.locals h (news ++ own) →
      wpAny (model prog w) A (execs body env) (InvPostN h₀ env.locals (OneInt x y (V (i + 1)) m₀ news) own (news.map (·.1)) { s with heap := h, toks := tk } Q) E { s with heap := h, toks := tk })
    (done : ∀ (u : Str → Option Value) t h tk, Fr h₀ env.locals h (fun z => if z = x then u z else if z = y then some (.int (V n) t) else m₀ z) → News h₀ env.locals h news → Q .next { s with heap := h, toks := tk }) :
    wpAny (model prog w) A (pyIter (.ref r)) (fun it s₂ => LoopAtV prog w A h₀ env x body Q E it s₂) E s := by
  subst hz
  refine rngAny (fun i m nx => OneInt x y (V i) m₀ news m nx) hh hr hsmall hn F N ⟨rfl, ⟨tz, hy⟩, fun _ _ _ => rfl⟩ ?_ ?_
  · rintro i t m₁ nx h tk own hi _ hoff ⟨rfl, ⟨ta, ha⟩, hm⟩ F₁ N₁
    exact turn i t ta h tk own hi hoff (oneInt_fr ha hm F₁) N₁
  · rintro m₁ nx h tk ⟨rfl, ⟨ta, ha⟩, hm⟩ F₁ N₁
    exact done m₁ ta h tk (oneInt_out ha hm F₁) N₁

theorem one_fr {L : Addr} {h : Heap} {y : Str} {v w₀ : Value} {m₀ m₁ : Str → Option Value} (ha : m₁ y = some v) (hm : ∀ z, z ≠ x → z ≠ y → m₁ z = m₀ z)
    (F : Fr h₀ L h (fun z => if z = x then some w₀ else m₁ z)) : Fr h₀ L h (fun z => if z = x then some w₀ else if z = y then some v else m₀ z) := by
  have e : (fun z => if z = x then some w₀ else if z = y then some v else m₀ z) = fun z => if z = x then some w₀ else m₁ z := by
    funext z
    by_cases h1 : z = x
    · rw [if_pos h1, if_pos h1]
    · rw [if_neg h1, if_neg h1]
      by_cases h2 : z = y
      · rw [if_pos h2, h2, ha]
      · rw [if_neg h2, hm z h1 h2]
  rw [e]; exact F
theorem one_out {L : Addr} {h : Heap} {y : Str} {v : Value} {m₀ m₁ : Str → Option Value} (ha : m₁ y = some v) (hm : ∀ z, z ≠ x → z ≠ y → m₁ z = m₀ z)
    (F : Fr h₀ L h m₁) : Fr h₀ L h (fun z => if z = x then m₁ z else if z = y then some v else m₀ z) := by
  have e : (fun z => if z = x then m₁ z else if z = y then some v else m₀ z) = m₁ := by
    funext z
    by_cases h1 : z = x
    · rw [if_pos h1]
    · rw [if_neg h1]
      by_cases h2 : z = y
      · rw [if_pos h2, h2, ha]
      · rw [if_neg h2, hm z h1 h2]
  rw [e]; exact F

/- a for over a list of ints of the ledger's; what the loop keeps may be made anew in a turn -/
theorem lstG {l : Addr} {vs : List Value} {ns : List Int} {nn : Nat} {m₀ : Str → Option Value} {news : Led} (J : Nat → (Str → Option Value) → Led → Prop)
    (hh : A.handled = none) (hl : (l, listOf vs.toArray nn) ∈ news) (hi : IntsAre vs ns) (F : Fr h₀ env.locals s.heap m₀) (N : News h₀ env.locals s.heap news) (hj : J 0 m₀ news)
    (turn : ∀ i n t m₁ nx h tk own, ns[i]? = some n → OwnOff own (nx.map (·.1)) → J i m₁ nx → Fr h₀ env.locals h (fun y => if y = x then some (.int n t) else m₁ y) → News h₀ env.locals h (nx ++ own) →
      wpAny (model prog w) A (execs body env) (InvPostG h₀ env.locals (fun m' nx => (l, listOf vs.toArray nn) ∈ nx ∧ J (i + 1) m' nx) own { s with heap := h, toks := tk } Q) E { s with heap := h, toks := tk })
    (done : ∀ m₁ nx h tk, J ns.length m₁ nx → Fr h₀ env.locals h m₁ → News h₀ env.locals h nx → Q .next { s with heap := h, toks := tk }) :
    wpAny (model prog w) A (pyIter (.ref l)) (fun it s₂ => LoopAtV prog w A h₀ env x body Q E it s₂) E s := by
  refine kdl_iter J hh hl F N hj ?_ ?_
  · intro i v m₁ nx h tk own hv hoff _ hJ F₁ N₁
    obtain ⟨n, t, rfl, hn⟩ := IntsAre.at hi i v hv
    exact turn i n t m₁ nx h tk own hn hoff hJ F₁ N₁
  · intro m₁ nx h tk hJ
    rw [hi.length] at hJ
    exact done m₁ nx h tk hJ

/- a for over a range of any step; what the loop keeps may be made anew in a turn -/
theorem rngG {r : Addr} {a₀ b₀ c : Int} {t₀ u₀ v₀ : Tok} {n : Nat} {m₀ : Str → Option Value} {news : Led} (J : Nat → (Str → Option Value) → Led → Prop)
    (hh : A.handled = none) (hr : IsRange s.heap r a₀ b₀ c t₀ u₀ v₀) (hsmall : Builtin.Range.small a₀ b₀ c = true) (hn : Builtin.Range.rangeSize a₀ b₀ c = (n : Int)) (F : Fr h₀ env.locals s.heap m₀) (N : News h₀ env.locals s.heap news) (hj : J 0 m₀ news)
    (turn : ∀ i t m₁ nx h tk own, i < n → OwnOff own (nx.map (·.1)) → J i m₁ nx → Fr h₀ env.locals h (fun y => if y = x then some (.int (a₀ + (i : Int) * c) t) else m₁ y) → News h₀ env.locals h (nx ++ own) →
      wpAny (model prog w) A (execs body env) (InvPostG h₀ env.locals (J (i + 1)) own { s with heap := h, toks := tk } Q) E { s with heap := h, toks := tk })
    (done : ∀ m₁ nx h tk, J n m₁ nx → Fr h₀ env.locals h m₁ → News h₀ env.locals h nx → Q .next { s with heap := h, toks := tk }) :
    wpAny (model prog w) A (pyIter (.ref r)) (fun it s₂ => LoopAtV prog w A h₀ env x body Q E it s₂) E s := by
  refine wpAny_pyIter_range hr hsmall ?_
  have W : Walks prog w A s.heap.objs.size [s.heap.objs.size] [s.heap.objs.size] n (fun i v => i < n ∧ ∃ t, v = .int (a₀ + i * c) t)
      (fun i h => IsRangeIter h s.heap.objs.size (a₀ + (i : Nat) * c) ((n : Int) - (i : Nat)) c) := (Walks.range hh _ a₀ c n).bound
  refine kdr_loop J W (fun _ h => h) (fun _ h => h) ?_ ?_ ?_ ?_ (by show IsRangeIter _ _ _ _ _; rw [hn]; simpa using Heap.get?_push_size _ rfl) (F.push _) (fun p hp => ⟨Heap.get?_push_of_some _ (N p hp).1, (N p hp).2⟩) hj ?_ ?_
  · intro i h hi b hb
    rw [List.mem_singleton.mp hb]
    exact ⟨_, hi⟩
  · intro hm
    exact absurd F.ns.lt ((List.mem_singleton.mp hm) ▸ Nat.lt_irrefl _)
  · intro b hb
    rw [List.mem_singleton.mp hb]
    exact next_is_new F
  · intro p hp hI
    exact absurd (Heap.lt_size (N p hp).1) ((List.mem_singleton.mp hI) ▸ Nat.lt_irrefl _)
  · rintro i v m₁ nx h tk own _ ⟨hi, t, rfl⟩ hoff hJ F₁ N₁
    exact turn i t m₁ nx h tk own hi hoff hJ F₁ N₁
  · exact done

/- one name of the frame, a list of ints, made anew in each turn -/
noncomputable def OneList (x y : Str) (base : Led) (ns : List Int) (m₀ m : Str → Option Value) (nx : Led) : Prop :=
  ∃ l vs n, nx = (l, listOf vs.toArray n) :: base ∧ IntsAre vs ns ∧ m y = some (.ref l) ∧ ∀ z, z ≠ x → z ≠ y → m z = m₀ z

theorem oneList_end {L : Addr} {y : Str} {base own news' : Led} {lo D : Addr} {o : Obj} {ws : List Value} {n₀ : Nat} {ns : List Int} {m₀ m' : Str → Option Value} {lst : Addr × Obj} {s₁ : Shared} {h' : Heap} {tk : Nat}
    (hoff : OwnOff own (((lo, o) :: base).map (·.1))) (hl : lst ∈ base) (F : Fr h₀ L h' m') (N : News h₀ L h' news') (hm : m' y = some (.ref D)) (hs : ∀ z, z ≠ x → z ≠ y → m' z = m₀ z) (hD : (D, listOf ws.toArray n₀) ∈ news') (hi : IntsAre ws ns)
    (hb : ∀ p ∈ base, p ∈ news') (ho : ∀ p ∈ own, p ∈ news') (hlt : ∀ p ∈ own, p.1 < D) : InvEndG h₀ L (fun m' nx => lst ∈ nx ∧ OneList x y base ns m₀ m' nx) own s₁ { s₁ with heap := h', toks := tk } := by
  refine InvEndG.intro F N ⟨List.Mem.tail _ hl, D, ws, n₀, rfl, hi, hm, hs⟩ ?_ ?_ ho
  · intro p hp b hb
    rcases List.mem_cons.mp hb with rfl | hb
    · exact Nat.ne_of_lt (hlt p hp)
    · exact hoff p hp b (List.mem_cons_of_mem _ hb)
  · intro p hp
    rcases List.mem_cons.mp hp with rfl | hp
    · exact hD
    · exact hb p hp
end
theorem allNe_app {d : Addr} {a b : Led} (h1 : AllLt d a) (h2 : ∀ p ∈ b, p.1 ≠ d) : ∀ p ∈ a ++ b, p.1 ≠ d := fun p hp => by
  rcases List.mem_append.mp hp with hp | hp
  · exact Nat.ne_of_lt (ktn_ltOf h1 p hp)
  · exact h2 p hp

end loops
local macro_rules | `(tactic| k_all) => `(tactic| (with_reducible assumption))
local macro_rules | `(tactic| kmk_nums) => `(tactic| k_extra "kmk nums")
local macro_rules | `(tactic| ktr_room) => `(tactic| k_extra "room")
local macro_rules | `(tactic| ktr_units) => `(tactic| k_extra "room")
local macro_rules | `(tactic| kmk_sum) => `(tactic| with_reducible assumption)
local macro_rules | `(tactic| size_fits) => `(tactic| with_reducible assumption)
local macro_rules | `(tactic| walk_at $s:str) => do { let k := Lean.Syntax.mkStrLit ("mine " ++ s.getString); `(tactic| k_extra $k) }
section law_sum
theorem reset_law_sum : True := by (w_top off; k_with_none; exact trivial)
noncomputable def sumF (x : Int) : Int := if x = 0 then 0 else (x - 1).fmod 65535 + 1
theorem sumF_nonneg (x : Int) : 0 ≤ sumF x := by
  unfold sumF
  split
  · exact Int.le_refl 0
  · rw [Int.fmod_eq_emod_of_nonneg _ (by omega)]; omega

set_option maxHeartbeats 8000000 in
theorem law_sum_spec (w : World) (mean : ExcName → Option Value) (mg mb : Str → Option Value) (news : Led) (x : Int) (t : Tok) :
    Spec w mean mg mb 130 1 8 news [.int x t] (RInt (sumF x)) := by
  unfold Spec Tp; k_fill
  intro dp un gd cn cs a ccd cl outer A₀ base h₀ L m s Q E B F X N T hk hd hu hret
  refine wpAny_call ?_
  k_dflt (refine' code_def ?k1 ?k2 ?k3 ?k4 ?k5 ?kA ?kF ?kK ?k6 ?k7 ?k8 ?k9 ?kB ?_ ?c2 ?c3 ?c4 ?c5; (case kA => exact rfl); (case kF => exact rfl); (case kK => assumption); (case k1 => k_asm); (case k2 => k_asm); (case k3 => k_asm); (case k4 => k_asm); (case k5 => k_asm); (case k6 => k_is); (case k7 => k_is); (case k8 => ktr_room); (case k9 => first | exact BindsTo.of_eq rfl | exact binds_K (by k_in) rfl (by k_is) rfl rfl rfl); (case c5 => decide); (case kB => exact locs rfl); (case c2 => exact rfl); (case c3 => exact rfl); (case c4 => exact rfl); k_whole; intro g' L' h' FG' F' N' B' X' T'; (try dsimp only); (try k_lift B'); (try k_fold))
  k_steps
  all_goals
    (refine' endI (Q := Q) (s := s) hret ?e1 ?e2 ?e3 ?e4; (case e2 => k_asm); (case e3 => k_asm); (case e4 => (first | (intro p9 hp9; (repeat (first | (with_reducible exact hp9) | (with_reducible exact List.mem_append_left _ hp9) | (with_reducible exact List.mem_append_right _ hp9) | (with_reducible refine List.mem_cons_of_mem _ ?_))); done) | kcj_all)); (case e1 => (unfold sumF; simp_all; done)))

end law_sum
section law_digit
set_option maxHeartbeats 8000000 in
theorem digit_tells (w : World) (mean : ExcName → Option Value) (mg mb : Str → Option Value) :
    CellTells PySem.Challenge.rw_pf0325_01.row.prog w (hd.heap_39 w.params) hd.view_39 (looseW hd.view_39 [Str.ofString "sum16", Str.ofString "check_of"]) mean mg mb 102 0 := by
  k_fill
  cell_step
theorem law_digit_spec (w : World) (mean : ExcName → Option Value) (mg mb : Str → Option Value) (news : Led) (ls : Addr) (vss : List Value) (sc : List Int) (hsc : IntsAre vss sc) (hscl : sc.length < 100) (k : Int) (t : Tok) (h0 : 0 ≤ k) :
    SpecS w mean mg mb ls vss 102 1 8 news [.ref ls, .int k t] (RInt (cellAt sc k 0)) := by
  intro dp un gd cn cs a ccd cl outer A₀ base h₀ L m s Q E B F X N T hk hS hd hu hret
  exact digit_tells w mean mg mb dp un gd cn cs a ccd cl outer A₀ base h₀ L m news s ls vss sc k t Q E B F X N T hk hS hsc (Nat.lt_trans hscl (by decide)) h0 hd hu (retI.aux hret)

end law_digit
section w16
noncomputable def W16 (ws : List Int) : Prop := ∀ x ∈ ws, 0 ≤ x ∧ x < 65536
theorem W16.app {a b : List Int} (ha : W16 a) (hb : W16 b) : W16 (a ++ b) := fun x hx => (List.mem_append.mp hx).elim (ha x) (hb x)
theorem W16.take {a : List Int} (ha : W16 a) (n : Nat) : W16 (a.take n) := fun x hx => ha x (List.mem_of_mem_take hx)
theorem W16.drop {a : List Int} (ha : W16 a) (n : Nat) : W16 (a.drop n) := fun x hx => ha x (List.mem_of_mem_drop hx)
theorem W16.one {x : Int} (h0 : 0 ≤ x) (h1 : x < 65536) : W16 [x] := fun y hy => by rw [List.mem_singleton.mp hy]; exact ⟨h0, h1⟩
theorem W16.nil : W16 [] := fun _ h => nomatch h
theorem ipos {a : Int} (h : 0 ≤ a) (hz : a ≠ 0) : 0 < a := (Int.lt_or_eq_of_le h).elim id fun e => absurd e.symm hz
/- sums that are nought -/
theorem sum_zero {a b : Int} (ha : 0 ≤ a) (hb : 0 ≤ b) : a + b = 0 ↔ a = 0 ∧ b = 0 := by omega
theorem add_zero {a b x y : Int} (ha : 0 ≤ a) (hb : 0 ≤ b) (hx : 0 ≤ x) (hy : 0 ≤ y) (h1 : a = 0 ↔ x = 0) (h2 : b = 0 ↔ y = 0) : a + b = 0 ↔ x + y = 0 := by
  rw [sum_zero ha hb, sum_zero hx hy, h1, h2]
theorem fm65535 (x : Int) : x.fmod 65535 = x % 65535 := Int.fmod_eq_emod_of_nonneg x (by decide)
theorem fm256 (x : Int) : x.fmod 256 = x % 256 := Int.fmod_eq_emod_of_nonneg x (by decide)
theorem fd256 (x : Int) : x.fdiv 256 = x / 256 := Int.fdiv_eq_ediv_of_nonneg x (by decide)
theorem m65535 (x : Int) : 0 ≤ x % 65535 ∧ x % 65535 < 65535 := ⟨Int.emod_nonneg x (by decide), Int.emod_lt_of_pos x (by decide)⟩
/-! by how much: with a factor said, omega has no remainder to look at -/
theorem mod_k {A a m : Int} (h : A % m = a % m) : ∃ k, A = a + m * k := by
  obtain ⟨k, hk⟩ := Int.dvd_of_emod_eq_zero (Int.emod_eq_emod_iff_emod_sub_eq_zero.mp h)
  exact ⟨k, by rw [← hk, Int.add_comm, Int.sub_add_cancel]⟩
theorem sumF_eq {x : Int} (h : 0 < x) : sumF x = (x - 1) % 65535 + 1 := by
  unfold sumF
  rw [if_neg (Int.ne_of_gt h), fm65535]
theorem sumF_zero : sumF 0 = 0 := rfl
theorem sumF_ne {x : Int} (h : x ≠ 0) : sumF x = (x - 1) % 65535 + 1 := by
  unfold sumF
  rw [if_neg h, fm65535]
theorem sumF_congr {a b : Int} (ha : 0 ≤ a) (hb : 0 ≤ b) (hm : a % 65535 = b % 65535) (hz : a = 0 ↔ b = 0) : sumF a = sumF b := by
  by_cases h : a = 0
  · rw [h, hz.mp h]
  · rw [sumF_ne h, sumF_ne fun e => h (hz.mpr e), (Int.emod_sub_cancel_right 1).mpr hm]
theorem sumF_le (x : Int) : sumF x ≤ 65535 := by
  by_cases h : x = 0
  · rw [h]; decide
  · rw [sumF_ne h]; exact Int.add_one_le_of_lt (m65535 _).2
theorem sumF_mod (a : Int) : sumF a % 65535 = a % 65535 := by
  by_cases h : a = 0
  · rw [h]; rfl
  · rw [sumF_ne h, Int.emod_add_emod, Int.sub_add_cancel]
theorem sumF_pos' {a : Int} (h : a ≠ 0) : 0 < sumF a := by rw [sumF_ne h]; exact Int.lt_add_one_of_le (m65535 _).1
theorem sumF_zero_iff (a : Int) : sumF a = 0 ↔ a = 0 :=
  ⟨fun e => Decidable.byContradiction fun h => absurd e (Int.ne_of_gt (sumF_pos' h)), fun e => by rw [e]; rfl⟩
theorem sumF_k (a : Int) : ∃ k, sumF a = a + 65535 * k := mod_k (sumF_mod a)
theorem sumF_eqk {a b k : Int} (ha : 0 < a) (hb : 0 < b) (h : a = b + 65535 * k) : sumF a = sumF b :=
  sumF_congr (Int.le_of_lt ha) (Int.le_of_lt hb) (by rw [h]; exact Int.add_mul_emod_self_left b 65535 k) ⟨fun e => absurd e (Int.ne_of_gt ha), fun e => absurd e (Int.ne_of_gt hb)⟩
theorem sumF_eqz {a b k : Int} (ha : 0 ≤ a) (hb : 0 ≤ b) (h : b = a + 65535 * k) (hz : a = 0 ↔ b = 0) : sumF a = sumF b :=
  sumF_congr ha hb (by rw [h]; exact (Int.add_mul_emod_self_left a 65535 k).symm) hz
theorem sumF_mul {a k : Int} (ha : 0 < a) (h : a = 65535 * k) : sumF a = 65535 :=
  (sumF_eqk (b := 65535) (k := k - 1) ha (by decide) (by rw [h, Int.mul_sub, Int.mul_one, Int.add_comm, Int.sub_add_cancel])).trans rfl
theorem sumF_sumF {a b : Int} (ha : 0 ≤ a) (hb : 0 ≤ b) : sumF (sumF a + b) = sumF (a + b) := by
  obtain ⟨k, hk⟩ := sumF_k a
  exact (sumF_eqz (k := k) (Int.add_nonneg ha hb) (Int.add_nonneg (sumF_nonneg a) hb) (by rw [hk, Int.add_right_comm]) (add_zero ha hb (sumF_nonneg a) hb (sumF_zero_iff a).symm Iff.rfl)).symm
theorem W16.check (x : Int) : W16 [65535 - sumF x] := .one (Int.sub_nonneg_of_le (sumF_le x)) (Int.lt_of_le_of_lt (Int.sub_le_self 65535 (sumF_nonneg x)) (by decide))
theorem W16.sum_nonneg : ∀ {a : List Int}, W16 a → 0 ≤ a.sum
  | [], _ => Int.le_refl 0
  | x :: r, h => by
    have h1 := h x (.head _)
    have h2 := W16.sum_nonneg (a := r) fun y hy => h y (.tail _ hy)
    rw [List.sum_cons]; exact Int.add_nonneg h1.1 h2
noncomputable def octF : List Int → List Int
  | [] => []
  | x :: r => x.fdiv 256 :: x.fmod 256 :: octF r

theorem octF_len : ∀ ns : List Int, (octF ns).length = 2 * ns.length
  | [] => rfl
  | x :: r => by
    have := octF_len r
    show (octF r).length + 1 + 1 = 2 * (r.length + 1)
    rw [this]; rfl
theorem take_lt {ks : List Int} {b : Nat} (h : ks.length < b) (n : Nat) : (ks.take n).length < b := Nat.lt_of_le_of_lt (by rw [List.length_take]; exact Nat.min_le_right _ _) h
theorem dt_lt {ks : List Int} {b : Nat} (h : ks.length < b) (n k : Nat) : ((ks.drop n).take k).length < b :=
  Nat.lt_of_le_of_lt (by rw [List.length_take, List.length_drop]; exact Nat.le_trans (Nat.min_le_right _ _) (Nat.sub_le _ _)) h
theorem oct_lt {ws : List Int} (h : ws.length < 40) : (octF ws).length < 100 := by
  rw [octF_len]; exact Nat.lt_of_lt_of_le (Nat.mul_lt_mul_of_pos_left h (by decide)) (by decide)
theorem cut_le (a x : List Int) (i j : Nat) : (a.take i ++ x ++ a.drop j).length ≤ 2 * a.length + x.length := by
  rw [List.length_append, List.length_append, List.length_take, List.length_drop, Nat.add_right_comm, Nat.two_mul]
  exact Nat.add_le_add_right (Nat.add_le_add (Nat.min_le_right _ _) (Nat.sub_le _ _)) _

end w16
section folded
theorem reset_folded : True := by (w_top off; k_with_none; exact trivial)
theorem sumF_small {x : Int} (h0 : 0 ≤ x) (h : x ≤ 65535) : sumF x = x := by
  by_cases hz : x = 0
  · rw [hz]; rfl
  · rw [sumF_ne hz, Int.emod_eq_of_lt (show 0 ≤ x - 1 from Int.sub_nonneg_of_le (ipos h0 hz)) (Int.lt_of_lt_of_le (Int.sub_lt_self x (by decide)) h), Int.sub_add_cancel]
theorem sumF_fold {x : Int} (h0 : 0 ≤ x) : sumF (x % 65536 + x / 65536) = sumF x := by
  have hx := Int.mul_ediv_add_emod x 65536
  have hr : 0 ≤ x % 65536 := Int.emod_nonneg x (by decide)
  have hq : 0 ≤ x / 65536 := Int.ediv_nonneg h0 (by decide)
  generalize x % 65536 = r at *
  generalize x / 65536 = q at *
  exact sumF_eqz (k := q) (Int.add_nonneg hr hq) h0 (by rw [← hx]; clear hx hr hq h0; omega) (by rw [← hx]; clear hx h0; omega)

theorem and16 (x : Int) : Builtin.bitAnd x 65535 = x % 65536 := bitAnd_m16 x
theorem shr16 (x : Int) : x.fdiv (2 ^ Int.toNat 16) = x / 65536 := Int.fdiv_eq_ediv_of_nonneg x (by decide)
theorem folded_st {y x : Int} (h : 0 ≤ y ∧ sumF y = sumF x) : 0 ≤ Builtin.bitAnd y 65535 + y.fdiv (2 ^ Int.toNat 16) ∧ sumF (Builtin.bitAnd y 65535 + y.fdiv (2 ^ Int.toNat 16)) = sumF x := by
  rw [and16, shr16, sumF_fold h.1]
  exact ⟨Int.add_nonneg (Int.emod_nonneg y (by decide)) (Int.ediv_nonneg h.1 (by decide)), h.2⟩
theorem folded_less {y : Int} (h0 : 0 ≤ y) (h : y.fdiv (2 ^ Int.toNat 16) ≠ 0) : (Builtin.bitAnd y 65535 + y.fdiv (2 ^ Int.toNat 16)).toNat < y.toNat := by
  rw [shr16] at h
  rw [and16, shr16]
  have hx := Int.mul_ediv_add_emod y 65536
  have hr : 0 ≤ y % 65536 := Int.emod_nonneg y (by decide)
  have hq := ipos (Int.ediv_nonneg h0 (by decide)) h
  generalize y % 65536 = r at *
  generalize y / 65536 = q at *
  subst hx
  have e : r + q < 65536 * q + r := by clear h0 h hr; omega
  exact (Int.toNat_lt_toNat (Int.lt_of_le_of_lt (Int.add_nonneg hr (Int.le_of_lt hq)) e)).mpr e
theorem folded_end {y x : Int} (h0 : 0 ≤ y) (h1 : sumF y = sumF x) (h : y.fdiv (2 ^ Int.toNat 16) = 0) : y = sumF x := by
  rw [shr16] at h
  have hx := Int.mul_ediv_add_emod y 65536
  rw [h, Int.mul_zero, Int.zero_add] at hx
  rw [← h1, sumF_small h0 (Int.le_of_lt_add_one (hx ▸ Int.emod_lt_of_pos y (by decide)))]

set_option maxHeartbeats 8000000 in
theorem folded_spec (w : World) (mean : ExcName → Option Value) (mg mb : Str → Option Value) (news : Led) (x : Int) (t : Tok) (h0 : 0 ≤ x) :
    Spec w mean mg mb 58 1 8 news [.int x t] (RInt (sumF x)) := by
  k_with_none
  k_with "mine pyIter ref" => k_extra "my iter"
  k_with "mine exec For" => (k_extra "my for"; (rename Fr _ _ _ _ => lF'); (with_unfolding_all refine' For_invVF lF' ?k1 ?k2 ?_; (case k1 => exact rfl); (case k2 => exact rfl); k_whole))
  k_with "kmk nums" => first | with_reducible exact kmk_all (by l_ints) | (with_reducible refine kmk_from (by l_ints) ?_; first | assumption | omega) | (with_reducible refine kmk_upto (by l_ints) ?_; first | assumption | omega) | (with_reducible refine kmk_run (by l_ints) ?_ ?_ <;> first | assumption | omega)
  k_with "room" => exact roomA (by with_reducible assumption) rfl
  k_with "mine eval Name" => (k_here; k_dflt (refine' nameX_L ?F ?v ?_ ?a ?b; (case F => k_asm); (case a => exact rfl); (case b => exact Eq.refl (some _)); (case v => exact Eq.refl (some _)); k_whole))
  k_with "mine And" => ((with_reducible show Frag.In _ _ ∧ _); k_dflt (refine ⟨Frag.In.keeps (by k_asm) (Fr.keep (by k_asm)), ?_⟩))
  k_with "mine call ref" => (k_here; (with_reducible show wpAny _ _ (PySem.call (Value.ref 130) _ _) _ _ _); k_dflt (refine' Spec.use ?k1 ?k2 ?k3 ?k4 ?k5 ?kK (law_sum_spec _ _ _ _ _ _ _) ?kd ?ku (retI ?_); (case k1 => k_asm); (case k2 => k_asm); (case k3 => k_asm); (case k4 => k_asm); (case k5 => k_asm); (case kK => first | exact rfl | assumption); (case kd => first | ktr_room | fail "law_sum_spec: room"); (case ku => first | ktr_units | fail "law_sum_spec: units"); k_whole); intro t9q h9q tk9q F9q N9q; (try dsimp only); (try k_fold))
  k_with "exec While Compare cons nil" => k_while (fun (_ : List Int) (total : Int) => 0 ≤ total ∧ sumF total = sumF x) (fun (_ : List Int) (total : Int) => total.toNat) "total"
  k_with "state" => first | exact ⟨h0, rfl⟩ | exact folded_st ⟨by assumption, by assumption⟩
  k_with "measure" => exact folded_less (by assumption) (by assumption)
  unfold Spec Tp; k_fill
  intro dp un gd cn cs a ccd cl outer A₀ base h₀ L m s Q E B F X N T hk hd hu hret
  refine wpAny_call ?_
  k_dflt (refine' code_def ?k1 ?k2 ?k3 ?k4 ?k5 ?kA ?kF ?kK ?k6 ?k7 ?k8 ?k9 ?kB ?_ ?c2 ?c3 ?c4 ?c5; (case kA => exact rfl); (case kF => exact rfl); (case kK => assumption); (case k1 => k_asm); (case k2 => k_asm); (case k3 => k_asm); (case k4 => k_asm); (case k5 => k_asm); (case k6 => k_is); (case k7 => k_is); (case k8 => ktr_room); (case k9 => first | exact BindsTo.of_eq rfl | exact binds_K (by k_in) rfl (by k_is) rfl rfl rfl); (case c5 => decide); (case kB => exact locs rfl); (case c2 => exact rfl); (case c3 => exact rfl); (case c4 => exact rfl); k_whole; intro g' L' h' FG' F' N' B' X' T'; (try dsimp only); (try k_lift B'); (try k_fold))
  k_steps
  all_goals
    (refine' endI (Q := Q) (s := s) hret ?e1 ?e2 ?e3 ?e4; (case e2 => k_asm); (case e3 => k_asm); (case e4 => (first | (intro p9 hp9; (repeat (first | (with_reducible exact hp9) | (with_reducible exact List.mem_append_left _ hp9) | (with_reducible exact List.mem_append_right _ hp9) | (with_reducible refine List.mem_cons_of_mem _ ?_))); done) | kcj_all)); (case e1 => exact folded_end (by assumption) (by assumption) (by assumption)))

end folded
section law_number
theorem reset_law_number : True := by (w_top off; k_with_none; exact trivial)
noncomputable def numF (d u b : Int) : Int := if d.fmod 4 = 3 then d.fdiv 4 else (d.fdiv 4 + u).fmod (2 ^ b.toNat)
set_option maxHeartbeats 8000000 in
theorem law_number_spec (w : World) (mean : ExcName → Option Value) (mg mb : Str → Option Value) (news : Led) (d u b : Int) (t1 t2 t3 : Tok) (hb : 0 ≤ b) (hb2 : b ≤ 128) :
    Spec w mean mg mb 170 1 8 news [.int d t1, .int u t2, .int b t3] (RInt (numF d u b)) := by
  k_with_none
  k_with "mine pyIter ref" => k_extra "my iter"
  k_with "mine exec For" => (k_extra "my for"; (rename Fr _ _ _ _ => lF'); (with_unfolding_all refine' For_invVF lF' ?k1 ?k2 ?_; (case k1 => exact rfl); (case k2 => exact rfl); k_whole))
  k_with "kmk nums" => first | with_reducible exact kmk_all (by l_ints) | (with_reducible refine kmk_from (by l_ints) ?_; first | assumption | omega) | (with_reducible refine kmk_upto (by l_ints) ?_; first | assumption | omega) | (with_reducible refine kmk_run (by l_ints) ?_ ?_ <;> first | assumption | omega)
  k_with "room" => exact roomA (by with_reducible assumption) rfl
  k_with "mine eval Name" => (k_here; k_dflt (refine' nameX_L ?F ?v ?_ ?a ?b; (case F => k_asm); (case a => exact rfl); (case b => exact Eq.refl (some _)); (case v => exact Eq.refl (some _)); k_whole))
  k_with "mine And" => ((with_reducible show Frag.In _ _ ∧ _); k_dflt (refine ⟨Frag.In.keeps (by k_asm) (Fr.keep (by k_asm)), ?_⟩))
  k_with "mine call ref" => (k_here; (with_reducible show wpAny _ _ (PySem.call (Value.ref 130) _ _) _ _ _); k_dflt (refine' Spec.use ?k1 ?k2 ?k3 ?k4 ?k5 ?kK (law_sum_spec _ _ _ _ _ _ _) ?kd ?ku (retI ?_); (case k1 => k_asm); (case k2 => k_asm); (case k3 => k_asm); (case k4 => k_asm); (case k5 => k_asm); (case kK => first | exact rfl | assumption); (case kd => first | ktr_room | fail "law_sum_spec: room"); (case ku => first | ktr_units | fail "law_sum_spec: units"); k_whole); intro t9q h9q tk9q F9q N9q; (try dsimp only); (try k_fold))
  unfold Spec Tp; k_fill
  intro dp un gd cn cs a ccd cl outer A₀ base h₀ L m s Q E B F X N T hk hd hu hret
  refine wpAny_call ?_
  k_dflt (refine' code_def ?k1 ?k2 ?k3 ?k4 ?k5 ?kA ?kF ?kK ?k6 ?k7 ?k8 ?k9 ?kB ?_ ?c2 ?c3 ?c4 ?c5; (case kA => exact rfl); (case kF => exact rfl); (case kK => assumption); (case k1 => k_asm); (case k2 => k_asm); (case k3 => k_asm); (case k4 => k_asm); (case k5 => k_asm); (case k6 => k_is); (case k7 => k_is); (case k8 => ktr_room); (case k9 => first | exact BindsTo.of_eq rfl | exact binds_K (by k_in) rfl (by k_is) rfl rfl rfl); (case c5 => decide); (case kB => exact locs rfl); (case c2 => exact rfl); (case c3 => exact rfl); (case c4 => exact rfl); k_whole; intro g' L' h' FG' F' N' B' X' T'; (try dsimp only); (try k_lift B'); (try k_fold))
  k_steps
  all_goals
    (refine' endI (Q := Q) (s := s) hret ?e1 ?e2 ?e3 ?e4; (case e2 => k_asm); (case e3 => k_asm); (case e4 => (first | (intro p9 hp9; (repeat (first | (with_reducible exact hp9) | (with_reducible exact List.mem_append_left _ hp9) | (with_reducible exact List.mem_append_right _ hp9) | (with_reducible refine List.mem_cons_of_mem _ ?_))); done) | kcj_all)); (case e1 => (unfold numF; simp_all; done)))

end law_number
section law_whole
theorem reset_law_whole : True := by (w_top off; k_with_none; exact trivial)
noncomputable def wholeF (ws : List Int) : Int := ws.foldl (fun a w => 65536 * a + w) 0
theorem wholeF_snoc (ws : List Int) (w : Int) : wholeF (ws ++ [w]) = 65536 * wholeF ws + w := by simp [wholeF, List.foldl_append]

set_option maxHeartbeats 8000000 in
theorem law_whole_spec (w : World) (mean : ExcName → Option Value) (mg mb : Str → Option Value) (news : Led) (l : Addr) (vs : List Value) (n : Nat) (ns : List Int) (hl : (l, listOf vs.toArray n) ∈ news) (hi : IntsAre vs ns) :
    Spec w mean mg mb 123 1 8 news [.ref l] (RInt (wholeF ns)) := by
  k_with_none
  k_with "mine pyIter ref" => k_extra "my iter"
  k_with "mine exec For" => (k_extra "my for"; (rename Fr _ _ _ _ => lF'); (with_unfolding_all refine' For_invVF lF' ?k1 ?k2 ?_; (case k1 => exact rfl); (case k2 => exact rfl); k_whole))
  k_with "kmk nums" => first | with_reducible exact kmk_all (by l_ints) | (with_reducible refine kmk_from (by l_ints) ?_; first | assumption | omega) | (with_reducible refine kmk_upto (by l_ints) ?_; first | assumption | omega) | (with_reducible refine kmk_run (by l_ints) ?_ ?_ <;> first | assumption | omega)
  k_with "room" => exact roomA (by with_reducible assumption) rfl
  k_with "mine eval Name" => (k_here; k_dflt (refine' nameX_L ?F ?v ?_ ?a ?b; (case F => k_asm); (case a => exact rfl); (case b => exact Eq.refl (some _)); (case v => exact Eq.refl (some _)); k_whole))
  k_with "mine And" => ((with_reducible show Frag.In _ _ ∧ _); k_dflt (refine ⟨Frag.In.keeps (by k_asm) (Fr.keep (by k_asm)), ?_⟩))
  k_with "mine call ref" => (k_here; (with_reducible show wpAny _ _ (PySem.call (Value.ref 130) _ _) _ _ _); k_dflt (refine' Spec.use ?k1 ?k2 ?k3 ?k4 ?k5 ?kK (law_sum_spec _ _ _ _ _ _ _) ?kd ?ku (retI ?_); (case k1 => k_asm); (case k2 => k_asm); (case k3 => k_asm); (case k4 => k_asm); (case k5 => k_asm); (case kK => first | exact rfl | assumption); (case kd => first | ktr_room | fail "law_sum_spec: room"); (case ku => first | ktr_units | fail "law_sum_spec: units"); k_whole); intro t9q h9q tk9q F9q N9q; (try dsimp only); (try k_fold))
  k_with "pyIter ref" => k_state (fun pre (whole : Int) => whole = wholeF pre) "whole"
  k_with "state" => (first | rfl | (simp only [wholeF_snoc]; simp_all; done))
  unfold Spec Tp; k_fill
  intro dp un gd cn cs a ccd cl outer A₀ base h₀ L m s Q E B F X N T hk hd hu hret
  replace N := newsCons N hl
  refine wpAny_call ?_
  k_dflt (refine' code_def ?k1 ?k2 ?k3 ?k4 ?k5 ?kA ?kF ?kK ?k6 ?k7 ?k8 ?k9 ?kB ?_ ?c2 ?c3 ?c4 ?c5; (case kA => exact rfl); (case kF => exact rfl); (case kK => assumption); (case k1 => k_asm); (case k2 => k_asm); (case k3 => k_asm); (case k4 => k_asm); (case k5 => k_asm); (case k6 => k_is); (case k7 => k_is); (case k8 => ktr_room); (case k9 => first | exact BindsTo.of_eq rfl | exact binds_K (by k_in) rfl (by k_is) rfl rfl rfl); (case c5 => decide); (case kB => exact locs rfl); (case c2 => exact rfl); (case c3 => exact rfl); (case c4 => exact rfl); k_whole; intro g' L' h' FG' F' N' B' X' T'; (try dsimp only); (try k_lift B'); (try k_fold))
  k_steps
  all_goals
    (refine' endI (Q := Q) (s := s) hret ?e1 ?e2 ?e3 ?e4; (case e2 => k_asm); (case e3 => k_asm); (case e4 => (first | (intro p9 hp9; (repeat (first | (with_reducible exact hp9) | (with_reducible exact List.mem_append_left _ hp9) | (with_reducible exact List.mem_append_right _ hp9) | (with_reducible refine List.mem_cons_of_mem _ ?_))); done) | kcj_all)); (case e1 => assumption))

end law_whole
section sum16
theorem reset_sum16 : True := by (w_top off; k_with_none; exact trivial)
/- the sum of the first i words of the octets ks -/
noncomputable def wpre (ks : List Int) : Nat → Int
  | 0 => 0
  | i + 1 => wpre ks i + (256 * ks.getD (2 * i) 0 + ks.getD (2 * i + 1) 0)
noncomputable def wsum (ks : List Int) : Int := wpre ks (ks.length / 2) + (if ks.length % 2 = 1 then 256 * ks.getD (ks.length - 1) 0 else 0)
/- the ranges of the words' places, for all lengths that come -/
theorem small_len : ∀ l : Nat, l < 100 → (Builtin.Range.small 0 ((l : Int) - 1) 2 = true ∧ Builtin.Range.small 0 (l : Int) 2 = true) ∧ Builtin.Range.rangeSize 0 ((l : Int) - 1) 2 = ((l / 2 : Nat) : Int) ∧ (l % 2 = 0 → Builtin.Range.rangeSize 0 (l : Int) 2 = ((l / 2 : Nat) : Int)) := by decide +kernel
theorem wp_at (i : Nat) : (0 + (i : Int) * 2).toNat = 2 * i ∧ (0 + (i : Int) * 2 + 1).toNat = 2 * i + 1 := by
  rw [Int.zero_add, Int.mul_comm]; exact ⟨rfl, rfl⟩
theorem bInts_getD {b : Array UInt8} {ks : List Int} (hb : KBw.bInts b = ks) (j : Nat) : 0 ≤ ks.getD j 0 ∧ ks.getD j 0 < 256 := by
  subst hb
  exact KBw.getD_in fun k hk => KBw.ints_in hk
theorem word_nn {a b : Int} (ha : 0 ≤ a ∧ a < 256) (hb : 0 ≤ b ∧ b < 256) : 0 ≤ 256 * a + b ∧ 256 * a + b ≤ 65535 := by omega
theorem wpre_nonneg {b : Array UInt8} {ks : List Int} (hb : KBw.bInts b = ks) : ∀ i, 0 ≤ wpre ks i
  | 0 => Int.le_refl 0
  | i + 1 => Int.add_nonneg (wpre_nonneg hb i) (word_nn (bInts_getD hb (2 * i)) (bInts_getD hb (2 * i + 1))).1
theorem and_shl (k : Nat) : ∀ x y : Int, Builtin.bitAnd (2 ^ k * x) y = 2 ^ k * Builtin.bitAnd x (y / 2 ^ k) := by
  induction k with
  | zero => intro x y; rw [Int.pow_zero, Int.one_mul, Int.one_mul, Int.ediv_one]
  | succ k ih =>
    intro x y
    rw [Int.pow_succ', Int.mul_assoc, kbt_halves, Int.mul_emod_right, if_neg (fun h => absurd h.1 (by decide)), Int.mul_ediv_cancel_left _ (by decide), Int.add_zero, ih, Int.ediv_ediv_of_nonneg (by decide), ← Int.mul_assoc]
theorem orWord {a b : Int} (h0 : 0 ≤ b) (h1 : b < 256) : Builtin.bitOr (a * 2 ^ Int.toNat 8) b = 256 * a + b := by
  have hx := bitXor_and (a * 2 ^ Int.toNat 8) b
  have z := bitAnd_range a (Int.le_refl 0)
  have e : Builtin.bitAnd (a * 2 ^ Int.toNat 8) b = 0 := by
    rw [Int.mul_comm, and_shl, show b / 2 ^ Int.toNat 8 = 0 from Int.ediv_eq_zero_of_lt h0 h1, Int.le_antisymm z.2 z.1, Int.mul_zero]
  unfold Builtin.bitXor at hx
  rw [e, Int.mul_zero, Int.sub_zero, Int.sub_zero, Int.mul_comm] at hx
  rw [Int.mul_comm]
  exact hx
theorem odd_len {n : Nat} : ((n : Nat) : Int).fmod 2 = 1 ↔ n % 2 = 1 := by
  rw [Int.fmod_eq_emod_of_nonneg _ (by decide)]
  exact Int.ofNat_inj (m := n % 2) (n := 1)
theorem sum16_odd {ks : List Int} {st : Int} (h : ((ks.length : Nat) : Int).fmod 2 = 1) : st + wpre ks (ks.length / 2) + ks.getD ((ks.length : Int) - 1).toNat 0 * 2 ^ Int.toNat 8 = st + wsum ks := by
  unfold wsum
  rw [if_pos (odd_len.mp h), show ((ks.length : Int) - 1).toNat = ks.length - 1 from Int.toNat_sub _ 1, Int.mul_comm, Int.add_assoc]
  rfl
theorem sum16_even {ks : List Int} {st : Int} (h : ((ks.length : Nat) : Int).fmod 2 ≠ 1) : st + wpre ks (ks.length / 2) = st + wsum ks := by
  unfold wsum
  rw [if_neg fun e => h (odd_len.mpr e), Int.add_zero]

set_option maxHeartbeats 8000000 in
theorem sum16_gen (w : World) (mean : ExcName → Option Value) (mg mb : Str → Option Value) (news : Led) (vs : List Value) (b : Array UInt8) (ks : List Int) (st : Int) (t1 t2 : Tok) (hb : KBw.bInts b = ks) (hlen : ks.length < 100) (h0 : 0 ≤ st)
    (hbd : ∀ (s : Shared) (fd : FuncData) (oc : Value) (od : Option Addr) (osl : Array (Option Value)), (hd.heap_39 w.params).In s.heap → (hd.heap_39 w.params).lookup 66 = some ⟨oc, od, .func fd, osl⟩ → BindsTo s fd ⟨vs, []⟩ [(Str.ofString "octets", .bytes b t1), (Str.ofString "start", .int st t2)]) :
    Spec w mean mg mb 66 2 16 news vs (RInt (sumF (st + wsum ks))) := by
  k_with_none
  k_with "mine pyIter ref" => k_extra "my iter"
  k_with "mine exec For" => (k_extra "my for"; (rename Fr _ _ _ _ => lF'); (with_unfolding_all refine' For_invVF lF' ?k1 ?k2 ?_; (case k1 => exact rfl); (case k2 => exact rfl); k_whole))
  k_with "kmk nums" => first | with_reducible exact kmk_all (by l_ints) | (with_reducible refine kmk_from (by l_ints) ?_; first | assumption | omega) | (with_reducible refine kmk_upto (by l_ints) ?_; first | assumption | omega) | (with_reducible refine kmk_run (by l_ints) ?_ ?_ <;> first | assumption | omega)
  k_with "room" => exact roomA (by with_reducible assumption) rfl
  k_with "mine eval Name" => (k_here; k_dflt (refine' nameX_L ?F ?v ?_ ?a ?b; (case F => k_asm); (case a => exact rfl); (case b => exact Eq.refl (some _)); (case v => exact Eq.refl (some _)); k_whole))
  k_with "mine And" => ((with_reducible show Frag.In _ _ ∧ _); k_dflt (refine ⟨Frag.In.keeps (by k_asm) (Fr.keep (by k_asm)), ?_⟩))
  k_with "mine call ref" => (k_here; (with_reducible show wpAny _ _ (PySem.call (Value.ref 130) _ _) _ _ _); k_dflt (refine' Spec.use ?k1 ?k2 ?k3 ?k4 ?k5 ?kK (law_sum_spec _ _ _ _ _ _ _) ?kd ?ku (retI ?_); (case k1 => k_asm); (case k2 => k_asm); (case k3 => k_asm); (case k4 => k_asm); (case k5 => k_asm); (case kK => first | exact rfl | assumption); (case kd => first | ktr_room | fail "law_sum_spec: room"); (case ku => first | ktr_units | fail "law_sum_spec: units"); k_whole); intro t9q h9q tk9q F9q N9q; (try dsimp only); (try k_fold))
  k_with "mine call ref" => (k_here; (with_reducible show wpAny _ _ (PySem.call (Value.ref 58) _ _) _ _ _); k_dflt (refine' Spec.use ?k1 ?k2 ?k3 ?k4 ?k5 ?kK (folded_spec _ _ _ _ _ _ _ ?p1) ?kd ?ku (retI ?_); (case k1 => k_asm); (case k2 => k_asm); (case k3 => k_asm); (case k4 => k_asm); (case k5 => k_asm); (case kK => first | exact rfl | assumption); (case p1 => first | (first | omega | exact Int.add_nonneg (by omega) (Int.mul_nonneg (by omega) (by decide))) | fail "folded_spec: p1"); (case kd => first | ktr_room | fail "folded_spec: room"); (case ku => first | ktr_units | fail "folded_spec: units"); k_whole); intro t9q h9q tk9q F9q N9q; (try dsimp only); (try k_fold))
  unfold Spec Tp; k_fill
  intro dp un gd cn cs a ccd cl outer A₀ base h₀ L m s Q E B F X N T hk hd hu hret
  refine wpAny_call ?_
  k_dflt (refine' code_def ?k1 ?k2 ?k3 ?k4 ?k5 ?kA ?kF ?kK ?k6 ?k7 ?k8 ?k9 ?kB ?_ ?c2 ?c3 ?c4 ?c5; (case kA => exact rfl); (case kF => exact rfl); (case kK => assumption); (case k1 => k_asm); (case k2 => k_asm); (case k3 => k_asm); (case k4 => k_asm); (case k5 => k_asm); (case k6 => k_is); (case k7 => k_is); (case k8 => ktr_room); (case k9 => exact hbd _ _ _ _ _ (X.keeps F.keep) rfl); (case c5 => decide); (case kB => exact locs rfl); (case c2 => exact rfl); (case c3 => exact rfl); (case c4 => exact rfl); k_whole; intro g' L' h' FG' F' N' B' X' T'; (try dsimp only); (try k_lift B'); (try k_fold))
  k_steps
  rename IsRange _ _ _ _ _ _ _ _ => hR
  rename Fr _ _ _ _ => F1
  rename News _ _ _ _ => N1
  with_unfolding_all refine' rngInt (n := ks.length / 2) (y := Str.ofString "total") (news := news) (fun i => st + wpre ks i) (by rfl) hR ?small ?size F1 N1 (by rfl) ?zero (fun i t ta h tk own hi hoff F2 N2 => ?turn) (fun u t h tk F3 N3 => ?done)
  case small => exact (small_len _ hlen).1.1
  case size => exact (small_len _ hlen).2.1
  case zero => exact (Int.add_zero st).symm
  case turn =>
    k_steps
    refine oneInt_end (by assumption) (by assumption) (by rfl) ?_ (by k_same2) (by (first | (intro p9 hp9; (repeat (first | (with_reducible exact hp9) | (with_reducible exact List.mem_append_left _ hp9) | (with_reducible exact List.mem_append_right _ hp9) | (with_reducible refine List.mem_cons_of_mem _ ?_))); done) | kcj_all)) (by (first | (intro p9 hp9; (repeat (first | (with_reducible exact hp9) | (with_reducible exact List.mem_append_left _ hp9) | (with_reducible exact List.mem_append_right _ hp9) | (with_reducible refine List.mem_cons_of_mem _ ?_))); done) | kcj_all))
    simp only [(wp_at i).1, (wp_at i).2] at *
    rw [orWord (by assumption) (by assumption)]
    exact Int.add_assoc _ _ _
  case done =>
    have hw := wpre_nonneg hb (ks.length / 2)
    dsimp only [envOf] at F3 N3
    (try k_fold)
    k_steps
    all_goals
      (refine' endI (Q := Q) (s := s) hret ?e1 ?e2 ?e3 ?e4; (case e2 => k_asm); (case e3 => k_asm); (case e4 => (first | (intro p9 hp9; (repeat (first | (with_reducible exact hp9) | (with_reducible exact List.mem_append_left _ hp9) | (with_reducible exact List.mem_append_right _ hp9) | (with_reducible refine List.mem_cons_of_mem _ ?_))); done) | kcj_all)); (case e1 => first | exact congrArg sumF (sum16_odd (by assumption)) | exact congrArg sumF (sum16_even (by assumption))))
set_option maxHeartbeats 8000000 in
theorem sum16_spec (w : World) (mean : ExcName → Option Value) (mg mb : Str → Option Value) (news : Led) (b : Array UInt8) (ks : List Int) (st : Int) (t1 t2 : Tok) (hb : KBw.bInts b = ks) (hlen : ks.length < 100) (h0 : 0 ≤ st) :
    Spec w mean mg mb 66 2 16 news [.bytes b t1, .int st t2] (RInt (sumF (st + wsum ks))) := by
  k_with_none
  k_with "mine pyIter ref" => k_extra "my iter"
  k_with "mine exec For" => (k_extra "my for"; (rename Fr _ _ _ _ => lF'); (with_unfolding_all refine' For_invVF lF' ?k1 ?k2 ?_; (case k1 => exact rfl); (case k2 => exact rfl); k_whole))
  k_with "kmk nums" => first | with_reducible exact kmk_all (by l_ints) | (with_reducible refine kmk_from (by l_ints) ?_; first | assumption | omega) | (with_reducible refine kmk_upto (by l_ints) ?_; first | assumption | omega) | (with_reducible refine kmk_run (by l_ints) ?_ ?_ <;> first | assumption | omega)
  k_with "room" => exact roomA (by with_reducible assumption) rfl
  k_with "mine eval Name" => (k_here; k_dflt (refine' nameX_L ?F ?v ?_ ?a ?b; (case F => k_asm); (case a => exact rfl); (case b => exact Eq.refl (some _)); (case v => exact Eq.refl (some _)); k_whole))
  k_with "mine And" => ((with_reducible show Frag.In _ _ ∧ _); k_dflt (refine ⟨Frag.In.keeps (by k_asm) (Fr.keep (by k_asm)), ?_⟩))
  k_with "mine call ref" => (k_here; (with_reducible show wpAny _ _ (PySem.call (Value.ref 130) _ _) _ _ _); k_dflt (refine' Spec.use ?k1 ?k2 ?k3 ?k4 ?k5 ?kK (law_sum_spec _ _ _ _ _ _ _) ?kd ?ku (retI ?_); (case k1 => k_asm); (case k2 => k_asm); (case k3 => k_asm); (case k4 => k_asm); (case k5 => k_asm); (case kK => first | exact rfl | assumption); (case kd => first | ktr_room | fail "law_sum_spec: room"); (case ku => first | ktr_units | fail "law_sum_spec: units"); k_whole); intro t9q h9q tk9q F9q N9q; (try dsimp only); (try k_fold))
  k_with "mine call ref" => (k_here; (with_reducible show wpAny _ _ (PySem.call (Value.ref 58) _ _) _ _ _); k_dflt (refine' Spec.use ?k1 ?k2 ?k3 ?k4 ?k5 ?kK (folded_spec _ _ _ _ _ _ _ ?p1) ?kd ?ku (retI ?_); (case k1 => k_asm); (case k2 => k_asm); (case k3 => k_asm); (case k4 => k_asm); (case k5 => k_asm); (case kK => first | exact rfl | assumption); (case p1 => first | (first | omega | exact Int.add_nonneg (by omega) (Int.mul_nonneg (by omega) (by decide))) | fail "folded_spec: p1"); (case kd => first | ktr_room | fail "folded_spec: room"); (case ku => first | ktr_units | fail "folded_spec: units"); k_whole); intro t9q h9q tk9q F9q N9q; (try dsimp only); (try k_fold))
  k_fill
  refine sum16_gen w mean mg mb news [.bytes b t1, .int st t2] b ks st t1 t2 hb hlen h0 ?_
  intro s fd oc od osl X e
  have e := (show (hd.heap_39 w.params).lookup 66 = some _ from rfl).symm.trans e
  injection e with e
  injection e with _ _ e _
  injection e with e
  subst e
  exact binds_K X rfl (by k_is) rfl rfl rfl
set_option maxHeartbeats 8000000 in
theorem sum16_spec1 (w : World) (mean : ExcName → Option Value) (mg mb : Str → Option Value) (news : Led) (b : Array UInt8) (ks : List Int) (t1 : Tok) (hb : KBw.bInts b = ks) (hlen : ks.length < 100) :
    Spec w mean mg mb 66 2 16 news [.bytes b t1] (RInt (sumF (wsum ks))) := by
  k_with_none
  k_with "mine pyIter ref" => k_extra "my iter"
  k_with "mine exec For" => (k_extra "my for"; (rename Fr _ _ _ _ => lF'); (with_unfolding_all refine' For_invVF lF' ?k1 ?k2 ?_; (case k1 => exact rfl); (case k2 => exact rfl); k_whole))
  k_with "kmk nums" => first | with_reducible exact kmk_all (by l_ints) | (with_reducible refine kmk_from (by l_ints) ?_; first | assumption | omega) | (with_reducible refine kmk_upto (by l_ints) ?_; first | assumption | omega) | (with_reducible refine kmk_run (by l_ints) ?_ ?_ <;> first | assumption | omega)
  k_with "room" => exact roomA (by with_reducible assumption) rfl
  k_with "mine eval Name" => (k_here; k_dflt (refine' nameX_L ?F ?v ?_ ?a ?b; (case F => k_asm); (case a => exact rfl); (case b => exact Eq.refl (some _)); (case v => exact Eq.refl (some _)); k_whole))
  k_with "mine And" => ((with_reducible show Frag.In _ _ ∧ _); k_dflt (refine ⟨Frag.In.keeps (by k_asm) (Fr.keep (by k_asm)), ?_⟩))
  k_with "mine call ref" => (k_here; (with_reducible show wpAny _ _ (PySem.call (Value.ref 130) _ _) _ _ _); k_dflt (refine' Spec.use ?k1 ?k2 ?k3 ?k4 ?k5 ?kK (law_sum_spec _ _ _ _ _ _ _) ?kd ?ku (retI ?_); (case k1 => k_asm); (case k2 => k_asm); (case k3 => k_asm); (case k4 => k_asm); (case k5 => k_asm); (case kK => first | exact rfl | assumption); (case kd => first | ktr_room | fail "law_sum_spec: room"); (case ku => first | ktr_units | fail "law_sum_spec: units"); k_whole); intro t9q h9q tk9q F9q N9q; (try dsimp only); (try k_fold))
  k_with "mine call ref" => (k_here; (with_reducible show wpAny _ _ (PySem.call (Value.ref 58) _ _) _ _ _); k_dflt (refine' Spec.use ?k1 ?k2 ?k3 ?k4 ?k5 ?kK (folded_spec _ _ _ _ _ _ _ ?p1) ?kd ?ku (retI ?_); (case k1 => k_asm); (case k2 => k_asm); (case k3 => k_asm); (case k4 => k_asm); (case k5 => k_asm); (case kK => first | exact rfl | assumption); (case p1 => first | (first | omega | exact Int.add_nonneg (by omega) (Int.mul_nonneg (by omega) (by decide))) | fail "folded_spec: p1"); (case kd => first | ktr_room | fail "folded_spec: room"); (case ku => first | ktr_units | fail "folded_spec: units"); k_whole); intro t9q h9q tk9q F9q N9q; (try dsimp only); (try k_fold))
  k_fill
  rw [← Int.zero_add (wsum ks)]
  refine' sum16_gen w mean mg mb news [.bytes b t1] b ks 0 t1 250 hb hlen (Int.le_refl 0) ?_
  intro s fd oc od osl X e
  have e := (show (hd.heap_39 w.params).lookup 66 = some _ from rfl).symm.trans e
  injection e with e
  injection e with _ _ e _
  injection e with e
  subst e
  exact binds_K X rfl (by k_is) rfl rfl rfl

end sum16
section check_of
theorem reset_check_of : True := by (w_top off; k_with_none; exact trivial)
set_option maxHeartbeats 8000000 in
theorem check_of_spec (w : World) (mean : ExcName → Option Value) (mg mb : Str → Option Value) (news : Led) (b : Array UInt8) (ks : List Int) (st : Int) (t1 t2 : Tok) (hb : KBw.bInts b = ks) (hlen : ks.length < 100) (h0 : 0 ≤ st) :
    Spec w mean mg mb 74 3 24 news [.bytes b t1, .int st t2] (RInt (65535 - sumF (st + wsum ks))) := by
  k_with_none
  k_with "mine pyIter ref" => k_extra "my iter"
  k_with "mine exec For" => (k_extra "my for"; (rename Fr _ _ _ _ => lF'); (with_unfolding_all refine' For_invVF lF' ?k1 ?k2 ?_; (case k1 => exact rfl); (case k2 => exact rfl); k_whole))
  k_with "kmk nums" => first | with_reducible exact kmk_all (by l_ints) | (with_reducible refine kmk_from (by l_ints) ?_; first | assumption | omega) | (with_reducible refine kmk_upto (by l_ints) ?_; first | assumption | omega) | (with_reducible refine kmk_run (by l_ints) ?_ ?_ <;> first | assumption | omega)
  k_with "room" => exact roomA (by with_reducible assumption) rfl
  k_with "mine eval Name" => (k_here; k_dflt (refine' nameX_L ?F ?v ?_ ?a ?b; (case F => k_asm); (case a => exact rfl); (case b => exact Eq.refl (some _)); (case v => exact Eq.refl (some _)); k_whole))
  k_with "mine And" => ((with_reducible show Frag.In _ _ ∧ _); k_dflt (refine ⟨Frag.In.keeps (by k_asm) (Fr.keep (by k_asm)), ?_⟩))
  k_with "mine call ref" => (k_here; (with_reducible show wpAny _ _ (PySem.call (Value.ref 130) _ _) _ _ _); k_dflt (refine' Spec.use ?k1 ?k2 ?k3 ?k4 ?k5 ?kK (law_sum_spec _ _ _ _ _ _ _) ?kd ?ku (retI ?_); (case k1 => k_asm); (case k2 => k_asm); (case k3 => k_asm); (case k4 => k_asm); (case k5 => k_asm); (case kK => first | exact rfl | assumption); (case kd => first | ktr_room | fail "law_sum_spec: room"); (case ku => first | ktr_units | fail "law_sum_spec: units"); k_whole); intro t9q h9q tk9q F9q N9q; (try dsimp only); (try k_fold))
  k_with "mine call ref" => (k_here; (with_reducible show wpAny _ _ (PySem.call (Value.ref 58) _ _) _ _ _); k_dflt (refine' Spec.use ?k1 ?k2 ?k3 ?k4 ?k5 ?kK (folded_spec _ _ _ _ _ _ _ ?p1) ?kd ?ku (retI ?_); (case k1 => k_asm); (case k2 => k_asm); (case k3 => k_asm); (case k4 => k_asm); (case k5 => k_asm); (case kK => first | exact rfl | assumption); (case p1 => first | (first | omega | exact Int.add_nonneg (by omega) (Int.mul_nonneg (by omega) (by decide))) | fail "folded_spec: p1"); (case kd => first | ktr_room | fail "folded_spec: room"); (case ku => first | ktr_units | fail "folded_spec: units"); k_whole); intro t9q h9q tk9q F9q N9q; (try dsimp only); (try k_fold))
  k_with "mine call ref" => (k_here; (with_reducible show wpAny _ _ (PySem.call (Value.ref 66) _ _) _ _ _); k_dflt (refine' Spec.use ?k1 ?k2 ?k3 ?k4 ?k5 ?kK (sum16_spec _ _ _ _ _ _ _ _ _ _ ?p1 ?p2 ?p3) ?kd ?ku (retI ?_); (case k1 => k_asm); (case k2 => k_asm); (case k3 => k_asm); (case k4 => k_asm); (case k5 => k_asm); (case kK => first | exact rfl | assumption); (case p1 => first | assumption | fail "sum16_spec: p1"); (case p2 => first | (first | with_reducible assumption | (with_reducible refine take_lt ?_ _; with_reducible assumption) | (with_reducible refine dt_lt ?_ _ _; with_reducible assumption) | (with_reducible refine oct_lt ?_; with_reducible assumption) | (with_reducible refine map_lt ?_; with_reducible assumption) | assumption | omega | ((simp only [octF_len, List.length_append, List.length_cons, List.length_nil, List.length_map, List.length_take, List.length_drop]); omega)) | fail "sum16_spec: p2"); (case p3 => first | (first | assumption | exact sumF_nonneg _ | omega) | fail "sum16_spec: p3"); (case kd => first | ktr_room | fail "sum16_spec: room"); (case ku => first | ktr_units | fail "sum16_spec: units"); k_whole); intro t9q h9q tk9q F9q N9q; (try dsimp only); (try k_fold))
  unfold Spec Tp; k_fill
  intro dp un gd cn cs a ccd cl outer A₀ base h₀ L m s Q E B F X N T hk hd hu hret
  refine wpAny_call ?_
  k_dflt (refine' code_def ?k1 ?k2 ?k3 ?k4 ?k5 ?kA ?kF ?kK ?k6 ?k7 ?k8 ?k9 ?kB ?_ ?c2 ?c3 ?c4 ?c5; (case kA => exact rfl); (case kF => exact rfl); (case kK => assumption); (case k1 => k_asm); (case k2 => k_asm); (case k3 => k_asm); (case k4 => k_asm); (case k5 => k_asm); (case k6 => k_is); (case k7 => k_is); (case k8 => ktr_room); (case k9 => first | exact BindsTo.of_eq rfl | exact binds_K (by k_in) rfl (by k_is) rfl rfl rfl); (case c5 => decide); (case kB => exact locs rfl); (case c2 => exact rfl); (case c3 => exact rfl); (case c4 => exact rfl); k_whole; intro g' L' h' FG' F' N' B' X' T'; (try dsimp only); (try k_lift B'); (try k_fold))
  k_steps
  all_goals
    (refine' endI (Q := Q) (s := s) hret ?e1 ?e2 ?e3 ?e4; (case e2 => k_asm); (case e3 => k_asm); (case e4 => (first | (intro p9 hp9; (repeat (first | (with_reducible exact hp9) | (with_reducible exact List.mem_append_left _ hp9) | (with_reducible exact List.mem_append_right _ hp9) | (with_reducible refine List.mem_cons_of_mem _ ?_))); done) | kcj_all)); (case e1 => rfl))

set_option maxHeartbeats 8000000 in
theorem check_of_spec1 (w : World) (mean : ExcName → Option Value) (mg mb : Str → Option Value) (news : Led) (b : Array UInt8) (ks : List Int) (t1 : Tok) (hb : KBw.bInts b = ks) (hlen : ks.length < 100) :
    Spec w mean mg mb 74 3 24 news [.bytes b t1] (RInt (65535 - sumF (wsum ks))) := by
  k_with_none
  k_with "mine pyIter ref" => k_extra "my iter"
  k_with "mine exec For" => (k_extra "my for"; (rename Fr _ _ _ _ => lF'); (with_unfolding_all refine' For_invVF lF' ?k1 ?k2 ?_; (case k1 => exact rfl); (case k2 => exact rfl); k_whole))
  k_with "kmk nums" => first | with_reducible exact kmk_all (by l_ints) | (with_reducible refine kmk_from (by l_ints) ?_; first | assumption | omega) | (with_reducible refine kmk_upto (by l_ints) ?_; first | assumption | omega) | (with_reducible refine kmk_run (by l_ints) ?_ ?_ <;> first | assumption | omega)
  k_with "room" => exact roomA (by with_reducible assumption) rfl
  k_with "mine eval Name" => (k_here; k_dflt (refine' nameX_L ?F ?v ?_ ?a ?b; (case F => k_asm); (case a => exact rfl); (case b => exact Eq.refl (some _)); (case v => exact Eq.refl (some _)); k_whole))
  k_with "mine And" => ((with_reducible show Frag.In _ _ ∧ _); k_dflt (refine ⟨Frag.In.keeps (by k_asm) (Fr.keep (by k_asm)), ?_⟩))
  k_with "mine call ref" => (k_here; (with_reducible show wpAny _ _ (PySem.call (Value.ref 130) _ _) _ _ _); k_dflt (refine' Spec.use ?k1 ?k2 ?k3 ?k4 ?k5 ?kK (law_sum_spec _ _ _ _ _ _ _) ?kd ?ku (retI ?_); (case k1 => k_asm); (case k2 => k_asm); (case k3 => k_asm); (case k4 => k_asm); (case k5 => k_asm); (case kK => first | exact rfl | assumption); (case kd => first | ktr_room | fail "law_sum_spec: room"); (case ku => first | ktr_units | fail "law_sum_spec: units"); k_whole); intro t9q h9q tk9q F9q N9q; (try dsimp only); (try k_fold))
  k_with "mine call ref" => (k_here; (with_reducible show wpAny _ _ (PySem.call (Value.ref 58) _ _) _ _ _); k_dflt (refine' Spec.use ?k1 ?k2 ?k3 ?k4 ?k5 ?kK (folded_spec _ _ _ _ _ _ _ ?p1) ?kd ?ku (retI ?_); (case k1 => k_asm); (case k2 => k_asm); (case k3 => k_asm); (case k4 => k_asm); (case k5 => k_asm); (case kK => first | exact rfl | assumption); (case p1 => first | (first | omega | exact Int.add_nonneg (by omega) (Int.mul_nonneg (by omega) (by decide))) | fail "folded_spec: p1"); (case kd => first | ktr_room | fail "folded_spec: room"); (case ku => first | ktr_units | fail "folded_spec: units"); k_whole); intro t9q h9q tk9q F9q N9q; (try dsimp only); (try k_fold))
  k_with "mine call ref" => (k_here; (with_reducible show wpAny _ _ (PySem.call (Value.ref 66) _ _) _ _ _); k_dflt (refine' Spec.use ?k1 ?k2 ?k3 ?k4 ?k5 ?kK (sum16_spec _ _ _ _ _ _ _ _ _ _ ?p1 ?p2 ?p3) ?kd ?ku (retI ?_); (case k1 => k_asm); (case k2 => k_asm); (case k3 => k_asm); (case k4 => k_asm); (case k5 => k_asm); (case kK => first | exact rfl | assumption); (case p1 => first | assumption | fail "sum16_spec: p1"); (case p2 => first | (first | with_reducible assumption | (with_reducible refine take_lt ?_ _; with_reducible assumption) | (with_reducible refine dt_lt ?_ _ _; with_reducible assumption) | (with_reducible refine oct_lt ?_; with_reducible assumption) | (with_reducible refine map_lt ?_; with_reducible assumption) | assumption | omega | ((simp only [octF_len, List.length_append, List.length_cons, List.length_nil, List.length_map, List.length_take, List.length_drop]); omega)) | fail "sum16_spec: p2"); (case p3 => first | (first | assumption | exact sumF_nonneg _ | omega) | fail "sum16_spec: p3"); (case kd => first | ktr_room | fail "sum16_spec: room"); (case ku => first | ktr_units | fail "sum16_spec: units"); k_whole); intro t9q h9q tk9q F9q N9q; (try dsimp only); (try k_fold))
  unfold Spec Tp; k_fill
  intro dp un gd cn cs a ccd cl outer A₀ base h₀ L m s Q E B F X N T hk hd hu hret
  refine wpAny_call ?_
  k_dflt (refine' code_def ?k1 ?k2 ?k3 ?k4 ?k5 ?kA ?kF ?kK ?k6 ?k7 ?k8 ?k9 ?kB ?_ ?c2 ?c3 ?c4 ?c5; (case kA => exact rfl); (case kF => exact rfl); (case kK => assumption); (case k1 => k_asm); (case k2 => k_asm); (case k3 => k_asm); (case k4 => k_asm); (case k5 => k_asm); (case k6 => k_is); (case k7 => k_is); (case k8 => ktr_room); (case k9 => first | exact BindsTo.of_eq rfl | exact binds_K (by k_in) rfl (by k_is) rfl rfl rfl); (case c5 => decide); (case kB => exact locs rfl); (case c2 => exact rfl); (case c3 => exact rfl); (case c4 => exact rfl); k_whole; intro g' L' h' FG' F' N' B' X' T'; (try dsimp only); (try k_lift B'); (try k_fold))
  k_steps
  all_goals
    (refine' endI (Q := Q) (s := s) hret ?e1 ?e2 ?e3 ?e4; (case e2 => k_asm); (case e3 => k_asm); (case e4 => (first | (intro p9 hp9; (repeat (first | (with_reducible exact hp9) | (with_reducible exact List.mem_append_left _ hp9) | (with_reducible exact List.mem_append_right _ hp9) | (with_reducible refine List.mem_cons_of_mem _ ?_))); done) | kcj_all)); (case e1 => exact congrArg (fun x => 65535 - sumF x) (Int.zero_add _)))

end check_of
section mend_ok
theorem reset_mend_ok : True := by (w_top off; k_with_none; exact trivial)
noncomputable def mendF (c : Int) (ko kn : List Int) : Int := 65535 - sumF (65535 - c + 65535 * ((ko.length / 2 : Nat) : Int) - wpre ko (ko.length / 2) + wpre kn (ko.length / 2))
theorem mendF_le (c : Int) (ko kn : List Int) : mendF c ko kn ≤ 65535 := Int.sub_le_self _ (sumF_nonneg _)
theorem wpre_le {b : Array UInt8} {ks : List Int} (hb : KBw.bInts b = ks) : ∀ i : Nat, wpre ks i ≤ 65535 * (i : Int)
  | 0 => Int.le_refl 0
  | i + 1 => by
    rw [Int.natCast_succ, Int.mul_add]
    exact Int.add_le_add (wpre_le hb i) (word_nn (bInts_getD hb (2 * i)) (bInts_getD hb (2 * i + 1))).2
theorem mend_turn {c i a b x y v : Int} (hv : v = 65535 - c + 65535 * i - a + b) : v + 65535 - x + y = 65535 - c + 65535 * (i + 1) - (a + x) + (b + y) := by rw [hv]; clear hv; omega

set_option maxHeartbeats 8000000 in
theorem mend_spec (w : World) (mean : ExcName → Option Value) (mg mb : Str → Option Value) (news : Led) (c : Int) (bo bn : Array UInt8) (ko kn : List Int) (t1 t2 t3 : Tok) (ho : KBw.bInts bo = ko) (hn : KBw.bInts bn = kn)
    (hlen : ko.length < 100) (hsame : kn.length = ko.length) (heven : ko.length % 2 = 0) (hc : c ≤ 65535) :
    Spec w mean mg mb 81 2 16 news [.int c t1, .bytes bo t2, .bytes bn t3] (RInt (mendF c ko kn)) := by
  k_with_none
  k_with "mine pyIter ref" => k_extra "my iter"
  k_with "mine exec For" => (k_extra "my for"; (rename Fr _ _ _ _ => lF'); (with_unfolding_all refine' For_invVF lF' ?k1 ?k2 ?_; (case k1 => exact rfl); (case k2 => exact rfl); k_whole))
  k_with "kmk nums" => first | with_reducible exact kmk_all (by l_ints) | (with_reducible refine kmk_from (by l_ints) ?_; first | assumption | omega) | (with_reducible refine kmk_upto (by l_ints) ?_; first | assumption | omega) | (with_reducible refine kmk_run (by l_ints) ?_ ?_ <;> first | assumption | omega)
  k_with "room" => exact roomA (by with_reducible assumption) rfl
  k_with "mine eval Name" => (k_here; k_dflt (refine' nameX_L ?F ?v ?_ ?a ?b; (case F => k_asm); (case a => exact rfl); (case b => exact Eq.refl (some _)); (case v => exact Eq.refl (some _)); k_whole))
  k_with "mine And" => ((with_reducible show Frag.In _ _ ∧ _); k_dflt (refine ⟨Frag.In.keeps (by k_asm) (Fr.keep (by k_asm)), ?_⟩))
  k_with "mine call ref" => (k_here; (with_reducible show wpAny _ _ (PySem.call (Value.ref 130) _ _) _ _ _); k_dflt (refine' Spec.use ?k1 ?k2 ?k3 ?k4 ?k5 ?kK (law_sum_spec _ _ _ _ _ _ _) ?kd ?ku (retI ?_); (case k1 => k_asm); (case k2 => k_asm); (case k3 => k_asm); (case k4 => k_asm); (case k5 => k_asm); (case kK => first | exact rfl | assumption); (case kd => first | ktr_room | fail "law_sum_spec: room"); (case ku => first | ktr_units | fail "law_sum_spec: units"); k_whole); intro t9q h9q tk9q F9q N9q; (try dsimp only); (try k_fold))
  k_with "mine call ref" => (k_here; (with_reducible show wpAny _ _ (PySem.call (Value.ref 58) _ _) _ _ _); k_dflt (refine' Spec.use ?k1 ?k2 ?k3 ?k4 ?k5 ?kK (folded_spec _ _ _ _ _ _ _ ?p1) ?kd ?ku (retI ?_); (case k1 => k_asm); (case k2 => k_asm); (case k3 => k_asm); (case k4 => k_asm); (case k5 => k_asm); (case kK => first | exact rfl | assumption); (case p1 => first | (first | omega | exact Int.add_nonneg (by omega) (Int.mul_nonneg (by omega) (by decide))) | fail "folded_spec: p1"); (case kd => first | ktr_room | fail "folded_spec: room"); (case ku => first | ktr_units | fail "folded_spec: units"); k_whole); intro t9q h9q tk9q F9q N9q; (try dsimp only); (try k_fold))
  k_with "mine call ref" => (k_here; (with_reducible show wpAny _ _ (PySem.call (Value.ref 66) _ _) _ _ _); k_dflt (refine' Spec.use ?k1 ?k2 ?k3 ?k4 ?k5 ?kK (sum16_spec _ _ _ _ _ _ _ _ _ _ ?p1 ?p2 ?p3) ?kd ?ku (retI ?_); (case k1 => k_asm); (case k2 => k_asm); (case k3 => k_asm); (case k4 => k_asm); (case k5 => k_asm); (case kK => first | exact rfl | assumption); (case p1 => first | assumption | fail "sum16_spec: p1"); (case p2 => first | (first | with_reducible assumption | (with_reducible refine take_lt ?_ _; with_reducible assumption) | (with_reducible refine dt_lt ?_ _ _; with_reducible assumption) | (with_reducible refine oct_lt ?_; with_reducible assumption) | (with_reducible refine map_lt ?_; with_reducible assumption) | assumption | omega | ((simp only [octF_len, List.length_append, List.length_cons, List.length_nil, List.length_map, List.length_take, List.length_drop]); omega)) | fail "sum16_spec: p2"); (case p3 => first | (first | assumption | exact sumF_nonneg _ | omega) | fail "sum16_spec: p3"); (case kd => first | ktr_room | fail "sum16_spec: room"); (case ku => first | ktr_units | fail "sum16_spec: units"); k_whole); intro t9q h9q tk9q F9q N9q; (try dsimp only); (try k_fold))
  unfold Spec Tp; k_fill
  intro dp un gd cn cs a ccd cl outer A₀ base h₀ L m s Q E B F X N T hk hd hu hret
  refine wpAny_call ?_
  k_dflt (refine' code_def ?k1 ?k2 ?k3 ?k4 ?k5 ?kA ?kF ?kK ?k6 ?k7 ?k8 ?k9 ?kB ?_ ?c2 ?c3 ?c4 ?c5; (case kA => exact rfl); (case kF => exact rfl); (case kK => assumption); (case k1 => k_asm); (case k2 => k_asm); (case k3 => k_asm); (case k4 => k_asm); (case k5 => k_asm); (case k6 => k_is); (case k7 => k_is); (case k8 => ktr_room); (case k9 => first | exact BindsTo.of_eq rfl | exact binds_K (by k_in) rfl (by k_is) rfl rfl rfl); (case c5 => decide); (case kB => exact locs rfl); (case c2 => exact rfl); (case c3 => exact rfl); (case c4 => exact rfl); k_whole; intro g' L' h' FG' F' N' B' X' T'; (try dsimp only); (try k_lift B'); (try k_fold))
  k_steps
  all_goals try (exfalso; first | omega | (rename Int.fmod _ _ = 1 => hf9; rw [Int.fmod_eq_emod_of_nonneg _ (by omega)] at hf9; omega))
  rename IsRange _ _ _ _ _ _ _ _ => hR
  rename Fr _ _ _ _ => F1
  rename News _ _ _ _ => N1
  with_unfolding_all refine' rngInt (n := ko.length / 2) (y := Str.ofString "total") (news := news) (fun i => 65535 - c + 65535 * (i : Int) - wpre ko i + wpre kn i) (by rfl) hR ?small ?size F1 N1 (by rfl) ?zero (fun i t ta h tk own hi hoff F2 N2 => ?turn) (fun u t h tk F3 N3 => ?done)
  case small => exact (small_len _ hlen).1.2
  case size => exact (small_len _ hlen).2.2 heven
  case zero => show _ = 65535 - c + 65535 * 0 - 0 + 0; omega
  case turn =>
    k_steps
    refine oneInt_end (by assumption) (by assumption) (by rfl) ?_ (by k_same2) (by (first | (intro p9 hp9; (repeat (first | (with_reducible exact hp9) | (with_reducible exact List.mem_append_left _ hp9) | (with_reducible exact List.mem_append_right _ hp9) | (with_reducible refine List.mem_cons_of_mem _ ?_))); done) | kcj_all)) (by (first | (intro p9 hp9; (repeat (first | (with_reducible exact hp9) | (with_reducible exact List.mem_append_left _ hp9) | (with_reducible exact List.mem_append_right _ hp9) | (with_reducible refine List.mem_cons_of_mem _ ?_))); done) | kcj_all))
    simp only [(wp_at i).1, (wp_at i).2] at *
    rw [orWord (by assumption) (by assumption), orWord (by assumption) (by assumption)]
    exact mend_turn rfl
  case done =>
    have hw := wpre_nonneg hn (ko.length / 2)
    have hv := wpre_le ho (ko.length / 2)
    dsimp only [envOf] at F3 N3
    (try k_fold)
    k_steps
    all_goals
      (refine' endI (Q := Q) (s := s) hret ?e1 ?e2 ?e3 ?e4; (case e2 => k_asm); (case e3 => k_asm); (case e4 => (first | (intro p9 hp9; (repeat (first | (with_reducible exact hp9) | (with_reducible exact List.mem_append_left _ hp9) | (with_reducible exact List.mem_append_right _ hp9) | (with_reducible refine List.mem_cons_of_mem _ ?_))); done) | kcj_all)); (case e1 => rfl))

end mend_ok
section law_words
theorem reset_law_words : True := by (w_top off; k_with_none; exact trivial)
noncomputable def edge (k : Int) : Int := ([65535, 0, 65534, 1, 65535, 0, 256, 32768] : List Int).getD k.toNat 0
/- a turn: the word, the next digit -/
noncomputable def wstep (sh : Int) (i : Nat) (d : Int) : Int × Int :=
  if d.fmod 16 < 8 then (edge ((d.fmod 16 + (i : Int) + sh).fmod 8), d.fdiv 16) else ((d.fdiv 16).fmod 65536, (d.fdiv 16).fdiv 65536)
noncomputable def dgtAt (d sh : Int) : Nat → Int
  | 0 => d
  | i + 1 => (wstep sh i (dgtAt d sh i)).2
noncomputable def wordAt (d sh : Int) (i : Nat) : Int := (wstep sh i (dgtAt d sh i)).1
noncomputable def wordsF (d sh : Int) (many : Nat) : List Int := (List.range many).map (wordAt d sh)
theorem wordsF_succ (d sh : Int) (i : Nat) : wordsF d sh (i + 1) = wordsF d sh i ++ [wordAt d sh i] := by simp [wordsF, List.range_succ]
theorem wordsF_len (d sh : Int) (i : Nat) : (wordsF d sh i).length = i := by simp [wordsF]

noncomputable def WordsJ (d sh : Int) (out : Addr) (base : Led) (m₀ : Str → Option Value) (i : Nat) (m : Str → Option Value) (nx : Led) : Prop :=
  ∃ vs n t, nx = (out, listOf vs.toArray n) :: base ∧ IntsAre vs (wordsF d sh i) ∧ m (Str.ofString "digit") = some (.int (dgtAt d sh i) t) ∧ ∀ z, z ≠ Str.ofString "k" → z ≠ Str.ofString "digit" → z ≠ Str.ofString "low" → m z = m₀ z
theorem wordsJ_out {h₀ h : Heap} {L : Addr} {v : Value} {m₀ m₁ : Str → Option Value} (ha : m₁ (Str.ofString "digit") = some v) (hm : ∀ z, z ≠ Str.ofString "k" → z ≠ Str.ofString "digit" → z ≠ Str.ofString "low" → m₁ z = m₀ z)
    (F : Fr h₀ L h m₁) : Fr h₀ L h (fun z => if z = Str.ofString "k" then m₁ z else if z = Str.ofString "digit" then some v else if z = Str.ofString "low" then m₁ z else m₀ z) := by
  have e : (fun z => if z = Str.ofString "k" then m₁ z else if z = Str.ofString "digit" then some v else if z = Str.ofString "low" then m₁ z else m₀ z) = m₁ := by
    funext z
    by_cases h1 : z = Str.ofString "k"
    · rw [if_pos h1]
    · rw [if_neg h1]
      by_cases h2 : z = Str.ofString "digit"
      · rw [if_pos h2, h2, ha]
      · rw [if_neg h2]
        by_cases h3 : z = Str.ofString "low"
        · rw [if_pos h3]
        · rw [if_neg h3, hm z h1 h2 h3]
  rw [e]; exact F
theorem wordsJ_end {h₀ h' : Heap} {L : Addr} {d sh y e : Int} {i no n' : Nat} {out : Addr} {base own news' : Led} {vs : List Value} {m₀ m' : Str → Option Value} {s₁ : Shared} {tk : Nat} {t : Tok} (F : Fr h₀ L h' m') (N : News h₀ L h' news')
    (ho : (out, listOf vs.toArray n') ∈ news') (hi : IntsAre vs (wordsF d sh i ++ [y])) (hy : y = wordAt d sh i) (hd : m' (Str.ofString "digit") = some (.int e t)) (he : e = dgtAt d sh (i + 1))
    (hs : ∀ z, z ≠ Str.ofString "k" → z ≠ Str.ofString "digit" → z ≠ Str.ofString "low" → m' z = m₀ z) (hb : ∀ p ∈ base, p ∈ news') (hw : ∀ p ∈ own, p ∈ news') :
    InvEndN h₀ L (WordsJ d sh out base m₀ (i + 1)) own (((out, listOf (#[] : Array Value) no) :: base).map (·.1)) s₁ { s₁ with heap := h', toks := tk } := by
  subst hy
  subst he
  refine InvEndN.intro (nx := (out, listOf vs.toArray n') :: base) F N ⟨vs, n', t, rfl, by rw [wordsF_succ]; exact hi, hd, hs⟩ rfl ?_ hw
  intro p hp
  rcases List.mem_cons.mp hp with rfl | hp
  · exact ho
  · exact hb p hp
theorem wordAt_lo {d sh : Int} {i : Nat} (h : (dgtAt d sh i).fmod 16 < 8) : ([65535, 0, 65534, 1, 65535, 0, 256, 32768] : List Int).getD (((dgtAt d sh i).fmod 16 + (0 + (i : Int) * 1) + sh).fmod 8).toNat 0 = wordAt d sh i := by
  unfold wordAt wstep
  rw [if_pos h]
  show _ = edge _
  unfold edge
  rw [show (0 : Int) + (i : Int) * 1 = (i : Int) from by omega]
theorem wordAt_hi {d sh : Int} {i : Nat} (h : ¬ (dgtAt d sh i).fmod 16 < 8) : ((dgtAt d sh i).fdiv 16).fmod 65536 = wordAt d sh i := by
  unfold wordAt wstep
  rw [if_neg h]
theorem dgtAt_lo {d sh : Int} {i : Nat} (h : (dgtAt d sh i).fmod 16 < 8) : (dgtAt d sh i).fdiv 16 = dgtAt d sh (i + 1) := by
  show _ = (wstep sh i (dgtAt d sh i)).2
  unfold wstep
  rw [if_pos h]
theorem dgtAt_hi {d sh : Int} {i : Nat} (h : ¬ (dgtAt d sh i).fmod 16 < 8) : ((dgtAt d sh i).fdiv 16).fdiv 65536 = dgtAt d sh (i + 1) := by
  show _ = (wstep sh i (dgtAt d sh i)).2
  unfold wstep
  rw [if_neg h]
theorem wordsJ_fr {h₀ h : Heap} {L : Addr} {v w₀ : Value} {m₀ m₁ : Str → Option Value} (ha : m₁ (Str.ofString "digit") = some v) (hm : ∀ z, z ≠ Str.ofString "k" → z ≠ Str.ofString "digit" → z ≠ Str.ofString "low" → m₁ z = m₀ z)
    (F : Fr h₀ L h (fun z => if z = Str.ofString "k" then some w₀ else m₁ z)) : Fr h₀ L h (fun z => if z = Str.ofString "k" then some w₀ else if z = Str.ofString "digit" then some v else if z = Str.ofString "low" then m₁ z else m₀ z) := by
  have e : (fun z => if z = Str.ofString "k" then some w₀ else if z = Str.ofString "digit" then some v else if z = Str.ofString "low" then m₁ z else m₀ z) = fun z => if z = Str.ofString "k" then some w₀ else m₁ z := by
    funext z
    by_cases h1 : z = Str.ofString "k"
    · rw [if_pos h1, if_pos h1]
    · rw [if_neg h1, if_neg h1]
      by_cases h2 : z = Str.ofString "digit"
      · rw [if_pos h2, h2, ha]
      · rw [if_neg h2]
        by_cases h3 : z = Str.ofString "low"
        · rw [if_pos h3]
        · rw [if_neg h3, hm z h1 h2 h3]
  rw [e]; exact F

noncomputable def RListN (news : Led) (ns : List Int) (v : Value) (tl : Led) : Prop := ∃ l vs n, tl = [(l, listOf vs.toArray n)] ∧ v = .ref l ∧ IntsAre vs ns ∧ ∀ p ∈ news, p.1 < l
theorem retN {h₀ : Heap} {L : Addr} {m : Str → Option Value} {news : Led} {s : Shared} {Q : Value → Shared → Prop} {ns : List Int}
    (k : ∀ (l : Addr) (vs : List Value) (n : Nat) (h' : Heap) (tk' : Nat), IntsAre vs ns → (∀ p ∈ news, p.1 < l) → Fr h₀ L h' m → News h₀ L h' ((l, listOf vs.toArray n) :: news) → Q (.ref l) { s with heap := h', toks := tk' }) :
    ∀ (v : Value) (tl : Led) (h' : Heap) (tk' : Nat), RListN news ns v tl → Fr h₀ L h' m → News h₀ L h' (tl ++ news) → Q v { s with heap := h', toks := tk' } := by
  rintro v tl h' tk' ⟨l, vs, n, rfl, rfl, hi, hz⟩ F N; exact k l vs n h' tk' hi hz F N
theorem endLN {h₀ h' : Heap} {L : Addr} {m : Str → Option Value} {news news' : Led} {s : Shared} {Q : Value → Shared → Prop} {tk' : Nat} {ns : List Int} {vs : List Value} {l : Addr} {n : Nat} (hret : ∀ (v : Value) (tl : Led) (h' : Heap) (tk' : Nat), RListN news ns v tl → Fr h₀ L h' m → News h₀ L h' (tl ++ news) → Q v { s with heap := h', toks := tk' })
    (e : IntsAre vs ns) (F : Fr h₀ L h' m) (N : News h₀ L h' news') (hl : (l, listOf vs.toArray n) ∈ news') (hs : ∀ p ∈ news, p ∈ news') (hlt : AllLt l news) : Q (.ref l) { s with heap := h', toks := tk' } :=
  hret _ [(l, listOf vs.toArray n)] h' tk' ⟨_, _, _, rfl, rfl, e, fun p hp => ktn_ltOf hlt p hp⟩ F fun p hp => by
    rcases List.mem_cons.mp hp with rfl | hp
    · exact N _ hl
    · exact N p (hs p hp)
set_option maxHeartbeats 8000000 in
theorem law_words_spec (w : World) (mean : ExcName → Option Value) (mg mb : Str → Option Value) (news : Led) (d sh : Int) (many : Nat) (t1 t2 t3 : Tok) (h1 : many ≤ 9) :
    Spec w mean mg mb 109 1 8 news [.int d t1, .int many t2, .int sh t3] (RListN news (wordsF d sh many)) := by
  k_with_none
  k_with "mine pyIter ref" => k_extra "my iter"
  k_with "mine exec For" => (k_extra "my for"; (rename Fr _ _ _ _ => lF'); (with_unfolding_all refine' For_invVF lF' ?k1 ?k2 ?_; (case k1 => exact rfl); (case k2 => exact rfl); k_whole))
  k_with "kmk nums" => first | with_reducible exact kmk_all (by l_ints) | (with_reducible refine kmk_from (by l_ints) ?_; first | assumption | omega) | (with_reducible refine kmk_upto (by l_ints) ?_; first | assumption | omega) | (with_reducible refine kmk_run (by l_ints) ?_ ?_ <;> first | assumption | omega)
  k_with "room" => exact roomA (by with_reducible assumption) rfl
  k_with "mine eval Name" => (k_here; k_dflt (refine' nameX_L ?F ?v ?_ ?a ?b; (case F => k_asm); (case a => exact rfl); (case b => exact Eq.refl (some _)); (case v => exact Eq.refl (some _)); k_whole))
  k_with "mine And" => ((with_reducible show Frag.In _ _ ∧ _); k_dflt (refine ⟨Frag.In.keeps (by k_asm) (Fr.keep (by k_asm)), ?_⟩))
  k_with "mine call ref" => (k_here; (with_reducible show wpAny _ _ (PySem.call (Value.ref 130) _ _) _ _ _); k_dflt (refine' Spec.use ?k1 ?k2 ?k3 ?k4 ?k5 ?kK (law_sum_spec _ _ _ _ _ _ _) ?kd ?ku (retI ?_); (case k1 => k_asm); (case k2 => k_asm); (case k3 => k_asm); (case k4 => k_asm); (case k5 => k_asm); (case kK => first | exact rfl | assumption); (case kd => first | ktr_room | fail "law_sum_spec: room"); (case ku => first | ktr_units | fail "law_sum_spec: units"); k_whole); intro t9q h9q tk9q F9q N9q; (try dsimp only); (try k_fold))
  k_with "mine call ref" => (k_here; (with_reducible show wpAny _ _ (PySem.call (Value.ref 58) _ _) _ _ _); k_dflt (refine' Spec.use ?k1 ?k2 ?k3 ?k4 ?k5 ?kK (folded_spec _ _ _ _ _ _ _ ?p1) ?kd ?ku (retI ?_); (case k1 => k_asm); (case k2 => k_asm); (case k3 => k_asm); (case k4 => k_asm); (case k5 => k_asm); (case kK => first | exact rfl | assumption); (case p1 => first | (first | omega | exact Int.add_nonneg (by omega) (Int.mul_nonneg (by omega) (by decide))) | fail "folded_spec: p1"); (case kd => first | ktr_room | fail "folded_spec: room"); (case ku => first | ktr_units | fail "folded_spec: units"); k_whole); intro t9q h9q tk9q F9q N9q; (try dsimp only); (try k_fold))
  k_with "my iter" => (
    rename IsRange _ _ _ _ _ _ _ _ => hR
    rename Fr _ _ _ _ => F1
    rename News _ _ _ _ => N1
    with_unfolding_all refine' rngAny (n := many) (fun i m nx => WordsJ d sh _ _ _ i m nx) (by rfl) hR ?small ?size F1 N1 ⟨_, _, _, rfl, IntsAre.nil, by rfl, fun _ _ _ _ => rfl⟩ (fun i t m₁ nx h tk own hi9 hadr hoff hJ F2 N2 => ?turn) (fun m₁ nx h tk hJ F3 N3 => ?done)
    (case small => exact small_one (by omega) (by omega) (by omega) (by omega))
    (case size => (rw [rangeSize_nat]; omega))
    (case' turn => (
      (obtain ⟨vo, no, tb, hnx, hio, hmo, hme⟩ := hJ)
      subst hnx
      (replace F2 := wordsJ_fr hmo hme F2)
      dsimp only [envOf] at F2 N2
      simp only [List.cons_append] at N2
      (rename _ ∧ AllLt _ _ => hl9)
      (have hoff9 := allNe_app hl9.2 fun p hp => hoff p hp _ (List.Mem.head _))
      (have hvl9 := hio.length.trans (wordsF_len d sh i))))
    (case' done => (
      (obtain ⟨vo, no, tb, hnx, hio, hmo, hme⟩ := hJ)
      subst hnx
      (replace F3 := wordsJ_out hmo hme F3)
      dsimp only [envOf] at F3 N3))
    skip)
  unfold Spec Tp; k_fill
  intro dp un gd cn cs a ccd cl outer A₀ base h₀ L m s Q E B F X N T hk hd hu hret
  refine wpAny_call ?_
  k_dflt (refine' code_def ?k1 ?k2 ?k3 ?k4 ?k5 ?kA ?kF ?kK ?k6 ?k7 ?k8 ?k9 ?kB ?_ ?c2 ?c3 ?c4 ?c5; (case kA => exact rfl); (case kF => exact rfl); (case kK => assumption); (case k1 => k_asm); (case k2 => k_asm); (case k3 => k_asm); (case k4 => k_asm); (case k5 => k_asm); (case k6 => k_is); (case k7 => k_is); (case k8 => ktr_room); (case k9 => first | exact BindsTo.of_eq rfl | exact binds_K (by k_in) rfl (by k_is) rfl rfl rfl); (case c5 => decide); (case kB => exact locs rfl); (case c2 => exact rfl); (case c3 => exact rfl); (case c4 => exact rfl); k_whole; intro g' L' h' FG' F' N' B' X' T'; (try dsimp only); (try k_lift B'); (try k_fold))
  k_steps
  all_goals first
    | (refine' endLN (Q := Q) (s := s) hret ?e1 ?e2 ?e3 ?e5 ?e4 ?e6; (case e6 => first | assumption | (rename _ ∧ AllLt _ _ => hl8; exact hl8.2) | (rename AllLt _ _ => hl8; exact hl8)); (case e2 => k_asm); (case e3 => k_asm); (case e5 => k_mem); (case e4 => (first | (intro p9 hp9; (repeat (first | (with_reducible exact hp9) | (with_reducible exact List.mem_append_left _ hp9) | (with_reducible exact List.mem_append_right _ hp9) | (with_reducible refine List.mem_cons_of_mem _ ?_))); done) | kcj_all)); (case e1 => assumption))
    | ((rename News _ _ _ _ => nE9); (try simp only [List.push_toArray] at nE9);
       exact wordsJ_end (by assumption) nE9 (by k_mem) (IntsAre.append (by assumption) (.cons _ _ .nil)) (by first | exact wordAt_lo (by assumption) | exact wordAt_hi (by assumption)) (by rfl) (by first | exact dgtAt_lo (by assumption) | exact dgtAt_hi (by assumption)) (by (intro z h1 h2 h3; first | rfl | (simp [h1, h2, h3]; done))) (by (first | (intro p9 hp9; (repeat (first | (with_reducible exact hp9) | (with_reducible exact List.mem_append_left _ hp9) | (with_reducible exact List.mem_append_right _ hp9) | (with_reducible refine List.mem_cons_of_mem _ ?_))); done) | kcj_all)) (by (first | (intro p9 hp9; (repeat (first | (with_reducible exact hp9) | (with_reducible exact List.mem_append_left _ hp9) | (with_reducible exact List.mem_append_right _ hp9) | (with_reducible refine List.mem_cons_of_mem _ ?_))); done) | kcj_all)))

theorem words_len {vs : List Value} {d sh : Int} {n : Nat} (_ : IntsAre vs (wordsF d sh n)) : (wordsF d sh n).length = n := wordsF_len d sh n
theorem law_words_specI (w : World) (mean : ExcName → Option Value) (mg mb : Str → Option Value) (news : Led) (d sh many : Int) (t1 t2 t3 : Tok) (h0 : 0 ≤ many) (h1 : many ≤ 9) :
    Spec w mean mg mb 109 1 8 news [.int d t1, .int many t2, .int sh t3] (RListN news (wordsF d sh many.toNat)) := by
  have h := law_words_spec w mean mg mb news d sh many.toNat t1 t2 t3 (by omega)
  rw [Int.toNat_of_nonneg h0] at h
  exact h
theorem edge_r (k : Int) : 0 ≤ edge k ∧ edge k < 65536 := by
  unfold edge
  have h : ∀ n : Nat, 0 ≤ ([65535, 0, 65534, 1, 65535, 0, 256, 32768] : List Int).getD n 0 ∧ ([65535, 0, 65534, 1, 65535, 0, 256, 32768] : List Int).getD n 0 < 65536 := by
    intro n
    rw [List.getD_eq_getElem?_getD]
    cases e : ([65535, 0, 65534, 1, 65535, 0, 256, 32768] : List Int)[n]? with
    | none => decide
    | some x =>
      have hx := List.mem_of_getElem? e
      simp only [List.mem_cons, List.not_mem_nil, or_false] at hx
      show 0 ≤ x ∧ x < 65536
      omega
  exact h _
theorem wordAt_r (d sh : Int) (i : Nat) : 0 ≤ wordAt d sh i ∧ wordAt d sh i < 65536 := by
  unfold wordAt wstep
  split
  · exact edge_r _
  · rw [Int.fmod_eq_emod_of_nonneg _ (by omega)]
    show 0 ≤ _ % (65536 : Int) ∧ _ % (65536 : Int) < 65536
    omega
theorem W16.words (d sh : Int) (n : Nat) : W16 (wordsF d sh n) := fun x hx => by
  unfold wordsF at hx
  obtain ⟨i, _, rfl⟩ := List.mem_map.mp hx
  exact wordAt_r d sh i

end law_words
section law_octets
theorem reset_law_octets : True := by (w_top off; k_with_none; exact trivial)
theorem octF_in {ns : List Int} (hr : ∀ x ∈ ns, 0 ≤ x ∧ x < 65536) : KBa.In (octF ns) := by
  induction ns with
  | nil => intro n hn; cases hn
  | cons x r ih =>
    have hx := hr x (.head _)
    have ih := ih fun y hy => hr y (.tail _ hy)
    intro n hn
    have e1 : x.fdiv 256 = x / 256 := Int.fdiv_eq_ediv_of_nonneg _ (by omega)
    have e2 : x.fmod 256 = x % 256 := Int.fmod_eq_emod_of_nonneg _ (by omega)
    rcases List.mem_cons.mp hn with rfl | hn
    · omega
    · rcases List.mem_cons.mp hn with rfl | hn
      · omega
      · exact ih n hn
theorem octF_snoc (a : List Int) (x : Int) : octF (a ++ [x]) = octF a ++ [x.fdiv 256, x.fmod 256] := by
  induction a with
  | nil => rfl
  | cons y r ih => simp only [List.cons_append, octF, ih]

set_option maxHeartbeats 8000000 in
theorem law_octets_spec (w : World) (mean : ExcName → Option Value) (mg mb : Str → Option Value) (news : Led) (l : Addr) (vs : List Value) (n : Nat) (ns : List Int) (hl : (l, listOf vs.toArray n) ∈ news) (hi : IntsAre vs ns) (hlen : ns.length < 40) (hr : W16 ns) :
    Spec w mean mg mb 116 1 8 news [.ref l] (RBytes (octF ns)) := by
  k_with_none
  k_with "mine pyIter ref" => k_extra "my iter"
  k_with "mine exec For" => (k_extra "my for"; (rename Fr _ _ _ _ => lF'); (with_unfolding_all refine' For_invVF lF' ?k1 ?k2 ?_; (case k1 => exact rfl); (case k2 => exact rfl); k_whole))
  k_with "kmk nums" => first | with_reducible exact kmk_all (by l_ints) | (with_reducible refine kmk_from (by l_ints) ?_; first | assumption | omega) | (with_reducible refine kmk_upto (by l_ints) ?_; first | assumption | omega) | (with_reducible refine kmk_run (by l_ints) ?_ ?_ <;> first | assumption | omega)
  k_with "room" => exact roomA (by with_reducible assumption) rfl
  k_with "mine eval Name" => (k_here; k_dflt (refine' nameX_L ?F ?v ?_ ?a ?b; (case F => k_asm); (case a => exact rfl); (case b => exact Eq.refl (some _)); (case v => exact Eq.refl (some _)); k_whole))
  k_with "mine And" => ((with_reducible show Frag.In _ _ ∧ _); k_dflt (refine ⟨Frag.In.keeps (by k_asm) (Fr.keep (by k_asm)), ?_⟩))
  k_with "mine call ref" => (k_here; (with_reducible show wpAny _ _ (PySem.call (Value.ref 130) _ _) _ _ _); k_dflt (refine' Spec.use ?k1 ?k2 ?k3 ?k4 ?k5 ?kK (law_sum_spec _ _ _ _ _ _ _) ?kd ?ku (retI ?_); (case k1 => k_asm); (case k2 => k_asm); (case k3 => k_asm); (case k4 => k_asm); (case k5 => k_asm); (case kK => first | exact rfl | assumption); (case kd => first | ktr_room | fail "law_sum_spec: room"); (case ku => first | ktr_units | fail "law_sum_spec: units"); k_whole); intro t9q h9q tk9q F9q N9q; (try dsimp only); (try k_fold))
  k_with "mine call ref" => (k_here; (with_reducible show wpAny _ _ (PySem.call (Value.ref 58) _ _) _ _ _); k_dflt (refine' Spec.use ?k1 ?k2 ?k3 ?k4 ?k5 ?kK (folded_spec _ _ _ _ _ _ _ ?p1) ?kd ?ku (retI ?_); (case k1 => k_asm); (case k2 => k_asm); (case k3 => k_asm); (case k4 => k_asm); (case k5 => k_asm); (case kK => first | exact rfl | assumption); (case p1 => first | (first | omega | exact Int.add_nonneg (by omega) (Int.mul_nonneg (by omega) (by decide))) | fail "folded_spec: p1"); (case kd => first | ktr_room | fail "folded_spec: room"); (case ku => first | ktr_units | fail "folded_spec: units"); k_whole); intro t9q h9q tk9q F9q N9q; (try dsimp only); (try k_fold))
  k_with "mine call ref" => (k_here; (with_reducible show wpAny _ _ (PySem.call (Value.ref 109) _ _) _ _ _); k_dflt (refine' Spec.use ?k1 ?k2 ?k3 ?k4 ?k5 ?kK (law_words_specI _ _ _ _ _ _ _ _ _ _ _ ?p1 ?p2) ?kd ?ku (retN ?_); (case k1 => k_asm); (case k2 => k_asm); (case k3 => k_asm); (case k4 => k_asm); (case k5 => k_asm); (case kK => first | exact rfl | assumption); (case p1 => first | (first | assumption | exact sumF_nonneg _ | omega) | fail "law_words_specI: p1"); (case p2 => first | (first | assumption | exact sumF_nonneg _ | omega) | fail "law_words_specI: p2"); (case kd => first | ktr_room | fail "law_words_specI: room"); (case ku => first | ktr_units | fail "law_words_specI: units"); k_whole); intro l9q vs9q n9q h9q tk9q hi9q hz9q F9q N9q; (try k_lt hz9q); (have hw9q := words_len hi9q); (try dsimp only); (try k_fold))
  unfold Spec Tp; k_fill
  intro dp un gd cn cs a ccd cl outer A₀ base h₀ L m s Q E B F X N T hk hd hu hret
  replace N := newsCons N hl
  refine wpAny_call ?_
  k_dflt (refine' code_def ?k1 ?k2 ?k3 ?k4 ?k5 ?kA ?kF ?kK ?k6 ?k7 ?k8 ?k9 ?kB ?_ ?c2 ?c3 ?c4 ?c5; (case kA => exact rfl); (case kF => exact rfl); (case kK => assumption); (case k1 => k_asm); (case k2 => k_asm); (case k3 => k_asm); (case k4 => k_asm); (case k5 => k_asm); (case k6 => k_is); (case k7 => k_is); (case k8 => ktr_room); (case k9 => first | exact BindsTo.of_eq rfl | exact binds_K (by k_in) rfl (by k_is) rfl rfl rfl); (case c5 => decide); (case kB => exact locs rfl); (case c2 => exact rfl); (case c3 => exact rfl); (case c4 => exact rfl); k_whole; intro g' L' h' FG' F' N' B' X' T'; (try dsimp only); (try k_lift B'); (try k_fold))
  k_steps
  rename Fr _ _ _ _ => F1
  rename News _ _ _ _ => N1
  with_unfolding_all refine' For_invVF F1 ?k1 ?k2 ?_
  case k1 => exact rfl
  case k2 => exact rfl
  k_steps
  with_unfolding_all refine' lstG (x := Str.ofString "word") (fun i m nx => OneList (Str.ofString "word") (Str.ofString "out") ((l, listOf vs.toArray n) :: news) (octF (ns.take i)) _ m nx) (by rfl) (List.Mem.tail _ (List.Mem.head _)) hi F1 N1 ⟨_, _, _, rfl, IntsAre.nil, by rfl, fun _ _ _ => rfl⟩ (fun i k t m₁ nx h tk own hk hoff hJ F2 N2 => ?turn) (fun m₁ nx h tk hJ F3 N3 => ?done)
  case turn =>
    obtain ⟨lo, vo, no, rfl, hio, hmo, hme⟩ := hJ
    replace F2 := one_fr hmo hme F2
    dsimp only [envOf] at F2 N2
    simp only [List.cons_append, List.nil_append] at N2
    have hol := octF_len (ns.take i)
    have htl : (ns.take i).length ≤ ns.length := by rw [List.length_take]; omega
    k_steps
    have hsn : ns.take (i + 1) = ns.take i ++ [k] := by simp [List.take_add_one, hk]
    dsimp only [envOf]
    rw [hsn, octF_snoc]
    refine oneList_end hoff (List.Mem.head _) (by assumption) (by assumption) (by rfl) (by k_same2) (by k_mem) (by assumption) (by (first | (intro p9 hp9; (repeat (first | (with_reducible exact hp9) | (with_reducible exact List.mem_append_left _ hp9) | (with_reducible exact List.mem_append_right _ hp9) | (with_reducible refine List.mem_cons_of_mem _ ?_))); done) | kcj_all)) (by (first | (intro p9 hp9; (repeat (first | (with_reducible exact hp9) | (with_reducible exact List.mem_append_left _ hp9) | (with_reducible exact List.mem_append_right _ hp9) | (with_reducible refine List.mem_cons_of_mem _ ?_))); done) | kcj_all)) ?_
    · rename _ ∧ _ ∧ _ ∧ AllLt _ _ => hlt9
      exact fun p hp => ktn_ltOf hlt9.2.2.2 p (List.mem_append_right _ hp)
  case done =>
    obtain ⟨lo, vo, no, rfl, hio, hmo, hme⟩ := hJ
    replace F3 := one_out hmo hme F3
    dsimp only [envOf] at F3 N3
    rw [List.take_length] at hio
    have hIn : KBa.In (octF ns) := octF_in hr
    have hol := octF_len ns
    k_steps
    all_goals
      (refine' endY (Q := Q) (s := s) hret ?e1 ?e2 ?e3 ?e4; (case e2 => k_asm); (case e3 => k_asm); (case e4 => (first | (intro p9 hp9; (repeat (first | (with_reducible exact hp9) | (with_reducible exact List.mem_append_left _ hp9) | (with_reducible exact List.mem_append_right _ hp9) | (with_reducible refine List.mem_cons_of_mem _ ?_))); done) | kcj_all)); (case e1 => exact KBa.ints_make (by assumption)))

end law_octets
section law_mend
theorem reset_law_mend : True := by (w_top off; k_with_none; exact trivial)
noncomputable def lmendF (c : Int) (old new : List Int) : Int :=
  if c = 65535 ∧ wholeF new = 0 ∧ wholeF old = 65536 ^ old.length - 1 then 65535 else 65534 - (65534 - c + wholeF new - wholeF old).fmod 65535

set_option maxHeartbeats 8000000 in
theorem law_mend_spec (w : World) (mean : ExcName → Option Value) (mg mb : Str → Option Value) (news : Led) (c : Int) (t1 : Tok) (l : Addr) (vs : List Value) (n : Nat) (ns : List Int) (l' : Addr) (vs' : List Value) (n' : Nat) (ns' : List Int)
    (hl : (l, listOf vs.toArray n) ∈ news) (hi : IntsAre vs ns) (hl' : (l', listOf vs'.toArray n') ∈ news) (hi' : IntsAre vs' ns') (hlen : ns.length < 40) :
    Spec w mean mg mb 137 2 16 news [.int c t1, .ref l, .ref l'] (RInt (lmendF c ns ns')) := by
  k_with_none
  k_with "mine pyIter ref" => k_extra "my iter"
  k_with "mine exec For" => (k_extra "my for"; (rename Fr _ _ _ _ => lF'); (with_unfolding_all refine' For_invVF lF' ?k1 ?k2 ?_; (case k1 => exact rfl); (case k2 => exact rfl); k_whole))
  k_with "kmk nums" => first | with_reducible exact kmk_all (by l_ints) | (with_reducible refine kmk_from (by l_ints) ?_; first | assumption | omega) | (with_reducible refine kmk_upto (by l_ints) ?_; first | assumption | omega) | (with_reducible refine kmk_run (by l_ints) ?_ ?_ <;> first | assumption | omega)
  k_with "room" => exact roomA (by with_reducible assumption) rfl
  k_with "mine eval Name" => (k_here; k_dflt (refine' nameX_L ?F ?v ?_ ?a ?b; (case F => k_asm); (case a => exact rfl); (case b => exact Eq.refl (some _)); (case v => exact Eq.refl (some _)); k_whole))
  k_with "mine And" => ((with_reducible show Frag.In _ _ ∧ _); k_dflt (refine ⟨Frag.In.keeps (by k_asm) (Fr.keep (by k_asm)), ?_⟩))
  k_with "mine call ref" => (k_here; (with_reducible show wpAny _ _ (PySem.call (Value.ref 130) _ _) _ _ _); k_dflt (refine' Spec.use ?k1 ?k2 ?k3 ?k4 ?k5 ?kK (law_sum_spec _ _ _ _ _ _ _) ?kd ?ku (retI ?_); (case k1 => k_asm); (case k2 => k_asm); (case k3 => k_asm); (case k4 => k_asm); (case k5 => k_asm); (case kK => first | exact rfl | assumption); (case kd => first | ktr_room | fail "law_sum_spec: room"); (case ku => first | ktr_units | fail "law_sum_spec: units"); k_whole); intro t9q h9q tk9q F9q N9q; (try dsimp only); (try k_fold))
  k_with "mine call ref" => (k_here; (with_reducible show wpAny _ _ (PySem.call (Value.ref 58) _ _) _ _ _); k_dflt (refine' Spec.use ?k1 ?k2 ?k3 ?k4 ?k5 ?kK (folded_spec _ _ _ _ _ _ _ ?p1) ?kd ?ku (retI ?_); (case k1 => k_asm); (case k2 => k_asm); (case k3 => k_asm); (case k4 => k_asm); (case k5 => k_asm); (case kK => first | exact rfl | assumption); (case p1 => first | (first | omega | exact Int.add_nonneg (by omega) (Int.mul_nonneg (by omega) (by decide))) | fail "folded_spec: p1"); (case kd => first | ktr_room | fail "folded_spec: room"); (case ku => first | ktr_units | fail "folded_spec: units"); k_whole); intro t9q h9q tk9q F9q N9q; (try dsimp only); (try k_fold))
  k_with "mine call ref" => (k_here; (with_reducible show wpAny _ _ (PySem.call (Value.ref 123) _ _) _ _ _); k_dflt (refine' Spec.use ?k1 ?k2 ?k3 ?k4 ?k5 ?kK (law_whole_spec _ _ _ _ _ _ _ _ _ ?p1 ?p2) ?kd ?ku (retI ?_); (case k1 => k_asm); (case k2 => k_asm); (case k3 => k_asm); (case k4 => k_asm); (case k5 => k_asm); (case kK => first | exact rfl | assumption); (case p1 => first | k_mem | fail "law_whole_spec: p1"); (case p2 => first | l_ints | fail "law_whole_spec: p2"); (case kd => first | ktr_room | fail "law_whole_spec: room"); (case ku => first | ktr_units | fail "law_whole_spec: units"); k_whole); intro t9q h9q tk9q F9q N9q; (try dsimp only); (try k_fold))
  unfold Spec Tp; k_fill
  intro dp un gd cn cs a ccd cl outer A₀ base h₀ L m s Q E B F X N T hk hd hu hret
  replace N := newsCons (newsCons N hl') (List.Mem.tail _ hl)
  refine wpAny_call ?_
  k_dflt (refine' code_def ?k1 ?k2 ?k3 ?k4 ?k5 ?kA ?kF ?kK ?k6 ?k7 ?k8 ?k9 ?kB ?_ ?c2 ?c3 ?c4 ?c5; (case kA => exact rfl); (case kF => exact rfl); (case kK => assumption); (case k1 => k_asm); (case k2 => k_asm); (case k3 => k_asm); (case k4 => k_asm); (case k5 => k_asm); (case k6 => k_is); (case k7 => k_is); (case k8 => ktr_room); (case k9 => first | exact BindsTo.of_eq rfl | exact binds_K (by k_in) rfl (by k_is) rfl rfl rfl); (case c5 => decide); (case kB => exact locs rfl); (case c2 => exact rfl); (case c3 => exact rfl); (case c4 => exact rfl); k_whole; intro g' L' h' FG' F' N' B' X' T'; (try dsimp only); (try k_lift B'); (try k_fold))
  k_steps
  all_goals
    (refine' endI (Q := Q) (s := s) hret ?e1 ?e2 ?e3 ?e4; (case e2 => k_asm); (case e3 => k_asm); (case e4 => (first | (intro p9 hp9; (repeat (first | (with_reducible exact hp9) | (with_reducible exact List.mem_append_left _ hp9) | (with_reducible exact List.mem_append_right _ hp9) | (with_reducible refine List.mem_cons_of_mem _ ?_))); done) | kcj_all)); (case e1 => (unfold lmendF; simp_all; done)))

end law_mend
section arith
/-! the great number -/
theorem wholeF_go (ws : List Int) (a : Int) (h : W16 ws) (ha : 0 ≤ a) : let w := ws.foldl (fun a w => 65536 * a + w) a; 0 ≤ w ∧ w % 65535 = (a + ws.sum) % 65535 ∧ (w = 0 ↔ a + ws.sum = 0) := by
  induction ws generalizing a with
  | nil => rw [List.sum_nil, Int.add_zero]; exact ⟨ha, rfl, Iff.rfl⟩
  | cons x r ih =>
    have hx := (h x (.head _)).1
    have hr : W16 r := fun y hy => h y (.tail _ hy)
    have hs := hr.sum_nonneg
    have h6 : 0 ≤ 65536 * a := Int.mul_nonneg (by decide) ha
    have := ih (65536 * a + x) hr (Int.add_nonneg h6 hx)
    rw [List.foldl_cons, List.sum_cons]
    rw [Int.add_assoc] at this
    have hy := Int.add_nonneg hx hs
    generalize x + r.sum = y at *
    have e : 65536 * a + y = a + y + 65535 * a := by clear this hy h6 hs hx ha; omega
    refine ⟨this.1, this.2.1.trans (by rw [e]; exact Int.add_mul_emod_self_left _ _ _), this.2.2.trans (add_zero h6 hy ha hy (Int.mul_eq_zero.trans ⟨fun q => q.resolve_left (by decide), .inr⟩) Iff.rfl)⟩
theorem wholeF_nonneg {ws : List Int} (h : W16 ws) : 0 ≤ wholeF ws := (wholeF_go ws 0 h (Int.le_refl 0)).1
theorem wholeF_mod {ws : List Int} (h : W16 ws) : wholeF ws % 65535 = ws.sum % 65535 := by
  have := (wholeF_go ws 0 h (Int.le_refl 0)).2.1
  rw [Int.zero_add] at this; exact this
theorem wholeF_k {ws : List Int} (h : W16 ws) : ∃ k, wholeF ws = ws.sum + 65535 * k := mod_k (wholeF_mod h)
theorem wholeF_zero {ws : List Int} (h : W16 ws) : wholeF ws = 0 ↔ ws.sum = 0 := by
  have := (wholeF_go ws 0 h (Int.le_refl 0)).2.2
  rw [Int.zero_add] at this; exact this
/- what the greatest number is ahead by -/
theorem wholeF_le (ws : List Int) (a : Int) (h : W16 ws) : ∃ d, 0 ≤ d ∧ ws.foldl (fun a w => 65536 * a + w) a + d = (a + 1) * 65536 ^ ws.length - 1 ∧ (d = 0 ↔ ∀ x ∈ ws, x = 65535) := by
  induction ws generalizing a with
  | nil => exact ⟨0, Int.le_refl 0, by rw [List.length_nil, Int.pow_zero, Int.mul_one, Int.add_sub_cancel]; exact Int.add_zero a, ⟨fun _ _ h => (nomatch h), fun _ => rfl⟩⟩
  | cons x r ih =>
    have hx : 0 ≤ 65535 - x := Int.sub_nonneg_of_le (Int.le_of_lt_add_one (h x (.head _)).2)
    obtain ⟨d, d0, e, z⟩ := ih (65536 * a + x) fun y hy => h y (.tail _ hy)
    have hp : (0 : Int) < 65536 ^ r.length := Int.pow_pos (by decide)
    have f0 := Int.mul_nonneg hx (Int.le_of_lt hp)
    refine ⟨d + (65535 - x) * 65536 ^ r.length, Int.add_nonneg d0 f0, ?_, ?_⟩
    · have k : 65536 * (a + 1) = (65536 * a + x + 1) + (65535 - x) := by clear f0 hp z e d0 hx ih h; omega
      rw [List.foldl_cons, ← Int.add_assoc, e, List.length_cons, Int.pow_succ, Int.mul_comm (65536 ^ r.length), ← Int.mul_assoc, Int.mul_comm (a + 1), k, Int.add_mul (65536 * a + x + 1)]
      exact Int.add_right_comm _ (-1) _
    · rw [sum_zero d0 f0, List.forall_mem_cons, z, Int.mul_eq_zero, Int.sub_eq_zero, and_comm]
      exact and_congr ⟨fun q => (q.resolve_right (Int.ne_of_gt hp)).symm, fun q => .inl q.symm⟩ Iff.rfl
theorem wholeF_top {ws : List Int} (h : W16 ws) : wholeF ws = 65536 ^ ws.length - 1 ↔ ∀ x ∈ ws, x = 65535 := by
  obtain ⟨d, _, e, z⟩ := wholeF_le ws 0 h
  rw [← z]
  rw [Int.zero_add, Int.one_mul] at e
  rw [← e]
  exact ⟨fun q => Int.add_left_cancel ((Int.add_zero _).trans q).symm, fun q => by rw [q]; exact (Int.add_zero _).symm⟩
theorem snoc_of {ws : List Int} (hz : ws.length ≠ 0) : ∃ r x, ws = r ++ [x] := by
  rcases List.eq_nil_or_concat ws with e | ⟨r, x, e⟩
  · rw [e] at hz; exact absurd rfl hz
  · exact ⟨r, x, by rw [e, List.concat_eq_append]⟩

/-! the octets' words -/
theorem octF_take (ws : List Int) (j : Nat) : octF (ws.take j) = (octF ws).take (2 * j) := by
  induction ws generalizing j with
  | nil => simp [octF]
  | cons x r ih =>
    cases j with
    | zero => simp [octF]
    | succ j => simp only [List.take_succ_cons, octF, show 2 * (j + 1) = 2 * j + 1 + 1 from by omega, ih]
theorem octF_drop (ws : List Int) (j : Nat) : octF (ws.drop j) = (octF ws).drop (2 * j) := by
  induction ws generalizing j with
  | nil => simp [octF]
  | cons x r ih =>
    cases j with
    | zero => simp [octF]
    | succ j => simp only [List.drop_succ_cons, octF, show 2 * (j + 1) = 2 * j + 1 + 1 from by omega, ih]
theorem octF_getD (ws : List Int) (i : Nat) (h : i < ws.length) : (octF ws).getD (2 * i) 0 = (ws.getD i 0).fdiv 256 ∧ (octF ws).getD (2 * i + 1) 0 = (ws.getD i 0).fmod 256 := by
  induction ws generalizing i with
  | nil => simp at h
  | cons x r ih =>
    cases i with
    | zero => simp [octF]
    | succ i =>
      have := ih i (by simpa using h)
      simpa [octF, show 2 * (i + 1) = 2 * i + 1 + 1 from by omega] using this
theorem div_mod256 (x : Int) : 256 * x.fdiv 256 + x.fmod 256 = x := by rw [fd256, fm256]; exact Int.mul_ediv_add_emod x 256
theorem sum_take_succ (ws : List Int) (i : Nat) (h : i < ws.length) : (ws.take (i + 1)).sum = (ws.take i).sum + ws.getD i 0 := by
  rw [List.take_add_one, List.getD_eq_getElem?_getD, List.getElem?_eq_getElem h]
  simp only [Option.toList, List.sum_append, List.sum_cons, List.sum_nil, Option.getD, Int.add_zero]
theorem wpre_octF (ws : List Int) : ∀ i, i ≤ ws.length → wpre (octF ws) i = (ws.take i).sum
  | 0, _ => rfl
  | i + 1, h => by
    show wpre (octF ws) i + _ = _
    have hg := octF_getD ws i h
    rw [wpre_octF ws i (Nat.le_of_lt h), hg.1, hg.2, div_mod256, sum_take_succ ws i h]
theorem half_even (n : Nat) : 2 * n / 2 = n ∧ 2 * n % 2 = 0 := ⟨Nat.mul_div_cancel_left n (by decide), Nat.mul_mod_right 2 n⟩
theorem half_odd (n : Nat) : (2 * n + 1) / 2 = n ∧ (2 * n + 1) % 2 = 1 := ⟨Nat.mul_add_div (by decide) n 1, Nat.mul_add_mod 2 n 1⟩
theorem wsum_octF (ws : List Int) : wsum (octF ws) = ws.sum := by
  unfold wsum
  rw [octF_len, (half_even _).1, (half_even _).2, if_neg (by decide), wpre_octF ws _ (Nat.le_refl _), List.take_length, Int.add_zero]
theorem octF_app (a b : List Int) : octF (a ++ b) = octF a ++ octF b := by
  induction a with
  | nil => rfl
  | cons x r ih => simp only [List.cons_append, octF, ih]
theorem wpre_app (a b : List Int) : ∀ i, 2 * i ≤ a.length → wpre (a ++ b) i = wpre a i
  | 0, _ => rfl
  | i + 1, h => by
    show wpre (a ++ b) i + _ = wpre a i + _
    have h2 : 2 * i + 1 < a.length := h
    have h1 := Nat.lt_of_succ_lt h2
    rw [wpre_app a b i (Nat.le_of_lt h1)]
    simp only [List.getD_eq_getElem?_getD, List.getElem?_append_left h1, List.getElem?_append_left h2]
theorem wsum_odd (r : List Int) (y : Int) : wsum (octF r ++ [y]) = r.sum + 256 * y := by
  have l : (octF r ++ [y]).length = 2 * r.length + 1 := by rw [List.length_append, octF_len]; rfl
  unfold wsum
  rw [l, (half_odd _).1, (half_odd _).2, if_pos rfl, wpre_app _ _ _ (by rw [octF_len]; exact Nat.le_refl _), wpre_octF r _ (Nat.le_refl _), List.take_length, Nat.add_sub_cancel, ← octF_len, List.getD_eq_getElem?_getD, List.getElem?_concat_length]
  rfl
theorem octF_odd (r : List Int) (x : Int) : (octF (r ++ [x])).take (2 * r.length + 1) = octF r ++ [x.fdiv 256] := by
  rw [octF_app, ← octF_len r, List.take_length_add_append]; rfl

end arith
section arith2
theorem sum_le16 {a : List Int} (h : W16 a) (i : Nat) : 0 ≤ a.getD i 0 ∧ a.getD i 0 < 65536 := by
  rw [List.getD_eq_getElem?_getD]
  cases e : a[i]? with
  | none => decide
  | some x => exact h x (List.mem_of_getElem? e)
theorem sum_split (a : List Int) (n : Nat) : (a.take n).sum + (a.drop n).sum = a.sum := by
  rw [← List.sum_append, List.take_append_drop]
theorem clip_at {n : Nat} {c : Int} (h0 : 0 ≤ c) (h1 : c ≤ n) : clipAt n c = c.toNat := by
  unfold clipAt
  rw [if_neg (Int.not_lt.mpr h0)]
  rw [Int.min_eq_left h1, Int.max_eq_right h0]
theorem clip_nat {n j : Nat} (h : j ≤ n) : clipAt n (j : Int) = j := (clip_at (Int.natCast_nonneg j) (Int.ofNat_le.mpr h)).trans (Int.toNat_natCast j)
theorem two_nat (j : Nat) : 2 * (j : Int) = ((2 * j : Nat) : Int) := rfl
section
variable {ws ks : List Int} {st : Int}
theorem sums_1 (hr : W16 ws) (hke : ks = octF ws) : sumF (wsum ks) = sumF (wholeF ws) := by
  subst hke
  rw [wsum_octF]
  exact sumF_congr hr.sum_nonneg (wholeF_nonneg hr) (wholeF_mod hr).symm (wholeF_zero hr).symm
theorem sums_2 (hr : W16 ws) (hke : ks = octF ws) : 65535 - sumF (wsum ks) = 65535 - sumF (wholeF ws) := by rw [sums_1 hr hke]
theorem sums_3' (hr : W16 ws) (h0 : 0 ≤ st) : sumF (st + ws.sum) = sumF (wholeF ws + st) := by
  obtain ⟨k, h3⟩ := wholeF_k hr
  rw [Int.add_comm]
  exact sumF_eqz (k := k) (Int.add_nonneg hr.sum_nonneg h0) (Int.add_nonneg (wholeF_nonneg hr) h0) (by rw [h3, Int.add_right_comm]) (add_zero hr.sum_nonneg h0 (wholeF_nonneg hr) h0 (wholeF_zero hr).symm Iff.rfl)
theorem sums_3 (hr : W16 ws) (hke : ks = octF ws) (h0 : 0 ≤ st) : sumF (st + wsum ks) = sumF (wholeF ws + st) := by
  subst hke
  rw [wsum_octF]
  exact sums_3' hr h0
theorem sums_4 (hr : W16 ws) (hke : ks = octF ws) (h0 : 0 ≤ st) : 65535 - sumF (st + wsum ks) = 65535 - sumF (wholeF ws + st) := by rw [sums_3 hr hke h0]
theorem sums_5 {q : Int} (hr : W16 ws) (hke : ks = octF ws) (h0 : 0 ≤ st) (hq : 0 ≤ q ∧ q < (ws.length : Int) + 1) :
    sumF (sumF (st + wsum (ks.take (clipAt ks.length (2 * q)))) + wsum ((ks.drop (clipAt ks.length (2 * q))).take (ks.length - clipAt ks.length (2 * q)))) = sumF (wholeF ws + st) := by
  subst hke
  obtain ⟨j, rfl⟩ := Int.eq_ofNat_of_zero_le hq.1
  have hj : j ≤ ws.length := Int.ofNat_le.mp (Int.le_of_lt_add_one hq.2)
  rw [two_nat, clip_nat (by rw [octF_len]; exact Nat.mul_le_mul_left 2 hj)]
  have e : ((octF ws).drop (2 * j)).take ((octF ws).length - 2 * j) = (octF ws).drop (2 * j) := List.take_of_length_le (Nat.le_of_eq List.length_drop)
  rw [e, ← octF_take, ← octF_drop, wsum_octF, wsum_octF, sumF_sumF (Int.add_nonneg h0 (hr.take j).sum_nonneg) (hr.drop j).sum_nonneg, ← sums_3' hr h0, ← sum_split ws j, Int.add_assoc]
theorem sums_7 (hr : W16 ws) (hke : ks = octF ws) (h0 : 0 ≤ st) (hz : (ws.length : Int) ≠ 0) :
    sumF (st + wsum (ks.take (clipAt ks.length (2 * (ws.length : Int) - 1)))) = sumF (wholeF ws - (ws.getD ((ws.length : Int) - 1).toNat 0).fmod 256 + st) := by
  subst hke
  obtain ⟨r, x, rfl⟩ := snoc_of fun e => hz (by rw [e]; rfl)
  have l : (r ++ [x]).length = r.length + 1 := by rw [List.length_append]; rfl
  have e1 : ((r.length + 1 : Nat) : Int) - 1 = r.length := Int.add_sub_cancel (r.length : Int) 1
  have e2 : 2 * ((r.length + 1 : Nat) : Int) - 1 = ((2 * r.length + 1 : Nat) : Int) := Int.add_sub_cancel ((2 * r.length + 1 : Nat) : Int) 1
  have hx := (hr x (List.mem_append_right _ (.head _))).1
  have hR : W16 r := fun y hy => hr y (List.mem_append_left _ hy)
  have hq : 0 ≤ 256 * x.fdiv 256 := Int.mul_nonneg (by decide) (by rw [fd256]; exact Int.ediv_nonneg hx (by decide))
  have e3 : 65536 * wholeF r + x - x.fmod 256 = 65536 * wholeF r + 256 * x.fdiv 256 := by
    rw [Int.add_sub_assoc]; exact congrArg _ (Int.sub_eq_iff_eq_add.mpr (div_mod256 x).symm)
  rw [l, e1, e2, Int.toNat_natCast, clip_nat (by rw [octF_len, l]; exact Nat.le_succ _), octF_odd, wsum_odd, List.getD_eq_getElem?_getD, List.getElem?_concat_length, wholeF_snoc]
  show _ = sumF (65536 * wholeF r + x - x.fmod 256 + st)
  rw [e3]
  obtain ⟨k, h3⟩ := wholeF_k hR
  have hW := wholeF_nonneg hR
  have hW' : 0 ≤ 65536 * wholeF r := Int.mul_nonneg (by decide) hW
  have hS := hR.sum_nonneg
  have z : r.sum = 0 ↔ 65536 * wholeF r = 0 := (wholeF_zero hR).symm.trans ⟨fun q => by rw [q]; rfl, fun q => (Int.mul_eq_zero.mp q).resolve_left (by decide)⟩
  rw [Int.add_comm]
  exact sumF_eqz (k := wholeF r + k) (Int.add_nonneg (Int.add_nonneg hS hq) h0) (Int.add_nonneg (Int.add_nonneg hW' hq) h0) (by clear z hS hW' hW e3 hq hR hx e1 e2 l hz hr; omega)
    (add_zero (Int.add_nonneg hS hq) h0 (Int.add_nonneg hW' hq) h0 (add_zero hS hq hW' hq z Iff.rfl) Iff.rfl)
theorem sums_8 {q : Int} (hr : W16 ws) (hq : (ws.length : Int) = 0 ∨ (0 ≤ q ∧ q < (ws.length : Int))) (hz : (ws.length : Int) ≠ 0) :
    sumF (wsum (octF ((ws.take q.toNat ++ [0] ++ ws.drop (q + 1).toNat).take q.toNat ++ [65535 - sumF (wsum (octF (ws.take q.toNat ++ [0] ++ ws.drop (q + 1).toNat)))] ++ (ws.take q.toNat ++ [0] ++ ws.drop (q + 1).toNat).drop (q + 1).toNat))) = 65535 := by
  have hq := hq.resolve_left hz
  obtain ⟨j, rfl⟩ := Int.eq_ofNat_of_zero_le hq.1
  have hj : j ≤ ws.length := Int.ofNat_le.mp (Int.le_of_lt hq.2)
  rw [Int.toNat_natCast, show ((j : Int) + 1).toNat = j + 1 from rfl]
  have hl : (ws.take j).length = j := by rw [List.length_take, Nat.min_eq_left hj]
  have e1 : (ws.take j ++ [0] ++ ws.drop (j + 1)).take j = ws.take j := by rw [List.append_assoc, List.take_left' hl]
  have e2 : (ws.take j ++ [0] ++ ws.drop (j + 1)).drop (j + 1) = ws.drop (j + 1) := List.drop_left' (by rw [List.length_append, hl]; rfl)
  rw [e1, e2, wsum_octF, wsum_octF]
  clear e1 e2
  have h1 := (hr.take j).sum_nonneg
  have h2 := (hr.drop (j + 1)).sum_nonneg
  simp only [List.sum_append, List.sum_cons, List.sum_nil, Int.add_zero]
  generalize (ws.take j).sum = a at *
  generalize (ws.drop (j + 1)).sum = b at *
  clear hl hj hq hz hr
  have h3 : 0 ≤ 65535 - sumF (a + b) := Int.sub_nonneg_of_le (sumF_le _)
  obtain ⟨k, hk⟩ := sumF_k (a + b)
  have e : a + (65535 - sumF (a + b)) + b = a + b + (65535 - sumF (a + b)) := Int.add_right_comm _ _ _
  rw [e]
  refine sumF_mul (k := 1 - k) (ipos (Int.add_nonneg (Int.add_nonneg h1 h2) h3) fun q => ?_) (by rw [hk]; clear hk h3 h1 h2 e; omega)
  have q := (sum_zero (Int.add_nonneg h1 h2) h3).mp q
  rw [q.1] at q
  exact absurd q.2 (by decide)
end

end arith2
section arith3
theorem sum_le (a : List Int) (h : W16 a) : a.sum ≤ 65535 * (a.length : Int) ∧ (a.sum = 65535 * (a.length : Int) ↔ ∀ x ∈ a, x = 65535) := by
  induction a with
  | nil => exact ⟨Int.le_refl 0, ⟨fun _ _ h => (nomatch h), fun _ => rfl⟩⟩
  | cons x r ih =>
    have hx : x ≤ 65535 := Int.le_of_lt_add_one (h x (.head _)).2
    obtain ⟨i1, i2⟩ := ih fun y hy => h y (.tail _ hy)
    have e : 65535 * (((x :: r).length : Nat) : Int) = 65535 + 65535 * (r.length : Int) := by rw [List.length_cons, Int.natCast_succ, Int.mul_add, Int.mul_one, Int.add_comm]
    rw [List.sum_cons, e, List.forall_mem_cons, ← i2]
    exact ⟨Int.add_le_add hx i1, ⟨fun q => ⟨(Int.lt_or_eq_of_le hx).resolve_left fun l => absurd q (Int.ne_of_lt (Int.add_lt_add_of_lt_of_le l i1)), (Int.lt_or_eq_of_le i1).resolve_left fun l => absurd q (Int.ne_of_lt (Int.add_lt_add_of_le_of_lt hx l))⟩, fun q => by rw [q.1, q.2]⟩⟩
/- what is left of the great sum when the old is gone and the new has come: nought where all of it is -/
theorem turn_zero {D K so sn : Int} (hD : 0 ≤ D) (h1 : so ≤ K) (h2 : 0 ≤ sn) : 0 ≤ D + K - so + sn ∧ (D + K - so + sn = 0 ↔ (D = 0 ∧ so = K) ∧ sn = 0) := by
  have h3 := Int.sub_nonneg_of_le h1
  have h4 := Int.add_nonneg hD h3
  rw [Int.add_sub_assoc]
  exact ⟨Int.add_nonneg h4 h2, by rw [sum_zero h4 h2, sum_zero hD h3, Int.sub_eq_zero, eq_comm (a := K)]⟩
section
variable {c : Int} {old new : List Int}
theorem mend_T (hl : new.length = old.length) : mendF c (octF old) (octF new) = 65535 - sumF (65535 - c + 65535 * (old.length : Int) - old.sum + new.sum) := by
  unfold mendF
  rw [octF_len, (half_even _).1, wpre_octF old _ (Nat.le_refl _), wpre_octF new _ (Nat.le_of_eq hl.symm), List.take_length, ← hl, List.take_length, hl]
theorem mend_l (ho : W16 old) (hn : W16 new) (hl : new.length = old.length) (hc : 0 ≤ c ∧ c ≤ 65535) : mendF c (octF old) (octF new) = lmendF c old new := by
  rw [mend_T hl]
  unfold lmendF
  have h1 := sum_le old ho
  have hT := turn_zero (Int.sub_nonneg_of_le hc.2) h1.1 hn.sum_nonneg
  have h7 : c = 65535 ∧ wholeF new = 0 ∧ wholeF old = 65536 ^ old.length - 1 ↔ 65535 - c + 65535 * (old.length : Int) - old.sum + new.sum = 0 := by
    rw [hT.2, wholeF_zero hn, wholeF_top ho, h1.2, Int.sub_eq_zero, eq_comm (a := (65535 : Int)), and_comm (a := new.sum = 0), and_assoc]
  obtain ⟨j, h5⟩ := wholeF_k ho
  obtain ⟨i, h6⟩ := wholeF_k hn
  split
  · rename_i h
    rw [h7.mp h]
    rfl
  · rename_i h
    rw [sumF_ne fun e => h (h7.mpr e), fm65535, h5, h6]
    generalize old.sum = so at *
    generalize new.sum = sn at *
    generalize (old.length : Int) = k at *
    clear h h5 h6 h7 hT h1 ho hn hl hc
    have e1 : 65535 - c + 65535 * k - so + sn - 1 = 65534 - c + sn - so + 65535 * k := by omega
    have e2 : 65534 - c + (sn + 65535 * i) - (so + 65535 * j) = 65534 - c + sn - so + 65535 * (i - j) := by omega
    rw [e1, e2, Int.add_mul_emod_self_left, Int.add_mul_emod_self_left, Int.add_comm ((65534 - c + sn - so) % 65535)]
    exact (Int.sub_sub 65535 1 _).symm
end
/- a check that stands for the words: theirs, or the other nought -/
noncomputable def Inv (c : Int) (ws : List Int) : Prop := c = 65535 - sumF ws.sum ∨ (c = 0 ∧ ws.sum = 0)
theorem Inv.range {c : Int} {ws : List Int} (h : Inv c ws) : 0 ≤ c ∧ c ≤ 65535 := by
  rcases h with h | h
  · rw [h]; exact ⟨Int.sub_nonneg_of_le (sumF_le _), Int.sub_le_self _ (sumF_nonneg _)⟩
  · rw [h.1]; decide
/- what a change does to the sum -/
theorem inv_core {D so sn k rest j : Int} (hj : D = rest + so + 65535 * j) (hD : 0 ≤ D) (hz : D = 0 → rest + so = 0) (h0 : 0 ≤ so) (h1 : so ≤ 65535 * k) (h2 : 0 ≤ sn) (h4 : 0 ≤ rest) :
    sumF (D + 65535 * k - so + sn) = sumF (rest + sn) ∨ (sumF (D + 65535 * k - so + sn) = 65535 ∧ rest + sn = 0) := by
  have hT := turn_zero hD h1 h2
  have e : D + 65535 * k - so + sn = rest + sn + 65535 * (j + k) := by rw [hj]; clear hT hj hD hz h0 h1 h2 h4; omega
  by_cases t : D + 65535 * k - so + sn = 0
  · have q := hT.2.mp t
    exact .inl (by rw [t, (sum_zero h4 h2).mpr ⟨((sum_zero h4 h0).mp (hz q.1.1)).1, q.2⟩])
  · have t' := ipos hT.1 t
    by_cases r : rest + sn = 0
    · exact .inr ⟨sumF_mul t' (by rw [e, r, Int.zero_add]), r⟩
    · exact .inl (sumF_eqk t' (ipos (Int.add_nonneg h4 h2) r) e)
theorem inv_D {c s : Int} (hc : c = 65535 - sumF s ∨ (c = 0 ∧ s = 0)) : (∃ j, 65535 - c = s + 65535 * j) ∧ 0 ≤ 65535 - c ∧ (65535 - c = 0 → s = 0) := by
  rcases hc with hc | ⟨hc, hz⟩
  · rw [hc, Int.sub_sub_self]
    exact ⟨sumF_k s, sumF_nonneg s, (sumF_zero_iff s).mp⟩
  · rw [hc, hz]
    exact ⟨⟨1, rfl⟩, by decide, fun _ => rfl⟩
theorem inv_one {c so sn k rest : Int} (hc : c = 65535 - sumF (rest + so) ∨ (c = 0 ∧ rest + so = 0)) (h0 : 0 ≤ so) (h1 : so ≤ 65535 * k) (h2 : 0 ≤ sn) (h4 : 0 ≤ rest) :
    65535 - sumF (65535 - c + 65535 * k - so + sn) = 65535 - sumF (rest + sn) ∨ (65535 - sumF (65535 - c + 65535 * k - so + sn) = 0 ∧ rest + sn = 0) := by
  obtain ⟨⟨j, hj⟩, hD, hz⟩ := inv_D hc
  rcases inv_core hj hD hz h0 h1 h2 h4 with e | ⟨e, z⟩
  · exact .inl (by rw [e])
  · exact .inr ⟨by rw [e]; rfl, z⟩
theorem inv_two {c t so sn k rest : Int} (hc : c = 65535 - sumF (rest + so) ∨ (c = 0 ∧ rest + so = 0)) (h0 : 0 ≤ so) (h1 : so ≤ 65535 * k) (h2 : 0 ≤ sn) (h3 : sn ≤ 65535 * k) (h4 : 0 ≤ rest)
    (ht : t = 65535 - sumF (65535 - c + 65535 * k - so + sn)) :
    65535 - sumF (65535 - t + 65535 * k - sn + so) = c ∨ (65535 - sumF (65535 - t + 65535 * k - sn + so) = 0 ∧ c = 65535) := by
  have hi := inv_one hc h0 h1 h2 h4
  rw [← ht] at hi
  have hj := inv_one hi h2 h3 h0 h4
  rcases hj with hj | ⟨hj, hz⟩
  · rw [hj]
    rcases hc with hc | ⟨hc, hz⟩
    · exact .inl hc.symm
    · rw [hz] at hj
      have hU : 65535 - t + 65535 * k - sn + so = 0 := (sumF_zero_iff _).mp (Int.sub_sub_self 65535 (sumF (65535 - t + 65535 * k - sn + so)) ▸ (by rw [hj]; rfl))
      have q := ((turn_zero (inv_D hi).2.1 h3 h0).2.mp hU).1.1
      rw [ht, Int.sub_sub_self] at q
      have q := ((turn_zero (inv_D (.inr ⟨hc, hz⟩ : c = 65535 - sumF (rest + so) ∨ _)).2.1 h1 h2).2.mp ((sumF_zero_iff _).mp q)).1.1
      rw [hc] at q
      exact absurd q (by decide)
  · rw [hj]
    rcases hc with hc | ⟨hc, _⟩
    · exact .inr ⟨rfl, by rw [hc, hz]; rfl⟩
    · exact .inl hc.symm
theorem ch_at {P Wd : Int} {n : Nat} (hP : 0 ≤ P) (hW : 0 ≤ Wd) (h : P + Wd ≤ n) : P.toNat + Wd.toNat ≤ n ∧ (P + Wd).toNat = P.toNat + Wd.toNat := by
  rw [← Int.toNat_add hP hW]; exact ⟨Int.toNat_le.mpr h, rfl⟩
theorem ch_slice {P Wd : Int} {wo : List Int} (hP : 0 ≤ P) (hW : 0 ≤ Wd) (h : P + Wd ≤ wo.length) : (wo.drop P.toNat).take (min (P + Wd).toNat wo.length - P.toNat) = (wo.drop P.toNat).take Wd.toNat := by
  obtain ⟨a, e⟩ := ch_at hP hW h
  rw [e, Nat.min_eq_left a, Nat.add_sub_cancel_left]
theorem ch_len1 {P Wd : Int} {wo : List Int} (hP : 0 ≤ P) (hW : 0 ≤ Wd) (h : P + Wd ≤ wo.length) : ((wo.drop P.toNat).take Wd.toNat).length = Wd.toNat := by
  rw [List.length_take, List.length_drop, Nat.min_eq_left (Nat.le_sub_of_add_le (Nat.add_comm _ _ ▸ (ch_at hP hW h).1))]
theorem ch_len2 {P Wd : Int} {wo : List Int} (hP : 0 ≤ P) (hW : 0 ≤ Wd) (h : P + Wd ≤ wo.length) : (wo.take P.toNat).length = P.toNat := by
  rw [List.length_take, Nat.min_eq_left (Nat.le_trans (Nat.le_add_right _ _) (ch_at hP hW h).1)]
theorem ch_len3 {P Wd : Int} {wo : List Int} (hP : 0 ≤ P) (hW : 0 ≤ Wd) (h : P + Wd ≤ wo.length) : (wo.drop (P + Wd).toNat).length = wo.length - (P + Wd).toNat := by rw [List.length_drop]
/- all that a turn of the changes needs -/
theorem ch_facts {P Wd c : Int} {wo nw : List Int} (hI : Inv c wo) (hwo : W16 wo) (hnw : W16 nw) (hl : nw.length = Wd.toNat) (hP : 0 ≤ P) (hW : 0 ≤ Wd) (h : P + Wd ≤ wo.length) :
    let old := (wo.drop P.toNat).take Wd.toNat
    let ws := wo.take P.toNat ++ nw ++ wo.drop (P + Wd).toNat
    let t := mendF c (octF old) (octF nw)
    t = lmendF c old nw ∧ (t = 65535 - sumF (wsum (octF ws)) ∨ (t = 0 ∧ 65535 - sumF (wsum (octF ws)) = 65535 ∧ wholeF ws = 0)) ∧
    (mendF t (octF nw) (octF old) = c ∨ (mendF t (octF nw) (octF old) = 0 ∧ c = 65535)) ∧ Inv t ws ∧ W16 ws ∧ ws.length = wo.length := by
  intro old ws t
  have hold : W16 old := (hwo.drop _).take _
  have hlo : old.length = Wd.toNat := ch_len1 hP hW h
  have hws : W16 ws := ((hwo.take _).app hnw).app (hwo.drop _)
  have hd : wo.drop (P + Wd).toNat = (wo.drop P.toNat).drop Wd.toNat := by rw [List.drop_drop, Int.toNat_add hP hW]
  have hs : wo.sum = ((wo.take P.toNat).sum + (wo.drop (P + Wd).toNat).sum) + old.sum := by
    have h1 := sum_split wo P.toNat
    have h2 := sum_split (wo.drop P.toNat) Wd.toNat
    rw [← hd] at h2
    show wo.sum = _ + ((wo.drop P.toNat).take Wd.toNat).sum
    rw [← h1, ← h2, Int.add_assoc]; congr 1; exact Int.add_comm _ _
  have hs' : ws.sum = ((wo.take P.toNat).sum + (wo.drop (P + Wd).toNat).sum) + nw.sum := by
    show (wo.take P.toNat ++ nw ++ wo.drop (P + Wd).toNat).sum = _
    rw [List.sum_append, List.sum_append, Int.add_right_comm]
  have h1 := (sum_le old hold).1
  have h2 := (sum_le nw hnw).1
  have h3 := hold.sum_nonneg
  have h4 := hnw.sum_nonneg
  have h5 := (hwo.take P.toNat).sum_nonneg
  have h6 := (hwo.drop (P + Wd).toNat).sum_nonneg
  have hc := hI.range
  have hll : nw.length = old.length := by rw [hl, hlo]
  have hI' := hI
  unfold Inv at hI'
  rw [hs] at hI'
  have ht : t = 65535 - sumF (65535 - c + 65535 * (old.length : Int) - old.sum + nw.sum) := mend_T hll
  have hb : mendF t (octF nw) (octF old) = 65535 - sumF (65535 - t + 65535 * (old.length : Int) - nw.sum + old.sum) := by rw [mend_T hll.symm, hll]
  have e1 := inv_one (k := (old.length : Int)) (sn := nw.sum) hI' h3 h1 h4 (Int.add_nonneg h5 h6)
  have e2 := inv_two (t := t) (k := (old.length : Int)) (sn := nw.sum) hI' h3 h1 h4 (by rw [← hll]; exact h2) (Int.add_nonneg h5 h6) ht
  rw [← ht, ← hs'] at e1
  refine ⟨mend_l hold hnw hll hc, ?_, by rw [hb]; exact e2, e1, hws, ?_⟩
  · rw [wsum_octF]
    rcases e1 with e | e
    · exact .inl e
    · refine .inr ⟨e.1, ?_, (wholeF_zero hws).mpr e.2⟩
      rw [e.2]; rfl
  · show (wo.take P.toNat ++ nw ++ wo.drop (P + Wd).toNat).length = _
    rw [List.length_append, List.length_append, ch_len2 hP hW h, ch_len3 hP hW h, hl]
    obtain ⟨a, e⟩ := ch_at hP hW h
    rw [e, Nat.add_sub_cancel' a]

end arith3
section law_sums
theorem reset_law_sums : True := by (w_top off; k_with_none; exact trivial)
/- the sizes that it meets -/
theorem sums_sizes {ws : List Int} (h : ws.length ≤ 9) (i j : Nat) (x y : List Int) (hx : x.length = 1) (hy : y.length = 1) :
    let X := ws.take i ++ x ++ ws.drop j
    (ws.take i).length + x.length ≤ sizeLine ∧ (ws.take i ++ x).length + (ws.drop j).length ≤ sizeLine ∧ X.length < 40 ∧ X.length ≤ sizeLine ∧
      (X.take i).length + y.length ≤ sizeLine ∧ (X.take i ++ y).length + (X.drop j).length ≤ sizeLine ∧ (X.take i ++ y ++ X.drop j).length < 40 := by
  intro X
  have c1 : X.length ≤ 19 := Nat.le_trans (cut_le ws x i j) (by rw [hx]; generalize ws.length = n at h ⊢; clear X; omega)
  have c2 : (X.take i ++ y ++ X.drop j).length ≤ 39 := Nat.le_trans (cut_le X y i j) (by rw [hy]; generalize X.length = n at c1 ⊢; omega)
  have s : ∀ {n : Nat}, n ≤ 39 → n ≤ sizeLine := fun h => Nat.le_trans h (Nat.le_of_ble_eq_true rfl)
  have c3 : (ws.take i ++ x).length + (ws.drop j).length ≤ 39 := by rw [← List.length_append]; exact Nat.le_trans c1 (by decide)
  have c4 : (X.take i ++ y).length + (X.drop j).length ≤ 39 := by rw [← List.length_append]; exact c2
  exact ⟨s (by rw [← List.length_append]; exact Nat.le_trans (Nat.le_add_right _ _) c3), s c3, Nat.lt_of_le_of_lt c1 (by decide), s (Nat.le_trans c1 (by decide)), s (by rw [← List.length_append]; exact Nat.le_trans (Nat.le_add_right _ _) c4), s c4, Nat.lt_of_le_of_lt c2 (by decide)⟩
theorem sums_w {vs : List Value} {ws : List Int} (hi : IntsAre vs ws) (hn : ws.length ≤ 9) : vs.toArray.size ≤ sizeLine ∧ vs.length ≤ sizeLine ∧ ws.length ≤ sizeLine := by
  have h : ws.length ≤ sizeLine := Nat.le_trans hn (Nat.le_of_ble_eq_true rfl)
  have e := hi.length
  exact ⟨by rw [List.size_toArray, e]; exact h, e ▸ h, h⟩
set_option maxHeartbeats 8000000 in
theorem law_sums_spec (w : World) (mean : ExcName → Option Value) (mg mb : Str → Option Value) (news : Led) (ls : Addr) (vss : List Value) (sc : List Int) (hsc : IntsAre vss sc) (hscl : sc.length < 100)
    (l : Addr) (vs : List Value) (n : Nat) (ws : List Int) (hl : (l, listOf vs.toArray n) ∈ news) (hi : IntsAre vs ws) (hlen : ws.length ≤ 9) (hr : W16 ws)
    (b : Array UInt8) (t1 t2 : Tok) (ks : List Int) (hkb : KBw.bInts b = ks) (hke : ks = octF ws) (st : Int) (h0 : 0 ≤ st) :
    SpecS w mean mg mb ls vss 151 4 32 news [.ref ls, .ref l, .bytes b t1, .int st t2] (RBool true) := by
  k_with_none
  k_with "mine pyIter ref" => k_extra "my iter"
  k_with "mine exec For" => (k_extra "my for"; (rename Fr _ _ _ _ => lF'); (with_unfolding_all refine' For_invVF lF' ?k1 ?k2 ?_; (case k1 => exact rfl); (case k2 => exact rfl); k_whole))
  k_with "kmk nums" => first | with_reducible exact kmk_all (by l_ints) | (with_reducible refine kmk_from (by l_ints) ?_; first | assumption | omega) | (with_reducible refine kmk_upto (by l_ints) ?_; first | assumption | omega) | (with_reducible refine kmk_run (by l_ints) ?_ ?_ <;> first | assumption | omega)
  k_with "room" => exact roomA (by with_reducible assumption) rfl
  k_with "mine eval Name" => (k_here; k_dflt (refine' nameX_L ?F ?v ?_ ?a ?b; (case F => k_asm); (case a => exact rfl); (case b => exact Eq.refl (some _)); (case v => exact Eq.refl (some _)); k_whole))
  k_with "mine And" => ((with_reducible show Frag.In _ _ ∧ _); k_dflt (refine ⟨Frag.In.keeps (by k_asm) (Fr.keep (by k_asm)), ?_⟩))
  k_with "mine call ref" => (k_here; (with_reducible show wpAny _ _ (PySem.call (Value.ref 130) _ _) _ _ _); k_dflt (refine' Spec.use ?k1 ?k2 ?k3 ?k4 ?k5 ?kK (law_sum_spec _ _ _ _ _ _ _) ?kd ?ku (retI ?_); (case k1 => k_asm); (case k2 => k_asm); (case k3 => k_asm); (case k4 => k_asm); (case k5 => k_asm); (case kK => first | exact rfl | assumption); (case kd => first | ktr_room | fail "law_sum_spec: room"); (case ku => first | ktr_units | fail "law_sum_spec: units"); k_whole); intro t9q h9q tk9q F9q N9q; (try dsimp only); (try k_fold))
  k_with "mine call ref" => (k_here; (with_reducible show wpAny _ _ (PySem.call (Value.ref 58) _ _) _ _ _); k_dflt (refine' Spec.use ?k1 ?k2 ?k3 ?k4 ?k5 ?kK (folded_spec _ _ _ _ _ _ _ ?p1) ?kd ?ku (retI ?_); (case k1 => k_asm); (case k2 => k_asm); (case k3 => k_asm); (case k4 => k_asm); (case k5 => k_asm); (case kK => first | exact rfl | assumption); (case p1 => first | (first | omega | exact Int.add_nonneg (by omega) (Int.mul_nonneg (by omega) (by decide))) | fail "folded_spec: p1"); (case kd => first | ktr_room | fail "folded_spec: room"); (case ku => first | ktr_units | fail "folded_spec: units"); k_whole); intro t9q h9q tk9q F9q N9q; (try dsimp only); (try k_fold))
  k_with "mine call ref" => (k_here; (with_reducible show wpAny _ _ (PySem.call (Value.ref 123) _ _) _ _ _); k_dflt (refine' Spec.use ?k1 ?k2 ?k3 ?k4 ?k5 ?kK (law_whole_spec _ _ _ _ _ _ _ _ _ ?p1 ?p2) ?kd ?ku (retI ?_); (case k1 => k_asm); (case k2 => k_asm); (case k3 => k_asm); (case k4 => k_asm); (case k5 => k_asm); (case kK => first | exact rfl | assumption); (case p1 => first | k_mem | fail "law_whole_spec: p1"); (case p2 => first | l_ints | fail "law_whole_spec: p2"); (case kd => first | ktr_room | fail "law_whole_spec: room"); (case ku => first | ktr_units | fail "law_whole_spec: units"); k_whole); intro t9q h9q tk9q F9q N9q; (try dsimp only); (try k_fold))
  k_with "mine call ref" => (k_here; (with_reducible show wpAny _ _ (PySem.call (Value.ref 66) _ _) _ _ _); k_dflt (refine' Spec.use ?k1 ?k2 ?k3 ?k4 ?k5 ?kK (sum16_spec _ _ _ _ _ _ _ _ _ _ ?p1 ?p2 ?p3) ?kd ?ku (retI ?_); (case k1 => k_asm); (case k2 => k_asm); (case k3 => k_asm); (case k4 => k_asm); (case k5 => k_asm); (case kK => first | exact rfl | assumption); (case p1 => first | assumption | fail "sum16_spec: p1"); (case p2 => first | (first | with_reducible assumption | (with_reducible refine take_lt ?_ _; with_reducible assumption) | (with_reducible refine dt_lt ?_ _ _; with_reducible assumption) | (with_reducible refine oct_lt ?_; with_reducible assumption) | (with_reducible refine map_lt ?_; with_reducible assumption) | assumption | omega | ((simp only [octF_len, List.length_append, List.length_cons, List.length_nil, List.length_map, List.length_take, List.length_drop]); omega)) | fail "sum16_spec: p2"); (case p3 => first | (first | assumption | exact sumF_nonneg _ | omega) | fail "sum16_spec: p3"); (case kd => first | ktr_room | fail "sum16_spec: room"); (case ku => first | ktr_units | fail "sum16_spec: units"); k_whole); intro t9q h9q tk9q F9q N9q; (try dsimp only); (try k_fold))
  k_with "mine call ref" => (k_here; (with_reducible show wpAny _ _ (PySem.call (Value.ref 66) _ _) _ _ _); k_dflt (refine' Spec.use ?k1 ?k2 ?k3 ?k4 ?k5 ?kK (sum16_spec1 _ _ _ _ _ _ _ _ ?p1 ?p2) ?kd ?ku (retI ?_); (case k1 => k_asm); (case k2 => k_asm); (case k3 => k_asm); (case k4 => k_asm); (case k5 => k_asm); (case kK => first | exact rfl | assumption); (case p1 => first | assumption | fail "sum16_spec1: p1"); (case p2 => first | (first | with_reducible assumption | (with_reducible refine take_lt ?_ _; with_reducible assumption) | (with_reducible refine dt_lt ?_ _ _; with_reducible assumption) | (with_reducible refine oct_lt ?_; with_reducible assumption) | (with_reducible refine map_lt ?_; with_reducible assumption) | assumption | omega | ((simp only [octF_len, List.length_append, List.length_cons, List.length_nil, List.length_map, List.length_take, List.length_drop]); omega)) | fail "sum16_spec1: p2"); (case kd => first | ktr_room | fail "sum16_spec1: room"); (case ku => first | ktr_units | fail "sum16_spec1: units"); k_whole); intro t9q h9q tk9q F9q N9q; (try dsimp only); (try k_fold))
  k_with "mine call ref" => (k_here; (with_reducible show wpAny _ _ (PySem.call (Value.ref 74) _ _) _ _ _); k_dflt (refine' Spec.use ?k1 ?k2 ?k3 ?k4 ?k5 ?kK (check_of_spec _ _ _ _ _ _ _ _ _ _ ?p1 ?p2 ?p3) ?kd ?ku (retI ?_); (case k1 => k_asm); (case k2 => k_asm); (case k3 => k_asm); (case k4 => k_asm); (case k5 => k_asm); (case kK => first | exact rfl | assumption); (case p1 => first | assumption | fail "check_of_spec: p1"); (case p2 => first | (first | with_reducible assumption | (with_reducible refine take_lt ?_ _; with_reducible assumption) | (with_reducible refine dt_lt ?_ _ _; with_reducible assumption) | (with_reducible refine oct_lt ?_; with_reducible assumption) | (with_reducible refine map_lt ?_; with_reducible assumption) | assumption | omega | ((simp only [octF_len, List.length_append, List.length_cons, List.length_nil, List.length_map, List.length_take, List.length_drop]); omega)) | fail "check_of_spec: p2"); (case p3 => first | (first | assumption | exact sumF_nonneg _ | omega) | fail "check_of_spec: p3"); (case kd => first | ktr_room | fail "check_of_spec: room"); (case ku => first | ktr_units | fail "check_of_spec: units"); k_whole); intro t9q h9q tk9q F9q N9q; (try dsimp only); (try k_fold))
  k_with "mine call ref" => (k_here; (with_reducible show wpAny _ _ (PySem.call (Value.ref 74) _ _) _ _ _); k_dflt (refine' Spec.use ?k1 ?k2 ?k3 ?k4 ?k5 ?kK (check_of_spec1 _ _ _ _ _ _ _ _ ?p1 ?p2) ?kd ?ku (retI ?_); (case k1 => k_asm); (case k2 => k_asm); (case k3 => k_asm); (case k4 => k_asm); (case k5 => k_asm); (case kK => first | exact rfl | assumption); (case p1 => first | assumption | fail "check_of_spec1: p1"); (case p2 => first | (first | with_reducible assumption | (with_reducible refine take_lt ?_ _; with_reducible assumption) | (with_reducible refine dt_lt ?_ _ _; with_reducible assumption) | (with_reducible refine oct_lt ?_; with_reducible assumption) | (with_reducible refine map_lt ?_; with_reducible assumption) | assumption | omega | ((simp only [octF_len, List.length_append, List.length_cons, List.length_nil, List.length_map, List.length_take, List.length_drop]); omega)) | fail "check_of_spec1: p2"); (case kd => first | ktr_room | fail "check_of_spec1: room"); (case ku => first | ktr_units | fail "check_of_spec1: units"); k_whole); intro t9q h9q tk9q F9q N9q; (try dsimp only); (try k_fold))
  k_with "mine call ref" => (k_here; (with_reducible show wpAny _ _ (PySem.call (Value.ref 116) _ _) _ _ _); k_dflt (refine' Spec.use ?k1 ?k2 ?k3 ?k4 ?k5 ?kK (law_octets_spec _ _ _ _ _ _ _ _ _ ?p1 ?p2 ?p3 ?p4) ?kd ?ku (retY ?_); (case k1 => k_asm); (case k2 => k_asm); (case k3 => k_asm); (case k4 => k_asm); (case k5 => k_asm); (case kK => first | exact rfl | assumption); (case p1 => first | k_mem | fail "law_octets_spec: p1"); (case p2 => first | l_ints | fail "law_octets_spec: p2"); (case p3 => first | (first | with_reducible assumption | (with_reducible refine take_lt ?_ _; with_reducible assumption) | (with_reducible refine dt_lt ?_ _ _; with_reducible assumption) | (with_reducible refine oct_lt ?_; with_reducible assumption) | (with_reducible refine map_lt ?_; with_reducible assumption) | assumption | omega | ((simp only [octF_len, List.length_append, List.length_cons, List.length_nil, List.length_map, List.length_take, List.length_drop]); omega)) | fail "law_octets_spec: p3"); (case p4 => first | (show W16 _; repeat' (first | assumption | exact W16.words _ _ _ | exact W16.one (by decide) (by decide) | exact W16.check _ | refine W16.app ?_ ?_ | refine W16.take ?_ _ | refine W16.drop ?_ _)) | fail "law_octets_spec: p4"); (case kd => first | ktr_room | fail "law_octets_spec: room"); (case ku => first | ktr_units | fail "law_octets_spec: units"); k_whole); intro b9q t9q h9q tk9q hb9q F9q N9q; (try dsimp only); (try k_fold))
  k_with "mine newList" => (k_here; k_dflt (refine' newList_K ?k1 ?k2 ?_; (case k1 => k_asm); (case k2 => k_asm); k_whole); intro l' h' F' N' l1; (try k_sweep))
  k_with "mine binaryOp Add ref ref" => (k_here; (with_reducible show wpAny _ _ (binaryOp _ (Value.ref _) (Value.ref _)) _ _ _); k_dflt (refine' kmk_add_ints ?F ?N ?a ?b ?i ?j ?_ ?z; (case F => k_asm); (case N => k_asm); (case a => kmk_list); (case b => kmk_list); (case i => l_ints); (case j => l_ints); (case z => kmk_sum)); intro D' ws' h' F' N' l1 hI'; (try k_sweep))
  k_with "mine subscriptTail Name Slice ref ref" => (k_here; (with_reducible show wpAny _ _ (subscriptTail _ (PySem.Expr.Slice _ _ none _) (Value.ref _) (Value.ref _)) _ _ _); k_dflt (refine' kmk_slice_ints ?F ?N ?l ?p ?q ?i ?m ?c ?_ ?s ?t ?z; (case F => k_asm); (case N => k_asm); (case l => kmk_list); (case p => kmk_part); (case q => kmk_part); (case i => l_ints); (case m => kmk_nums); (case c => kmk_len); (case s => with_unfolding_all exact rfl); (case t => kmk_pure); (case z => kmk_size)); intro D' ws' h' F' N' l1 hI' hC' hL'; (try simp only [Int.reduceNeg, Int.neg_neg, Int.reduceToNat] at hI' hC' hL'); (try k_sweep))
  k_with "mine call ref" => (k_here; (with_reducible show wpAny _ _ (PySem.call (Value.ref 102) _ _) _ _ _); k_dflt (refine' SpecS.use ?k1 ?k2 ?k3 ?k4 ?k5 ?kK ?kS (law_digit_spec _ _ _ _ _ _ _ _ ?p1 ?p2 _ _ ?p3) ?kd ?ku (retI ?_); (case k1 => k_asm); (case k2 => k_asm); (case k3 => k_asm); (case k4 => k_asm); (case k5 => k_asm); (case kK => first | exact rfl | assumption); (case kS => assumption); (case p1 => first | with_reducible assumption | fail "law_digit_spec: p1"); (case p2 => first | with_reducible assumption | fail "law_digit_spec: p2"); (case p3 => first | (first | with_reducible assumption | exact of_decide_eq_true rfl | omega) | fail "law_digit_spec: p3"); (case kd => first | ktr_room | fail "law_digit_spec: room"); (case ku => first | ktr_units | fail "law_digit_spec: units"); k_whole); intro t9q h9q tk9q F9q N9q; (try dsimp only); (try k_fold))
  k_with "mine eval Call" => (k_here; (first | (with_reducible show wpAny _ _ (eval (PySem.Expr.Call (PySem.Expr.Name (PySem.Str.ofString "_law_digit") _) _ _ _) _) _ _ _) | (with_reducible show wpAny _ _ (eval (PySem.Expr.Call (PySem.Expr.Name (PySem.Str.ofString "_law_sum") _) _ _ _) _) _ _ _) | (with_reducible show wpAny _ _ (eval (PySem.Expr.Call (PySem.Expr.Name (PySem.Str.ofString "_law_number") _) _ _ _) _) _ _ _)); k_dflt (refine PyProof.Rows.Call_ ?_))
  have hkl : ks.length = 2 * ws.length := by rw [hke, octF_len]
  have hwn := wholeF_nonneg hr
  have hq3 : 0 ≤ (cellAt sc 3 0).fmod ((ws.length : Int) + 1) ∧ (cellAt sc 3 0).fmod ((ws.length : Int) + 1) < (ws.length : Int) + 1 := ⟨fmod_lo _ (by omega), fmod_hi _ (by omega)⟩
  have hq4 : (ws.length : Int) = 0 ∨ (0 ≤ (cellAt sc 4 0).fmod (ws.length : Int) ∧ (cellAt sc 4 0).fmod (ws.length : Int) < (ws.length : Int)) := by
    by_cases h : (ws.length : Int) = 0
    · exact .inl h
    · exact .inr ⟨fmod_lo _ (by omega), fmod_hi _ (by omega)⟩
  have hks : ks.length < 100 := by rw [hkl]; clear hq3 hq4; omega
  have y0 := sums_w hi hlen
  have yv1 := y0.1
  have yv2 := y0.2.1
  have yv3 := y0.2.2
  have y := sums_sizes hlen ((cellAt sc 4 0).fmod (ws.length : Int)).toNat ((cellAt sc 4 0).fmod (ws.length : Int) + 1).toNat [0] [65535 - sumF (wsum (octF (ws.take ((cellAt sc 4 0).fmod (ws.length : Int)).toNat ++ [0] ++ ws.drop ((cellAt sc 4 0).fmod (ws.length : Int) + 1).toNat)))] rfl rfl
  have y1 := y.1
  have y2 := y.2.1
  have y3 := y.2.2.1
  have y4 := y.2.2.2.1
  have y5 := y.2.2.2.2.1
  have y6 := y.2.2.2.2.2.1
  have y7 := y.2.2.2.2.2.2
  clear y y0
  unfold SpecS Tp; k_fill
  intro dp un gd cn cs a ccd cl outer A₀ base h₀ L m s Q E B F X N T hk hS hd hu hret
  replace N := newsCons N hl
  refine wpAny_call ?_
  k_dflt (refine' code_def ?k1 ?k2 ?k3 ?k4 ?k5 ?kA ?kF ?kK ?k6 ?k7 ?k8 ?k9 ?kB ?_ ?c2 ?c3 ?c4 ?c5; (case kA => exact rfl); (case kF => exact rfl); (case kK => assumption); (case k1 => k_asm); (case k2 => k_asm); (case k3 => k_asm); (case k4 => k_asm); (case k5 => k_asm); (case k6 => k_is); (case k7 => k_is); (case k8 => ktr_room); (case k9 => first | exact BindsTo.of_eq rfl | exact binds_K (by k_in) rfl (by k_is) rfl rfl rfl); (case c5 => decide); (case kB => exact locs rfl); (case c2 => exact rfl); (case c3 => exact rfl); (case c4 => exact rfl); k_whole; intro g' L' h' FG' F' N' B' X' T'; (try dsimp only); (try k_lift B'); (try k_fold))
  repeat' (first | (fail_if_success (with_reducible show wpAny _ _ (storeName _ (PySem.Str.ofString "place") _) _ _ _)); first | (k_unfold; (try dsimp only)) | (k_end; wrow_close) | walk1 | (dsimp only; walk1) | (leave1; try dsimp only))
  all_goals try (
    (with_reducible show wpAny _ _ (storeName _ (PySem.Str.ofString "place") _) _ _ _)
    have hq5 := hq4.resolve_left (by assumption)
    have hq6 := hq5.1
    have hq7 : 0 ≤ (cellAt sc 4 0).fmod (ws.length : Int) + 1 := Int.add_nonneg hq6 (by decide)
    have hq8 : (cellAt sc 4 0).fmod (ws.length : Int) ≤ (ws.length : Int) := Int.le_of_lt hq5.2
    have hq9 : (cellAt sc 4 0).fmod (ws.length : Int) + 1 ≤ (ws.length : Int) := hq5.2
    clear hq4
    generalize (cellAt sc 4 0).fmod (ws.length : Int) = q at *)
  k_steps
  all_goals first
    | (exfalso; first
        | exact absurd (sums_1 hr hke) (by assumption)
        | exact absurd (sums_2 hr hke) (by assumption)
        | exact absurd (sums_3 hr hke h0) (by assumption)
        | exact absurd (sums_4 hr hke h0) (by assumption)
        | exact absurd (sums_5 hr hke h0 hq3) (by assumption)
        | exact absurd (sums_7 hr hke h0 (by assumption)) (by assumption))
    | (refine' endB (Q := Q) (s := s) hret ?e1 ?e2 ?e3 ?e4; (case e2 => k_asm); (case e3 => k_asm); (case e4 => (first | (intro p9 hp9; (repeat (first | (with_reducible exact hp9) | (with_reducible exact List.mem_append_left _ hp9) | (with_reducible exact List.mem_append_right _ hp9) | (with_reducible refine List.mem_cons_of_mem _ ?_))); done) | kcj_all)); (case e1 => rfl))
    | (refine' endB (Q := Q) (s := s) hret ?e1 ?e2 ?e3 ?e4; (case e2 => k_asm); (case e3 => k_asm); (case e4 => (first | (intro p9 hp9; (repeat (first | (with_reducible exact hp9) | (with_reducible exact List.mem_append_left _ hp9) | (with_reducible exact List.mem_append_right _ hp9) | (with_reducible refine List.mem_cons_of_mem _ ?_))); done) | kcj_all)); (case e1 => (rw [sums_8 hr (.inr (by assumption)) (by assumption)]; rfl)))

end law_sums
section law_changes
theorem reset_law_changes : True := by (w_top off; k_with_none; exact trivial)
noncomputable def Hid (p : Prop) : Prop := p
/- the names that a turn of the changes' loop stores -/
noncomputable def chN : List Str := ["place", "wide", "old", "new", "told", "right", "back"].map Str.ofString
noncomputable def ChJ (base : Led) (many : Nat) (m₀ m : Str → Option Value) (nx : Led) : Prop :=
  ∃ l vs n ws c t, nx = (l, listOf vs.toArray n) :: base ∧ IntsAre vs ws ∧ W16 ws ∧ ws.length = many ∧ m (Str.ofString "words") = some (.ref l) ∧ m (Str.ofString "check") = some (.int c t) ∧ Inv c ws ∧
    ∀ z, z ≠ Str.ofString "k" → z ≠ Str.ofString "words" → z ≠ Str.ofString "check" → z ∉ chN → m z = m₀ z
theorem ch_fun {m₀ m₁ : Str → Option Value} {v v' : Value} (ha : m₁ (Str.ofString "words") = some v) (hb : m₁ (Str.ofString "check") = some v')
    (hm : ∀ z, z ≠ Str.ofString "k" → z ≠ Str.ofString "words" → z ≠ Str.ofString "check" → z ∉ chN → m₁ z = m₀ z) (z : Str) (hk : z ≠ Str.ofString "k") :
    (if z = Str.ofString "words" then some v else if z = Str.ofString "check" then some v' else if z ∈ chN then m₁ z else m₀ z) = m₁ z := by
  by_cases h2 : z = Str.ofString "words"
  · rw [if_pos h2, h2, ha]
  · rw [if_neg h2]
    by_cases h3 : z = Str.ofString "check"
    · rw [if_pos h3, h3, hb]
    · rw [if_neg h3]
      by_cases h4 : z ∈ chN
      · rw [if_pos h4]
      · rw [if_neg h4, hm z hk h2 h3 h4]
theorem ch_fr {h₀ h : Heap} {L : Addr} {v v' w₀ : Value} {m₀ m₁ : Str → Option Value} (ha : m₁ (Str.ofString "words") = some v) (hb : m₁ (Str.ofString "check") = some v')
    (hm : ∀ z, z ≠ Str.ofString "k" → z ≠ Str.ofString "words" → z ≠ Str.ofString "check" → z ∉ chN → m₁ z = m₀ z)
    (F : Fr h₀ L h (fun z => if z = Str.ofString "k" then some w₀ else m₁ z)) : Fr h₀ L h (fun z => if z = Str.ofString "k" then some w₀ else if z = Str.ofString "words" then some v else if z = Str.ofString "check" then some v' else if z ∈ chN then m₁ z else m₀ z) := by
  have e : (fun z => if z = Str.ofString "k" then some w₀ else if z = Str.ofString "words" then some v else if z = Str.ofString "check" then some v' else if z ∈ chN then m₁ z else m₀ z) = fun z => if z = Str.ofString "k" then some w₀ else m₁ z := by
    funext z
    by_cases h1 : z = Str.ofString "k"
    · rw [if_pos h1, if_pos h1]
    · rw [if_neg h1, if_neg h1, ch_fun ha hb hm z h1]
  rw [e]; exact F
theorem ch_out {h₀ h : Heap} {L : Addr} {v v' : Value} {m₀ m₁ : Str → Option Value} (ha : m₁ (Str.ofString "words") = some v) (hb : m₁ (Str.ofString "check") = some v')
    (hm : ∀ z, z ≠ Str.ofString "k" → z ≠ Str.ofString "words" → z ≠ Str.ofString "check" → z ∉ chN → m₁ z = m₀ z)
    (F : Fr h₀ L h m₁) : Fr h₀ L h (fun z => if z = Str.ofString "k" then m₁ z else if z = Str.ofString "words" then some v else if z = Str.ofString "check" then some v' else if z ∈ chN then m₁ z else m₀ z) := by
  have e : (fun z => if z = Str.ofString "k" then m₁ z else if z = Str.ofString "words" then some v else if z = Str.ofString "check" then some v' else if z ∈ chN then m₁ z else m₀ z) = m₁ := by
    funext z
    by_cases h1 : z = Str.ofString "k"
    · rw [if_pos h1]
    · rw [if_neg h1, ch_fun ha hb hm z h1]
  rw [e]; exact F

theorem ch_end {h₀ h' : Heap} {L D lo : Addr} {o : Obj} {base own news' : Led} {vs : List Value} {n₀ tk many : Nat} {ws : List Int} {c : Int} {tc : Tok} {m₀ m' : Str → Option Value} {s₁ : Shared}
    (hoff : OwnOff own (((lo, o) :: base).map (·.1))) (F : Fr h₀ L h' m') (N : News h₀ L h' news') (hm : m' (Str.ofString "words") = some (.ref D)) (hc : m' (Str.ofString "check") = some (.int c tc))
    (hs : ∀ z, z ≠ Str.ofString "k" → z ≠ Str.ofString "words" → z ≠ Str.ofString "check" → z ∉ chN → m' z = m₀ z) (hD : (D, listOf vs.toArray n₀) ∈ news') (hi : IntsAre vs ws) (h16 : W16 ws) (hlen : ws.length = many) (hI : Inv c ws)
    (hb : ∀ p ∈ base, p ∈ news') (ho : ∀ p ∈ own, p ∈ news') (hlt : ∀ p ∈ own, p.1 < D) : InvEndG h₀ L (fun m' nx => ChJ base many m₀ m' nx) own s₁ { s₁ with heap := h', toks := tk } := by
  refine InvEndG.intro F N ⟨D, vs, n₀, ws, c, tc, rfl, hi, h16, hlen, hm, hc, hI, hs⟩ ?_ ?_ ho
  · intro p hp b hb
    rcases List.mem_cons.mp hb with rfl | hb
    · exact Nat.ne_of_lt (hlt p hp)
    · exact hoff p hp b (List.mem_cons_of_mem _ hb)
  · intro p hp
    rcases List.mem_cons.mp hp with rfl | hp
    · exact hD
    · exact hb p hp

/- the sizes that a turn meets -/
theorem ch_sizes {P Wd : Int} {wo nw : List Int} {n : Nat} (hlo : wo.length = n) (hn : n ≤ 8) (hp : 0 ≤ P ∧ P < (n : Int) + 1) (hw : 0 ≤ Wd ∧ Wd < (n : Int) - P + 1) (hl : nw.length = Wd.toNat) :
    let old := (wo.drop P.toNat).take Wd.toNat
    let ws := wo.take P.toNat ++ nw ++ wo.drop (P + Wd).toNat
    old.length < 40 ∧ nw.length < 40 ∧ (octF nw).length = (octF old).length ∧ (octF old).length = (octF nw).length ∧ (octF old).length % 2 = 0 ∧ (octF nw).length % 2 = 0 ∧
      (wo.take P.toNat).length + nw.length ≤ sizeLine ∧ (wo.take P.toNat ++ nw).length + (wo.drop (P + Wd).toNat).length ≤ sizeLine ∧ ws.length < 40 := by
  subst hlo
  intro old ws
  have q1 : old.length = Wd.toNat := ch_len1 hp.1 hw.1 (by clear hn hl; omega)
  have q2 : (wo.take P.toNat).length ≤ 8 := Nat.le_trans (by rw [List.length_take]; exact Nat.min_le_right _ _) hn
  have q3 : (wo.drop (P + Wd).toNat).length ≤ 8 := Nat.le_trans (by rw [List.length_drop]; exact Nat.sub_le _ _) hn
  have q4 : Wd.toNat ≤ 8 := by clear hl q1 q2 q3; omega
  have q5 : nw.length ≤ 8 := hl ▸ q4
  have q6 : old.length = nw.length := q1.trans hl.symm
  have q7 : (octF nw).length % 2 = 0 := by rw [octF_len]; exact Nat.mul_mod_right 2 _
  have q8 : (wo.take P.toNat ++ nw).length ≤ 16 := by rw [List.length_append]; exact Nat.add_le_add q2 q5
  have q9 : ws.length ≤ 24 := by
    show (wo.take P.toNat ++ nw ++ wo.drop (P + Wd).toNat).length ≤ 24
    rw [List.length_append]; exact Nat.add_le_add q8 q3
  have e : (octF nw).length = (octF old).length := by rw [octF_len, octF_len, q6]
  have le : ∀ {a b : Nat}, a + b ≤ 24 → a + b ≤ sizeLine := fun h => Nat.le_trans h (Nat.le_of_ble_eq_true rfl)
  refine ⟨?_, Nat.lt_of_le_of_lt q5 (by decide), e, e.symm, e ▸ q7, q7, ?_, ?_, Nat.lt_of_le_of_lt q9 (by decide)⟩
  · rw [q6]; exact Nat.lt_of_le_of_lt q5 (by decide)
  · exact le (Nat.le_trans (Nat.add_le_add q2 q5) (by decide))
  · exact le (Nat.add_le_add q8 q3)
theorem ch_w {vs : List Value} {ws : List Int} {n : Nat} (hi : IntsAre vs ws) (hl : ws.length = n) (hn : n ≤ 8) : vs.toArray.size ≤ sizeLine ∧ vs.length ≤ sizeLine ∧ ws.length ≤ sizeLine := by
  have h : ws.length ≤ sizeLine := Nat.le_trans (hl ▸ hn) (Nat.le_of_ble_eq_true rfl)
  have e := hi.length
  exact ⟨by rw [List.size_toArray, e]; exact h, e ▸ h, h⟩
theorem ch_9 {P Wd : Int} {n : Nat} (hn : n ≤ 8) (hp : 0 ≤ P) (hw : Wd < (n : Int) - P + 1) : Wd ≤ 9 := by omega
theorem ch_bne {a b : Int} (h : a = b) : (a != b) = false := by rw [h]; exact bne_self_eq_false b
theorem ch_pos (i : Nat) {k : Int} (hk : 0 ≤ k) : 0 ≤ k + 3 * (0 + (i : Int) * 1) := by omega
set_option maxHeartbeats 8000000 in
theorem law_changes_spec (w : World) (mean : ExcName → Option Value) (mg mb : Str → Option Value) (news : Led) (ls : Addr) (vss : List Value) (sc : List Int) (hsc : IntsAre vss sc) (hscl : sc.length < 100)
    (l : Addr) (vs : List Value) (n : Nat) (ws : List Int) (hl : (l, listOf vs.toArray n) ∈ news) (hi : IntsAre vs ws) (hlen : ws.length ≤ 8) (hr : W16 ws) :
    SpecS w mean mg mb ls vss 158 5 40 news [.ref ls, .ref l] (RBool true) := by
  k_with_none
  k_with "mine pyIter ref" => k_extra "my iter"
  k_with "mine exec For" => (k_extra "my for"; (rename Fr _ _ _ _ => lF'); (with_unfolding_all refine' For_invVF lF' ?k1 ?k2 ?_; (case k1 => exact rfl); (case k2 => exact rfl); k_whole))
  k_with "kmk nums" => first | with_reducible exact kmk_all (by l_ints) | (with_reducible refine kmk_from (by l_ints) ?_; first | assumption | omega) | (with_reducible refine kmk_upto (by l_ints) ?_; first | assumption | omega) | (with_reducible refine kmk_run (by l_ints) ?_ ?_ <;> first | assumption | omega)
  k_with "room" => exact roomA (by with_reducible assumption) rfl
  k_with "mine eval Name" => (k_here; k_dflt (refine' nameX_L ?F ?v ?_ ?a ?b; (case F => k_asm); (case a => exact rfl); (case b => exact Eq.refl (some _)); (case v => exact Eq.refl (some _)); k_whole))
  k_with "mine And" => ((with_reducible show Frag.In _ _ ∧ _); k_dflt (refine ⟨Frag.In.keeps (by k_asm) (Fr.keep (by k_asm)), ?_⟩))
  k_with "mine call ref" => (k_here; (with_reducible show wpAny _ _ (PySem.call (Value.ref 130) _ _) _ _ _); k_dflt (refine' Spec.use ?k1 ?k2 ?k3 ?k4 ?k5 ?kK (law_sum_spec _ _ _ _ _ _ _) ?kd ?ku (retI ?_); (case k1 => k_asm); (case k2 => k_asm); (case k3 => k_asm); (case k4 => k_asm); (case k5 => k_asm); (case kK => first | exact rfl | assumption); (case kd => first | ktr_room | fail "law_sum_spec: room"); (case ku => first | ktr_units | fail "law_sum_spec: units"); k_whole); intro t9q h9q tk9q F9q N9q; (try dsimp only); (try k_fold))
  k_with "mine call ref" => (k_here; (with_reducible show wpAny _ _ (PySem.call (Value.ref 58) _ _) _ _ _); k_dflt (refine' Spec.use ?k1 ?k2 ?k3 ?k4 ?k5 ?kK (folded_spec _ _ _ _ _ _ _ ?p1) ?kd ?ku (retI ?_); (case k1 => k_asm); (case k2 => k_asm); (case k3 => k_asm); (case k4 => k_asm); (case k5 => k_asm); (case kK => first | exact rfl | assumption); (case p1 => first | (first | omega | exact Int.add_nonneg (by omega) (Int.mul_nonneg (by omega) (by decide))) | fail "folded_spec: p1"); (case kd => first | ktr_room | fail "folded_spec: room"); (case ku => first | ktr_units | fail "folded_spec: units"); k_whole); intro t9q h9q tk9q F9q N9q; (try dsimp only); (try k_fold))
  k_with "mine call ref" => (k_here; (with_reducible show wpAny _ _ (PySem.call (Value.ref 123) _ _) _ _ _); k_dflt (refine' Spec.use ?k1 ?k2 ?k3 ?k4 ?k5 ?kK (law_whole_spec _ _ _ _ _ _ _ _ _ ?p1 ?p2) ?kd ?ku (retI ?_); (case k1 => k_asm); (case k2 => k_asm); (case k3 => k_asm); (case k4 => k_asm); (case k5 => k_asm); (case kK => first | exact rfl | assumption); (case p1 => first | k_mem | fail "law_whole_spec: p1"); (case p2 => first | l_ints | fail "law_whole_spec: p2"); (case kd => first | ktr_room | fail "law_whole_spec: room"); (case ku => first | ktr_units | fail "law_whole_spec: units"); k_whole); intro t9q h9q tk9q F9q N9q; (try dsimp only); (try k_fold))
  k_with "mine call ref" => (k_here; (with_reducible show wpAny _ _ (PySem.call (Value.ref 66) _ _) _ _ _); k_dflt (refine' Spec.use ?k1 ?k2 ?k3 ?k4 ?k5 ?kK (sum16_spec _ _ _ _ _ _ _ _ _ _ ?p1 ?p2 ?p3) ?kd ?ku (retI ?_); (case k1 => k_asm); (case k2 => k_asm); (case k3 => k_asm); (case k4 => k_asm); (case k5 => k_asm); (case kK => first | exact rfl | assumption); (case p1 => first | assumption | fail "sum16_spec: p1"); (case p2 => first | (first | with_reducible assumption | (with_reducible refine take_lt ?_ _; with_reducible assumption) | (with_reducible refine dt_lt ?_ _ _; with_reducible assumption) | (with_reducible refine oct_lt ?_; with_reducible assumption) | (with_reducible refine map_lt ?_; with_reducible assumption) | assumption | omega | ((simp only [octF_len, List.length_append, List.length_cons, List.length_nil, List.length_map, List.length_take, List.length_drop]); omega)) | fail "sum16_spec: p2"); (case p3 => first | (first | assumption | exact sumF_nonneg _ | omega) | fail "sum16_spec: p3"); (case kd => first | ktr_room | fail "sum16_spec: room"); (case ku => first | ktr_units | fail "sum16_spec: units"); k_whole); intro t9q h9q tk9q F9q N9q; (try dsimp only); (try k_fold))
  k_with "mine call ref" => (k_here; (with_reducible show wpAny _ _ (PySem.call (Value.ref 66) _ _) _ _ _); k_dflt (refine' Spec.use ?k1 ?k2 ?k3 ?k4 ?k5 ?kK (sum16_spec1 _ _ _ _ _ _ _ _ ?p1 ?p2) ?kd ?ku (retI ?_); (case k1 => k_asm); (case k2 => k_asm); (case k3 => k_asm); (case k4 => k_asm); (case k5 => k_asm); (case kK => first | exact rfl | assumption); (case p1 => first | assumption | fail "sum16_spec1: p1"); (case p2 => first | (first | with_reducible assumption | (with_reducible refine take_lt ?_ _; with_reducible assumption) | (with_reducible refine dt_lt ?_ _ _; with_reducible assumption) | (with_reducible refine oct_lt ?_; with_reducible assumption) | (with_reducible refine map_lt ?_; with_reducible assumption) | assumption | omega | ((simp only [octF_len, List.length_append, List.length_cons, List.length_nil, List.length_map, List.length_take, List.length_drop]); omega)) | fail "sum16_spec1: p2"); (case kd => first | ktr_room | fail "sum16_spec1: room"); (case ku => first | ktr_units | fail "sum16_spec1: units"); k_whole); intro t9q h9q tk9q F9q N9q; (try dsimp only); (try k_fold))
  k_with "mine call ref" => (k_here; (with_reducible show wpAny _ _ (PySem.call (Value.ref 74) _ _) _ _ _); k_dflt (refine' Spec.use ?k1 ?k2 ?k3 ?k4 ?k5 ?kK (check_of_spec _ _ _ _ _ _ _ _ _ _ ?p1 ?p2 ?p3) ?kd ?ku (retI ?_); (case k1 => k_asm); (case k2 => k_asm); (case k3 => k_asm); (case k4 => k_asm); (case k5 => k_asm); (case kK => first | exact rfl | assumption); (case p1 => first | assumption | fail "check_of_spec: p1"); (case p2 => first | (first | with_reducible assumption | (with_reducible refine take_lt ?_ _; with_reducible assumption) | (with_reducible refine dt_lt ?_ _ _; with_reducible assumption) | (with_reducible refine oct_lt ?_; with_reducible assumption) | (with_reducible refine map_lt ?_; with_reducible assumption) | assumption | omega | ((simp only [octF_len, List.length_append, List.length_cons, List.length_nil, List.length_map, List.length_take, List.length_drop]); omega)) | fail "check_of_spec: p2"); (case p3 => first | (first | assumption | exact sumF_nonneg _ | omega) | fail "check_of_spec: p3"); (case kd => first | ktr_room | fail "check_of_spec: room"); (case ku => first | ktr_units | fail "check_of_spec: units"); k_whole); intro t9q h9q tk9q F9q N9q; (try dsimp only); (try k_fold))
  k_with "mine call ref" => (k_here; (with_reducible show wpAny _ _ (PySem.call (Value.ref 74) _ _) _ _ _); k_dflt (refine' Spec.use ?k1 ?k2 ?k3 ?k4 ?k5 ?kK (check_of_spec1 _ _ _ _ _ _ _ _ ?p1 ?p2) ?kd ?ku (retI ?_); (case k1 => k_asm); (case k2 => k_asm); (case k3 => k_asm); (case k4 => k_asm); (case k5 => k_asm); (case kK => first | exact rfl | assumption); (case p1 => first | assumption | fail "check_of_spec1: p1"); (case p2 => first | (first | with_reducible assumption | (with_reducible refine take_lt ?_ _; with_reducible assumption) | (with_reducible refine dt_lt ?_ _ _; with_reducible assumption) | (with_reducible refine oct_lt ?_; with_reducible assumption) | (with_reducible refine map_lt ?_; with_reducible assumption) | assumption | omega | ((simp only [octF_len, List.length_append, List.length_cons, List.length_nil, List.length_map, List.length_take, List.length_drop]); omega)) | fail "check_of_spec1: p2"); (case kd => first | ktr_room | fail "check_of_spec1: room"); (case ku => first | ktr_units | fail "check_of_spec1: units"); k_whole); intro t9q h9q tk9q F9q N9q; (try dsimp only); (try k_fold))
  k_with "mine call ref" => (k_here; (with_reducible show wpAny _ _ (PySem.call (Value.ref 81) _ _) _ _ _); k_dflt (refine' Spec.use ?k1 ?k2 ?k3 ?k4 ?k5 ?kK (mend_spec _ _ _ _ _ _ _ _ _ _ _ _ _ ?p1 ?p2 ?p3 ?p4 ?p5 ?p6) ?kd ?ku (retI ?_); (case k1 => k_asm); (case k2 => k_asm); (case k3 => k_asm); (case k4 => k_asm); (case k5 => k_asm); (case kK => first | exact rfl | assumption); (case p1 => first | assumption | fail "mend_spec: p1"); (case p2 => first | assumption | fail "mend_spec: p2"); (case p3 => first | (first | with_reducible assumption | (with_reducible refine take_lt ?_ _; with_reducible assumption) | (with_reducible refine dt_lt ?_ _ _; with_reducible assumption) | (with_reducible refine oct_lt ?_; with_reducible assumption) | (with_reducible refine map_lt ?_; with_reducible assumption) | assumption | omega | ((simp only [octF_len, List.length_append, List.length_cons, List.length_nil, List.length_map, List.length_take, List.length_drop]); omega)) | fail "mend_spec: p3"); (case p4 => first | (first | with_reducible assumption | (with_reducible refine take_lt ?_ _; with_reducible assumption) | (with_reducible refine dt_lt ?_ _ _; with_reducible assumption) | (with_reducible refine oct_lt ?_; with_reducible assumption) | (with_reducible refine map_lt ?_; with_reducible assumption) | assumption | omega | ((simp only [octF_len, List.length_append, List.length_cons, List.length_nil, List.length_map, List.length_take, List.length_drop]); omega)) | fail "mend_spec: p4"); (case p5 => first | (first | with_reducible assumption | (with_reducible refine take_lt ?_ _; with_reducible assumption) | (with_reducible refine dt_lt ?_ _ _; with_reducible assumption) | (with_reducible refine oct_lt ?_; with_reducible assumption) | (with_reducible refine map_lt ?_; with_reducible assumption) | assumption | omega | ((simp only [octF_len, List.length_append, List.length_cons, List.length_nil, List.length_map, List.length_take, List.length_drop]); omega)) | fail "mend_spec: p5"); (case p6 => first | (first | assumption | omega | exact mendF_le _ _ _) | fail "mend_spec: p6"); (case kd => first | ktr_room | fail "mend_spec: room"); (case ku => first | ktr_units | fail "mend_spec: units"); k_whole); intro t9q h9q tk9q F9q N9q; (try dsimp only); (try k_fold))
  k_with "mine call ref" => (k_here; (with_reducible show wpAny _ _ (PySem.call (Value.ref 109) _ _) _ _ _); k_dflt (refine' Spec.use ?k1 ?k2 ?k3 ?k4 ?k5 ?kK (law_words_specI _ _ _ _ _ _ _ _ _ _ _ ?p1 ?p2) ?kd ?ku (retN ?_); (case k1 => k_asm); (case k2 => k_asm); (case k3 => k_asm); (case k4 => k_asm); (case k5 => k_asm); (case kK => first | exact rfl | assumption); (case p1 => first | (first | assumption | exact sumF_nonneg _ | omega) | fail "law_words_specI: p1"); (case p2 => first | (first | assumption | exact sumF_nonneg _ | omega) | fail "law_words_specI: p2"); (case kd => first | ktr_room | fail "law_words_specI: room"); (case ku => first | ktr_units | fail "law_words_specI: units"); k_whole); intro l9q vs9q n9q h9q tk9q hi9q hz9q F9q N9q; (try k_lt hz9q); (have hw9q := words_len hi9q); (try dsimp only); (try k_fold))
  k_with "mine call ref" => (k_here; (with_reducible show wpAny _ _ (PySem.call (Value.ref 116) _ _) _ _ _); k_dflt (refine' Spec.use ?k1 ?k2 ?k3 ?k4 ?k5 ?kK (law_octets_spec _ _ _ _ _ _ _ _ _ ?p1 ?p2 ?p3 ?p4) ?kd ?ku (retY ?_); (case k1 => k_asm); (case k2 => k_asm); (case k3 => k_asm); (case k4 => k_asm); (case k5 => k_asm); (case kK => first | exact rfl | assumption); (case p1 => first | k_mem | fail "law_octets_spec: p1"); (case p2 => first | l_ints | fail "law_octets_spec: p2"); (case p3 => first | (first | with_reducible assumption | (with_reducible refine take_lt ?_ _; with_reducible assumption) | (with_reducible refine dt_lt ?_ _ _; with_reducible assumption) | (with_reducible refine oct_lt ?_; with_reducible assumption) | (with_reducible refine map_lt ?_; with_reducible assumption) | assumption | omega | ((simp only [octF_len, List.length_append, List.length_cons, List.length_nil, List.length_map, List.length_take, List.length_drop]); omega)) | fail "law_octets_spec: p3"); (case p4 => first | (show W16 _; repeat' (first | assumption | exact W16.words _ _ _ | exact W16.one (by decide) (by decide) | exact W16.check _ | refine W16.app ?_ ?_ | refine W16.take ?_ _ | refine W16.drop ?_ _)) | fail "law_octets_spec: p4"); (case kd => first | ktr_room | fail "law_octets_spec: room"); (case ku => first | ktr_units | fail "law_octets_spec: units"); k_whole); intro b9q t9q h9q tk9q hb9q F9q N9q; (try dsimp only); (try k_fold))
  k_with "mine call ref" => (k_here; (with_reducible show wpAny _ _ (PySem.call (Value.ref 137) _ _) _ _ _); k_dflt (refine' Spec.use ?k1 ?k2 ?k3 ?k4 ?k5 ?kK (law_mend_spec _ _ _ _ _ _ _ _ _ _ _ _ _ _ _ ?p1 ?p2 ?p3 ?p4 ?p5) ?kd ?ku (retI ?_); (case k1 => k_asm); (case k2 => k_asm); (case k3 => k_asm); (case k4 => k_asm); (case k5 => k_asm); (case kK => first | exact rfl | assumption); (case p1 => first | k_mem | fail "law_mend_spec: p1"); (case p2 => first | l_ints | fail "law_mend_spec: p2"); (case p3 => first | k_mem | fail "law_mend_spec: p3"); (case p4 => first | l_ints | fail "law_mend_spec: p4"); (case p5 => first | (first | with_reducible assumption | (with_reducible refine take_lt ?_ _; with_reducible assumption) | (with_reducible refine dt_lt ?_ _ _; with_reducible assumption) | (with_reducible refine oct_lt ?_; with_reducible assumption) | (with_reducible refine map_lt ?_; with_reducible assumption) | assumption | omega | ((simp only [octF_len, List.length_append, List.length_cons, List.length_nil, List.length_map, List.length_take, List.length_drop]); omega)) | fail "law_mend_spec: p5"); (case kd => first | ktr_room | fail "law_mend_spec: room"); (case ku => first | ktr_units | fail "law_mend_spec: units"); k_whole); intro t9q h9q tk9q F9q N9q; (try dsimp only); (try k_fold))
  k_with "mine newList" => (k_here; k_dflt (refine' newList_K ?k1 ?k2 ?_; (case k1 => k_asm); (case k2 => k_asm); k_whole); intro l' h' F' N' l1; (try k_sweep))
  k_with "mine binaryOp Add ref ref" => (k_here; (with_reducible show wpAny _ _ (binaryOp _ (Value.ref _) (Value.ref _)) _ _ _); k_dflt (refine' kmk_add_ints ?F ?N ?a ?b ?i ?j ?_ ?z; (case F => k_asm); (case N => k_asm); (case a => kmk_list); (case b => kmk_list); (case i => l_ints); (case j => l_ints); (case z => kmk_sum)); intro D' ws' h' F' N' l1 hI'; (try k_sweep))
  k_with "mine subscriptTail Name Slice ref ref" => (k_here; (with_reducible show wpAny _ _ (subscriptTail _ (PySem.Expr.Slice _ _ none _) (Value.ref _) (Value.ref _)) _ _ _); k_dflt (refine' kmk_slice_ints ?F ?N ?l ?p ?q ?i ?m ?c ?_ ?s ?t ?z; (case F => k_asm); (case N => k_asm); (case l => kmk_list); (case p => kmk_part); (case q => kmk_part); (case i => l_ints); (case m => kmk_nums); (case c => kmk_len); (case s => with_unfolding_all exact rfl); (case t => kmk_pure); (case z => kmk_size)); intro D' ws' h' F' N' l1 hI' hC' hL'; (try simp only [Int.reduceNeg, Int.neg_neg, Int.reduceToNat] at hI' hC' hL'); (try k_sweep))
  k_with "mine call ref" => (k_here; (with_reducible show wpAny _ _ (PySem.call (Value.ref 102) _ _) _ _ _); k_dflt (refine' SpecS.use ?k1 ?k2 ?k3 ?k4 ?k5 ?kK ?kS (law_digit_spec _ _ _ _ _ _ _ _ ?p1 ?p2 _ _ ?p3) ?kd ?ku (retI ?_); (case k1 => k_asm); (case k2 => k_asm); (case k3 => k_asm); (case k4 => k_asm); (case k5 => k_asm); (case kK => first | exact rfl | assumption); (case kS => assumption); (case p1 => first | with_reducible assumption | fail "law_digit_spec: p1"); (case p2 => first | with_reducible assumption | fail "law_digit_spec: p2"); (case p3 => first | (first | with_reducible assumption | exact of_decide_eq_true rfl | omega) | fail "law_digit_spec: p3"); (case kd => first | ktr_room | fail "law_digit_spec: room"); (case ku => first | ktr_units | fail "law_digit_spec: units"); k_whole); intro t9q h9q tk9q F9q N9q; (try dsimp only); (try k_fold))
  k_with "mine eval Call" => (k_here; (first | (with_reducible show wpAny _ _ (eval (PySem.Expr.Call (PySem.Expr.Name (PySem.Str.ofString "_law_digit") _) _ _ _) _) _ _ _) | (with_reducible show wpAny _ _ (eval (PySem.Expr.Call (PySem.Expr.Name (PySem.Str.ofString "_law_sum") _) _ _ _) _) _ _ _) | (with_reducible show wpAny _ _ (eval (PySem.Expr.Call (PySem.Expr.Name (PySem.Str.ofString "_law_number") _) _ _ _) _) _ _ _)); k_dflt (refine PyProof.Rows.Call_ ?_))
  k_with "mine exec If" => (k_here; k_dflt (refine' If_false ?F ?N ?_ ?_; (case F => k_asm); (case N => k_asm)); rotate_left; intro h9q tk9q F9q N9q; (try dsimp only); (try k_fold); rotate_right)
  unfold SpecS Tp; k_fill
  intro dp un gd cn cs a ccd cl outer A₀ base h₀ L m s Q E B F X N T hk hS hd hu hret
  replace N := newsCons N hl
  refine wpAny_call ?_
  k_dflt (refine' code_def ?k1 ?k2 ?k3 ?k4 ?k5 ?kA ?kF ?kK ?k6 ?k7 ?k8 ?k9 ?kB ?_ ?c2 ?c3 ?c4 ?c5; (case kA => exact rfl); (case kF => exact rfl); (case kK => assumption); (case k1 => k_asm); (case k2 => k_asm); (case k3 => k_asm); (case k4 => k_asm); (case k5 => k_asm); (case k6 => k_is); (case k7 => k_is); (case k8 => ktr_room); (case k9 => first | exact BindsTo.of_eq rfl | exact binds_K (by k_in) rfl (by k_is) rfl rfl rfl); (case c5 => decide); (case kB => exact locs rfl); (case c2 => exact rfl); (case c3 => exact rfl); (case c4 => exact rfl); k_whole; intro g' L' h' FG' F' N' B' X' T'; (try dsimp only); (try k_lift B'); (try k_fold))
  repeat' (first | (fail_if_success (with_reducible show wpAny _ _ (pyIter _) _ _ _)); first | (k_unfold; (try dsimp only)) | (k_end; wrow_close) | walk1 | (dsimp only; walk1) | (leave1; try dsimp only))
  rename IsRange _ _ _ _ _ _ _ _ => hR
  rename Fr _ _ _ _ => F1
  rename News _ _ _ _ => N1
  have hI0 : Inv (65535 - sumF (wsum (octF ws))) ws := .inl (by rw [wsum_octF])
  with_unfolding_all refine' rngG (n := 4) (fun _ m nx => ChJ news ws.length _ m nx) (by rfl) hR ?small ?size F1 N1 ⟨l, vs, n, ws, _, _, rfl, hi, hr, rfl, by rfl, by rfl, hI0, fun _ _ _ _ _ => rfl⟩ (fun i t m₁ nx h tk own hi9 hoff hJ F2 N2 => ?turn) (fun m₁ nx h tk hJ F3 N3 => ?done)
  (case small => exact small_one (by omega) (by omega) (by omega) (by omega))
  (case size => decide)
  (case' turn => (
    (obtain ⟨lo, vo, no, wo, co, tc, hnx, hio, hwo, hlo, hm1, hm2, hIn, hme⟩ := hJ)
    subst hnx
    (replace F2 := ch_fr hm1 hm2 hme F2)
    dsimp only [envOf] at F2 N2
    simp only [List.cons_append] at N2
    (have hcr := hIn.range)
    (have yp5 := ch_pos i (k := 5) (by decide))
    (have yp6 := ch_pos i (k := 6) (by decide))
    (have yp7 := ch_pos i (k := 7) (by decide))
    (have y0 := ch_w hio hlo hlen)
    (have yv1 := y0.1)
    (have yv2 := y0.2.1)
    (have yv3 := y0.2.2)
    (have hp9 : 0 ≤ (cellAt sc (5 + 3 * (0 + (i : Int) * 1)) 0).fmod ((ws.length : Int) + 1) ∧ (cellAt sc (5 + 3 * (0 + (i : Int) * 1)) 0).fmod ((ws.length : Int) + 1) < (ws.length : Int) + 1 := ⟨fmod_lo _ (by omega), fmod_hi _ (by omega)⟩)
    (have hw9 : 0 ≤ (cellAt sc (6 + 3 * (0 + (i : Int) * 1)) 0 + 2).fmod ((ws.length : Int) - (cellAt sc (5 + 3 * (0 + (i : Int) * 1)) 0).fmod ((ws.length : Int) + 1) + 1) ∧ (cellAt sc (6 + 3 * (0 + (i : Int) * 1)) 0 + 2).fmod ((ws.length : Int) - (cellAt sc (5 + 3 * (0 + (i : Int) * 1)) 0).fmod ((ws.length : Int) + 1) + 1) < (ws.length : Int) - (cellAt sc (5 + 3 * (0 + (i : Int) * 1)) 0).fmod ((ws.length : Int) + 1) + 1 := ⟨fmod_lo _ (by omega), fmod_hi _ (by omega)⟩)
    skip))
  (case' done => (
    (obtain ⟨lo, vo, no, wo, co, tc, hnx, hio, hwo, hlo, hm1, hm2, hIn, hme⟩ := hJ)
    subst hnx
    (replace F3 := ch_out hm1 hm2 hme F3)
    dsimp only [envOf] at F3 N3))
  case' turn => (
    repeat' (first | (fail_if_success (with_reducible show wpAny _ _ (eval (PySem.Expr.Subscript ..) _) _ _ _)); first | (k_unfold; (try dsimp only)) | (k_end; wrow_close) | walk1 | (dsimp only; walk1) | (leave1; try dsimp only))
    (generalize hPe : (cellAt sc (5 + 3 * (0 + (i : Int) * 1)) 0).fmod ((ws.length : Int) + 1) = P at *)
    (generalize hWe : (cellAt sc (6 + 3 * (0 + (i : Int) * 1)) 0 + 2).fmod ((ws.length : Int) - P + 1) = Wd at *)
    clear hPe hWe
    have yw := hw9.1
    have yw9 := ch_9 hlen hp9.1 hw9.2
    repeat' (first | (fail_if_success (with_reducible show wpAny _ _ (binaryOp Operator.Add (Value.ref _) (Value.ref _)) _ _ _)); first | (k_unfold; (try dsimp only)) | (k_end; wrow_close) | walk1 | (dsimp only; walk1) | (leave1; try dsimp only))
    rename IntsAre _ (List.take (_ - _) _) => hA
    rename List.length (wordsF _ _ _) = _ => hWl
    rw [ch_slice hp9.1 hw9.1 (by omega)] at hA
    rename List.length (List.take _ _) = _ => x1
    clear x1
    rename List.length (List.take _ _) = _ => x1
    clear x1
    rename List.length (List.take _ _) ≤ _ => x1
    clear x1
    rename List.length (List.take _ _) ≤ _ => x1
    clear x1
    have y := ch_sizes hlo hlen hp9 hw9 hWl
    have y1 := y.1
    have y2 := y.2.1
    have y3 := y.2.2.1
    have y4 := y.2.2.2.1
    have y5 := y.2.2.2.2.1
    have y6 := y.2.2.2.2.2.1
    have y7 := y.2.2.2.2.2.2.1
    have y8 := y.2.2.2.2.2.2.2.1
    have y9 := y.2.2.2.2.2.2.2.2
    have hF : Hid _ := ch_facts hIn hwo (W16.words _ _ _) hWl hp9.1 hw9.1 (by omega)
    skip)
  (case done => (
    k_steps
    all_goals (refine' endB (Q := Q) (s := s) hret ?e1 ?e2 ?e3 ?e4; (case e2 => k_asm); (case e3 => k_asm); (case e4 => (first | (intro p9 hp9; (repeat (first | (with_reducible exact hp9) | (with_reducible exact List.mem_append_left _ hp9) | (with_reducible exact List.mem_append_right _ hp9) | (with_reducible refine List.mem_cons_of_mem _ ?_))); done) | kcj_all)); (case e1 => rfl))))
  k_steps
  all_goals try (with_reducible refine join_false ?_ (by assumption) (by assumption) (by (first | (intro p9 hp9; (repeat (first | (with_reducible exact hp9) | (with_reducible exact List.mem_append_left _ hp9) | (with_reducible exact List.mem_append_right _ hp9) | (with_reducible refine List.mem_cons_of_mem _ ?_))); done) | kcj_all)))
  all_goals try exact rfl
  all_goals try exact ch_bne hF.1
  all_goals try (exfalso; (with_reducible exact absurd hF.1 (by assumption)))
  all_goals try (exfalso; rcases hF.2.1 with q | ⟨q1, q2, q3⟩
                 · (with_reducible exact absurd q (by assumption))
                 · first | (with_reducible exact absurd q1 (by assumption)) | (with_reducible exact absurd q2 (by assumption)) | (with_reducible exact absurd q3 (by assumption)))
  all_goals try (exfalso; rcases hF.2.2.1 with q | ⟨q1, q2⟩
                 · (with_reducible exact absurd q (by assumption))
                 · first | (with_reducible exact absurd q1 (by assumption)) | (with_reducible exact absurd q2 (by assumption)))
  all_goals       (
    (rename (∀ p ∈ (_ : Led), p.1 < _) => hl9)
    (rename IntsAre _ (_ ++ _ ++ _) => hn9)
    exact ch_end hoff (by assumption) (by assumption) (by rfl) (by rfl) (by
            intro z h1 h2 h3 h4
            have h5 := h4
            simp only [chN, List.map_cons, List.map_nil, List.mem_cons, List.not_mem_nil, or_false, not_or] at h5
            obtain ⟨q1, q2, q3, q4, q5, q6, q7⟩ := h5
            repeat (refine (if_neg (by assumption)).trans ?_)
            exact (if_neg h3).symm) (by k_mem) hn9 hF.2.2.2.2.1 (hF.2.2.2.2.2.trans hlo) hF.2.2.2.1 (by (first | (intro p9 hp9; (repeat (first | (with_reducible exact hp9) | (with_reducible exact List.mem_append_left _ hp9) | (with_reducible exact List.mem_append_right _ hp9) | (with_reducible refine List.mem_cons_of_mem _ ?_))); done) | kcj_all)) (by (first | (intro p9 hp9; (repeat (first | (with_reducible exact hp9) | (with_reducible exact List.mem_append_left _ hp9) | (with_reducible exact List.mem_append_right _ hp9) | (with_reducible refine List.mem_cons_of_mem _ ?_))); done) | kcj_all)) (fun p hp => hl9 p (by repeat (first | (with_reducible exact List.mem_append_right _ hp) | (with_reducible refine List.mem_cons_of_mem _ ?_)))))

end law_changes
section exc1
section
open PySem.Calls Builtin Builtin.ObjectAttr
noncomputable abbrev excObj (t : Addr) (dx : Option Addr) : Obj := ⟨.ref 44, dx, .fields #[.ref t, .none, .none, .none, .bool false, .none], #[]⟩
variable {w : World} {A : Around} {E : Value → Shared → Prop} {s : Shared} {e t : Addr} {txt : Str} {tk : Tok}

/- Exception.__init__(self, why) -/
theorem exc_init_b {Q : Value → Shared → Prop} (X : (hd.heap_39 w.params).In s.heap) (he : s.heap.get? e = some (excObj t none))
    (h : Q .none { s with heap := (s.heap.push { cls := .type "tuple", data := .seq #[.str txt tk] }).update e (Obj.mapFields (·.setIfInBounds 0 (.ref s.heap.objs.size))) }) :
    wpAny (model PySem.Challenge.rw_pf0325_01.row.prog w) A (call (.builtin "Exception.__init__") [.ref e, .str txt tk]) Q E s := by
  obtain ⟨hp, g, d, tk', os⟩ := s
  have F := PySem.F.excBase_Exception
  have hshort := F.noStar
  obtain ⟨nm, q', N, bs, bm, hdct, sn, sub, ab, col, dd, k0, k1, k2, k3, k5, newId, hC, -, -⟩ := kts_cls X (C := 44) (T := "BaseException") rfl
  have L0 : Looks (model PySem.Challenge.rw_pf0325_01.row.prog w) hp (typeOf (.ref e)) (.ref 44) := (Looks.ld he).andThen .now
  have L1 : Looks (model PySem.Challenge.rw_pf0325_01.row.prog w) hp (isSubtype (.ref 44) (.type "Exception")) true := looks_mroIn X rfl
  have L2 : Looks (model PySem.Challenge.rw_pf0325_01.row.prog w) hp (isInstance (.ref e) (.type "Exception")) true := L0.andThen L1
  refine wpAny_call (codeAny_call_builtin F.init.plain F.initEntry ?_)
  simp only [checkBuiltinCall, F.initKind, F.initSplit, F.initRow]
  refine wpAny_bind (L2.at ?_)
  simp only [Bool.not_true, Bool.false_eq_true, if_false]
  have he1 := Heap.get?_push_of_some { cls := .type "tuple", data := .seq #[.str txt tk] } he
  repeat lk
  refine wpAny_updatePart (part := none) he1 ?_
  repeat lk
  exact h

theorem exc_refuse (self : Value) : refuseLoop self "__setattr__" [.ref 44, .ref 31, .type "Exception", .type "BaseException", .type "object"] = pure () := by
  rw [refuseLoop_ref, refuseLoop_ref]
  kernel_rfl
theorem exc_osa {R : Result → Shared → Prop} {x : Addr} {ox : Obj} {od : Option Obj} {name : Str} {v : Value} (X : (hd.heap_39 w.params).In s.heap) (I : InstAt s.heap x ox 44 od) (ht : takerIn (hd.heap_39 w.params) 44 name = some none)
    (h : ∀ b, wpAny (model PySem.Challenge.rw_pf0325_01.row.prog w) A.in1 (storeInOwnDict (.ref x) (.ref 44) (.str name tk) name v b)
      (fun fin s' => match fin with | .done f => R (.ok f) s' | .again c' => c'.quiet = true ∧ codeAny (model PySem.Challenge.rw_pf0325_01.row.prog w) A c' R s') (fun e s' => R (.error e) s') s) :
    codeAny (model PySem.Challenge.rw_pf0325_01.row.prog w) A (.call (.builtin "object.__setattr__") ⟨[.ref x, .str name tk, v], []⟩) R s := by
  have SF := PySem.F.store_object
  obtain ⟨cd, hc, hmro⟩ : ∃ cd, clsIn (hd.heap_39 w.params) 44 = some cd ∧ cd.mro = [.ref 44, .ref 31, .type "Exception", .type "BaseException", .type "object"] := ⟨_, rfl, rfl⟩
  have sub : Looks (model PySem.Challenge.rw_pf0325_01.row.prog w) s.heap (isInstance (.ref x) (.type "object")) true := I.type.andThen (looks_mroIn X rfl)
  refine codeAny_call_builtin SF.slot.plain SF.entry (@check_slot (model PySem.Challenge.rw_pf0325_01.row.prog w) _ _ s "object.__setattr__" "object" "__setattr__" (.ref x) [.str name tk, v] [] _ SF.kind SF.split sub (SF.args (.ref x) (.str name tk) v) ?_)
  obtain ⟨attr, ha, hr⟩ := Option.bind_eq_some_iff.mp ht
  have hm : Looks (model PySem.Challenge.rw_pf0325_01.row.prog w) s.heap (mroOf (.ref 44)) cd.mro := (looks_clsIn X hc).andThen .now
  have L3 : Looks (model PySem.Challenge.rw_pf0325_01.row.prog w) s.heap (storeTaker? attr) none := by
    cases attr with
    | none => cases hr; exact .now
    | some a =>
      obtain ⟨b, hb, hr⟩ := Option.map_eq_some_iff.mp hr
      refine (looks_takesIn X hb).andThen ?_
      cases b
      · exact .now
      · cases hr
  rw [osa_eq, refuse_eq]
  refine wpAny_bind (wpAny_bind (I.type.here (wpAny_bind (hm.here ?_))))
  rw [hmro, exc_refuse]
  refine wpAny_pure (wpAny_bind (I.type.here (wpAny_bind ((looks_findIn X ha).here (wpAny_bind (L3.here ?_))))))
  exact h _

theorem putL_len (name : Str) (hsh : Int) (key v : Value) : ∀ es : List DictEntry, (putL name hsh key v es).length ≤ es.length + 1
  | [] => Nat.le_refl _
  | e :: r => by
    have ih := putL_len name hsh key v r
    unfold putL
    split
    · simp
    · simp only [List.length_cons]; omega
section
variable {h₀ : Heap} {L dx : Addr} {m : Str → Option Value} {news pre post : Led} {es : List DictEntry} {n : Nat} {name : Str} {v : Value}
theorem exc_store {Q : Fin → Shared → Prop} (F : Fr h₀ L s.heap m) (N : News h₀ L s.heap (pre ++ (dx, dictOf es n) :: post)) (h1 : ∀ p ∈ pre, p.1 ≠ dx) (h2 : ∀ p ∈ post, p.1 ≠ dx) (hl : (getL name es).isSome = true) (hz : es.length ≤ 900)
    (h : ∀ h' tk', Fr h₀ L h' m → News h₀ L h' (pre ++ (dx, dictOf (putL name (PyData.keyHash w.params name) (.str name s.toks) v es) (putN name es n)) :: post) → Q (.done (.ret .none)) { s with heap := h', toks := tk' }) :
    wpAny (model PySem.Challenge.rw_pf0325_01.row.prog w) A (storeInDict dx (.str name tk) name v) Q E s := by
  obtain ⟨U1, U2⟩ := news_upd (o' := dictOf (putL name (PyData.keyHash w.params name) (.str name s.toks) v es) (putN name es n)) (f := Obj.putName name (PyData.keyHash w.params name) (.str name s.toks) v) F N h1 h2 (putName_dict ..) rfl
  have D := (N (dx, dictOf es n) (by simp)).1
  have D' := (U2 _ (List.mem_append_right _ (List.Mem.head _))).1
  refine wpAny_bind (wpAny_pure (wpAny_bind ?_))
  unfold nsSet
  refine wpAny_bind (wpAny_bind (wpAny_askSetting (wpAny_pure (wpAny_bind (wpAny_mkText (wpAny_bind (wpAny_loadPart D ?_)))))))
  dsimp only
  have c : (!es.toArray.any (·.key.isStr name) && es.toArray.any (·.refKey)) = false := by
    rw [← Array.any_toList, ← Array.any_toList]
    unfold getL at hl
    split at hl
    · rename_i en he
      rw [List.any_eq_true.mpr ⟨en, List.mem_of_find?_eq_some he, List.find?_some he⟩]; rfl
    · split at hl
      · cases hl
      · rename_i z; rw [Bool.not_eq_true] at z; rw [z, Bool.and_false]
  rw [aRefKeyMayBeTheName_at, c]
  refine wpAny_updatePart D ?_
  refine wpAny_bind (wpAny_lookBehind D' (pastItsLine_dict (by rw [List.size_toArray, sizeLine_eq]; have := putL_len name (PyData.keyHash w.params name) (.str name s.toks) v es; omega)) ?_)
  exact wpAny_pure (h _ _ U1 U2)

theorem exc_set2 {Q : Unit → Shared → Prop} (X₀ : (hd.heap_39 w.params).In h₀) (F : Fr h₀ L s.heap m) (N : News h₀ L s.heap (pre ++ (dx, dictOf es n) :: post)) (h1 : ∀ p ∈ pre, p.1 ≠ dx) (h2 : ∀ p ∈ post, p.1 ≠ dx)
    (he : s.heap.get? e = some (excObj t (some dx))) (ht : takerIn (hd.heap_39 w.params) 44 name = some none) (hl : (getL name es).isSome = true) (hz : es.length ≤ 900)
    (h : ∀ h' tk' tk₁, Fr h₀ L h' m → News h₀ L h' (pre ++ (dx, dictOf (putL name (PyData.keyHash w.params name) (.str name tk₁) v es) (putN name es n)) :: post) → Q () { s with heap := h', toks := tk' }) :
    wpAny (model PySem.Challenge.rw_pf0325_01.row.prog w) A (setAttr (.ref e) name v) Q E s := by
  have X := X₀.keeps F.keep
  have D := (N _ (List.mem_append_right _ (List.Mem.head _))).1
  have I : InstAt s.heap e (excObj t (some dx)) 44 (some (dictOf es n)) := ⟨he, rfl, rfl, D⟩
  refine set_plain X I rfl (exc_osa (s := { s with toks := s.toks + 1 }) X I ht fun b => ?_)
  obtain ⟨cd, hc, hd'⟩ : ∃ cd, clsIn (hd.heap_39 w.params) 44 = some cd ∧ cd.hasDict = true := ⟨_, rfl, rfl⟩
  refine wpAny_bind (wpAny_pure (wpAny_bind (wpAny_bind (wpAny_loadPart he (wpAny_bind (looks_clsIn X hc _ _ _ _ (fun _ _ e => e) ?_))))))
  rw [hd']
  refine wpAny_pure (a := some dx) ?_
  exact exc_store (s := { s with toks := s.toks + 1 }) F N h1 h2 hl hz fun h' tk' F' N' => h h' tk' _ F' N'

theorem exc_set1 {Q : Unit → Shared → Prop} (X₀ : (hd.heap_39 w.params).In h₀) (F : Fr h₀ L s.heap m) (N : News h₀ L s.heap ((e, excObj t none) :: news)) (h1 : ∀ p ∈ news, p.1 ≠ e) (ht : takerIn (hd.heap_39 w.params) 44 name = some none)
    (h : ∀ h' dx tk' tk₁, Fr h₀ L h' m → News h₀ L h' ((dx, dictOf [⟨PyData.keyHash w.params name, .str name tk₁, v⟩] 1) :: (e, excObj t (some dx)) :: news) → e < dx → (∀ p ∈ news, p.1 < dx) → Q () { s with heap := h', toks := tk' }) :
    wpAny (model PySem.Challenge.rw_pf0325_01.row.prog w) A (setAttr (.ref e) name v) Q E s := by
  have X := X₀.keeps F.keep
  have he := (N _ (List.Mem.head _)).1
  have I : InstAt s.heap e (excObj t none) 44 none := ⟨he, rfl, rfl, trivial⟩
  refine set_plain X I rfl (exc_osa (s := { s with toks := s.toks + 1 }) X I ht fun b => ?_)
  obtain ⟨cd, hc, hd'⟩ : ∃ cd, clsIn (hd.heap_39 w.params) 44 = some cd ∧ cd.hasDict = true := ⟨_, rfl, rfl⟩
  refine wpAny_bind (wpAny_pure (wpAny_bind (wpAny_bind (wpAny_loadPart he (wpAny_bind (looks_clsIn X hc _ _ _ _ (fun _ _ e => e) ?_))))))
  rw [hd']
  have lt1 : e < s.heap.objs.size := Heap.lt_size he
  have F1 := F.push (dictOf [] 0)
  have N1 := N.push F (dictOf [] 0)
  have he1 := (N1 (e, excObj t none) (List.Mem.tail _ (List.Mem.head _))).1
  obtain ⟨F2, N2⟩ := news_upd (pre := [(s.heap.objs.size, dictOf [] 0)]) (post := news) (d := e) (o := excObj t none) (o' := excObj t (some s.heap.objs.size)) (f := fun o => { o with dict := some s.heap.objs.size }) F1 N1
    (fun p hp => by rw [List.mem_singleton.mp hp]; exact Nat.ne_of_gt lt1) h1 rfl rfl
  show wpAny _ _ (alloc (dictOf [] 0) >>= fun d => (update e (fun o => { o with dict := some d }) >>= fun _ => dictMade (.ref 44) e d)) _ _ _
  refine wpAny_bind (wpAny_alloc (wpAny_bind (wpAny_update he1 ?_)))
  refine wpAny_pure (a := some s.heap.objs.size) ?_
  exact exc_store (pre := []) (s := { s with heap := (s.heap.push (dictOf [] 0)).update e (fun o => { o with dict := some s.heap.objs.size }), toks := s.toks + 1 }) F2 N2 (fun _ hp => nomatch hp) (fun p hp => by
    rcases List.mem_cons.mp hp with rfl | hp
    · exact Nat.ne_of_lt lt1
    · exact Nat.ne_of_lt (Heap.lt_size (N p (List.Mem.tail _ hp)).1)) rfl (Nat.zero_le _) fun h' tk' F' N' => h h' _ tk' _ F' N' lt1 fun p hp => Heap.lt_size (N p (List.Mem.tail _ hp)).1

theorem exc_init_N {Q : Value → Shared → Prop} (X₀ : (hd.heap_39 w.params).In h₀) (F : Fr h₀ L s.heap m) (N : News h₀ L s.heap ((e, excObj t none) :: news)) (h1 : ∀ p ∈ news, p.1 ≠ e)
    (h : ∀ h' t', Fr h₀ L h' m → News h₀ L h' ((e, excObj t' none) :: news) → Q .none { s with heap := h' }) :
    wpAny (model PySem.Challenge.rw_pf0325_01.row.prog w) A (call (.builtin "Exception.__init__") [.ref e, .str txt tk]) Q E s := by
  have he := (N _ (List.Mem.head _)).1
  have F1 := F.push { cls := .type "tuple", data := .seq #[.str txt tk] }
  have N1 := N.push F { cls := .type "tuple", data := .seq #[.str txt tk] }
  have lt1 : e < s.heap.objs.size := Heap.lt_size he
  obtain ⟨F2, N2⟩ := news_upd (pre := [(s.heap.objs.size, { cls := .type "tuple", data := .seq #[.str txt tk] })]) (post := news) (d := e) (o := excObj t none) (o' := excObj s.heap.objs.size none) (f := Obj.mapFields (·.setIfInBounds 0 (.ref s.heap.objs.size))) F1 N1
    (fun p hp => by rw [List.mem_singleton.mp hp]; exact Nat.ne_of_gt lt1) h1 rfl rfl
  exact exc_init_b (X₀.keeps F.keep) he (h _ s.heap.objs.size F2 fun p hp => N2 p (List.Mem.tail _ hp))
end
end

end exc1
section exc2
theorem reset_exc2 : True := by (w_top off; k_with_none; exact trivial)
section
open PySem.Calls Builtin Builtin.ObjectAttr PySem.W.X
local macro_rules | `(tactic| x_close) => `(tactic| k_extra "close")
set_option maxHeartbeats 8000000 in
theorem new_44 (w : World) (dp un : Nat) (gd : Option (List Code)) (fr : Option (List Env)) (s : Shared) (KX : (hd.heap_39 w.params).In s.heap) (txt : Str) (tk : Tok) (Q E : Value → Shared → Prop) 
    (hq : ∀ h' e t, (∀ b o, s.heap.get? b = some o → h'.get? b = some o) → h'.get? e = some (excObj t none) → s.heap.get? e = none → Q (.ref e) { s with heap := h' }) :
    wpAny (model PySem.Challenge.rw_pf0325_01.row.prog w) { handled := none, depth := dp, frames := fr, guards := gd, units := un } (call (.builtin "Exception.__new__") [.ref 44, .str txt tk]) Q E s := by
  k_fill
  k_with_none
  k_with "mine pyIter ref" => k_extra "my iter"
  k_with "mine exec For" => (k_extra "my for"; (rename Fr _ _ _ _ => lF'); (with_unfolding_all refine' For_invVF lF' ?k1 ?k2 ?_; (case k1 => exact rfl); (case k2 => exact rfl); k_whole))
  k_with "kmk nums" => first | with_reducible exact kmk_all (by l_ints) | (with_reducible refine kmk_from (by l_ints) ?_; first | assumption | omega) | (with_reducible refine kmk_upto (by l_ints) ?_; first | assumption | omega) | (with_reducible refine kmk_run (by l_ints) ?_ ?_ <;> first | assumption | omega)
  k_with "room" => exact roomA (by with_reducible assumption) rfl
  k_with "mine eval Name" => (k_here; k_dflt (refine' nameX_L ?F ?v ?_ ?a ?b; (case F => k_asm); (case a => exact rfl); (case b => exact Eq.refl (some _)); (case v => exact Eq.refl (some _)); k_whole))
  k_with "mine And" => ((with_reducible show Frag.In _ _ ∧ _); k_dflt (refine ⟨Frag.In.keeps (by k_asm) (Fr.keep (by k_asm)), ?_⟩))
  k_with "close" => (rename Mem _ _ _ _ => D9; rename (∀ (h' : Heap) (e t : Addr), _) => hq9; refine hq9 _ _ _ (fun b o q => D9.keep b o q (by simp [PySem.W.X.away])) (D9.nw _ (List.Mem.head _)).1 (D9.nw _ (List.Mem.head _)).2)
  x_run
end
section
open PySem.Calls Builtin Builtin.ObjectAttr
noncomputable abbrev RMis (news : Led) (txt : Str) (tk : Tok) (v : Value) (tl : Led) : Prop := ∃ e t dx es n, v = .ref e ∧ tl = [(dx, dictOf es n), (e, excObj t (some dx))] ∧ getL (Str.ofString "why") es = some (some (.str txt tk)) ∧ ∀ p ∈ ((dx, dictOf es n) :: news : Led), p.1 ≠ e
theorem retM {h₀ : Heap} {L : Addr} {m : Str → Option Value} {news : Led} {s : Shared} {Q : Value → Shared → Prop} {txt : Str} {tk : Tok}
    (k : ∀ (e : Addr) (t : Tok) (dx : Addr) (es : List DictEntry) (n : Nat) (h' : Heap) (tk' : Nat), getL (Str.ofString "why") es = some (some (.str txt tk)) → (∀ p ∈ ((dx, dictOf es n) :: news : Led), p.1 ≠ e) → Fr h₀ L h' m →
      News h₀ L h' ((dx, dictOf es n) :: (e, excObj t (some dx)) :: news) → Q (.ref e) { s with heap := h', toks := tk' }) :
    ∀ (v : Value) (tl : Led) (h' : Heap) (tk' : Nat), RMis news txt tk v tl → Fr h₀ L h' m → News h₀ L h' (tl ++ news) → Q v { s with heap := h', toks := tk' } := by
  rintro v tl h' tk' ⟨e, t, dx, es, n, rfl, rfl, hw, hz⟩ F N; exact k e t dx es n h' tk' hw hz F N
set_option maxHeartbeats 8000000 in
theorem mis_spec (w : World) (mean : ExcName → Option Value) (mg mb : Str → Option Value) (news : Led) (txt : Str) (tk : Tok) :
    Spec w mean mg mb 44 4 32 news [.str txt tk] (RMis news txt tk) := by
  k_with_none
  k_with "mine pyIter ref" => k_extra "my iter"
  k_with "mine exec For" => (k_extra "my for"; (rename Fr _ _ _ _ => lF'); (with_unfolding_all refine' For_invVF lF' ?k1 ?k2 ?_; (case k1 => exact rfl); (case k2 => exact rfl); k_whole))
  k_with "kmk nums" => first | with_reducible exact kmk_all (by l_ints) | (with_reducible refine kmk_from (by l_ints) ?_; first | assumption | omega) | (with_reducible refine kmk_upto (by l_ints) ?_; first | assumption | omega) | (with_reducible refine kmk_run (by l_ints) ?_ ?_ <;> first | assumption | omega)
  k_with "room" => exact roomA (by with_reducible assumption) rfl
  k_with "mine eval Name" => (k_here; k_dflt (refine' nameX_L ?F ?v ?_ ?a ?b; (case F => k_asm); (case a => exact rfl); (case b => exact Eq.refl (some _)); (case v => exact Eq.refl (some _)); k_whole))
  k_with "mine And" => ((with_reducible show Frag.In _ _ ∧ _); k_dflt (refine ⟨Frag.In.keeps (by k_asm) (Fr.keep (by k_asm)), ?_⟩))
  unfold Spec Tp; k_fill
  intro dp un gd cn cs a ccd cl outer A₀ base h₀ L m s Q E B F X₀ N T hk hd1 hu hret
  have X := X₀.keeps F.keep
  obtain ⟨hh, g, d, tkn, os⟩ := s
  dsimp only at X F N
  obtain ⟨nm, q', Ns, bs, hdct, sn, sub, ab, col, dd, k0, k1, k2, k3, k5, hC⟩ : ∃ nm q' Ns bs hdct sn sub ab col dd k0 k1 k2 k3 k5, hh.get? 44 = some (excClassObj nm q' 44 Ns bs [.ref 31, .type "Exception", .type "BaseException", .type "object"] hdct sn sub ab col dd k0 k1 k2 k3 k5 "Exception.__new__") :=
    ⟨_, _, _, _, _, _, _, _, _, _, _, _, _, _, _, X _ _ rfl⟩
  have lcall : Looks (model PySem.Challenge.rw_pf0325_01.row.prog w) hh (specialOf (.ref 44) "__call__") (some (.builtin "type.__call__")) := looks_specialIn X rfl
  have ltyp : Looks (model PySem.Challenge.rw_pf0325_01.row.prog w) hh (isInstance (.ref 44) (.type "type")) true := looks_instIn X rfl
  have lmro : Looks (model PySem.Challenge.rw_pf0325_01.row.prog w) hh (mroOf (.ref 44)) [.ref 44, .ref 31, .type "Exception", .type "BaseException", .type "object"] := (Looks.ld (part := none) hC).andThen .now |>.andThen .now
  have lmade : Looks (model PySem.Challenge.rw_pf0325_01.row.prog w) hh (Bind.madeBy (.ref 44)) (some "Exception.__new__") := by
    intro A Q E s k q
    obtain ⟨hp, g, d, t, os⟩ := s
    exact wpAny_madeBy_exc (k _ _ hC) q
  refine wpAny_call (codeAny_of_tree ?_)
  show wpAny _ _ (callAny (.ref 44) _) _ _ _
  refine nd_load hC ?_
  show wpAny _ _ (callAny.viaDunder (.ref 44) _) _ _ _
  unfold callAny.viaDunder
  refine wpAny_bind (lcall.at ?_)
  dsimp only
  rw [tc_bind]
  refine wpAny_bind (wpAny_pure (wpAny_bind (wpAny_pure ?_)))
  refine wpAny_pure (a := Fin.again (.call (.builtin "type.__call__") ⟨.ref 44 :: [.str txt tk], []⟩)) (And.intro rfl ?_)
  refine codeAny_call_builtin_at (Code.quiet_builtin _ (by decide +kernel)) entry_typeCall (check_slot tc_kind tc_split ltyp (tc_args _ _ _) ?_)
  unfold Builtin.«type.__call__»
  repeat (first | (fail_if_success (with_reducible show wpAny _ _ (PySem.call _ _ _) _ _ _)); lk)
  refine new_44 w _ _ _ _ _ X txt tk _ _ fun h₁ e t k₁ he hn => ?_
  have lmro₁ := lmro.keeps k₁
  have hC₁ := k₁ _ _ hC
  have X₁ := X.keeps k₁
  have lt₁ : Looks (model PySem.Challenge.rw_pf0325_01.row.prog w) h₁ (typeOf (.ref e)) (.ref 44) := (Looks.ld he).andThen .now
  have li₁ : Looks (model PySem.Challenge.rw_pf0325_01.row.prog w) h₁ (typeLookup (.ref 44) "__init__") (some (.ref 28)) := looks_findIn X₁ rfl
  have lb₁ : Looks (model PySem.Challenge.rw_pf0325_01.row.prog w) h₁ (bindSpecial (.ref 28) (.ref e)) (.ref 28, [.ref e]) := bind_fn X₁ _ rfl
  unfold isInstance callSpecial? specialOf
  repeat (first | (fail_if_success (with_reducible show wpAny _ _ (PySem.call _ _ _) _ _ _)); lk)
  have N₁' : News h₀ L h₁ news := fun p hp => ⟨k₁ _ _ (N p hp).1, (N p hp).2⟩
  have F₁ : Fr h₀ L h₁ m := ⟨F.ns.keeps k₁, fun b o q => k₁ _ _ (F.keep b o q), F.above⟩
  have hnew : h₀.get? e = none := by
    cases q : h₀.get? e with
    | none => rfl
    | some o => have := F.keep _ _ q; rw [hn] at this; cases this
  have N₁ := News.more F₁ N₁' he (fun es n q => by cases q) hnew
  have hne : ∀ p ∈ news, p.1 ≠ e := fun p hp q => by have := (N p hp).1; rw [q, hn] at this; cases this
  clear N₁' N F X lcall ltyp lmro lmade lt₁ li₁ lb₁ lmro₁ X₁ k₁ hC hC₁ he hn
  show wpAny _ _ (PySem.call (.ref 28) [.ref e, .str txt tk]) _ _ _
  refine wpAny_call ?_
  k_dflt (refine' code_def ?k1 ?k2 ?k3 ?k4 ?k5 ?kA ?kF ?kK ?k6 ?k7 ?k8 ?k9 ?kB ?_ ?c2 ?c3 ?c4 ?c5; (case kA => exact rfl); (case kF => exact rfl); (case kK => assumption); (case k1 => k_asm); (case k2 => k_asm); (case k3 => k_asm); (case k4 => k_asm); (case k5 => k_asm); (case k6 => k_is); (case k7 => k_is); (case k8 => ktr_room); (case k9 => first | exact BindsTo.of_eq rfl | exact binds_K (by k_in) rfl (by k_is) rfl rfl rfl); (case c5 => decide); (case kB => exact locs rfl); (case c2 => exact rfl); (case c3 => exact rfl); (case c4 => exact rfl); k_whole; intro g' L' h' FG' F' N' B' X' T'; (try dsimp only); (try k_lift B'); (try k_fold))
  k_steps
  rename Fr _ L' _ _ => F2
  refine method_type (v := .builtin "Exception.__init__") F2 (by assumption) rfl rfl rfl rfl ?_
  k_steps
  rename Fr _ L' _ _ => F2
  rename News _ L' _ _ => N2
  refine exc_init_N (by assumption) F2 N2 hne fun h₂ t₂ F₃ N₃ => ?_
  k_steps
  rename Fr _ L' _ _ => F2
  rename News _ L' _ _ => N2
  refine exc_set1 (by assumption) F2 N2 hne rfl fun h₃ dx tk₃ tk₄ F₄ N₄ lt₄ lt₅ => ?_
  have hdx : ∀ p ∈ ((e, excObj t₂ (some dx)) :: news : Led), p.1 ≠ dx := fun p hp => by
    rcases List.mem_cons.mp hp with rfl | hp
    · exact Nat.ne_of_lt lt₄
    · exact Nat.ne_of_lt (lt₅ p hp)
  k_steps
  rename Fr _ L' _ _ => F2
  rename News _ L' _ _ => N2
  refine exc_set2 (pre := []) (by assumption) F2 N2 (fun _ hp => nomatch hp) hdx (N2 _ (List.Mem.tail _ (List.Mem.head _))).1 rfl rfl (by simp) fun h₄ tk₅ tk₆ F₅ N₅ => ?_
  k_steps
  refine wpAny_pure (wpAny_pure ?_)
  rename Fr h₀ L _ _ => F9
  rename News h₀ L _ _ => N9
  exact hret (.ref e) [(dx, dictOf _ _), (e, excObj t₂ (some dx))] _ _ ⟨e, t₂, dx, _, _, rfl, rfl, rfl, fun p hp => by
    rcases List.mem_cons.mp hp with rfl | hp
    · exact Nat.ne_of_gt lt₄
    · exact hne p hp⟩ F9 N9
end

end exc2
section exc3
section
variable {M : Model} {A : Around} {E : Value → Shared → Prop} {s : Shared}
theorem dict_mapFields (f : Array Value → Array Value) (o : Obj) : (Obj.mapFields f o).dict = o.dict := by
  unfold Obj.mapFields
  split <;> rfl
/- the exception e with its dict dx and its newest traceback entry, whose place of flight is fl -/
noncomputable def OnM (h base : Heap) (e dx : Addr) (fl : Value) : Prop :=
  ∃ oe vs T oT ts, h.get? e = some oe ∧ (oe.cls = .ref 44 ∧ oe.dict = some dx) ∧ oe.data = .fields vs ∧ vs[1]? = some (.ref T) ∧ base.get? T = none ∧ T ≠ e ∧ h.get? T = some oT ∧ oT.data = .fields ts ∧ ts[3]? = some fl
noncomputable def StepM (base : Heap) (l : List Env) (e dx : Addr) (fl : Value) (h h' : Heap) : Prop := base.StaysIn h' ∧ h'.FunFrames base l ∧ OnM h' base e dx fl ∧ h.UpToSlots h'
noncomputable abbrev tbObj (head : Value) (L : Addr) (pl : List Value) : Obj := { cls := .type "traceback", dict := none, data := .fields ([head, .ref L, .none, rawInt L, .none] ++ (if pl.isEmpty then List.replicate 6 Value.none else pl)).toArray }

theorem entryM {base : Heap} {env : Env} {outer : List Env} {L e dx : Addr} {oe : Obj} {vs : Array Value} {head : Value} {hadNext : Bool} {Q : Unit → Shared → Prop}
    (hfr : A.frames = some (env :: outer)) (hl : s.heap.FunFrames base (env :: outer)) (hf : env.frame = some L)
    (he : s.heap.get? e = some oe) (hc : oe.cls = .ref 44 ∧ oe.dict = some dx) (hkb : base.StaysIn s.heap) (hen : base.get? e = none) (hd : oe.data = .fields vs) (hsz : 1 < vs.size)
    (h : ∀ h', StepM base (env :: outer) e dx (rawInt L) s.heap h' → Q () { s with heap := h' }) :
    wpAny M A (do let a ← frameOf env; let pl ← entryPlaceOf L hadNext; let b ← EntryCells.newEntry head a .none (rawInt L) .none pl; setField (.ref e) 1 b) Q E s := by
  have off : e ∉ (env :: outer).filterMap (·.frame) := fun hm => by
    obtain ⟨_, o, ho, hnf⟩ := hl.mem hm
    rw [he] at ho; injection ho with ho; subst ho; exact hnf vs hd
  refine wpAny_bind (wpAny_frameOf_fun hfr hl hf fun h₁ hs₁ => ?_)
  refine wpAny_bind (wpAny_entryPlaceOf fun pl hpl => ?_)
  unfold EntryCells.newEntry newFields
  refine wpAny_bind (wpAny_newObj_type ?_ (hpl.sizeOk5 _ _ _ _ _))
  have he₁ : h₁.get? e = some oe := (hs₁.2.1 e off).trans he
  have kb₁ : base.StaysIn h₁ := fun b o hbo => (hs₁.2.1 b fun hm => by rw [(hl.mem hm).1] at hbo; cases hbo).trans (hkb b o hbo)
  have he₂ := Heap.get?_push_of_some (h := h₁) (tbObj head L pl) he₁
  refine wpAny_setField he₂ hd hsz (h _ ?_)
  have hTe : h₁.objs.size ≠ e := Nat.ne_of_gt (Heap.lt_size he₁)
  have hd₃ := Obj.data_mapFields hd (·.setIfInBounds 1 (Value.ref h₁.objs.size))
  have he₃ := Heap.get?_update_self (Obj.mapFields (·.setIfInBounds 1 (Value.ref h₁.objs.size))) he₂ (Obj.isFreed_of_fields hd₃)
  have hT₃ := (Heap.get?_update_other (h₁.push (tbObj head L pl)) (Obj.mapFields (·.setIfInBounds 1 (Value.ref h₁.objs.size))) (Ne.symm hTe)).trans (Heap.get?_push_size h₁ rfl)
  have keep : ∀ b o, b ≠ e → h₁.get? b = some o → ((h₁.push (tbObj head L pl)).update e (Obj.mapFields (·.setIfInBounds 1 (Value.ref h₁.objs.size)))).get? b = some o := fun b o hbe hb => by
    rw [Heap.get?_update_other _ _ (Ne.symm hbe)]
    exact Heap.get?_push_of_some _ hb
  have ne : ∀ b o, s.heap.get? b = some o → (∀ vs, o.data ≠ .fields vs) → b ≠ e := fun b o hb hnf q => by
    rw [q, he] at hb; injection hb with hb; subst hb; exact hnf vs hd
  refine ⟨fun b o hbo => keep b o (fun q => by rw [q, hen] at hbo; cases hbo) (kb₁ b o hbo), hl.of_keeps fun b o hb hnf => ?_, ?_, fun b o hb hnf => ?_⟩
  · obtain ⟨sl, hs⟩ := hs₁.2.2 b o hb
    exact ⟨_, keep b _ (ne b o hb hnf) hs, rfl⟩
  · exact ⟨_, _, h₁.objs.size, _, _, he₃, ⟨(Obj.cls_mapFields _ _).trans hc.1, (dict_mapFields _ _).trans hc.2⟩, hd₃, by simp [hsz], kb₁.fresh, hTe, hT₃, rfl, by first | (simp; done) | (rcases hpl with rfl | ⟨_, _, _, _, _, _, _, rfl⟩ <;> simp)⟩
  · obtain ⟨sl, hs⟩ := hs₁.2.2 b o hb
    exact ⟨sl, keep b _ (ne b o hb hnf) hs⟩

/- the first note: no traceback yet -/
theorem noteM_first {base : Heap} {env : Env} {outer : List Env} {L e dx : Addr} {oe : Obj} {vs : Array Value} {Q : Unit → Shared → Prop}
    (hfr : A.frames = some (env :: outer)) (hl : s.heap.FunFrames base (env :: outer)) (hf : env.frame = some L)
    (he : s.heap.get? e = some oe) (hc : oe.cls = .ref 44 ∧ oe.dict = some dx) (hkb : base.StaysIn s.heap) (hen : base.get? e = none) (hd : oe.data = .fields vs) (h1 : vs[1]? = some .none)
    (h : ∀ h', StepM base (env :: outer) e dx (rawInt L) s.heap h' → Q () { s with heap := h' }) : wpAny M A (noteFrame (.ref e) env) Q E s := by
  unfold noteFrame
  simp only [hf]
  refine wpAny_bind (wpAny_field he hd h1 ?_)
  rw [if_neg (by decide)]
  exact entryM hfr hl hf he hc hkb hen hd (Array.getElem?_eq_some_iff.mp h1).1 h

/- a later note, in the next frame -/
theorem noteM_on {base : Heap} {env : Env} {outer : List Env} {L e dx : Addr} {Q : Unit → Shared → Prop}
    (hfr : A.frames = some (env :: outer)) (hl : s.heap.FunFrames base (env :: outer)) (hf : env.frame = some L) (ht : OnM s.heap base e dx .none) (hkb : base.StaysIn s.heap) (hen : base.get? e = none)
    (h : ∀ h', StepM base (env :: outer) e dx (rawInt L) s.heap h' → Q () { s with heap := h' }) : wpAny M A (noteFrame (.ref e) env) Q E s := by
  obtain ⟨oe, vs, T, oT, ts, he, hc, hd, h1, hnT, hTe, hT, hdT, h3⟩ := ht
  unfold noteFrame
  simp only [hf]
  refine wpAny_bind (wpAny_field he hd h1 ?_)
  rw [if_pos (show (Value.ref T != Value.none) = true from by simp)]
  refine wpAny_bind (wpAny_field hT hdT h3 ?_)
  rw [if_neg (show ¬ ((Value.none == rawInt L) = true) from by simp [rawInt])]
  refine wpAny_bind (wpAny_setField hT hdT (Array.getElem?_eq_some_iff.mp h3).1 ?_)
  have other : ∀ b, b ≠ T → (s.heap.update T (Obj.mapFields (·.setIfInBounds 3 Value.none))).get? b = s.heap.get? b := fun b hb => Heap.get?_update_other _ _ (Ne.symm hb)
  have ne : ∀ b o, s.heap.get? b = some o → (∀ vs, o.data ≠ .fields vs) → b ≠ T := fun b o hb hnf q => by
    rw [q, hT] at hb; injection hb with hb; subst hb; exact hnf ts hdT
  refine entryM hfr (hl.of_keeps fun b o hb hnf => ⟨o, (other b (ne b o hb hnf)).trans hb, rfl⟩) hf ((other e (Ne.symm hTe)).trans he) hc
    (fun b o hbo => (other b fun q => by rw [q, hnT] at hbo; cases hbo).trans (hkb b o hbo)) hen hd (Array.getElem?_eq_some_iff.mp h1).1
    fun h' ⟨x1, x2, x3, x4⟩ => h h' ⟨x1, x2, x3, fun b o hb hnf => x4 b o ((other b (ne b o hb hnf)).trans hb) hnf⟩

/- it lands: the place of flight is cleared -/
theorem landM {base : Heap} {l : List Env} {e dx : Addr} {fl : Value} {Q : Unit → Shared → Prop}
    (hkb : base.StaysIn s.heap) (hl : s.heap.FunFrames base l) (ht : OnM s.heap base e dx fl) (h : ∀ h', StepM base l e dx .none s.heap h' → Q () { s with heap := h' }) :
    wpAny M A (setFlight (.ref e) none) Q E s := by
  obtain ⟨oe, vs, T, oT, ts, he, hc, hd, h1, hnT, hTe, hT, hdT, h3⟩ := ht
  have hsz3 : 3 < ts.size := (Array.getElem?_eq_some_iff.mp h3).1
  have other : ∀ b, b ≠ T → (s.heap.update T (Obj.mapFields (·.setIfInBounds 3 ((none : Option Addr).elim Value.none fun f => rawInt f)))).get? b = s.heap.get? b :=
    fun b hb => Heap.get?_update_other _ _ (Ne.symm hb)
  have ne : ∀ b o, s.heap.get? b = some o → (∀ vs, o.data ≠ .fields vs) → b ≠ T := fun b o hb hnf q => by
    rw [q, hT] at hb; injection hb with hb; subst hb; exact hnf ts hdT
  unfold setFlight
  refine wpAny_bind (wpAny_field he hd h1 ?_)
  rw [if_pos (show (Value.ref T != Value.none) = true from by simp)]
  refine wpAny_setField hT hdT hsz3 (h _ ⟨fun b o hbo => (other b fun q => by rw [q, hnT] at hbo; cases hbo).trans (hkb b o hbo),
    hl.of_keeps fun b o hb hnf => ⟨o, (other b (ne b o hb hnf)).trans hb, rfl⟩, ?_, fun b o hb hnf => ⟨o.slots, (other b (ne b o hb hnf)).trans hb⟩⟩)
  exact ⟨oe, vs, T, _, _, (other e (Ne.symm hTe)).trans he, hc, hd, h1, hnT, hTe, Heap.get?_update_self _ hT (Obj.isFreed_of_fields (Obj.data_mapFields hdT _)), Obj.data_mapFields hdT _, by simp [hsz3]⟩
end

end exc3
section exc4
section
open PySem.Calls Builtin Builtin.ObjectAttr
theorem fr_mem {env : Env} {L b : Addr} {outer : List Env} (hf : env.frame = some L) (hm : b ∈ (env :: outer).filterMap (·.frame)) : b = L ∨ b ∈ outer.filterMap (·.frame) := by
  obtain ⟨e, he, hb⟩ := List.mem_filterMap.mp hm
  rcases List.mem_cons.mp he with rfl | he
  · exact .inl (Option.some.inj (hf.symm.trans hb)).symm
  · exact .inr (List.mem_filterMap.mpr ⟨e, he, hb⟩)
noncomputable def FlyM (base : Heap) (l : List Env) (e dx : Addr) (h : Heap) : Prop := base.StaysIn h ∧ base.get? e = none ∧ h.FunFrames base l ∧ OnM h base e dx .none
/- e is raised, with its dict dx: what the frames l below see -/
noncomputable def RaisedM (base G : Heap) (l : List Env) (e dx : Addr) (news : Led) (h : Heap) : Prop :=
  ∃ B, base.StaysIn B ∧ (∀ b o, G.get? b = some o → b ∉ l.filterMap (·.frame) → B.get? b = some o) ∧ (∀ q ∈ news, B.get? q.1 = some q.2 ∧ G.get? q.1 = none ∧ base.get? q.1 = none) ∧ FlyM B l e dx h
theorem RaisedM.sub {base G : Heap} {l : List Env} {e dx : Addr} {news news' : Led} {h : Heap} (R : RaisedM base G l e dx news h) (hs : ∀ q ∈ news', q ∈ news) : RaisedM base G l e dx news' h := by
  obtain ⟨B, h1, h2, h3, h4⟩ := R
  exact ⟨B, h1, h2, fun q hq => h3 q (hs q hq), h4⟩
section
variable {M : Model} {A : Around} {E : Value → Shared → Prop} {s' : Shared} {base g g₂ h : Heap} {outer : List Env} {L e t dx : Addr} {m : Str → Option Value} {env : Env} {Q : Unit → Shared → Prop} {news : Led}
theorem leave_raiseM (K : Below A base outer g) (F : Fr g L s'.heap m) (N : News g L s'.heap news) (hne : ∀ q ∈ news, q.1 ≠ e) (he : s'.heap.get? e = some (excObj t (some dx))) (hg : g.get? e = none) (heL : e ≠ L)
    (hQ : ∀ h', RaisedM base g outer e dx news h' → g.UpToSlots h' → Q () { s' with heap := h' }) (hf : env.frame = some L) (hk : env.scope.kind = .function) :
    wpAny M (A.deeper env) (leaving env (.ref e)) Q E s' := by
  have K' := pushX K F hf hk
  have hin : ∀ env' ∈ (env :: outer), ∀ b, env'.frame = some b → b ∈ e :: (env :: outer).filterMap (·.frame) := fun env' he b hb => List.mem_cons_of_mem _ (List.mem_filterMap.mpr ⟨env', he, hb⟩)
  have hbe : base.get? e = none := fresh_of_stays K.stays hg
  have st : base.StaysIn (hideAll s'.heap (e :: (env :: outer).filterMap (·.frame))) := fun b o q => hideAll_get _ (K'.stays b o q) fun hm => by
    rcases List.mem_cons.mp hm with rfl | hm
    · rw [hbe] at q; cases q
    · rw [(K'.frames.mem hm).1] at q; cases q
  have sg : ∀ b o, g.get? b = some o → b ∉ outer.filterMap (·.frame) → (hideAll s'.heap (e :: (env :: outer).filterMap (·.frame))).get? b = some o := fun b o q nm => hideAll_get _ (F.keep b o q) fun hm => by
    rcases List.mem_cons.mp hm with rfl | hm
    · rw [hg] at q; cases q
    · rcases fr_mem hf hm with z | z
      · rw [z, kts_self F] at q
        cases q
      · exact nm z
  have hl : ∀ q ∈ news, (hideAll s'.heap (e :: (env :: outer).filterMap (·.frame))).get? q.1 = some q.2 ∧ g.get? q.1 = none ∧ base.get? q.1 = none := fun q hq => by
    refine ⟨hideAll_get _ (N q hq).1 fun hm => ?_, (N q hq).2.2, fresh_of_stays K.stays (N q hq).2.2⟩
    rcases List.mem_cons.mp hm with z | hm
    · exact hne q hq z
    · rcases fr_mem hf hm with z | hm
      · exact (N q hq).2.1 z
      · obtain ⟨o, ho, _⟩ := (K.frames.mem hm).2
        rw [(N q hq).2.2] at ho; cases ho
  have hBe : (hideAll s'.heap (e :: (env :: outer).filterMap (·.frame))).get? e = none := hideAll_none _ (List.Mem.head _)
  unfold leaving
  refine wpAny_bind (noteM_first K'.stack (funFrames_hide K'.frames hin) hf he ⟨rfl, rfl⟩ (fun b o q => of_hideAll _ q) hBe rfl rfl fun h₁ S₁ => ?_)
  refine landM S₁.1 S₁.2.1 S₁.2.2.1 fun h₂ S₂ => ?_
  obtain ⟨k1, ⟨_, _, k2⟩, k3, k4⟩ := S₂
  exact hQ h₂ ⟨_, st, sg, hl, k1, hBe, k2, k3⟩ ((Heap.UpToSlots.of_keeps F.keep).trans (S₁.2.2.2.trans k4))

theorem leave_onM (K : Below A base outer g) (F : Fr g L g₂ m) (R : RaisedM base g₂ (env :: outer) e dx news s'.heap) (hsm : g₂.UpToSlots s'.heap)
    (hQ : ∀ h', RaisedM base g outer e dx news h' → g.UpToSlots h' → Q () { s' with heap := h' }) (hf : env.frame = some L) :
    wpAny M (A.deeper env) (leaving env (.ref e)) Q E s' := by
  obtain ⟨B, hB, hBG, hl, f1, f2, f3, f4⟩ := R
  unfold leaving
  refine wpAny_bind (noteM_on (Around.frames_deeper K.stack) f3 hf f4 f1 f2 fun h₁ S₁ => ?_)
  refine landM S₁.1 S₁.2.1 S₁.2.2.1 fun h₂ S₂ => ?_
  obtain ⟨k1, ⟨_, _, k2⟩, k3, k4⟩ := S₂
  refine hQ h₂ ⟨B, hB, fun b o q nm => hBG b o (F.keep b o q) (fun hm => ?_), fun q hq => ⟨(hl q hq).1, kts_none F.keep (hl q hq).2.1, (hl q hq).2.2⟩, k1, f2, k2, k3⟩
    ((Heap.UpToSlots.of_keeps F.keep).trans (hsm.trans (S₁.2.2.2.trans k4)))
  rcases fr_mem hf hm with z | z
  · rw [z, kts_self F] at q
    cases q
  · exact nm z
end

section
variable {w : World} {A₀ : Around} {E : Value → Shared → Prop} {s' : Shared} {base g g₀ G : Heap} {outer : List Env} {L a e dx : Addr} {m : Str → Option Value} {name : Str} {scope : Scope} {cd : Value}
  {n : Str} {b₀ : Stmt} {suite : List Stmt} {pos np : Pos} {rest : List ExceptHandler} {Q : Flow → Shared → Prop} {news : Led} {p : Program} {loose : List Str} {mean : ExcName → Option Value} {mg mb : Str → Option Value} {x : Str}
/- except Misused as n -/
theorem caught_M (R : RaisedM base G (envOf name scope L a cd :: outer) e dx news s'.heap) (F : Fr g L G m) (K : Below A₀ base outer g) (hsm : G.UpToSlots s'.heap) (XB : (hd.heap_39 w.params).In base) (TB : Top p loose mean mg mb base)
    (D : KtsDicts (outer.filterMap (·.frame)) g) (T0 : KtsTurn (outer.filterMap (·.frame)) g₀ g)
    (ex : nsIn (hd.heap_39 w.params) mainGlobals x = some (some (.ref 44)))
    (k : ∀ h' g' oe tk, KtsTurn (outer.filterMap (·.frame)) g₀ g' → Fr g' L h' (fun y => if y = n then some (.ref e) else m y) → News g' L h' ((e, oe) :: news) → oe.cls = .ref 44 → oe.dict = some dx → notCls oe = true → Below A₀ base outer g' → (hd.heap_39 w.params).In g' → Top p loose mean mg mb g' → KtsDicts (outer.filterMap (·.frame)) g' →
      wpAny (model PySem.Challenge.rw_pf0325_01.row.prog w) ((A₀.deeper (envOf name scope L a cd)).mark (some (.ref e))) (execs (b₀ :: suite) (envOf name scope L a cd))
        (fun f s₄ => wpAny (model PySem.Challenge.rw_pf0325_01.row.prog w) (A₀.deeper (envOf name scope L a cd)) (do bindName (envOf name scope L a cd) n .none; unbindBehindTheSuite (envOf name scope L a cd) n pos) (fun _ s₅ => Q f s₅) E s₄)
        (AsSuiteRaised (model PySem.Challenge.rw_pf0325_01.row.prog w) ((A₀.deeper (envOf name scope L a cd)).mark (some (.ref e))) (envOf name scope L a cd) n pos (notedBy (model PySem.Challenge.rw_pf0325_01.row.prog w) ((A₀.deeper (envOf name scope L a cd)).mark (some (.ref e))) (envOf name scope L a cd) (cameBackBy (model PySem.Challenge.rw_pf0325_01.row.prog w) (A₀.deeper (envOf name scope L a cd)) (envOf name scope L a cd) E)))
        { s' with heap := h', toks := tk })
    (hk : scope.kind = .function) (hlo : (envOf name scope L a cd).kindOf n = some .local) (hx : (envOf name scope L a cd).kindOf x = some .globalImplicit) (hd : (x == ("__debug__" : Str)) = false) :
    wpAny (model PySem.Challenge.rw_pf0325_01.row.prog w) (A₀.deeper (envOf name scope L a cd)) (noteFrame (.ref e) (envOf name scope L a cd))
      (fun _ s₂ => wpAny (model PySem.Challenge.rw_pf0325_01.row.prog w) (A₀.deeper (envOf name scope L a cd)) (setFlight (.ref e) none) (fun _ s₃ =>
        wpAny (model PySem.Challenge.rw_pf0325_01.row.prog w) (A₀.deeper (envOf name scope L a cd)) (handleBy (.ref e) (envOf name scope L a cd) (.ExceptHandler (some (.Name x np)) (some n) (b₀ :: suite) pos :: rest)) Q E s₃) E s₂) E s' := by
  obtain ⟨B, hB, hBG, hl, f1, f2, f3, f4⟩ := R
  have hL : B.get? L = none := by
    obtain ⟨_, ⟨L', _, hf, hn', _⟩, _⟩ := f3
    obtain rfl : L = L' := Option.some.inj hf
    exact hn'
  refine noteM_on (Around.frames_deeper K.stack) f3 rfl f4 f1 f2 fun h₄ S₄ => ?_
  refine landM S₄.1 S₄.2.1 S₄.2.2.1 fun h₅ S₅ => ?_
  have hsm₅ := S₄.2.2.2.trans S₅.2.2.2
  obtain ⟨g₅, T₅, F₅, K₅⟩ := kts_ground K F hBG S₅.1 (hsm.trans hsm₅)
  have X₅ := XB.keeps K₅.stays
  have P₅ : TopRead p loose mg mb g₅ := topRead_of (TB.keeps K₅.stays)
  obtain ⟨ob, hob, hobc⟩ : ∃ ob, h₅.get? e = some ob ∧ ob.cls = .ref 44 := by
    obtain ⟨oe, _, _, _, _, he, hc, _⟩ := S₅.2.2.1
    exact ⟨oe, he, hc.1⟩
  obtain ⟨nm, q', Ns, bs, bm, hdct, sn, sub, ab, col, dd, k0, k1, k2, k3, k5, newId, hC, hbase, -⟩ := kts_cls X₅ (C := 44) (T := "BaseException") rfl
  have hC₅ := F₅.keep _ _ hC
  refine wpAny_handleBy_cons (codeAny_handlers_test (name_K F₅ X₅ P₅ ex ?_ hk hx hd)) (by intro q; cases q)
  refine wpAny_excMatches_sub_self hC₅ hob hobc hbase (codeAny_handlers_suite_as ?_)
  refine landM S₅.1 S₅.2.1 S₅.2.2.1 fun h₆ S₆ => ?_
  have hsm₆ := (hsm.trans hsm₅).trans S₆.2.2.2
  obtain ⟨g₆, T₆, F₆, K₆⟩ := kts_ground K F hBG S₆.1 hsm₆
  obtain ⟨oe, ws, _, _, _, hoe, hoec, hoed, _⟩ := S₆.2.2.1
  have ne₆ : g₆.get? e = none := T₆.none_ _ (kts_fresh F hBG f2 fun o ho m => by
    obtain ⟨_, o', ho', hd⟩ := K.frames.mem m
    rw [ho] at ho'
    cases ho'
    obtain ⟨sl, hs⟩ := hsm₆ _ _ (F.keep _ _ ho) hd
    rw [hoe] at hs
    cases hs
    exact hd _ hoed)
  have Nl : News g₆ L h₆ news := fun q hq => ⟨S₆.1 _ _ (hl q hq).1, (fun z => by have := (hl q hq).1; rw [z, hL] at this; cases this), T₆.none_ _ (kts_none F.keep (hl q hq).2.1)⟩
  have N₆ := News.more F₆ Nl hoe (fun es n q => by rw [hoed] at q; cases q) ne₆
  refine stN F₆ N₆ (fun h₇ F₇ N₇ => ?_) hk hlo
  exact k h₇ g₆ oe _ (T0.trans T₆) F₇ N₇ hoec.1 hoec.2 (by unfold notCls; rw [hoed]) K₆ (XB.keeps K₆.stays) (TB.keeps K₆.stays) (D.turn T₆)
end
/- the made exception, raised -/
noncomputable def Raises (w : World) (E : Value → Shared → Prop) (v : Value) (s₁ : Shared) : Prop := ∃ e t dx, v = .ref e ∧ (hd.heap_39 w.params).In s₁.heap ∧ s₁.heap.get? e = some (excObj t (some dx)) ∧ E (.ref e) s₁
/- raise, of a call that gives back the made exception -/
theorem exc_raiseStmt {w : World} {A : Around} {E : Value → Shared → Prop} {env : Env} {s : Shared} {x : Sem Value} {Q : Flow → Shared → Prop} (hh : A.handled = none)
    (h : wpAny (model PySem.Challenge.rw_pf0325_01.row.prog w) A x (Raises w E) E s) :
    wpAny (model PySem.Challenge.rw_pf0325_01.row.prog w) A (raiseStmt env (some x) none) Q E s := by
  unfold raiseStmt
  refine wpAny_bind (wpAny_mono h (fun v s₁ h₁ => ?_) fun _ _ x => x)
  obtain ⟨e, t, dx, rfl, X, he, hE⟩ := h₁
  obtain ⟨nm, q', Ns, bs, bm, hdct, sn, sub, ab, col, dd, k0, k1, k2, k3, k5, newId, hC, hbase, -⟩ := kts_cls X (C := 44) (T := "BaseException") rfl
  have hcB : (Value.ref 44 :: bm).contains (.type "BaseException") = true := by rw [List.contains_cons, hbase, Bool.or_true]
  obtain ⟨hp, g, d, tk, os⟩ := s₁
  repeat (first | with_reducible refine wpAny_loadPart_at he ?_ | with_reducible refine wpAny_loadPart_at hC ?_ | (with_reducible refine wpAny_isSubtype_exc hC ?_; rw [hcB]) | wp_step)
  exact wpAny_raiseNew_none hh hE
theorem exc_Raise {w : World} {A : Around} {E : Value → Shared → Prop} {env : Env} {s : Shared} {x : Expr} {pos : Pos} {Q : Flow → Shared → Prop} (hh : A.handled = none)
    (h : wpAny (model PySem.Challenge.rw_pf0325_01.row.prog w) A (eval x env) (Raises w E) E s) :
    wpAny (model PySem.Challenge.rw_pf0325_01.row.prog w) A (exec (.Raise (some x) none pos) env) Q E s := by
  rw [arm_exec_Raise]
  simp only [evalOpt, Option.map]
  exact wpAny_bind (wpAny_standAt (exc_raiseStmt hh (wpAny_bind (wpAny_mono h (fun v s₁ h₁ => wpAny_bind (wpAny_standAt (wpAny_pure h₁))) fun _ _ x => x))))
end
theorem raises_leave {w : World} {A : Around} {E₀ E₁ : Value → Shared → Prop} {s' : Shared} {base g : Heap} {outer : List Env} {L e t dx : Addr} {m : Str → Option Value} {env : Env} {Q₀ : Unit → Shared → Prop} {es : List DictEntry} {n : Nat} {news : Led}
    (K : Below A base outer g) (X : (hd.heap_39 w.params).In g) (F : Fr g L s'.heap m) (N : News g L s'.heap ((dx, dictOf es n) :: (e, excObj t (some dx)) :: news)) (hne : ∀ p ∈ ((dx, dictOf es n) :: news : Led), p.1 ≠ e)
    (hQ : ∀ h', RaisedM base g outer e dx ((dx, dictOf es n) :: news) h' → g.UpToSlots h' → Q₀ () { s' with heap := h' }) (hE : wpAny (model PySem.Challenge.rw_pf0325_01.row.prog w) (A.deeper env) (leaving env (.ref e)) Q₀ E₀ s' → E₁ (.ref e) s') (hf : env.frame = some L) (hk : env.scope.kind = .function) :
    Raises w E₁ (.ref e) s' := by
  have he := N (e, excObj t (some dx)) (List.Mem.tail _ (List.Mem.head _))
  refine ⟨e, t, dx, rfl, X.keeps F.keep, he.1, ?_⟩
  refine hE (leave_raiseM K F (fun q hq => N q (by
    rcases List.mem_cons.mp hq with rfl | hq
    · exact List.Mem.head _
    · exact List.Mem.tail _ (List.Mem.tail _ hq))) hne he.1 he.2.2 he.2.1 hQ hf hk)

end exc4
section exc5
section
open PySem.Spec PySem.Calls
section
variable {prog : Program} {w : World} {A₀ A : Around} {s : Shared} {base h₀ g₀ : Heap} {outer : List Env} {L : Addr} {m : Str → Option Value} {env : Env} {news : Led} {K : Frag} {p : Program} {loose : List Str} {mean : ExcName → Option Value} {mg mb : Str → Option Value}
  {R : Result → Shared → Prop} {name qual : Str} {params : Arguments} {body : List Stmt} {scope : Scope} {dV kV doc pm cdv ct oc : Value} {an od : Option Addr} {osl : Array (Option Value)} {f : Addr} {args : Args} {binds : List (Str × Value)}
theorem groundS (B : Below A₀ base outer h₀) (F : Fr h₀ L s.heap m) (N : News h₀ L s.heap news) (XB : K.In base) (TB : Top p loose mean mg mb base) (D : KtsDicts (outer.filterMap (·.frame)) h₀) (T0 : KtsTurn (outer.filterMap (·.frame)) g₀ h₀)
    (hA : A.frames = some (env :: outer)) (hf : env.frame = some L) (hke : env.scope.kind = .function) :
    Fr h₀ L (hideAll s.heap (news.map (·.1))) m ∧ Below A base (env :: outer) (hideAll s.heap (news.map (·.1))) ∧ h₀.StaysIn (hideAll s.heap (news.map (·.1))) ∧ KtsDicts ((env :: outer).filterMap (·.frame)) (hideAll s.heap (news.map (·.1))) ∧
      ∀ v s', LeaveS ((env :: outer).filterMap (·.frame)) A₀ base outer K p loose mean mg mb g₀ h₀ L m (hideAll s.heap (news.map (·.1))) R v s' → R (.ok (.ret v)) s' := by
  obtain ⟨FG, BG, st, lv⟩ := groundX (R := R) B F N hA hf hke
  have nL₀ : h₀.get? L = none := kts_self F
  obtain ⟨oL, es, ep, hLg, hLd, hLk, hLf⟩ := FG.ns
  have hNs : ∀ (sl : Array (Option Value)) h', h'.get? L = some { oL with slots := sl } → Heap.Ns h' L m := fun sl h' e => ⟨_, es, ep, e, hLd, hLk, hLf⟩
  refine ⟨FG, BG, st, fun b hb => ?_, fun v s' hl => ?_⟩
  · rcases fr_mem hf hb with rfl | hb
    · exact ⟨oL, es, ep, hLg, hLd⟩
    · obtain ⟨o, es', n', ho', hd'⟩ := D b hb
      exact ⟨o, es', n', st b o ho', hd'⟩
  rcases hl with ⟨L', m', news', F', N', k⟩ | ⟨g', L', m', news', T', F', N', k⟩
  · exact lv v s' ⟨L', m', news', F', N', k⟩
  obtain ⟨sl, hs⟩ := T'.up hLg
  obtain ⟨T₁, S₁⟩ := kts_turn_at (h := s'.heap) (fs := outer.filterMap (·.frame)) (g := h₀)
    (fun b hb => by
      obtain ⟨_, o, ho', _⟩ := B.frames.mem hb
      exact ⟨o, ho'⟩)
    (fun b o e nmem => F'.keep b o (T'.other b o (st b o e) (fun q => by
      rcases fr_mem hf q with z | z
      · rw [z, nL₀] at e
        cases e
      · exact nmem z)))
    (fun b o e hm => by
      obtain ⟨sl', hs'⟩ := T'.up (st b o e)
      exact ⟨sl', F'.keep _ _ hs'⟩)
  have B₃ : Below A₀ base outer (ktsHeap s'.heap (outer.filterMap (·.frame)) h₀) := ⟨B.stack, fun b o e => T₁.other b o (B.stays b o e) (fun hm => by
    rw [(B.frames.mem hm).1] at e
    cases e), B.frames.of_keeps fun b o e _ => by
    obtain ⟨sl', hs'⟩ := T₁.up e
    exact ⟨_, hs', rfl⟩⟩
  refine k _ (T0.trans T₁) ⟨hNs sl _ (F'.keep _ _ hs), S₁, by rw [T₁.size]; exact F.above⟩ (fun p hp => ⟨(N' p hp).1, fun q => ?_, ?_⟩) B₃ (XB.keeps B₃.stays) (TB.keeps B₃.stays) (D.turn T₁)
  · have := (N' p hp).2.2; rw [q, hs] at this; cases this
  · refine T₁.none_ _ ?_
    cases q : h₀.get? p.1 with
    | none => rfl
    | some o =>
      obtain ⟨sl', hs'⟩ := T'.up (st _ _ q)
      have := (N' p hp).2.2
      rw [hs'] at this
      cases this

/- the entry of a def in whose call something may be caught -/
theorem code_defT (B : Below A₀ base outer h₀) (F : Fr h₀ L s.heap m) (X₀ : K.In h₀) (N : News h₀ L s.heap news) (T : Top p loose mean mg mb h₀) (XB : K.In base) (TB : Top p loose mean mg mb base) (D : KtsDicts (outer.filterMap (·.frame)) h₀)
    (T0 : KtsTurn (outer.filterMap (·.frame)) g₀ h₀) (hA : A.frames = some (env :: outer)) (hf : env.frame = some L) (hke : env.scope.kind = .function)
    (ho : K.lookup f = some ⟨oc, od, .func (fnOf name qual params body scope dV kV doc pm an cdv ct), osl⟩) (hcd : codeIn K cdv qual = true) (hroom : A.depth < recursionLimit)
    (hbind : BindsTo s (fnOf name qual params body scope dV kV doc pm an cdv ct) args binds) (hloc : ∀ y ∈ binds, scope.names.lookup y.1 = some .local)
    (h : ∀ g L' h₁, Fr h₀ L g m → Fr g L' h₁ (fun y => binds.reverse.lookup y) → News g L' h₁ news → Below A base (env :: outer) g → K.In g → Top p loose mean mg mb g → KtsDicts ((env :: outer).filterMap (·.frame)) g →
      wpAny (model prog w) (A.deeper (envOf qual scope L' f cdv)) (execs body (envOf qual scope L' f cdv))
        (fun fl s' => LeaveS ((env :: outer).filterMap (·.frame)) A₀ base outer K p loose mean mg mb g₀ h₀ L m g R (match fl with | .ret v => v | _ => .none) s')
        (fun e s' => wpAny (model prog w) (A.deeper (envOf qual scope L' f cdv)) (leaving (envOf qual scope L' f cdv) e) (fun _ s'' => R (.error e) s'') (fun e' s'' => R (.error e') s'') s')
        { s with heap := h₁, toks := s.toks + binds.length })
    (hco : scope.isCoroutine = false) (hgen : scope.isGenerator = false) (hk : scope.kind = .function)
    (hcell : ∀ x ∈ scope.names, x.2 ≠ .cell) : codeAny (model prog w) A (.call (.ref f) args) R s := by
  have X := X₀.keeps F.keep
  obtain ⟨FG, BG, st, DG, lv⟩ := groundS (R := R) B F N XB TB D T0 hA hf hke
  refine codeAny_call_def (fd := fnOf name qual params body scope dV kV doc pm an cdv ct) (body := body) (binds := binds) hroom (X _ _ ho) rfl (T.nolimit.keeps F.keep) (codeRec_of X hcd) rfl hbind hcell hloc (fun h₁ hns hk₁ => ?_) hco hgen hk
  exact wpAny_mono (h _ s.heap.objs.size h₁ FG ⟨hns, fun b o e => hk₁ b o (of_hideAll _ e), Nat.le_of_eq (hideAll_size _ _)⟩
    (fun p hp => ⟨hk₁ _ _ (N p hp).1, Nat.ne_of_lt (Heap.lt_size (N p hp).1), hideAll_none _ (List.mem_map_of_mem hp)⟩) BG (X₀.keeps st) (T.keeps st) DG) (fun fl s' hl => lv _ _ hl) fun _ _ y => y

/- the same, for a def with cells -/
theorem code_defTC (B : Below A₀ base outer h₀) (F : Fr h₀ L s.heap m) (X₀ : K.In h₀) (N : News h₀ L s.heap news) (T : Top p loose mean mg mb h₀) (XB : K.In base) (TB : Top p loose mean mg mb base) (D : KtsDicts (outer.filterMap (·.frame)) h₀)
    (T0 : KtsTurn (outer.filterMap (·.frame)) g₀ h₀) (hA : A.frames = some (env :: outer)) (hf : env.frame = some L) (hke : env.scope.kind = .function)
    (ho : K.lookup f = some ⟨oc, od, .func (fnOf name qual params body scope dV kV doc pm an cdv ct), osl⟩) (hcd : codeIn K cdv qual = true) (hroom : A.depth < recursionLimit)
    (hbind : BindsTo s (fnOf name qual params body scope dV kV doc pm an cdv ct) args binds) (hkind : (binds.all fun y => scope.names.lookup y.1 == some .local || scope.names.lookup y.1 == some .cell) = true)
    (hnd : ((cellsFrom 0 scope.names []).map (·.1)).Nodup)
    (h : ∀ g L' h₁ tk cells, Fr h₀ L g m → Fr g L' h₁ (bindL (envOfC qual scope L' f cdv).kindOf binds fun _ => none) → News g L' h₁ (cells ++ news) →
      CellsAre (bindC (envOfC qual scope L' f cdv).kindOf binds fun _ => none) (cellsFrom (L' + 1) scope.names []) cells → Below A base (env :: outer) g → K.In g → Top p loose mean mg mb g → KtsDicts ((env :: outer).filterMap (·.frame)) g → (∀ p ∈ news, p.1 < L') →
      wpAny (model prog w) (A.deeper (envOfC qual scope L' f cdv)) (execs body (envOfC qual scope L' f cdv))
        (fun fl s' => LeaveS ((env :: outer).filterMap (·.frame)) A₀ base outer K p loose mean mg mb g₀ h₀ L m g R (match fl with | .ret v => v | _ => .none) s')
        (fun e s' => wpAny (model prog w) (A.deeper (envOfC qual scope L' f cdv)) (leaving (envOfC qual scope L' f cdv) e) (fun _ s'' => R (.error e) s'') (fun e' s'' => R (.error e') s'') s')
        { s with heap := h₁, toks := tk })
    (hco : scope.isCoroutine = false) (hgen : scope.isGenerator = false) (hk : scope.kind = .function) : codeAny (model prog w) A (.call (.ref f) args) R s := by
  have X := X₀.keeps F.keep
  obtain ⟨FG, BG, st, DG, lv⟩ := groundS (R := R) B F N XB TB D T0 hA hf hke
  refine codeAny_call_function hroom (X _ _ ho) rfl hco hgen rfl (codeRec_of X hcd) (hbind _ _ _ _ ?_)
  refine wpAny_newFunctionEnv_cells hk (kindsX hkind _) fun env' he s' x => ?_
  subst he
  refine ⟨(T.nolimit.keeps F.keep).keeps x.toInCall.keep, codeAny_func ?_⟩
  obtain ⟨h₁, tk, rfl, _⟩ := x.done
  have hk₁ := x.toInCall.keep
  obtain ⟨cells, NC, Y⟩ := Cl.news (h₀ := s.heap) (Nat.le_refl _) fun n c hm => ⟨x.cell n c (lookup_of_mem_nodup (cellsFrom_names scope.names 0 (s.heap.objs.size + 1) [] [] rfl ▸ hnd) hm), x.above n c hm⟩
  refine wpAny_mono (h _ s.heap.objs.size h₁ tk cells FG ⟨x.toInCall.ns, fun b o e => hk₁ b o (of_hideAll _ e), Nat.le_of_eq (hideAll_size _ _)⟩ (fun p hp => ?_) Y BG (X₀.keeps st) (T.keeps st) DG (fun p hp => Heap.lt_size (N p hp).1)) (fun fl s' hl => lv _ _ hl) fun _ _ y => y
  rcases List.mem_append.mp hp with hp | hp
  · refine ⟨(NC p hp).1, (NC p hp).2.1, ?_⟩
    cases q : (hideAll s.heap (news.map (·.1))).get? p.1 with
    | none => rfl
    | some o => have := of_hideAll _ q; rw [(NC p hp).2.2] at this; cases this
  · exact ⟨hk₁ _ _ (N p hp).1, Nat.ne_of_lt (Heap.lt_size (N p hp).1), hideAll_none _ (List.mem_map_of_mem hp)⟩
end
end

end exc5
section exc6
section
open PySem.Calls Builtin Builtin.ObjectAttr
variable {w : World} {A : Around} {E : Value → Shared → Prop} {s : Shared} {e dx : Addr} {oe : Obj} {es : List DictEntry} {n : Nat} {name : Str} {v : Value}
theorem bx_slot : Slot "BaseException" "__getattribute__" "BaseException.__getattribute__" :=
  .of (owner := "BaseException") (n := "__getattribute__") (by rw [typeLookup_type, builtinLookup_eq_fast]; kernel_rfl) (by decide +kernel) (by decide +kernel) (by decide +kernel)
    (by first | exact .inl (by decide +kernel) | exact .inr (by decide +kernel)) (by rw [isSubtype_type]; kernel_rfl)
theorem bx_entry : entryFor table "BaseException.__getattribute__" = some Builtin.«object.__getattribute__» :=
  entryFor_alias (id' := "object.__getattribute__") (by rw [fastTable_eq_tree]; kernel_rfl) (by first | rfl | decide +kernel) (by decide +kernel) (by rw [fastTable_eq_tree]; kernel_rfl)
theorem bx_args (a b : Value) : argsOk "BaseException.__getattribute__" ⟨[a, b], []⟩ := by unfold argsOk; kernel_rfl
theorem bx_kind : builtinKind "BaseException.__getattribute__" = some .slot := by decide +kernel
theorem bx_split : splitId "BaseException.__getattribute__" = some ("BaseException", "__getattribute__") := by decide +kernel
theorem exc_get {expr : Bool} {Q : Value → Shared → Prop} (X : (hd.heap_39 w.params).In s.heap) (I : InstAt s.heap e oe 44 (some (dictOf es n))) (hf : findObj (hd.heap_39 w.params) 44 (some (dictOf es n)) name = some (.value v)) (hh : handedIn v = true)
    (h : Q v { s with toks := s.toks + 1 }) : wpAny (model PySem.Challenge.rw_pf0325_01.row.prog w) A (getAttr (.ref e) name expr) Q E s := by
  obtain ⟨hp, g, d, t, os⟩ := s
  have L0 := I.type (M := model PySem.Challenge.rw_pf0325_01.row.prog w)
  have L1 : Looks (model PySem.Challenge.rw_pf0325_01.row.prog w) hp (typeLookup (.ref 44) "__getattribute__") (some (.builtin "BaseException.__getattribute__")) := looks_findIn X rfl
  have L2 := looks_find (M := model PySem.Challenge.rw_pf0325_01.row.prog w) X I hf
  have L3 : Looks (model PySem.Challenge.rw_pf0325_01.row.prog w) hp (hookBefore (.ref 44)) none := looks_hook X (r := none) rfl
  have L4 : Looks (model PySem.Challenge.rw_pf0325_01.row.prog w) hp (isInstance (.ref e) (.type "BaseException")) true := L0.andThen (looks_mroIn X rfl)
  unfold getAttr getAttrBy
  refine wpAny_bind (wpAny_mkText (wpAny_holding (wpAny_bind (L0.at (wpAny_bind (L1.at ?_))))))
  show wpAny _ _ (getAttrByItsOwn _ _ _ _ _ _) _ _ _
  unfold getAttrByItsOwn
  refine wpAny_bind (L3.at ?_)
  refine wpAny_bind (wpAny_attempt (wpAny_holding ?_))
  have hc : callGetattribute (.ref e) (.str name t) (.builtin "BaseException.__getattribute__") expr = boundAndCalled (.builtin "BaseException.__getattribute__") (.ref e) (.str name t) := by
    unfold callGetattribute
    rw [show onTheHeap (.builtin "BaseException.__getattribute__") = false from rfl, Bool.and_false, if_neg (by decide)]
  rw [hc]
  unfold boundAndCalled
  rw [bx_slot.bind]
  refine wpAny_bind (wpAny_pure ?_)
  show wpAny _ _ (PySem.call (.builtin "BaseException.__getattribute__") [.ref e, .str name t]) _ _ _
  refine wpAny_call (codeAny_call_builtin bx_slot.plain bx_entry (@check_slot (model PySem.Challenge.rw_pf0325_01.row.prog w) _ _ ⟨hp, g, d, t + 1, os⟩ "BaseException.__getattribute__" "BaseException" "__getattribute__" (.ref e) [.str name t] [] _ bx_kind bx_split L4 (bx_args (.ref e) (.str name t)) ?_))
  unfold Builtin.«object.__getattribute__»
  repeat lk
  show wpAny _ _ (handedOut v) _ _ _
  rw [handedOut_of hh]
  exact wpAny_pure h

theorem exc_getN {h₀ : Heap} {L : Addr} {m : Str → Option Value} {news : Led} {expr : Bool} {attr : Option Value} {Q : Value → Shared → Prop} (F : Fr h₀ L s.heap m) (X₀ : (hd.heap_39 w.params).In h₀) (N : News h₀ L s.heap news) (he : (e, oe) ∈ news) (hdx : (dx, dictOf es n) ∈ news)
    (hc : oe.cls = .ref 44) (hod : oe.dict = some dx) (hon : notCls oe = true) (hw : getL name es = some (some v)) (ha : findIn (hd.heap_39 w.params) (.ref 44) name = some attr) (hn : noGet (hd.heap_39 w.params) attr = true) (hv : handedIn v = true)
    (h : Q v { s with toks := s.toks + 1 }) : wpAny (model PySem.Challenge.rw_pf0325_01.row.prog w) A (getAttr (.ref e) name expr) Q E s := by
  refine exc_get (n := n) (X₀.keeps F.keep) ⟨(N _ he).1, hc, hon, ?_⟩ (findObj_own rfl ha hn hw) hv h
  rw [hod]
  exact (N _ hdx).1
end

end exc6
section raise_mend
theorem reset_raise_mend : True := by (w_top off; k_with_none; exact trivial)
/- what a call of the text's def f with the arguments vs raises: Misused with the text txt -/
noncomputable abbrev SpecE (w : World) (mean : ExcName → Option Value) (mg mb : Str → Option Value) (f : Addr) (dN uN : Nat) (news : Led) (vs : List Value) (txt : Str) : Prop :=
  ∀ (dp un : Nat) (gd : Option (List Code)) (cn : Str) (cs : Scope) (a : Addr) (ccd : Value) (cl : List (Str × Addr)) (outer : List Env) (A₀ : Around) (base h₀ : Heap) (L : Addr) (m : Str → Option Value) (s : Shared) (Q E : Value → Shared → Prop),
    Below A₀ base outer h₀ → Fr h₀ L s.heap m → (hd.heap_39 w.params).In h₀ → News h₀ L s.heap news → Tp mean mg mb h₀ → cs.kind = .function → dp + dN < recursionLimit → un + uN < cLine →
    (∀ (e dx : Addr) (es : List DictEntry) (n : Nat) (tk₀ : Tok) (G h' : Heap) (tk' : Nat), Fr h₀ L G m → G.UpToSlots h' → RaisedM base G (envX cn cs L a ccd cl :: outer) e dx ((dx, dictOf es n) :: news) h' → getL (Str.ofString "why") es = some (some (.str txt tk₀)) →
      E (.ref e) { s with heap := h', toks := tk' }) →
    wpAny (model PySem.Challenge.rw_pf0325_01.row.prog w) (ktrTop dp un gd cn cs L a ccd cl outer) (call (.ref f) vs) Q E s
theorem SpecE.use {w : World} {mean : ExcName → Option Value} {mg mb : Str → Option Value} {f : Addr} {dN uN : Nat} {news : Led} {vs : List Value} {txt : Str}
    {dp un : Nat} {gd : Option (List Code)} {cn : Str} {cs : Scope} {a : Addr} {ccd : Value} {cl : List (Str × Addr)} {outer : List Env} {A₀ : Around} {base h₀ : Heap} {L : Addr} {m : Str → Option Value} {s : Shared} {Q E : Value → Shared → Prop}
    (B : Below A₀ base outer h₀) (F : Fr h₀ L s.heap m) (X : (hd.heap_39 w.params).In h₀) (N : News h₀ L s.heap news) (T : Tp mean mg mb h₀) (hk : cs.kind = .function)
    (C : SpecE w mean mg mb f dN uN news vs txt) (hd : dp + dN < recursionLimit) (hu : un + uN < cLine)
    (ret : ∀ (e dx : Addr) (es : List DictEntry) (n : Nat) (tk₀ : Tok) (G h' : Heap) (tk' : Nat), Fr h₀ L G m → G.UpToSlots h' → RaisedM base G (envX cn cs L a ccd cl :: outer) e dx ((dx, dictOf es n) :: news) h' → getL (Str.ofString "why") es = some (some (.str txt tk₀)) →
      E (.ref e) { s with heap := h', toks := tk' }) :
    wpAny (model PySem.Challenge.rw_pf0325_01.row.prog w) (ktrTop dp un gd cn cs L a ccd cl outer) (call (.ref f) vs) Q E s :=
  C dp un gd cn cs a ccd cl outer A₀ base h₀ L m s Q E B F X N T hk hd hu ret
/- what a call of a def in which something may be caught gives back -/
noncomputable abbrev SpecT (w : World) (mean : ExcName → Option Value) (mg mb : Str → Option Value) (f : Addr) (dN uN : Nat) (news : Led) (vs : List Value) (R : Value → Led → Prop) : Prop :=
  ∀ (dp un : Nat) (gd : Option (List Code)) (cn : Str) (cs : Scope) (a : Addr) (ccd : Value) (cl : List (Str × Addr)) (outer : List Env) (A₀ : Around) (base h₀ : Heap) (L : Addr) (m : Str → Option Value) (s : Shared) (Q E : Value → Shared → Prop),
    Below A₀ base outer h₀ → Fr h₀ L s.heap m → (hd.heap_39 w.params).In h₀ → News h₀ L s.heap news → Tp mean mg mb h₀ → (hd.heap_39 w.params).In base → Tp mean mg mb base → KtsDicts (outer.filterMap (·.frame)) h₀ →
    cs.kind = .function → dp + dN < recursionLimit → un + uN < cLine →
    (∀ (v : Value) (tl : Led) (h' : Heap) (tk' : Nat) (h₀' : Heap), R v tl → KtsTurn (outer.filterMap (·.frame)) h₀ h₀' → Fr h₀' L h' m → News h₀' L h' (tl ++ news) → Below A₀ base outer h₀' → (hd.heap_39 w.params).In h₀' → Tp mean mg mb h₀' → KtsDicts (outer.filterMap (·.frame)) h₀' →
      Q v { s with heap := h', toks := tk' }) →
    wpAny (model PySem.Challenge.rw_pf0325_01.row.prog w) (ktrTop dp un gd cn cs L a ccd cl outer) (call (.ref f) vs) Q E s
set_option maxHeartbeats 8000000 in
theorem mend_bad (w : World) (mean : ExcName → Option Value) (mg mb : Str → Option Value) (news : Led) (c : Int) (bo bn : Array UInt8) (ko kn : List Int) (t1 t2 t3 : Tok) (ho : KBw.bInts bo = ko) (hn : KBw.bInts bn = kn)
    (hlen : ko.length < 100) (hlen' : kn.length < 100) (hbad : ¬ (kn.length = ko.length ∧ ko.length % 2 = 0)) :
    SpecE w mean mg mb 81 6 64 news [.int c t1, .bytes bo t2, .bytes bn t3] (Str.ofString "a sum is mended for octets of one even length") := by
  k_with_none
  k_with "mine pyIter ref" => k_extra "my iter"
  k_with "mine exec For" => (k_extra "my for"; (rename Fr _ _ _ _ => lF'); (with_unfolding_all refine' For_invVF lF' ?k1 ?k2 ?_; (case k1 => exact rfl); (case k2 => exact rfl); k_whole))
  k_with "kmk nums" => first | with_reducible exact kmk_all (by l_ints) | (with_reducible refine kmk_from (by l_ints) ?_; first | assumption | omega) | (with_reducible refine kmk_upto (by l_ints) ?_; first | assumption | omega) | (with_reducible refine kmk_run (by l_ints) ?_ ?_ <;> first | assumption | omega)
  k_with "room" => exact roomA (by with_reducible assumption) rfl
  k_with "mine eval Name" => (k_here; k_dflt (refine' nameX_L ?F ?v ?_ ?a ?b; (case F => k_asm); (case a => exact rfl); (case b => exact Eq.refl (some _)); (case v => exact Eq.refl (some _)); k_whole))
  k_with "mine And" => ((with_reducible show Frag.In _ _ ∧ _); k_dflt (refine ⟨Frag.In.keeps (by k_asm) (Fr.keep (by k_asm)), ?_⟩))
  k_with "mine call ref" => (k_here; (with_reducible show wpAny _ _ (PySem.call (Value.ref 130) _ _) _ _ _); k_dflt (refine' Spec.use ?k1 ?k2 ?k3 ?k4 ?k5 ?kK (law_sum_spec _ _ _ _ _ _ _) ?kd ?ku (retI ?_); (case k1 => k_asm); (case k2 => k_asm); (case k3 => k_asm); (case k4 => k_asm); (case k5 => k_asm); (case kK => first | exact rfl | assumption); (case kd => first | ktr_room | fail "law_sum_spec: room"); (case ku => first | ktr_units | fail "law_sum_spec: units"); k_whole); intro t9q h9q tk9q F9q N9q; (try dsimp only); (try k_fold))
  k_with "mine call ref" => (k_here; (with_reducible show wpAny _ _ (PySem.call (Value.ref 44) _ _) _ _ _); k_dflt (refine' Spec.use ?k1 ?k2 ?k3 ?k4 ?k5 ?kK (mis_spec _ _ _ _ _ _ _) ?kd ?ku (retM ?_); (case k1 => k_asm); (case k2 => k_asm); (case k3 => k_asm); (case k4 => k_asm); (case k5 => k_asm); (case kK => first | exact rfl | assumption); (case kd => first | ktr_room | fail "mis_spec: room"); (case ku => first | ktr_units | fail "mis_spec: units"); k_whole); intro e9q t9q dx9q es9q n9q h9q tk9q hw9q hz9q F9q N9q; (try dsimp only); (try k_fold))
  k_with "mine exec Raise some none" => (k_here; k_dflt (refine' exc_Raise ?hx1 ?_; (case hx1 => exact rfl); k_whole))
  unfold SpecE Tp; k_fill
  intro dp un gd cn cs a ccd cl outer A₀ base h₀ L m s Q E B F X N T hk hd hu hret
  refine wpAny_call ?_
  k_dflt (refine' code_def ?k1 ?k2 ?k3 ?k4 ?k5 ?kA ?kF ?kK ?k6 ?k7 ?k8 ?k9 ?kB ?_ ?c2 ?c3 ?c4 ?c5; (case kA => exact rfl); (case kF => exact rfl); (case kK => assumption); (case k1 => k_asm); (case k2 => k_asm); (case k3 => k_asm); (case k4 => k_asm); (case k5 => k_asm); (case k6 => k_is); (case k7 => k_is); (case k8 => ktr_room); (case k9 => first | exact BindsTo.of_eq rfl | exact binds_K (by k_in) rfl (by k_is) rfl rfl rfl); (case c5 => decide); (case kB => exact locs rfl); (case c2 => exact rfl); (case c3 => exact rfl); (case c4 => exact rfl); k_whole; intro g' L' h' FG' F' N' B' X' T'; (try dsimp only); (try k_lift B'); (try k_fold))
  k_steps
  all_goals try (exfalso; rename Int.fmod _ _ ≠ 1 => hf9; rw [Int.fmod_eq_emod_of_nonneg _ (by omega)] at hf9; omega)
  all_goals
    (rename getL _ _ = _ => hw9; rename (∀ p ∈ (_ : Led), p.1 ≠ _) => hz9; rename Fr g' L' _ _ => F9; rename News g' L' _ _ => N9)
    with_unfolding_all refine' raises_leave ?rlK ?rlX ?rlF ?rlN hz9 ?rlQ ?rlE ?rlf ?rlk
    (case rlE => exact fun h => h)
    (case rlF => exact F9)
    (case rlN => exact N9)
    (case rlK => assumption)
    (case rlX => assumption)
    (case rlf => rfl)
    (case rlk => rfl)
    (case rlQ => (intro h₉ R₉ U₉; exact hret _ _ _ _ _ g' h₉ _ (by assumption) U₉ R₉ hw9))

end raise_mend
section law_mended
theorem reset_law_mended : True := by (w_top off; k_with_none; exact trivial)
noncomputable def RPair (txt : Str) (x : Int) (v : Value) (tl : Led) : Prop := ∃ a tk1 tk2, v = .ref a ∧ tl = [(a, ({ cls := .type "tuple", data := .seq #[.str txt tk1, .int x tk2] } : Obj))]
theorem endP {w : World} {mean : ExcName → Option Value} {mg mb : Str → Option Value} {txt : Str} {x y : Int} {outer : List Env} {A₀ : Around} {base h₀ h₀' h' : Heap} {L a : Addr} {m : Str → Option Value} {s : Shared} {Q : Value → Shared → Prop} {news news' : Led} {tk1 tk2 : Tok} {tk' : Nat}
    (hret : ∀ (v : Value) (tl : Led) (h' : Heap) (tk' : Nat) (h₀' : Heap), RPair txt x v tl → KtsTurn (outer.filterMap (·.frame)) h₀ h₀' → Fr h₀' L h' m → News h₀' L h' (tl ++ news) → Below A₀ base outer h₀' → (hd.heap_39 w.params).In h₀' → Tp mean mg mb h₀' → KtsDicts (outer.filterMap (·.frame)) h₀' →
      Q v { s with heap := h', toks := tk' })
    (e : y = x) (T : KtsTurn (outer.filterMap (·.frame)) h₀ h₀') (F : Fr h₀' L h' m) (N : News h₀' L h' news') (B : Below A₀ base outer h₀') (X : (hd.heap_39 w.params).In h₀') (P : Tp mean mg mb h₀') (D : KtsDicts (outer.filterMap (·.frame)) h₀')
    (hl : (a, ({ cls := .type "tuple", data := .seq #[.str txt tk1, .int y tk2] } : Obj)) ∈ news') (hs : ∀ p ∈ news, p ∈ news') : Q (.ref a) { s with heap := h', toks := tk' } := by
  subst e
  exact hret _ _ h' tk' h₀' ⟨a, tk1, tk2, rfl, rfl⟩ T F (fun p hp => by
    rcases List.mem_cons.mp hp with rfl | hp
    · exact N _ hl
    · exact N _ (hs p hp)) B X P D
set_option maxHeartbeats 8000000 in
theorem mended_bad (w : World) (mean : ExcName → Option Value) (mg mb : Str → Option Value) (news : Led) (c : Int) (bo bn : Array UInt8) (ko kn : List Int) (t1 t2 t3 : Tok) (ho : KBw.bInts bo = ko) (hn : KBw.bInts bn = kn)
    (hlen : ko.length < 100) (hlen' : kn.length < 100) (hbad : ¬ (kn.length = ko.length ∧ ko.length % 2 = 0)) :
    SpecT w mean mg mb 144 10 128 news [.int c t1, .bytes bo t2, .bytes bn t3] (RPair (Str.ofString "a sum is mended for octets of one even length") 0) := by
  k_with_none
  k_with "mine pyIter ref" => k_extra "my iter"
  k_with "mine exec For" => (k_extra "my for"; (rename Fr _ _ _ _ => lF'); (with_unfolding_all refine' For_invVF lF' ?k1 ?k2 ?_; (case k1 => exact rfl); (case k2 => exact rfl); k_whole))
  k_with "kmk nums" => first | with_reducible exact kmk_all (by l_ints) | (with_reducible refine kmk_from (by l_ints) ?_; first | assumption | omega) | (with_reducible refine kmk_upto (by l_ints) ?_; first | assumption | omega) | (with_reducible refine kmk_run (by l_ints) ?_ ?_ <;> first | assumption | omega)
  k_with "room" => exact roomA (by with_reducible assumption) rfl
  k_with "mine eval Name" => (k_here; k_dflt (refine' nameX_L ?F ?v ?_ ?a ?b; (case F => k_asm); (case a => exact rfl); (case b => exact Eq.refl (some _)); (case v => exact Eq.refl (some _)); k_whole))
  k_with "mine And" => ((with_reducible show Frag.In _ _ ∧ _); k_dflt (refine ⟨Frag.In.keeps (by k_asm) (Fr.keep (by k_asm)), ?_⟩))
  k_with "mine call ref" => (k_here; (with_reducible show wpAny _ _ (PySem.call (Value.ref 130) _ _) _ _ _); k_dflt (refine' Spec.use ?k1 ?k2 ?k3 ?k4 ?k5 ?kK (law_sum_spec _ _ _ _ _ _ _) ?kd ?ku (retI ?_); (case k1 => k_asm); (case k2 => k_asm); (case k3 => k_asm); (case k4 => k_asm); (case k5 => k_asm); (case kK => first | exact rfl | assumption); (case kd => first | ktr_room | fail "law_sum_spec: room"); (case ku => first | ktr_units | fail "law_sum_spec: units"); k_whole); intro t9q h9q tk9q F9q N9q; (try dsimp only); (try k_fold))
  k_with "mine call ref" => (k_here; (with_reducible show wpAny _ _ (PySem.call (Value.ref 58) _ _) _ _ _); k_dflt (refine' Spec.use ?k1 ?k2 ?k3 ?k4 ?k5 ?kK (folded_spec _ _ _ _ _ _ _ ?p1) ?kd ?ku (retI ?_); (case k1 => k_asm); (case k2 => k_asm); (case k3 => k_asm); (case k4 => k_asm); (case k5 => k_asm); (case kK => first | exact rfl | assumption); (case p1 => first | (first | omega | exact Int.add_nonneg (by omega) (Int.mul_nonneg (by omega) (by decide))) | fail "folded_spec: p1"); (case kd => first | ktr_room | fail "folded_spec: room"); (case ku => first | ktr_units | fail "folded_spec: units"); k_whole); intro t9q h9q tk9q F9q N9q; (try dsimp only); (try k_fold))
  k_with "mine call ref" => (k_here; (with_reducible show wpAny _ _ (PySem.call (Value.ref 81) _ _) _ _ _); k_dflt (refine' Spec.use ?k1 ?k2 ?k3 ?k4 ?k5 ?kK (mend_spec _ _ _ _ _ _ _ _ _ _ _ _ _ ?p1 ?p2 ?p3 ?p4 ?p5 ?p6) ?kd ?ku (retI ?_); (case k1 => k_asm); (case k2 => k_asm); (case k3 => k_asm); (case k4 => k_asm); (case k5 => k_asm); (case kK => first | exact rfl | assumption); (case p1 => first | assumption | fail "mend_spec: p1"); (case p2 => first | assumption | fail "mend_spec: p2"); (case p3 => first | (first | with_reducible assumption | (with_reducible refine take_lt ?_ _; with_reducible assumption) | (with_reducible refine dt_lt ?_ _ _; with_reducible assumption) | (with_reducible refine oct_lt ?_; with_reducible assumption) | (with_reducible refine map_lt ?_; with_reducible assumption) | assumption | omega | ((simp only [octF_len, List.length_append, List.length_cons, List.length_nil, List.length_map, List.length_take, List.length_drop]); omega)) | fail "mend_spec: p3"); (case p4 => first | (first | with_reducible assumption | (with_reducible refine take_lt ?_ _; with_reducible assumption) | (with_reducible refine dt_lt ?_ _ _; with_reducible assumption) | (with_reducible refine oct_lt ?_; with_reducible assumption) | (with_reducible refine map_lt ?_; with_reducible assumption) | assumption | omega | ((simp only [octF_len, List.length_append, List.length_cons, List.length_nil, List.length_map, List.length_take, List.length_drop]); omega)) | fail "mend_spec: p4"); (case p5 => first | (first | with_reducible assumption | (with_reducible refine take_lt ?_ _; with_reducible assumption) | (with_reducible refine dt_lt ?_ _ _; with_reducible assumption) | (with_reducible refine oct_lt ?_; with_reducible assumption) | (with_reducible refine map_lt ?_; with_reducible assumption) | assumption | omega | ((simp only [octF_len, List.length_append, List.length_cons, List.length_nil, List.length_map, List.length_take, List.length_drop]); omega)) | fail "mend_spec: p5"); (case p6 => first | (first | assumption | omega | exact mendF_le _ _ _) | fail "mend_spec: p6"); (case kd => first | ktr_room | fail "mend_spec: room"); (case ku => first | ktr_units | fail "mend_spec: units"); k_whole); intro t9q h9q tk9q F9q N9q; (try dsimp only); (try k_fold))
  k_with "mine exec Raise some none" => (k_here; k_dflt (refine' exc_Raise ?hx1 ?_; (case hx1 => exact rfl); k_whole))
  k_with "mine getAttr ref" => (k_here; (with_reducible rename getL _ _ = _ => hw9q); k_dflt (refine' exc_getN ?kF ?kX ?kN ?ke ?kd ?kc ?ko ?kn hw9q ?ka ?kg ?kv ?_; (case kF => k_asm); (case kN => k_asm); (case kX => k_asm); (case ke => k_mem); (case kd => k_mem); (case kc => assumption); (case ko => assumption); (case kn => assumption); (case ka => exact rfl); (case kg => exact rfl); (case kv => exact rfl); k_whole))
  k_with "mine call ref" => (k_here; (with_reducible show wpAny _ _ (PySem.call (Value.ref 81) _ _) _ _ _); k_dflt (refine' SpecE.use ?k1 ?k2 ?k3 ?k4 ?k5 ?kK (mend_bad _ _ _ _ _ _ _ _ _ _ _ _ _ ?p1 ?p2 ?p3 ?p4 ?p5) ?kd ?ku ?_; (case k1 => k_asm); (case k2 => k_asm); (case k3 => k_asm); (case k4 => k_asm); (case k5 => k_asm); (case kK => first | exact rfl | assumption); (case p1 => first | assumption | fail "mend_bad: p1"); (case p2 => first | assumption | fail "mend_bad: p2"); (case p3 => first | (first | with_reducible assumption | (with_reducible refine take_lt ?_ _; with_reducible assumption) | (with_reducible refine dt_lt ?_ _ _; with_reducible assumption) | (with_reducible refine oct_lt ?_; with_reducible assumption) | (with_reducible refine map_lt ?_; with_reducible assumption) | assumption | omega | ((simp only [octF_len, List.length_append, List.length_cons, List.length_nil, List.length_map, List.length_take, List.length_drop]); omega)) | fail "mend_bad: p3"); (case p4 => first | (first | with_reducible assumption | (with_reducible refine take_lt ?_ _; with_reducible assumption) | (with_reducible refine dt_lt ?_ _ _; with_reducible assumption) | (with_reducible refine oct_lt ?_; with_reducible assumption) | (with_reducible refine map_lt ?_; with_reducible assumption) | assumption | omega | ((simp only [octF_len, List.length_append, List.length_cons, List.length_nil, List.length_map, List.length_take, List.length_drop]); omega)) | fail "mend_bad: p4"); (case p5 => first | assumption | fail "mend_bad: p5"); (case kd => first | ktr_room | fail "mend_bad: room"); (case ku => first | ktr_units | fail "mend_bad: units"); k_whole); intro e9q dx9q es9q n9q tk9q G9q h9q tk9q F9q U9q R9q hw9q; (try dsimp only); (try k_fold))
  k_with "mine noteFrame ref" => (k_here; (rename RaisedM _ _ _ _ _ _ _ => rM9q); k_dflt (refine' caught_M ?R ?F ?K ?U ?XB ?TB ?D ?T0 ?ex ?_ ?c1 ?c2 ?c3 ?c4; (case c1 => exact rfl); (case c2 => exact rfl); (case c3 => exact rfl); (case c4 => decide); (case R => assumption); (case F => assumption); (case K => assumption); (case U => assumption); (case XB => assumption); (case TB => assumption); (case D => assumption); (case T0 => first | assumption | exact KtsTurn.refl); (case ex => k_is); k_whole); intro h' g' oe' tk' T' F' N' hoc9q hod9q hon9q K' X' P' D'; (try k_lift K'); (try k_sweep))
  unfold SpecT Tp; k_fill
  intro dp un gd cn cs a ccd cl outer A₀ base h₀ L m s Q E B F X N T XB TB D hk hd hu hret
  refine wpAny_call ?_
  k_dflt (refine' code_defT ?k1 ?k2 ?k3 ?k4 ?k5 ?kXB ?kTB ?kD ?kT0 ?kA ?kF ?kK ?k6 ?k7 ?k8 ?k9 ?kB ?_ ?c2 ?c3 ?c4 ?c5; (case kA => exact rfl); (case kF => exact rfl); (case kK => assumption); (case k1 => k_asm); (case k2 => k_asm); (case k3 => k_asm); (case k4 => k_asm); (case k5 => k_asm); (case kXB => assumption); (case kTB => assumption); (case kD => assumption); (case kT0 => exact KtsTurn.refl); (case k6 => k_is); (case k7 => k_is); (case k8 => ktr_room); (case k9 => first | exact BindsTo.of_eq rfl | exact binds_K (by k_in) rfl (by k_is) rfl rfl rfl); (case c5 => decide); (case kB => exact locs rfl); (case c2 => exact rfl); (case c3 => exact rfl); (case c4 => exact rfl); k_whole; intro g' L' h' FG' F' N' B' X' T' D'; (try dsimp only); (try k_lift B'); (try k_fold))
  k_steps
  all_goals
    (refine' endP (Q := Q) (s := s) hret ?e0 ?e1 ?e2 ?e3 ?e4 ?e5 ?e6 ?e7 ?e8 ?e9; (case e2 => k_asm); (case e3 => k_asm); (case e1 => first | assumption | exact KtsTurn.refl); (case e4 => assumption); (case e5 => assumption); (case e6 => assumption); (case e7 => assumption); (case e8 => k_mem); (case e9 => (first | (intro p9 hp9; (repeat (first | (with_reducible exact hp9) | (with_reducible exact List.mem_append_left _ hp9) | (with_reducible exact List.mem_append_right _ hp9) | (with_reducible refine List.mem_cons_of_mem _ ?_))); done) | kcj_all)); (case e0 => rfl))

set_option maxHeartbeats 8000000 in
theorem mended_ok (w : World) (mean : ExcName → Option Value) (mg mb : Str → Option Value) (news : Led) (c : Int) (bo bn : Array UInt8) (ko kn : List Int) (t1 t2 t3 : Tok) (ho : KBw.bInts bo = ko) (hn : KBw.bInts bn = kn)
    (hlen : ko.length < 100) (hsame : kn.length = ko.length) (heven : ko.length % 2 = 0) (hc : c ≤ 65535) :
    SpecT w mean mg mb 144 10 128 news [.int c t1, .bytes bo t2, .bytes bn t3] (RPair (Str.ofString "") (mendF c ko kn)) := by
  k_with_none
  k_with "mine pyIter ref" => k_extra "my iter"
  k_with "mine exec For" => (k_extra "my for"; (rename Fr _ _ _ _ => lF'); (with_unfolding_all refine' For_invVF lF' ?k1 ?k2 ?_; (case k1 => exact rfl); (case k2 => exact rfl); k_whole))
  k_with "kmk nums" => first | with_reducible exact kmk_all (by l_ints) | (with_reducible refine kmk_from (by l_ints) ?_; first | assumption | omega) | (with_reducible refine kmk_upto (by l_ints) ?_; first | assumption | omega) | (with_reducible refine kmk_run (by l_ints) ?_ ?_ <;> first | assumption | omega)
  k_with "room" => exact roomA (by with_reducible assumption) rfl
  k_with "mine eval Name" => (k_here; k_dflt (refine' nameX_L ?F ?v ?_ ?a ?b; (case F => k_asm); (case a => exact rfl); (case b => exact Eq.refl (some _)); (case v => exact Eq.refl (some _)); k_whole))
  k_with "mine And" => ((with_reducible show Frag.In _ _ ∧ _); k_dflt (refine ⟨Frag.In.keeps (by k_asm) (Fr.keep (by k_asm)), ?_⟩))
  k_with "mine call ref" => (k_here; (with_reducible show wpAny _ _ (PySem.call (Value.ref 130) _ _) _ _ _); k_dflt (refine' Spec.use ?k1 ?k2 ?k3 ?k4 ?k5 ?kK (law_sum_spec _ _ _ _ _ _ _) ?kd ?ku (retI ?_); (case k1 => k_asm); (case k2 => k_asm); (case k3 => k_asm); (case k4 => k_asm); (case k5 => k_asm); (case kK => first | exact rfl | assumption); (case kd => first | ktr_room | fail "law_sum_spec: room"); (case ku => first | ktr_units | fail "law_sum_spec: units"); k_whole); intro t9q h9q tk9q F9q N9q; (try dsimp only); (try k_fold))
  k_with "mine call ref" => (k_here; (with_reducible show wpAny _ _ (PySem.call (Value.ref 58) _ _) _ _ _); k_dflt (refine' Spec.use ?k1 ?k2 ?k3 ?k4 ?k5 ?kK (folded_spec _ _ _ _ _ _ _ ?p1) ?kd ?ku (retI ?_); (case k1 => k_asm); (case k2 => k_asm); (case k3 => k_asm); (case k4 => k_asm); (case k5 => k_asm); (case kK => first | exact rfl | assumption); (case p1 => first | (first | omega | exact Int.add_nonneg (by omega) (Int.mul_nonneg (by omega) (by decide))) | fail "folded_spec: p1"); (case kd => first | ktr_room | fail "folded_spec: room"); (case ku => first | ktr_units | fail "folded_spec: units"); k_whole); intro t9q h9q tk9q F9q N9q; (try dsimp only); (try k_fold))
  k_with "mine call ref" => (k_here; (with_reducible show wpAny _ _ (PySem.call (Value.ref 81) _ _) _ _ _); k_dflt (refine' Spec.use ?k1 ?k2 ?k3 ?k4 ?k5 ?kK (mend_spec _ _ _ _ _ _ _ _ _ _ _ _ _ ?p1 ?p2 ?p3 ?p4 ?p5 ?p6) ?kd ?ku (retI ?_); (case k1 => k_asm); (case k2 => k_asm); (case k3 => k_asm); (case k4 => k_asm); (case k5 => k_asm); (case kK => first | exact rfl | assumption); (case p1 => first | assumption | fail "mend_spec: p1"); (case p2 => first | assumption | fail "mend_spec: p2"); (case p3 => first | (first | with_reducible assumption | (with_reducible refine take_lt ?_ _; with_reducible assumption) | (with_reducible refine dt_lt ?_ _ _; with_reducible assumption) | (with_reducible refine oct_lt ?_; with_reducible assumption) | (with_reducible refine map_lt ?_; with_reducible assumption) | assumption | omega | ((simp only [octF_len, List.length_append, List.length_cons, List.length_nil, List.length_map, List.length_take, List.length_drop]); omega)) | fail "mend_spec: p3"); (case p4 => first | (first | with_reducible assumption | (with_reducible refine take_lt ?_ _; with_reducible assumption) | (with_reducible refine dt_lt ?_ _ _; with_reducible assumption) | (with_reducible refine oct_lt ?_; with_reducible assumption) | (with_reducible refine map_lt ?_; with_reducible assumption) | assumption | omega | ((simp only [octF_len, List.length_append, List.length_cons, List.length_nil, List.length_map, List.length_take, List.length_drop]); omega)) | fail "mend_spec: p4"); (case p5 => first | (first | with_reducible assumption | (with_reducible refine take_lt ?_ _; with_reducible assumption) | (with_reducible refine dt_lt ?_ _ _; with_reducible assumption) | (with_reducible refine oct_lt ?_; with_reducible assumption) | (with_reducible refine map_lt ?_; with_reducible assumption) | assumption | omega | ((simp only [octF_len, List.length_append, List.length_cons, List.length_nil, List.length_map, List.length_take, List.length_drop]); omega)) | fail "mend_spec: p5"); (case p6 => first | (first | assumption | omega | exact mendF_le _ _ _) | fail "mend_spec: p6"); (case kd => first | ktr_room | fail "mend_spec: room"); (case ku => first | ktr_units | fail "mend_spec: units"); k_whole); intro t9q h9q tk9q F9q N9q; (try dsimp only); (try k_fold))
  k_with "mine exec Raise some none" => (k_here; k_dflt (refine' exc_Raise ?hx1 ?_; (case hx1 => exact rfl); k_whole))
  k_with "mine getAttr ref" => (k_here; (with_reducible rename getL _ _ = _ => hw9q); k_dflt (refine' exc_getN ?kF ?kX ?kN ?ke ?kd ?kc ?ko ?kn hw9q ?ka ?kg ?kv ?_; (case kF => k_asm); (case kN => k_asm); (case kX => k_asm); (case ke => k_mem); (case kd => k_mem); (case kc => assumption); (case ko => assumption); (case kn => assumption); (case ka => exact rfl); (case kg => exact rfl); (case kv => exact rfl); k_whole))
  k_with "mine call ref" => (k_here; (with_reducible show wpAny _ _ (PySem.call (Value.ref 81) _ _) _ _ _); k_dflt (refine' SpecE.use ?k1 ?k2 ?k3 ?k4 ?k5 ?kK (mend_bad _ _ _ _ _ _ _ _ _ _ _ _ _ ?p1 ?p2 ?p3 ?p4 ?p5) ?kd ?ku ?_; (case k1 => k_asm); (case k2 => k_asm); (case k3 => k_asm); (case k4 => k_asm); (case k5 => k_asm); (case kK => first | exact rfl | assumption); (case p1 => first | assumption | fail "mend_bad: p1"); (case p2 => first | assumption | fail "mend_bad: p2"); (case p3 => first | (first | with_reducible assumption | (with_reducible refine take_lt ?_ _; with_reducible assumption) | (with_reducible refine dt_lt ?_ _ _; with_reducible assumption) | (with_reducible refine oct_lt ?_; with_reducible assumption) | (with_reducible refine map_lt ?_; with_reducible assumption) | assumption | omega | ((simp only [octF_len, List.length_append, List.length_cons, List.length_nil, List.length_map, List.length_take, List.length_drop]); omega)) | fail "mend_bad: p3"); (case p4 => first | (first | with_reducible assumption | (with_reducible refine take_lt ?_ _; with_reducible assumption) | (with_reducible refine dt_lt ?_ _ _; with_reducible assumption) | (with_reducible refine oct_lt ?_; with_reducible assumption) | (with_reducible refine map_lt ?_; with_reducible assumption) | assumption | omega | ((simp only [octF_len, List.length_append, List.length_cons, List.length_nil, List.length_map, List.length_take, List.length_drop]); omega)) | fail "mend_bad: p4"); (case p5 => first | assumption | fail "mend_bad: p5"); (case kd => first | ktr_room | fail "mend_bad: room"); (case ku => first | ktr_units | fail "mend_bad: units"); k_whole); intro e9q dx9q es9q n9q tk9q G9q h9q tk9q F9q U9q R9q hw9q; (try dsimp only); (try k_fold))
  k_with "mine noteFrame ref" => (k_here; (rename RaisedM _ _ _ _ _ _ _ => rM9q); k_dflt (refine' caught_M ?R ?F ?K ?U ?XB ?TB ?D ?T0 ?ex ?_ ?c1 ?c2 ?c3 ?c4; (case c1 => exact rfl); (case c2 => exact rfl); (case c3 => exact rfl); (case c4 => decide); (case R => assumption); (case F => assumption); (case K => assumption); (case U => assumption); (case XB => assumption); (case TB => assumption); (case D => assumption); (case T0 => first | assumption | exact KtsTurn.refl); (case ex => k_is); k_whole); intro h' g' oe' tk' T' F' N' hoc9q hod9q hon9q K' X' P' D'; (try k_lift K'); (try k_sweep))
  unfold SpecT Tp; k_fill
  intro dp un gd cn cs a ccd cl outer A₀ base h₀ L m s Q E B F X N T XB TB D hk hd hu hret
  refine wpAny_call ?_
  k_dflt (refine' code_defT ?k1 ?k2 ?k3 ?k4 ?k5 ?kXB ?kTB ?kD ?kT0 ?kA ?kF ?kK ?k6 ?k7 ?k8 ?k9 ?kB ?_ ?c2 ?c3 ?c4 ?c5; (case kA => exact rfl); (case kF => exact rfl); (case kK => assumption); (case k1 => k_asm); (case k2 => k_asm); (case k3 => k_asm); (case k4 => k_asm); (case k5 => k_asm); (case kXB => assumption); (case kTB => assumption); (case kD => assumption); (case kT0 => exact KtsTurn.refl); (case k6 => k_is); (case k7 => k_is); (case k8 => ktr_room); (case k9 => first | exact BindsTo.of_eq rfl | exact binds_K (by k_in) rfl (by k_is) rfl rfl rfl); (case c5 => decide); (case kB => exact locs rfl); (case c2 => exact rfl); (case c3 => exact rfl); (case c4 => exact rfl); k_whole; intro g' L' h' FG' F' N' B' X' T' D'; (try dsimp only); (try k_lift B'); (try k_fold))
  k_steps
  all_goals
    (refine' endP (Q := Q) (s := s) hret ?e0 ?e1 ?e2 ?e3 ?e4 ?e5 ?e6 ?e7 ?e8 ?e9; (case e2 => k_asm); (case e3 => k_asm); (case e1 => first | assumption | exact KtsTurn.refl); (case e4 => assumption); (case e5 => assumption); (case e6 => assumption); (case e7 => assumption); (case e8 => k_mem); (case e9 => (first | (intro p9 hp9; (repeat (first | (with_reducible exact hp9) | (with_reducible exact List.mem_append_left _ hp9) | (with_reducible exact List.mem_append_right _ hp9) | (with_reducible refine List.mem_cons_of_mem _ ?_))); done) | kcj_all)); (case e0 => rfl))

end law_mended
section octets
theorem reset_octets : True := by (w_top off; k_with_none; exact trivial)
/- the octets of a number, the great end first -/
noncomputable def ocG (x sz : Int) : List Int := List.map (fun k' => Builtin.bitAnd (x.fdiv (2 ^ (8 * (sz - 1 - k')).toNat)) 255) (rangeKs 0 (sz - 0).toNat)
theorem and255 (x : Int) : Builtin.bitAnd x 255 = x % 256 := bitAnd_m8 x
theorem ocG_in (x sz : Int) : KBa.In (ocG x sz) := by
  intro n hn
  obtain ⟨k, _, rfl⟩ := List.mem_map.mp hn
  rw [and255]
  omega
theorem ch_bne0 {a : Int} (h : a = 0) : (a != 0) = false := by rw [h]; rfl
theorem ch_bne1 {a : Int} (h : a ≠ 0) : (a != 0) = true ↔ True := Iff.intro (fun _ => True.intro) (fun _ => bne_iff_ne.mpr h)
theorem sh_nn {sz k : Int} (_ : 0 ≤ k) (h : k < 0 + ((sz - 0).toNat : Int)) : 0 ≤ 8 * (sz - 1 - k) := by omega
theorem sh_nn0 {sz : Int} (h : 0 ≤ sz) : 0 ≤ 8 * sz := by omega
set_option maxHeartbeats 8000000 in
theorem octets_of_ok (w : World) (mean : ExcName → Option Value) (mg mb : Str → Option Value) (news : Led) (x sz : Int) (t1 t2 : Tok) (h0 : 0 ≤ x) (hs0 : 0 ≤ sz) (hsz : sz ≤ 16) (hz : x.fdiv (2 ^ (8 * sz).toNat) = 0) :
    Spec w mean mg mb 51 4 32 news [.int x t1, .int sz t2] (RBytes (ocG x sz)) := by
  k_with_none
  k_with "mine pyIter ref" => k_extra "my iter"
  k_with "mine exec For" => (k_extra "my for"; (rename Fr _ _ _ _ => lF'); (with_unfolding_all refine' For_invVF lF' ?k1 ?k2 ?_; (case k1 => exact rfl); (case k2 => exact rfl); k_whole))
  k_with "kmk nums" => first | with_reducible exact kmk_all (by l_ints) | (with_reducible refine kmk_from (by l_ints) ?_; first | assumption | omega) | (with_reducible refine kmk_upto (by l_ints) ?_; first | assumption | omega) | (with_reducible refine kmk_run (by l_ints) ?_ ?_ <;> first | assumption | omega)
  k_with "room" => exact roomA (by with_reducible assumption) rfl
  k_with "mine eval Name" => (k_here; k_dflt (refine' nameX_L ?F ?v ?_ ?a ?b; (case F => k_asm); (case a => exact rfl); (case b => exact Eq.refl (some _)); (case v => exact Eq.refl (some _)); k_whole))
  k_with "mine And" => ((with_reducible show Frag.In _ _ ∧ _); k_dflt (refine ⟨Frag.In.keeps (by k_asm) (Fr.keep (by k_asm)), ?_⟩))
  k_with "mine call ref" => (k_here; (with_reducible show wpAny _ _ (PySem.call (Value.ref 130) _ _) _ _ _); k_dflt (refine' Spec.use ?k1 ?k2 ?k3 ?k4 ?k5 ?kK (law_sum_spec _ _ _ _ _ _ _) ?kd ?ku (retI ?_); (case k1 => k_asm); (case k2 => k_asm); (case k3 => k_asm); (case k4 => k_asm); (case k5 => k_asm); (case kK => first | exact rfl | assumption); (case kd => first | ktr_room | fail "law_sum_spec: room"); (case ku => first | ktr_units | fail "law_sum_spec: units"); k_whole); intro t9q h9q tk9q F9q N9q; (try dsimp only); (try k_fold))
  k_with "mine call ref" => (k_here; (with_reducible show wpAny _ _ (PySem.call (Value.ref 58) _ _) _ _ _); k_dflt (refine' Spec.use ?k1 ?k2 ?k3 ?k4 ?k5 ?kK (folded_spec _ _ _ _ _ _ _ ?p1) ?kd ?ku (retI ?_); (case k1 => k_asm); (case k2 => k_asm); (case k3 => k_asm); (case k4 => k_asm); (case k5 => k_asm); (case kK => first | exact rfl | assumption); (case p1 => first | (first | omega | exact Int.add_nonneg (by omega) (Int.mul_nonneg (by omega) (by decide))) | fail "folded_spec: p1"); (case kd => first | ktr_room | fail "folded_spec: room"); (case ku => first | ktr_units | fail "folded_spec: units"); k_whole); intro t9q h9q tk9q F9q N9q; (try dsimp only); (try k_fold))
  k_with "mine call ref" => (k_here; (with_reducible show wpAny _ _ (PySem.call (Value.ref 44) _ _) _ _ _); k_dflt (refine' Spec.use ?k1 ?k2 ?k3 ?k4 ?k5 ?kK (mis_spec _ _ _ _ _ _ _) ?kd ?ku (retM ?_); (case k1 => k_asm); (case k2 => k_asm); (case k3 => k_asm); (case k4 => k_asm); (case k5 => k_asm); (case kK => first | exact rfl | assumption); (case kd => first | ktr_room | fail "mis_spec: room"); (case ku => first | ktr_units | fail "mis_spec: units"); k_whole); intro e9q t9q dx9q es9q n9q h9q tk9q hw9q hz9q F9q N9q; (try dsimp only); (try k_fold))
  k_with "mine exec Raise some none" => (k_here; k_dflt (refine' exc_Raise ?hx1 ?_; (case hx1 => exact rfl); k_whole))
  k_with "mine binaryOp RShift int int" => (k_here; with_reducible refine rshift_int (by first | exact sh_nn (by with_reducible assumption) (by with_reducible assumption) | exact sh_nn0 (by with_reducible assumption)) ?_)
  have hIn : KBa.In (List.map (fun k' => Builtin.bitAnd (x.fdiv (2 ^ (8 * (sz - 1 - k')).toNat)) 255) (rangeKs 0 (sz - 0).toNat)) := ocG_in x sz
  unfold Spec Tp; k_fill
  intro dp un gd cn cs a ccd cl outer A₀ base h₀ L m s Q E B F X N T hk hd hu hret
  refine wpAny_call ?_
  k_dflt (refine' code_defC ?k1 ?k2 ?k3 ?k4 ?k5 ?kA ?kF ?kK ?k6 ?k7 ?k8 ?k9 ?kB ?kD ?_ ?c2 ?c3 ?c4; (case kA => exact rfl); (case kF => exact rfl); (case kK => assumption); (case k1 => k_asm); (case k2 => k_asm); (case k3 => k_asm); (case k4 => k_asm); (case k5 => k_asm); (case k6 => k_is); (case k7 => k_is); (case k8 => ktr_room); (case k9 => first | exact BindsTo.of_eq rfl | exact binds_K (by k_in) rfl (by k_is) rfl rfl rfl); (case kB => exact rfl); (case kD => decide +kernel); (case c2 => exact rfl); (case c3 => exact rfl); (case c4 => exact rfl); k_whole; intro g' L' h' tk' cells' FG' F' N' Y' B' X' T' l1; (try k_lt l1); k_cells Y'; (try simp only [List.cons_append, List.nil_append] at N'); (try dsimp only); (try k_lift B'); (try k_fold))
  repeat' (first | (fail_if_success (with_reducible show wpAny _ _ (exec (PySem.Stmt.If ..) _) _ _ _)); first | (k_unfold; (try dsimp only)) | (k_end; wrow_close) | walk1 | (dsimp only; walk1) | (leave1; try dsimp only))
  k_dflt (refine' If_false ?iF ?iN ?ic ?ik; (case iF => k_asm); (case iN => k_asm))
  (case ic => (
    k_steps
    all_goals (with_reducible refine join_false ?_ (by assumption) (by assumption) (by (first | (intro p9 hp9; (repeat (first | (with_reducible exact hp9) | (with_reducible exact List.mem_append_left _ hp9) | (with_reducible exact List.mem_append_right _ hp9) | (with_reducible refine List.mem_cons_of_mem _ ?_))); done) | kcj_all)))
    all_goals first | exact rfl | exact absurd h0 (Int.not_le.mpr (by assumption)) | exact absurd hz (by assumption) | exact ch_bne0 hz))
  intro hJ tJ FJ NJ
  (try dsimp only)
  (try k_fold)
  k_steps
  all_goals
    (refine' endY (Q := Q) (s := s) hret ?e1 ?e2 ?e3 ?e4; (case e2 => k_asm); (case e3 => k_asm); (case e4 => (first | (intro p9 hp9; (repeat (first | (with_reducible exact hp9) | (with_reducible exact List.mem_append_left _ hp9) | (with_reducible exact List.mem_append_right _ hp9) | (with_reducible refine List.mem_cons_of_mem _ ?_))); done) | kcj_all)); (case e1 => exact KBa.ints_make (by assumption)))
set_option maxHeartbeats 8000000 in
theorem octets_of_bad (w : World) (mean : ExcName → Option Value) (mg mb : Str → Option Value) (news : Led) (x sz : Int) (t1 t2 : Tok) (hs0 : 0 ≤ sz) (hsz : sz ≤ 16) (hz : x < 0 ∨ x.fdiv (2 ^ (8 * sz).toNat) ≠ 0) :
    SpecE w mean mg mb 51 8 128 news [.int x t1, .int sz t2] (Str.ofString "the number does not fit its octets") := by
  k_with_none
  k_with "mine pyIter ref" => k_extra "my iter"
  k_with "mine exec For" => (k_extra "my for"; (rename Fr _ _ _ _ => lF'); (with_unfolding_all refine' For_invVF lF' ?k1 ?k2 ?_; (case k1 => exact rfl); (case k2 => exact rfl); k_whole))
  k_with "kmk nums" => first | with_reducible exact kmk_all (by l_ints) | (with_reducible refine kmk_from (by l_ints) ?_; first | assumption | omega) | (with_reducible refine kmk_upto (by l_ints) ?_; first | assumption | omega) | (with_reducible refine kmk_run (by l_ints) ?_ ?_ <;> first | assumption | omega)
  k_with "room" => exact roomA (by with_reducible assumption) rfl
  k_with "mine eval Name" => (k_here; k_dflt (refine' nameX_L ?F ?v ?_ ?a ?b; (case F => k_asm); (case a => exact rfl); (case b => exact Eq.refl (some _)); (case v => exact Eq.refl (some _)); k_whole))
  k_with "mine And" => ((with_reducible show Frag.In _ _ ∧ _); k_dflt (refine ⟨Frag.In.keeps (by k_asm) (Fr.keep (by k_asm)), ?_⟩))
  k_with "mine call ref" => (k_here; (with_reducible show wpAny _ _ (PySem.call (Value.ref 130) _ _) _ _ _); k_dflt (refine' Spec.use ?k1 ?k2 ?k3 ?k4 ?k5 ?kK (law_sum_spec _ _ _ _ _ _ _) ?kd ?ku (retI ?_); (case k1 => k_asm); (case k2 => k_asm); (case k3 => k_asm); (case k4 => k_asm); (case k5 => k_asm); (case kK => first | exact rfl | assumption); (case kd => first | ktr_room | fail "law_sum_spec: room"); (case ku => first | ktr_units | fail "law_sum_spec: units"); k_whole); intro t9q h9q tk9q F9q N9q; (try dsimp only); (try k_fold))
  k_with "mine call ref" => (k_here; (with_reducible show wpAny _ _ (PySem.call (Value.ref 58) _ _) _ _ _); k_dflt (refine' Spec.use ?k1 ?k2 ?k3 ?k4 ?k5 ?kK (folded_spec _ _ _ _ _ _ _ ?p1) ?kd ?ku (retI ?_); (case k1 => k_asm); (case k2 => k_asm); (case k3 => k_asm); (case k4 => k_asm); (case k5 => k_asm); (case kK => first | exact rfl | assumption); (case p1 => first | (first | omega | exact Int.add_nonneg (by omega) (Int.mul_nonneg (by omega) (by decide))) | fail "folded_spec: p1"); (case kd => first | ktr_room | fail "folded_spec: room"); (case ku => first | ktr_units | fail "folded_spec: units"); k_whole); intro t9q h9q tk9q F9q N9q; (try dsimp only); (try k_fold))
  k_with "mine call ref" => (k_here; (with_reducible show wpAny _ _ (PySem.call (Value.ref 44) _ _) _ _ _); k_dflt (refine' Spec.use ?k1 ?k2 ?k3 ?k4 ?k5 ?kK (mis_spec _ _ _ _ _ _ _) ?kd ?ku (retM ?_); (case k1 => k_asm); (case k2 => k_asm); (case k3 => k_asm); (case k4 => k_asm); (case k5 => k_asm); (case kK => first | exact rfl | assumption); (case kd => first | ktr_room | fail "mis_spec: room"); (case ku => first | ktr_units | fail "mis_spec: units"); k_whole); intro e9q t9q dx9q es9q n9q h9q tk9q hw9q hz9q F9q N9q; (try dsimp only); (try k_fold))
  k_with "mine exec Raise some none" => (k_here; k_dflt (refine' exc_Raise ?hx1 ?_; (case hx1 => exact rfl); k_whole))
  k_with "mine binaryOp RShift int int" => (k_here; with_reducible refine rshift_int (by first | exact sh_nn (by with_reducible assumption) (by with_reducible assumption) | exact sh_nn0 (by with_reducible assumption)) ?_)
  have hIn : KBa.In (List.map (fun k' => Builtin.bitAnd (x.fdiv (2 ^ (8 * (sz - 1 - k')).toNat)) 255) (rangeKs 0 (sz - 0).toNat)) := ocG_in x sz
  unfold SpecE Tp; k_fill
  intro dp un gd cn cs a ccd cl outer A₀ base h₀ L m s Q E B F X N T hk hd hu hret
  refine wpAny_call ?_
  k_dflt (refine' code_defC ?k1 ?k2 ?k3 ?k4 ?k5 ?kA ?kF ?kK ?k6 ?k7 ?k8 ?k9 ?kB ?kD ?_ ?c2 ?c3 ?c4; (case kA => exact rfl); (case kF => exact rfl); (case kK => assumption); (case k1 => k_asm); (case k2 => k_asm); (case k3 => k_asm); (case k4 => k_asm); (case k5 => k_asm); (case k6 => k_is); (case k7 => k_is); (case k8 => ktr_room); (case k9 => first | exact BindsTo.of_eq rfl | exact binds_K (by k_in) rfl (by k_is) rfl rfl rfl); (case kB => exact rfl); (case kD => decide +kernel); (case c2 => exact rfl); (case c3 => exact rfl); (case c4 => exact rfl); k_whole; intro g' L' h' tk' cells' FG' F' N' Y' B' X' T' l1; (try k_lt l1); k_cells Y'; (try simp only [List.cons_append, List.nil_append] at N'); (try dsimp only); (try k_lift B'); (try k_fold))
  repeat' (first | (fail_if_success (with_reducible show wpAny _ _ (exec (PySem.Stmt.If ..) _) _ _ _)); first | (k_unfold; (try dsimp only)) | (k_end; wrow_close) | walk1 | (dsimp only; walk1) | (leave1; try dsimp only))
  k_dflt (refine' If_dec (P := True) ?iF ?iN ?ic ?i1 ?i2; (case iF => k_asm); (case iN => k_asm))
  (case ic => (
    k_steps
    all_goals (refine join_dec ?_ (by assumption) (by assumption) (by (first | (intro p9 hp9; (repeat (first | (with_reducible exact hp9) | (with_reducible exact List.mem_append_left _ hp9) | (with_reducible exact List.mem_append_right _ hp9) | (with_reducible refine List.mem_cons_of_mem _ ?_))); done) | kcj_all)))
    all_goals first
      | exact Iff.intro (fun _ => True.intro) (fun _ => rfl)
      | (exfalso; rcases hz with hz | hz <;> first | exact absurd hz (by assumption) | exact hz (by assumption))
      | exact ch_bne1 (hz.resolve_left (by assumption))))
  (case i2 => exact fun h => absurd True.intro h)
  intro hP hJ tJ FJ NJ
  (try dsimp only)
  (try k_fold)
  k_steps
  all_goals
    (rename getL _ _ = _ => hw9; rename (∀ p ∈ (_ : Led), p.1 ≠ _) => hz9; rename Fr g' L' _ _ => F9; rename News g' L' _ _ => N9)
    with_unfolding_all refine' raises_leave ?rlK ?rlX ?rlF ?rlN hz9 ?rlQ ?rlE ?rlf ?rlk
    (case rlE => exact fun h => h)
    (case rlF => exact F9)
    (case rlN => exact N9)
    (case rlK => assumption)
    (case rlX => assumption)
    (case rlf => rfl)
    (case rlk => rfl)
    (case rlQ => (intro h₉ R₉ U₉; exact hret _ _ _ _ _ g' h₉ _ (by assumption) U₉ (R₉.sub (by (first | (intro p9 hp9; (repeat (first | (with_reducible exact hp9) | (with_reducible exact List.mem_append_left _ hp9) | (with_reducible exact List.mem_append_right _ hp9) | (with_reducible refine List.mem_cons_of_mem _ ?_))); done) | kcj_all))) hw9))

end octets
section pseudo
theorem reset_pseudo : True := by (w_top off; k_with_none; exact trivial)
noncomputable def Fit (x sz : Int) : Prop := 0 ≤ x ∧ x.fdiv (2 ^ (8 * sz).toNat) = 0
noncomputable def Unfit (x sz : Int) : Prop := x < 0 ∨ x.fdiv (2 ^ (8 * sz).toNat) ≠ 0
theorem fit_or (x sz : Int) : Fit x sz ∨ Unfit x sz := by
  unfold Fit Unfit
  by_cases h : x.fdiv (2 ^ (8 * sz).toNat) = 0
  · by_cases h0 : 0 ≤ x
    · exact .inl ⟨h0, h⟩
    · exact .inr (.inl (by omega))
  · exact .inr (.inr h)
theorem ocG_len (x sz : Int) : (ocG x sz).length = (sz - 0).toNat := by
  unfold ocG
  rw [List.length_map]
  exact rangeKs_length _ _
/- what a call of the text's def f gives back where P holds; where it does not, it raises Misused with the text txt -/
noncomputable abbrev SpecOE (w : World) (mean : ExcName → Option Value) (mg mb : Str → Option Value) (f : Addr) (dN uN : Nat) (news : Led) (vs : List Value) (P : Prop) (R : Value → Led → Prop) (txt : Str) : Prop :=
  ∀ (dp un : Nat) (gd : Option (List Code)) (cn : Str) (cs : Scope) (a : Addr) (ccd : Value) (cl : List (Str × Addr)) (outer : List Env) (A₀ : Around) (base h₀ : Heap) (L : Addr) (m : Str → Option Value) (s : Shared) (Q E : Value → Shared → Prop),
    Below A₀ base outer h₀ → Fr h₀ L s.heap m → (hd.heap_39 w.params).In h₀ → News h₀ L s.heap news → Tp mean mg mb h₀ → cs.kind = .function → dp + dN < recursionLimit → un + uN < cLine →
    (P → ∀ (v : Value) (tl : Led) (h' : Heap) (tk' : Nat), R v tl → Fr h₀ L h' m → News h₀ L h' (tl ++ news) → Q v { s with heap := h', toks := tk' }) →
    (¬ P → ∀ (e dx : Addr) (es : List DictEntry) (n : Nat) (tk₀ : Tok) (G h' : Heap) (tk' : Nat), Fr h₀ L G m → G.UpToSlots h' → RaisedM base G (envX cn cs L a ccd cl :: outer) e dx ((dx, dictOf es n) :: news) h' → getL (Str.ofString "why") es = some (some (.str txt tk₀)) →
      E (.ref e) { s with heap := h', toks := tk' }) →
    wpAny (model PySem.Challenge.rw_pf0325_01.row.prog w) (ktrTop dp un gd cn cs L a ccd cl outer) (call (.ref f) vs) Q E s
theorem SpecOE.use {w : World} {mean : ExcName → Option Value} {mg mb : Str → Option Value} {f : Addr} {dN uN : Nat} {news : Led} {vs : List Value} {P : Prop} {R : Value → Led → Prop} {txt : Str}
    {dp un : Nat} {gd : Option (List Code)} {cn : Str} {cs : Scope} {a : Addr} {ccd : Value} {cl : List (Str × Addr)} {outer : List Env} {A₀ : Around} {base h₀ : Heap} {L : Addr} {m : Str → Option Value} {s : Shared} {Q E : Value → Shared → Prop}
    (B : Below A₀ base outer h₀) (F : Fr h₀ L s.heap m) (X : (hd.heap_39 w.params).In h₀) (N : News h₀ L s.heap news) (T : Tp mean mg mb h₀) (hk : cs.kind = .function)
    (C : SpecOE w mean mg mb f dN uN news vs P R txt) (hd : dp + dN < recursionLimit) (hu : un + uN < cLine)
    (ret : P → ∀ (v : Value) (tl : Led) (h' : Heap) (tk' : Nat), R v tl → Fr h₀ L h' m → News h₀ L h' (tl ++ news) → Q v { s with heap := h', toks := tk' })
    (bad : ¬ P → ∀ (e dx : Addr) (es : List DictEntry) (n : Nat) (tk₀ : Tok) (G h' : Heap) (tk' : Nat), Fr h₀ L G m → G.UpToSlots h' → RaisedM base G (envX cn cs L a ccd cl :: outer) e dx ((dx, dictOf es n) :: news) h' → getL (Str.ofString "why") es = some (some (.str txt tk₀)) →
      E (.ref e) { s with heap := h', toks := tk' }) :
    wpAny (model PySem.Challenge.rw_pf0325_01.row.prog w) (ktrTop dp un gd cn cs L a ccd cl outer) (call (.ref f) vs) Q E s :=
  C dp un gd cn cs a ccd cl outer A₀ base h₀ L m s Q E B F X N T hk hd hu ret bad
theorem SpecOE.ok {w : World} {mean : ExcName → Option Value} {mg mb : Str → Option Value} {f : Addr} {dN uN : Nat} {news : Led} {vs : List Value} {P : Prop} {R : Value → Led → Prop} {txt : Str} (C : SpecOE w mean mg mb f dN uN news vs P R txt) (p : P) : Spec w mean mg mb f dN uN news vs R :=
  fun dp un gd cn cs a ccd cl outer A₀ base h₀ L m s Q E B F X N T hk hd hu ret => C dp un gd cn cs a ccd cl outer A₀ base h₀ L m s Q E B F X N T hk hd hu (fun _ => ret) (fun h => absurd p h)
theorem SpecOE.bad {w : World} {mean : ExcName → Option Value} {mg mb : Str → Option Value} {f : Addr} {dN uN : Nat} {news : Led} {vs : List Value} {P : Prop} {R : Value → Led → Prop} {txt : Str} (C : SpecOE w mean mg mb f dN uN news vs P R txt) (p : ¬ P) : SpecE w mean mg mb f dN uN news vs txt :=
  fun dp un gd cn cs a ccd cl outer A₀ base h₀ L m s Q E B F X N T hk hd hu bad => C dp un gd cn cs a ccd cl outer A₀ base h₀ L m s Q E B F X N T hk hd hu (fun h => absurd h p) (fun _ => bad)
theorem octets_OE (w : World) (mean : ExcName → Option Value) (mg mb : Str → Option Value) (news : Led) (x sz : Int) (t1 t2 : Tok) (hs0 : 0 ≤ sz) (hsz : sz ≤ 16) :
    SpecOE w mean mg mb 51 8 128 news [.int x t1, .int sz t2] (Fit x sz) (RBytes (ocG x sz)) (Str.ofString "the number does not fit its octets") := by
  intro dp un gd cn cs a ccd cl outer A₀ base h₀ L m s Q E B F X N T hk hd hu ret bad
  by_cases h : Fit x sz
  · exact octets_of_ok w mean mg mb news x sz t1 t2 h.1 hs0 hsz h.2 dp un gd cn cs a ccd cl outer A₀ base h₀ L m s Q E B F X N T hk (Nat.lt_of_le_of_lt (Nat.add_le_add_left (by decide) _) hd) (Nat.lt_of_le_of_lt (Nat.add_le_add_left (by decide) _) hu) (ret h)
  · exact octets_of_bad w mean mg mb news x sz t1 t2 hs0 hsz ((fit_or x sz).resolve_left h) dp un gd cn cs a ccd cl outer A₀ base h₀ L m s Q E B F X N T hk hd hu (bad h)
set_option maxHeartbeats 8000000 in
theorem pseudo4_OE (w : World) (mean : ExcName → Option Value) (mg mb : Str → Option Value) (news : Led) (x y z u : Int) (t1 t2 t3 t4 : Tok) :
    SpecOE w mean mg mb 88 12 256 news [.int x t1, .int y t2, .int z t3, .int u t4] (Fit x 4 ∧ Fit y 4 ∧ Fit z 2 ∧ Fit u 2) (RInt (sumF (wsum (ocG x 4 ++ ocG y 4 ++ ocG z 2 ++ ocG u 2)))) (Str.ofString "the number does not fit its octets") := by
  k_with_none
  k_with "mine pyIter ref" => k_extra "my iter"
  k_with "mine exec For" => (k_extra "my for"; (rename Fr _ _ _ _ => lF'); (with_unfolding_all refine' For_invVF lF' ?k1 ?k2 ?_; (case k1 => exact rfl); (case k2 => exact rfl); k_whole))
  k_with "kmk nums" => first | with_reducible exact kmk_all (by l_ints) | (with_reducible refine kmk_from (by l_ints) ?_; first | assumption | omega) | (with_reducible refine kmk_upto (by l_ints) ?_; first | assumption | omega) | (with_reducible refine kmk_run (by l_ints) ?_ ?_ <;> first | assumption | omega)
  k_with "room" => exact roomA (by with_reducible assumption) rfl
  k_with "mine eval Name" => (k_here; k_dflt (refine' nameX_L ?F ?v ?_ ?a ?b; (case F => k_asm); (case a => exact rfl); (case b => exact Eq.refl (some _)); (case v => exact Eq.refl (some _)); k_whole))
  k_with "mine And" => ((with_reducible show Frag.In _ _ ∧ _); k_dflt (refine ⟨Frag.In.keeps (by k_asm) (Fr.keep (by k_asm)), ?_⟩))
  k_with "mine call ref" => (k_here; (with_reducible show wpAny _ _ (PySem.call (Value.ref 130) _ _) _ _ _); k_dflt (refine' Spec.use ?k1 ?k2 ?k3 ?k4 ?k5 ?kK (law_sum_spec _ _ _ _ _ _ _) ?kd ?ku (retI ?_); (case k1 => k_asm); (case k2 => k_asm); (case k3 => k_asm); (case k4 => k_asm); (case k5 => k_asm); (case kK => first | exact rfl | assumption); (case kd => first | ktr_room | fail "law_sum_spec: room"); (case ku => first | ktr_units | fail "law_sum_spec: units"); k_whole); intro t9q h9q tk9q F9q N9q; (try dsimp only); (try k_fold))
  k_with "mine call ref" => (k_here; (with_reducible show wpAny _ _ (PySem.call (Value.ref 58) _ _) _ _ _); k_dflt (refine' Spec.use ?k1 ?k2 ?k3 ?k4 ?k5 ?kK (folded_spec _ _ _ _ _ _ _ ?p1) ?kd ?ku (retI ?_); (case k1 => k_asm); (case k2 => k_asm); (case k3 => k_asm); (case k4 => k_asm); (case k5 => k_asm); (case kK => first | exact rfl | assumption); (case p1 => first | (first | omega | exact Int.add_nonneg (by omega) (Int.mul_nonneg (by omega) (by decide))) | fail "folded_spec: p1"); (case kd => first | ktr_room | fail "folded_spec: room"); (case ku => first | ktr_units | fail "folded_spec: units"); k_whole); intro t9q h9q tk9q F9q N9q; (try dsimp only); (try k_fold))
  k_with "mine call ref" => (k_here; (with_reducible show wpAny _ _ (PySem.call (Value.ref 66) _ _) _ _ _); k_dflt (refine' Spec.use ?k1 ?k2 ?k3 ?k4 ?k5 ?kK (sum16_spec _ _ _ _ _ _ _ _ _ _ ?p1 ?p2 ?p3) ?kd ?ku (retI ?_); (case k1 => k_asm); (case k2 => k_asm); (case k3 => k_asm); (case k4 => k_asm); (case k5 => k_asm); (case kK => first | exact rfl | assumption); (case p1 => first | assumption | fail "sum16_spec: p1"); (case p2 => first | (first | with_reducible assumption | (with_reducible refine take_lt ?_ _; with_reducible assumption) | (with_reducible refine dt_lt ?_ _ _; with_reducible assumption) | (with_reducible refine oct_lt ?_; with_reducible assumption) | (with_reducible refine map_lt ?_; with_reducible assumption) | assumption | omega | ((simp only [octF_len, List.length_append, List.length_cons, List.length_nil, List.length_map, List.length_take, List.length_drop]); omega)) | fail "sum16_spec: p2"); (case p3 => first | (first | assumption | exact sumF_nonneg _ | omega) | fail "sum16_spec: p3"); (case kd => first | ktr_room | fail "sum16_spec: room"); (case ku => first | ktr_units | fail "sum16_spec: units"); k_whole); intro t9q h9q tk9q F9q N9q; (try dsimp only); (try k_fold))
  k_with "mine call ref" => (k_here; (with_reducible show wpAny _ _ (PySem.call (Value.ref 66) _ _) _ _ _); k_dflt (refine' Spec.use ?k1 ?k2 ?k3 ?k4 ?k5 ?kK (sum16_spec1 _ _ _ _ _ _ _ _ ?p1 ?p2) ?kd ?ku (retI ?_); (case k1 => k_asm); (case k2 => k_asm); (case k3 => k_asm); (case k4 => k_asm); (case k5 => k_asm); (case kK => first | exact rfl | assumption); (case p1 => first | assumption | fail "sum16_spec1: p1"); (case p2 => first | (first | with_reducible assumption | (with_reducible refine take_lt ?_ _; with_reducible assumption) | (with_reducible refine dt_lt ?_ _ _; with_reducible assumption) | (with_reducible refine oct_lt ?_; with_reducible assumption) | (with_reducible refine map_lt ?_; with_reducible assumption) | assumption | omega | ((simp only [octF_len, List.length_append, List.length_cons, List.length_nil, List.length_map, List.length_take, List.length_drop]); omega)) | fail "sum16_spec1: p2"); (case kd => first | ktr_room | fail "sum16_spec1: room"); (case ku => first | ktr_units | fail "sum16_spec1: units"); k_whole); intro t9q h9q tk9q F9q N9q; (try dsimp only); (try k_fold))
  k_with "mine call ref" => (k_here; (with_reducible show wpAny _ _ (PySem.call (Value.ref 74) _ _) _ _ _); k_dflt (refine' Spec.use ?k1 ?k2 ?k3 ?k4 ?k5 ?kK (check_of_spec _ _ _ _ _ _ _ _ _ _ ?p1 ?p2 ?p3) ?kd ?ku (retI ?_); (case k1 => k_asm); (case k2 => k_asm); (case k3 => k_asm); (case k4 => k_asm); (case k5 => k_asm); (case kK => first | exact rfl | assumption); (case p1 => first | assumption | fail "check_of_spec: p1"); (case p2 => first | (first | with_reducible assumption | (with_reducible refine take_lt ?_ _; with_reducible assumption) | (with_reducible refine dt_lt ?_ _ _; with_reducible assumption) | (with_reducible refine oct_lt ?_; with_reducible assumption) | (with_reducible refine map_lt ?_; with_reducible assumption) | assumption | omega | ((simp only [octF_len, List.length_append, List.length_cons, List.length_nil, List.length_map, List.length_take, List.length_drop]); omega)) | fail "check_of_spec: p2"); (case p3 => first | (first | assumption | exact sumF_nonneg _ | omega) | fail "check_of_spec: p3"); (case kd => first | ktr_room | fail "check_of_spec: room"); (case ku => first | ktr_units | fail "check_of_spec: units"); k_whole); intro t9q h9q tk9q F9q N9q; (try dsimp only); (try k_fold))
  k_with "mine call ref" => (k_here; (with_reducible show wpAny _ _ (PySem.call (Value.ref 74) _ _) _ _ _); k_dflt (refine' Spec.use ?k1 ?k2 ?k3 ?k4 ?k5 ?kK (check_of_spec1 _ _ _ _ _ _ _ _ ?p1 ?p2) ?kd ?ku (retI ?_); (case k1 => k_asm); (case k2 => k_asm); (case k3 => k_asm); (case k4 => k_asm); (case k5 => k_asm); (case kK => first | exact rfl | assumption); (case p1 => first | assumption | fail "check_of_spec1: p1"); (case p2 => first | (first | with_reducible assumption | (with_reducible refine take_lt ?_ _; with_reducible assumption) | (with_reducible refine dt_lt ?_ _ _; with_reducible assumption) | (with_reducible refine oct_lt ?_; with_reducible assumption) | (with_reducible refine map_lt ?_; with_reducible assumption) | assumption | omega | ((simp only [octF_len, List.length_append, List.length_cons, List.length_nil, List.length_map, List.length_take, List.length_drop]); omega)) | fail "check_of_spec1: p2"); (case kd => first | ktr_room | fail "check_of_spec1: room"); (case ku => first | ktr_units | fail "check_of_spec1: units"); k_whole); intro t9q h9q tk9q F9q N9q; (try dsimp only); (try k_fold))
  k_with "mine call ref" => (k_here; (with_reducible show wpAny _ _ (PySem.call (Value.ref 44) _ _) _ _ _); k_dflt (refine' Spec.use ?k1 ?k2 ?k3 ?k4 ?k5 ?kK (mis_spec _ _ _ _ _ _ _) ?kd ?ku (retM ?_); (case k1 => k_asm); (case k2 => k_asm); (case k3 => k_asm); (case k4 => k_asm); (case k5 => k_asm); (case kK => first | exact rfl | assumption); (case kd => first | ktr_room | fail "mis_spec: room"); (case ku => first | ktr_units | fail "mis_spec: units"); k_whole); intro e9q t9q dx9q es9q n9q h9q tk9q hw9q hz9q F9q N9q; (try dsimp only); (try k_fold))
  k_with "mine exec Raise some none" => (k_here; k_dflt (refine' exc_Raise ?hx1 ?_; (case hx1 => exact rfl); k_whole))
  k_with "mine call ref" => (k_here; (with_reducible show wpAny _ _ (PySem.call (Value.ref 51) _ _) _ _ _); k_dflt (refine' SpecOE.use ?k1 ?k2 ?k3 ?k4 ?k5 ?kK (octets_OE _ _ _ _ _ _ _ _ _ ?p1 ?p2) ?kd ?ku ?_ ?_; (case k1 => k_asm); (case k2 => k_asm); (case k3 => k_asm); (case k4 => k_asm); (case k5 => k_asm); (case kK => first | exact rfl | assumption); (case p1 => decide); (case p2 => decide); (case kd => first | ktr_room | fail "octets: room"); (case ku => first | ktr_units | fail "octets: units")); rotate_left; (intro hf9q e9q dx9q es9q n9q tz9q G9q h9q tk9q F9q U9q R9q hw9q; (try dsimp only); (try k_fold)); rotate_right; intro hf9q; refine retY ?_; intro b9q t9q h9q tk9q hb9q F9q N9q; (try dsimp only); (try k_fold))
  have lx : (ocG x 4).length = 4 := ocG_len x 4
  have ly : (ocG y 4).length = 4 := ocG_len y 4
  have lz : (ocG z 2).length = 2 := ocG_len z 2
  have lu : (ocG u 2).length = 2 := ocG_len u 2
  unfold SpecOE Tp; k_fill
  intro dp un gd cn cs a ccd cl outer A₀ base h₀ L m s Q E B F X N T hk hd hu hret hbad
  refine wpAny_call ?_
  k_dflt (refine' code_def ?k1 ?k2 ?k3 ?k4 ?k5 ?kA ?kF ?kK ?k6 ?k7 ?k8 ?k9 ?kB ?_ ?c2 ?c3 ?c4 ?c5; (case kA => exact rfl); (case kF => exact rfl); (case kK => assumption); (case k1 => k_asm); (case k2 => k_asm); (case k3 => k_asm); (case k4 => k_asm); (case k5 => k_asm); (case k6 => k_is); (case k7 => k_is); (case k8 => ktr_room); (case k9 => first | exact BindsTo.of_eq rfl | exact binds_K (by k_in) rfl (by k_is) rfl rfl rfl); (case c5 => decide); (case kB => exact locs rfl); (case c2 => exact rfl); (case c3 => exact rfl); (case c4 => exact rfl); k_whole; intro g' L' h' FG' F' N' B' X' T'; (try dsimp only); (try k_lift B'); (try k_fold))
  k_steps
  all_goals first
    | (refine' endI (Q := Q) (s := s) (hret ⟨by assumption, by assumption, by assumption, by assumption⟩) ?e1 ?e2 ?e3 ?e4; (case e2 => k_asm); (case e3 => k_asm); (case e4 => (first | (intro p9 hp9; (repeat (first | (with_reducible exact hp9) | (with_reducible exact List.mem_append_left _ hp9) | (with_reducible exact List.mem_append_right _ hp9) | (with_reducible refine List.mem_cons_of_mem _ ?_))); done) | kcj_all)); (case e1 => first | rfl | assumption))
    | ((rename getL _ _ = _ => hw9; rename RaisedM _ _ _ _ _ _ _ => R9; rename Heap.UpToSlots _ _ => U9; rename Fr g' L' _ _ => F9; rename ¬ Fit _ _ => hn9)
       with_unfolding_all refine' leave_onM ?loK F9 R9 U9 ?loQ ?lof
       (case loK => assumption)
       (case lof => rfl)
       (case loQ => (intro h₉ R₉ U₉; exact hbad (fun p => by first | exact hn9 p.1 | exact hn9 p.2.1 | exact hn9 p.2.2.1 | exact hn9 p.2.2.2) _ _ _ _ _ g' h₉ _ (by assumption) U₉ (R₉.sub (by (first | (intro p9 hp9; (repeat (first | (with_reducible exact hp9) | (with_reducible exact List.mem_append_left _ hp9) | (with_reducible exact List.mem_append_right _ hp9) | (with_reducible refine List.mem_cons_of_mem _ ?_))); done) | kcj_all))) hw9)))
set_option maxHeartbeats 8000000 in
theorem pseudo6_OE (w : World) (mean : ExcName → Option Value) (mg mb : Str → Option Value) (news : Led) (x y z u : Int) (t1 t2 t3 t4 : Tok) :
    SpecOE w mean mg mb 95 12 256 news [.int x t1, .int y t2, .int z t3, .int u t4] (Fit x 16 ∧ Fit y 16 ∧ Fit z 4 ∧ Fit u 4) (RInt (sumF (wsum (ocG x 16 ++ ocG y 16 ++ ocG u 4 ++ ocG z 4)))) (Str.ofString "the number does not fit its octets") := by
  k_with_none
  k_with "mine pyIter ref" => k_extra "my iter"
  k_with "mine exec For" => (k_extra "my for"; (rename Fr _ _ _ _ => lF'); (with_unfolding_all refine' For_invVF lF' ?k1 ?k2 ?_; (case k1 => exact rfl); (case k2 => exact rfl); k_whole))
  k_with "kmk nums" => first | with_reducible exact kmk_all (by l_ints) | (with_reducible refine kmk_from (by l_ints) ?_; first | assumption | omega) | (with_reducible refine kmk_upto (by l_ints) ?_; first | assumption | omega) | (with_reducible refine kmk_run (by l_ints) ?_ ?_ <;> first | assumption | omega)
  k_with "room" => exact roomA (by with_reducible assumption) rfl
  k_with "mine eval Name" => (k_here; k_dflt (refine' nameX_L ?F ?v ?_ ?a ?b; (case F => k_asm); (case a => exact rfl); (case b => exact Eq.refl (some _)); (case v => exact Eq.refl (some _)); k_whole))
  k_with "mine And" => ((with_reducible show Frag.In _ _ ∧ _); k_dflt (refine ⟨Frag.In.keeps (by k_asm) (Fr.keep (by k_asm)), ?_⟩))
  k_with "mine call ref" => (k_here; (with_reducible show wpAny _ _ (PySem.call (Value.ref 130) _ _) _ _ _); k_dflt (refine' Spec.use ?k1 ?k2 ?k3 ?k4 ?k5 ?kK (law_sum_spec _ _ _ _ _ _ _) ?kd ?ku (retI ?_); (case k1 => k_asm); (case k2 => k_asm); (case k3 => k_asm); (case k4 => k_asm); (case k5 => k_asm); (case kK => first | exact rfl | assumption); (case kd => first | ktr_room | fail "law_sum_spec: room"); (case ku => first | ktr_units | fail "law_sum_spec: units"); k_whole); intro t9q h9q tk9q F9q N9q; (try dsimp only); (try k_fold))
  k_with "mine call ref" => (k_here; (with_reducible show wpAny _ _ (PySem.call (Value.ref 58) _ _) _ _ _); k_dflt (refine' Spec.use ?k1 ?k2 ?k3 ?k4 ?k5 ?kK (folded_spec _ _ _ _ _ _ _ ?p1) ?kd ?ku (retI ?_); (case k1 => k_asm); (case k2 => k_asm); (case k3 => k_asm); (case k4 => k_asm); (case k5 => k_asm); (case kK => first | exact rfl | assumption); (case p1 => first | (first | omega | exact Int.add_nonneg (by omega) (Int.mul_nonneg (by omega) (by decide))) | fail "folded_spec: p1"); (case kd => first | ktr_room | fail "folded_spec: room"); (case ku => first | ktr_units | fail "folded_spec: units"); k_whole); intro t9q h9q tk9q F9q N9q; (try dsimp only); (try k_fold))
  k_with "mine call ref" => (k_here; (with_reducible show wpAny _ _ (PySem.call (Value.ref 66) _ _) _ _ _); k_dflt (refine' Spec.use ?k1 ?k2 ?k3 ?k4 ?k5 ?kK (sum16_spec _ _ _ _ _ _ _ _ _ _ ?p1 ?p2 ?p3) ?kd ?ku (retI ?_); (case k1 => k_asm); (case k2 => k_asm); (case k3 => k_asm); (case k4 => k_asm); (case k5 => k_asm); (case kK => first | exact rfl | assumption); (case p1 => first | assumption | fail "sum16_spec: p1"); (case p2 => first | (first | with_reducible assumption | (with_reducible refine take_lt ?_ _; with_reducible assumption) | (with_reducible refine dt_lt ?_ _ _; with_reducible assumption) | (with_reducible refine oct_lt ?_; with_reducible assumption) | (with_reducible refine map_lt ?_; with_reducible assumption) | assumption | omega | ((simp only [octF_len, List.length_append, List.length_cons, List.length_nil, List.length_map, List.length_take, List.length_drop]); omega)) | fail "sum16_spec: p2"); (case p3 => first | (first | assumption | exact sumF_nonneg _ | omega) | fail "sum16_spec: p3"); (case kd => first | ktr_room | fail "sum16_spec: room"); (case ku => first | ktr_units | fail "sum16_spec: units"); k_whole); intro t9q h9q tk9q F9q N9q; (try dsimp only); (try k_fold))
  k_with "mine call ref" => (k_here; (with_reducible show wpAny _ _ (PySem.call (Value.ref 66) _ _) _ _ _); k_dflt (refine' Spec.use ?k1 ?k2 ?k3 ?k4 ?k5 ?kK (sum16_spec1 _ _ _ _ _ _ _ _ ?p1 ?p2) ?kd ?ku (retI ?_); (case k1 => k_asm); (case k2 => k_asm); (case k3 => k_asm); (case k4 => k_asm); (case k5 => k_asm); (case kK => first | exact rfl | assumption); (case p1 => first | assumption | fail "sum16_spec1: p1"); (case p2 => first | (first | with_reducible assumption | (with_reducible refine take_lt ?_ _; with_reducible assumption) | (with_reducible refine dt_lt ?_ _ _; with_reducible assumption) | (with_reducible refine oct_lt ?_; with_reducible assumption) | (with_reducible refine map_lt ?_; with_reducible assumption) | assumption | omega | ((simp only [octF_len, List.length_append, List.length_cons, List.length_nil, List.length_map, List.length_take, List.length_drop]); omega)) | fail "sum16_spec1: p2"); (case kd => first | ktr_room | fail "sum16_spec1: room"); (case ku => first | ktr_units | fail "sum16_spec1: units"); k_whole); intro t9q h9q tk9q F9q N9q; (try dsimp only); (try k_fold))
  k_with "mine call ref" => (k_here; (with_reducible show wpAny _ _ (PySem.call (Value.ref 74) _ _) _ _ _); k_dflt (refine' Spec.use ?k1 ?k2 ?k3 ?k4 ?k5 ?kK (check_of_spec _ _ _ _ _ _ _ _ _ _ ?p1 ?p2 ?p3) ?kd ?ku (retI ?_); (case k1 => k_asm); (case k2 => k_asm); (case k3 => k_asm); (case k4 => k_asm); (case k5 => k_asm); (case kK => first | exact rfl | assumption); (case p1 => first | assumption | fail "check_of_spec: p1"); (case p2 => first | (first | with_reducible assumption | (with_reducible refine take_lt ?_ _; with_reducible assumption) | (with_reducible refine dt_lt ?_ _ _; with_reducible assumption) | (with_reducible refine oct_lt ?_; with_reducible assumption) | (with_reducible refine map_lt ?_; with_reducible assumption) | assumption | omega | ((simp only [octF_len, List.length_append, List.length_cons, List.length_nil, List.length_map, List.length_take, List.length_drop]); omega)) | fail "check_of_spec: p2"); (case p3 => first | (first | assumption | exact sumF_nonneg _ | omega) | fail "check_of_spec: p3"); (case kd => first | ktr_room | fail "check_of_spec: room"); (case ku => first | ktr_units | fail "check_of_spec: units"); k_whole); intro t9q h9q tk9q F9q N9q; (try dsimp only); (try k_fold))
  k_with "mine call ref" => (k_here; (with_reducible show wpAny _ _ (PySem.call (Value.ref 74) _ _) _ _ _); k_dflt (refine' Spec.use ?k1 ?k2 ?k3 ?k4 ?k5 ?kK (check_of_spec1 _ _ _ _ _ _ _ _ ?p1 ?p2) ?kd ?ku (retI ?_); (case k1 => k_asm); (case k2 => k_asm); (case k3 => k_asm); (case k4 => k_asm); (case k5 => k_asm); (case kK => first | exact rfl | assumption); (case p1 => first | assumption | fail "check_of_spec1: p1"); (case p2 => first | (first | with_reducible assumption | (with_reducible refine take_lt ?_ _; with_reducible assumption) | (with_reducible refine dt_lt ?_ _ _; with_reducible assumption) | (with_reducible refine oct_lt ?_; with_reducible assumption) | (with_reducible refine map_lt ?_; with_reducible assumption) | assumption | omega | ((simp only [octF_len, List.length_append, List.length_cons, List.length_nil, List.length_map, List.length_take, List.length_drop]); omega)) | fail "check_of_spec1: p2"); (case kd => first | ktr_room | fail "check_of_spec1: room"); (case ku => first | ktr_units | fail "check_of_spec1: units"); k_whole); intro t9q h9q tk9q F9q N9q; (try dsimp only); (try k_fold))
  k_with "mine call ref" => (k_here; (with_reducible show wpAny _ _ (PySem.call (Value.ref 44) _ _) _ _ _); k_dflt (refine' Spec.use ?k1 ?k2 ?k3 ?k4 ?k5 ?kK (mis_spec _ _ _ _ _ _ _) ?kd ?ku (retM ?_); (case k1 => k_asm); (case k2 => k_asm); (case k3 => k_asm); (case k4 => k_asm); (case k5 => k_asm); (case kK => first | exact rfl | assumption); (case kd => first | ktr_room | fail "mis_spec: room"); (case ku => first | ktr_units | fail "mis_spec: units"); k_whole); intro e9q t9q dx9q es9q n9q h9q tk9q hw9q hz9q F9q N9q; (try dsimp only); (try k_fold))
  k_with "mine exec Raise some none" => (k_here; k_dflt (refine' exc_Raise ?hx1 ?_; (case hx1 => exact rfl); k_whole))
  k_with "mine call ref" => (k_here; (with_reducible show wpAny _ _ (PySem.call (Value.ref 51) _ _) _ _ _); k_dflt (refine' SpecOE.use ?k1 ?k2 ?k3 ?k4 ?k5 ?kK (octets_OE _ _ _ _ _ _ _ _ _ ?p1 ?p2) ?kd ?ku ?_ ?_; (case k1 => k_asm); (case k2 => k_asm); (case k3 => k_asm); (case k4 => k_asm); (case k5 => k_asm); (case kK => first | exact rfl | assumption); (case p1 => decide); (case p2 => decide); (case kd => first | ktr_room | fail "octets: room"); (case ku => first | ktr_units | fail "octets: units")); rotate_left; (intro hf9q e9q dx9q es9q n9q tz9q G9q h9q tk9q F9q U9q R9q hw9q; (try dsimp only); (try k_fold)); rotate_right; intro hf9q; refine retY ?_; intro b9q t9q h9q tk9q hb9q F9q N9q; (try dsimp only); (try k_fold))
  have lx : (ocG x 16).length = 16 := ocG_len x 16
  have ly : (ocG y 16).length = 16 := ocG_len y 16
  have lz : (ocG z 4).length = 4 := ocG_len z 4
  have lu : (ocG u 4).length = 4 := ocG_len u 4
  unfold SpecOE Tp; k_fill
  intro dp un gd cn cs a ccd cl outer A₀ base h₀ L m s Q E B F X N T hk hd hu hret hbad
  refine wpAny_call ?_
  k_dflt (refine' code_def ?k1 ?k2 ?k3 ?k4 ?k5 ?kA ?kF ?kK ?k6 ?k7 ?k8 ?k9 ?kB ?_ ?c2 ?c3 ?c4 ?c5; (case kA => exact rfl); (case kF => exact rfl); (case kK => assumption); (case k1 => k_asm); (case k2 => k_asm); (case k3 => k_asm); (case k4 => k_asm); (case k5 => k_asm); (case k6 => k_is); (case k7 => k_is); (case k8 => ktr_room); (case k9 => first | exact BindsTo.of_eq rfl | exact binds_K (by k_in) rfl (by k_is) rfl rfl rfl); (case c5 => decide); (case kB => exact locs rfl); (case c2 => exact rfl); (case c3 => exact rfl); (case c4 => exact rfl); k_whole; intro g' L' h' FG' F' N' B' X' T'; (try dsimp only); (try k_lift B'); (try k_fold))
  k_steps
  all_goals first
    | (refine' endI (Q := Q) (s := s) (hret ⟨by assumption, by assumption, by assumption, by assumption⟩) ?e1 ?e2 ?e3 ?e4; (case e2 => k_asm); (case e3 => k_asm); (case e4 => (first | (intro p9 hp9; (repeat (first | (with_reducible exact hp9) | (with_reducible exact List.mem_append_left _ hp9) | (with_reducible exact List.mem_append_right _ hp9) | (with_reducible refine List.mem_cons_of_mem _ ?_))); done) | kcj_all)); (case e1 => first | rfl | assumption))
    | ((rename getL _ _ = _ => hw9; rename RaisedM _ _ _ _ _ _ _ => R9; rename Heap.UpToSlots _ _ => U9; rename Fr g' L' _ _ => F9; rename ¬ Fit _ _ => hn9)
       with_unfolding_all refine' leave_onM ?loK F9 R9 U9 ?loQ ?lof
       (case loK => assumption)
       (case lof => rfl)
       (case loQ => (intro h₉ R₉ U₉; exact hbad (fun p => by first | exact hn9 p.1 | exact hn9 p.2.1 | exact hn9 p.2.2.1 | exact hn9 p.2.2.2) _ _ _ _ _ g' h₉ _ (by assumption) U₉ (R₉.sub (by (first | (intro p9 hp9; (repeat (first | (with_reducible exact hp9) | (with_reducible exact List.mem_append_left _ hp9) | (with_reducible exact List.mem_append_right _ hp9) | (with_reducible refine List.mem_cons_of_mem _ ?_))); done) | kcj_all))) hw9)))

end pseudo
section arith4
/-! the octets of a number -/
noncomputable def ocN (x : Int) : Nat → List Int
  | 0 => []
  | n + 1 => ocN (x / 256) n ++ [x % 256]
noncomputable def wdN (x : Int) : Nat → List Int
  | 0 => []
  | n + 1 => wdN (x / 65536) n ++ [x % 65536]
theorem ocN_map (n : Nat) : ∀ x : Int, (List.range n).map (fun p : Nat => x / 256 ^ (n - 1 - p) % 256) = ocN x n := by
  induction n with
  | zero => intro x; rfl
  | succ n ih =>
    intro x
    rw [List.range_succ, List.map_append]
    show _ = ocN (x / 256) n ++ [x % 256]
    rw [← ih (x / 256)]
    congr 1
    · apply List.map_congr_left
      intro p hp
      have hp' := List.mem_range.mp hp
      rw [show n + 1 - 1 - p = (n - 1 - p) + 1 from (Nat.sub_add_cancel (Nat.sub_pos_of_lt hp')).symm.trans (congrArg (· + 1) (Nat.sub_right_comm n p 1)), Int.pow_succ, Int.mul_comm, ← Int.ediv_ediv_of_nonneg (by decide)]
    · simp
theorem oct_hi (x : Int) : (x % 65536).fdiv 256 = x / 256 % 256 := by
  rw [fd256]
  have hx := Int.mul_ediv_add_emod x 65536
  have h0 := Int.emod_nonneg x (show (65536 : Int) ≠ 0 by decide)
  have h1 := Int.emod_lt_of_pos x (show (0 : Int) < 65536 by decide)
  generalize x % 65536 = r at *
  generalize x / 65536 = q at *
  rw [← hx, show 65536 * q + r = r + 256 * (256 * q) by rw [← Int.mul_assoc]; exact Int.add_comm _ _, Int.add_mul_ediv_left _ _ (by decide), Int.add_mul_emod_self_left, Int.emod_eq_of_lt (Int.ediv_nonneg h0 (by decide)) (Int.ediv_lt_of_lt_mul (by decide) h1)]
theorem oct_lo (x : Int) : (x % 65536).fmod 256 = x % 256 := by rw [fm256]; exact Int.emod_emod_of_dvd x (by decide)
theorem ocN_octF (k : Nat) : ∀ x : Int, ocN x (2 * k) = octF (wdN x k) := by
  induction k with
  | zero => intro x; rfl
  | succ k ih =>
    intro x
    show ocN x (2 * k + 1 + 1) = octF (wdN (x / 65536) k ++ [x % 65536])
    rw [octF_app, ← ih]
    show (ocN (x / 256 / 256) (2 * k) ++ [x / 256 % 256]) ++ [x % 256] = _ ++ [(x % 65536).fdiv 256, (x % 65536).fmod 256]
    rw [List.append_assoc, oct_hi, oct_lo, Int.ediv_ediv_of_nonneg (by decide)]
    rfl
theorem wdN_W16 (k : Nat) : ∀ x : Int, W16 (wdN x k) := by
  induction k with
  | zero => intro x; exact .nil
  | succ k ih => intro x; exact (ih _).app (.one (Int.emod_nonneg x (by decide)) (Int.emod_lt_of_pos x (by decide)))
theorem wdN_sum (k : Nat) : ∀ x : Int, 0 ≤ x → x < 65536 ^ k → (∃ j, x = (wdN x k).sum + 65535 * j) ∧ ((wdN x k).sum = 0 ↔ x = 0) := by
  induction k with
  | zero =>
    intro x h0 h1
    have : x = 0 := Int.le_antisymm (Int.le_of_lt_add_one h1) h0
    subst this
    exact ⟨⟨0, rfl⟩, Iff.rfl⟩
  | succ k ih =>
    intro x h0 h1
    have hq : x / 65536 < 65536 ^ k := by
      rw [Int.pow_succ] at h1
      exact Int.ediv_lt_of_lt_mul (by decide) h1
    clear h1
    have hx : x = 65536 * (x / 65536) + x % 65536 := (Int.mul_ediv_add_emod x 65536).symm
    have hq0 : 0 ≤ x / 65536 := Int.ediv_nonneg h0 (by decide)
    have hr0 : 0 ≤ x % 65536 := Int.emod_nonneg x (by decide)
    obtain ⟨⟨j, hj⟩, hz⟩ := ih (x / 65536) hq0 hq
    have hs := (wdN_W16 k (x / 65536)).sum_nonneg
    show (∃ j, x = ((wdN (x / 65536) k ++ [x % 65536]).sum) + 65535 * j) ∧ ((wdN (x / 65536) k ++ [x % 65536]).sum = 0 ↔ _)
    rw [List.sum_append]
    simp only [List.sum_cons, List.sum_nil, Int.add_zero]
    clear hq ih h0
    generalize (wdN (x / 65536) k).sum = S at *
    generalize x / 65536 = q at *
    generalize x % 65536 = r at *
    rw [hx]
    exact ⟨⟨j + q, by clear hz hs hq0 hr0 hx; omega⟩, add_zero hs hr0 (Int.mul_nonneg (by decide) hq0) hr0 (hz.trans ⟨fun e => by rw [e]; rfl, fun e => (Int.mul_eq_zero.mp e).resolve_left (by decide)⟩) Iff.rfl⟩
theorem rangeKs_eq (n : Nat) : ∀ a : Int, rangeKs a n = (List.range n).map fun p : Nat => a + (p : Int) := by
  induction n with
  | zero => intro a; rfl
  | succ n ih =>
    intro a
    rw [kll_cons, ih, List.range_succ_eq_map, List.map_cons, List.map_map]
    congr 1
    · simp
    · apply List.map_congr_left
      intro p _
      show a + 1 + (p : Int) = a + ((p : Int) + 1)
      rw [Int.add_assoc, Int.add_comm 1]
theorem ocG_ocN (x : Int) (n : Nat) : ocG x n = ocN x n := by
  unfold ocG
  rw [← ocN_map, Int.sub_zero, Int.toNat_natCast, rangeKs_eq, List.map_map]
  apply List.map_congr_left
  intro p hp
  obtain ⟨d, rfl⟩ := Nat.exists_eq_add_of_lt (List.mem_range.mp hp)
  show Builtin.bitAnd (x.fdiv (2 ^ (8 * (((p + d + 1 : Nat) : Int) - 1 - (0 + (p : Int)))).toNat)) 255 = _
  rw [show ((p + d + 1 : Nat) : Int) - 1 - (0 + (p : Int)) = d by clear hp; omega, show p + d + 1 - 1 - p = d from Nat.add_sub_cancel_left p d, show (8 * (d : Int)).toNat = 8 * d from rfl, and255, Int.fdiv_eq_ediv_of_nonneg _ (Int.le_of_lt (Int.pow_pos (by decide))), Int.pow_mul]
  rfl
theorem fit_lt {x : Int} {n : Nat} (h : x.fdiv (2 ^ (8 * (n : Int)).toNat) = 0) : x < 256 ^ n := by
  have hp : (0 : Int) < 2 ^ (8 * (n : Int)).toNat := Int.pow_pos (by decide)
  rw [Int.fdiv_eq_ediv_of_nonneg _ (Int.le_of_lt hp)] at h
  have e : (2 : Int) ^ (8 * (n : Int)).toNat = 256 ^ n := by
    rw [show (8 * (n : Int)).toNat = 8 * n from rfl, Int.pow_mul]
    rfl
  rw [e] at h hp
  have := Int.lt_ediv_add_one_mul_self x hp
  rw [h] at this
  simpa using this

end arith4
section arith5
theorem fit_sum {x : Int} (k : Nat) (h : Fit x ((2 * k : Nat) : Int)) : ocG x ((2 * k : Nat) : Int) = octF (wdN x k) ∧ (∃ j, x = (wdN x k).sum + 65535 * j) ∧ ((wdN x k).sum = 0 ↔ x = 0) ∧ 0 ≤ (wdN x k).sum := by
  have h1 := fit_lt h.2
  rw [Int.pow_mul] at h1
  have h2 := wdN_sum k x h.1 h1
  exact ⟨(ocG_ocN x (2 * k)).trans (ocN_octF k x), h2.1, h2.2, (wdN_W16 k x).sum_nonneg⟩
theorem two_k {x y a b j k : Int} (hx : x = a + 65535 * j) (hy : y = b + 65535 * k) : x + y = a + b + 65535 * (j + k) := by
  rw [hx, hy, Int.mul_add, Int.add_assoc, Int.add_assoc, Int.add_left_comm (65535 * j)]
theorem four_sum {x y z u : Int} {k1 k2 k3 k4 : Nat} (hx : Fit x ((2 * k1 : Nat) : Int)) (hy : Fit y ((2 * k2 : Nat) : Int)) (hz : Fit z ((2 * k3 : Nat) : Int)) (hu : Fit u ((2 * k4 : Nat) : Int)) :
    sumF (wsum (ocG x ((2 * k1 : Nat) : Int) ++ ocG y ((2 * k2 : Nat) : Int) ++ ocG z ((2 * k3 : Nat) : Int) ++ ocG u ((2 * k4 : Nat) : Int))) = sumF (x + y + z + u) := by
  obtain ⟨ex, ⟨jx, mx⟩, zx, nx⟩ := fit_sum k1 hx
  obtain ⟨ey, ⟨jy, my⟩, zy, ny⟩ := fit_sum k2 hy
  obtain ⟨ez, ⟨jz, mz⟩, zz, nz⟩ := fit_sum k3 hz
  obtain ⟨eu, ⟨ju, mu⟩, zu, nu⟩ := fit_sum k4 hu
  rw [ex, ey, ez, eu, ← octF_app, ← octF_app, ← octF_app, wsum_octF, List.sum_append, List.sum_append, List.sum_append]
  have p1 := Int.add_nonneg nx ny
  have p2 := Int.add_nonneg p1 nz
  have q1 := Int.add_nonneg hx.1 hy.1
  have q2 := Int.add_nonneg q1 hz.1
  have z2 := add_zero p2 nu q2 hu.1 (add_zero p1 nz q1 hz.1 (add_zero nx ny hx.1 hy.1 zx zy) zz) zu
  refine sumF_eqz (k := jx + jy + jz + ju) (Int.add_nonneg p2 nu) (Int.add_nonneg q2 hu.1) (two_k (two_k (two_k mx my) mz) mu) z2
theorem pseudo4_sum {x y z u : Int} (hx : Fit x 4) (hy : Fit y 4) (hz : Fit z 2) (hu : Fit u 2) : sumF (wsum (ocG x 4 ++ ocG y 4 ++ ocG z 2 ++ ocG u 2)) = sumF (x + y + z + u) :=
  four_sum (k1 := 2) (k2 := 2) (k3 := 1) (k4 := 1) hx hy hz hu
theorem pseudo6_sum {x y z u : Int} (hx : Fit x 16) (hy : Fit y 16) (hz : Fit z 4) (hu : Fit u 4) : sumF (wsum (ocG x 16 ++ ocG y 16 ++ ocG u 4 ++ ocG z 4)) = sumF (x + y + z + u) := by
  refine (four_sum (k1 := 8) (k2 := 8) (k3 := 2) (k4 := 2) hx hy hu hz).trans ?_
  rw [Int.add_right_comm (x + y) u z]
/- a number fits when it lies in its range -/
theorem fit_iff {x : Int} (n : Nat) : Fit x (n : Int) ↔ 0 ≤ x ∧ x < 256 ^ n := by
  constructor
  · intro h
    exact ⟨h.1, fit_lt h.2⟩
  · intro h
    refine ⟨h.1, ?_⟩
    have e : (2 : Int) ^ (8 * (n : Int)).toNat = 256 ^ n := by
      rw [show (8 * (n : Int)).toNat = 8 * n from rfl, Int.pow_mul]
      rfl
    rw [e, Int.fdiv_eq_ediv_of_nonneg _ (Int.le_of_lt (Int.pow_pos (by decide)))]
    exact Int.ediv_eq_zero_of_lt h.1 h.2
theorem fit4 {x : Int} : Fit x 4 ↔ 0 ≤ x ∧ x < 2 ^ 32 := fit_iff 4
theorem fit2 {x : Int} : Fit x 2 ↔ 0 ≤ x ∧ x < 2 ^ 16 := fit_iff 2
theorem fit16 {x : Int} : Fit x 16 ↔ 0 ≤ x ∧ x < 2 ^ 128 := fit_iff 16

end arith5
section law_refT
/- the same contract form, for a def that is handed the script's list too -/
noncomputable abbrev SpecTS (w : World) (mean : ExcName → Option Value) (mg mb : Str → Option Value) (ls : Addr) (vss : List Value) (f : Addr) (dN uN : Nat) (news : Led) (vs : List Value) (R : Value → Led → Prop) : Prop :=
  ∀ (dp un : Nat) (gd : Option (List Code)) (cn : Str) (cs : Scope) (a : Addr) (ccd : Value) (cl : List (Str × Addr)) (outer : List Env) (A₀ : Around) (base h₀ : Heap) (L : Addr) (m : Str → Option Value) (s : Shared) (Q E : Value → Shared → Prop),
    Below A₀ base outer h₀ → Fr h₀ L s.heap m → (hd.heap_39 w.params).In h₀ → News h₀ L s.heap news → Tp mean mg mb h₀ → (hd.heap_39 w.params).In base → Tp mean mg mb base → KtsDicts (outer.filterMap (·.frame)) h₀ → base.IsList ls vss.toArray →
    cs.kind = .function → dp + dN < recursionLimit → un + uN < cLine →
    (∀ (v : Value) (tl : Led) (h' : Heap) (tk' : Nat) (h₀' : Heap), R v tl → KtsTurn (outer.filterMap (·.frame)) h₀ h₀' → Fr h₀' L h' m → News h₀' L h' (tl ++ news) → Below A₀ base outer h₀' → (hd.heap_39 w.params).In h₀' → Tp mean mg mb h₀' → KtsDicts (outer.filterMap (·.frame)) h₀' →
      Q v { s with heap := h', toks := tk' }) →
    wpAny (model PySem.Challenge.rw_pf0325_01.row.prog w) (ktrTop dp un gd cn cs L a ccd cl outer) (call (.ref f) vs) Q E s
theorem SpecT.use {w : World} {mean : ExcName → Option Value} {mg mb : Str → Option Value} {f : Addr} {dN uN : Nat} {news : Led} {vs : List Value} {R : Value → Led → Prop}
    {dp un : Nat} {gd : Option (List Code)} {cn : Str} {cs : Scope} {a : Addr} {ccd : Value} {cl : List (Str × Addr)} {outer : List Env} {A₀ : Around} {base h₀ : Heap} {L : Addr} {m : Str → Option Value} {s : Shared} {Q E : Value → Shared → Prop}
    (B : Below A₀ base outer h₀) (F : Fr h₀ L s.heap m) (X : (hd.heap_39 w.params).In h₀) (N : News h₀ L s.heap news) (T : Tp mean mg mb h₀) (XB : (hd.heap_39 w.params).In base) (TB : Tp mean mg mb base) (D : KtsDicts (outer.filterMap (·.frame)) h₀) (hk : cs.kind = .function)
    (C : SpecT w mean mg mb f dN uN news vs R) (hd1 : dp + dN < recursionLimit) (hu1 : un + uN < cLine)
    (ret : ∀ (v : Value) (tl : Led) (h' : Heap) (tk' : Nat) (h₀' : Heap), R v tl → KtsTurn (outer.filterMap (·.frame)) h₀ h₀' → Fr h₀' L h' m → News h₀' L h' (tl ++ news) → Below A₀ base outer h₀' → (hd.heap_39 w.params).In h₀' → Tp mean mg mb h₀' → KtsDicts (outer.filterMap (·.frame)) h₀' →
      Q v { s with heap := h', toks := tk' }) :
    wpAny (model PySem.Challenge.rw_pf0325_01.row.prog w) (ktrTop dp un gd cn cs L a ccd cl outer) (call (.ref f) vs) Q E s :=
  C dp un gd cn cs a ccd cl outer A₀ base h₀ L m s Q E B F X N T XB TB D hk hd1 hu1 ret
theorem SpecTS.use {w : World} {mean : ExcName → Option Value} {mg mb : Str → Option Value} {ls : Addr} {vss : List Value} {f : Addr} {dN uN : Nat} {news : Led} {vs : List Value} {R : Value → Led → Prop}
    {dp un : Nat} {gd : Option (List Code)} {cn : Str} {cs : Scope} {a : Addr} {ccd : Value} {cl : List (Str × Addr)} {outer : List Env} {A₀ : Around} {base h₀ : Heap} {L : Addr} {m : Str → Option Value} {s : Shared} {Q E : Value → Shared → Prop}
    (B : Below A₀ base outer h₀) (F : Fr h₀ L s.heap m) (X : (hd.heap_39 w.params).In h₀) (N : News h₀ L s.heap news) (T : Tp mean mg mb h₀) (XB : (hd.heap_39 w.params).In base) (TB : Tp mean mg mb base) (D : KtsDicts (outer.filterMap (·.frame)) h₀) (hS : base.IsList ls vss.toArray) (hk : cs.kind = .function)
    (C : SpecTS w mean mg mb ls vss f dN uN news vs R) (hd1 : dp + dN < recursionLimit) (hu1 : un + uN < cLine)
    (ret : ∀ (v : Value) (tl : Led) (h' : Heap) (tk' : Nat) (h₀' : Heap), R v tl → KtsTurn (outer.filterMap (·.frame)) h₀ h₀' → Fr h₀' L h' m → News h₀' L h' (tl ++ news) → Below A₀ base outer h₀' → (hd.heap_39 w.params).In h₀' → Tp mean mg mb h₀' → KtsDicts (outer.filterMap (·.frame)) h₀' →
      Q v { s with heap := h', toks := tk' }) :
    wpAny (model PySem.Challenge.rw_pf0325_01.row.prog w) (ktrTop dp un gd cn cs L a ccd cl outer) (call (.ref f) vs) Q E s :=
  C dp un gd cn cs a ccd cl outer A₀ base h₀ L m s Q E B F X N T XB TB D hS hk hd1 hu1 ret
theorem retTP {w : World} {mean : ExcName → Option Value} {mg mb : Str → Option Value} {txt : Str} {x : Int} {outer : List Env} {A₀ : Around} {base h₀ : Heap} {L : Addr} {m : Str → Option Value} {s : Shared} {Q : Value → Shared → Prop} {news : Led}
    (k : ∀ (a : Addr) (t1 t2 : Tok) (h' : Heap) (tk' : Nat) (h₀' : Heap), KtsTurn (outer.filterMap (·.frame)) h₀ h₀' → Fr h₀' L h' m → News h₀' L h' ((a, ({ cls := .type "tuple", data := .seq #[.str txt t1, .int x t2] } : Obj)) :: news) →
      Below A₀ base outer h₀' → (hd.heap_39 w.params).In h₀' → Tp mean mg mb h₀' → KtsDicts (outer.filterMap (·.frame)) h₀' → Q (.ref a) { s with heap := h', toks := tk' }) :
    ∀ (v : Value) (tl : Led) (h' : Heap) (tk' : Nat) (h₀' : Heap), RPair txt x v tl → KtsTurn (outer.filterMap (·.frame)) h₀ h₀' → Fr h₀' L h' m → News h₀' L h' (tl ++ news) → Below A₀ base outer h₀' → (hd.heap_39 w.params).In h₀' → Tp mean mg mb h₀' → KtsDicts (outer.filterMap (·.frame)) h₀' →
      Q v { s with heap := h', toks := tk' } := by
  rintro v tl h' tk' h₀' ⟨a, t1, t2, rfl, rfl⟩ T F N B X P D; exact k a t1 t2 h' tk' h₀' T F N B X P D
theorem endBT {w : World} {mean : ExcName → Option Value} {mg mb : Str → Option Value} {x y : Bool} {outer : List Env} {A₀ : Around} {base h₀ h₀' h' : Heap} {L : Addr} {m : Str → Option Value} {s : Shared} {Q : Value → Shared → Prop} {news news' : Led} {tk' : Nat}
    (hret : ∀ (v : Value) (tl : Led) (h' : Heap) (tk' : Nat) (h₀' : Heap), RBool x v tl → KtsTurn (outer.filterMap (·.frame)) h₀ h₀' → Fr h₀' L h' m → News h₀' L h' (tl ++ news) → Below A₀ base outer h₀' → (hd.heap_39 w.params).In h₀' → Tp mean mg mb h₀' → KtsDicts (outer.filterMap (·.frame)) h₀' →
      Q v { s with heap := h', toks := tk' })
    (e : y = x) (T : KtsTurn (outer.filterMap (·.frame)) h₀ h₀') (F : Fr h₀' L h' m) (N : News h₀' L h' news') (B : Below A₀ base outer h₀') (X : (hd.heap_39 w.params).In h₀') (P : Tp mean mg mb h₀') (D : KtsDicts (outer.filterMap (·.frame)) h₀')
    (hs : ∀ p ∈ news, p ∈ news') : Q (.bool y) { s with heap := h', toks := tk' } := by
  subst e
  exact hret _ [] h' tk' h₀' ⟨rfl, rfl⟩ T F (fun p hp => N p (hs p hp)) B X P D

end law_refT
section law_refusals
theorem reset_law_refusals : True := by (w_top off; k_with_none; exact trivial)
theorem cell_all0 {L : Nat} {news : Led} (l : ∀ p ∈ news, p.1 < L) : ∀ p ∈ news, p.1 ≠ L + 1 := fun p hp => Nat.ne_of_lt (Nat.lt_succ_of_lt (l p hp))
theorem cell_all {L : Nat} {news : Led} {o : Obj} (l : ∀ p ∈ news, p.1 < L) : ∀ p ∈ ((L + 1, o) :: news : Led), p.1 ≠ L + 1 + 1 := fun p hp => by
  rcases List.mem_cons.mp hp with rfl | hp
  · exact Nat.ne_of_lt (Nat.lt_succ_self _)
  · exact Nat.ne_of_lt (Nat.lt_succ_of_lt (Nat.lt_succ_of_lt (l p hp)))
local macro_rules | `(tactic| k_all) => `(tactic| k_extra "all")
theorem octets_len {b : Array UInt8} {ns : List Int} (_ : KBw.bInts b = octF ns) : (octF ns).length = 2 * ns.length := octF_len ns
/- the two cut halves: where their lengths are one even number they are the octets of words -/
theorem ref_one {W : List Int} {P : Int} (hW : W.length = 4) (hP : 0 ≤ P ∧ P < 8) : ((octF W).take (clipAt (octF W).length P)).length = P.toNat ∧ P.toNat < 8 ∧ ∀ q, P.toNat = 2 * q → (octF W).take (clipAt (octF W).length P) = octF (W.take q) := by
  have e1 : (octF W).length = 8 := by rw [octF_len, hW]
  have c1 : clipAt (octF W).length P = P.toNat := clip_at hP.1 (by rw [e1]; exact Int.le_of_lt hP.2)
  have l : P.toNat < 8 := (Int.toNat_lt hP.1).mpr hP.2
  rw [c1]
  refine ⟨by rw [List.length_take, e1]; exact Nat.min_eq_left (Nat.le_of_lt l), l, fun q h => ?_⟩
  rw [h, octF_take]
theorem ref_cut {W W' : List Int} {P P' : Int} (hW : W.length = 4) (hW' : W'.length = 4) (hP : 0 ≤ P ∧ P < 8) (hP' : 0 ≤ P' ∧ P' < 8) :
    ((octF W).take (clipAt (octF W).length P)).length < 8 ∧ ((octF W').take (clipAt (octF W').length P')).length < 8 ∧
      (((octF W').take (clipAt (octF W').length P')).length = ((octF W).take (clipAt (octF W).length P)).length → ((octF W).take (clipAt (octF W).length P)).length % 2 = 0 →
        ∃ q : Nat, q < 4 ∧ (octF W).take (clipAt (octF W).length P) = octF (W.take q) ∧ (octF W').take (clipAt (octF W').length P') = octF (W'.take q)) := by
  obtain ⟨a1, a2, a3⟩ := ref_one hW hP
  obtain ⟨b1, b2, b3⟩ := ref_one hW' hP'
  rw [a1, b1]
  refine ⟨a2, b2, fun h1 h2 => ?_⟩
  obtain ⟨q, hq⟩ : ∃ q : Nat, P.toNat = 2 * q := ⟨P.toNat / 2, (Nat.mul_div_cancel' (Nat.dvd_of_mod_eq_zero h2)).symm⟩
  exact ⟨q, Nat.lt_of_mul_lt_mul_left (a := 2) (hq ▸ a2), a3 q hq, b3 q (h1.trans hq)⟩
theorem ref_q {W : List Int} {q : Nat} (hW : W.length = 4) (hq : q < 4) : (W.take q).length = q ∧ (octF (W.take q)).length = 2 * q ∧ (((octF (W.take q)).length : Nat) : Int).fdiv 2 = (q : Int) ∧ (octF (W.take q)).length < 100 ∧ (octF (W.take q)).length % 2 = 0 := by
  have l1 : (W.take q).length = q := by rw [List.length_take, hW]; exact Nat.min_eq_left (Nat.le_of_lt hq)
  rw [octF_len, l1]
  refine ⟨rfl, rfl, ?_, Nat.lt_of_lt_of_le (Nat.mul_lt_mul_of_pos_left hq (by decide)) (by decide), Nat.mul_mod_right 2 q⟩
  rw [Int.fdiv_eq_ediv_of_nonneg _ (by decide)]
  show ((2 * q / 2 : Nat) : Int) = q
  rw [(half_even q).1]
theorem map_lt {f : Int → Int} {q : Nat} (h : q < 4) : (List.map f (rangeKs 0 ((q : Int) - 0).toNat)).length < 40 := by
  rw [List.length_map, rangeKs_eq, List.length_map, List.length_range, Int.sub_zero, Int.toNat_natCast]; exact Nat.lt_trans h (by decide)
theorem dec_1 {a b : Nat} (h : (a : Int) ≠ (b : Int)) : true = true ↔ ¬ (b = a ∧ a % 2 = 0) := ⟨fun _ p => h (by rw [p.1]), fun _ => rfl⟩
theorem dec_2 {a b : Nat} (h : ([1, 3, 5, 7].any fun x : Int => x == (a : Int)) = true) : true = true ↔ ¬ (b = a ∧ a % 2 = 0) := by
  simp only [List.any_cons, List.any_nil, Bool.or_false, Bool.or_eq_true, beq_iff_eq] at h
  refine ⟨fun _ p => ?_, fun _ => rfl⟩
  rcases h with h | h | h | h <;> exact absurd p.2 (by rw [← Int.ofNat_inj.mp h]; decide)
theorem dec_8 : ∀ a : Nat, a < 8 → ([1, 3, 5, 7].any fun x : Int => x == (a : Int)) = false → a % 2 = 0 := by decide
theorem dec_3 {a b : Nat} (h8 : a < 8) (e : (a : Int) = (b : Int)) (h : ([1, 3, 5, 7].any fun x : Int => x == (a : Int)) = false) : false = true ↔ ¬ (b = a ∧ a % 2 = 0) :=
  Iff.intro (fun h => by cases h) (fun p => absurd ⟨(Int.ofNat_inj.mp e).symm, dec_8 a h8 h⟩ p)
theorem words_back {W : List Int} {q : Nat} (hr : W16 W) (hq : W.length = q) : (rangeKs 0 ((q : Int) - 0).toNat).map (fun k' => if 0 ≤ (octF W).getD (2 * k').toNat 0 ∧ (octF W).getD (2 * k').toNat 0 < 256 ∧ 0 ≤ (octF W).getD (2 * k' + 1).toNat 0 ∧ (octF W).getD (2 * k' + 1).toNat 0 < 256 then 256 * (octF W).getD (2 * k').toNat 0 + (octF W).getD (2 * k' + 1).toNat 0 else k') = W := by
  subst hq
  rw [Int.sub_zero, Int.toNat_natCast, rangeKs_eq, List.map_map]
  apply List.ext_getElem
  · rw [List.length_map, List.length_range]
  · intro i h1 h2
    rw [List.getElem_map, List.getElem_range]
    dsimp only [Function.comp]
    have h16 := sum_le16 hr i
    rw [show (2 * (0 + (i : Int))).toNat = 2 * i by rw [Int.zero_add]; rfl, show (2 * (0 + (i : Int)) + 1).toNat = 2 * i + 1 by rw [Int.zero_add]; rfl, (octF_getD W i h2).1, (octF_getD W i h2).2, fd256, fm256,
      if_pos ⟨Int.ediv_nonneg h16.1 (by decide), Int.ediv_lt_of_lt_mul (by decide) h16.2, Int.emod_nonneg _ (by decide), Int.emod_lt_of_pos _ (by decide)⟩, Int.mul_ediv_add_emod, List.getD_eq_getElem?_getD, List.getElem?_eq_getElem h2]
    rfl
theorem ref_end {c : Int} {W W' : List Int} {q : Nat} (hc : 0 ≤ c ∧ c < 65536) (h1 : W16 W) (h2 : W16 W') (l1 : W.length = q) (l2 : W'.length = q) {G G' : List Int} (hG : G = W) (hG' : G' = W') : (mendF c (octF W) (octF W') == lmendF c G G') = true := by
  subst hG; subst hG'
  rw [mend_l h1 h2 (by omega) (by omega)]
  exact beq_self_eq_true _
theorem sub_sz {n q : Nat} (hl : n = 2 * q) (hq : q < 4) : n ≤ 1099511627776 := by omega
theorem sub_lo {k : Int} (h : 0 ≤ k) : 0 ≤ 2 * k := by omega
theorem sub_lo1 {k : Int} (h : 0 ≤ k) : 0 ≤ 2 * k + 1 := by omega
theorem sub_hi {n q : Nat} {k : Int} (hl : n = 2 * q) (h : k < 0 + (((q : Int) - 0).toNat : Int)) : 2 * k < (n : Int) := by omega
theorem sub_hi1 {n q : Nat} {k : Int} (hl : n = 2 * q) (h : k < 0 + (((q : Int) - 0).toNat : Int)) : 2 * k + 1 < (n : Int) := by omega
set_option maxHeartbeats 8000000 in
theorem law_refusals_spec (w : World) (mean : ExcName → Option Value) (mg mb : Str → Option Value) (news : Led) (ls : Addr) (vss : List Value) (sc : List Int) (hsc : IntsAre vss sc) (hscl : sc.length < 100) :
    SpecTS w mean mg mb ls vss 163 16 256 news [.ref ls] (RBool true) := by
  k_with_none
  k_with "mine pyIter ref" => k_extra "my iter"
  k_with "mine exec For" => (k_extra "my for"; (rename Fr _ _ _ _ => lF'); (with_unfolding_all refine' For_invVF lF' ?k1 ?k2 ?_; (case k1 => exact rfl); (case k2 => exact rfl); k_whole))
  k_with "kmk nums" => first | with_reducible exact kmk_all (by l_ints) | (with_reducible refine kmk_from (by l_ints) ?_; first | assumption | omega) | (with_reducible refine kmk_upto (by l_ints) ?_; first | assumption | omega) | (with_reducible refine kmk_run (by l_ints) ?_ ?_ <;> first | assumption | omega)
  k_with "room" => exact roomA (by with_reducible assumption) rfl
  k_with "mine eval Name" => (k_here; k_dflt (refine' nameX_L ?F ?v ?_ ?a ?b; (case F => k_asm); (case a => exact rfl); (case b => exact Eq.refl (some _)); (case v => exact Eq.refl (some _)); k_whole))
  k_with "mine And" => ((with_reducible show Frag.In _ _ ∧ _); k_dflt (refine ⟨Frag.In.keeps (by k_asm) (Fr.keep (by k_asm)), ?_⟩))
  k_with "mine call ref" => (k_here; (with_reducible show wpAny _ _ (PySem.call (Value.ref 130) _ _) _ _ _); k_dflt (refine' Spec.use ?k1 ?k2 ?k3 ?k4 ?k5 ?kK (law_sum_spec _ _ _ _ _ _ _) ?kd ?ku (retI ?_); (case k1 => k_asm); (case k2 => k_asm); (case k3 => k_asm); (case k4 => k_asm); (case k5 => k_asm); (case kK => first | exact rfl | assumption); (case kd => first | ktr_room | fail "law_sum_spec: room"); (case ku => first | ktr_units | fail "law_sum_spec: units"); k_whole); intro t9q h9q tk9q F9q N9q; (try dsimp only); (try k_fold))
  k_with "mine call ref" => (k_here; (with_reducible show wpAny _ _ (PySem.call (Value.ref 58) _ _) _ _ _); k_dflt (refine' Spec.use ?k1 ?k2 ?k3 ?k4 ?k5 ?kK (folded_spec _ _ _ _ _ _ _ ?p1) ?kd ?ku (retI ?_); (case k1 => k_asm); (case k2 => k_asm); (case k3 => k_asm); (case k4 => k_asm); (case k5 => k_asm); (case kK => first | exact rfl | assumption); (case p1 => first | (first | omega | exact Int.add_nonneg (by omega) (Int.mul_nonneg (by omega) (by decide))) | fail "folded_spec: p1"); (case kd => first | ktr_room | fail "folded_spec: room"); (case ku => first | ktr_units | fail "folded_spec: units"); k_whole); intro t9q h9q tk9q F9q N9q; (try dsimp only); (try k_fold))
  k_with "mine call ref" => (k_here; (with_reducible show wpAny _ _ (PySem.call (Value.ref 123) _ _) _ _ _); k_dflt (refine' Spec.use ?k1 ?k2 ?k3 ?k4 ?k5 ?kK (law_whole_spec _ _ _ _ _ _ _ _ _ ?p1 ?p2) ?kd ?ku (retI ?_); (case k1 => k_asm); (case k2 => k_asm); (case k3 => k_asm); (case k4 => k_asm); (case k5 => k_asm); (case kK => first | exact rfl | assumption); (case p1 => first | k_mem | fail "law_whole_spec: p1"); (case p2 => first | l_ints | fail "law_whole_spec: p2"); (case kd => first | ktr_room | fail "law_whole_spec: room"); (case ku => first | ktr_units | fail "law_whole_spec: units"); k_whole); intro t9q h9q tk9q F9q N9q; (try dsimp only); (try k_fold))
  k_with "mine call ref" => (k_here; (with_reducible show wpAny _ _ (PySem.call (Value.ref 81) _ _) _ _ _); k_dflt (refine' Spec.use ?k1 ?k2 ?k3 ?k4 ?k5 ?kK (mend_spec _ _ _ _ _ _ _ _ _ _ _ _ _ ?p1 ?p2 ?p3 ?p4 ?p5 ?p6) ?kd ?ku (retI ?_); (case k1 => k_asm); (case k2 => k_asm); (case k3 => k_asm); (case k4 => k_asm); (case k5 => k_asm); (case kK => first | exact rfl | assumption); (case p1 => first | assumption | fail "mend_spec: p1"); (case p2 => first | assumption | fail "mend_spec: p2"); (case p3 => first | (first | with_reducible assumption | (with_reducible refine take_lt ?_ _; with_reducible assumption) | (with_reducible refine dt_lt ?_ _ _; with_reducible assumption) | (with_reducible refine oct_lt ?_; with_reducible assumption) | (with_reducible refine map_lt ?_; with_reducible assumption) | assumption | omega | ((simp only [octF_len, List.length_append, List.length_cons, List.length_nil, List.length_map, List.length_take, List.length_drop]); omega)) | fail "mend_spec: p3"); (case p4 => first | (first | with_reducible assumption | (with_reducible refine take_lt ?_ _; with_reducible assumption) | (with_reducible refine dt_lt ?_ _ _; with_reducible assumption) | (with_reducible refine oct_lt ?_; with_reducible assumption) | (with_reducible refine map_lt ?_; with_reducible assumption) | assumption | omega | ((simp only [octF_len, List.length_append, List.length_cons, List.length_nil, List.length_map, List.length_take, List.length_drop]); omega)) | fail "mend_spec: p4"); (case p5 => first | (first | with_reducible assumption | (with_reducible refine take_lt ?_ _; with_reducible assumption) | (with_reducible refine dt_lt ?_ _ _; with_reducible assumption) | (with_reducible refine oct_lt ?_; with_reducible assumption) | (with_reducible refine map_lt ?_; with_reducible assumption) | assumption | omega | ((simp only [octF_len, List.length_append, List.length_cons, List.length_nil, List.length_map, List.length_take, List.length_drop]); omega)) | fail "mend_spec: p5"); (case p6 => first | (first | assumption | omega | exact mendF_le _ _ _) | fail "mend_spec: p6"); (case kd => first | ktr_room | fail "mend_spec: room"); (case ku => first | ktr_units | fail "mend_spec: units"); k_whole); intro t9q h9q tk9q F9q N9q; (try dsimp only); (try k_fold))
  k_with "mine call ref" => (k_here; (with_reducible show wpAny _ _ (PySem.call (Value.ref 109) _ _) _ _ _); k_dflt (refine' Spec.use ?k1 ?k2 ?k3 ?k4 ?k5 ?kK (law_words_specI _ _ _ _ _ _ _ _ _ _ _ ?p1 ?p2) ?kd ?ku (retN ?_); (case k1 => k_asm); (case k2 => k_asm); (case k3 => k_asm); (case k4 => k_asm); (case k5 => k_asm); (case kK => first | exact rfl | assumption); (case p1 => first | (first | assumption | exact sumF_nonneg _ | omega) | fail "law_words_specI: p1"); (case p2 => first | (first | assumption | exact sumF_nonneg _ | omega) | fail "law_words_specI: p2"); (case kd => first | ktr_room | fail "law_words_specI: room"); (case ku => first | ktr_units | fail "law_words_specI: units"); k_whole); intro l9q vs9q n9q h9q tk9q hi9q hz9q F9q N9q; (try k_lt hz9q); (have hw9q := words_len hi9q); (try dsimp only); (try k_fold))
  k_with "mine call ref" => (k_here; (with_reducible show wpAny _ _ (PySem.call (Value.ref 116) _ _) _ _ _); k_dflt (refine' Spec.use ?k1 ?k2 ?k3 ?k4 ?k5 ?kK (law_octets_spec _ _ _ _ _ _ _ _ _ ?p1 ?p2 ?p3 ?p4) ?kd ?ku (retY ?_); (case k1 => k_asm); (case k2 => k_asm); (case k3 => k_asm); (case k4 => k_asm); (case k5 => k_asm); (case kK => first | exact rfl | assumption); (case p1 => first | k_mem | fail "law_octets_spec: p1"); (case p2 => first | l_ints | fail "law_octets_spec: p2"); (case p3 => first | (first | with_reducible assumption | (with_reducible refine take_lt ?_ _; with_reducible assumption) | (with_reducible refine dt_lt ?_ _ _; with_reducible assumption) | (with_reducible refine oct_lt ?_; with_reducible assumption) | (with_reducible refine map_lt ?_; with_reducible assumption) | assumption | omega | ((simp only [octF_len, List.length_append, List.length_cons, List.length_nil, List.length_map, List.length_take, List.length_drop]); omega)) | fail "law_octets_spec: p3"); (case p4 => first | (show W16 _; repeat' (first | assumption | exact W16.words _ _ _ | exact W16.one (by decide) (by decide) | exact W16.check _ | refine W16.app ?_ ?_ | refine W16.take ?_ _ | refine W16.drop ?_ _)) | fail "law_octets_spec: p4"); (case kd => first | ktr_room | fail "law_octets_spec: room"); (case ku => first | ktr_units | fail "law_octets_spec: units"); k_whole); intro b9q t9q h9q tk9q hb9q F9q N9q; (try dsimp only); (try k_fold))
  k_with "mine call ref" => (k_here; (with_reducible show wpAny _ _ (PySem.call (Value.ref 137) _ _) _ _ _); k_dflt (refine' Spec.use ?k1 ?k2 ?k3 ?k4 ?k5 ?kK (law_mend_spec _ _ _ _ _ _ _ _ _ _ _ _ _ _ _ ?p1 ?p2 ?p3 ?p4 ?p5) ?kd ?ku (retI ?_); (case k1 => k_asm); (case k2 => k_asm); (case k3 => k_asm); (case k4 => k_asm); (case k5 => k_asm); (case kK => first | exact rfl | assumption); (case p1 => first | k_mem | fail "law_mend_spec: p1"); (case p2 => first | l_ints | fail "law_mend_spec: p2"); (case p3 => first | k_mem | fail "law_mend_spec: p3"); (case p4 => first | l_ints | fail "law_mend_spec: p4"); (case p5 => first | (first | with_reducible assumption | (with_reducible refine take_lt ?_ _; with_reducible assumption) | (with_reducible refine dt_lt ?_ _ _; with_reducible assumption) | (with_reducible refine oct_lt ?_; with_reducible assumption) | (with_reducible refine map_lt ?_; with_reducible assumption) | assumption | omega | ((simp only [octF_len, List.length_append, List.length_cons, List.length_nil, List.length_map, List.length_take, List.length_drop]); omega)) | fail "law_mend_spec: p5"); (case kd => first | ktr_room | fail "law_mend_spec: room"); (case ku => first | ktr_units | fail "law_mend_spec: units"); k_whole); intro t9q h9q tk9q F9q N9q; (try dsimp only); (try k_fold))
  k_with "mine exec Raise some none" => (k_here; k_dflt (refine' exc_Raise ?hx1 ?_; (case hx1 => exact rfl); k_whole))
  k_with "mine getAttr ref" => (k_here; (with_reducible rename getL _ _ = _ => hw9q); k_dflt (refine' exc_getN ?kF ?kX ?kN ?ke ?kd ?kc ?ko ?kn hw9q ?ka ?kg ?kv ?_; (case kF => k_asm); (case kN => k_asm); (case kX => k_asm); (case ke => k_mem); (case kd => k_mem); (case kc => assumption); (case ko => assumption); (case kn => assumption); (case ka => exact rfl); (case kg => exact rfl); (case kv => exact rfl); k_whole))
  k_with "all" => first | exact cell_all0 (by assumption) | exact cell_all (by assumption)
  k_with "mine call ref" => (k_here; (with_reducible show wpAny _ _ (PySem.call (Value.ref 116) _ _) _ _ _); k_dflt (refine' Spec.use ?k1 ?k2 ?k3 ?k4 ?k5 ?kK (law_octets_spec _ _ _ _ _ _ _ _ _ ?p1 ?p2 ?p3 ?p4) ?kd ?ku (retY ?_); (case k1 => k_asm); (case k2 => k_asm); (case k3 => k_asm); (case k4 => k_asm); (case k5 => k_asm); (case kK => first | exact rfl | assumption); (case p1 => first | k_mem | fail "law_octets_spec: p1"); (case p2 => first | l_ints | fail "law_octets_spec: p2"); (case p3 => first | (first | with_reducible assumption | (with_reducible refine take_lt ?_ _; with_reducible assumption) | (with_reducible refine dt_lt ?_ _ _; with_reducible assumption) | (with_reducible refine oct_lt ?_; with_reducible assumption) | (with_reducible refine map_lt ?_; with_reducible assumption) | assumption | omega | ((simp only [octF_len, List.length_append, List.length_cons, List.length_nil, List.length_map, List.length_take, List.length_drop]); omega)) | fail "law_octets_spec: p3"); (case p4 => first | (show W16 _; repeat' (first | assumption | exact W16.words _ _ _ | exact W16.one (by decide) (by decide) | exact W16.check _ | refine W16.app ?_ ?_ | refine W16.take ?_ _ | refine W16.drop ?_ _)) | fail "law_octets_spec: p4"); (case kd => first | ktr_room | fail "law_octets_spec: room"); (case ku => first | ktr_units | fail "law_octets_spec: units"); k_whole); intro b9q t9q h9q tk9q hb9q F9q N9q; (have ho9q := octets_len hb9q); (try dsimp only); (try k_fold))
  k_with "mine call ref" => (k_here; (with_reducible show wpAny _ _ (PySem.call (Value.ref 144) _ _) _ _ _); k_dflt (refine' SpecT.use ?k1 ?k2 ?k3 ?k4 ?k5 ?kXB ?kTB ?kD ?kK (mended_ok _ _ _ _ _ _ _ _ _ _ _ _ _ ?p1 ?p2 ?p3 ?p4 ?p5 ?p6) ?kd ?ku (retTP ?_); (case k1 => k_asm); (case k2 => k_asm); (case k3 => k_asm); (case k4 => k_asm); (case k5 => k_asm); (case kXB => assumption); (case kTB => assumption); (case kD => assumption); (case kK => first | exact rfl | assumption); (case p1 => first | assumption | fail "mended_ok: p1"); (case p2 => first | assumption | fail "mended_ok: p2"); (case p3 => first | (first | with_reducible assumption | (with_reducible refine take_lt ?_ _; with_reducible assumption) | (with_reducible refine dt_lt ?_ _ _; with_reducible assumption) | (with_reducible refine oct_lt ?_; with_reducible assumption) | (with_reducible refine map_lt ?_; with_reducible assumption) | assumption | omega | ((simp only [octF_len, List.length_append, List.length_cons, List.length_nil, List.length_map, List.length_take, List.length_drop]); omega)) | fail "mended_ok: p3"); (case p4 => first | (first | with_reducible assumption | (with_reducible refine take_lt ?_ _; with_reducible assumption) | (with_reducible refine dt_lt ?_ _ _; with_reducible assumption) | (with_reducible refine oct_lt ?_; with_reducible assumption) | (with_reducible refine map_lt ?_; with_reducible assumption) | assumption | omega | ((simp only [octF_len, List.length_append, List.length_cons, List.length_nil, List.length_map, List.length_take, List.length_drop]); omega)) | fail "mended_ok: p4"); (case p5 => first | (first | with_reducible assumption | (with_reducible refine take_lt ?_ _; with_reducible assumption) | (with_reducible refine dt_lt ?_ _ _; with_reducible assumption) | (with_reducible refine oct_lt ?_; with_reducible assumption) | (with_reducible refine map_lt ?_; with_reducible assumption) | assumption | omega | ((simp only [octF_len, List.length_append, List.length_cons, List.length_nil, List.length_map, List.length_take, List.length_drop]); omega)) | fail "mended_ok: p5"); (case p6 => first | (first | assumption | exact sumF_nonneg _ | omega) | fail "mended_ok: p6"); (case kd => first | ktr_room | fail "mended_ok: room"); (case ku => first | ktr_units | fail "mended_ok: units"); k_whole); intro a9q ta9q tb9q h9q tk9q g9q T9q F9q N9q K9q X9q P9q D9q; (try k_lift K9q); (try dsimp only); (try k_fold))
  k_with "mine call ref" => (k_here; (with_reducible show wpAny _ _ (PySem.call (Value.ref 144) _ _) _ _ _); k_dflt (refine' SpecT.use ?k1 ?k2 ?k3 ?k4 ?k5 ?kXB ?kTB ?kD ?kK (mended_bad _ _ _ _ _ _ _ _ _ _ _ _ _ ?p1 ?p2 ?p3 ?p4 ?p5) ?kd ?ku (retTP ?_); (case k1 => k_asm); (case k2 => k_asm); (case k3 => k_asm); (case k4 => k_asm); (case k5 => k_asm); (case kXB => assumption); (case kTB => assumption); (case kD => assumption); (case kK => first | exact rfl | assumption); (case p1 => first | assumption | fail "mended_bad: p1"); (case p2 => first | assumption | fail "mended_bad: p2"); (case p3 => first | (first | with_reducible assumption | (with_reducible refine take_lt ?_ _; with_reducible assumption) | (with_reducible refine dt_lt ?_ _ _; with_reducible assumption) | (with_reducible refine oct_lt ?_; with_reducible assumption) | (with_reducible refine map_lt ?_; with_reducible assumption) | assumption | omega | ((simp only [octF_len, List.length_append, List.length_cons, List.length_nil, List.length_map, List.length_take, List.length_drop]); omega)) | fail "mended_bad: p3"); (case p4 => first | (first | with_reducible assumption | (with_reducible refine take_lt ?_ _; with_reducible assumption) | (with_reducible refine dt_lt ?_ _ _; with_reducible assumption) | (with_reducible refine oct_lt ?_; with_reducible assumption) | (with_reducible refine map_lt ?_; with_reducible assumption) | assumption | omega | ((simp only [octF_len, List.length_append, List.length_cons, List.length_nil, List.length_map, List.length_take, List.length_drop]); omega)) | fail "mended_bad: p4"); (case p5 => first | (first | (first | with_reducible assumption | (with_reducible refine take_lt ?_ _; with_reducible assumption) | (with_reducible refine dt_lt ?_ _ _; with_reducible assumption) | (with_reducible refine oct_lt ?_; with_reducible assumption) | (with_reducible refine map_lt ?_; with_reducible assumption) | assumption | omega | ((simp only [octF_len, List.length_append, List.length_cons, List.length_nil, List.length_map, List.length_take, List.length_drop]); omega)) | ((rename List.any _ _ = true => hany9q); (simp only [List.any_cons, List.any_nil, Bool.or_false, Bool.or_eq_true, beq_iff_eq] at hany9q); (first | with_reducible assumption | (with_reducible refine take_lt ?_ _; with_reducible assumption) | (with_reducible refine dt_lt ?_ _ _; with_reducible assumption) | (with_reducible refine oct_lt ?_; with_reducible assumption) | (with_reducible refine map_lt ?_; with_reducible assumption) | assumption | omega | ((simp only [octF_len, List.length_append, List.length_cons, List.length_nil, List.length_map, List.length_take, List.length_drop]); omega)))) | fail "mended_bad: p5"); (case kd => first | ktr_room | fail "mended_bad: room"); (case ku => first | ktr_units | fail "mended_bad: units"); k_whole); intro a9q ta9q tb9q h9q tk9q g9q T9q F9q N9q K9q X9q P9q D9q; (try k_lift K9q); (try dsimp only); (try k_fold))
  k_with "mine subscriptTail" => (k_here; (with_reducible show wpAny _ _ (subscriptTail _ _ (Value.bytes _ _) (Value.int _ _)) _ _ _); k_dflt (refine KBw.item_K (by with_reducible assumption) (by exact sub_sz (by with_reducible assumption) (by with_reducible assumption)) (by first | exact sub_lo (by with_reducible assumption) | exact sub_lo1 (by with_reducible assumption)) (by first | exact sub_hi (by with_reducible assumption) (by with_reducible assumption) | exact sub_hi1 (by with_reducible assumption) (by with_reducible assumption)) ?_); intro _ _ kbaLo kbaHi)
  k_with "mine newList" => (k_here; k_dflt (refine' newList_K ?k1 ?k2 ?_; (case k1 => k_asm); (case k2 => k_asm); k_whole); intro l' h' F' N' l1; (try k_sweep))
  k_with "mine binaryOp Add ref ref" => (k_here; (with_reducible show wpAny _ _ (binaryOp _ (Value.ref _) (Value.ref _)) _ _ _); k_dflt (refine' kmk_add_ints ?F ?N ?a ?b ?i ?j ?_ ?z; (case F => k_asm); (case N => k_asm); (case a => kmk_list); (case b => kmk_list); (case i => l_ints); (case j => l_ints); (case z => kmk_sum)); intro D' ws' h' F' N' l1 hI'; (try k_sweep))
  k_with "mine subscriptTail Name Slice ref ref" => (k_here; (with_reducible show wpAny _ _ (subscriptTail _ (PySem.Expr.Slice _ _ none _) (Value.ref _) (Value.ref _)) _ _ _); k_dflt (refine' kmk_slice_ints ?F ?N ?l ?p ?q ?i ?m ?c ?_ ?s ?t ?z; (case F => k_asm); (case N => k_asm); (case l => kmk_list); (case p => kmk_part); (case q => kmk_part); (case i => l_ints); (case m => kmk_nums); (case c => kmk_len); (case s => with_unfolding_all exact rfl); (case t => kmk_pure); (case z => kmk_size)); intro D' ws' h' F' N' l1 hI' hC' hL'; (try simp only [Int.reduceNeg, Int.neg_neg, Int.reduceToNat] at hI' hC' hL'); (try k_sweep))
  k_with "mine call ref" => (k_here; (with_reducible show wpAny _ _ (PySem.call (Value.ref 102) _ _) _ _ _); k_dflt (refine' SpecS.use ?k1 ?k2 ?k3 ?k4 ?k5 ?kK ?kS (law_digit_spec _ _ _ _ _ _ _ _ ?p1 ?p2 _ _ ?p3) ?kd ?ku (retI ?_); (case k1 => k_asm); (case k2 => k_asm); (case k3 => k_asm); (case k4 => k_asm); (case k5 => k_asm); (case kK => first | exact rfl | assumption); (case kS => assumption); (case p1 => first | with_reducible assumption | fail "law_digit_spec: p1"); (case p2 => first | with_reducible assumption | fail "law_digit_spec: p2"); (case p3 => first | (first | with_reducible assumption | exact of_decide_eq_true rfl | omega) | fail "law_digit_spec: p3"); (case kd => first | ktr_room | fail "law_digit_spec: room"); (case ku => first | ktr_units | fail "law_digit_spec: units"); k_whole); intro t9q h9q tk9q F9q N9q; (try dsimp only); (try k_fold))
  k_with "mine eval Call" => (k_here; (first | (with_reducible show wpAny _ _ (eval (PySem.Expr.Call (PySem.Expr.Name (PySem.Str.ofString "_law_digit") _) _ _ _) _) _ _ _) | (with_reducible show wpAny _ _ (eval (PySem.Expr.Call (PySem.Expr.Name (PySem.Str.ofString "_law_sum") _) _ _ _) _) _ _ _) | (with_reducible show wpAny _ _ (eval (PySem.Expr.Call (PySem.Expr.Name (PySem.Str.ofString "_law_number") _) _ _ _) _) _ _ _)); k_dflt (refine PyProof.Rows.Call_ ?_))
  have h20 : 0 ≤ (cellAt sc 20 0 + 3).fmod 8 ∧ (cellAt sc 20 0 + 3).fmod 8 < 8 := ⟨fmod_lo _ (by decide), fmod_hi _ (by decide)⟩
  have h21 : 0 ≤ (cellAt sc 21 0 + 3).fmod 8 ∧ (cellAt sc 21 0 + 3).fmod 8 < 8 := ⟨fmod_lo _ (by decide), fmod_hi _ (by decide)⟩
  have h17 : 0 ≤ (cellAt sc 17 0).fmod 65536 ∧ (cellAt sc 17 0).fmod 65536 < 65536 := ⟨fmod_lo _ (by decide), fmod_hi _ (by decide)⟩
  have h17' : (cellAt sc 17 0).fmod 65536 ≤ 65535 := Int.le_of_lt_add_one h17.2
  have hw18 : (wordsF (cellAt sc 18 0) 0 (Int.toNat 4)).length = 4 := wordsF_len _ _ _
  have hw19 : (wordsF (cellAt sc 19 0) 3 (Int.toNat 4)).length = 4 := wordsF_len _ _ _
  have hx18 : (wordsF (cellAt sc 18 0) 0 (Int.toNat 4)).length < 40 := by rw [hw18]; decide
  have hx19 : (wordsF (cellAt sc 19 0) 3 (Int.toNat 4)).length < 40 := by rw [hw19]; decide
  have h4 : (0 : Int) ≤ 4 := by decide
  have h49 : (4 : Int) ≤ 9 := by decide
  unfold SpecTS Tp; k_fill
  intro dp un gd cn cs a ccd cl outer A₀ base h₀ L m s Q E B F X N T XB TB D hS hk hd hu hret
  refine wpAny_call ?_
  k_dflt (refine' code_defTC ?k1 ?k2 ?k3 ?k4 ?k5 ?kXB ?kTB ?kD ?kT0 ?kA ?kF ?kK ?k6 ?k7 ?k8 ?k9 ?kB ?kN ?_ ?c2 ?c3 ?c4; (case kA => exact rfl); (case kF => exact rfl); (case kK => assumption); (case k1 => k_asm); (case k2 => k_asm); (case k3 => k_asm); (case k4 => k_asm); (case k5 => k_asm); (case kXB => assumption); (case kTB => assumption); (case kD => assumption); (case kT0 => exact KtsTurn.refl); (case k6 => k_is); (case k7 => k_is); (case k8 => ktr_room); (case k9 => first | exact BindsTo.of_eq rfl | exact binds_K (by k_in) rfl (by k_is) rfl rfl rfl); (case kB => exact rfl); (case kN => decide +kernel); (case c2 => exact rfl); (case c3 => exact rfl); (case c4 => exact rfl); k_whole; intro g' L' h' tk' cells' FG' F' N' Y' B' X' T' D' l1; (try k_lt l1); k_cells Y'; (try simp only [List.cons_append, List.nil_append] at N'); (try dsimp only); (try k_lift B'); (try k_fold))
  repeat' (first | (fail_if_success (with_reducible show wpAny _ _ (exec (PySem.Stmt.If ..) _) _ _ _)); first | (k_unfold; (try dsimp only)) | (k_end; wrow_close) | walk1 | (dsimp only; walk1) | (leave1; try dsimp only))
  (rename KBw.bInts _ = List.take _ (octF (wordsF _ 3 _)) => hkn)
  (rename KBw.bInts _ = List.take _ (octF (wordsF _ 0 _)) => hko)
  have hcut := ref_cut hw18 hw19 h20 h21
  generalize hgo : List.take (clipAt (octF (wordsF (cellAt sc 18 0) 0 (Int.toNat 4))).length ((cellAt sc 20 0 + 3).fmod 8)) (octF (wordsF (cellAt sc 18 0) 0 (Int.toNat 4))) = koo at *
  generalize hgn : List.take (clipAt (octF (wordsF (cellAt sc 19 0) 3 (Int.toNat 4))).length ((cellAt sc 21 0 + 3).fmod 8)) (octF (wordsF (cellAt sc 19 0) 3 (Int.toNat 4))) = knn at *
  clear hgo hgn h20 h21 hx18 hx19
  have ho8 := hcut.1
  have ho1 : koo.length < 100 := Nat.lt_trans hcut.1 (by decide)
  have hn1 : knn.length < 100 := Nat.lt_trans hcut.2.1 (by decide)
  have hq := hcut.2.2
  clear hcut
  k_dflt (refine' If_dec (P := ¬ (knn.length = koo.length ∧ koo.length % 2 = 0)) ?jF ?jN ?jc ?j1 ?j2; (case jF => k_asm); (case jN => k_asm))
  (case jc => (
    k_steps
    all_goals (refine join_dec ?_ (by assumption) (by assumption) (by (first | (intro p9 hp9; (repeat (first | (with_reducible exact hp9) | (with_reducible exact List.mem_append_left _ hp9) | (with_reducible exact List.mem_append_right _ hp9) | (with_reducible refine List.mem_cons_of_mem _ ?_))); done) | kcj_all)); first | exact dec_1 (by assumption) | exact dec_2 (by assumption) | exact dec_3 ho8 (by assumption) (by assumption))))
  (case j1 => (
    intro hP hJ tJ FJ NJ
    (try dsimp only)
    (try k_fold)
    k_steps
    all_goals (refine' endBT (Q := Q) (s := s) hret ?e0 ?e1 ?e2 ?e3 ?e4 ?e5 ?e6 ?e7 ?e8; (case e2 => k_asm); (case e3 => k_asm); (case e1 => first | assumption | exact KtsTurn.refl); (case e4 => assumption); (case e5 => assumption); (case e6 => assumption); (case e7 => assumption); (case e8 => (first | (intro p9 hp9; (repeat (first | (with_reducible exact hp9) | (with_reducible exact List.mem_append_left _ hp9) | (with_reducible exact List.mem_append_right _ hp9) | (with_reducible refine List.mem_cons_of_mem _ ?_))); done) | kcj_all)); (case e0 => rfl))))
  (case j2 => (
    intro hP hJ tJ FJ NJ
    (try dsimp only)
    (try k_fold)
    obtain ⟨q, hq9, hoq, hnq⟩ := hq (Classical.byContradiction fun x => hP fun y => x y.1) (Classical.byContradiction fun x => hP fun y => x y.2)
    subst hoq hnq
    clear hP hq ho8
    have ro := ref_q hw18 hq9
    have rn := ref_q hw19 hq9
    have hlc := ro.1
    have hld := rn.1
    have hla := ro.2.1
    have hlb := rn.2.1
    have hfa := ro.2.2.1
    have hfb := rn.2.2.1
    have hl1 := ro.2.2.2.1
    have hl2 := rn.2.2.2.1
    have he1 := ro.2.2.2.2
    have he2 : (octF (List.take q (wordsF (cellAt sc 19 0) 3 (Int.toNat 4)))).length = (octF (List.take q (wordsF (cellAt sc 18 0) 0 (Int.toNat 4)))).length := hlb.trans hla.symm
    clear ro rn hw18 hw19 ho1 hn1
    repeat' (first | (fail_if_success (with_reducible show LCg.CompSrc _ _ _ _ _ _ _ _ _ _ _ _ _ _)); first | (k_unfold; (try dsimp only)) | (k_end; wrow_close) | walk1 | (dsimp only; walk1) | (leave1; try dsimp only))
    rename IsRange _ _ _ _ _ _ _ _ => hRa
    rw [hfa] at hRa
    walk1
    repeat' (first | (fail_if_success (with_reducible show LCg.CompSrc _ _ _ _ _ _ _ _ _ _ _ _ _ _)); first | (k_unfold; (try dsimp only)) | (k_end; wrow_close) | walk1 | (dsimp only; walk1) | (leave1; try dsimp only))
    rename IsRange _ _ _ _ _ _ _ _ => hRb
    rw [hfb] at hRb
    k_steps
    all_goals (refine' endBT (Q := Q) (s := s) hret ?e0 ?e1 ?e2 ?e3 ?e4 ?e5 ?e6 ?e7 ?e8; (case e2 => k_asm); (case e3 => k_asm); (case e1 => first | assumption | exact KtsTurn.refl); (case e4 => assumption); (case e5 => assumption); (case e6 => assumption); (case e7 => assumption); (case e8 => (first | (intro p9 hp9; (repeat (first | (with_reducible exact hp9) | (with_reducible exact List.mem_append_left _ hp9) | (with_reducible exact List.mem_append_right _ hp9) | (with_reducible refine List.mem_cons_of_mem _ ?_))); done) | kcj_all)); (case e0 => exact ref_end h17 ((W16.words _ _ _).take _) ((W16.words _ _ _).take _) hlc hld (words_back ((W16.words _ _ _).take _) hlc) (words_back ((W16.words _ _ _).take _) hld)))))

end law_refusals
section psj
noncomputable def bitAt (wd nr : Int) (i : Nat) : Int := if i < 2 then wd else nr
noncomputable def numAt (sc us : List Int) (wd nr : Int) (i : Nat) : Int := numF (cellAt sc (22 + (i : Int)) 0) (us.getD i 0) (bitAt wd nr i)
noncomputable def fitAt (sc us : List Int) (wd nr : Int) (i : Nat) : Bool := decide (0 ≤ numAt sc us wd nr i ∧ numAt sc us wd nr i < 2 ^ (bitAt wd nr i).toNat)
noncomputable def fitsTo (sc us : List Int) (wd nr : Int) (i : Nat) : Bool := (List.range i).all (fitAt sc us wd nr)
theorem fitsTo_succ (sc us : List Int) (wd nr : Int) (i : Nat) : fitsTo sc us wd nr (i + 1) = (fitsTo sc us wd nr i && fitAt sc us wd nr i) := by
  unfold fitsTo
  rw [List.range_succ, List.all_append]
  simp
theorem fit_lo {sc us : List Int} {wd nr x : Int} {i : Nat} (hx : x = numAt sc us wd nr i) (h : x < 0) : false = fitsTo sc us wd nr (i + 1) := by
  subst hx
  rw [fitsTo_succ, show fitAt sc us wd nr i = false from decide_eq_false fun q => by omega, Bool.and_false]
theorem fit_hi {sc us : List Int} {wd nr x b : Int} {i : Nat} (hx : x = numAt sc us wd nr i) (hb : b = 2 ^ (bitAt wd nr i).toNat) (h : b ≤ x) : false = fitsTo sc us wd nr (i + 1) := by
  subst hx
  subst hb
  rw [fitsTo_succ, show fitAt sc us wd nr i = false from decide_eq_false fun q => by omega, Bool.and_false]
theorem fit_in {sc us : List Int} {wd nr x b : Int} {i : Nat} (hx : x = numAt sc us wd nr i) (hb : b = 2 ^ (bitAt wd nr i).toNat) (h0 : 0 ≤ x) (h : x < b) : fitsTo sc us wd nr i = fitsTo sc us wd nr (i + 1) := by
  subst hx
  subst hb
  rw [fitsTo_succ, show fitAt sc us wd nr i = true from decide_eq_true ⟨h0, h⟩, Bool.and_true]

noncomputable def PsJ (sc us : List Int) (wd nr : Int) (out : Addr) (base : Led) (m₀ : Str → Option Value) (i : Nat) (m : Str → Option Value) (nx : Led) : Prop :=
  ∃ vs n, nx = (out, listOf vs.toArray n) :: base ∧ IntsAre vs ((List.range i).map (numAt sc us wd nr)) ∧ m (Str.ofString "is_fit") = some (.bool (fitsTo sc us wd nr i)) ∧
    ∀ z, z ≠ Str.ofString "k" → z ≠ Str.ofString "is_fit" → z ≠ Str.ofString "bits" → z ≠ Str.ofString "number" → m z = m₀ z
theorem ps_fun {v : Value} {m₀ m₁ : Str → Option Value} (ha : m₁ (Str.ofString "is_fit") = some v) (hm : ∀ z, z ≠ Str.ofString "k" → z ≠ Str.ofString "is_fit" → z ≠ Str.ofString "bits" → z ≠ Str.ofString "number" → m₁ z = m₀ z) (z : Str) (hk : z ≠ Str.ofString "k") :
    (if z = Str.ofString "is_fit" then some v else if z = Str.ofString "bits" then m₁ z else if z = Str.ofString "number" then m₁ z else m₀ z) = m₁ z := by
  by_cases h2 : z = Str.ofString "is_fit"
  · rw [if_pos h2, h2, ha]
  · rw [if_neg h2]
    by_cases h3 : z = Str.ofString "bits"
    · rw [if_pos h3]
    · rw [if_neg h3]
      by_cases h4 : z = Str.ofString "number"
      · rw [if_pos h4]
      · rw [if_neg h4, hm z hk h2 h3 h4]
theorem ps_fr {h₀ h : Heap} {L : Addr} {v w₀ : Value} {m₀ m₁ : Str → Option Value} (ha : m₁ (Str.ofString "is_fit") = some v) (hm : ∀ z, z ≠ Str.ofString "k" → z ≠ Str.ofString "is_fit" → z ≠ Str.ofString "bits" → z ≠ Str.ofString "number" → m₁ z = m₀ z)
    (F : Fr h₀ L h (fun z => if z = Str.ofString "k" then some w₀ else m₁ z)) : Fr h₀ L h (fun z => if z = Str.ofString "k" then some w₀ else if z = Str.ofString "is_fit" then some v else if z = Str.ofString "bits" then m₁ z else if z = Str.ofString "number" then m₁ z else m₀ z) := by
  have e : (fun z => if z = Str.ofString "k" then some w₀ else if z = Str.ofString "is_fit" then some v else if z = Str.ofString "bits" then m₁ z else if z = Str.ofString "number" then m₁ z else m₀ z) = fun z => if z = Str.ofString "k" then some w₀ else m₁ z := by
    funext z
    by_cases h1 : z = Str.ofString "k"
    · rw [if_pos h1, if_pos h1]
    · rw [if_neg h1, if_neg h1, ps_fun ha hm z h1]
  rw [e]; exact F
theorem ps_out {h₀ h : Heap} {L : Addr} {v : Value} {m₀ m₁ : Str → Option Value} (ha : m₁ (Str.ofString "is_fit") = some v) (hm : ∀ z, z ≠ Str.ofString "k" → z ≠ Str.ofString "is_fit" → z ≠ Str.ofString "bits" → z ≠ Str.ofString "number" → m₁ z = m₀ z)
    (F : Fr h₀ L h m₁) : Fr h₀ L h (fun z => if z = Str.ofString "k" then m₁ z else if z = Str.ofString "is_fit" then some v else if z = Str.ofString "bits" then m₁ z else if z = Str.ofString "number" then m₁ z else m₀ z) := by
  have e : (fun z => if z = Str.ofString "k" then m₁ z else if z = Str.ofString "is_fit" then some v else if z = Str.ofString "bits" then m₁ z else if z = Str.ofString "number" then m₁ z else m₀ z) = m₁ := by
    funext z
    by_cases h1 : z = Str.ofString "k"
    · rw [if_pos h1]
    · rw [if_neg h1, ps_fun ha hm z h1]
  rw [e]; exact F
theorem ps_end {h₀ h' : Heap} {L : Addr} {sc us : List Int} {wd nr y : Int} {i n' : Nat} {b : Bool} {out : Addr} {base own news' : Led} {vs : List Value} {m₀ m' : Str → Option Value} {s₁ : Shared} {tk : Nat} {o : Obj} (F : Fr h₀ L h' m') (N : News h₀ L h' news')
    (ho : (out, listOf vs.toArray n') ∈ news') (hi : IntsAre vs ((List.range i).map (numAt sc us wd nr) ++ [y])) (hy : y = numAt sc us wd nr i) (hb : m' (Str.ofString "is_fit") = some (.bool b)) (hbe : b = fitsTo sc us wd nr (i + 1))
    (hs : ∀ z, z ≠ Str.ofString "k" → z ≠ Str.ofString "is_fit" → z ≠ Str.ofString "bits" → z ≠ Str.ofString "number" → m' z = m₀ z) (hba : ∀ p ∈ base, p ∈ news') (hw : ∀ p ∈ own, p ∈ news') :
    InvEndN h₀ L (PsJ sc us wd nr out base m₀ (i + 1)) own (((out, o) :: base).map (·.1)) s₁ { s₁ with heap := h', toks := tk } := by
  subst hy
  subst hbe
  refine InvEndN.intro (nx := (out, listOf vs.toArray n') :: base) F N ⟨vs, n', rfl, by rw [List.range_succ, List.map_append]; exact hi, hb, hs⟩ rfl ?_ hw
  intro p hp
  rcases List.mem_cons.mp hp with rfl | hp
  · exact ho
  · exact hba p hp
theorem fits4 {sc us : List Int} {wd nr : Int} : fitsTo sc us wd nr 4 = true ↔ (fitAt sc us wd nr 0 = true ∧ fitAt sc us wd nr 1 = true ∧ fitAt sc us wd nr 2 = true ∧ fitAt sc us wd nr 3 = true) := by
  rw [fitsTo_succ, fitsTo_succ, fitsTo_succ, fitsTo_succ]
  simp [fitsTo, and_assoc]
theorem fits_32 {sc us : List Int} : fitsTo sc us 32 16 4 = true ↔ (Fit (numAt sc us 32 16 0) 4 ∧ Fit (numAt sc us 32 16 1) 4 ∧ Fit (numAt sc us 32 16 2) 2 ∧ Fit (numAt sc us 32 16 3) 2) := by
  rw [fits4, fit4, fit4, fit2, fit2]
  unfold fitAt
  rw [decide_eq_true_iff, decide_eq_true_iff, decide_eq_true_iff, decide_eq_true_iff]
  exact Iff.rfl
theorem fits_128 {sc us : List Int} : fitsTo sc us 128 32 4 = true ↔ (Fit (numAt sc us 128 32 0) 16 ∧ Fit (numAt sc us 128 32 1) 16 ∧ Fit (numAt sc us 128 32 2) 4 ∧ Fit (numAt sc us 128 32 3) 4) := by
  rw [fits4, fit16, fit16, fit4, fit4]
  unfold fitAt
  rw [decide_eq_true_iff, decide_eq_true_iff, decide_eq_true_iff, decide_eq_true_iff]
  exact Iff.rfl

end psj
section law_pseudo
theorem reset_law_pseudo : True := by (w_top off; k_with_none; exact trivial)
theorem four_add (x y z u : Int) : x + y + z + u = x + (y + (z + (u + 0))) := by omega
theorem bit_bounds {wd nr : Int} (hw : (wd = 32 ∧ nr = 16) ∨ (wd = 128 ∧ nr = 32)) (i : Nat) : 0 ≤ bitAt wd nr i ∧ bitAt wd nr i ≤ 128 := by
  unfold bitAt; split <;> omega
theorem bit_lo {wd nr : Int} {i : Nat} (h : (i : Int) < 2) : wd = bitAt wd nr i := by unfold bitAt; rw [if_pos (by omega)]
theorem bit_hi {wd nr : Int} {i : Nat} (h : ¬ (i : Int) < 2) : nr = bitAt wd nr i := by unfold bitAt; rw [if_neg (by omega)]
theorem psd_lo {sc us : List Int} {wd nr x : Int} {i : Nat} (hx : x = numAt sc us wd nr i) (h : x < 0) : true = true ↔ fitAt sc us wd nr i = false :=
  Iff.intro (fun _ => decide_eq_false fun q => Int.not_le.mpr (hx ▸ h) q.1) (fun _ => rfl)
theorem psd_hi {sc us : List Int} {wd nr x : Int} {i : Nat} (hx : x = numAt sc us wd nr i) (h : 2 ^ (bitAt wd nr i).toNat ≤ x) : true = true ↔ fitAt sc us wd nr i = false :=
  Iff.intro (fun _ => decide_eq_false fun q => Int.not_lt.mpr (hx ▸ h) q.2) (fun _ => rfl)
theorem psd_in {sc us : List Int} {wd nr x : Int} {i : Nat} (hx : x = numAt sc us wd nr i) (h0 : ¬ x < 0) (h : ¬ 2 ^ (bitAt wd nr i).toNat ≤ x) : false = true ↔ fitAt sc us wd nr i = false :=
  Iff.intro (fun q => by cases q) (fun q => absurd (show fitAt sc us wd nr i = true from decide_eq_true ⟨hx ▸ Int.not_lt.mp h0, hx ▸ Int.not_le.mp h⟩) (by rw [q]; exact Bool.false_ne_true))
theorem ps_no {sc us : List Int} {wd nr : Int} {i : Nat} (h : fitAt sc us wd nr i = false) : false = fitsTo sc us wd nr (i + 1) := by rw [fitsTo_succ, h, Bool.and_false]
theorem ps_yes {sc us : List Int} {wd nr : Int} {i : Nat} (h : ¬ fitAt sc us wd nr i = false) : fitsTo sc us wd nr i = fitsTo sc us wd nr (i + 1) := by rw [fitsTo_succ, (Bool.not_eq_false _).mp h, Bool.and_true]
set_option maxHeartbeats 8000000 in
theorem law_pseudo_spec (w : World) (mean : ExcName → Option Value) (mg mb : Str → Option Value) (news : Led) (ls : Addr) (vss : List Value) (sc : List Int) (hsc : IntsAre vss sc) (hscl : sc.length < 100)
    (lu : Addr) (vsu : List Value) (nu : Nat) (hl : (lu, listOf vsu.toArray nu) ∈ news) (us : List Int) (hi : IntsAre vsu us) (hus : us.length = 4) (wd nr : Int) (hw : (wd = 32 ∧ nr = 16) ∨ (wd = 128 ∧ nr = 32)) (t1 t2 : Tok) :
    SpecTS w mean mg mb ls vss 177 20 512 news [.ref ls, .int wd t1, .int nr t2, .ref lu] (RBool true) := by
  k_with_none
  k_with "mine pyIter ref" => k_extra "my iter"
  k_with "mine exec For" => (k_extra "my for"; (rename Fr _ _ _ _ => lF'); (with_unfolding_all refine' For_invVF lF' ?k1 ?k2 ?_; (case k1 => exact rfl); (case k2 => exact rfl); k_whole))
  k_with "kmk nums" => first | with_reducible exact kmk_all (by l_ints) | (with_reducible refine kmk_from (by l_ints) ?_; first | assumption | omega) | (with_reducible refine kmk_upto (by l_ints) ?_; first | assumption | omega) | (with_reducible refine kmk_run (by l_ints) ?_ ?_ <;> first | assumption | omega)
  k_with "room" => exact roomA (by with_reducible assumption) rfl
  k_with "mine eval Name" => (k_here; k_dflt (refine' nameX_L ?F ?v ?_ ?a ?b; (case F => k_asm); (case a => exact rfl); (case b => exact Eq.refl (some _)); (case v => exact Eq.refl (some _)); k_whole))
  k_with "mine And" => ((with_reducible show Frag.In _ _ ∧ _); k_dflt (refine ⟨Frag.In.keeps (by k_asm) (Fr.keep (by k_asm)), ?_⟩))
  k_with "mine call ref" => (k_here; (with_reducible show wpAny _ _ (PySem.call (Value.ref 130) _ _) _ _ _); k_dflt (refine' Spec.use ?k1 ?k2 ?k3 ?k4 ?k5 ?kK (law_sum_spec _ _ _ _ _ _ _) ?kd ?ku (retI ?_); (case k1 => k_asm); (case k2 => k_asm); (case k3 => k_asm); (case k4 => k_asm); (case k5 => k_asm); (case kK => first | exact rfl | assumption); (case kd => first | ktr_room | fail "law_sum_spec: room"); (case ku => first | ktr_units | fail "law_sum_spec: units"); k_whole); intro t9q h9q tk9q F9q N9q; (try dsimp only); (try k_fold))
  k_with "mine call ref" => (k_here; (with_reducible show wpAny _ _ (PySem.call (Value.ref 58) _ _) _ _ _); k_dflt (refine' Spec.use ?k1 ?k2 ?k3 ?k4 ?k5 ?kK (folded_spec _ _ _ _ _ _ _ ?p1) ?kd ?ku (retI ?_); (case k1 => k_asm); (case k2 => k_asm); (case k3 => k_asm); (case k4 => k_asm); (case k5 => k_asm); (case kK => first | exact rfl | assumption); (case p1 => first | (first | omega | exact Int.add_nonneg (by omega) (Int.mul_nonneg (by omega) (by decide))) | fail "folded_spec: p1"); (case kd => first | ktr_room | fail "folded_spec: room"); (case ku => first | ktr_units | fail "folded_spec: units"); k_whole); intro t9q h9q tk9q F9q N9q; (try dsimp only); (try k_fold))
  k_with "mine call ref" => (k_here; (with_reducible show wpAny _ _ (PySem.call (Value.ref 170) _ _) _ _ _); k_dflt (refine' Spec.use ?k1 ?k2 ?k3 ?k4 ?k5 ?kK (law_number_spec _ _ _ _ _ _ _ _ _ _ _ ?p1 ?p2) ?kd ?ku (retI ?_); (case k1 => k_asm); (case k2 => k_asm); (case k3 => k_asm); (case k4 => k_asm); (case k5 => k_asm); (case kK => first | exact rfl | assumption); (case p1 => first | with_reducible assumption | fail "law_number_spec: p1"); (case p2 => first | with_reducible assumption | fail "law_number_spec: p2"); (case kd => first | ktr_room | fail "law_number_spec: room"); (case ku => first | ktr_units | fail "law_number_spec: units"); k_whole); intro t9q h9q tk9q F9q N9q; (try dsimp only); (try k_fold))
  k_with "mine call ref" => (k_here; (with_reducible show wpAny _ _ (PySem.call (Value.ref 66) _ _) _ _ _); k_dflt (refine' Spec.use ?k1 ?k2 ?k3 ?k4 ?k5 ?kK (sum16_spec _ _ _ _ _ _ _ _ _ _ ?p1 ?p2 ?p3) ?kd ?ku (retI ?_); (case k1 => k_asm); (case k2 => k_asm); (case k3 => k_asm); (case k4 => k_asm); (case k5 => k_asm); (case kK => first | exact rfl | assumption); (case p1 => first | assumption | fail "sum16_spec: p1"); (case p2 => first | (first | with_reducible assumption | (with_reducible refine take_lt ?_ _; with_reducible assumption) | (with_reducible refine dt_lt ?_ _ _; with_reducible assumption) | (with_reducible refine oct_lt ?_; with_reducible assumption) | (with_reducible refine map_lt ?_; with_reducible assumption) | assumption | omega | ((simp only [octF_len, List.length_append, List.length_cons, List.length_nil, List.length_map, List.length_take, List.length_drop]); omega)) | fail "sum16_spec: p2"); (case p3 => first | (first | assumption | exact sumF_nonneg _ | omega) | fail "sum16_spec: p3"); (case kd => first | ktr_room | fail "sum16_spec: room"); (case ku => first | ktr_units | fail "sum16_spec: units"); k_whole); intro t9q h9q tk9q F9q N9q; (try dsimp only); (try k_fold))
  k_with "mine call ref" => (k_here; (with_reducible show wpAny _ _ (PySem.call (Value.ref 66) _ _) _ _ _); k_dflt (refine' Spec.use ?k1 ?k2 ?k3 ?k4 ?k5 ?kK (sum16_spec1 _ _ _ _ _ _ _ _ ?p1 ?p2) ?kd ?ku (retI ?_); (case k1 => k_asm); (case k2 => k_asm); (case k3 => k_asm); (case k4 => k_asm); (case k5 => k_asm); (case kK => first | exact rfl | assumption); (case p1 => first | assumption | fail "sum16_spec1: p1"); (case p2 => first | (first | with_reducible assumption | (with_reducible refine take_lt ?_ _; with_reducible assumption) | (with_reducible refine dt_lt ?_ _ _; with_reducible assumption) | (with_reducible refine oct_lt ?_; with_reducible assumption) | (with_reducible refine map_lt ?_; with_reducible assumption) | assumption | omega | ((simp only [octF_len, List.length_append, List.length_cons, List.length_nil, List.length_map, List.length_take, List.length_drop]); omega)) | fail "sum16_spec1: p2"); (case kd => first | ktr_room | fail "sum16_spec1: room"); (case ku => first | ktr_units | fail "sum16_spec1: units"); k_whole); intro t9q h9q tk9q F9q N9q; (try dsimp only); (try k_fold))
  k_with "mine call ref" => (k_here; (with_reducible show wpAny _ _ (PySem.call (Value.ref 74) _ _) _ _ _); k_dflt (refine' Spec.use ?k1 ?k2 ?k3 ?k4 ?k5 ?kK (check_of_spec _ _ _ _ _ _ _ _ _ _ ?p1 ?p2 ?p3) ?kd ?ku (retI ?_); (case k1 => k_asm); (case k2 => k_asm); (case k3 => k_asm); (case k4 => k_asm); (case k5 => k_asm); (case kK => first | exact rfl | assumption); (case p1 => first | assumption | fail "check_of_spec: p1"); (case p2 => first | (first | with_reducible assumption | (with_reducible refine take_lt ?_ _; with_reducible assumption) | (with_reducible refine dt_lt ?_ _ _; with_reducible assumption) | (with_reducible refine oct_lt ?_; with_reducible assumption) | (with_reducible refine map_lt ?_; with_reducible assumption) | assumption | omega | ((simp only [octF_len, List.length_append, List.length_cons, List.length_nil, List.length_map, List.length_take, List.length_drop]); omega)) | fail "check_of_spec: p2"); (case p3 => first | (first | assumption | exact sumF_nonneg _ | omega) | fail "check_of_spec: p3"); (case kd => first | ktr_room | fail "check_of_spec: room"); (case ku => first | ktr_units | fail "check_of_spec: units"); k_whole); intro t9q h9q tk9q F9q N9q; (try dsimp only); (try k_fold))
  k_with "mine call ref" => (k_here; (with_reducible show wpAny _ _ (PySem.call (Value.ref 74) _ _) _ _ _); k_dflt (refine' Spec.use ?k1 ?k2 ?k3 ?k4 ?k5 ?kK (check_of_spec1 _ _ _ _ _ _ _ _ ?p1 ?p2) ?kd ?ku (retI ?_); (case k1 => k_asm); (case k2 => k_asm); (case k3 => k_asm); (case k4 => k_asm); (case k5 => k_asm); (case kK => first | exact rfl | assumption); (case p1 => first | assumption | fail "check_of_spec1: p1"); (case p2 => first | (first | with_reducible assumption | (with_reducible refine take_lt ?_ _; with_reducible assumption) | (with_reducible refine dt_lt ?_ _ _; with_reducible assumption) | (with_reducible refine oct_lt ?_; with_reducible assumption) | (with_reducible refine map_lt ?_; with_reducible assumption) | assumption | omega | ((simp only [octF_len, List.length_append, List.length_cons, List.length_nil, List.length_map, List.length_take, List.length_drop]); omega)) | fail "check_of_spec1: p2"); (case kd => first | ktr_room | fail "check_of_spec1: room"); (case ku => first | ktr_units | fail "check_of_spec1: units"); k_whole); intro t9q h9q tk9q F9q N9q; (try dsimp only); (try k_fold))
  k_with "mine exec Raise some none" => (k_here; k_dflt (refine' exc_Raise ?hx1 ?_; (case hx1 => exact rfl); k_whole))
  k_with "mine getAttr ref" => (k_here; (with_reducible rename getL _ _ = _ => hw9q); k_dflt (refine' exc_getN ?kF ?kX ?kN ?ke ?kd ?kc ?ko ?kn hw9q ?ka ?kg ?kv ?_; (case kF => k_asm); (case kN => k_asm); (case kX => k_asm); (case ke => k_mem); (case kd => k_mem); (case kc => assumption); (case ko => assumption); (case kn => assumption); (case ka => exact rfl); (case kg => exact rfl); (case kv => exact rfl); k_whole))
  k_with "mine call ref" => (k_here; (with_reducible show wpAny _ _ (PySem.call (Value.ref 88) _ _) _ _ _); k_dflt (refine' Spec.use ?k1 ?k2 ?k3 ?k4 ?k5 ?kK (SpecOE.ok (pseudo4_OE _ _ _ _ _ _ _ _ _ _ _ _ _) ⟨?p1, ?p2, ?p3, ?p4⟩) ?kd ?ku (retI ?_); (case k1 => k_asm); (case k2 => k_asm); (case k3 => k_asm); (case k4 => k_asm); (case k5 => k_asm); (case kK => first | exact rfl | assumption); (case p1 => first | assumption | fail "pseudo4: p1"); (case p2 => first | assumption | fail "pseudo4: p2"); (case p3 => first | assumption | fail "pseudo4: p3"); (case p4 => first | assumption | fail "pseudo4: p4"); (case kd => first | ktr_room | fail "pseudo4: room"); (case ku => first | ktr_units | fail "pseudo4: units"); k_whole); intro t9q h9q tk9q F9q N9q; (try dsimp only); (try k_fold))
  k_with "mine call ref" => (k_here; (with_reducible show wpAny _ _ (PySem.call (Value.ref 95) _ _) _ _ _); k_dflt (refine' Spec.use ?k1 ?k2 ?k3 ?k4 ?k5 ?kK (SpecOE.ok (pseudo6_OE _ _ _ _ _ _ _ _ _ _ _ _ _) ⟨?p1, ?p2, ?p3, ?p4⟩) ?kd ?ku (retI ?_); (case k1 => k_asm); (case k2 => k_asm); (case k3 => k_asm); (case k4 => k_asm); (case k5 => k_asm); (case kK => first | exact rfl | assumption); (case p1 => first | assumption | fail "pseudo6: p1"); (case p2 => first | assumption | fail "pseudo6: p2"); (case p3 => first | assumption | fail "pseudo6: p3"); (case p4 => first | assumption | fail "pseudo6: p4"); (case kd => first | ktr_room | fail "pseudo6: room"); (case ku => first | ktr_units | fail "pseudo6: units"); k_whole); intro t9q h9q tk9q F9q N9q; (try dsimp only); (try k_fold))
  k_with "mine call ref" => (k_here; (with_reducible show wpAny _ _ (PySem.call (Value.ref 88) _ _) _ _ _); k_dflt (refine' SpecE.use ?k1 ?k2 ?k3 ?k4 ?k5 ?kK (SpecOE.bad (pseudo4_OE _ _ _ _ _ _ _ _ _ _ _ _ _) ?p1) ?kd ?ku ?_; (case k1 => k_asm); (case k2 => k_asm); (case k3 => k_asm); (case k4 => k_asm); (case k5 => k_asm); (case kK => first | exact rfl | assumption); (case p1 => first | assumption | fail "pseudo4: p1"); (case kd => first | ktr_room | fail "pseudo4: room"); (case ku => first | ktr_units | fail "pseudo4: units"); k_whole); intro e9q dx9q es9q n9q tk9q G9q h9q tk9q F9q U9q R9q hw9q; (try dsimp only); (try k_fold))
  k_with "mine call ref" => (k_here; (with_reducible show wpAny _ _ (PySem.call (Value.ref 95) _ _) _ _ _); k_dflt (refine' SpecE.use ?k1 ?k2 ?k3 ?k4 ?k5 ?kK (SpecOE.bad (pseudo6_OE _ _ _ _ _ _ _ _ _ _ _ _ _) ?p1) ?kd ?ku ?_; (case k1 => k_asm); (case k2 => k_asm); (case k3 => k_asm); (case k4 => k_asm); (case k5 => k_asm); (case kK => first | exact rfl | assumption); (case p1 => first | assumption | fail "pseudo6: p1"); (case kd => first | ktr_room | fail "pseudo6: room"); (case ku => first | ktr_units | fail "pseudo6: units"); k_whole); intro e9q dx9q es9q n9q tk9q G9q h9q tk9q F9q U9q R9q hw9q; (try dsimp only); (try k_fold))
  k_with "mine noteFrame ref" => (k_here; (rename RaisedM _ _ _ _ _ _ _ => rM9q); k_dflt (refine' caught_M ?R ?F ?K ?U ?XB ?TB ?D ?T0 ?ex ?_ ?c1 ?c2 ?c3 ?c4; (case c1 => exact rfl); (case c2 => exact rfl); (case c3 => exact rfl); (case c4 => decide); (case R => assumption); (case F => assumption); (case K => assumption); (case U => assumption); (case XB => assumption); (case TB => assumption); (case D => assumption); (case T0 => first | assumption | exact KtsTurn.refl); (case ex => k_is); k_whole); intro h' g' oe' tk' T' F' N' hoc9q hod9q hon9q K' X' P' D'; (try k_lift K'); (try k_sweep))
  k_with "mine call ref" => (k_here; (with_reducible show wpAny _ _ (PySem.call (Value.ref 102) _ _) _ _ _); k_dflt (refine' SpecS.use ?k1 ?k2 ?k3 ?k4 ?k5 ?kK ?kS (law_digit_spec _ _ _ _ _ _ _ _ ?p1 ?p2 _ _ ?p3) ?kd ?ku (retI ?_); (case k1 => k_asm); (case k2 => k_asm); (case k3 => k_asm); (case k4 => k_asm); (case k5 => k_asm); (case kK => first | exact rfl | assumption); (case kS => assumption); (case p1 => first | with_reducible assumption | fail "law_digit_spec: p1"); (case p2 => first | with_reducible assumption | fail "law_digit_spec: p2"); (case p3 => first | (first | with_reducible assumption | exact of_decide_eq_true rfl | omega) | fail "law_digit_spec: p3"); (case kd => first | ktr_room | fail "law_digit_spec: room"); (case ku => first | ktr_units | fail "law_digit_spec: units"); k_whole); intro t9q h9q tk9q F9q N9q; (try dsimp only); (try k_fold))
  k_with "mine eval Call" => (k_here; (first | (with_reducible show wpAny _ _ (eval (PySem.Expr.Call (PySem.Expr.Name (PySem.Str.ofString "_law_digit") _) _ _ _) _) _ _ _) | (with_reducible show wpAny _ _ (eval (PySem.Expr.Call (PySem.Expr.Name (PySem.Str.ofString "_law_sum") _) _ _ _) _) _ _ _) | (with_reducible show wpAny _ _ (eval (PySem.Expr.Call (PySem.Expr.Name (PySem.Str.ofString "_law_number") _) _ _ _) _) _ _ _)); k_dflt (refine PyProof.Rows.Call_ ?_))
  unfold SpecTS Tp; k_fill
  intro dp un gd cn cs a ccd cl outer A₀ base h₀ L m s Q E B F X N T XB TB D hS hk hd hu hret
  replace N := newsCons N hl
  refine wpAny_call ?_
  k_dflt (refine' code_defT ?k1 ?k2 ?k3 ?k4 ?k5 ?kXB ?kTB ?kD ?kT0 ?kA ?kF ?kK ?k6 ?k7 ?k8 ?k9 ?kB ?_ ?c2 ?c3 ?c4 ?c5; (case kA => exact rfl); (case kF => exact rfl); (case kK => assumption); (case k1 => k_asm); (case k2 => k_asm); (case k3 => k_asm); (case k4 => k_asm); (case k5 => k_asm); (case kXB => assumption); (case kTB => assumption); (case kD => assumption); (case kT0 => exact KtsTurn.refl); (case k6 => k_is); (case k7 => k_is); (case k8 => ktr_room); (case k9 => first | exact BindsTo.of_eq rfl | exact binds_K (by k_in) rfl (by k_is) rfl rfl rfl); (case c5 => decide); (case kB => exact locs rfl); (case c2 => exact rfl); (case c3 => exact rfl); (case c4 => exact rfl); k_whole; intro g' L' h' FG' F' N' B' X' T' D'; (try dsimp only); (try k_lift B'); (try k_fold))
  repeat' (first | (fail_if_success (with_reducible show wpAny _ _ (pyIter _) _ _ _)); first | (k_unfold; (try dsimp only)) | (k_end; wrow_close) | walk1 | (dsimp only; walk1) | (leave1; try dsimp only))
  rename IsRange _ _ _ _ _ _ _ _ => hR
  rename Fr _ _ _ _ => F1
  rename News _ _ _ _ => N1
  with_unfolding_all refine' rngAny (n := 4) (fun i m nx => PsJ sc us wd nr _ _ _ i m nx) (by rfl) hR ?small ?size F1 N1 ⟨_, _, rfl, IntsAre.nil, by rfl, fun _ _ _ _ _ => rfl⟩ (fun i t m₁ nx h tk own hi9 hadr hoff hJ F2 N2 => ?turn) (fun m₁ nx h tk hJ F3 N3 => ?done)
  (case small => exact small_one (by decide) (by decide) (by decide) (by decide))
  (case size => decide)
  (case' turn => (
    (obtain ⟨vo, no, hnx, hio, hmo, hme⟩ := hJ)
    subst hnx
    (replace F2 := ps_fr hmo hme F2)
    dsimp only [envOf] at F2 N2
    simp only [List.cons_append] at N2
    (have hvl9 : vo.length = i := (hio.length.trans (List.length_map ..)).trans List.length_range)
    (rename _ ∧ AllLt _ _ => hl9)
    (have hoff9 := allNe_app hl9.2 fun p hp => hoff p hp _ (List.Mem.head _))
    rw [show (0 + (i : Int) * 1) = (i : Int) from by omega] at F2
    have hb := bit_bounds hw i
    have hb1 := hb.1
    have hb2 := hb.2
    have hd22 : 0 ≤ 22 + (i : Int) := Int.add_nonneg (by decide) (Int.natCast_nonneg i)
    repeat' (first | (fail_if_success (with_reducible show wpAny _ _ (eval (PySem.Expr.IfExp ..) _) _ _ _)); first | (k_unfold; (try dsimp only)) | (k_end; wrow_close) | walk1 | (dsimp only; walk1) | (leave1; try dsimp only))
    k_dflt (refine' Eval_int (x := bitAt wd nr i) ?jF ?jN ?jc ?jk; (case jF => k_asm); (case jN => k_asm))
    (case jc => (
      k_steps
      all_goals (refine join_int ?_ (by assumption) (by assumption) (by (first | (intro p9 hp9; (repeat (first | (with_reducible exact hp9) | (with_reducible exact List.mem_append_left _ hp9) | (with_reducible exact List.mem_append_right _ hp9) | (with_reducible refine List.mem_cons_of_mem _ ?_))); done) | kcj_all)); first | exact bit_lo (by assumption) | exact bit_hi (by assumption))))
    intro tB hB kB FB NB
    (try dsimp only)
    (try k_fold)
    repeat' (first | (fail_if_success (with_reducible show wpAny _ _ (exec (PySem.Stmt.If ..) _) _ _ _)); first | (k_unfold; (try dsimp only)) | (k_end; wrow_close) | walk1 | (dsimp only; walk1) | (leave1; try dsimp only))
    k_dflt (refine' If_dec (P := fitAt sc us wd nr i = false) ?iF ?iN ?ic ?i1 ?i2; (case iF => k_asm); (case iN => k_asm))
    (case ic => (
      k_steps
      all_goals (refine join_dec ?_ (by assumption) (by assumption) (by (first | (intro p9 hp9; (repeat (first | (with_reducible exact hp9) | (with_reducible exact List.mem_append_left _ hp9) | (with_reducible exact List.mem_append_right _ hp9) | (with_reducible refine List.mem_cons_of_mem _ ?_))); done) | kcj_all)); first | exact psd_lo rfl (by assumption) | exact psd_hi rfl (by assumption) | exact psd_in rfl (by assumption) (by assumption))))
    all_goals (
      intro hP hJ tJ FJ NJ
      (try dsimp only)
      (try k_fold)
      k_steps
      (rename News _ _ _ _ => nE9)
      (try simp only [List.push_toArray] at nE9)
      refine ps_end (by assumption) nE9 (by k_mem) (IntsAre.append hio (.cons _ _ .nil)) (by exact rfl) (by exact rfl) (by first | exact ps_no hP | exact ps_yes hP) (by (intro z h1 h2 h3 h4; repeat (first | (with_reducible exact rfl) | refine (if_neg (by assumption)).trans ?_))) (by (first | (intro p9 hp9; (repeat (first | (with_reducible exact hp9) | (with_reducible exact List.mem_append_left _ hp9) | (with_reducible exact List.mem_append_right _ hp9) | (with_reducible refine List.mem_cons_of_mem _ ?_))); done) | kcj_all)) (by (first | (intro p9 hp9; (repeat (first | (with_reducible exact hp9) | (with_reducible exact List.mem_append_left _ hp9) | (with_reducible exact List.mem_append_right _ hp9) | (with_reducible refine List.mem_cons_of_mem _ ?_))); done) | kcj_all)))))
  (case' done => (
    (obtain ⟨vo, no, hnx, hio, hmo, hme⟩ := hJ)
    subst hnx
    (replace F3 := ps_out hmo hme F3)
    dsimp only [envOf] at F3 N3
    (have hio9 : IntsAre vo [numAt sc us wd nr 0, numAt sc us wd nr 1, numAt sc us wd nr 2, numAt sc us wd nr 3] := hio)
    clear hio hmo hme
    rcases hw with ⟨rfl, rfl⟩ | ⟨rfl, rfl⟩
    · skip
      (have hfit9 := (fits_32 (sc := sc) (us := us)))
      revert hio9 hfit9
      generalize numAt sc us 32 16 0 = x9
      generalize numAt sc us 32 16 1 = y9
      generalize numAt sc us 32 16 2 = z9
      generalize numAt sc us 32 16 3 = u9
      generalize fitsTo sc us 32 16 4 = f9 at F3 ⊢
      intro hio9 hfit9
      cases f9
      · (have hbad9 := fun q => Bool.false_ne_true (hfit9.mpr q))
        clear hfit9
        k_steps
        (refine' endBT (Q := Q) (s := s) hret ?e0 ?e1 ?e2 ?e3 ?e4 ?e5 ?e6 ?e7 ?e8; (case e2 => k_asm); (case e3 => k_asm); (case e1 => first | assumption | exact KtsTurn.refl); (case e4 => assumption); (case e5 => assumption); (case e6 => assumption); (case e7 => assumption); (case e8 => (first | (intro p9 hp9; (repeat (first | (with_reducible exact hp9) | (with_reducible exact List.mem_append_left _ hp9) | (with_reducible exact List.mem_append_right _ hp9) | (with_reducible refine List.mem_cons_of_mem _ ?_))); done) | kcj_all)); (case e0 => rfl))
      · (obtain ⟨hx9, hy9, hz9, hu9⟩ := hfit9.mp rfl)
        clear hfit9
        k_steps
        (refine' endBT (Q := Q) (s := s) hret ?e0 ?e1 ?e2 ?e3 ?e4 ?e5 ?e6 ?e7 ?e8; (case e2 => k_asm); (case e3 => k_asm); (case e1 => first | assumption | exact KtsTurn.refl); (case e4 => assumption); (case e5 => assumption); (case e6 => assumption); (case e7 => assumption); (case e8 => (first | (intro p9 hp9; (repeat (first | (with_reducible exact hp9) | (with_reducible exact List.mem_append_left _ hp9) | (with_reducible exact List.mem_append_right _ hp9) | (with_reducible refine List.mem_cons_of_mem _ ?_))); done) | kcj_all)); (case e0 => exact beq_iff_eq.mpr ((pseudo4_sum hx9 hy9 hz9 hu9).trans (congrArg sumF (four_add x9 y9 z9 u9)))))
    · skip
      (have hfit9 := (fits_128 (sc := sc) (us := us)))
      revert hio9 hfit9
      generalize numAt sc us 128 32 0 = x9
      generalize numAt sc us 128 32 1 = y9
      generalize numAt sc us 128 32 2 = z9
      generalize numAt sc us 128 32 3 = u9
      generalize fitsTo sc us 128 32 4 = f9 at F3 ⊢
      intro hio9 hfit9
      cases f9
      · (have hbad9 := fun q => Bool.false_ne_true (hfit9.mpr q))
        clear hfit9
        k_steps
        (refine' endBT (Q := Q) (s := s) hret ?e0 ?e1 ?e2 ?e3 ?e4 ?e5 ?e6 ?e7 ?e8; (case e2 => k_asm); (case e3 => k_asm); (case e1 => first | assumption | exact KtsTurn.refl); (case e4 => assumption); (case e5 => assumption); (case e6 => assumption); (case e7 => assumption); (case e8 => (first | (intro p9 hp9; (repeat (first | (with_reducible exact hp9) | (with_reducible exact List.mem_append_left _ hp9) | (with_reducible exact List.mem_append_right _ hp9) | (with_reducible refine List.mem_cons_of_mem _ ?_))); done) | kcj_all)); (case e0 => rfl))
      · (obtain ⟨hx9, hy9, hz9, hu9⟩ := hfit9.mp rfl)
        clear hfit9
        k_steps
        (refine' endBT (Q := Q) (s := s) hret ?e0 ?e1 ?e2 ?e3 ?e4 ?e5 ?e6 ?e7 ?e8; (case e2 => k_asm); (case e3 => k_asm); (case e1 => first | assumption | exact KtsTurn.refl); (case e4 => assumption); (case e5 => assumption); (case e6 => assumption); (case e7 => assumption); (case e8 => (first | (intro p9 hp9; (repeat (first | (with_reducible exact hp9) | (with_reducible exact List.mem_append_left _ hp9) | (with_reducible exact List.mem_append_right _ hp9) | (with_reducible refine List.mem_cons_of_mem _ ?_))); done) | kcj_all)); (case e0 => exact beq_iff_eq.mpr ((pseudo6_sum hx9 hy9 hz9 hu9).trans (congrArg sumF (four_add x9 y9 z9 u9)))))
    done))

end law_pseudo
section top
theorem reset_top : True := by (w_top off; k_with_none; exact trivial)
theorem SpecTS.use0 {w : World} {mean : ExcName → Option Value} {mg mb : Str → Option Value} {ls : Addr} {vss : List Value} {f : Addr} {dN uN : Nat} {news : Led} {vs : List Value} {R : Value → Led → Prop}
    {dp un : Nat} {gd : Option (List Code)} {cn : Str} {cs : Scope} {a : Addr} {ccd : Value} {cl : List (Str × Addr)} {A₀ : Around} {h₀ : Heap} {L : Addr} {m : Str → Option Value} {s : Shared} {Q E : Value → Shared → Prop}
    (B : Below A₀ h₀ [] h₀) (F : Fr h₀ L s.heap m) (X : (hd.heap_39 w.params).In h₀) (N : News h₀ L s.heap news) (T : Tp mean mg mb h₀) (hk : cs.kind = .function) (hS : h₀.IsList ls vss.toArray)
    (C : SpecTS w mean mg mb ls vss f dN uN news vs R) (hd1 : dp + dN < recursionLimit) (hu1 : un + uN < cLine)
    (ret : ∀ (v : Value) (tl : Led) (h' : Heap) (tk' : Nat), R v tl → Fr h₀ L h' m → News h₀ L h' (tl ++ news) → Q v { s with heap := h', toks := tk' }) :
    wpAny (model PySem.Challenge.rw_pf0325_01.row.prog w) (ktrTop dp un gd cn cs L a ccd cl []) (call (.ref f) vs) Q E s :=
  C dp un gd cn cs a ccd cl [] A₀ h₀ h₀ L m s Q E B F X N T X T (fun b hb => nomatch hb) hS hk hd1 hu1 (fun v tl h' tk' h₀' hR T' F' N' _ _ _ _ =>
    ret v tl h' tk' hR ⟨F'.ns, fun b o e => F'.keep b o (T'.other b o e (fun q => nomatch q)), F.above⟩ (fun p hp => ⟨(N' p hp).1, (N' p hp).2.1, by
      cases q : h₀.get? p.1 with
      | none => rfl
      | some o =>
        have := (N' p hp).2.2
        rw [T'.other _ _ q (fun q => nomatch q)] at this
        cases this⟩))
set_option maxHeartbeats 8000000 in
theorem topt : PySem.Challenge.rw_pf0325_01.Holds :=
  hd (by
    k_with_none
    k_with "mine pyIter ref" => k_extra "my iter"
    k_with "mine exec For" => (k_extra "my for"; (rename Fr _ _ _ _ => lF'); (with_unfolding_all refine' For_invVF lF' ?k1 ?k2 ?_; (case k1 => exact rfl); (case k2 => exact rfl); k_whole))
    k_with "kmk nums" => first | with_reducible exact kmk_all (by l_ints) | (with_reducible refine kmk_from (by l_ints) ?_; first | assumption | omega) | (with_reducible refine kmk_upto (by l_ints) ?_; first | assumption | omega) | (with_reducible refine kmk_run (by l_ints) ?_ ?_ <;> first | assumption | omega)
    k_with "room" => exact roomA (by with_reducible assumption) rfl
    k_with "mine eval Name" => (k_here; k_dflt (refine' nameX_L ?F ?v ?_ ?a ?b; (case F => k_asm); (case a => exact rfl); (case b => exact Eq.refl (some _)); (case v => exact Eq.refl (some _)); k_whole))
    k_with "mine And" => ((with_reducible show Frag.In _ _ ∧ _); k_dflt (refine ⟨Frag.In.keeps (by k_asm) (Fr.keep (by k_asm)), ?_⟩))
    k_with "mine call ref" => (k_here; (with_reducible show wpAny _ _ (PySem.call (Value.ref 130) _ _) _ _ _); k_dflt (refine' Spec.use ?k1 ?k2 ?k3 ?k4 ?k5 ?kK (law_sum_spec _ _ _ _ _ _ _) ?kd ?ku (retI ?_); (case k1 => k_asm); (case k2 => k_asm); (case k3 => k_asm); (case k4 => k_asm); (case k5 => k_asm); (case kK => first | exact rfl | assumption); (case kd => first | ktr_room | fail "law_sum_spec: room"); (case ku => first | ktr_units | fail "law_sum_spec: units"); k_whole); intro t9q h9q tk9q F9q N9q; (try dsimp only); (try k_fold))
    k_with "mine call ref" => (k_here; (with_reducible show wpAny _ _ (PySem.call (Value.ref 58) _ _) _ _ _); k_dflt (refine' Spec.use ?k1 ?k2 ?k3 ?k4 ?k5 ?kK (folded_spec _ _ _ _ _ _ _ ?p1) ?kd ?ku (retI ?_); (case k1 => k_asm); (case k2 => k_asm); (case k3 => k_asm); (case k4 => k_asm); (case k5 => k_asm); (case kK => first | exact rfl | assumption); (case p1 => first | (first | omega | exact Int.add_nonneg (by omega) (Int.mul_nonneg (by omega) (by decide))) | fail "folded_spec: p1"); (case kd => first | ktr_room | fail "folded_spec: room"); (case ku => first | ktr_units | fail "folded_spec: units"); k_whole); intro t9q h9q tk9q F9q N9q; (try dsimp only); (try k_fold))
    k_with "mine call ref" => (k_here; (with_reducible show wpAny _ _ (PySem.call (Value.ref 123) _ _) _ _ _); k_dflt (refine' Spec.use ?k1 ?k2 ?k3 ?k4 ?k5 ?kK (law_whole_spec _ _ _ _ _ _ _ _ _ ?p1 ?p2) ?kd ?ku (retI ?_); (case k1 => k_asm); (case k2 => k_asm); (case k3 => k_asm); (case k4 => k_asm); (case k5 => k_asm); (case kK => first | exact rfl | assumption); (case p1 => first | k_mem | fail "law_whole_spec: p1"); (case p2 => first | l_ints | fail "law_whole_spec: p2"); (case kd => first | ktr_room | fail "law_whole_spec: room"); (case ku => first | ktr_units | fail "law_whole_spec: units"); k_whole); intro t9q h9q tk9q F9q N9q; (try dsimp only); (try k_fold))
    k_with "mine call ref" => (k_here; (with_reducible show wpAny _ _ (PySem.call (Value.ref 66) _ _) _ _ _); k_dflt (refine' Spec.use ?k1 ?k2 ?k3 ?k4 ?k5 ?kK (sum16_spec _ _ _ _ _ _ _ _ _ _ ?p1 ?p2 ?p3) ?kd ?ku (retI ?_); (case k1 => k_asm); (case k2 => k_asm); (case k3 => k_asm); (case k4 => k_asm); (case k5 => k_asm); (case kK => first | exact rfl | assumption); (case p1 => first | assumption | fail "sum16_spec: p1"); (case p2 => first | (first | with_reducible assumption | (with_reducible refine take_lt ?_ _; with_reducible assumption) | (with_reducible refine dt_lt ?_ _ _; with_reducible assumption) | (with_reducible refine oct_lt ?_; with_reducible assumption) | (with_reducible refine map_lt ?_; with_reducible assumption) | assumption | omega | ((simp only [octF_len, List.length_append, List.length_cons, List.length_nil, List.length_map, List.length_take, List.length_drop]); omega)) | fail "sum16_spec: p2"); (case p3 => first | (first | assumption | exact sumF_nonneg _ | omega) | fail "sum16_spec: p3"); (case kd => first | ktr_room | fail "sum16_spec: room"); (case ku => first | ktr_units | fail "sum16_spec: units"); k_whole); intro t9q h9q tk9q F9q N9q; (try dsimp only); (try k_fold))
    k_with "mine call ref" => (k_here; (with_reducible show wpAny _ _ (PySem.call (Value.ref 66) _ _) _ _ _); k_dflt (refine' Spec.use ?k1 ?k2 ?k3 ?k4 ?k5 ?kK (sum16_spec1 _ _ _ _ _ _ _ _ ?p1 ?p2) ?kd ?ku (retI ?_); (case k1 => k_asm); (case k2 => k_asm); (case k3 => k_asm); (case k4 => k_asm); (case k5 => k_asm); (case kK => first | exact rfl | assumption); (case p1 => first | assumption | fail "sum16_spec1: p1"); (case p2 => first | (first | with_reducible assumption | (with_reducible refine take_lt ?_ _; with_reducible assumption) | (with_reducible refine dt_lt ?_ _ _; with_reducible assumption) | (with_reducible refine oct_lt ?_; with_reducible assumption) | (with_reducible refine map_lt ?_; with_reducible assumption) | assumption | omega | ((simp only [octF_len, List.length_append, List.length_cons, List.length_nil, List.length_map, List.length_take, List.length_drop]); omega)) | fail "sum16_spec1: p2"); (case kd => first | ktr_room | fail "sum16_spec1: room"); (case ku => first | ktr_units | fail "sum16_spec1: units"); k_whole); intro t9q h9q tk9q F9q N9q; (try dsimp only); (try k_fold))
    k_with "mine call ref" => (k_here; (with_reducible show wpAny _ _ (PySem.call (Value.ref 74) _ _) _ _ _); k_dflt (refine' Spec.use ?k1 ?k2 ?k3 ?k4 ?k5 ?kK (check_of_spec _ _ _ _ _ _ _ _ _ _ ?p1 ?p2 ?p3) ?kd ?ku (retI ?_); (case k1 => k_asm); (case k2 => k_asm); (case k3 => k_asm); (case k4 => k_asm); (case k5 => k_asm); (case kK => first | exact rfl | assumption); (case p1 => first | assumption | fail "check_of_spec: p1"); (case p2 => first | (first | with_reducible assumption | (with_reducible refine take_lt ?_ _; with_reducible assumption) | (with_reducible refine dt_lt ?_ _ _; with_reducible assumption) | (with_reducible refine oct_lt ?_; with_reducible assumption) | (with_reducible refine map_lt ?_; with_reducible assumption) | assumption | omega | ((simp only [octF_len, List.length_append, List.length_cons, List.length_nil, List.length_map, List.length_take, List.length_drop]); omega)) | fail "check_of_spec: p2"); (case p3 => first | (first | assumption | exact sumF_nonneg _ | omega) | fail "check_of_spec: p3"); (case kd => first | ktr_room | fail "check_of_spec: room"); (case ku => first | ktr_units | fail "check_of_spec: units"); k_whole); intro t9q h9q tk9q F9q N9q; (try dsimp only); (try k_fold))
    k_with "mine call ref" => (k_here; (with_reducible show wpAny _ _ (PySem.call (Value.ref 74) _ _) _ _ _); k_dflt (refine' Spec.use ?k1 ?k2 ?k3 ?k4 ?k5 ?kK (check_of_spec1 _ _ _ _ _ _ _ _ ?p1 ?p2) ?kd ?ku (retI ?_); (case k1 => k_asm); (case k2 => k_asm); (case k3 => k_asm); (case k4 => k_asm); (case k5 => k_asm); (case kK => first | exact rfl | assumption); (case p1 => first | assumption | fail "check_of_spec1: p1"); (case p2 => first | (first | with_reducible assumption | (with_reducible refine take_lt ?_ _; with_reducible assumption) | (with_reducible refine dt_lt ?_ _ _; with_reducible assumption) | (with_reducible refine oct_lt ?_; with_reducible assumption) | (with_reducible refine map_lt ?_; with_reducible assumption) | assumption | omega | ((simp only [octF_len, List.length_append, List.length_cons, List.length_nil, List.length_map, List.length_take, List.length_drop]); omega)) | fail "check_of_spec1: p2"); (case kd => first | ktr_room | fail "check_of_spec1: room"); (case ku => first | ktr_units | fail "check_of_spec1: units"); k_whole); intro t9q h9q tk9q F9q N9q; (try dsimp only); (try k_fold))
    k_with "mine call ref" => (k_here; (with_reducible show wpAny _ _ (PySem.call (Value.ref 81) _ _) _ _ _); k_dflt (refine' Spec.use ?k1 ?k2 ?k3 ?k4 ?k5 ?kK (mend_spec _ _ _ _ _ _ _ _ _ _ _ _ _ ?p1 ?p2 ?p3 ?p4 ?p5 ?p6) ?kd ?ku (retI ?_); (case k1 => k_asm); (case k2 => k_asm); (case k3 => k_asm); (case k4 => k_asm); (case k5 => k_asm); (case kK => first | exact rfl | assumption); (case p1 => first | assumption | fail "mend_spec: p1"); (case p2 => first | assumption | fail "mend_spec: p2"); (case p3 => first | (first | with_reducible assumption | (with_reducible refine take_lt ?_ _; with_reducible assumption) | (with_reducible refine dt_lt ?_ _ _; with_reducible assumption) | (with_reducible refine oct_lt ?_; with_reducible assumption) | (with_reducible refine map_lt ?_; with_reducible assumption) | assumption | omega | ((simp only [octF_len, List.length_append, List.length_cons, List.length_nil, List.length_map, List.length_take, List.length_drop]); omega)) | fail "mend_spec: p3"); (case p4 => first | (first | with_reducible assumption | (with_reducible refine take_lt ?_ _; with_reducible assumption) | (with_reducible refine dt_lt ?_ _ _; with_reducible assumption) | (with_reducible refine oct_lt ?_; with_reducible assumption) | (with_reducible refine map_lt ?_; with_reducible assumption) | assumption | omega | ((simp only [octF_len, List.length_append, List.length_cons, List.length_nil, List.length_map, List.length_take, List.length_drop]); omega)) | fail "mend_spec: p4"); (case p5 => first | (first | with_reducible assumption | (with_reducible refine take_lt ?_ _; with_reducible assumption) | (with_reducible refine dt_lt ?_ _ _; with_reducible assumption) | (with_reducible refine oct_lt ?_; with_reducible assumption) | (with_reducible refine map_lt ?_; with_reducible assumption) | assumption | omega | ((simp only [octF_len, List.length_append, List.length_cons, List.length_nil, List.length_map, List.length_take, List.length_drop]); omega)) | fail "mend_spec: p5"); (case p6 => first | (first | assumption | omega | exact mendF_le _ _ _) | fail "mend_spec: p6"); (case kd => first | ktr_room | fail "mend_spec: room"); (case ku => first | ktr_units | fail "mend_spec: units"); k_whole); intro t9q h9q tk9q F9q N9q; (try dsimp only); (try k_fold))
    k_with "mine call ref" => (k_here; (with_reducible show wpAny _ _ (PySem.call (Value.ref 109) _ _) _ _ _); k_dflt (refine' Spec.use ?k1 ?k2 ?k3 ?k4 ?k5 ?kK (law_words_specI _ _ _ _ _ _ _ _ _ _ _ ?p1 ?p2) ?kd ?ku (retN ?_); (case k1 => k_asm); (case k2 => k_asm); (case k3 => k_asm); (case k4 => k_asm); (case k5 => k_asm); (case kK => first | exact rfl | assumption); (case p1 => first | (first | assumption | exact sumF_nonneg _ | omega) | fail "law_words_specI: p1"); (case p2 => first | (first | assumption | exact sumF_nonneg _ | omega) | fail "law_words_specI: p2"); (case kd => first | ktr_room | fail "law_words_specI: room"); (case ku => first | ktr_units | fail "law_words_specI: units"); k_whole); intro l9q vs9q n9q h9q tk9q hi9q hz9q F9q N9q; (try k_lt hz9q); (have hw9q := words_len hi9q); (try dsimp only); (try k_fold))
    k_with "mine call ref" => (k_here; (with_reducible show wpAny _ _ (PySem.call (Value.ref 116) _ _) _ _ _); k_dflt (refine' Spec.use ?k1 ?k2 ?k3 ?k4 ?k5 ?kK (law_octets_spec _ _ _ _ _ _ _ _ _ ?p1 ?p2 ?p3 ?p4) ?kd ?ku (retY ?_); (case k1 => k_asm); (case k2 => k_asm); (case k3 => k_asm); (case k4 => k_asm); (case k5 => k_asm); (case kK => first | exact rfl | assumption); (case p1 => first | k_mem | fail "law_octets_spec: p1"); (case p2 => first | l_ints | fail "law_octets_spec: p2"); (case p3 => first | (first | with_reducible assumption | (with_reducible refine take_lt ?_ _; with_reducible assumption) | (with_reducible refine dt_lt ?_ _ _; with_reducible assumption) | (with_reducible refine oct_lt ?_; with_reducible assumption) | (with_reducible refine map_lt ?_; with_reducible assumption) | assumption | omega | ((simp only [octF_len, List.length_append, List.length_cons, List.length_nil, List.length_map, List.length_take, List.length_drop]); omega)) | fail "law_octets_spec: p3"); (case p4 => first | (show W16 _; repeat' (first | assumption | exact W16.words _ _ _ | exact W16.one (by decide) (by decide) | exact W16.check _ | refine W16.app ?_ ?_ | refine W16.take ?_ _ | refine W16.drop ?_ _)) | fail "law_octets_spec: p4"); (case kd => first | ktr_room | fail "law_octets_spec: room"); (case ku => first | ktr_units | fail "law_octets_spec: units"); k_whole); intro b9q t9q h9q tk9q hb9q F9q N9q; (try dsimp only); (try k_fold))
    k_with "mine call ref" => (k_here; (with_reducible show wpAny _ _ (PySem.call (Value.ref 137) _ _) _ _ _); k_dflt (refine' Spec.use ?k1 ?k2 ?k3 ?k4 ?k5 ?kK (law_mend_spec _ _ _ _ _ _ _ _ _ _ _ _ _ _ _ ?p1 ?p2 ?p3 ?p4 ?p5) ?kd ?ku (retI ?_); (case k1 => k_asm); (case k2 => k_asm); (case k3 => k_asm); (case k4 => k_asm); (case k5 => k_asm); (case kK => first | exact rfl | assumption); (case p1 => first | k_mem | fail "law_mend_spec: p1"); (case p2 => first | l_ints | fail "law_mend_spec: p2"); (case p3 => first | k_mem | fail "law_mend_spec: p3"); (case p4 => first | l_ints | fail "law_mend_spec: p4"); (case p5 => first | (first | with_reducible assumption | (with_reducible refine take_lt ?_ _; with_reducible assumption) | (with_reducible refine dt_lt ?_ _ _; with_reducible assumption) | (with_reducible refine oct_lt ?_; with_reducible assumption) | (with_reducible refine map_lt ?_; with_reducible assumption) | assumption | omega | ((simp only [octF_len, List.length_append, List.length_cons, List.length_nil, List.length_map, List.length_take, List.length_drop]); omega)) | fail "law_mend_spec: p5"); (case kd => first | ktr_room | fail "law_mend_spec: room"); (case ku => first | ktr_units | fail "law_mend_spec: units"); k_whole); intro t9q h9q tk9q F9q N9q; (try dsimp only); (try k_fold))
    k_with "mine call ref" => (k_here; (with_reducible show wpAny _ _ (PySem.call (Value.ref 151) _ _) _ _ _); k_dflt (refine' SpecS.use ?k1 ?k2 ?k3 ?k4 ?k5 ?kK ?kS (law_sums_spec _ _ _ _ _ _ _ _ ?p1 ?p2 _ _ _ _ ?p3 ?p4 ?p5 ?p6 _ _ _ _ ?p7 ?p8 _ ?p9q) ?kd ?ku (retB ?_); (case k1 => k_asm); (case k2 => k_asm); (case k3 => k_asm); (case k4 => k_asm); (case k5 => k_asm); (case kK => first | exact rfl | assumption); (case kS => assumption); (case p1 => first | l_ints | fail "law_sums_spec: p1"); (case p2 => first | (first | with_reducible assumption | (with_reducible refine take_lt ?_ _; with_reducible assumption) | (with_reducible refine dt_lt ?_ _ _; with_reducible assumption) | (with_reducible refine oct_lt ?_; with_reducible assumption) | (with_reducible refine map_lt ?_; with_reducible assumption) | assumption | omega | ((simp only [octF_len, List.length_append, List.length_cons, List.length_nil, List.length_map, List.length_take, List.length_drop]); omega)) | fail "law_sums_spec: p2"); (case p3 => first | k_mem | fail "law_sums_spec: p3"); (case p4 => first | l_ints | fail "law_sums_spec: p4"); (case p5 => first | (first | with_reducible assumption | (with_reducible refine take_lt ?_ _; with_reducible assumption) | (with_reducible refine dt_lt ?_ _ _; with_reducible assumption) | (with_reducible refine oct_lt ?_; with_reducible assumption) | (with_reducible refine map_lt ?_; with_reducible assumption) | assumption | omega | ((simp only [octF_len, List.length_append, List.length_cons, List.length_nil, List.length_map, List.length_take, List.length_drop]); omega)) | fail "law_sums_spec: p5"); (case p6 => first | (show W16 _; repeat' (first | assumption | exact W16.words _ _ _ | exact W16.one (by decide) (by decide) | exact W16.check _ | refine W16.app ?_ ?_ | refine W16.take ?_ _ | refine W16.drop ?_ _)) | fail "law_sums_spec: p6"); (case p7 => first | assumption | fail "law_sums_spec: p7"); (case p8 => first | rfl | fail "law_sums_spec: p8"); (case p9q => first | (first | assumption | exact sumF_nonneg _ | omega) | fail "law_sums_spec: p9q"); (case kd => first | ktr_room | fail "law_sums_spec: room"); (case ku => first | ktr_units | fail "law_sums_spec: units"); k_whole); intro h9q tk9q F9q N9q; (try dsimp only); (try k_fold))
    k_with "mine call ref" => (k_here; (with_reducible show wpAny _ _ (PySem.call (Value.ref 158) _ _) _ _ _); k_dflt (refine' SpecS.use ?k1 ?k2 ?k3 ?k4 ?k5 ?kK ?kS (law_changes_spec _ _ _ _ _ _ _ _ ?p1 ?p2 _ _ _ _ ?p3 ?p4 ?p5 ?p6) ?kd ?ku (retB ?_); (case k1 => k_asm); (case k2 => k_asm); (case k3 => k_asm); (case k4 => k_asm); (case k5 => k_asm); (case kK => first | exact rfl | assumption); (case kS => assumption); (case p1 => first | l_ints | fail "law_changes_spec: p1"); (case p2 => first | (first | with_reducible assumption | (with_reducible refine take_lt ?_ _; with_reducible assumption) | (with_reducible refine dt_lt ?_ _ _; with_reducible assumption) | (with_reducible refine oct_lt ?_; with_reducible assumption) | (with_reducible refine map_lt ?_; with_reducible assumption) | assumption | omega | ((simp only [octF_len, List.length_append, List.length_cons, List.length_nil, List.length_map, List.length_take, List.length_drop]); omega)) | fail "law_changes_spec: p2"); (case p3 => first | k_mem | fail "law_changes_spec: p3"); (case p4 => first | l_ints | fail "law_changes_spec: p4"); (case p5 => first | (first | with_reducible assumption | (with_reducible refine take_lt ?_ _; with_reducible assumption) | (with_reducible refine dt_lt ?_ _ _; with_reducible assumption) | (with_reducible refine oct_lt ?_; with_reducible assumption) | (with_reducible refine map_lt ?_; with_reducible assumption) | assumption | omega | ((simp only [octF_len, List.length_append, List.length_cons, List.length_nil, List.length_map, List.length_take, List.length_drop]); omega)) | fail "law_changes_spec: p5"); (case p6 => first | (show W16 _; repeat' (first | assumption | exact W16.words _ _ _ | exact W16.one (by decide) (by decide) | exact W16.check _ | refine W16.app ?_ ?_ | refine W16.take ?_ _ | refine W16.drop ?_ _)) | fail "law_changes_spec: p6"); (case kd => first | ktr_room | fail "law_changes_spec: room"); (case ku => first | ktr_units | fail "law_changes_spec: units"); k_whole); intro h9q tk9q F9q N9q; (try dsimp only); (try k_fold))
    k_with "mine exec Raise some none" => (k_here; k_dflt (refine' exc_Raise ?hx1 ?_; (case hx1 => exact rfl); k_whole))
    k_with "mine getAttr ref" => (k_here; (with_reducible rename getL _ _ = _ => hw9q); k_dflt (refine' exc_getN ?kF ?kX ?kN ?ke ?kd ?kc ?ko ?kn hw9q ?ka ?kg ?kv ?_; (case kF => k_asm); (case kN => k_asm); (case kX => k_asm); (case ke => k_mem); (case kd => k_mem); (case kc => assumption); (case ko => assumption); (case kn => assumption); (case ka => exact rfl); (case kg => exact rfl); (case kv => exact rfl); k_whole))
    k_with "mine call ref" => (k_here; (with_reducible show wpAny _ _ (PySem.call (Value.ref 88) _ _) _ _ _); k_dflt (refine' Spec.use ?k1 ?k2 ?k3 ?k4 ?k5 ?kK (SpecOE.ok (pseudo4_OE _ _ _ _ _ _ _ _ _ _ _ _ _) ⟨?p1, ?p2, ?p3, ?p4⟩) ?kd ?ku (retI ?_); (case k1 => k_asm); (case k2 => k_asm); (case k3 => k_asm); (case k4 => k_asm); (case k5 => k_asm); (case kK => first | exact rfl | assumption); (case p1 => first | assumption | fail "pseudo4: p1"); (case p2 => first | assumption | fail "pseudo4: p2"); (case p3 => first | assumption | fail "pseudo4: p3"); (case p4 => first | assumption | fail "pseudo4: p4"); (case kd => first | ktr_room | fail "pseudo4: room"); (case ku => first | ktr_units | fail "pseudo4: units"); k_whole); intro t9q h9q tk9q F9q N9q; (try dsimp only); (try k_fold))
    k_with "mine call ref" => (k_here; (with_reducible show wpAny _ _ (PySem.call (Value.ref 95) _ _) _ _ _); k_dflt (refine' Spec.use ?k1 ?k2 ?k3 ?k4 ?k5 ?kK (SpecOE.ok (pseudo6_OE _ _ _ _ _ _ _ _ _ _ _ _ _) ⟨?p1, ?p2, ?p3, ?p4⟩) ?kd ?ku (retI ?_); (case k1 => k_asm); (case k2 => k_asm); (case k3 => k_asm); (case k4 => k_asm); (case k5 => k_asm); (case kK => first | exact rfl | assumption); (case p1 => first | assumption | fail "pseudo6: p1"); (case p2 => first | assumption | fail "pseudo6: p2"); (case p3 => first | assumption | fail "pseudo6: p3"); (case p4 => first | assumption | fail "pseudo6: p4"); (case kd => first | ktr_room | fail "pseudo6: room"); (case ku => first | ktr_units | fail "pseudo6: units"); k_whole); intro t9q h9q tk9q F9q N9q; (try dsimp only); (try k_fold))
    k_with "mine call ref" => (k_here; (with_reducible show wpAny _ _ (PySem.call (Value.ref 88) _ _) _ _ _); k_dflt (refine' SpecE.use ?k1 ?k2 ?k3 ?k4 ?k5 ?kK (SpecOE.bad (pseudo4_OE _ _ _ _ _ _ _ _ _ _ _ _ _) ?p1) ?kd ?ku ?_; (case k1 => k_asm); (case k2 => k_asm); (case k3 => k_asm); (case k4 => k_asm); (case k5 => k_asm); (case kK => first | exact rfl | assumption); (case p1 => first | assumption | fail "pseudo4: p1"); (case kd => first | ktr_room | fail "pseudo4: room"); (case ku => first | ktr_units | fail "pseudo4: units"); k_whole); intro e9q dx9q es9q n9q tk9q G9q h9q tk9q F9q U9q R9q hw9q; (try dsimp only); (try k_fold))
    k_with "mine call ref" => (k_here; (with_reducible show wpAny _ _ (PySem.call (Value.ref 95) _ _) _ _ _); k_dflt (refine' SpecE.use ?k1 ?k2 ?k3 ?k4 ?k5 ?kK (SpecOE.bad (pseudo6_OE _ _ _ _ _ _ _ _ _ _ _ _ _) ?p1) ?kd ?ku ?_; (case k1 => k_asm); (case k2 => k_asm); (case k3 => k_asm); (case k4 => k_asm); (case k5 => k_asm); (case kK => first | exact rfl | assumption); (case p1 => first | assumption | fail "pseudo6: p1"); (case kd => first | ktr_room | fail "pseudo6: room"); (case ku => first | ktr_units | fail "pseudo6: units"); k_whole); intro e9q dx9q es9q n9q tk9q G9q h9q tk9q F9q U9q R9q hw9q; (try dsimp only); (try k_fold))
    k_with "mine call ref" => (k_here; (with_reducible show wpAny _ _ (PySem.call (Value.ref 109) _ _) _ _ _); k_dflt (refine' Spec.use ?k1 ?k2 ?k3 ?k4 ?k5 ?kK (law_words_specI _ _ _ _ _ _ _ _ _ _ _ ?p1 ?p2) ?kd ?ku (retN ?_); (case k1 => k_asm); (case k2 => k_asm); (case k3 => k_asm); (case k4 => k_asm); (case k5 => k_asm); (case kK => first | exact rfl | assumption); (case p1 => first | (first | assumption | exact sumF_nonneg _ | omega) | fail "law_words_specI: p1"); (case p2 => first | (first | assumption | exact sumF_nonneg _ | omega) | fail "law_words_specI: p2"); (case kd => first | ktr_room | fail "law_words_specI: room"); (case ku => first | ktr_units | fail "law_words_specI: units"); k_whole); intro l9q vs9q n9q h9q tk9q hi9q hz9q F9q N9q; (try k_lt hz9q); (have hw9q := words_len hi9q); (try dsimp only); (try k_fold))
    k_with "mine call ref" => (k_here; (with_reducible show wpAny _ _ (PySem.call (Value.ref 116) _ _) _ _ _); k_dflt (refine' Spec.use ?k1 ?k2 ?k3 ?k4 ?k5 ?kK (law_octets_spec _ _ _ _ _ _ _ _ _ ?p1 ?p2 ?p3 ?p4) ?kd ?ku (retY ?_); (case k1 => k_asm); (case k2 => k_asm); (case k3 => k_asm); (case k4 => k_asm); (case k5 => k_asm); (case kK => first | exact rfl | assumption); (case p1 => first | k_mem | fail "law_octets_spec: p1"); (case p2 => first | l_ints | fail "law_octets_spec: p2"); (case p3 => first | (first | with_reducible assumption | (with_reducible refine take_lt ?_ _; with_reducible assumption) | (with_reducible refine dt_lt ?_ _ _; with_reducible assumption) | (with_reducible refine oct_lt ?_; with_reducible assumption) | (with_reducible refine map_lt ?_; with_reducible assumption) | assumption | omega | ((simp only [octF_len, List.length_append, List.length_cons, List.length_nil, List.length_map, List.length_take, List.length_drop]); omega)) | fail "law_octets_spec: p3"); (case p4 => first | (show W16 _; repeat' (first | assumption | exact W16.words _ _ _ | exact W16.one (by decide) (by decide) | exact W16.check _ | refine W16.app ?_ ?_ | refine W16.take ?_ _ | refine W16.drop ?_ _)) | fail "law_octets_spec: p4"); (case kd => first | ktr_room | fail "law_octets_spec: room"); (case ku => first | ktr_units | fail "law_octets_spec: units"); k_whole); intro b9q t9q h9q tk9q hb9q F9q N9q; (try dsimp only); (try k_fold))
    k_with "mine call ref" => (k_here; (with_reducible show wpAny _ _ (PySem.call (Value.ref 158) _ _) _ _ _); k_dflt (refine' SpecS.use ?k1 ?k2 ?k3 ?k4 ?k5 ?kK ?kS (law_changes_spec _ _ _ _ _ _ _ _ ?p1 ?p2 _ _ _ _ ?p3 ?p4 ?p5 ?p6) ?kd ?ku (retB ?_); (case k1 => k_asm); (case k2 => k_asm); (case k3 => k_asm); (case k4 => k_asm); (case k5 => k_asm); (case kK => first | exact rfl | assumption); (case kS => assumption); (case p1 => first | l_ints | fail "law_changes_spec: p1"); (case p2 => first | (first | with_reducible assumption | (with_reducible refine take_lt ?_ _; with_reducible assumption) | (with_reducible refine dt_lt ?_ _ _; with_reducible assumption) | (with_reducible refine oct_lt ?_; with_reducible assumption) | (with_reducible refine map_lt ?_; with_reducible assumption) | assumption | omega | ((simp only [octF_len, List.length_append, List.length_cons, List.length_nil, List.length_map, List.length_take, List.length_drop]); omega)) | fail "law_changes_spec: p2"); (case p3 => first | k_mem | fail "law_changes_spec: p3"); (case p4 => first | l_ints | fail "law_changes_spec: p4"); (case p5 => first | (first | with_reducible assumption | (with_reducible refine take_lt ?_ _; with_reducible assumption) | (with_reducible refine dt_lt ?_ _ _; with_reducible assumption) | (with_reducible refine oct_lt ?_; with_reducible assumption) | (with_reducible refine map_lt ?_; with_reducible assumption) | assumption | omega | ((simp only [octF_len, List.length_append, List.length_cons, List.length_nil, List.length_map, List.length_take, List.length_drop]); omega)) | fail "law_changes_spec: p5"); (case p6 => first | (show W16 _; repeat' (first | assumption | exact W16.words _ _ _ | exact W16.one (by decide) (by decide) | exact W16.check _ | refine W16.app ?_ ?_ | refine W16.take ?_ _ | refine W16.drop ?_ _)) | fail "law_changes_spec: p6"); (case kd => first | ktr_room | fail "law_changes_spec: room"); (case ku => first | ktr_units | fail "law_changes_spec: units"); k_whole); intro h9q tk9q F9q N9q; (try dsimp only); (try k_fold))
    k_with "mine call ref" => (k_here; (with_reducible show wpAny _ _ (PySem.call (Value.ref 151) _ _) _ _ _); k_dflt (refine' SpecS.use ?k1 ?k2 ?k3 ?k4 ?k5 ?kK ?kS (law_sums_spec _ _ _ _ _ _ _ _ ?p1 ?p2 _ _ _ _ ?p3 ?p4 ?p5 ?p6 _ _ _ _ ?p7 ?p8 _ ?p9q) ?kd ?ku (retB ?_); (case k1 => k_asm); (case k2 => k_asm); (case k3 => k_asm); (case k4 => k_asm); (case k5 => k_asm); (case kK => first | exact rfl | assumption); (case kS => assumption); (case p1 => first | l_ints | fail "law_sums_spec: p1"); (case p2 => first | (first | with_reducible assumption | (with_reducible refine take_lt ?_ _; with_reducible assumption) | (with_reducible refine dt_lt ?_ _ _; with_reducible assumption) | (with_reducible refine oct_lt ?_; with_reducible assumption) | (with_reducible refine map_lt ?_; with_reducible assumption) | assumption | omega | ((simp only [octF_len, List.length_append, List.length_cons, List.length_nil, List.length_map, List.length_take, List.length_drop]); omega)) | fail "law_sums_spec: p2"); (case p3 => first | k_mem | fail "law_sums_spec: p3"); (case p4 => first | l_ints | fail "law_sums_spec: p4"); (case p5 => first | (first | with_reducible assumption | (with_reducible refine take_lt ?_ _; with_reducible assumption) | (with_reducible refine dt_lt ?_ _ _; with_reducible assumption) | (with_reducible refine oct_lt ?_; with_reducible assumption) | (with_reducible refine map_lt ?_; with_reducible assumption) | assumption | omega | ((simp only [octF_len, List.length_append, List.length_cons, List.length_nil, List.length_map, List.length_take, List.length_drop]); omega)) | fail "law_sums_spec: p5"); (case p6 => first | (show W16 _; repeat' (first | assumption | exact W16.words _ _ _ | exact W16.one (by decide) (by decide) | exact W16.check _ | refine W16.app ?_ ?_ | refine W16.take ?_ _ | refine W16.drop ?_ _)) | fail "law_sums_spec: p6"); (case p7 => first | assumption | fail "law_sums_spec: p7"); (case p8 => first | rfl | fail "law_sums_spec: p8"); (case p9q => first | (first | assumption | exact sumF_nonneg _ | omega) | fail "law_sums_spec: p9q"); (case kd => first | ktr_room | fail "law_sums_spec: room"); (case ku => first | ktr_units | fail "law_sums_spec: units"); k_whole); intro h9q tk9q F9q N9q; (try dsimp only); (try k_fold))
    k_with "mine call ref" => (k_here; (with_reducible show wpAny _ _ (PySem.call (Value.ref 163) _ _) _ _ _); k_dflt (refine' SpecTS.use0 ?k1 ?k2 ?k3 ?k4 ?k5 ?kK ?kS (law_refusals_spec _ _ _ _ _ _ _ _ ?p1 ?p2) ?kd ?ku (retB ?_); (case k1 => k_asm); (case k2 => k_asm); (case k3 => k_asm); (case k4 => k_asm); (case k5 => k_asm); (case kK => first | exact rfl | assumption); (case kS => assumption); (case p1 => first | l_ints | fail "law_refusals_spec: p1"); (case p2 => first | (first | with_reducible assumption | (with_reducible refine take_lt ?_ _; with_reducible assumption) | (with_reducible refine dt_lt ?_ _ _; with_reducible assumption) | (with_reducible refine oct_lt ?_; with_reducible assumption) | (with_reducible refine map_lt ?_; with_reducible assumption) | assumption | omega | ((simp only [octF_len, List.length_append, List.length_cons, List.length_nil, List.length_map, List.length_take, List.length_drop]); omega)) | fail "law_refusals_spec: p2"); (case kd => first | ktr_room | fail "law_refusals_spec: room"); (case ku => first | ktr_units | fail "law_refusals_spec: units"); k_whole); intro h9q tk9q F9q N9q; (try dsimp only); (try k_fold))
    k_with "mine call ref" => (k_here; (with_reducible show wpAny _ _ (PySem.call (Value.ref 177) _ _) _ _ _); k_dflt (refine' SpecTS.use0 ?k1 ?k2 ?k3 ?k4 ?k5 ?kK ?kS (law_pseudo_spec _ _ _ _ _ _ _ _ ?p1 ?p2 _ _ _ ?p3 _ ?p4 ?p5 _ _ ?p6 _ _) ?kd ?ku (retB ?_); (case k1 => k_asm); (case k2 => k_asm); (case k3 => k_asm); (case k4 => k_asm); (case k5 => k_asm); (case kK => first | exact rfl | assumption); (case kS => assumption); (case p1 => first | l_ints | fail "law_pseudo_spec: p1"); (case p2 => first | (first | with_reducible assumption | (with_reducible refine take_lt ?_ _; with_reducible assumption) | (with_reducible refine dt_lt ?_ _ _; with_reducible assumption) | (with_reducible refine oct_lt ?_; with_reducible assumption) | (with_reducible refine map_lt ?_; with_reducible assumption) | assumption | omega | ((simp only [octF_len, List.length_append, List.length_cons, List.length_nil, List.length_map, List.length_take, List.length_drop]); omega)) | fail "law_pseudo_spec: p2"); (case p3 => first | k_mem | fail "law_pseudo_spec: p3"); (case p4 => first | exact .cons _ _ (.cons _ _ (.cons _ _ (.cons _ _ .nil))) | fail "law_pseudo_spec: p4"); (case p5 => first | exact rfl | fail "law_pseudo_spec: p5"); (case p6 => first | first | exact .inl ⟨rfl, rfl⟩ | exact .inr ⟨rfl, rfl⟩ | fail "law_pseudo_spec: p6"); (case kd => first | ktr_room | fail "law_pseudo_spec: room"); (case ku => first | ktr_units | fail "law_pseudo_spec: units"); k_whole); intro h9q tk9q F9q N9q; (try dsimp only); (try k_fold))
    k_with "mine call ref" => (k_here; (with_reducible show wpAny _ _ (PySem.call (Value.ref 102) _ _) _ _ _); k_dflt (refine' SpecS.use ?k1 ?k2 ?k3 ?k4 ?k5 ?kK ?kS (law_digit_spec _ _ _ _ _ _ _ _ ?p1 ?p2 _ _ ?p3) ?kd ?ku (retI ?_); (case k1 => k_asm); (case k2 => k_asm); (case k3 => k_asm); (case k4 => k_asm); (case k5 => k_asm); (case kK => first | exact rfl | assumption); (case kS => assumption); (case p1 => first | with_reducible assumption | fail "law_digit_spec: p1"); (case p2 => first | with_reducible assumption | fail "law_digit_spec: p2"); (case p3 => first | (first | with_reducible assumption | exact of_decide_eq_true rfl | omega) | fail "law_digit_spec: p3"); (case kd => first | ktr_room | fail "law_digit_spec: room"); (case ku => first | ktr_units | fail "law_digit_spec: units"); k_whole); intro t9q h9q tk9q F9q N9q; (try dsimp only); (try k_fold))
    k_with "mine eval Call" => (k_here; (first | (with_reducible show wpAny _ _ (eval (PySem.Expr.Call (PySem.Expr.Name (PySem.Str.ofString "_law_digit") _) _ _ _) _) _ _ _) | (with_reducible show wpAny _ _ (eval (PySem.Expr.Call (PySem.Expr.Name (PySem.Str.ofString "_law_sum") _) _ _ _) _) _ _ _) | (with_reducible show wpAny _ _ (eval (PySem.Expr.Call (PySem.Expr.Name (PySem.Str.ofString "_law_number") _) _ _ _) _) _ _ _)); k_dflt (refine PyProof.Rows.Call_ ?_))
    k_go0
    (all_goals try k_fold)
    rename ¬ 63 < _ => hlen9
    rename IntsAre _ _ => hI9
    rename List Int => sc9
    dsimp only
    have hscl : sc9.length < 100 := by omega
    have h0 : 0 ≤ (cellAt sc9 0 0 + 5).fmod 9 ∧ (cellAt sc9 0 0 + 5).fmod 9 < 9 := ⟨fmod_lo _ (by omega), fmod_hi _ (by omega)⟩
    have h2 : 0 ≤ (cellAt sc9 2 0 + 1).fmod (2 ^ Int.toNat 40) := fmod_lo _ (by decide)
    k_steps
    done)

end top
end Mine
set_option maxHeartbeats 8000000 in
theorem PySem.Challenge.cw_pf0325_01_holds : PySem.Challenge.rw_pf0325_01.Holds := by
  exact Mine.topt
