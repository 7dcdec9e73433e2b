import PyProof.Rows.All
import Wide.All
import OpenK.AllK
import Wide.FinOn
import Lean
import PySem.Challenge.RW_pq1393_01
open PySem PySem.W PyProof.Rows
set_option Elab.async false
set_option maxRecDepth 100000
set_option maxHeartbeats 8000000
set_option linter.all false
namespace Mine
theorem left_boot {p q : Program} {loose : List Str} {Xt : Shared → Bool} {α : Type} {Yf : Shared → α} {Ya : World → α} {N : Nat} (e : opening p = plainProg p.main.scope.names) (hN : Nat.ble 600 N = true) (f : ∀ s, fenceModules? p s = some s)
    (h : ∀ w : World, (fun os => (topFrom treeTable p w N ⟨boot_heap w.params, Array.mk [], boot_drawn, boot_toks, os⟩).map (fun s => (openSeen q loose (importedModules p.main.body) Xt true s, Yf s))) = fun _ => some (openGood q loose, Ya w)) : LeftO p q loose Xt Yf Ya N true := fun w => by
  obtain ⟨⟨h0, gs, d, k, os⟩, e1, e2⟩ := Option.map_eq_some_iff.mp (boot_open e hN f w)
  obtain ⟨rfl, rfl, rfl, rfl⟩ : h0 = boot_heap w.params ∧ gs = Array.mk [] ∧ d = boot_drawn ∧ k = boot_toks := by simpa using e2
  unfold openEnds
  rw [e1]
  exact congrFun (h w) os
def viewB : List Stmt := match PySem.Challenge.pw_pq1393_01.main.body with
  | [a0, _, a2, a3, a4, _, a6, a7, _, a9, a10, a11, a12, a13, a14, a15, a16, a17, _, a19, a20, a21, a22, a23, a24, a25, a26, a27] => [a0, a2, a3, a4, a6, a7, a9, a10, a11, a12, a13, a14, a15, a16, a17, a19, a20, a21, a22, a23, a24, a25, a26, a27]
  | _ => []
def viewQ : Program := { PySem.Challenge.rw_pq1393_01.row.toRowW.1 with main := { PySem.Challenge.rw_pq1393_01.row.toRowW.1.main with body := viewB } }
local macro_rules | `(tactic| o_head $H) => `(tactic| (
  refine holds_open (q := viewQ) (loose := [PySem.Str.ofString "number"]) (Xt := fun s => xlAt viewQ [] s && recOk (RowW.records PySem.Challenge.rw_pq1393_01.row.toRowW) s) (XP := XL viewQ []) (Yf := Hook.obs $H) (Ya := Hook.val $H) (YP := Hook.says $H) (N := 2938) ?hl (Hook.of $H) (Hook.keeps $H) (fun s e => xl_of s (Bool.and_eq_true_iff.mp e).1) XL.keeps (by rfl) (by rfl) (by rfl) (fun s e => recFacts_of (Bool.and_eq_true_iff.mp e).2) (by rfl) (by first | assumption | decide +kernel) (by decide +kernel) ⟨rfl, rfl, rfl, rfl, rfl, by decide +kernel⟩ ?hw ?hc;
  (case hl => (refine left_boot (by kernel_rfl) (by decide) (fun s => by kernel_rfl) ?_; intro w; unfold topFrom; rewrite [PySem.W.Fast.te14082659384304107361, PySem.W.Fast.te14364793385576792824, PySem.W.Fast.te4187177175401517315]; kernel_rfl))))
open_top pqTop for PySem.Challenge.rw_pq1393_01
end Mine
namespace Mine
theorem offPQDefs : True := by
  w_top off
  k_with_none
  trivial
open PySem.Spec PySem.Calls

/-- a language value: a name, a number, a call -/
inductive T where
  | sym (x : Str)
  | num (n : Int)
  | call (ts : List T) (tags : List Dat)

mutual
def T.ht : T → Nat
  | .sym _ => 0
  | .num _ => 0
  | .call ts _ => T.hts ts + 1
def T.hts : List T → Nat
  | [] => 0
  | t :: ts => max t.ht (T.hts ts)
end
theorem hts_mem : ∀ {ts : List T} {t : T}, t ∈ ts → t.ht ≤ T.hts ts
  | u :: ts, t, h => by
    rw [T.hts]
    rcases List.mem_cons.mp h with rfl | h
    · omega
    · have := hts_mem h; omega

abbrev tupOf (vs : List Value) (n : Nat) : Obj := { cls := .type "tuple", data := .seq vs.toArray n }
abbrev kh (w : World) (x : Str) : Int := PyData.keyHash w.params x
abbrev symD (w : World) (x : Str) (t1 t2 t3 t4 t5 : Tok) : Obj := dictOf [
  { hash := PyData.keyHash w.params (Str.ofString "kind"), key := .str (Str.ofString "kind") t1, val := .str (Str.ofString "symbol") t2 },
  { hash := PyData.keyHash w.params (Str.ofString "name"), key := .str (Str.ofString "name") t3, val := .str x t4 },
  { hash := PyData.keyHash w.params (Str.ofString "attrs"), key := .str (Str.ofString "attrs") t5, val := .none }] 3
abbrev vecD (w : World) (l : Addr) (b : Bool) (t1 t2 t3 t4 t5 t6 : Tok) : Obj := dictOf [
  { hash := PyData.keyHash w.params (Str.ofString "kind"), key := .str (Str.ofString "kind") t1, val := .str (Str.ofString "double") t2 },
  { hash := PyData.keyHash w.params (Str.ofString "items"), key := .str (Str.ofString "items") t3, val := .ref l },
  { hash := PyData.keyHash w.params (Str.ofString "attrs"), key := .str (Str.ofString "attrs") t4, val := .none },
  { hash := PyData.keyHash w.params (Str.ofString "shared"), key := .str (Str.ofString "shared") t5, val := .bool b },
  { hash := PyData.keyHash w.params (Str.ofString "loose"), key := .str (Str.ofString "loose") t6, val := .bool false }] 5
abbrev callD (w : World) (li lt : Addr) (t1 t2 t3 t4 t5 t6 : Tok) : Obj := dictOf [
  { hash := PyData.keyHash w.params (Str.ofString "kind"), key := .str (Str.ofString "kind") t1, val := .str (Str.ofString "language") t2 },
  { hash := PyData.keyHash w.params (Str.ofString "items"), key := .str (Str.ofString "items") t3, val := .ref li },
  { hash := PyData.keyHash w.params (Str.ofString "tags"), key := .str (Str.ofString "tags") t4, val := .ref lt },
  { hash := PyData.keyHash w.params (Str.ofString "attrs"), key := .str (Str.ofString "attrs") t5, val := .none },
  { hash := PyData.keyHash w.params (Str.ofString "code"), key := .str (Str.ofString "code") t6, val := .none }] 5

mutual
inductive TIn (w : World) (news : List (Addr × Obj)) : Value → T → Prop
  | sym {a d : Addr} {x : Str} {t1 t2 t3 t4 t5 : Tok} : (a, instObj 67 d) ∈ news → (d, symD w x t1 t2 t3 t4 t5) ∈ news → TIn w news (.ref a) (.sym x)
  | num {a d l p : Addr} {b : Bool} {n : Int} {k j : Nat} {t1 t2 t3 t4 t5 t6 u1 u2 : Tok} : (a, instObj 46 d) ∈ news → (d, vecD w l b t1 t2 t3 t4 t5 t6) ∈ news →
      (l, listOf [Value.ref p].toArray k) ∈ news → (p, tupOf [.int n u1, .int 1 u2] j) ∈ news → TIn w news (.ref a) (.num n)
  | call {a d li lt : Addr} {vs us : List Value} {ts : List T} {tags : List Dat} {k j : Nat} {t1 t2 t3 t4 t5 t6 : Tok} : (a, instObj 89 d) ∈ news → (d, callD w li lt t1 t2 t3 t4 t5 t6) ∈ news →
      (li, listOf vs.toArray k) ∈ news → (lt, listOf us.toArray j) ∈ news → TsIn w news vs ts → DatAll [] us tags → TIn w news (.ref a) (.call ts tags)
inductive TsIn (w : World) (news : List (Addr × Obj)) : List Value → List T → Prop
  | nil : TsIn w news [] []
  | cons {v : Value} {vs : List Value} {t : T} {ts : List T} : TIn w news v t → TsIn w news vs ts → TsIn w news (v :: vs) (t :: ts)
end
mutual
theorem TIn.mono {w : World} {news news' : List (Addr × Obj)} (hs : ∀ p ∈ news, p ∈ news') : ∀ {v : Value} {t : T}, TIn w news v t → TIn w news' v t
  | _, _, .sym a d => .sym (hs _ a) (hs _ d)
  | _, _, .num a d l p => .num (hs _ a) (hs _ d) (hs _ l) (hs _ p)
  | _, _, .call a d l k r q => .call (hs _ a) (hs _ d) (hs _ l) (hs _ k) (TsIn.mono hs r) q
theorem TsIn.mono {w : World} {news news' : List (Addr × Obj)} (hs : ∀ p ∈ news, p ∈ news') : ∀ {vs : List Value} {ts : List T}, TsIn w news vs ts → TsIn w news' vs ts
  | _, _, .nil => .nil
  | _, _, .cons h r => .cons (TIn.mono hs h) (TsIn.mono hs r)
end
theorem TsIn.length {w : World} {news : List (Addr × Obj)} : ∀ {vs : List Value} {ts : List T}, TsIn w news vs ts → vs.length = ts.length
  | _, _, .nil => rfl
  | _, _, .cons _ r => by rw [List.length_cons, List.length_cons, r.length]
theorem TsIn.get {w : World} {news : List (Addr × Obj)} : ∀ {vs : List Value} {ts : List T}, TsIn w news vs ts → ∀ {i : Nat} {v : Value}, vs[i]? = some v → ∃ t, ts[i]? = some t ∧ TIn w news v t
  | _, _, .nil, i, v, h => by simp at h
  | _, _, .cons (t := t) h r, 0, v, e => by simp at e; subst e; exact ⟨t, rfl, h⟩
  | _, _, .cons h r, i + 1, v, e => by
    simp only [List.getElem?_cons_succ] at e ⊢
    exact r.get e

/-- a call that hands back a value and leaves the ledger as it was -/
def CallsV (w : World) (f : Addr) (vs : List Value) (news : List (Addr × Obj)) (room : Nat) (Post : Value → Prop) : Prop :=
  ∀ (p : Program) (loose : List Str) (mean : ExcName → Option Value) (mg mb : Str → Option Value) (dp un : Nat) (gd : Option (List Code)) (cn : Str) (cs : Scope) (a : Addr) (ccd : Value) (cl : List (Str × Addr)) (outer : List Env) (A₀ : Around) (base h₀ : Heap) (L : Addr) (m : Str → Option Value) (s : Shared)
    (Q E : Value → Shared → Prop),
    Below A₀ base outer h₀ → Fr h₀ L s.heap m → (pqTop.heap_39 w.params).In h₀ → News h₀ L s.heap news → Top p loose mean mg mb h₀ → cs.kind = .function → dp + room ≤ 900 → un + 8 * room ≤ 9000 →
    (∀ r h' tk', Fr h₀ L h' m → News h₀ L h' news → Post r → Q r { s with heap := h', toks := tk' }) →
    wpAny (model PySem.Challenge.rw_pq1393_01.row.prog w) (ktrTop dp un gd cn cs L a ccd cl outer) (call (.ref f) vs) Q E s
/-- a call that may change the ledger -/
def CallsN (w : World) (f : Addr) (vs : List Value) (news : List (Addr × Obj)) (room : Nat) (Post : Value → List (Addr × Obj) → Prop) : Prop :=
  ∀ (p : Program) (loose : List Str) (mean : ExcName → Option Value) (mg mb : Str → Option Value) (dp un : Nat) (gd : Option (List Code)) (cn : Str) (cs : Scope) (a : Addr) (ccd : Value) (cl : List (Str × Addr)) (outer : List Env) (A₀ : Around) (base h₀ : Heap) (L : Addr) (m : Str → Option Value) (s : Shared)
    (Q E : Value → Shared → Prop),
    Below A₀ base outer h₀ → Fr h₀ L s.heap m → (pqTop.heap_39 w.params).In h₀ → News h₀ L s.heap news → Top p loose mean mg mb h₀ → cs.kind = .function → dp + room ≤ 900 → un + 8 * room ≤ 9000 →
    (∀ r news' h' tk', Fr h₀ L h' m → News h₀ L h' news' → Post r news' → Q r { s with heap := h', toks := tk' }) →
    wpAny (model PySem.Challenge.rw_pq1393_01.row.prog w) (ktrTop dp un gd cn cs L a ccd cl outer) (call (.ref f) vs) Q E s

section
variable {w : World} {f : Addr} {vs : List Value} {news : List (Addr × Obj)} {room : Nat} {p : Program} {loose : List Str} {mean : ExcName → Option Value} {mg mb : Str → Option Value} {dp un : Nat} {gd : Option (List Code)} {cn : Str} {cs : Scope} {a : Addr} {ccd : Value} {cl : List (Str × Addr)} {outer : List Env} {A₀ : Around} {base h₀ : Heap} {L : Addr} {m : Str → Option Value} {s : Shared} {Q E : Value → Shared → Prop}
theorem CallsV.use {Post : Value → Prop} (B : Below A₀ base outer h₀) (F : Fr h₀ L s.heap m) (X : (pqTop.heap_39 w.params).In h₀) (N : News h₀ L s.heap news) (T : Top p loose mean mg mb h₀) (hk : cs.kind = .function) (C : CallsV w f vs news room Post) (hd : dp + room ≤ 900) (hu : un + 8 * room ≤ 9000)
    (ret : ∀ r h' tk', Fr h₀ L h' m → News h₀ L h' news → Post r → Q r { s with heap := h', toks := tk' }) :
    wpAny (model PySem.Challenge.rw_pq1393_01.row.prog w) (ktrTop dp un gd cn cs L a ccd cl outer) (call (.ref f) vs) Q E s := C _ _ _ _ _ _ _ _ _ _ _ _ _ _ _ _ _ _ _ _ _ _ B F X N T hk hd hu ret
theorem CallsN.use {Post : Value → List (Addr × Obj) → Prop} (B : Below A₀ base outer h₀) (F : Fr h₀ L s.heap m) (X : (pqTop.heap_39 w.params).In h₀) (N : News h₀ L s.heap news) (T : Top p loose mean mg mb h₀) (hk : cs.kind = .function) (C : CallsN w f vs news room Post) (hd : dp + room ≤ 900) (hu : un + 8 * room ≤ 9000)
    (ret : ∀ r news' h' tk', Fr h₀ L h' m → News h₀ L h' news' → Post r news' → Q r { s with heap := h', toks := tk' }) :
    wpAny (model PySem.Challenge.rw_pq1393_01.row.prog w) (ktrTop dp un gd cn cs L a ccd cl outer) (call (.ref f) vs) Q E s := C _ _ _ _ _ _ _ _ _ _ _ _ _ _ _ _ _ _ _ _ _ _ B F X N T hk hd hu ret
end

section
variable {prog : Program} {w : World} {A : Around} {E : Value → Shared → Prop} {s : Shared} {env : Env} {h₀ : Heap} {x : Str} {body : List Stmt} {Q : Flow → Shared → Prop}

/-- the end of a turn of a loop over a list -/
def TurnTo {σ : Type} (h₀ : Heap) (L : Addr) (x : Str) (Led : σ → List (Addr × Obj)) (Fm : σ → Str → Option Value) (Inv : σ → Prop) (I : Addr) (it : Obj) (s : Shared) (s₂ : Shared) : Prop :=
  ∃ σ h' tk' m', s₂ = { s with heap := h', toks := tk' } ∧ Fr h₀ L h' m' ∧ (∀ z, z ≠ x → m' z = Fm σ z) ∧ News h₀ L h' ((I, it) :: Led σ) ∧ (∀ p ∈ Led σ, p.1 ≠ I) ∧ Inv σ

theorem for_list {σ : Type} {ax : Addr} {lo : Obj} {vs : List Value} {n : Nat} {m₀ : Str → Option Value} (Led : σ → List (Addr × Obj)) (Fm : σ → Str → Option Value) (Inv : Nat → σ → Prop) (σ₀ : σ)
    (hh : A.handled = none) (F : Fr h₀ env.locals s.heap m₀) (N : News h₀ env.locals s.heap (Led σ₀)) (hm : ∀ σ, (ax, lo) ∈ Led σ) (hc : lo.cls = .type "list") (hd : lo.data = .seq vs.toArray n)
    (hF : ∀ z, z ≠ x → m₀ z = Fm σ₀ z) (h0 : Inv 0 σ₀)
    (turn : ∀ i v σ I it h tk, vs[i]? = some v → Inv i σ → it.cls = .type "list_iterator" → Fr h₀ env.locals h (fun y => if y = x then some v else Fm σ y) → News h₀ env.locals h ((I, it) :: Led σ) → (∀ p ∈ Led σ, p.1 ≠ I) →
      wpAny (model prog w) A (execs body env) (fun f s₂ => match f with | .ret v => Q (.ret v) s₂ | .brk => Q .next s₂ | _ => TurnTo h₀ env.locals x Led Fm (Inv (i + 1)) I it { s with heap := h, toks := tk } s₂) E { s with heap := h, toks := tk })
    (done : ∀ σ (u : Str → Option Value) h tk, Inv vs.length σ → Fr h₀ env.locals h (fun y => if y = x then u y else Fm σ y) → News h₀ env.locals h (Led σ) → Q .next { s with heap := h, toks := tk }) :
    wpAny (model prog w) A (pyIter (.ref ax)) (fun it s₂ => LoopAtV prog w A h₀ env x body Q E it s₂) E s := by
  refine iter_listUnr hh F N (hm σ₀) hc hd fun I hI => ?_
  have key : ∀ (k i : Nat) (σ : σ) (m : Str → Option Value), i + k = vs.length → (∀ z, z ≠ x → m z = Fm σ z) → Inv i σ → (∀ p ∈ Led σ, p.1 ≠ I) → ListRest prog w A E h₀ env x body Q s I (ax, lo) (vs.drop i) m (Led σ) := by
    intro k
    induction k with
    | zero =>
      intro i σ m hi hm' hinv _
      have e : i = vs.length := by omega
      subst e
      rw [List.drop_length]
      refine ListRest.zero fun h tk F' N' => done σ m h tk hinv ?_ N'
      have e : (fun y => if y = x then m y else Fm σ y) = m := by
        funext z
        by_cases h1 : z = x
        · simp [h1]
        · simp [h1, hm' z h1]
      rw [e]; exact F'
    | succ k ih =>
      intro i σ m hi hm' hinv hoff
      have hlt : i < vs.length := by omega
      rw [List.drop_eq_getElem_cons hlt]
      refine ListRest.succ fun it h tk hit F' N' => ?_
      have e : (fun y => if y = x then some vs[i] else m y) = fun y => if y = x then some vs[i] else Fm σ y := by
        funext z
        by_cases h1 : z = x
        · simp [h1]
        · simp [h1, hm' z h1]
      rw [e] at F'
      refine wpAny_mono (turn i vs[i] σ I it h tk (List.getElem?_eq_getElem hlt) hinv hit F' N' hoff) (fun f s₂ hf => ?_) fun _ _ e => e
      have fin : TurnTo h₀ env.locals x Led Fm (Inv (i + 1)) I it { s with heap := h, toks := tk } s₂ → UnrEnd h₀ env.locals { s with heap := h, toks := tk } I it (fun m' n' => (ax, lo) ∈ n' ∧ ListRest prog w A E h₀ env x body Q s I (ax, lo) (vs.drop (i + 1)) m' n') s₂ := by
        rintro ⟨σ', h', tk', m', rfl, F'', hm'', N'', hoff', hinv'⟩
        exact ⟨h', tk', m', Led σ', rfl, F'', N'', hoff', hm σ', ih (i + 1) σ' m' (by omega) hm'' hinv' hoff'⟩
      cases f with
      | ret v => exact hf
      | brk => exact hf
      | next => exact fin hf
      | cont => exact fin hf
  have := key vs.length 0 σ₀ m₀ (by omega) hF h0 (fun p hp => Nat.ne_of_lt (hI p hp))
  simpa using this

theorem for_range {σ : Type} {r : Addr} {a₀ b₀ : Int} {t₀ u₀ v₀ : Tok} {n : Nat} {m₀ : Str → Option Value} (Led : σ → List (Addr × Obj)) (Fm : σ → Str → Option Value) (Inv : Nat → σ → Prop) (σ₀ : σ)
    (hh : A.handled = none) (hr : IsRange s.heap r a₀ b₀ 1 t₀ u₀ v₀) (hsmall : Builtin.Range.small a₀ b₀ 1 = true) (hn : Builtin.Range.rangeSize a₀ b₀ 1 = (n : Int)) (F : Fr h₀ env.locals s.heap m₀) (N : News h₀ env.locals s.heap (Led σ₀))
    (hF : ∀ z, z ≠ x → m₀ z = Fm σ₀ z) (h0 : Inv 0 σ₀)
    (turn : ∀ (i : Nat) t σ I it h tk, i < n → Inv i σ → it.cls = .type "range_iterator" → Fr h₀ env.locals h (fun y => if y = x then some (.int (a₀ + (i : Int)) t) else Fm σ y) → News h₀ env.locals h ((I, it) :: Led σ) → (∀ p ∈ Led σ, p.1 ≠ I) →
      wpAny (model prog w) A (execs body env) (fun f s₂ => match f with | .ret v => Q (.ret v) s₂ | .brk => Q .next s₂ | _ => TurnTo h₀ env.locals x Led Fm (Inv (i + 1)) I it { s with heap := h, toks := tk } s₂) E { s with heap := h, toks := tk })
    (done : ∀ σ (u : Str → Option Value) h tk, Inv n σ → Fr h₀ env.locals h (fun y => if y = x then u y else Fm σ y) → News h₀ env.locals h (Led σ) → Q .next { s with heap := h, toks := tk }) :
    wpAny (model prog w) A (pyIter (.ref r)) (fun it s₂ => LoopAtV prog w A h₀ env x body Q E it s₂) E s := by
  refine iter_rangeUnr hh hr hsmall hn F N fun I hI => ?_
  have key : ∀ (k i : Nat) (σ : σ) (m : Str → Option Value), i + k = n → (∀ z, z ≠ x → m z = Fm σ z) → Inv i σ → (∀ p ∈ Led σ, p.1 ≠ I) → RangeRest prog w A E h₀ env x body Q s I a₀ n k i m (Led σ) := by
    intro k
    induction k with
    | zero =>
      intro i σ m hi hm' hinv _
      have e : i = n := by omega
      subst e
      refine RangeRest.zero fun h tk F' N' => done σ m h tk hinv ?_ N'
      have e : (fun y => if y = x then m y else Fm σ y) = m := by
        funext z
        by_cases h1 : z = x
        · simp [h1]
        · simp [h1, hm' z h1]
      rw [e]; exact F'
    | succ k ih =>
      intro i σ m hi hm' hinv hoff
      refine RangeRest.succ fun t h tk F' N' => ?_
      have e : (fun y => if y = x then some (Value.int (a₀ + (i : Int)) t) else m y) = fun y => if y = x then some (Value.int (a₀ + (i : Int)) t) else Fm σ y := by
        funext z
        by_cases h1 : z = x
        · simp [h1]
        · simp [h1, hm' z h1]
      rw [e] at F'
      refine wpAny_mono (turn i t σ I _ h tk (by omega) hinv rfl F' N' hoff) (fun f s₂ hf => ?_) fun _ _ e => e
      have fin : TurnTo h₀ env.locals x Led Fm (Inv (i + 1)) I (itR (a₀ + ((i + 1 : Nat) : Int)) ((n : Int) - ((i + 1 : Nat) : Int))) { s with heap := h, toks := tk } s₂ → UnrEnd h₀ env.locals { s with heap := h, toks := tk } I (itR (a₀ + ((i + 1 : Nat) : Int)) ((n : Int) - ((i + 1 : Nat) : Int))) (RangeRest prog w A E h₀ env x body Q s I a₀ n k (i + 1)) s₂ := by
        rintro ⟨σ', h', tk', m', rfl, F'', hm'', N'', hoff', hinv'⟩
        exact ⟨h', tk', m', Led σ', rfl, F'', N'', hoff', ih (i + 1) σ' m' (by omega) hm'' hinv' hoff'⟩
      cases f with
      | ret v => exact hf
      | brk => exact hf
      | next => exact fin hf
      | cont => exact fin hf
  exact key n 0 σ₀ m₀ (by omega) hF h0 (fun p hp => Nat.ne_of_lt (hI p hp))

/-- a loop over a list of the ledger that changes one name of the frame -/
theorem for_acc {σ : Type} {ax : Addr} {lo : Obj} {vs : List Value} {n : Nat} {m₀ : Str → Option Value} {news : List (Addr × Obj)} (y : Str) (val : σ → Value) (Inv : Nat → σ → Prop) (σ₀ : σ)
    (hh : A.handled = none) (F : Fr h₀ env.locals s.heap m₀) (N : News h₀ env.locals s.heap news) (hm : (ax, lo) ∈ news) (hc : lo.cls = .type "list") (hd : lo.data = .seq vs.toArray n)
    (hy : m₀ y = some (val σ₀)) (h0 : Inv 0 σ₀)
    (turn : ∀ i v σ I it h tk, vs[i]? = some v → Inv i σ → it.cls = .type "list_iterator" → Fr h₀ env.locals h (fun z => if z = x then some v else if z = y then some (val σ) else m₀ z) → News h₀ env.locals h ((I, it) :: news) → (∀ p ∈ news, p.1 ≠ I) →
      wpAny (model prog w) A (execs body env) (fun f s₂ => match f with | .ret v => Q (.ret v) s₂ | .brk => Q .next s₂ | _ => TurnTo h₀ env.locals x (fun _ => news) (fun r z => if z = y then some (val r) else m₀ z) (Inv (i + 1)) I it { s with heap := h, toks := tk } s₂) E { s with heap := h, toks := tk })
    (done : ∀ σ (u : Str → Option Value) h tk, Inv vs.length σ → Fr h₀ env.locals h (fun z => if z = x then u z else if z = y then some (val σ) else m₀ z) → News h₀ env.locals h news → Q .next { s with heap := h, toks := tk }) :
    wpAny (model prog w) A (pyIter (.ref ax)) (fun it s₂ => LoopAtV prog w A h₀ env x body Q E it s₂) E s := by
  refine for_list (σ := σ) (fun _ => news) (fun σ z => if z = y then some (val σ) else m₀ z) Inv σ₀ hh F N (fun _ => hm) hc hd ?_ h0 turn done
  intro z _
  by_cases h1 : z = y
  · simp [h1, hy]
  · simp [h1]

/-- a loop over a list of the ledger that changes the ledger alone -/
theorem for_led {σ : Type} {ax : Addr} {lo : Obj} {vs : List Value} {n : Nat} {m₀ : Str → Option Value} (Led : σ → List (Addr × Obj)) (Inv : Nat → σ → Prop) (σ₀ : σ)
    (hh : A.handled = none) (F : Fr h₀ env.locals s.heap m₀) (N : News h₀ env.locals s.heap (Led σ₀)) (hm : ∀ σ, (ax, lo) ∈ Led σ) (hc : lo.cls = .type "list") (hd : lo.data = .seq vs.toArray n) (h0 : Inv 0 σ₀)
    (turn : ∀ i v σ I it h tk, vs[i]? = some v → Inv i σ → it.cls = .type "list_iterator" → Fr h₀ env.locals h (fun z => if z = x then some v else m₀ z) → News h₀ env.locals h ((I, it) :: Led σ) → (∀ p ∈ Led σ, p.1 ≠ I) →
      wpAny (model prog w) A (execs body env) (fun f s₂ => match f with | .ret v => Q (.ret v) s₂ | .brk => Q .next s₂ | _ => TurnTo h₀ env.locals x Led (fun _ => m₀) (Inv (i + 1)) I it { s with heap := h, toks := tk } s₂) E { s with heap := h, toks := tk })
    (done : ∀ σ (u : Str → Option Value) h tk, Inv vs.length σ → Fr h₀ env.locals h (fun z => if z = x then u z else m₀ z) → News h₀ env.locals h (Led σ) → Q .next { s with heap := h, toks := tk }) :
    wpAny (model prog w) A (pyIter (.ref ax)) (fun it s₂ => LoopAtV prog w A h₀ env x body Q E it s₂) E s :=
  for_list (σ := σ) Led (fun _ => m₀) Inv σ₀ hh F N hm hc hd (fun _ _ => rfl) h0 turn done
/-- a loop over an empty list -/
theorem for_nil {ax : Addr} {lo : Obj} {n : Nat} {m₀ : Str → Option Value} {news : List (Addr × Obj)}
    (hh : A.handled = none) (F : Fr h₀ env.locals s.heap m₀) (N : News h₀ env.locals s.heap news) (hm : (ax, lo) ∈ news) (hc : lo.cls = .type "list") (hd : lo.data = .seq ([] : List Value).toArray n)
    (done : ∀ (u : Str → Option Value) h tk, Fr h₀ env.locals h (fun z => if z = x then u z else m₀ z) → News h₀ env.locals h news → Q .next { s with heap := h, toks := tk }) :
    wpAny (model prog w) A (pyIter (.ref ax)) (fun it s₂ => LoopAtV prog w A h₀ env x body Q E it s₂) E s :=
  for_list (σ := Unit) (vs := []) (fun _ => news) (fun _ => m₀) (fun _ _ => True) () hh F N (fun _ => hm) hc hd (fun _ _ => rfl) trivial (fun i v σ I it h tk hv => by simp at hv) (fun _ u h tk _ F' N' => done u h tk F' N')
/-- a loop over a range that changes the ledger alone -/
theorem for_rled {σ : Type} {r : Addr} {a₀ b₀ : Int} {t₀ u₀ v₀ : Tok} {n : Nat} {m₀ : Str → Option Value} (Led : σ → List (Addr × Obj)) (Inv : Nat → σ → Prop) (σ₀ : σ)
    (hh : A.handled = none) (hr : IsRange s.heap r a₀ b₀ 1 t₀ u₀ v₀) (hsmall : Builtin.Range.small a₀ b₀ 1 = true) (hn : Builtin.Range.rangeSize a₀ b₀ 1 = (n : Int)) (F : Fr h₀ env.locals s.heap m₀) (N : News h₀ env.locals s.heap (Led σ₀)) (h0 : Inv 0 σ₀)
    (turn : ∀ (i : Nat) t σ I it h tk, i < n → Inv i σ → it.cls = .type "range_iterator" → Fr h₀ env.locals h (fun y => if y = x then some (.int (a₀ + (i : Int)) t) else m₀ y) → News h₀ env.locals h ((I, it) :: Led σ) → (∀ p ∈ Led σ, p.1 ≠ I) →
      wpAny (model prog w) A (execs body env) (fun f s₂ => match f with | .ret v => Q (.ret v) s₂ | .brk => Q .next s₂ | _ => TurnTo h₀ env.locals x Led (fun _ => m₀) (Inv (i + 1)) I it { s with heap := h, toks := tk } s₂) E { s with heap := h, toks := tk })
    (done : ∀ σ (u : Str → Option Value) h tk, Inv n σ → Fr h₀ env.locals h (fun y => if y = x then u y else m₀ y) → News h₀ env.locals h (Led σ) → Q .next { s with heap := h, toks := tk }) :
    wpAny (model prog w) A (pyIter (.ref r)) (fun it s₂ => LoopAtV prog w A h₀ env x body Q E it s₂) E s :=
  for_range (σ := σ) Led (fun _ => m₀) Inv σ₀ hh hr hsmall hn F N (fun _ _ => rfl) h0 turn done

/-- the turns of a comprehension over a list, by what holds between them -/
theorem comp_turns {L : Addr} {m : Str → Option Value} {elt : Expr} {scope : Scope} {cl : List (Str × Addr)} {S : List (Addr × Obj) → Prop} {vs : List Value} {Fin : List Value → List (Addr × Obj) → Prop} {news : List (Addr × Obj)} (J : Nat → List Value → List (Addr × Obj) → Prop)
    (h0 : J 0 [] news)
    (turn : ∀ i v ys nw I oI C oC D m₂ h tk (E' : Value → Shared → Prop), vs[i]? = some v → J i ys nw → LCg.NsObj oC m₂ → m₂ x = some v → Fr h₀ L h m → News h₀ L h ((I, oI) :: (C, oC) :: (D, LCg.lst ys) :: nw) → LCg.Off3 I C D nw → ((@Ne Nat I C) ∧ (@Ne Nat I D) ∧ (@Ne Nat C D)) →
      wpAny (model prog w) A (eval elt (compEnvC scope cl C env)) (LCg.CompEnd h₀ L m { s with heap := h, toks := tk } I oI C oC D (LCg.lst ys) S (fun y news' => J (i + 1) (ys ++ [y]) news')) E' { s with heap := h, toks := tk })
    (fin : ∀ ys nw, J vs.length ys nw → Fin ys nw) :
    LCg.CompRest prog w A h₀ L m env elt x scope cl s S (fun i v => vs.toArray[i]? = some v) Fin vs.toArray.size 0 [] news := by
  have key : ∀ (k i : Nat) (ys : List Value) (nw : List (Addr × Obj)), i + k = vs.length → J i ys nw → LCg.CompRest prog w A h₀ L m env elt x scope cl s S (fun i v => vs.toArray[i]? = some v) Fin k i ys nw := by
    intro k
    induction k with
    | zero =>
      intro i ys nw hi hj
      have e : i = vs.length := by omega
      subst e
      exact LCg.CompRest.zero (fin ys nw hj)
    | succ k ih =>
      intro i ys nw hi hj
      refine LCg.CompRest.succ fun v I oI C oC D m₂ h tk E' hv hC hx F N off ne => ?_
      refine wpAny_mono (turn i v ys nw I oI C oC D m₂ h tk E' (by simpa using hv) hj hC hx F N off ne) (fun y s₂ hq => ?_) fun _ _ e => e
      obtain ⟨h', tk', nw', e, F', N', off', hS, hj'⟩ := hq
      exact ⟨h', tk', nw', e, F', N', off', hS, ih (i + 1) (ys ++ [y]) nw' (by omega) hj'⟩
  have := key vs.length 0 [] news (by omega) h0
  simpa using this

theorem comp_turnsB {L : Addr} {m : Str → Option Value} {elt : Expr} {scope : Scope} {cl : List (Str × Addr)} {S : List (Addr × Obj) → Prop} {vs : List Value} {Fin : List Value → List (Addr × Obj) → Prop} {news : List (Addr × Obj)} (J : List (Addr × Obj) → Nat → List Value → List (Addr × Obj) → Prop)
    (h0 : J news 0 [] news)
    (turn : ∀ i v ys nw I oI C oC D m₂ h tk (E' : Value → Shared → Prop), vs[i]? = some v → J news i ys nw → LCg.NsObj oC m₂ → m₂ x = some v → Fr h₀ L h m → News h₀ L h ((I, oI) :: (C, oC) :: (D, LCg.lst ys) :: nw) → LCg.Off3 I C D nw → ((@Ne Nat I C) ∧ (@Ne Nat I D) ∧ (@Ne Nat C D)) →
      wpAny (model prog w) A (eval elt (compEnvC scope cl C env)) (LCg.CompEnd h₀ L m { s with heap := h, toks := tk } I oI C oC D (LCg.lst ys) S (fun y news' => J news (i + 1) (ys ++ [y]) news')) E' { s with heap := h, toks := tk })
    (fin : ∀ ys nw, J news vs.length ys nw → Fin ys nw) :
    LCg.CompRest prog w A h₀ L m env elt x scope cl s S (fun i v => vs.toArray[i]? = some v) Fin vs.toArray.size 0 [] news :=
  comp_turns (J news) h0 turn fin
end
theorem frame_eq {m' m₀ : Str → Option Value} {x y : Str} {v : Value} (h1 : m' y = some v) (h2 : ∀ z, z ≠ x → z ≠ y → m' z = m₀ z) : ∀ z, z ≠ x → m' z = if z = y then some v else m₀ z := fun z hz => by
  by_cases h : z = y
  · subst h; simp [h1]
  · simp [h, h2 z hz h]

section
variable {α : Type} {a b c : α} {l l₁ l₂ l₃ : List α}
theorem pm1 : ∀ p ∈ a :: (l ++ b :: l₁), p ∈ l ++ b :: a :: l₁ := by grind
theorem pm2 : ∀ p ∈ b :: a :: (l ++ l₁ ++ l₂), p ∈ a :: (l ++ b :: (l₁ ++ l₂)) := by grind
theorem pm3 : ∀ p ∈ l ++ [b], p ∈ (l₁ ++ l) ++ [b] := by grind
theorem pm4 : ∀ p ∈ l₁, p ∈ (l₁ ++ l) ++ l₂ := by grind
theorem pm6 : ∀ p ∈ l ++ l₁, p ∈ (l ++ [b]) ++ l₁ := by grind
theorem pm7 : ∀ p ∈ a :: b :: c :: ((l ++ l₁) ++ l₂), p ∈ l ++ a :: b :: c :: (l₁ ++ l₂) := by grind
theorem pm8 : ∀ p ∈ l₁ ++ l₂, p ∈ (l ++ l₁) ++ l₂ := by grind
theorem pm9 : ∀ p ∈ l ++ l₂, p ∈ (l ++ l₁) ++ l₂ := by grind
theorem pm10 {d e : α} : ∀ p ∈ l ++ a :: b :: d :: c :: (l₁ ++ l₂), p ∈ (l ++ a :: b :: c :: d :: (l₁ ++ [e])) ++ l₂ := by grind
theorem app5 {d e : α} : l ++ a :: b :: c :: d :: (l₁ ++ e :: l₂) = (l ++ a :: b :: c :: d :: (l₁ ++ [e])) ++ l₂ := by simp
theorem pm5 : ∀ p ∈ a :: b :: l, p ∈ b :: a :: l := by grind
end

def Apart (tl news : List (Addr × Obj)) : Prop := ∀ p ∈ tl, ∀ q ∈ news, q.1 ≠ p.1
theorem off1_mem {D : Addr} : ∀ {l : List (Addr × Obj)}, LCg.Off1 D l → ∀ p ∈ l, p.1 ≠ D
  | [], _, _, h => nomatch h
  | _ :: _, x, p, h => by
    rcases List.mem_cons.mp h with rfl | h
    · exact x.1
    · exact off1_mem x.2 p h
theorem Apart.nil {news : List (Addr × Obj)} : Apart [] news := fun _ h => nomatch h
theorem Apart.cons {a : Addr} {o : Obj} {tl news : List (Addr × Obj)} (h : ∀ q ∈ news, q.1 ≠ a) (r : Apart tl news) : Apart ((a, o) :: tl) news := fun p hp => by
  rcases List.mem_cons.mp hp with rfl | hp
  · exact h
  · exact r p hp
theorem Apart.append {tl tl' news : List (Addr × Obj)} (h : Apart tl news) (r : Apart tl' news) : Apart (tl ++ tl') news := fun p hp => (List.mem_append.mp hp).elim (h p) (r p)
theorem Apart.sub {tl news news' : List (Addr × Obj)} (h : Apart tl news) (s : ∀ p ∈ news', p ∈ news) : Apart tl news' := fun p hp q hq => h p hp q (s q hq)
theorem lt_apart {a : Addr} {news : List (Addr × Obj)} (h : AllLt a news) : ∀ q ∈ news, q.1 ≠ a := fun q hq => Nat.ne_of_lt (tb_ltOf h q hq)
end Mine
namespace Mine
theorem offPQDepth : True := by
  w_top off
  k_with_none
  trivial
open PySem.Spec PySem.Calls
local macro_rules | `(tactic| k_room) => `(tactic| ((simp only [depth_under_make, depth_under_kw, depth_in1, depth_deeper, depth_caller, ktrTop, recursionLimit]); omega))
local macro_rules | `(tactic| ktr_enter) => `(tactic| (refine' code_def ?k1 ?k2 ?k3 ?k4 ?k5 ?kA ?kF ?kK ?k6 ?k7 ?k8 ?k9 ?kB ?_ ?c2 ?c3 ?c4 ?c5; (case kA => exact rfl); (case kF => exact rfl); (case kK => assumption); (case k1 => k_asm); (case k2 => k_asm); (case k3 => k_asm); (case k4 => k_asm); (case k5 => k_asm); (case k6 => k_is); (case k7 => k_is); (case k8 => k_room); (case k9 => first | exact BindsTo.of_eq rfl | exact binds_K (by k_in) rfl (by k_is) rfl rfl rfl); (case c5 => decide); (case kB => exact locs rfl); (case c2 => exact rfl); (case c3 => exact rfl); (case c4 => exact rfl); k_whole; intro g' L' h' FG' F' N' B' X' T'; (try dsimp only); (try k_fold)))
local macro_rules | `(tactic| k_mem) => `(tactic| first | with_reducible assumption | exact List.mem_cons_self | (refine List.mem_cons_of_mem _ ?_; k_mem) | (refine List.mem_append_left _ ?_; k_mem) | (refine List.mem_append_right _ ?_; k_mem))
local macro_rules | `(tactic| walk_at $s:str) => `(tactic| k_extra $s)

theorem hts_snoc : ∀ (ts : List T) (t : T), T.hts (ts ++ [t]) = max (T.hts ts) t.ht
  | [], t => by simp [T.hts]
  | u :: ts, t => by simp only [List.cons_append, T.hts, hts_snoc ts t]; omega
theorem hts_take {ts : List T} {i : Nat} {t : T} (h : ts[i]? = some t) : T.hts (ts.take (i + 1)) = max (T.hts (ts.take i)) t.ht := by
  rw [List.take_add_one, h]; exact hts_snoc _ _

theorem depth_calls (w : World) (k : Nat) : ∀ (t : T), t.ht < k → ∀ (v : Value) (news : List (Addr × Obj)), TIn w news v t → CallsV w 176 [v] news (2 * t.ht + 5) (fun r => ∃ tk, r = .int (t.ht : Int) tk) := by
  induction k with
  | zero => intro t h; omega
  | succ k ih =>
    intro t hk v news R
    unfold CallsV
    k_fill
    intro p loose mean mg mb dp un gd cn cs a ccd cl outer A₀ base h₀ L m s Q E B F X N Tp hk hd hu hret
    k_with_none
    cases R with
    | sym h1 h2 =>
      refine wpAny_call ?_
      k_dflt ktr_enter
      k_with "pyIter ref" => ((rename Fr _ _ _ _ => lF); (rename News _ _ _ _ => lN); refine for_acc (vs := []) (σ := Int × Tok) (Str.ofString "deepest") (fun σ => .int σ.1 σ.2) (fun i σ => σ.1 = 0) (0, _) (by rfl) lF lN (by k_mem) (by rfl) (by rfl) (by rfl) rfl (by intro i v σ I it h tk hv; simp at hv) (fun σ u h' tk hI F' N' => ?_); clear lF lN; dsimp only [envOf] at F' N'; (try k_fold))
      k_steps
      exact hret _ _ _ (by assumption) ((by assumption : News _ _ _ _).perm fun p hp => List.mem_cons_of_mem _ hp) ⟨_, by rw [hI]; rfl⟩
    | num h1 h2 h3 h4 =>
      refine wpAny_call ?_
      k_dflt ktr_enter
      k_with "pyIter ref" => ((rename Fr _ _ _ _ => lF); (rename News _ _ _ _ => lN); refine for_acc (vs := []) (σ := Int × Tok) (Str.ofString "deepest") (fun σ => .int σ.1 σ.2) (fun i σ => σ.1 = 0) (0, _) (by rfl) lF lN (by k_mem) (by rfl) (by rfl) (by rfl) rfl (by intro i v σ I it h tk hv; simp at hv) (fun σ u h' tk hI F' N' => ?_); clear lF lN; dsimp only [envOf] at F' N'; (try k_fold))
      k_steps
      exact hret _ _ _ (by assumption) ((by assumption : News _ _ _ _).perm fun p hp => List.mem_cons_of_mem _ hp) ⟨_, by rw [hI]; rfl⟩
    | @call a d li lt vs us ts tags kk j t1 t2 t3 t4 t5 t6 h1 h2 h3 h4 hts htg =>
      have hmem : ∀ t' ∈ ts, t'.ht + 1 ≤ (T.call ts tags).ht := fun t' h => by have := hts_mem h; simp only [T.ht]; omega
      refine wpAny_call ?_
      k_dflt ktr_enter
      k_with "pyIter ref" => ((rename Fr _ _ _ _ => lF); (rename News _ _ _ _ => lN); refine for_acc (vs := vs) (σ := Int × Tok) (Str.ofString "deepest") (fun σ => .int σ.1 σ.2) (fun i σ => σ.1 = (T.hts (ts.take i) : Int)) (0, _) (by rfl) lF lN (by k_mem) (by rfl) (by rfl) (by rfl) rfl (fun i v σ I it h' tk hv hI hit F' N' hoff => Exists.elim (hts.get hv) fun t' hh => ?_) (fun σ u h' tk hI F' N' => ?_); all_goals (clear lF lN; dsimp only [envOf] at F' N'; (try dsimp only); (try k_fold)))
      k_with "call ref" => k_dflt (refine' CallsV.use ?k1 ?k2 ?k3 ?k4 ?k5 ?kK (ih t' ?kl v _ (hh.2.mono ?kR)) ?kd ?ku ?_; (case k1 => k_asm); (case k2 => k_asm); (case k3 => k_asm); (case k4 => k_asm); (case k5 => k_asm); (case kK => exact rfl); (case kR => exact fun p hp => List.mem_cons_of_mem _ hp); (case kl => (have := hmem t' (List.mem_of_getElem? hh.1); omega)); (case kd => (have := hmem t' (List.mem_of_getElem? hh.1); simp only [depth_deeper, depth_in1, ktrTop]; omega)); (case ku => (have := hmem t' (List.mem_of_getElem? hh.1); simp only [units_deeper, units_in1, ktrTop]; omega)); intro r h' tk' F' N' hr; obtain ⟨tk9, rfl⟩ := hr; (try k_fold))
      k_steps
      · refine ⟨(if (t'.ht : Int) > σ.1 then (t'.ht : Int) else σ.1, if (t'.ht : Int) > σ.1 then tk9 else σ.2), _, _, _, rfl, (by assumption), frame_eq (if_pos rfl) (by intro z h1 h2; simp only [if_neg h1, if_neg h2]), (by assumption), hoff, ?_⟩
        have := hts_take hh.1
        dsimp only
        split <;> omega
      · rw [hts.length, List.take_length] at hI
        exact hret _ _ _ (by assumption) (by assumption) ⟨_, by rw [hI]; rfl⟩
end Mine
namespace Mine
theorem offPQNames : True := by
  w_top off
  k_with_none
  trivial
open PySem.Spec PySem.Calls
local macro_rules | `(tactic| k_room) => `(tactic| ((simp only [depth_under_make, depth_under_kw, depth_in1, depth_deeper, depth_caller, ktrTop, recursionLimit]); omega))
local macro_rules | `(tactic| ktr_enter) => `(tactic| (refine' code_def ?k1 ?k2 ?k3 ?k4 ?k5 ?kA ?kF ?kK ?k6 ?k7 ?k8 ?k9 ?kB ?_ ?c2 ?c3 ?c4 ?c5; (case kA => exact rfl); (case kF => exact rfl); (case kK => assumption); (case k1 => k_asm); (case k2 => k_asm); (case k3 => k_asm); (case k4 => k_asm); (case k5 => k_asm); (case k6 => k_is); (case k7 => k_is); (case k8 => k_room); (case k9 => first | exact BindsTo.of_eq rfl | exact binds_K (by k_in) rfl (by k_is) rfl rfl rfl); (case c5 => decide); (case kB => exact locs rfl); (case c2 => exact rfl); (case c3 => exact rfl); (case c4 => exact rfl); k_whole; intro g' L' h' FG' F' N' B' X' T'; (try dsimp only); (try k_fold)))
local macro_rules | `(tactic| k_mem) => `(tactic| first | with_reducible assumption | exact List.mem_cons_self | (refine List.mem_cons_of_mem _ ?_; k_mem) | (refine List.mem_append_left _ ?_; k_mem) | (refine List.mem_append_right _ ?_; k_mem))
local macro_rules | `(tactic| walk_at $s:str) => `(tactic| k_extra $s)
local macro_rules | `(tactic| k_all) => `(tactic| assumption)

mutual
def T.names : T → List Str
  | .sym x => [x]
  | .num _ => []
  | .call ts _ => T.namesL ts
def T.namesL : List T → List Str
  | [] => []
  | t :: ts => t.names ++ T.namesL ts
end
theorem namesL_snoc : ∀ (ts : List T) (t : T), T.namesL (ts ++ [t]) = T.namesL ts ++ t.names
  | [], t => by simp [T.namesL]
  | u :: ts, t => by simp only [List.cons_append, T.namesL, namesL_snoc ts t, List.append_assoc]
theorem namesL_take {ts : List T} {i : Nat} {t : T} (h : ts[i]? = some t) : T.namesL (ts.take (i + 1)) = T.namesL (ts.take i) ++ t.names := by
  rw [List.take_add_one, h]; exact namesL_snoc _ _
theorem namesL_mem : ∀ {ts : List T} {t : T}, t ∈ ts → ∀ x ∈ t.names, x ∈ T.namesL ts
  | u :: ts, t, h, x, hx => by
    rw [T.namesL]
    rcases List.mem_cons.mp h with rfl | h
    · exact List.mem_append_left _ hx
    · exact List.mem_append_right _ (namesL_mem h x hx)
theorem namesL_le : ∀ (ts : List T) (i : Nat), (T.namesL (ts.take i)).length ≤ (T.namesL ts).length
  | [], i => by simp [T.namesL]
  | u :: ts, 0 => by simp [T.namesL]
  | u :: ts, i + 1 => by
    have := namesL_le ts i
    simp only [List.take_succ_cons, T.namesL, List.length_append]; omega

theorem add_names_calls (w : World) (k : Nat) : ∀ (t : T), t.ht < k → ∀ (v : Value) (fa : Addr) (xs : List Value) (n : Nat) (rest : List (Addr × Obj)), TIn w rest v t → (∀ p ∈ rest, p.1 ≠ fa) → (∀ x ∈ t.names, x ≠ Str.ofString "") → xs.length + t.names.length ≤ 10000 →
    CallsN w 129 [v, .bool true, .ref fa] ((fa, listOf xs.toArray n) :: rest) (2 * t.ht + 5) (fun _ news' => ∃ ys n', DatAll [] ys (t.names.map .str) ∧ news' = (fa, listOf (xs ++ ys).toArray n') :: rest) := by
  induction k with
  | zero => intro t h; omega
  | succ k ih =>
    intro t hk v fa xs n rest R hoff hnm hsz
    unfold CallsN
    k_fill
    intro p loose mean mg mb dp un gd cn cs a ccd cl outer A₀ base h₀ L m s Q E B F X N Tp hk1 hd hu hret
    k_with_none
    cases R with
    | @sym a d x t1 t2 t3 t4 t5 h1 h2 =>
      have hx : (x != Str.ofString "") = true := by simpa [T.names] using hnm x (by simp [T.names])
      refine wpAny_call ?_
      k_dflt ktr_enter
      k_steps
      refine hret _ _ _ _ (by assumption) (by assumption) ⟨[.str x t4], n + 1, .one (.str _ _), ?_⟩
      simp
    | num h1 h2 h3 h4 =>
      refine wpAny_call ?_
      k_dflt ktr_enter
      k_with "pyIter ref" => k_dflt ((rename Fr _ _ _ _ => lF); (rename News _ _ _ _ => lN); refine for_nil (by rfl) lF lN (by k_mem) (by rfl) (by rfl) (fun u h' tk F' N' => ?_); clear lF lN; dsimp only [envOf] at F' N'; (try k_fold))
      k_steps
      refine hret _ _ _ _ (by assumption) ((by assumption : News _ _ _ _).perm fun p hp => List.mem_cons_of_mem _ hp) ⟨[], n, .nil, ?_⟩
      simp
    | @call a d li lt vs us ts tags kk j t1 t2 t3 t4 t5 t6 h1 h2 h3 h4 hts htg =>
      have hmem : ∀ t' ∈ ts, t'.ht + 1 ≤ (T.call ts tags).ht := fun t' h => by have := hts_mem h; simp only [T.ht]; omega
      refine wpAny_call ?_
      k_dflt ktr_enter
      k_with "pyIter ref" => k_dflt ((rename Fr _ _ _ _ => lF); (rename News _ _ _ _ => lN); refine for_led (vs := vs) (σ := List Value × Nat) (fun σ => (fa, listOf (xs ++ σ.1).toArray σ.2) :: rest) (fun i σ => DatAll [] σ.1 ((T.namesL (ts.take i)).map .str)) ([], n) (by rfl) lF (lN.perm (by simp only [List.append_nil]; intro p hp; exact hp)) (by intro _; k_mem) (by rfl) (by rfl) (by simp only [List.take_zero, T.namesL, List.map_nil]; exact .nil) (fun i v σ I it h' tk hv hI hit F' N' hoff' => Exists.elim (hts.get hv) fun t' hh => ?_) (fun σ u h' tk hI F' N' => ?_); all_goals (clear lF lN; dsimp only [envOf] at F' N'; (try dsimp only); (try k_fold)))
      k_with "call ref" => k_dflt (refine' CallsN.use ?k1 ?k2 ?k3 (N'.perm ?kN) ?k5 ?kK (ih t' ?kl v fa (xs ++ σ.1) σ.2 ((I, it) :: rest) (hh.2.mono ?kR) ?ko ?kn ?ks) ?kd ?ku ?_; (case k1 => k_asm); (case k2 => k_asm); (case k3 => k_asm); (case kN => (intro p hp; simp only [List.mem_cons] at hp ⊢; rcases hp with hp | hp | hp <;> simp [hp])); (case k5 => k_asm); (case kK => exact rfl); (case kR => exact fun p hp => List.mem_cons_of_mem _ hp); (case ko => exact List.forall_mem_cons.mpr ⟨fun e => hoff' _ List.mem_cons_self e.symm, hoff⟩); (case kn => exact fun x hx => hnm x (by rw [T.names]; exact namesL_mem (List.mem_of_getElem? hh.1) x hx)); (case ks => (have h8 := hI.length; have h9 := namesL_le ts (i + 1); rw [namesL_take hh.1] at h9; simp only [T.names, List.length_map, List.length_append] at h8 h9 hsz ⊢; omega)); (case kl => (have := hmem t' (List.mem_of_getElem? hh.1); omega)); (case kd => (have := hmem t' (List.mem_of_getElem? hh.1); simp only [depth_deeper, depth_in1, ktrTop]; omega)); (case ku => (have := hmem t' (List.mem_of_getElem? hh.1); simp only [units_deeper, units_in1, ktrTop]; omega)); intro r news' h' tk' F' N' hr; obtain ⟨ys, n', hys, rfl⟩ := hr; (try k_fold))
      k_steps
      · refine ⟨(σ.1 ++ ys, n'), _, _, _, rfl, (by assumption), fun z hz => if_neg hz, N'.perm ?_, (fun p hp => (List.mem_cons.mp hp).elim (fun e => by have h8 := hoff' (fa, listOf (xs ++ σ.1).toArray σ.2) List.mem_cons_self; rw [e]; exact h8) fun hp => hoff' p (List.mem_cons_of_mem _ hp)), ?_⟩
        · simp only [List.append_assoc]
          intro p hp
          simp only [List.mem_cons] at hp ⊢
          rcases hp with hp | hp | hp <;> simp [hp]
        · rw [namesL_take hh.1, List.map_append]
          exact hI.append hys
      · rw [hts.length, List.take_length] at hI
        exact hret _ _ _ _ (by assumption) (by assumption) ⟨σ.1, σ.2, hI, rfl⟩

theorem all_names_calls (w : World) {t : T} {v : Value} {news : List (Addr × Obj)} (R : TIn w news v t) (hnm : ∀ x ∈ t.names, x ≠ Str.ofString "") (hsz : t.names.length ≤ 10000) :
    CallsN w 136 [v, .bool true] news (2 * t.ht + 7) (fun r news' => ∃ fa ys n, r = .ref fa ∧ DatAll [] ys (t.names.map .str) ∧ (∀ p ∈ news, p.1 < fa) ∧ news' = (fa, listOf ys.toArray n) :: news) := by
  unfold CallsN
  k_fill
  intro p loose mean mg mb dp un gd cn cs a ccd cl outer A₀ base h₀ L m s Q E B F X N Tp hk1 hd hu hret
  k_with_none
  refine wpAny_call ?_
  k_dflt ktr_enter
  k_with "call ref" => k_dflt (refine' CallsN.use ?k1 ?k2 ?k3 ?k4 ?k5 ?kK (add_names_calls w _ t (Nat.lt_succ_self _) v _ [] 0 news R ?ko hnm ?ks) ?kd ?ku ?_; (case k1 => k_asm); (case k2 => k_asm); (case k3 => k_asm); (case k4 => k_asm); (case k5 => k_asm); (case kK => exact rfl); (case ko => exact fun p hp => Nat.ne_of_lt (by revert p hp; assumption)); (case ks => simpa using hsz); (case kd => (simp only [depth_deeper, depth_in1, ktrTop]; omega)); (case ku => (simp only [units_deeper, units_in1, ktrTop]; omega)); intro r news' h' tk' F' N' hr; obtain ⟨ys, n', hys, rfl⟩ := hr; (try k_fold))
  k_steps
  exact hret _ _ _ _ (by assumption) (by assumption) ⟨_, ys, n', rfl, hys, (by assumption), rfl⟩
end Mine
namespace Mine
theorem offPQDeep : True := by
  w_top off
  k_with_none
  trivial
open PySem.Spec PySem.Calls
local macro_rules | `(tactic| k_room) => `(tactic| ((simp only [depth_under_make, depth_under_kw, depth_in1, depth_deeper, depth_caller, ktrTop, recursionLimit]); omega))
local macro_rules | `(tactic| ktr_enter) => `(tactic| first
  | (refine' code_def ?k1 ?k2 ?k3 ?k4 ?k5 ?kA ?kF ?kK ?k6 ?k7 ?k8 ?k9 ?kB ?_ ?c2 ?c3 ?c4 ?c5; (case kA => exact rfl); (case kF => exact rfl); (case kK => assumption); (case k1 => k_asm); (case k2 => k_asm); (case k3 => k_asm); (case k4 => k_asm); (case k5 => k_asm); (case k6 => k_is); (case k7 => k_is); (case k8 => k_room); (case k9 => first | exact BindsTo.of_eq rfl | exact binds_K (by k_in) rfl (by k_is) rfl rfl rfl); (case c5 => decide); (case kB => exact locs rfl); (case c2 => exact rfl); (case c3 => exact rfl); (case c4 => exact rfl); k_whole; intro g' L' h' FG' F' N' B' X' T'; (try dsimp only); (try k_fold))
  | (refine' code_defC ?k1 ?k2 ?k3 ?k4 ?k5 ?kA ?kF ?kK ?k6 ?k7 ?k8 ?k9 ?kB ?kD ?_ ?c2 ?c3 ?c4; (case kA => exact rfl); (case kF => exact rfl); (case kK => assumption); (case k1 => k_asm); (case k2 => k_asm); (case k3 => k_asm); (case k4 => k_asm); (case k5 => k_asm); (case k6 => k_is); (case k7 => k_is); (case k8 => k_room); (case k9 => first | exact BindsTo.of_eq rfl | exact binds_K (by k_in) rfl (by k_is) rfl rfl rfl); (case kB => exact rfl); (case kD => decide +kernel); (case c2 => exact rfl); (case c3 => exact rfl); (case c4 => exact rfl); k_whole; intro g' L' h' tk' cells' FG' F' N' Y' B' X' T' l1; (try k_lt l1); k_cells Y'; (try simp only [List.cons_append, List.nil_append] at N'); (try dsimp only); (try k_fold)))
local macro_rules | `(tactic| k_mem) => `(tactic| first | with_reducible assumption | exact List.mem_cons_self | (refine List.mem_cons_of_mem _ ?_; k_mem) | (refine List.mem_append_left _ ?_; k_mem) | (refine List.mem_append_right _ ?_; k_mem))
local macro_rules | `(tactic| walk_at $s:str) => `(tactic| k_extra $s)
local macro_rules | `(tactic| k_all) => `(tactic| assumption)

def oneDeep (q : Option Int) (x : Str) : Int := match q with | none => 0 | some k => if x = Str.ofString "a" then k else 0
mutual
def T.deep (q : Option Int) : T → Int
  | .sym x => oneDeep q x
  | .num _ => 0
  | .call ts _ => 1 + T.deeps q ts
def T.deeps (q : Option Int) : List T → Int
  | [] => 0
  | t :: ts => max (t.deep q) (T.deeps q ts)
end
mutual
/-- every call has one item at the least and eight at the most -/
def T.Ok : T → Prop
  | .sym _ => True
  | .num _ => True
  | .call ts tags => ts ≠ [] ∧ ts.length ≤ 8 ∧ (tags.length ≤ 8 ∧ ∀ d ∈ tags, kqdOk 8 d = true) ∧ T.Oks ts
def T.Oks : List T → Prop
  | [] => True
  | t :: ts => t.Ok ∧ T.Oks ts
end
theorem oks_mem : ∀ {ts : List T} {t : T}, T.Oks ts → t ∈ ts → t.Ok
  | u :: ts, t, h, hm => by
    rw [T.Oks] at h
    rcases List.mem_cons.mp hm with rfl | hm
    · exact h.1
    · exact oks_mem h.2 hm

def EndsAre (kvs : List (Str × Value)) (q : Option Int) : Prop := (q = none ∧ kvs = []) ∨ ∃ k tk, q = some k ∧ kvs = [(Str.ofString "a", Value.int k tk)]
theorem ends_get {kvs : List (Str × Value)} {q : Option Int} (h : EndsAre kvs q) (x : Str) (t : Tok) : ∃ tk, (valueAt kvs x).getD (.int 0 t) = .int (oneDeep q x) tk := by
  rcases h with ⟨rfl, rfl⟩ | ⟨k, tk, rfl, rfl⟩
  · exact ⟨t, rfl⟩
  · by_cases h : x = Str.ofString "a"
    · subst h; exact ⟨tk, by simp [valueAt, oneDeep]⟩
    · refine ⟨t, ?_⟩
      have h' : ¬ Str.ofString "a" = x := fun e => h e.symm
      simp [valueAt, oneDeep, h, h']
theorem deep_get {prog : Program} {w : World} {A : Around} {E : Value → Shared → Prop} {s : Shared} {h₀ : Heap} {L d : Addr} {news : List (Addr × Obj)} {o : Obj} {kvs : List (Str × Value)} {q : Option Int} {x : Str} {t t' : Tok} {Q : Value → Shared → Prop}
    (N : News h₀ L s.heap news) (hp : (d, o) ∈ news) (hd : o.IsDictOf (PySem.strKind prog w) kvs) (lo : (d == sysModules) = false) (he : EndsAre kvs q) (h : ∀ tk, Q (.int (oneDeep q x) tk) { s with toks := s.toks + 1 }) :
    wpAny (model prog w) A (call (.builtin "dict.get") [.ref d, .str x t, .int 0 t']) Q E s := by
  obtain ⟨tk, e⟩ := ends_get he x t'
  refine kdg_get2 N hp hd lo (strKind_is _ _ _ _) _ rfl ?_
  rw [e]; exact h tk

theorem oneDeep_nonneg {q : Option Int} (hq : ∀ k, q = some k → 0 ≤ k) (x : Str) : 0 ≤ oneDeep q x := by
  unfold oneDeep
  cases q with
  | none => exact Int.le_refl _
  | some k => dsimp only; split; exact hq k rfl; exact Int.le_refl _
mutual
theorem deep_nonneg {q : Option Int} (hq : ∀ k, q = some k → 0 ≤ k) : ∀ t : T, 0 ≤ t.deep q
  | .sym x => by rw [T.deep]; exact oneDeep_nonneg hq x
  | .num _ => by rw [T.deep]; exact Int.le_refl _
  | .call ts _ => by have := deeps_nonneg hq ts; rw [T.deep]; omega
theorem deeps_nonneg {q : Option Int} (hq : ∀ k, q = some k → 0 ≤ k) : ∀ ts : List T, 0 ≤ T.deeps q ts
  | [] => by rw [T.deeps]; exact Int.le_refl _
  | t :: ts => by have := deep_nonneg hq t; rw [T.deeps]; omega
end
theorem deeps_is {q : Option Int} (hq : ∀ k, q = some k → 0 ≤ k) : ∀ {ts : List T} {M : Int}, M ∈ ts.map (T.deep q) → (∀ a, a ∈ ts.map (T.deep q) → a ≤ M) → M = T.deeps q ts := by
  have up : ∀ {ts : List T} {M : Int}, 0 ≤ M → (∀ a, a ∈ ts.map (T.deep q) → a ≤ M) → T.deeps q ts ≤ M := by
    intro ts
    induction ts with
    | nil => intro M h _; rw [T.deeps]; exact h
    | cons t ts ih =>
      intro M h hM
      have h1 := hM _ (List.mem_cons_self)
      have h2 := ih h fun a ha => hM a (List.mem_cons_of_mem _ ha)
      rw [T.deeps]; omega
  have lo : ∀ {ts : List T} {M : Int}, M ∈ ts.map (T.deep q) → M ≤ T.deeps q ts := by
    intro ts
    induction ts with
    | nil => intro M h; simp at h
    | cons t ts ih =>
      intro M h
      rw [List.map_cons] at h
      rw [T.deeps]
      rcases List.mem_cons.mp h with h | h
      · omega
      · have := ih h; omega
  intro ts M h1 h2
  have h0 : 0 ≤ M := by
    obtain ⟨t, _, rfl⟩ := List.mem_map.mp h1
    exact deep_nonneg hq t
  have := up h0 h2
  have := lo h1
  omega
theorem map_take_succ {α β : Type} (f : α → β) {ts : List α} {i : Nat} {t : α} (h : ts[i]? = some t) : (ts.take (i + 1)).map f = (ts.take i).map f ++ [f t] := by
  rw [List.take_add_one, h]; simp

theorem deep_calls (w : World) (q : Option Int) (hq : ∀ k, q = some k → 0 ≤ k) (k : Nat) : ∀ (t : T), t.ht < k → ∀ (v : Value) (ed : Addr) (eo : Obj) (kvs : List (Str × Value)) (news : List (Addr × Obj)), TIn w news v t → t.Ok → (ed, eo) ∈ news → eo.IsDictOf (PySem.strKind PySem.Challenge.rw_pq1393_01.row.prog w) kvs → (ed == sysModules) = false → EndsAre kvs q →
    CallsV w 195 [v, .ref ed] news (2 * t.ht + 5) (fun r => ∃ tk, r = .int (t.deep q) tk) := by
  induction k with
  | zero => intro t h; omega
  | succ k ih =>
    intro t hk v ed eo kvs news R hok he hdict hlo hends
    unfold CallsV
    k_fill
    intro p loose mean mg mb dp un gd cn cs a ccd cl outer A₀ base h₀ L m s Q E B F X N Tp hk1 hd hu hret
    k_with_none
    k_with "getMethod ref" => k_dflt (refine kdg_method (knd := PySem.strKind _ _) (by k_asm) (by k_mem) hdict ?_)
    k_with "call builtin:dict.get" => k_dflt (refine deep_get (by k_asm) (by k_mem) hdict hlo hends ?_; intro tk9)
    cases R with
    | @sym a d x t1 t2 t3 t4 t5 h1 h2 =>
      refine wpAny_call ?_
      k_dflt ktr_enter
      k_steps
      exact hret _ _ _ (by assumption) ((by assumption : News _ _ _ _).perm fun p hp => List.mem_cons_of_mem _ hp) ⟨_, rfl⟩
    | num h1 h2 h3 h4 =>
      refine wpAny_call ?_
      k_dflt ktr_enter
      k_steps
      exact hret _ _ _ (by assumption) ((by assumption : News _ _ _ _).perm fun p hp => List.mem_cons_of_mem _ hp) ⟨_, rfl⟩
    | @call a d li lt vs us ts tags kk j t1 t2 t3 t4 t5 t6 h1 h2 h3 h4 hts htg =>
      have hmem : ∀ t' ∈ ts, t'.ht + 1 ≤ (T.call ts tags).ht := fun t' h => by have := hts_mem h; simp only [T.ht]; omega
      have hvl : vs.length ≤ 8 := by rw [hts.length]; simp only [T.Ok] at hok; exact hok.2.1
      refine wpAny_call ?_
      k_dflt ktr_enter
      k_with "eval ListComp" => k_dflt (refine LCg.ListComp_U (F₀ := by k_asm) (by with_unfolding_all rfl) (by decide) (by rfl) (by decide) (by rfl) ?_)
      k_with "CompSrc" => k_dflt (refine LCg.CompSrc.ledger (by rfl) (by k_asm) (by k_asm) (by k_mem) (by rw [PySem.sizeLine_eq]; simp only [List.size_toArray]; omega) ?_; intro g'; refine comp_turns (fun i ys nw => nw = _ ∧ IntsAre ys ((ts.take i).map (T.deep q))) ⟨rfl, by simp only [List.take_zero, List.map_nil]; exact .nil⟩ (fun i v ys nw I oI C oC D m₂ h' tk' E' hv hJ hC hx F' N' off ne => Exists.elim (hts.get hv) fun t' hh => ?_) (fun ys nw hJ => ?_); all_goals (obtain ⟨rfl, hJ⟩ := hJ))
      k_with "call ref" => k_dflt (refine' CallsV.use ?k1 ?k2 ?k3 ?k4 ?k5 ?kK (ih t' ?kl v ed eo kvs _ (hh.2.mono ?kR) ?ko ?ke hdict hlo hends) ?kd ?ku ?_; (case k1 => k_asm); (case k2 => k_asm); (case k3 => k_asm); (case k4 => k_asm); (case k5 => k_asm); (case kK => exact rfl); (case ko => (simp only [T.Ok] at hok; exact oks_mem hok.2.2.2 (List.mem_of_getElem? hh.1))); (case ke => k_mem); (case kR => (intro p hp; k_mem)); (case kl => (have := hmem t' (List.mem_of_getElem? hh.1); omega)); (case kd => (have := hmem t' (List.mem_of_getElem? hh.1); simp only [depth_deeper, depth_in1, ktrTop]; omega)); (case ku => (have := hmem t' (List.mem_of_getElem? hh.1); simp only [units_deeper, units_in1, ktrTop]; omega)); intro r h' tk' F' N' hr; obtain ⟨tk9, rfl⟩ := hr; (try k_fold))
      k_with "CompEnd" => k_dflt (refine LCg.CompEnd.intro (by assumption) (by assumption) _ (fun p hp => hp) off (Or.inr ⟨_, by k_mem, rfl, _, rfl⟩) ⟨rfl, ?_⟩; rw [map_take_succ _ hh.1]; exact hJ.append (.cons _ _ .nil))
      have hne : ts ≠ [] := by simp only [T.Ok] at hok; exact hok.1
      k_with "call builtin:max" => k_dflt (refine kso_max (by k_asm) (by k_asm) (kso_isList (by k_asm) (by k_mem) rfl) hJ (by rw [List.length_map, hts.length, List.take_length]; exact List.length_pos_iff.mpr hne) (by rfl) ?_; intro h' M tM tk' F' N' hM1 hM2)
      k_steps
      rw [hts.length, List.take_length] at hM1 hM2
      exact hret _ _ _ (by assumption) ((by assumption : News _ _ _ _).perm fun p hp => List.mem_cons_of_mem _ (List.mem_cons_of_mem _ hp)) ⟨_, by rw [deeps_is hq hM1 hM2]; rfl⟩
end Mine
namespace Mine
theorem offPQTags : True := by
  w_top off
  k_with_none
  trivial
open PySem.Spec PySem.Calls
local macro_rules | `(tactic| k_room) => `(tactic| ((simp only [depth_under_make, depth_under_kw, depth_in1, depth_deeper, depth_caller, ktrTop, recursionLimit]); omega))
local macro_rules | `(tactic| ktr_enter) => `(tactic| first
  | (refine' code_def ?k1 ?k2 ?k3 ?k4 ?k5 ?kA ?kF ?kK ?k6 ?k7 ?k8 ?k9 ?kB ?_ ?c2 ?c3 ?c4 ?c5; (case kA => exact rfl); (case kF => exact rfl); (case kK => assumption); (case k1 => k_asm); (case k2 => k_asm); (case k3 => k_asm); (case k4 => k_asm); (case k5 => k_asm); (case k6 => k_is); (case k7 => k_is); (case k8 => k_room); (case k9 => first | exact BindsTo.of_eq rfl | exact binds_K (by k_in) rfl (by k_is) rfl rfl rfl); (case c5 => decide); (case kB => exact locs rfl); (case c2 => exact rfl); (case c3 => exact rfl); (case c4 => exact rfl); k_whole; intro g' L' h' FG' F' N' B' X' T'; (try dsimp only); (try k_fold))
  | (refine' code_defC ?k1 ?k2 ?k3 ?k4 ?k5 ?kA ?kF ?kK ?k6 ?k7 ?k8 ?k9 ?kB ?kD ?_ ?c2 ?c3 ?c4; (case kA => exact rfl); (case kF => exact rfl); (case kK => assumption); (case k1 => k_asm); (case k2 => k_asm); (case k3 => k_asm); (case k4 => k_asm); (case k5 => k_asm); (case k6 => k_is); (case k7 => k_is); (case k8 => k_room); (case k9 => first | exact BindsTo.of_eq rfl | exact binds_K (by k_in) rfl (by k_is) rfl rfl rfl); (case kB => exact rfl); (case kD => decide +kernel); (case c2 => exact rfl); (case c3 => exact rfl); (case c4 => exact rfl); k_whole; intro g' L' h' tk' cells' FG' F' N' Y' B' X' T' l1; (try k_lt l1); k_cells Y'; (try simp only [List.cons_append, List.nil_append] at N'); (try dsimp only); (try k_fold)))
local macro_rules | `(tactic| k_mem) => `(tactic| first | with_reducible assumption | exact List.mem_cons_self | (refine List.mem_cons_of_mem _ ?_; k_mem) | (refine List.mem_append_left _ ?_; k_mem) | (refine List.mem_append_right _ ?_; k_mem))
local macro_rules | `(tactic| walk_at $s:str) => `(tactic| k_extra $s)
local macro_rules | `(tactic| k_all) => `(tactic| assumption)

mutual
def T.tagsOf : T → List Dat
  | .sym _ => []
  | .num _ => []
  | .call ts tags => .list tags :: T.tagsOfL ts
def T.tagsOfL : List T → List Dat
  | [] => []
  | t :: ts => t.tagsOf ++ T.tagsOfL ts
end
theorem tagsL_snoc : ∀ (ts : List T) (t : T), T.tagsOfL (ts ++ [t]) = T.tagsOfL ts ++ t.tagsOf
  | [], t => by simp [T.tagsOfL]
  | u :: ts, t => by simp only [List.cons_append, T.tagsOfL, tagsL_snoc ts t, List.append_assoc]
theorem tagsL_take {ts : List T} {i : Nat} {t : T} (h : ts[i]? = some t) : T.tagsOfL (ts.take (i + 1)) = T.tagsOfL (ts.take i) ++ t.tagsOf := by
  rw [List.take_add_one, h]; exact tagsL_snoc _ _
theorem tagsL_le : ∀ (ts : List T) (i : Nat), (T.tagsOfL (ts.take i)).length ≤ (T.tagsOfL ts).length
  | [], i => by simp [T.tagsOfL]
  | u :: ts, 0 => by simp [T.tagsOfL]
  | u :: ts, i + 1 => by
    have := tagsL_le ts i
    simp only [List.take_succ_cons, T.tagsOfL, List.length_append]; omega

theorem extend_any {prog : Program} {w : World} {A : Around} {E : Value → Shared → Prop} {s : Shared} {h₀ : Heap} {L D b : Addr} {m : Str → Option Value} {rest : List (Addr × Obj)} {xs ys : List Value} {n n2 : Nat} {Q : Value → Shared → Prop}
    (F : Fr h₀ L s.heap m) (N : News h₀ L s.heap ((D, listOf xs.toArray n) :: rest)) (hb : (b, listOf ys.toArray n2) ∈ rest) (hoff : ∀ p ∈ rest, p.1 ≠ D) (hz : xs.length + ys.length ≤ 10000)
    (h : ∀ h' n', Fr h₀ L h' m → News h₀ L h' ((D, listOf (xs ++ ys).toArray n') :: rest) → Q .none { s with heap := h' }) : wpAny (model prog w) A (call (.builtin "list.extend") [.ref D, .ref b]) Q E s := by
  by_cases hy : ys = []
  · subst hy
    refine kxn_extend F N (List.mem_cons_of_mem _ hb) (by simp) (.head hoff) ?_ ?_ ?_ fun h' F' N' => h h' n F' (by simpa using N')
    · simp [Builtin.List.listTooLong, PySem.sizeLine_eq]; omega
    · rw [PySem.sizeLine_eq]; simp; omega
    · rw [PySem.sizeLine_eq]; simp; omega
  · refine kl_extend (l := xs ++ ys) F N (List.mem_cons_of_mem _ hb) (by simp) (by simpa using hy) (.head hoff) ?_ ?_ ?_ fun h' F' N' => h h' (n + 1) F' N'
    · simp [Builtin.List.listTooLong, PySem.sizeLine_eq]; omega
    · rw [PySem.sizeLine_eq]; simp; omega
    · rw [PySem.sizeLine_eq]; simp; omega

theorem tags_calls (w : World) (k : Nat) : ∀ (t : T), t.ht < k → ∀ (v : Value) (news : List (Addr × Obj)), TIn w news v t → t.Ok → t.tagsOf.length ≤ 10000 →
    CallsN w 202 [v] news (2 * t.ht + 5) (fun r news' => ∃ fa ys n tl, r = .ref fa ∧ news' = tl ++ news ∧ (fa, listOf ys.toArray n) ∈ tl ∧ DatAll tl ys t.tagsOf ∧ ∀ p ∈ tl, ∀ q ∈ news, q.1 < p.1) := by
  induction k with
  | zero => intro t h; omega
  | succ k ih =>
    intro t hk v news R hok hsz
    unfold CallsN
    k_fill
    intro p loose mean mg mb dp un gd cn cs a ccd cl outer A₀ base h₀ L m s Q E B F X N Tp hk1 hd hu hret
    k_with_none
    cases R with
    | @sym a d x t1 t2 t3 t4 t5 h1 h2 =>
      refine wpAny_call ?_
      k_dflt ktr_enter
      k_steps
      refine hret _ _ _ _ (by assumption) (by assumption) ⟨_, [], 0, [(_, _)], rfl, rfl, List.mem_cons_self, .nil, ?_⟩
      intro p hp
      rw [List.mem_singleton.mp hp]
      assumption
    | num h1 h2 h3 h4 =>
      refine wpAny_call ?_
      k_dflt ktr_enter
      k_steps
      refine hret _ _ _ _ (by assumption) (by assumption) ⟨_, [], 0, [(_, _)], rfl, rfl, List.mem_cons_self, .nil, ?_⟩
      intro p hp
      rw [List.mem_singleton.mp hp]
      assumption
    | @call a d li lt vs us ts tags kk j t1 t2 t3 t4 t5 t6 h1 h2 h3 h4 hts htg =>
      have hmem : ∀ t' ∈ ts, t'.ht + 1 ≤ (T.call ts tags).ht := fun t' h => by have := hts_mem h; simp only [T.ht]; omega
      have hvl : vs.length ≤ 8 := by rw [hts.length]; simp only [T.Ok] at hok; exact hok.2.1
      have hul : us.length ≤ 8 := by rw [htg.length]; simp only [T.Ok] at hok; exact hok.2.2.1.1
      refine wpAny_call ?_
      k_dflt ktr_enter
      k_with "call type:list" => k_dflt (refine list_copyK (items := us.toArray) (by k_asm) (by k_asm) (kso_isList (by k_asm) (by k_mem) rfl) ?_ (by rw [PySem.sizeLine_eq]; simp only [List.size_toArray]; omega); intro D' c' h' F' N' l1; (try k_lt l1))
      k_with "newList" => k_dflt (refine newList_K (by k_asm) (by k_asm) ?_; intro fa h' F' N' lfa; (try dsimp only))
      k_with "pyIter ref" => k_dflt ((rename Fr _ _ _ _ => lF); (rename News _ _ _ _ => lN); refine for_led (vs := vs) (σ := List Value × Nat × List (Addr × Obj)) (fun σ => (fa, listOf σ.1.toArray σ.2.1) :: (σ.2.2 ++ (D', listOf us.toArray c') :: news)) (fun i σ => DatAll (σ.2.2 ++ (D', listOf us.toArray c') :: []) σ.1 (.list tags :: T.tagsOfL (ts.take i)) ∧ ∀ p ∈ σ.2.2, fa < p.1 ∧ ∀ q ∈ news, q.1 < p.1) ([.ref D'], 0, []) (by rfl) lF lN (by intro _; k_mem) (by rfl) (by rfl) ⟨.cons (.list List.mem_cons_self (htg.mono (by simp))) (by rw [List.take_zero, T.tagsOfL]; exact .nil), by simp⟩ (fun i v σ I it h' tk hv hI hit F' N' hoff' => Exists.elim (hts.get hv) fun t' hh => ?_) (fun σ u h' tk hI F' N' => ?_); all_goals (clear lF lN; dsimp only [envOf] at F' N'; (try dsimp only); (try k_fold)))
      k_with "call ref" => k_dflt (refine' CallsN.use ?k1 ?k2 ?k3 ?k4 ?k5 ?kK (ih t' ?kl v _ (hh.2.mono ?kR) ?ko ?ks) ?kd ?ku ?_; (case k1 => k_asm); (case k2 => k_asm); (case k3 => k_asm); (case k4 => k_asm); (case k5 => k_asm); (case kK => exact rfl); (case ko => (simp only [T.Ok] at hok; exact oks_mem hok.2.2.2 (List.mem_of_getElem? hh.1))); (case kR => (intro p hp; k_mem)); (case ks => (have h9 := tagsL_le ts (i + 1); rw [tagsL_take hh.1] at h9; simp only [T.tagsOf, List.length_cons, List.length_append] at h9 hsz ⊢; omega)); (case kl => (have := hmem t' (List.mem_of_getElem? hh.1); omega)); (case kd => (have := hmem t' (List.mem_of_getElem? hh.1); simp only [depth_deeper, depth_in1, ktrTop]; omega)); (case ku => (have := hmem t' (List.mem_of_getElem? hh.1); simp only [units_deeper, units_in1, ktrTop]; omega)); intro r news' h' tk' F' N' hr; obtain ⟨fb, ys, n', tl, rfl, rfl, hfb, hys, habv⟩ := hr; (try k_fold))
      k_with "call builtin:list.extend" => k_dflt (refine extend_any (xs := σ.1) (ys := ys) (rest := tl ++ (I, it) :: (σ.2.2 ++ (D', listOf us.toArray c') :: news)) (by k_asm) (N'.perm pm1) (by k_mem) (by intro p hp; simp only [List.mem_append, List.mem_cons] at hp; rcases hp with hp | rfl | hp | rfl | hp; exact Nat.ne_of_gt (habv p hp (fa, _) (List.mem_cons_of_mem _ List.mem_cons_self)); exact fun e => hoff' (fa, _) List.mem_cons_self e.symm; exact Nat.ne_of_gt (hI.2 p hp).1; exact Nat.ne_of_lt (lfa _ List.mem_cons_self); exact Nat.ne_of_lt (lfa p (List.mem_cons_of_mem _ hp))) (by have h9 := tagsL_le ts (i + 1); have h7 := hI.1.length; have h8 := hys.length; rw [tagsL_take hh.1] at h9; simp only [T.tagsOf, List.length_cons, List.length_append] at h7 h8 h9 hsz ⊢; omega) ?_; intro h' n9 F' N'; (try dsimp only))
      k_steps
      · refine ⟨(σ.1 ++ ys, n9, tl ++ σ.2.2), _, _, _, rfl, (by assumption), fun z hz => if_neg hz, N'.perm pm2, ?_, ?_, ?_⟩
        · intro p hp
          simp only [List.mem_append, List.mem_cons] at hp
          rcases hp with rfl | (hp | hp) | hp
          · have h8 : fa ≠ I := hoff' (fa, listOf σ.1.toArray σ.2.1) List.mem_cons_self
            exact h8
          · exact Nat.ne_of_gt (habv p hp (I, it) List.mem_cons_self)
          · exact hoff' p (List.mem_cons_of_mem _ (List.mem_append_left _ hp))
          · exact hoff' p (List.mem_cons_of_mem _ (List.mem_append_right _ (List.mem_cons.mpr hp)))
        · rw [tagsL_take hh.1, ← List.cons_append]
          exact (hI.1.mono pm3).append (hys.mono pm4)
        · intro p hp
          rcases List.mem_append.mp hp with hp | hp
          · exact ⟨habv p hp (fa, _) (List.mem_cons_of_mem _ List.mem_cons_self), fun q hq => habv p hp q (List.mem_cons_of_mem _ (List.mem_cons_of_mem _ (List.mem_append_right _ (List.mem_cons_of_mem _ hq))))⟩
          · exact hI.2 p hp
      · rw [hts.length, List.take_length] at hI
        refine hret _ _ _ _ (by assumption) (by assumption) ⟨fa, σ.1, σ.2.1, (fa, listOf σ.1.toArray σ.2.1) :: (σ.2.2 ++ [(D', listOf us.toArray c')]), rfl, by simp, List.mem_cons_self, hI.1.mono (fun p hp => List.mem_cons_of_mem _ hp), ?_⟩
        intro p hp q hq
        simp only [List.mem_cons, List.mem_append, List.not_mem_nil, or_false] at hp
        rcases hp with rfl | hp | rfl
        · exact lfa q (List.mem_cons_of_mem _ hq)
        · exact (hI.2 p hp).2 q hq
        · exact l1 q hq
end Mine
namespace Mine
theorem offPQEqual : True := by
  w_top off
  k_with_none
  trivial
open PySem.Spec PySem.Calls
local macro_rules | `(tactic| k_room) => `(tactic| ((simp only [depth_under_make, depth_under_kw, depth_in1, depth_deeper, depth_caller, ktrTop, recursionLimit]); omega))
local macro_rules | `(tactic| ktr_enter) => `(tactic| first
  | (refine' code_def ?k1 ?k2 ?k3 ?k4 ?k5 ?kA ?kF ?kK ?k6 ?k7 ?k8 ?k9 ?kB ?_ ?c2 ?c3 ?c4 ?c5; (case kA => exact rfl); (case kF => exact rfl); (case kK => assumption); (case k1 => k_asm); (case k2 => k_asm); (case k3 => k_asm); (case k4 => k_asm); (case k5 => k_asm); (case k6 => k_is); (case k7 => k_is); (case k8 => k_room); (case k9 => first | exact BindsTo.of_eq rfl | exact binds_K (by k_in) rfl (by k_is) rfl rfl rfl); (case c5 => decide); (case kB => exact locs rfl); (case c2 => exact rfl); (case c3 => exact rfl); (case c4 => exact rfl); k_whole; intro g' L' h' FG' F' N' B' X' T'; (try dsimp only); (try k_fold))
  | (refine' code_defC ?k1 ?k2 ?k3 ?k4 ?k5 ?kA ?kF ?kK ?k6 ?k7 ?k8 ?k9 ?kB ?kD ?_ ?c2 ?c3 ?c4; (case kA => exact rfl); (case kF => exact rfl); (case kK => assumption); (case k1 => k_asm); (case k2 => k_asm); (case k3 => k_asm); (case k4 => k_asm); (case k5 => k_asm); (case k6 => k_is); (case k7 => k_is); (case k8 => k_room); (case k9 => first | exact BindsTo.of_eq rfl | exact binds_K (by k_in) rfl (by k_is) rfl rfl rfl); (case kB => exact rfl); (case kD => decide +kernel); (case c2 => exact rfl); (case c3 => exact rfl); (case c4 => exact rfl); k_whole; intro g' L' h' tk' cells' FG' F' N' Y' B' X' T' l1; (try k_lt l1); k_cells Y'; (try simp only [List.cons_append, List.nil_append] at N'); (try dsimp only); (try k_fold)))
local macro_rules | `(tactic| k_mem) => `(tactic| first | with_reducible assumption | exact List.mem_cons_self | (refine List.mem_cons_of_mem _ ?_; k_mem) | (refine List.mem_append_left _ ?_; k_mem) | (refine List.mem_append_right _ ?_; k_mem))
local macro_rules | `(tactic| walk_at $s:str) => `(tactic| k_extra $s)
local macro_rules | `(tactic| k_all) => `(tactic| assumption)

local macro_rules | `(tactic| ke_room) => `(tactic| (have hcL9 := cLine_is; simp only [units_deeper, units_in1, ktrTop]; omega))
theorem item_at {prog : Program} {w : World} {A : Around} {E : Value → Shared → Prop} {s : Shared} {value slice : PySem.Expr} {l : Addr} {vs : List Value} {k : Int} {u : Tok} {v : Value} {Q : Value → Shared → Prop}
    (hl : s.heap.IsList l vs.toArray) (h0 : 0 ≤ k) (hhi : k < 2 ^ 63) (hx : vs[k.toNat]? = some v) (h : Q v s)
    (hs : subscripted slice false (.ref l) (.int k u) = operate [.ref l, .int k u] (getItem (.ref l) (.int k u)) := by with_unfolding_all rfl) :
    wpAny (model prog w) A (subscriptTail value slice (.ref l) (.int k u)) Q E s :=
  tail_any hl.typeIs slot_list_getitem.lookup (wpAny_getItem_list hl h0 hhi (by simpa using hx) h) hs

theorem len_at {prog : Program} {w : World} {A : Around} {E : Value → Shared → Prop} {s : Shared} {l : Addr} {vs : List Value} {n : Nat} {Q : Value → Shared → Prop} (hl : s.heap.IsList l vs.toArray) (hn : vs.length = n) (hb : n ≤ 10000)
    (h : ∀ t, Q (.int (n : Int) t) { s with toks := s.toks + 1 + 1 }) : wpAny (model prog w) A (call (.builtin "len") [.ref l]) Q E s := by
  refine len_list hl (by rw [List.size_toArray]; omega) ?_
  rw [List.size_toArray, hn]
  exact h _
theorem TsIn.at {w : World} {news : List (Addr × Obj)} : ∀ {vs : List Value} {ts : List T}, TsIn w news vs ts → ∀ {i : Nat} {t : T}, ts[i]? = some t → ∃ v, vs[i]? = some v ∧ TIn w news v t
  | _, _, .nil, i, v, h => by simp at h
  | _, _, .cons (v := v) h r, 0, t, e => by simp at e; subst e; exact ⟨v, rfl, h⟩
  | _, _, .cons h r, i + 1, t, e => by
    simp only [List.getElem?_cons_succ] at e ⊢
    exact r.at e

theorem equal_calls (w : World) (k : Nat) : ∀ (t : T), t.ht < k → ∀ (u v : Value) (news : List (Addr × Obj)), TIn w news u t → TIn w news v t → t.Ok →
    CallsV w 162 [u, v] news (2 * t.ht + 6) (fun r => r = .bool true) := by
  induction k with
  | zero => intro t h; omega
  | succ k ih =>
    intro t hk u v news R R' hok
    unfold CallsV
    k_fill
    intro p loose mean mg mb dp un gd cn cs a ccd cl outer A₀ base h₀ L m s Q E B F X N Tp hk1 hd hu hret
    k_with_none
    cases R with
    | @sym a d x t1 t2 t3 t4 t5 h1 h2 =>
      cases R' with | sym h3 h4 =>
      refine wpAny_call ?_
      k_dflt ktr_enter
      k_steps
      exact hret _ _ _ (by assumption) (by assumption) (by simp)
    | num h1 h2 h3 h4 =>
      cases R' with | num g1 g2 g3 g4 =>
      refine wpAny_call ?_
      k_dflt ktr_enter
      k_steps
      exact hret _ _ _ (by assumption) ((by assumption : News _ _ _ _).perm fun p hp => List.mem_cons_of_mem _ hp) rfl
    | @call a d li lt vs us ts tags kk j t1 t2 t3 t4 t5 t6 h1 h2 h3 h4 hts htg =>
      cases R' with | @call a' d' li' lt' vs' us' _ _ kk' j' t1' t2' t3' t4' t5' t6' g1 g2 g3 g4 gts gtg =>
      have hmem : ∀ t' ∈ ts, t'.ht + 1 ≤ (T.call ts tags).ht := fun t' h => by have := hts_mem h; simp only [T.ht]; omega
      have hvl : vs.length ≤ 8 := by rw [hts.length]; simp only [T.Ok] at hok; exact hok.2.1
      have hul : us.length ≤ 8 := by rw [htg.length]; simp only [T.Ok] at hok; exact hok.2.2.1.1
      refine wpAny_call ?_
      k_dflt ktr_enter
      have htk : ∀ d ∈ tags, kqdOk 8 d = true := by simp only [T.Ok] at hok; exact hok.2.2.1.2
      k_with "compareOp Eq ref ref" => k_dflt (refine kqd_eq (by k_asm) h4 rfl rfl htg (by simp) g4 rfl rfl gtg (by simp) htk htk (by ke_room) ?_; rw [decide_eq_true rfl])
      k_with "call builtin:len" => k_dflt (first | refine len_at (kso_isList (by k_asm) h3 rfl) hts.length (by rw [← hts.length]; omega) ?_ | refine len_at (kso_isList (by k_asm) g3 rfl) gts.length (by rw [← hts.length]; omega) ?_; intro tk9)
      have htl : ts.length ≤ 8 := by rw [← hts.length]; exact hvl
      k_with "call type:range" => k_dflt (refine range1_rows (by k_asm) (by k_asm) ?_; intro h' tk' rt ru rv rgX F' N' _; (try dsimp only))
      k_with "ite" => k_dflt (refine ite_neg (by simp) ?_)
      k_with "pyIter ref" => k_dflt ((rename Fr _ _ _ _ => lF); (rename News _ _ _ _ => lN); refine for_rled (n := ts.length) (σ := Unit) (fun _ => _) (fun i σ => True) () (by rfl) rgX (small_one (by omega) (by omega) (by omega) (by omega)) (by rw [rangeSize_nat]; omega) lF lN trivial (fun i tki σ I it h' tk' hi hI hit F' N' hoff' => Exists.elim (hts.at (List.getElem?_eq_getElem hi)) fun v1 hv1 => Exists.elim (gts.at (List.getElem?_eq_getElem hi)) fun v2 hv2 => ?_) (fun σ u h' tk' hI F' N' => ?_); all_goals (clear lF lN; dsimp only [envOf] at F' N'; (try dsimp only); (try k_fold)))
      k_with "subscriptTail Name Name ref int" => k_dflt (first | refine item_at (kso_isList (by k_asm) (List.mem_cons_of_mem _ h3) rfl) (by omega) (by omega) (by rw [show (0 + (i : Int)).toNat = i by omega]; exact hv1.1) ?_ | refine item_at (kso_isList (by k_asm) (List.mem_cons_of_mem _ g3) rfl) (by omega) (by omega) (by rw [show (0 + (i : Int)).toNat = i by omega]; exact hv2.1) ?_)
      k_with "call ref" => k_dflt (refine' CallsV.use ?k1 ?k2 ?k3 ?k4 ?k5 ?kK (ih ts[i] ?kl v1 v2 _ (hv1.2.mono ?kR) (hv2.2.mono ?kR') ?ko) ?kd ?ku ?_; (case k1 => k_asm); (case k2 => k_asm); (case k3 => k_asm); (case k4 => k_asm); (case k5 => k_asm); (case kK => exact rfl); (case ko => (simp only [T.Ok] at hok; exact oks_mem hok.2.2.2 (List.getElem_mem hi))); (case kR => (intro p hp; k_mem)); (case kR' => (intro p hp; k_mem)); (case kl => (have := hmem ts[i] (List.getElem_mem hi); omega)); (case kd => (have := hmem ts[i] (List.getElem_mem hi); simp only [depth_deeper, depth_in1, ktrTop]; omega)); (case ku => (have := hmem ts[i] (List.getElem_mem hi); simp only [units_deeper, units_in1, ktrTop]; omega)); intro r h' tk' F' N' hr; subst hr; (try k_fold))
      k_steps
      · exact ⟨(), _, _, _, rfl, (by assumption), fun z hz => if_neg hz, (by assumption), hoff', trivial⟩
      · exact hret _ _ _ (by assumption) (by assumption) rfl
end Mine
namespace Mine
theorem offPQMap : True := by
  w_top off
  k_with_none
  trivial
open PySem.Spec PySem.Calls
local macro_rules | `(tactic| k_room) => `(tactic| ((simp only [depth_under_make, depth_under_kw, depth_in1, depth_deeper, depth_caller, ktrTop, recursionLimit]); omega))
local macro_rules | `(tactic| ktr_enter) => `(tactic| first
  | (refine' code_def ?k1 ?k2 ?k3 ?k4 ?k5 ?kA ?kF ?kK ?k6 ?k7 ?k8 ?k9 ?kB ?_ ?c2 ?c3 ?c4 ?c5; (case kA => exact rfl); (case kF => exact rfl); (case kK => assumption); (case k1 => k_asm); (case k2 => k_asm); (case k3 => k_asm); (case k4 => k_asm); (case k5 => k_asm); (case k6 => k_is); (case k7 => k_is); (case k8 => k_room); (case k9 => first | exact BindsTo.of_eq rfl | exact binds_K (by k_in) rfl (by k_is) rfl rfl rfl); (case c5 => decide); (case kB => exact locs rfl); (case c2 => exact rfl); (case c3 => exact rfl); (case c4 => exact rfl); k_whole; intro g' L' h' FG' F' N' B' X' T'; (try dsimp only); (try k_fold))
  | (refine' code_defC ?k1 ?k2 ?k3 ?k4 ?k5 ?kA ?kF ?kK ?k6 ?k7 ?k8 ?k9 ?kB ?kD ?_ ?c2 ?c3 ?c4; (case kA => exact rfl); (case kF => exact rfl); (case kK => assumption); (case k1 => k_asm); (case k2 => k_asm); (case k3 => k_asm); (case k4 => k_asm); (case k5 => k_asm); (case k6 => k_is); (case k7 => k_is); (case k8 => k_room); (case k9 => first | exact BindsTo.of_eq rfl | exact binds_K (by k_in) rfl (by k_is) rfl rfl rfl); (case kB => exact rfl); (case kD => decide +kernel); (case c2 => exact rfl); (case c3 => exact rfl); (case c4 => exact rfl); k_whole; intro g' L' h' tk' cells' FG' F' N' Y' B' X' T' l1; (try k_lt l1); k_cells Y'; (try simp only [List.cons_append, List.nil_append] at N'); (try dsimp only); (try k_fold)))
local macro_rules | `(tactic| k_mem) => `(tactic| first | with_reducible assumption | exact List.mem_cons_self | (refine List.mem_cons_of_mem _ ?_; k_mem) | (refine List.mem_append_left _ ?_; k_mem) | (refine List.mem_append_right _ ?_; k_mem))
local macro_rules | `(tactic| walk_at $s:str) => `(tactic| k_extra $s)
local macro_rules | `(tactic| k_all) => `(tactic| assumption)

mutual
def T.ren (f : Str → Str) : T → T
  | .sym x => .sym (f x)
  | .num n => .num n
  | .call ts tags => .call (T.rens f ts) tags
def T.rens (f : Str → Str) : List T → List T
  | [] => []
  | t :: ts => t.ren f :: T.rens f ts
end
def T.top (g : Str → Str) : T → T
  | .sym x => .sym (g x)
  | t => t
def Leaf (w : World) (f : Addr) (g : Str → Str) : Prop := ∀ (t : T) (v : Value) (nb news : List (Addr × Obj)), TIn w nb v t → (∀ p ∈ nb, p ∈ news) → (∀ x ∈ t.names, x.length ≤ 100) →
  CallsN w f [v] news 8 (fun r news' => ∃ tl, news' = tl ++ news ∧ Apart tl news ∧ TIn w (tl ++ nb) r (t.top g))

theorem leaf_one (w : World) : Leaf w 216 (fun x => x ++ Str.ofString "1") := by
  intro t v nb news R hnb hnm
  unfold CallsN
  k_fill
  intro p loose mean mg mb dp un gd cn cs a ccd cl outer A₀ base h₀ L m s Q E B F X N Tp hk1 hd hu hret
  k_with_none
  cases R with
  | @sym a d x t1 t2 t3 t4 t5 h1 h2 =>
    have hx : x.length ≤ 100 := hnm x (by simp [T.names])
    replace h1 := hnb _ h1
    replace h2 := hnb _ h2
    refine wpAny_call ?_
    k_dflt ktr_enter
    k_with "binaryOp Add str str" => k_dflt (refine add_str (fun t' tk' => ?_) (by rw [PySem.sizeLine_eq, show (Str.ofString "1").length = 1 from rfl]; omega))
    k_steps
    rename (∀ p ∈ news, p.1 < _) => lA
    rename @LT.lt Nat _ _ _ => lB
    exact hret _ _ _ _ (by assumption) (by assumption) ⟨[(_, _), (_, _)], rfl, .cons (fun q hq => Nat.ne_of_lt (Nat.lt_trans (lA q hq) lB)) (.cons (fun q hq => Nat.ne_of_lt (lA q hq)) .nil), .sym List.mem_cons_self (List.mem_cons_of_mem _ List.mem_cons_self)⟩
  | num h1 h2 h3 h4 =>
    have hR : TIn w nb _ _ := .num h1 h2 h3 h4
    replace h1 := hnb _ h1
    replace h2 := hnb _ h2
    refine wpAny_call ?_
    k_dflt ktr_enter
    k_steps
    exact hret _ _ _ _ (by assumption) (by assumption) ⟨[], rfl, .nil, hR⟩
  | call h1 h2 h3 h4 hts htg =>
    have hR : TIn w nb _ _ := .call h1 h2 h3 h4 hts htg
    replace h1 := hnb _ h1
    replace h2 := hnb _ h2
    refine wpAny_call ?_
    k_dflt ktr_enter
    k_steps
    exact hret _ _ _ _ (by assumption) (by assumption) ⟨[], rfl, .nil, hR⟩

theorem rens_snoc (g : Str → Str) : ∀ (ts : List T) (t : T), T.rens g (ts ++ [t]) = T.rens g ts ++ [t.ren g]
  | [], t => by simp [T.rens]
  | u :: ts, t => by simp only [List.cons_append, T.rens, rens_snoc g ts t]
theorem rens_take {g : Str → Str} {ts : List T} {i : Nat} {t : T} (h : ts[i]? = some t) : T.rens g (ts.take (i + 1)) = T.rens g (ts.take i) ++ [t.ren g] := by
  rw [List.take_add_one, h]; exact rens_snoc g _ _
theorem TsIn.append {w : World} {news : List (Addr × Obj)} : ∀ {vs us : List Value} {ts rs : List T}, TsIn w news vs ts → TsIn w news us rs → TsIn w news (vs ++ us) (ts ++ rs)
  | _, _, _, _, .nil, r => r
  | _, _, _, _, .cons h k, r => .cons h (k.append r)
theorem T.top_id (t : T) : t.top (fun x => x) = t := by cases t <;> rfl
theorem leaf_same (w : World) : Leaf w 209 (fun x => x) := by
  intro t v nb news R hnb hnm
  unfold CallsN
  k_fill
  intro p loose mean mg mb dp un gd cn cs a ccd cl outer A₀ base h₀ L m s Q E B F X N Tp hk1 hd hu hret
  k_with_none
  refine wpAny_call ?_
  k_dflt ktr_enter
  k_steps
  exact hret _ _ _ _ (by assumption) (by assumption) ⟨[], rfl, .nil, by rw [T.top_id]; exact R⟩

theorem leaf_of_call {w : World} {f : Addr} {g : Str → Str} (hleaf : Leaf w f g) {nb news : List (Addr × Obj)} {a d li lt : Addr} {vs us : List Value} {ts : List T} {tags : List Dat} {k j : Nat} {t1 t2 t3 t4 t5 t6 : Tok}
    (m1 : (a, instObj 89 d) ∈ news) (m2 : (d, callD w li lt t1 t2 t3 t4 t5 t6) ∈ news) (m3 : (li, listOf vs.toArray k) ∈ news) (m4 : (lt, listOf us.toArray j) ∈ news) (hts : TsIn w nb vs ts) (htg : DatAll [] us tags) (hnb : ∀ p ∈ nb, p ∈ news) (hnm : ∀ x ∈ T.namesL ts, x.length ≤ 100) :
    CallsN w f [.ref a] news 8 (fun r news' => ∃ tl, news' = tl ++ news ∧ Apart tl news ∧ TIn w (tl ++ ((a, instObj 89 d) :: (d, callD w li lt t1 t2 t3 t4 t5 t6) :: (li, listOf vs.toArray k) :: (lt, listOf us.toArray j) :: nb)) r (.call ts tags)) :=
  hleaf (.call ts tags) (.ref a) _ news (.call List.mem_cons_self (List.mem_cons_of_mem _ List.mem_cons_self) (List.mem_cons_of_mem _ (List.mem_cons_of_mem _ List.mem_cons_self)) (List.mem_cons_of_mem _ (List.mem_cons_of_mem _ (List.mem_cons_of_mem _ List.mem_cons_self)))
    (hts.mono fun p hp => List.mem_cons_of_mem _ (List.mem_cons_of_mem _ (List.mem_cons_of_mem _ (List.mem_cons_of_mem _ hp)))) htg)
    (List.forall_mem_cons.mpr ⟨m1, List.forall_mem_cons.mpr ⟨m2, List.forall_mem_cons.mpr ⟨m3, List.forall_mem_cons.mpr ⟨m4, hnb⟩⟩⟩⟩) (fun x hx => hnm x (by rw [T.names] at hx; exact hx))
mutual
theorem names_ren (g : Str → Str) : ∀ t : T, (t.ren g).names = t.names.map g
  | .sym x => by simp [T.ren, T.names]
  | .num _ => by simp [T.ren, T.names]
  | .call ts _ => by simp [T.ren, T.names, names_rens g ts]
theorem names_rens (g : Str → Str) : ∀ ts : List T, T.namesL (T.rens g ts) = (T.namesL ts).map g
  | [] => by simp [T.rens, T.namesL]
  | t :: ts => by simp [T.rens, T.namesL, names_ren g t, names_rens g ts]
end

theorem map_calls (w : World) (f : Addr) (g : Str → Str) (hkeep : keepIn (pqTop.heap_39 w.params) (.ref f) = true) (hleaf : Leaf w f g) (k : Nat) : ∀ (t : T), t.ht < k → ∀ (v : Value) (nb news : List (Addr × Obj)), TIn w nb v t → (∀ p ∈ nb, p ∈ news) → t.Ok → (∀ x ∈ t.names, x.length ≤ 100 ∧ (g x).length ≤ 100) →
    CallsN w 148 [v, .ref f] news (3 * t.ht + 12) (fun r news' => ∃ tl, news' = tl ++ news ∧ Apart tl news ∧ TIn w (tl ++ nb) r (t.ren g)) := by
  induction k with
  | zero => intro t h; omega
  | succ k ih =>
    intro t hk v nb news R hnb hok hnm
    unfold CallsN
    k_fill
    intro p loose mean mg mb dp un gd cn cs a ccd cl outer A₀ base h₀ L m s Q E B F X N Tp hk1 hd hu hret
    k_with_none
    k_with "callWith ref" => k_dflt (refine' callWith_K ?k1 hkeep ?_; (case k1 => k_asm))
    cases R with
    | @sym a d x t1 t2 t3 t4 t5 h1 h2 =>
      have hR : TIn w nb _ (.sym x) := .sym h1 h2
      replace h1 := hnb _ h1
      replace h2 := hnb _ h2
      refine wpAny_call ?_
      k_dflt ktr_enter
      k_with "call ref" => k_dflt (refine' CallsN.use ?k1 ?k2 ?k3 ?k4 ?k5 ?kK (hleaf _ _ nb _ hR ?kb ?kn) ?kd ?ku ?_; (case k1 => k_asm); (case k2 => k_asm); (case k3 => k_asm); (case k4 => k_asm); (case k5 => k_asm); (case kK => exact rfl); (case kb => exact fun p hp => List.mem_cons_of_mem _ (hnb p hp)); (case kn => exact fun x hx => (hnm x hx).1); (case kd => (simp only [depth_deeper, depth_in1, ktrTop]; omega)); (case ku => (simp only [units_deeper, units_in1, ktrTop]; omega)); intro r news' h' tk' F' N' hr; obtain ⟨tl, rfl, hap, hR'⟩ := hr; (try k_fold))
      k_steps
      rename (∀ p ∈ news, p.1 < _) => lA
      exact hret _ _ _ _ (by assumption) (by assumption) ⟨tl ++ [_], List.append_cons _ _ _, (hap.sub fun p hp => List.mem_cons_of_mem _ hp).append (.cons (fun q hq => Nat.ne_of_lt (Nat.lt_succ_of_lt (lA q hq))) .nil), hR'.mono pm6⟩
    | num h1 h2 h3 h4 =>
      have hR : TIn w nb _ (.num _) := .num h1 h2 h3 h4
      replace h1 := hnb _ h1
      replace h2 := hnb _ h2
      refine wpAny_call ?_
      k_dflt ktr_enter
      k_with "call ref" => k_dflt (refine' CallsN.use ?k1 ?k2 ?k3 ?k4 ?k5 ?kK (hleaf _ _ nb _ hR ?kb ?kn) ?kd ?ku ?_; (case k1 => k_asm); (case k2 => k_asm); (case k3 => k_asm); (case k4 => k_asm); (case k5 => k_asm); (case kK => exact rfl); (case kb => exact fun p hp => List.mem_cons_of_mem _ (hnb p hp)); (case kn => exact fun x hx => (hnm x hx).1); (case kd => (simp only [depth_deeper, depth_in1, ktrTop]; omega)); (case ku => (simp only [units_deeper, units_in1, ktrTop]; omega)); intro r news' h' tk' F' N' hr; obtain ⟨tl, rfl, hap, hR'⟩ := hr; (try k_fold))
      k_steps
      rename (∀ p ∈ news, p.1 < _) => lA
      exact hret _ _ _ _ (by assumption) (by assumption) ⟨tl ++ [_], List.append_cons _ _ _, (hap.sub fun p hp => List.mem_cons_of_mem _ hp).append (.cons (fun q hq => Nat.ne_of_lt (Nat.lt_succ_of_lt (lA q hq))) .nil), hR'.mono pm6⟩
    | @call a d li lt vs us ts tags kk j t1 t2 t3 t4 t5 t6 h1 h2 h3 h4 hts htg =>
      have hmem : ∀ t' ∈ ts, t'.ht + 1 ≤ (T.call ts tags).ht := fun t' h => by have := hts_mem h; simp only [T.ht]; omega
      have hvl : vs.length ≤ 8 := by rw [hts.length]; simp only [T.Ok] at hok; exact hok.2.1
      have hul : us.length ≤ 8 := by rw [htg.length]; simp only [T.Ok] at hok; exact hok.2.2.1.1
      replace h1 := hnb _ h1
      replace h2 := hnb _ h2
      replace h3 := hnb _ h3
      replace h4 := hnb _ h4
      refine wpAny_call ?_
      k_dflt ktr_enter
      k_with "eval ListComp" => k_dflt (refine LCg.ListComp_U (F₀ := by k_asm) (by with_unfolding_all rfl) (by decide) (by rfl) (by decide) (by rfl) ?_)
      k_with "CompSrc" => k_dflt (refine LCg.CompSrc.ledger (by rfl) (by k_asm) (by k_asm) (by k_mem) (by rw [PySem.sizeLine_eq]; simp only [List.size_toArray]; omega) ?_; intro g'; refine comp_turnsB (fun base i ys nw => ∃ tl, nw = tl ++ base ∧ Apart tl base ∧ TsIn w (tl ++ nb) ys (T.rens g (ts.take i))) ⟨[], rfl, .nil, by rw [List.take_zero, T.rens]; exact .nil⟩ (fun i v ys nw I oI C oC D m₂ h' tk' E' hv hJ hC hx F' N' off ne => Exists.elim (hts.get hv) fun t' hh => ?_) (fun ys nw hJ => ?_); all_goals (obtain ⟨tl, rfl, hap, hJ⟩ := hJ))
      k_with "call ref" => k_dflt (refine' CallsN.use ?k1 ?k2 ?k3 ?k4 ?k5 ?kK (ih t' ?kl v nb _ hh.2 ?kR ?ko ?kn) ?kd ?ku ?_; (case k1 => k_asm); (case k2 => k_asm); (case k3 => k_asm); (case k4 => k_asm); (case k5 => k_asm); (case kK => exact rfl); (case ko => (simp only [T.Ok] at hok; exact oks_mem hok.2.2.2 (List.mem_of_getElem? hh.1))); (case kn => exact fun x hx => hnm x (by rw [T.names]; exact namesL_mem (List.mem_of_getElem? hh.1) x hx)); (case kR => (intro p hp; have hp := hnb p hp; k_mem)); (case kl => (have := hmem t' (List.mem_of_getElem? hh.1); omega)); (case kd => (have := hmem t' (List.mem_of_getElem? hh.1); simp only [depth_deeper, depth_in1, ktrTop]; omega)); (case ku => (have := hmem t' (List.mem_of_getElem? hh.1); simp only [units_deeper, units_in1, ktrTop]; omega)); intro r news' h' tk' F' N' hr; obtain ⟨tl', rfl, hap', hR'⟩ := hr; (try k_fold))
      k_with "call type:list" => k_dflt (refine list_copyK (items := us.toArray) (by k_asm) (by k_asm) (kso_isList (by k_asm) (by k_mem) rfl) ?_ (by rw [PySem.sizeLine_eq]; simp only [List.size_toArray]; omega); intro D9 c9 h' F' N' lD9)
      k_with "call ref" => k_dflt (refine' CallsN.use ?k1 ?k2 ?k3 ?k4 ?k5 ?kK (leaf_of_call hleaf ?m1 ?m2 ?m3 ?m4 hJ htg ?kb ?kn) ?kd ?ku ?_; (case k1 => k_asm); (case k2 => k_asm); (case k3 => k_asm); (case k4 => k_asm); (case k5 => k_asm); (case kK => exact rfl); (case m1 => k_mem); (case m2 => k_mem); (case m3 => k_mem); (case m4 => k_mem); (case kb => (intro p hp; rcases List.mem_append.mp hp with hp | hp; (focus k_mem); (have hp := hnb p hp); k_mem)); (case kn => (intro x hx; rw [names_rens] at hx; obtain ⟨y, hy, rfl⟩ := List.mem_map.mp hx; rw [hts.length, List.take_length] at hy; exact (hnm y (by rw [T.names]; exact hy)).2)); (case kd => (simp only [depth_deeper, depth_in1, ktrTop]; omega)); (case ku => (simp only [units_deeper, units_in1, ktrTop]; omega)); intro r news' h' tk' F' N' hr; obtain ⟨tl', rfl, hap', hR'⟩ := hr; (try k_fold))
      k_with "call ref" => k_dflt ((show wpAny _ _ (call (Value.ref 89) _ _) _ _ _); refine' call_cls ?k1 ?k2 ?k3 ?k4 ?k5 ?k6 ?_; (case k1 => k_asm); (case k2 => k_asm); (case k3 => k_asm); (case k4 => k_is); (case k5 => k_is); (case k6 => k_is); k_whole; intro x9 d9 h' F' N' l9 l9'; (have l9n := fun p hp => Nat.ne_of_lt (l9 p hp)); (replace l9' := ltN l9'); k_enter)
      k_steps
      · refine LCg.CompEnd.intro (by assumption) N' _ pm7 (LCg.Off3.of ?_) (Or.inr ⟨_, by k_mem, rfl, _, rfl⟩) ⟨tl' ++ tl, rfl, ?_, ?_⟩
        · intro p hp
          rw [List.append_assoc] at hp
          rcases List.mem_append.mp hp with hp | hp
          · exact ⟨(hap' p hp (I, oI) List.mem_cons_self).symm, (hap' p hp (C, oC) (List.mem_cons_of_mem _ List.mem_cons_self)).symm, (hap' p hp (D, LCg.lst ys) (List.mem_cons_of_mem _ (List.mem_cons_of_mem _ List.mem_cons_self))).symm⟩
          · exact off.mem p hp
        · exact (hap'.sub fun p hp => List.mem_cons_of_mem _ (List.mem_cons_of_mem _ (List.mem_cons_of_mem _ (List.mem_append_right _ hp)))).append hap
        · rw [rens_take hh.1]
          exact (hJ.mono pm8).append (.cons (hR'.mono pm9) .nil)
      · rename (∀ p ∈ news, p.1 < _) => lA
        rename LCg.Off1 _ _ => lO
        rw [hts.length, List.take_length] at hR'
        refine hret _ _ _ _ (by assumption) (by assumption) ⟨_, app5, ?_, hR'.mono pm10⟩
        refine Apart.append (hap'.sub fun q hq => by k_mem) (.cons (fun q hq => ?_) (.cons (fun q hq => ?_) (.cons (fun q hq => ?_) (.cons (fun q hq => ?_) (Apart.append (hap.sub fun q hq => List.mem_cons_of_mem _ hq) (.cons (fun q hq => ?_) .nil))))))
        · exact Nat.ne_of_lt (Nat.lt_trans (l9 q (by k_mem)) l9')
        · exact l9n q (by k_mem)
        · exact Nat.ne_of_lt (lD9 q (by k_mem))
        · exact off1_mem lO q (by k_mem)
        · exact Nat.ne_of_lt (Nat.lt_succ_of_lt (lA q hq))
end Mine
namespace Mine
theorem offPQGrown : True := by
  w_top off
  k_with_none
  trivial
open PySem.Spec PySem.Calls
local macro_rules | `(tactic| k_room) => `(tactic| ((simp only [depth_under_make, depth_under_kw, depth_in1, depth_deeper, depth_caller, ktrTop, recursionLimit]); omega))
local macro_rules | `(tactic| ktr_enter) => `(tactic| first
  | (refine' code_def ?k1 ?k2 ?k3 ?k4 ?k5 ?kA ?kF ?kK ?k6 ?k7 ?k8 ?k9 ?kB ?_ ?c2 ?c3 ?c4 ?c5; (case kA => exact rfl); (case kF => exact rfl); (case kK => assumption); (case k1 => k_asm); (case k2 => k_asm); (case k3 => k_asm); (case k4 => k_asm); (case k5 => k_asm); (case k6 => k_is); (case k7 => k_is); (case k8 => k_room); (case k9 => first | exact BindsTo.of_eq rfl | exact binds_K (by k_in) rfl (by k_is) rfl rfl rfl); (case c5 => decide); (case kB => exact locs rfl); (case c2 => exact rfl); (case c3 => exact rfl); (case c4 => exact rfl); k_whole; intro g' L' h' FG' F' N' B' X' T'; (try dsimp only); (try k_fold))
  | (refine' code_defC ?k1 ?k2 ?k3 ?k4 ?k5 ?kA ?kF ?kK ?k6 ?k7 ?k8 ?k9 ?kB ?kD ?_ ?c2 ?c3 ?c4; (case kA => exact rfl); (case kF => exact rfl); (case kK => assumption); (case k1 => k_asm); (case k2 => k_asm); (case k3 => k_asm); (case k4 => k_asm); (case k5 => k_asm); (case k6 => k_is); (case k7 => k_is); (case k8 => k_room); (case k9 => first | exact BindsTo.of_eq rfl | exact binds_K (by k_in) rfl (by k_is) rfl rfl rfl); (case kB => exact rfl); (case kD => decide +kernel); (case c2 => exact rfl); (case c3 => exact rfl); (case c4 => exact rfl); k_whole; intro g' L' h' tk' cells' FG' F' N' Y' B' X' T' l1; (try k_lt l1); k_cells Y'; (try simp only [List.cons_append, List.nil_append] at N'); (try dsimp only); (try k_fold)))
local macro_rules | `(tactic| k_mem) => `(tactic| first | with_reducible assumption | exact List.mem_cons_self | (refine List.mem_cons_of_mem _ ?_; k_mem) | (refine List.mem_append_left _ ?_; k_mem) | (refine List.mem_append_right _ ?_; k_mem))
local macro_rules | `(tactic| walk_at $s:str) => `(tactic| k_extra $s)
local macro_rules | `(tactic| k_all) => `(tactic| assumption)

theorem Upd.skip {d : Addr} {o o' : Obj} {r r' : List (Addr × Obj)} : ∀ {pre : List (Addr × Obj)}, (∀ p ∈ pre, p.1 ≠ d) → Upd d o o' r r' → Upd d o o' (pre ++ r) (pre ++ r')
  | [], _, h => h
  | _ :: _, k, h => .tail (k _ List.mem_cons_self) (Upd.skip (fun p hp => k p (List.mem_cons_of_mem _ hp)) h)
theorem Upd.at {d : Addr} {o o' : Obj} {pre post : List (Addr × Obj)} (h : ∀ p ∈ pre, p.1 ≠ d) (k : ∀ p ∈ post, p.1 ≠ d) : Upd d o o' (pre ++ (d, o) :: post) (pre ++ (d, o') :: post) := Upd.skip h (.head k)

theorem pinch_calls (w : World) (sa : Addr) (pre post : List (Addr × Obj)) (h1 : ∀ p ∈ pre, p.1 ≠ sa) (h2 : ∀ p ∈ post, p.1 ≠ sa) (zs : List Value) (ns : List Int) (n : Nat) (hz : IntsAre zs ns) (hb : zs.length ≤ 100) (lim : Int) (tkl : Tok) (hl : 0 < lim) :
    CallsN w 183 [.ref sa, .int lim tkl] (pre ++ (sa, listOf zs.toArray n) :: post) 5 (fun r news' => ∃ k tk zs' ns' n', r = .int k tk ∧ 0 ≤ k ∧ k < lim ∧ IntsAre zs' ns' ∧ zs'.length ≤ 100 ∧ news' = pre ++ (sa, listOf zs'.toArray n') :: post) := by
  unfold CallsN
  k_fill
  intro p loose mean mg mb dp un gd cn cs a ccd cl outer A₀ base h₀ L m s Q E B F X N Tp hk1 hd hu hret
  k_with_none
  refine wpAny_call ?_
  k_dflt ktr_enter
  k_with "call builtin:len" => k_dflt (refine len_at (n := zs.length) (kso_isList (by k_asm) (List.mem_append_right _ List.mem_cons_self) rfl) rfl (by omega) ?_; intro tk9)
  k_with "call builtin:list.pop" => k_dflt (refine kpa_pop (by k_asm) (by k_asm) (Upd.at h1 h2) hz (by omega) (by rw [PySem.sizeLine_eq]; omega) ?_; intro h' tp F' N' hz')
  k_with "binaryOp Mod int int" => k_dflt (refine mod_int' (by omega) ?_)
  k_steps
  · exact hret _ _ _ _ (by assumption) (by assumption) ⟨0, _, zs, ns, n, rfl, by omega, by omega, hz, hb, rfl⟩
  · exact hret _ _ _ _ (by assumption) (by assumption) ⟨_, _, zs.dropLast, ns.dropLast, n + 1, rfl, fmod_lo _ hl, fmod_hi _ hl, hz', by rw [List.length_dropLast]; omega, rfl⟩

theorem fm1 (x : Int) : (if x < 0 then -x else x).fmod 1 = 0 := by
  rw [Int.fmod_eq_emod_of_nonneg _ (by decide)]; omega
theorem number_calls (w : World) (x : Int) (tk : Tok) (news : List (Addr × Obj))  :
    CallsN w 101 [.int x tk] news 8 (fun r news' => ∃ tl, news' = tl ++ news ∧ Apart tl news ∧ TIn w tl r (.num x)) := by
  unfold CallsN
  k_fill
  intro p loose mean mg mb dp un gd cn cs a ccd cl outer A₀ base h₀ L m s Q E B F X N Tp hk1 hd hu hret
  k_with_none
  refine wpAny_call ?_
  k_dflt ktr_enter
  k_with "WhlIf" => (rw [fm1]; refine WhlIf.no (by decide) ?_)
  k_with "newList" => k_dflt (refine newList_K (by k_asm) (by k_asm) ?_; intro fl h' F' N' lfl; (try dsimp only))
  k_with "call ref" => k_dflt ((show wpAny _ _ (call (Value.ref 46) _ _) _ _ _); refine' call_cls ?k1 ?k2 ?k3 ?k4 ?k5 ?k6 ?_; (case k1 => k_asm); (case k2 => k_asm); (case k3 => k_asm); (case k4 => k_is); (case k5 => k_is); (case k6 => k_is); k_whole; intro x9 d9 h' F' N' l9 l9'; (have l9n := fun p hp => Nat.ne_of_lt (l9 p hp)); (replace l9' := ltN l9'); k_enter)
  k_steps
  rename _ ∧ AllLt _ _ => lC
  rename (∀ p ∈ news, p.1 < _) => lD
  refine hret _ _ _ _ (by assumption) (by assumption) ⟨[_, _, _, _, _], rfl, .cons (fun q hq => ?_) (.cons (fun q hq => ?_) (.cons (fun q hq => ?_) (.cons (fun q hq => ?_) (.cons (fun q hq => ?_) .nil)))),
    Eq.mp (congrArg (TIn w _ _) (congrArg T.num (Int.fdiv_one x))) (TIn.num (n := x.fdiv 1) List.mem_cons_self (List.mem_cons_of_mem _ List.mem_cons_self) (List.mem_cons_of_mem _ (List.mem_cons_of_mem _ List.mem_cons_self)) (List.mem_cons_of_mem _ (List.mem_cons_of_mem _ (List.mem_cons_of_mem _ List.mem_cons_self))))⟩
  · exact Nat.ne_of_lt (Nat.lt_trans (l9 q (by k_mem)) l9')
  · exact l9n q (by k_mem)
  · exact Nat.ne_of_lt (lfl q (by k_mem))
  · exact lt_apart lC.2 q hq
  · exact Nat.ne_of_lt (lD q hq)

theorem kqd_up : ∀ (n : Nat) (d : Dat), kqdOk n d = true → kqdOk (n + 1) d = true := by
  intro n
  induction n with
  | zero => intro d h; cases d <;> simp [kqdOk] at h ⊢ <;> assumption
  | succ n ih =>
    intro d h
    cases d <;> simp only [kqdOk, List.all_eq_true] at h ⊢
    all_goals first
      | assumption
      | exact fun d hd => ih d (h d hd)
      | contradiction
mutual
def T.Lev : T → Prop
  | .sym _ => True
  | .num _ => True
  | .call ts tags => tags.length = ts.length ∧ T.Levs ts ∧ ∀ d ∈ tags, kqdOk 7 d = true
def T.Levs : List T → Prop
  | [] => True
  | t :: ts => t.Lev ∧ T.Levs ts
end
theorem levs_snoc : ∀ {ts : List T} {t : T}, T.Levs ts → t.Lev → T.Levs (ts ++ [t])
  | [], t, _, h => ⟨h, trivial⟩
  | u :: ts, t, k, h => by
    rw [T.Levs] at k
    exact ⟨k.1, levs_snoc k.2 h⟩
theorem levs_mem : ∀ {ts : List T} {t : T}, T.Levs ts → t ∈ ts → t.Lev
  | u :: ts, t, h, hm => by
    rw [T.Levs] at h
    rcases List.mem_cons.mp hm with rfl | hm
    · exact h.1
    · exact levs_mem h.2 hm

/-- what the builder yields -/
structure Good (d : Nat) (t : T) : Prop where
  ht : t.ht ≤ d
  ok : t.Ok
  names : ∀ x ∈ t.names, x = Str.ofString "a" ∨ x = Str.ofString "b" ∨ x = Str.ofString "c" ∨ x = Str.ofString "f" ∨ x = Str.ofString "g"
  few : t.names.length ≤ 4 ^ d
  fewT : t.tagsOf.length ≤ 4 ^ d
  lev : t.Lev
structure Goods (d : Nat) (ts : List T) : Prop where
  ht : T.hts ts ≤ d
  ok : T.Oks ts
  names : ∀ x ∈ T.namesL ts, x = Str.ofString "a" ∨ x = Str.ofString "b" ∨ x = Str.ofString "c" ∨ x = Str.ofString "f" ∨ x = Str.ofString "g"
  few : (T.namesL ts).length ≤ ts.length * 4 ^ d
  fewT : (T.tagsOfL ts).length ≤ ts.length * 4 ^ d
  lev : T.Levs ts
theorem Goods.nil {d : Nat} : Goods d [] := ⟨by simp [T.hts], by simp [T.Oks], by simp [T.namesL], by simp [T.namesL], by simp [T.tagsOfL], trivial⟩
theorem oks_snoc : ∀ {ts : List T} {t : T}, T.Oks ts → t.Ok → T.Oks (ts ++ [t])
  | [], t, _, h => ⟨h, trivial⟩
  | u :: ts, t, k, h => by
    rw [T.Oks] at k
    exact ⟨k.1, oks_snoc k.2 h⟩
theorem Goods.snoc {d : Nat} {ts : List T} {t : T} (h : Goods d ts) (k : Good d t) : Goods d (ts ++ [t]) := by
  have h1 := h.ht; have h2 := h.few; have h3 := h.fewT
  have k1 := k.ht; have k2 := k.few; have k3 := k.fewT
  refine ⟨by rw [hts_snoc]; omega, oks_snoc h.ok k.ok, ?_, ?_, ?_, levs_snoc h.lev k.lev⟩
  · intro x hx
    rw [namesL_snoc] at hx
    exact (List.mem_append.mp hx).elim (h.names x) (k.names x)
  · rw [namesL_snoc, List.length_append, List.length_append, List.length_singleton, Nat.add_mul]; omega
  · rw [tagsL_snoc, List.length_append, List.length_append, List.length_singleton, Nat.add_mul]; omega
theorem Good.call {d : Nat} {ts : List T} {x : Str} {tags : List Dat} (h : Goods d ts) (hl : ts.length ≤ 3) (hx : x = Str.ofString "a" ∨ x = Str.ofString "f" ∨ x = Str.ofString "g") (ht : tags.length ≤ 8) (hk : ∀ d ∈ tags, kqdOk 7 d = true) (hl2 : tags.length = ts.length + 1) : Good (d + 1) (.call (.sym x :: ts) tags) := by
  have h1 := h.ht; have h2 := h.few; have h3 := h.fewT
  have hp : 1 ≤ 4 ^ d := Nat.one_le_pow _ _ (by decide)
  have hm : ts.length * 4 ^ d ≤ 3 * 4 ^ d := Nat.mul_le_mul_right _ hl
  have hs : 4 ^ (d + 1) = 4 ^ d * 4 := Nat.pow_succ ..
  refine ⟨?_, ?_, ?_, ?_, ?_, hl2, ⟨trivial, h.lev⟩, hk⟩
  · simp only [T.ht, T.hts]; omega
  · refine ⟨by simp, by rw [List.length_cons]; omega, ⟨ht, fun d hd => kqd_up 7 d (hk d hd)⟩, trivial, h.ok⟩
  · intro y hy
    simp only [T.names, T.namesL, List.mem_append, List.mem_singleton] at hy
    rcases hy with rfl | hy
    · rcases hx with h | h | h <;> simp [h]
    · exact h.names y hy
  · simp only [T.names, T.namesL, List.length_append, List.length_singleton]; omega
  · simp only [T.tagsOf, T.tagsOfL, List.nil_append, List.length_cons]; omega
theorem Good.sym {d : Nat} {x : Str} (hx : x = Str.ofString "a" ∨ x = Str.ofString "b" ∨ x = Str.ofString "c") : Good d (.sym x) := by
  have hp : 1 ≤ 4 ^ d := Nat.one_le_pow _ _ (by decide)
  refine ⟨by simp [T.ht], trivial, ?_, by simpa [T.names] using hp, by simp [T.tagsOf], trivial⟩
  intro y hy
  simp only [T.names, List.mem_singleton] at hy
  subst hy
  rcases hx with h | h | h <;> simp [h]
theorem Good.num {d : Nat} {n : Int} : Good d (.num n) := ⟨by simp [T.ht], trivial, by simp [T.names], by simp [T.names], by simp [T.tagsOf], trivial⟩
theorem menu3 {x y z : Str} {t u v : Tok} {k : Int} (h0 : 0 ≤ k) (h3 : k < 3) : ∃ s tk, [Value.str x t, .str y u, .str z v][k.toNat]? = some (.str s tk) ∧ (s = x ∨ s = y ∨ s = z) := by
  have : k = 0 ∨ k = 1 ∨ k = 2 := by omega
  rcases this with rfl | rfl | rfl
  · exact ⟨x, t, rfl, .inl rfl⟩
  · exact ⟨y, u, rfl, .inr (.inl rfl)⟩
  · exact ⟨z, v, rfl, .inr (.inr rfl)⟩
theorem menuT {u v : Tok} {k : Int} (h0 : 0 ≤ k) (h3 : k < 3) : ∃ r d, [Value.none, .str (Str.ofString "t") u, .str (Str.ofString "u") v][k.toNat]? = some r ∧ DatIn [] r d ∧ kqdOk 7 d = true := by
  have : k = 0 ∨ k = 1 ∨ k = 2 := by omega
  rcases this with rfl | rfl | rfl
  · exact ⟨_, .none, rfl, .none, rfl⟩
  · exact ⟨_, .str _, rfl, .str _ _, by decide +kernel⟩
  · exact ⟨_, .str _, rfl, .str _ _, by decide +kernel⟩
end Mine
namespace Mine
theorem offPQGrow4 : True := by
  w_top off
  k_with_none
  trivial
open PySem.Spec PySem.Calls
local macro_rules | `(tactic| k_room) => `(tactic| ((simp only [depth_under_make, depth_under_kw, depth_in1, depth_deeper, depth_caller, ktrTop, recursionLimit]); omega))
local macro_rules | `(tactic| ktr_enter) => `(tactic| first
  | (refine' code_def ?k1 ?k2 ?k3 ?k4 ?k5 ?kA ?kF ?kK ?k6 ?k7 ?k8 ?k9 ?kB ?_ ?c2 ?c3 ?c4 ?c5; (case kA => exact rfl); (case kF => exact rfl); (case kK => assumption); (case k1 => k_asm); (case k2 => k_asm); (case k3 => k_asm); (case k4 => k_asm); (case k5 => k_asm); (case k6 => k_is); (case k7 => k_is); (case k8 => k_room); (case k9 => first | exact BindsTo.of_eq rfl | exact binds_K (by k_in) rfl (by k_is) rfl rfl rfl); (case c5 => decide); (case kB => exact locs rfl); (case c2 => exact rfl); (case c3 => exact rfl); (case c4 => exact rfl); k_whole; intro g' L' h' FG' F' N' B' X' T'; (try dsimp only); (try k_fold))
  | (refine' code_defC ?k1 ?k2 ?k3 ?k4 ?k5 ?kA ?kF ?kK ?k6 ?k7 ?k8 ?k9 ?kB ?kD ?_ ?c2 ?c3 ?c4; (case kA => exact rfl); (case kF => exact rfl); (case kK => assumption); (case k1 => k_asm); (case k2 => k_asm); (case k3 => k_asm); (case k4 => k_asm); (case k5 => k_asm); (case k6 => k_is); (case k7 => k_is); (case k8 => k_room); (case k9 => first | exact BindsTo.of_eq rfl | exact binds_K (by k_in) rfl (by k_is) rfl rfl rfl); (case kB => exact rfl); (case kD => decide +kernel); (case c2 => exact rfl); (case c3 => exact rfl); (case c4 => exact rfl); k_whole; intro g' L' h' tk' cells' FG' F' N' Y' B' X' T' l1; (try k_lt l1); k_cells Y'; (try simp only [List.cons_append, List.nil_append] at N'); (try dsimp only); (try k_fold)))
local macro_rules | `(tactic| k_mem) => `(tactic| first | with_reducible assumption | exact List.mem_cons_self | (refine List.mem_cons_of_mem _ ?_; k_mem) | (refine List.mem_append_left _ ?_; k_mem) | (refine List.mem_append_right _ ?_; k_mem))
local macro_rules | `(tactic| walk_at $s:str) => `(tactic| k_extra $s)
local macro_rules | `(tactic| k_all) => `(tactic| assumption)

structure GS where
  is : List Value
  tgs : List Value
  zs : List Value
  ni : Nat
  nt : Nat
  nz : Nat
  tl : List (Addr × Obj)
section
variable {α : Type} {a b c e s t x : α} {l l₁ l₂ l₃ : List α}
theorem pmE : ∀ p ∈ s :: a :: b :: (l ++ c :: e :: l₁), p ∈ a :: b :: (l ++ c :: e :: s :: l₁) := by grind
theorem pmF : ∀ p ∈ t :: s :: a :: b :: (l ++ c :: l₁), p ∈ s :: a :: b :: (l ++ c :: t :: l₁) := by grind
theorem pmG : ∀ p ∈ c :: b :: t :: s :: ((l ++ l₂) ++ l₃), p ∈ t :: s :: a :: b :: (l ++ c :: (l₂ ++ l₃)) := by grind
theorem pmH : ∀ p ∈ (a :: b :: c :: e :: (l ++ l₁)) ++ (l₂ ++ s :: l₃), p ∈ a :: b :: c :: e :: s :: (l ++ (l₁ ++ (l₂ ++ l₃))) := by
  intro p hp
  simp only [List.mem_append, List.mem_cons] at hp ⊢
  rcases hp with (h | h | h | h | h | h) | h | h | h <;> simp [h]
theorem pmS : ∀ p ∈ b :: a :: s :: ([c, e, x] ++ (l ++ l₁)), p ∈ a :: b :: c :: e :: x :: (l ++ s :: l₁) := by grind
theorem pmI : ∀ p ∈ l₁ ++ l₂, p ∈ a :: b :: c :: e :: (l₁ ++ l₂) := by grind
end
theorem loop_start {h₀ h : Heap} {L : Addr} {pre post : List (Addr × Obj)} {e1 e2 e3 eI eT eS : Addr × Obj} (N : News h₀ L h (eT :: eI :: e1 :: e2 :: e3 :: (pre ++ eS :: post))) : ∃ cn, cn = [e1, e2, e3] ∧ News h₀ L h (eI :: eT :: eS :: ([] ++ (cn ++ (pre ++ post)))) :=
  ⟨_, rfl, N.perm pmS⟩
theorem append_hd {prog : Program} {w : World} {A : Around} {E : Value → Shared → Prop} {s : Shared} {h₀ : Heap} {L D : Addr} {m : Str → Option Value} {rest : List (Addr × Obj)} {xs : List Value} {n : Nat} {x : Value} {Q : Value → Shared → Prop}
    (F : Fr h₀ L s.heap m) (N : News h₀ L s.heap ((D, listOf xs.toArray n) :: rest)) (hoff : ∀ p ∈ rest, p.1 ≠ D) (hz : xs.length ≤ 10000)
    (h : ∀ h', Fr h₀ L h' m → News h₀ L h' ((D, listOf (xs ++ [x]).toArray (n + 1)) :: rest) → Q .none { s with heap := h' }) : wpAny (model prog w) A (call (.builtin "list.append") [.ref D, x]) Q E s :=
  append_K F N (.head hoff) (fun h' F' N' => h h' F' (by simpa using N')) (by rw [PySem.sizeLine_eq, List.size_toArray]; omega)
/-- what holds between the laps of the builder's loop -/
structure GInv (w : World) (d : Nat) (sx : Str) (cn : List (Addr × Obj)) (it tg sa : Addr) (base : List (Addr × Obj)) (i : Nat) (σ : GS) : Prop where
  out : ∃ ts tags ns, TsIn w (σ.tl ++ cn) σ.is (.sym sx :: ts) ∧ Goods d ts ∧ ts.length = i ∧ DatAll [] σ.tgs tags ∧ tags.length = i + 1 ∧ (∀ d ∈ tags, kqdOk 7 d = true) ∧ IntsAre σ.zs ns
  few : σ.zs.length ≤ 100
  apart : ∀ p ∈ σ.tl, p.1 ≠ it ∧ p.1 ≠ tg ∧ p.1 ≠ sa ∧ ∀ q ∈ base, q.1 ≠ p.1
theorem item_menu3 {prog : Program} {w : World} {A : Around} {E : Value → Shared → Prop} {s : Shared} {value slice : PySem.Expr} {l : Addr} {x y z : Str} {t u v : Tok} {k : Int} {uk : Tok} {Q : Value → Shared → Prop}
    (hl : s.heap.IsList l [Value.str x t, .str y u, .str z v].toArray) (h0 : 0 ≤ k) (h3 : k < 3) (h : ∀ r tk, (r = x ∨ r = y ∨ r = z) → Q (.str r tk) s)
    (hs : subscripted slice false (.ref l) (.int k uk) = operate [.ref l, .int k uk] (getItem (.ref l) (.int k uk)) := by with_unfolding_all rfl) :
    wpAny (model prog w) A (subscriptTail value slice (.ref l) (.int k uk)) Q E s := by
  obtain ⟨r, tk, h1, h2⟩ := menu3 (x := x) (y := y) (z := z) (t := t) (u := u) (v := v) h0 h3
  exact item_at hl h0 (by omega) h1 (h r tk h2) hs
theorem item_menuT {prog : Program} {w : World} {A : Around} {E : Value → Shared → Prop} {s : Shared} {value slice : PySem.Expr} {l : Addr} {u v : Tok} {k : Int} {uk : Tok} {Q : Value → Shared → Prop}
    (hl : s.heap.IsList l [Value.none, .str (Str.ofString "t") u, .str (Str.ofString "u") v].toArray) (h0 : 0 ≤ k) (h3 : k < 3) (h : ∀ r d, DatIn [] r d → kqdOk 7 d = true → Q r s)
    (hs : subscripted slice false (.ref l) (.int k uk) = operate [.ref l, .int k uk] (getItem (.ref l) (.int k uk)) := by with_unfolding_all rfl) :
    wpAny (model prog w) A (subscriptTail value slice (.ref l) (.int k uk)) Q E s := by
  obtain ⟨r, d, h1, h2, h4⟩ := menuT (u := u) (v := v) h0 h3
  exact item_at hl h0 (by omega) h1 (h r d h2 h4) hs
theorem grown_calls (w : World) (d : Nat) : ∀ (dv : Int), dv = (d : Int) → ∀ (sa : Addr) (pre post : List (Addr × Obj)), (∀ p ∈ pre, p.1 ≠ sa) → (∀ p ∈ post, p.1 ≠ sa) → ∀ (zs : List Value) (ns : List Int) (n : Nat), IntsAre zs ns → zs.length ≤ 100 → ∀ (tkd : Tok),
    CallsN w 190 [.ref sa, .int dv tkd] (pre ++ (sa, listOf zs.toArray n) :: post) (2 * d + 20) (fun r news' => ∃ t tl zs' ns' n', Good d t ∧ TIn w tl r t ∧ Apart tl (pre ++ (sa, listOf zs.toArray n) :: post) ∧ IntsAre zs' ns' ∧ zs'.length ≤ 100 ∧ news' = tl ++ (pre ++ (sa, listOf zs'.toArray n') :: post)) := by
  induction d with
  | zero =>
    intro dv hdv sa pre post h1 h2 zs ns n hz hb tkd
    subst hdv
    unfold CallsN
    k_fill
    intro p loose mean mg mb dp un gd cn cs a ccd cl outer A₀ base h₀ L m s Q E B F X N Tp hk1 hd hu hret
    k_with_none
    refine wpAny_call ?_
    k_dflt ktr_enter
    k_with "exec Assign" => (exfalso; omega)
    k_with "call ref" => k_dflt (refine' CallsN.use ?k1 ?k2 ?k3 ?k4 ?k5 ?kK (pinch_calls w sa pre post h1 h2 _ _ _ ?kz ?kb _ _ ?kl) ?kd ?ku ?_; (case k1 => k_asm); (case k2 => k_asm); (case k3 => k_asm); (case k4 => k_asm); (case k5 => k_asm); (case kK => exact rfl); (case kz => assumption); (case kb => assumption); (case kl => decide); (case kd => (simp only [depth_deeper, depth_in1, ktrTop]; omega)); (case ku => (simp only [units_deeper, units_in1, ktrTop]; omega)); intro r news' h' tk' F' N' hr; obtain ⟨k1, tk1, zs1, ns1, n1, rfl, hk10, hk11, hz1, hb1, rfl⟩ := hr; (try k_fold))
    k_with "call ref" => k_dflt (refine' CallsN.use ?k1 ?k2 ?k3 ?k4 ?k5 ?kK (number_calls w _ _ _) ?kd ?ku ?_; (case k1 => k_asm); (case k2 => k_asm); (case k3 => k_asm); (case k4 => k_asm); (case k5 => k_asm); (case kK => exact rfl);  (case kd => (simp only [depth_deeper, depth_in1, ktrTop]; omega)); (case ku => (simp only [units_deeper, units_in1, ktrTop]; omega)); intro r news' h' tk' F' N' hr; obtain ⟨tl9, rfl, hap9, hR9⟩ := hr; (try k_fold))
    k_with "call ref" => k_dflt ((show wpAny _ _ (call (Value.ref 67) _ _) _ _ _); refine' call_cls ?k1 ?k2 ?k3 ?k4 ?k5 ?k6 ?_; (case k1 => k_asm); (case k2 => k_asm); (case k3 => k_asm); (case k4 => k_is); (case k5 => k_is); (case k6 => k_is); k_whole; intro x9 d9 h' F' N' l9 l9'; (have l9n := fun p hp => Nat.ne_of_lt (l9 p hp)); (replace l9' := ltN l9'); k_enter)
    k_with "call ref" => k_dflt (refine' CallsN.use ?k1 ?k2 ?k3 ?k4 ?k5 ?kK (pinch_calls w sa (_ :: pre) post ?ko h2 _ _ _ ?kz ?kb _ _ ?kl) ?kd ?ku ?_; (case k1 => k_asm); (case k2 => k_asm); (case k3 => k_asm); (case k4 => k_asm); (case k5 => k_asm); (case kK => exact rfl); (case ko => exact List.forall_mem_cons.mpr ⟨Nat.ne_of_gt (lml (sa, _) (List.mem_append_right _ List.mem_cons_self)), h1⟩); (case kz => assumption); (case kb => assumption); (case kl => decide); (case kd => (simp only [depth_deeper, depth_in1, ktrTop]; omega)); (case ku => (simp only [units_deeper, units_in1, ktrTop]; omega)); intro r news' h' tk' F' N' hr; obtain ⟨k2, tk2, zs2, ns2, n2, rfl, hk20, hk21, hz2, hb2, rfl⟩ := hr; (try simp only [List.cons_append] at N'); (try k_fold))
    k_with "newList" => k_dflt ((show wpAny _ _ (newList [Value.str _ _, Value.str _ _, Value.str _ _]) _ _ _); refine newList_K (by k_asm) (by k_asm) ?_; intro ml h' F' N' lml; (try dsimp only))
    k_with "subscriptTail Name Call ref int" => k_dflt (refine item_menu3 (kso_isList (by k_asm) (by k_mem) rfl) hk20 hk21 ?_; intro sx stk hs2)
    k_steps
    · refine hret _ _ _ _ (by assumption) (by assumption) ⟨.sym sx, [_, _, _], zs2, ns2, n2, .sym hs2, .sym List.mem_cons_self (List.mem_cons_of_mem _ List.mem_cons_self), .cons (fun q hq => ?_) (.cons (fun q hq => ?_) (.cons (fun q hq => ?_) .nil)), hz2, hb2, rfl⟩
      all_goals simp only [List.mem_append, List.mem_cons] at hq
      all_goals (refine Nat.ne_of_lt ?_)
      · refine Nat.lt_trans ?_ l9'
        rcases hq with hq | rfl | hq
        · exact l9 q (by k_mem)
        · exact l9 (sa, listOf zs2.toArray n2) (by k_mem)
        · exact l9 q (by k_mem)
      · rcases hq with hq | rfl | hq
        · exact l9 q (by k_mem)
        · exact l9 (sa, listOf zs2.toArray n2) (by k_mem)
        · exact l9 q (by k_mem)
      · rcases hq with hq | rfl | hq
        · exact lml q (by k_mem)
        · exact lml (sa, listOf zs1.toArray n1) (by k_mem)
        · exact lml q (by k_mem)
    · refine hret _ _ _ _ (by assumption) (by assumption) ⟨.num _, tl9, _, _, _, .num, hR9, fun p hp q hq => ?_, hz1, hb1, rfl⟩
      simp only [List.mem_append, List.mem_cons] at hq
      rcases hq with hq | rfl | hq
      · exact hap9 p hp q (by k_mem)
      · exact hap9 p hp (sa, listOf zs1.toArray n1) (by k_mem)
      · exact hap9 p hp q (by k_mem)
  | succ d ih =>
    intro dv hdv sa pre post h1 h2 zs ns n hz hb tkd
    subst hdv
    unfold CallsN
    k_fill
    intro p loose mean mg mb dp un gd cn cs a ccd cl outer A₀ base h₀ L m s Q E B F X N Tp hk1 hd hu hret
    k_with_none
    refine wpAny_call ?_
    k_dflt ktr_enter
    k_with "call ref" => k_dflt (refine' CallsN.use ?k1 ?k2 ?k3 ?k4 ?k5 ?kK (pinch_calls w sa pre post h1 h2 _ _ _ ?kz ?kb _ _ ?kl) ?kd ?ku ?_; (case k1 => k_asm); (case k2 => k_asm); (case k3 => k_asm); (case k4 => k_asm); (case k5 => k_asm); (case kK => exact rfl); (case kz => assumption); (case kb => assumption); (case kl => decide); (case kd => (simp only [depth_deeper, depth_in1, ktrTop]; omega)); (case ku => (simp only [units_deeper, units_in1, ktrTop]; omega)); intro r news' h' tk' F' N' hr; obtain ⟨k1, tk1, zs1, ns1, n1, rfl, hk10, hk11, hz1, hb1, rfl⟩ := hr; (try k_fold))
    k_with "call ref" => k_dflt (refine' CallsN.use ?k1 ?k2 ?k3 ?k4 ?k5 ?kK (number_calls w _ _ _) ?kd ?ku ?_; (case k1 => k_asm); (case k2 => k_asm); (case k3 => k_asm); (case k4 => k_asm); (case k5 => k_asm); (case kK => exact rfl);  (case kd => (simp only [depth_deeper, depth_in1, ktrTop]; omega)); (case ku => (simp only [units_deeper, units_in1, ktrTop]; omega)); intro r news' h' tk' F' N' hr; obtain ⟨tl9, rfl, hap9, hR9⟩ := hr; (try k_fold))
    k_with "call ref" => k_dflt ((show wpAny _ _ (call (Value.ref 67) _ _) _ _ _); refine' call_cls ?k1 ?k2 ?k3 ?k4 ?k5 ?k6 ?_; (case k1 => k_asm); (case k2 => k_asm); (case k3 => k_asm); (case k4 => k_is); (case k5 => k_is); (case k6 => k_is); k_whole; intro x9 d9 h' F' N' l9 l9'; (have l9n := fun p hp => Nat.ne_of_lt (l9 p hp)); (replace l9' := ltN l9'); k_enter)
    k_with "call ref" => k_dflt (refine' CallsN.use ?k1 ?k2 ?k3 ?k4 ?k5 ?kK (pinch_calls w sa (_ :: pre) post ?ko h2 _ _ _ ?kz ?kb _ _ ?kl) ?kd ?ku ?_; (case k1 => k_asm); (case k2 => k_asm); (case k3 => k_asm); (case k4 => k_asm); (case k5 => k_asm); (case kK => exact rfl); (case ko => exact List.forall_mem_cons.mpr ⟨Nat.ne_of_gt (lml (sa, _) (List.mem_append_right _ List.mem_cons_self)), h1⟩); (case kz => assumption); (case kb => assumption); (case kl => decide); (case kd => (simp only [depth_deeper, depth_in1, ktrTop]; omega)); (case ku => (simp only [units_deeper, units_in1, ktrTop]; omega)); intro r news' h' tk' F' N' hr; obtain ⟨k2, tk2, zs2, ns2, n2, rfl, hk20, hk21, hz2, hb2, rfl⟩ := hr; (try simp only [List.cons_append] at N'); (try k_fold))
    k_with "newList" => k_dflt ((show wpAny _ _ (newList [Value.str _ _, Value.str _ _, Value.str _ _]) _ _ _); refine newList_K (by k_asm) (by k_asm) ?_; intro ml h' F' N' lml; (try dsimp only))
    k_with "subscriptTail Name Call ref int" => k_dflt (refine item_menu3 (kso_isList (by k_asm) (by k_mem) rfl) hk20 hk21 ?_; intro sx stk hs2)
    k_with "newList" => k_dflt ((show wpAny _ _ (newList [Value.ref _]) _ _ _); refine newList_K (by k_asm) (by k_asm) ?_; intro it h' F' N' lit; (try dsimp only))
    k_with "newList" => k_dflt ((show wpAny _ _ (newList [Value.none]) _ _ _); refine newList_K (by k_asm) (by k_asm) ?_; intro tg h' F' N' ltg; (try dsimp only); (have o1 : @LT.lt Nat _ sa ml := lml (sa, listOf zs1.toArray n1) (by simp)); (have o2 : @LT.lt Nat _ ml d9 := l9 (ml, _) List.mem_cons_self); (have o3 : @LT.lt Nat _ d9 x9 := l9'); (have o4 : @LT.lt Nat _ x9 it := lit (x9, _) List.mem_cons_self); (have o5 : @LT.lt Nat _ it tg := ltg (it, _) List.mem_cons_self); (have o6 : ∀ q ∈ pre ++ post, @LT.lt Nat _ q.1 ml := fun q hq => (List.mem_append.mp hq).elim (fun hq => lml q (by k_mem)) (fun hq => lml q (by k_mem)));  (have hitsa : it ≠ sa := Nat.ne_of_gt (by omega)); (have htgsa : tg ≠ sa := Nat.ne_of_gt (by omega)); (have hx9sa : x9 ≠ sa := Nat.ne_of_gt (by omega)); (have hd9sa : d9 ≠ sa := Nat.ne_of_gt (by omega)); (have hmlsa : ml ≠ sa := Nat.ne_of_gt (by omega)))
    k_with "newList" => k_dflt ((show wpAny _ _ (newList [Value.none, Value.str _ _, Value.str _ _]) _ _ _); refine newList_K (by k_asm) (by k_asm) ?_; intro mt h' F' N' lmt; (try dsimp only); (have lmt' := fun p hp => ltN (lmt p hp)))
    k_with "subscriptTail Name Call ref int" => k_dflt (refine item_menuT (kso_isList (by k_asm) (by k_mem) rfl) hk20 hk21 ?_; intro tv td htd1 htd2)
    k_with "call ref" => k_dflt ((show wpAny _ _ (call (Value.ref 89) _ _) _ _ _); refine' call_cls ?k1 ?k2 ?k3 ?k4 ?k5 ?k6 ?_; (case k1 => k_asm); (case k2 => k_asm); (case k3 => k_asm); (case k4 => k_is); (case k5 => k_is); (case k6 => k_is); k_whole; intro c9 dc9 h' F' N' lc9 lc9'; (have lc9n := fun p hp => Nat.ne_of_lt (lc9 p hp)); (replace lc9' := ltN lc9'); k_enter)
    k_with "call ref" => k_dflt (refine' CallsN.use ?k1 ?k2 ?k3 ?k4 ?k5 ?kK (pinch_calls w sa (_ :: _ :: _ :: _ :: _ :: pre) post ?ko h2 _ _ _ ?kz ?kb _ _ ?kl) ?kd ?ku ?_; (case k1 => k_asm); (case k2 => k_asm); (case k3 => k_asm); (case k4 => k_asm); (case k5 => k_asm); (case kK => exact rfl); (case ko => exact List.forall_mem_cons.mpr ⟨htgsa, List.forall_mem_cons.mpr ⟨hitsa, List.forall_mem_cons.mpr ⟨hx9sa, List.forall_mem_cons.mpr ⟨hd9sa, List.forall_mem_cons.mpr ⟨hmlsa, h1⟩⟩⟩⟩⟩); (case kz => assumption); (case kb => assumption); (case kl => decide); (case kd => (simp only [depth_deeper, depth_in1, ktrTop]; omega)); (case ku => (simp only [units_deeper, units_in1, ktrTop]; omega)); intro r news' h' tk' F' N' hr; obtain ⟨k3, tk3, zs3, ns3, n3, rfl, hk30, hk31, hz3, hb3, rfl⟩ := hr; (try simp only [List.cons_append] at N'); (try k_fold))
    k_with "call type:range" => k_dflt (refine range1_rows (by k_asm) (by k_asm) ?_; intro h' tk' rt ru rv rgX F' N' _; (try dsimp only))
    k_with "pyIter ref" => k_dflt ((rename Fr _ _ _ _ => lF); (rename News _ _ _ _ => lN); (have hls := loop_start lN); obtain ⟨cn, hcn, lN'⟩ := hls; (have hsy : TIn w cn (.ref x9) (.sym sx) := by rw [hcn]; exact .sym List.mem_cons_self (List.mem_cons_of_mem _ List.mem_cons_self)); (have hcA : ∀ p ∈ cn, p.1 = x9 ∨ p.1 = d9 ∨ p.1 = ml := by (rw [hcn]; intro p hp; simp only [List.mem_cons, List.not_mem_nil, or_false] at hp; rcases hp with rfl | rfl | rfl <;> simp)); clear hcn; refine for_rled (n := (k1 - 2 + k3).toNat) (σ := GS) (fun σ => (it, listOf σ.is.toArray σ.ni) :: (tg, listOf σ.tgs.toArray σ.nt) :: (sa, listOf σ.zs.toArray σ.nz) :: (σ.tl ++ (cn ++ (pre ++ post)))) (GInv w d sx cn it tg sa (pre ++ post)) ⟨[.ref x9], [.none], zs3, 0, 0, n3, []⟩ (by rfl) rgX (small_one (by omega) (by omega) (by omega) (by omega)) (by rw [rangeSize_nat, Int.sub_zero]) lF lN' ⟨⟨[], [.none], ns3, .cons hsy .nil, Goods.nil, rfl, .one .none, rfl, by simp [kqdOk], hz3⟩, hb3, by simp⟩ (fun i tki σ I itr h' tk' hi hI hit F' N' hoff' => ?_) (fun σ u h' tk' hI F' N' => ?_); all_goals (clear lF lN lN'; dsimp only [envOf] at F' N'; (try dsimp only); (try k_fold)))
    k_with "call ref" => ((have hRit : ∀ p ∈ σ.tl ++ (cn ++ (pre ++ post)), p.1 ≠ it := (by intro p hp; simp only [List.mem_append] at hp; rcases hp with hp | hp | hp; exact (hI.apart p hp).1; (rcases hcA p hp with e | e | e <;> rw [e] <;> exact Nat.ne_of_lt (by omega)); exact Nat.ne_of_lt (Nat.lt_trans (o6 p (List.mem_append.mpr hp)) (by omega)))); (have hRtg : ∀ p ∈ σ.tl ++ (cn ++ (pre ++ post)), p.1 ≠ tg := (by intro p hp; simp only [List.mem_append] at hp; rcases hp with hp | hp | hp; exact (hI.apart p hp).2.1; (rcases hcA p hp with e | e | e <;> rw [e] <;> exact Nat.ne_of_lt (by omega)); exact Nat.ne_of_lt (Nat.lt_trans (o6 p (List.mem_append.mpr hp)) (by omega)))); obtain ⟨tsL, tagsL, nsL, hts, hgs, htl, htg, htgl, htk, hns⟩ := hI.out; (have hIsa : I ≠ sa := (hoff' (sa, listOf σ.zs.toArray σ.nz) (by simp)).symm); (have hRsa : ∀ p ∈ σ.tl ++ (cn ++ (pre ++ post)), p.1 ≠ sa := (by intro p hp; simp only [List.mem_append] at hp; rcases hp with hp | hp | hp | hp; exact (hI.apart p hp).2.2.1; (rcases hcA p hp with e | e | e <;> rw [e] <;> assumption); exact h1 p hp; exact h2 p hp)); k_dflt (refine' CallsN.use ?k1 ?k2 ?k3 ?k4 ?k5 ?kK (ih _ (by omega) sa [_, _, _] (σ.tl ++ (cn ++ (pre ++ post))) ?ko ?kp _ _ _ ?kz ?kb _) ?kd ?ku ?_; (case k1 => k_asm); (case k2 => k_asm); (case k3 => k_asm); (case k4 => k_asm); (case k5 => k_asm); (case kK => exact rfl); (case ko => exact List.forall_mem_cons.mpr ⟨hIsa, List.forall_mem_cons.mpr ⟨hitsa, List.forall_mem_cons.mpr ⟨htgsa, List.forall_mem_nil _⟩⟩⟩); (case kp => exact hRsa); (case kz => exact hns); (case kb => exact hI.few); (case kd => (simp only [depth_deeper, depth_in1, ktrTop]; omega)); (case ku => (simp only [units_deeper, units_in1, ktrTop]; omega)); intro r news' h' tk' F' N' hr; obtain ⟨t', tl1, zs1, ns1, n1, hg1, hR1, hap1, hz1, hb1, rfl⟩ := hr; (try simp only [List.cons_append, List.nil_append] at N' hap1); (try k_fold)))
    k_with "call ref" => k_dflt (refine' CallsN.use ?k1 ?k2 ?k3 (N'.perm pmE) ?k5 ?kK (pinch_calls w sa [] _ (List.forall_mem_nil _) ?kp _ _ _ ?kz ?kb _ _ ?kl) ?kd ?ku ?_; (case k1 => k_asm); (case k2 => k_asm); (case k3 => k_asm);  (case k5 => k_asm); (case kK => exact rfl); (case kp => (intro p hp; simp only [List.mem_cons, List.mem_append] at hp; rcases hp with rfl | rfl | hp | rfl | rfl | hp; exact Nat.ne_of_gt (lmt (sa, listOf zs1.toArray n1) (by simp)); exact hitsa; exact (hap1 p hp (sa, listOf σ.zs.toArray σ.nz) (by simp)).symm; exact hIsa; exact htgsa; exact hRsa p (List.mem_append.mpr (by simpa only [List.mem_append] using hp)))); (case kz => exact hz1); (case kb => exact hb1); (case kl => decide); (case kd => (simp only [depth_deeper, depth_in1, ktrTop]; omega)); (case ku => (simp only [units_deeper, units_in1, ktrTop]; omega)); intro r news' h' tk' F' N' hr; obtain ⟨k2, tk2, zs2, ns2, n2, rfl, hk20, hk21, hz2, hb2, rfl⟩ := hr; (try simp only [List.nil_append] at N'); (try k_fold))
    k_with "call builtin:list.append" => k_dflt (refine append_hd (D := it) (xs := σ.is) (by k_asm) (N'.perm pm1) (by intro p hp; simp only [List.mem_append, List.mem_cons] at hp; rcases hp with hp | rfl | rfl | rfl | hp; exact (hap1 p hp (it, listOf σ.is.toArray σ.ni) (by simp)).symm; exact (hoff' (it, listOf σ.is.toArray σ.ni) (by simp)).symm; exact Nat.ne_of_gt o5; exact hitsa.symm; exact hRit p (by simpa only [List.mem_append] using hp)) (by rw [hts.length, List.length_cons, htl]; omega) ?_; intro h' F' N')
    k_with "call builtin:list.append" => k_dflt (refine append_hd (D := tg) (xs := σ.tgs) (by k_asm) (N'.perm pmF) (by intro p hp; simp only [List.mem_append, List.mem_cons] at hp; rcases hp with rfl | rfl | rfl | hp | rfl | hp; exact htgsa.symm; exact Nat.ne_of_gt (lmt' (tg, listOf σ.tgs.toArray σ.nt) (by simp)); exact Nat.ne_of_lt o5; exact (hap1 p hp (tg, listOf σ.tgs.toArray σ.nt) (by simp)).symm; exact (hoff' (tg, listOf σ.tgs.toArray σ.nt) (by simp)).symm; exact hRtg p (by simpa only [List.mem_append] using hp)) (by rw [htg.length, htgl]; omega) ?_; intro h' F' N')
    k_steps
    · refine hret _ _ _ _ (by assumption) (by assumption) ⟨.sym sx, [_, _, _], zs2, ns2, n2, .sym hs2, .sym List.mem_cons_self (List.mem_cons_of_mem _ List.mem_cons_self), .cons (fun q hq => ?_) (.cons (fun q hq => ?_) (.cons (fun q hq => ?_) .nil)), hz2, hb2, rfl⟩
      all_goals simp only [List.mem_append, List.mem_cons] at hq
      all_goals (refine Nat.ne_of_lt ?_)
      · refine Nat.lt_trans ?_ l9'
        rcases hq with hq | rfl | hq
        · exact l9 q (by k_mem)
        · exact l9 (sa, listOf zs2.toArray n2) (by k_mem)
        · exact l9 q (by k_mem)
      · rcases hq with hq | rfl | hq
        · exact l9 q (by k_mem)
        · exact l9 (sa, listOf zs2.toArray n2) (by k_mem)
        · exact l9 q (by k_mem)
      · rcases hq with hq | rfl | hq
        · exact lml q (by k_mem)
        · exact lml (sa, listOf zs1.toArray n1) (by k_mem)
        · exact lml q (by k_mem)
    · refine hret _ _ _ _ (by assumption) (by assumption) ⟨.num _, tl9, _, _, _, .num, hR9, fun p hp q hq => ?_, hz1, hb1, rfl⟩
      simp only [List.mem_append, List.mem_cons] at hq
      rcases hq with hq | rfl | hq
      · exact hap9 p hp q (by k_mem)
      · exact hap9 p hp (sa, listOf zs1.toArray n1) (by k_mem)
      · exact hap9 p hp q (by k_mem)
    · refine ⟨⟨σ.is ++ [_], σ.tgs ++ [tv], zs2, σ.ni + 1, σ.nt + 1, n2, tl1 ++ σ.tl⟩, _, _, _, rfl, (by assumption), fun z hz => if_neg hz, N'.perm pmG, ?_, ⟨tsL ++ [t'], tagsL ++ [td], ns2, (hts.mono pm8).append (.cons (hR1.mono pm4) .nil), hgs.snoc hg1, (by rw [List.length_append, htl]; rfl), htg.append (.one htd1), (by rw [List.length_append, htgl]; rfl), (fun d hd => (List.mem_append.mp hd).elim (htk d) fun e => (List.mem_singleton.mp e).symm ▸ htd2), hz2⟩, hb2, ?_⟩
      · intro p hp
        simp only [List.mem_append, List.mem_cons] at hp
        rcases hp with rfl | rfl | rfl | (hp | hp) | hp
        · exact hoff' (it, listOf σ.is.toArray σ.ni) (by simp)
        · exact hoff' (tg, listOf σ.tgs.toArray σ.nt) (by simp)
        · exact hoff' (sa, listOf σ.zs.toArray σ.nz) (by simp)
        · exact (hap1 p hp (I, itr) (by simp)).symm
        · exact hoff' p (by simp [hp])
        · exact hoff' p (by simp only [List.mem_append, List.mem_cons]; exact .inr (.inr (.inr (.inr hp))))
      · intro p hp
        rcases List.mem_append.mp hp with hp | hp
        · exact ⟨(hap1 p hp (it, listOf σ.is.toArray σ.ni) (by simp)).symm, (hap1 p hp (tg, listOf σ.tgs.toArray σ.nt) (by simp)).symm, (hap1 p hp (sa, listOf σ.zs.toArray σ.nz) (by simp)).symm, fun q hq => hap1 p hp q (by simp only [List.mem_append, List.mem_cons] at hq ⊢; exact .inr (.inr (.inr (.inr (.inr (.inr hq))))))⟩
        · exact hI.apart p hp
    · obtain ⟨tsL, tagsL, nsL, hts, hgs, htl, htg, htgl, htk, hns⟩ := hI.out
      rename News h₀ L _ _ => kN
      have hbel : ∀ q ∈ pre ++ (sa, listOf zs.toArray n) :: post, @LT.lt Nat _ q.1 ml := by
        intro q hq
        simp only [List.mem_append, List.mem_cons] at hq
        rcases hq with hq | rfl | hq
        · exact o6 q (List.mem_append_left _ hq)
        · exact o1
        · exact o6 q (List.mem_append_right _ hq)
      have o7 : @LT.lt Nat _ tg dc9 := lc9 (tg, listOf σ.tgs.toArray σ.nt) (by simp)
      have o8 : @LT.lt Nat _ dc9 c9 := lc9'
      refine hret _ _ _ _ (by assumption) (kN.perm pmH) ⟨.call (.sym sx :: tsL) tagsL, (c9, _) :: (dc9, _) :: (it, _) :: (tg, _) :: (σ.tl ++ cn), σ.zs, nsL, σ.nz, Good.call hgs (by omega) (hs2.elim (fun h => .inr (.inl h)) fun h => h.elim .inl fun h => .inr (.inr h)) (by omega) htk (by omega),
        .call List.mem_cons_self (List.mem_cons_of_mem _ List.mem_cons_self) (List.mem_cons_of_mem _ (List.mem_cons_of_mem _ List.mem_cons_self)) (List.mem_cons_of_mem _ (List.mem_cons_of_mem _ (List.mem_cons_of_mem _ List.mem_cons_self))) (hts.mono pmI) htg, ?_, hns, hI.few, rfl⟩
      refine .cons (fun q hq => ?_) (.cons (fun q hq => ?_) (.cons (fun q hq => ?_) (.cons (fun q hq => ?_) (.append (fun p hp q hq => ?_) (fun p hp q hq => ?_)))))
      · have := hbel q hq; exact Nat.ne_of_lt (by omega)
      · have := hbel q hq; exact Nat.ne_of_lt (by omega)
      · have := hbel q hq; exact Nat.ne_of_lt (by omega)
      · have := hbel q hq; exact Nat.ne_of_lt (by omega)
      · have h8 := hI.apart p hp
        simp only [List.mem_append, List.mem_cons] at hq
        rcases hq with hq | rfl | hq
        · exact h8.2.2.2 q (List.mem_append_left _ hq)
        · exact h8.2.2.1.symm
        · exact h8.2.2.2 q (List.mem_append_right _ hq)
      · have := hbel q hq
        rcases hcA p hp with e | e | e <;> rw [e] <;> exact Nat.ne_of_lt (by omega)
end Mine
namespace Mine
theorem offPQLeafs : True := by
  w_top off
  k_with_none
  trivial
open PySem.Spec PySem.Calls
local macro_rules | `(tactic| k_room) => `(tactic| ((simp only [depth_under_make, depth_under_kw, depth_in1, depth_deeper, depth_caller, ktrTop, recursionLimit]); omega))
local macro_rules | `(tactic| ktr_enter) => `(tactic| first
  | (refine' code_def ?k1 ?k2 ?k3 ?k4 ?k5 ?kA ?kF ?kK ?k6 ?k7 ?k8 ?k9 ?kB ?_ ?c2 ?c3 ?c4 ?c5; (case kA => exact rfl); (case kF => exact rfl); (case kK => assumption); (case k1 => k_asm); (case k2 => k_asm); (case k3 => k_asm); (case k4 => k_asm); (case k5 => k_asm); (case k6 => k_is); (case k7 => k_is); (case k8 => k_room); (case k9 => first | exact BindsTo.of_eq rfl | exact binds_K (by k_in) rfl (by k_is) rfl rfl rfl); (case c5 => decide); (case kB => exact locs rfl); (case c2 => exact rfl); (case c3 => exact rfl); (case c4 => exact rfl); k_whole; intro g' L' h' FG' F' N' B' X' T'; (try dsimp only); (try k_fold))
  | (refine' code_defC ?k1 ?k2 ?k3 ?k4 ?k5 ?kA ?kF ?kK ?k6 ?k7 ?k8 ?k9 ?kB ?kD ?_ ?c2 ?c3 ?c4; (case kA => exact rfl); (case kF => exact rfl); (case kK => assumption); (case k1 => k_asm); (case k2 => k_asm); (case k3 => k_asm); (case k4 => k_asm); (case k5 => k_asm); (case k6 => k_is); (case k7 => k_is); (case k8 => k_room); (case k9 => first | exact BindsTo.of_eq rfl | exact binds_K (by k_in) rfl (by k_is) rfl rfl rfl); (case kB => exact rfl); (case kD => decide +kernel); (case c2 => exact rfl); (case c3 => exact rfl); (case c4 => exact rfl); k_whole; intro g' L' h' tk' cells' FG' F' N' Y' B' X' T' l1; (try k_lt l1); k_cells Y'; (try simp only [List.cons_append, List.nil_append] at N'); (try dsimp only); (try k_fold)))
local macro_rules | `(tactic| k_mem) => `(tactic| first | with_reducible assumption | exact List.mem_cons_self | (refine List.mem_cons_of_mem _ ?_; k_mem) | (refine List.mem_append_left _ ?_; k_mem) | (refine List.mem_append_right _ ?_; k_mem))
local macro_rules | `(tactic| walk_at $s:str) => `(tactic| k_extra $s)
local macro_rules | `(tactic| k_all) => `(tactic| assumption)
theorem leaf_two (w : World) : Leaf w 223 (fun x => x ++ Str.ofString "22") := by
  intro t v nb news R hnb hnm
  unfold CallsN
  k_fill
  intro p loose mean mg mb dp un gd cn cs a ccd cl outer A₀ base h₀ L m s Q E B F X N Tp hk1 hd hu hret
  k_with_none
  cases R with
  | @sym a d x t1 t2 t3 t4 t5 h1 h2 =>
    have hx : x.length ≤ 100 := hnm x (by simp [T.names])
    replace h1 := hnb _ h1
    replace h2 := hnb _ h2
    refine wpAny_call ?_
    k_dflt ktr_enter
    k_with "binaryOp Add str str" => k_dflt (refine add_str (fun t' tk' => ?_) (by rw [PySem.sizeLine_eq, show (Str.ofString "22").length = 2 from rfl]; omega))
    k_steps
    rename (∀ p ∈ news, p.1 < _) => lA
    rename @LT.lt Nat _ _ _ => lB
    exact hret _ _ _ _ (by assumption) (by assumption) ⟨[(_, _), (_, _)], rfl, .cons (fun q hq => Nat.ne_of_lt (Nat.lt_trans (lA q hq) lB)) (.cons (fun q hq => Nat.ne_of_lt (lA q hq)) .nil), .sym List.mem_cons_self (List.mem_cons_of_mem _ List.mem_cons_self)⟩
  | num h1 h2 h3 h4 =>
    have hR : TIn w nb _ _ := .num h1 h2 h3 h4
    replace h1 := hnb _ h1
    replace h2 := hnb _ h2
    refine wpAny_call ?_
    k_dflt ktr_enter
    k_steps
    exact hret _ _ _ _ (by assumption) (by assumption) ⟨[], rfl, .nil, hR⟩
  | call h1 h2 h3 h4 hts htg =>
    have hR : TIn w nb _ _ := .call h1 h2 h3 h4 hts htg
    replace h1 := hnb _ h1
    replace h2 := hnb _ h2
    refine wpAny_call ?_
    k_dflt ktr_enter
    k_steps
    exact hret _ _ _ _ (by assumption) (by assumption) ⟨[], rfl, .nil, hR⟩

theorem leaf_both (w : World) : Leaf w 230 (fun x => x ++ Str.ofString "122") := by
  intro t v nb news R hnb hnm
  unfold CallsN
  k_fill
  intro p loose mean mg mb dp un gd cn cs a ccd cl outer A₀ base h₀ L m s Q E B F X N Tp hk1 hd hu hret
  k_with_none
  cases R with
  | @sym a d x t1 t2 t3 t4 t5 h1 h2 =>
    have hx : x.length ≤ 100 := hnm x (by simp [T.names])
    replace h1 := hnb _ h1
    replace h2 := hnb _ h2
    refine wpAny_call ?_
    k_dflt ktr_enter
    k_with "binaryOp Add str str" => k_dflt (refine add_str (fun t' tk' => ?_) (by rw [PySem.sizeLine_eq, show (Str.ofString "122").length = 3 from rfl]; omega))
    k_steps
    rename (∀ p ∈ news, p.1 < _) => lA
    rename @LT.lt Nat _ _ _ => lB
    exact hret _ _ _ _ (by assumption) (by assumption) ⟨[(_, _), (_, _)], rfl, .cons (fun q hq => Nat.ne_of_lt (Nat.lt_trans (lA q hq) lB)) (.cons (fun q hq => Nat.ne_of_lt (lA q hq)) .nil), .sym List.mem_cons_self (List.mem_cons_of_mem _ List.mem_cons_self)⟩
  | num h1 h2 h3 h4 =>
    have hR : TIn w nb _ _ := .num h1 h2 h3 h4
    replace h1 := hnb _ h1
    replace h2 := hnb _ h2
    refine wpAny_call ?_
    k_dflt ktr_enter
    k_steps
    exact hret _ _ _ _ (by assumption) (by assumption) ⟨[], rfl, .nil, hR⟩
  | call h1 h2 h3 h4 hts htg =>
    have hR : TIn w nb _ _ := .call h1 h2 h3 h4 hts htg
    replace h1 := hnb _ h1
    replace h2 := hnb _ h2
    refine wpAny_call ?_
    k_dflt ktr_enter
    k_steps
    exact hret _ _ _ _ (by assumption) (by assumption) ⟨[], rfl, .nil, hR⟩

end Mine
namespace Mine
theorem offPQParts : True := by
  w_top off
  k_with_none
  trivial
open PySem.Spec PySem.Calls
local macro_rules | `(tactic| k_room) => `(tactic| ((simp only [depth_under_make, depth_under_kw, depth_in1, depth_deeper, depth_caller, ktrTop, recursionLimit]); omega))
local macro_rules | `(tactic| ktr_enter) => `(tactic| first
  | (refine' code_def ?k1 ?k2 ?k3 ?k4 ?k5 ?kA ?kF ?kK ?k6 ?k7 ?k8 ?k9 ?kB ?_ ?c2 ?c3 ?c4 ?c5; (case kA => exact rfl); (case kF => exact rfl); (case kK => assumption); (case k1 => k_asm); (case k2 => k_asm); (case k3 => k_asm); (case k4 => k_asm); (case k5 => k_asm); (case k6 => k_is); (case k7 => k_is); (case k8 => k_room); (case k9 => first | exact BindsTo.of_eq rfl | exact binds_K (by k_in) rfl (by k_is) rfl rfl rfl); (case c5 => decide); (case kB => exact locs rfl); (case c2 => exact rfl); (case c3 => exact rfl); (case c4 => exact rfl); k_whole; intro g' L' h' FG' F' N' B' X' T'; (try dsimp only); (try k_fold))
  | (refine' code_defC ?k1 ?k2 ?k3 ?k4 ?k5 ?kA ?kF ?kK ?k6 ?k7 ?k8 ?k9 ?kB ?kD ?_ ?c2 ?c3 ?c4; (case kA => exact rfl); (case kF => exact rfl); (case kK => assumption); (case k1 => k_asm); (case k2 => k_asm); (case k3 => k_asm); (case k4 => k_asm); (case k5 => k_asm); (case k6 => k_is); (case k7 => k_is); (case k8 => k_room); (case k9 => first | exact BindsTo.of_eq rfl | exact binds_K (by k_in) rfl (by k_is) rfl rfl rfl); (case kB => exact rfl); (case kD => decide +kernel); (case c2 => exact rfl); (case c3 => exact rfl); (case c4 => exact rfl); k_whole; intro g' L' h' tk' cells' FG' F' N' Y' B' X' T' l1; (try k_lt l1); k_cells Y'; (try simp only [List.cons_append, List.nil_append] at N'); (try dsimp only); (try k_fold)))
local macro_rules | `(tactic| k_mem) => `(tactic| first | with_reducible assumption | exact List.mem_cons_self | (refine List.mem_cons_of_mem _ ?_; k_mem) | (refine List.mem_append_left _ ?_; k_mem) | (refine List.mem_append_right _ ?_; k_mem))
local macro_rules | `(tactic| walk_at $s:str) => `(tactic| k_extra $s)
local macro_rules | `(tactic| k_all) => `(tactic| assumption)

abbrev expD (w : World) (l : Addr) (t1 t2 t3 t4 t5 t6 : Tok) : Obj := dictOf [
  { hash := PyData.keyHash w.params (Str.ofString "kind"), key := .str (Str.ofString "kind") t1, val := .str (Str.ofString "expression") t2 },
  { hash := PyData.keyHash w.params (Str.ofString "items"), key := .str (Str.ofString "items") t3, val := .ref l },
  { hash := PyData.keyHash w.params (Str.ofString "attrs"), key := .str (Str.ofString "attrs") t4, val := .none },
  { hash := PyData.keyHash w.params (Str.ofString "shared"), key := .str (Str.ofString "shared") t5, val := .bool false },
  { hash := PyData.keyHash w.params (Str.ofString "loose"), key := .str (Str.ofString "loose") t6, val := .bool false }] 5
theorem depth_exp (w : World) {a d l : Addr} {t1 t2 t3 t4 t5 t6 : Tok} {vs : List Value} {ts : List T} {k : Nat} {news : List (Addr × Obj)} (h1 : (a, instObj 46 d) ∈ news) (h2 : (d, expD w l t1 t2 t3 t4 t5 t6) ∈ news) (h3 : (l, listOf vs.toArray k) ∈ news) (hts : TsIn w news vs ts) :
    CallsV w 176 [.ref a] news (2 * T.hts ts + 7) (fun r => ∃ tk, r = .int (T.hts ts : Int) tk) := by
  unfold CallsV
  k_fill
  intro p loose mean mg mb dp un gd cn cs a ccd cl outer A₀ base h₀ L m s Q E B F X N Tp hk hd hu hret
  k_with_none
  have hmem : ∀ t' ∈ ts, t'.ht ≤ T.hts ts := fun t' h => hts_mem h
  refine wpAny_call ?_
  k_dflt ktr_enter
  k_with "pyIter ref" => ((rename Fr _ _ _ _ => lF); (rename News _ _ _ _ => lN); refine for_acc (vs := vs) (σ := Int × Tok) (Str.ofString "deepest") (fun σ => .int σ.1 σ.2) (fun i σ => σ.1 = (T.hts (ts.take i) : Int)) (0, _) (by rfl) lF lN (by k_mem) (by rfl) (by rfl) (by rfl) rfl (fun i v σ I it h' tk hv hI hit F' N' hoff => Exists.elim (hts.get hv) fun t' hh => ?_) (fun σ u h' tk hI F' N' => ?_); all_goals (clear lF lN; dsimp only [envOf] at F' N'; (try dsimp only); (try k_fold)))
  k_with "call ref" => k_dflt (refine' CallsV.use ?k1 ?k2 ?k3 ?k4 ?k5 ?kK (depth_calls w _ t' (Nat.lt_succ_self _) v _ (hh.2.mono ?kR)) ?kd ?ku ?_; (case k1 => k_asm); (case k2 => k_asm); (case k3 => k_asm); (case k4 => k_asm); (case k5 => k_asm); (case kK => exact rfl); (case kR => exact fun p hp => List.mem_cons_of_mem _ hp); (case kd => (have := hmem t' (List.mem_of_getElem? hh.1); simp only [depth_deeper, depth_in1, ktrTop]; omega)); (case ku => (have := hmem t' (List.mem_of_getElem? hh.1); simp only [units_deeper, units_in1, ktrTop]; omega)); intro r h' tk' F' N' hr; obtain ⟨tk9, rfl⟩ := hr; (try k_fold))
  k_steps
  · refine ⟨(if (t'.ht : Int) > σ.1 then (t'.ht : Int) else σ.1, if (t'.ht : Int) > σ.1 then tk9 else σ.2), _, _, _, rfl, (by assumption), frame_eq (if_pos rfl) (by intro z h1 h2; simp only [if_neg h1, if_neg h2]), (by assumption), hoff, ?_⟩
    have := hts_take hh.1
    dsimp only
    split <;> omega
  · rw [hts.length, List.take_length] at hI
    exact hret _ _ _ (by assumption) (by assumption) ⟨_, by rw [hI]⟩

theorem callof_calls (w : World) {la : Addr} {ev ov : Value} {te to : T} {k : Nat} {tkf : Tok} {nb news : List (Addr × Obj)} (h1 : (la, listOf [ev, ov].toArray k) ∈ news) (hE : TIn w nb ev te) (hO : TIn w nb ov to) (hnb : ∀ p ∈ nb, p ∈ news) :
    CallsN w 108 [.str (Str.ofString "f") tkf, .ref la] news 12 (fun r news' => ∃ tl, news' = tl ++ news ∧ TIn w news' r (.call [.sym (Str.ofString "f"), te, to] [.none, .none, .none])) := by
  unfold CallsN
  k_fill
  intro p loose mean mg mb dp un gd cn cs a ccd cl outer A₀ base h₀ L m s Q E B F X N Tp hk hd hu hret
  k_with_none
  refine wpAny_call ?_
  k_dflt ktr_enter
  k_with "call type:list" => k_dflt (refine list_copyK (items := [ev, ov].toArray) (by k_asm) (by k_asm) (kso_isList (by k_asm) (by k_mem) rfl) ?_ (by rw [PySem.sizeLine_eq]; show 2 ≤ _; decide); intro na c9 h' F' N' lna)
  k_with "binaryOp Mult ref int" => k_dflt (refine KMa.mul (vs := [Value.none]) (ws := [Value.none, .none, .none]) (by k_asm) (by k_asm) (kso_isList (by k_asm) (by k_mem) rfl) (by decide) (by decide) (by decide) (by rfl) ?_; intro D9 h' F' N' lD9)
  k_steps
  refine hret _ _ _ _ (by assumption) (by assumption) ⟨[_, _, _, _, _, _, _, _, _], rfl, .call (by k_mem) (by k_mem) (by k_mem) (by k_mem) (.cons (.sym (by k_mem) (by k_mem)) (.cons (hE.mono ?_) (.cons (hO.mono ?_) .nil))) (.cons .none (.cons .none (.one .none)))⟩
  · intro p hp; have hp := hnb p hp; k_mem
  · intro p hp; have hp := hnb p hp; k_mem
end Mine
namespace Mine
theorem offPQShare : True := by
  w_top off
  k_with_none
  trivial
open PySem.Spec PySem.Calls
local macro_rules | `(tactic| k_room) => `(tactic| ((simp only [depth_under_make, depth_under_kw, depth_in1, depth_deeper, depth_caller, ktrTop, recursionLimit]); omega))
local macro_rules | `(tactic| ktr_enter) => `(tactic| first
  | (refine' code_def ?k1 ?k2 ?k3 ?k4 ?k5 ?kA ?kF ?kK ?k6 ?k7 ?k8 ?k9 ?kB ?_ ?c2 ?c3 ?c4 ?c5; (case kA => exact rfl); (case kF => exact rfl); (case kK => assumption); (case k1 => k_asm); (case k2 => k_asm); (case k3 => k_asm); (case k4 => k_asm); (case k5 => k_asm); (case k6 => k_is); (case k7 => k_is); (case k8 => k_room); (case k9 => first | exact BindsTo.of_eq rfl | exact binds_K (by k_in) rfl (by k_is) rfl rfl rfl); (case c5 => decide); (case kB => exact locs rfl); (case c2 => exact rfl); (case c3 => exact rfl); (case c4 => exact rfl); k_whole; intro g' L' h' FG' F' N' B' X' T'; (try dsimp only); (try k_fold))
  | (refine' code_defC ?k1 ?k2 ?k3 ?k4 ?k5 ?kA ?kF ?kK ?k6 ?k7 ?k8 ?k9 ?kB ?kD ?_ ?c2 ?c3 ?c4; (case kA => exact rfl); (case kF => exact rfl); (case kK => assumption); (case k1 => k_asm); (case k2 => k_asm); (case k3 => k_asm); (case k4 => k_asm); (case k5 => k_asm); (case k6 => k_is); (case k7 => k_is); (case k8 => k_room); (case k9 => first | exact BindsTo.of_eq rfl | exact binds_K (by k_in) rfl (by k_is) rfl rfl rfl); (case kB => exact rfl); (case kD => decide +kernel); (case c2 => exact rfl); (case c3 => exact rfl); (case c4 => exact rfl); k_whole; intro g' L' h' tk' cells' FG' F' N' Y' B' X' T' l1; (try k_lt l1); k_cells Y'; (try simp only [List.cons_append, List.nil_append] at N'); (try dsimp only); (try k_fold)))
local macro_rules | `(tactic| k_mem) => `(tactic| first | with_reducible assumption | exact List.mem_cons_self | (refine List.mem_cons_of_mem _ ?_; k_mem) | (refine List.mem_append_left _ ?_; k_mem) | (refine List.mem_append_right _ ?_; k_mem))
local macro_rules | `(tactic| walk_at $s:str) => `(tactic| k_extra $s)
local macro_rules | `(tactic| k_all) => `(tactic| assumption)

theorem CallsN.weak {w : World} {f : Addr} {vs : List Value} {news : List (Addr × Obj)} {room : Nat} {P P' : Value → List (Addr × Obj) → Prop} (h : CallsN w f vs news room P) (k : ∀ r n, P r n → P' r n) : CallsN w f vs news room P' := by
  unfold CallsN at h ⊢
  intro p loose mean mg mb dp un gd cn cs a ccd cl outer A₀ base h₀ L m s Q E B F X N Tp hk1 hd hu hret
  exact h p loose mean mg mb dp un gd cn cs a ccd cl outer A₀ base h₀ L m s Q E B F X N Tp hk1 hd hu fun r n h' tk' F' N' hp => hret r n h' tk' F' N' (k r n hp)

theorem inst_ne_dict {C d : Addr} {es : List DictEntry} {n : Nat} (h : instObj C d = dictOf es n) : False := by
  have := congrArg Obj.cls h
  exact Value.noConfusion this
theorem list_ne_dict {vs : Array Value} {k : Nat} {es : List DictEntry} {n : Nat} (h : listOf vs k = dictOf es n) : False := by
  have := congrArg Obj.cls h
  simp at this
theorem dict_inj {es es' : List DictEntry} {n n' : Nat} (h : dictOf es n = dictOf es' n') : es = es' := by
  have := congrArg Obj.data h
  simp only [dictOf, Data.dict.injEq] at this
  exact List.toArray_inj this.1
theorem sym_ne_vec {w : World} {x : Str} {l : Addr} {b : Bool} {t1 t2 t3 t4 t5 u1 u2 u3 u4 u5 u6 : Tok} (h : symD w x t1 t2 t3 t4 t5 = vecD w l b u1 u2 u3 u4 u5 u6) : False := by
  have := congrArg List.length (dict_inj h)
  simp at this
theorem call_ne_vec {w : World} {li lt l : Addr} {b : Bool} {t1 t2 t3 t4 t5 t6 u1 u2 u3 u4 u5 u6 : Tok} (h : callD w li lt t1 t2 t3 t4 t5 t6 = vecD w l b u1 u2 u3 u4 u5 u6) : False := by
  have := dict_inj h
  simp at this
theorem vec_inj {w : World} {l l' : Addr} {b b' : Bool} {t1 t2 t3 t4 t5 t6 u1 u2 u3 u4 u5 u6 : Tok} (h : vecD w l b t1 t2 t3 t4 t5 t6 = vecD w l' b' u1 u2 u3 u4 u5 u6) : l = l' := by
  have := dict_inj h
  simp only [List.cons.injEq, DictEntry.mk.injEq, Value.ref.injEq] at this
  exact this.2.1.2.2
section
variable {w : World} {l dd : Addr} {u1 u2 u3 u4 u5 u6 : Tok} {tl rest : List (Addr × Obj)} {b b' : Bool}
theorem flag_mem {p : Addr × Obj} {X Y : Obj} (h : p ∈ tl ++ (dd, X) :: rest) : p ∈ tl ++ (dd, Y) :: rest ∨ p = (dd, X) := by
  simp only [List.mem_append, List.mem_cons] at h ⊢
  rcases h with h | h | h
  · exact .inl (.inl h)
  · exact .inr h
  · exact .inl (.inr (.inr h))
theorem flag_keep {a : Addr} {o X Y : Obj} (h : (a, o) ∈ tl ++ (dd, X) :: rest) (k : o = X → False) : (a, o) ∈ tl ++ (dd, Y) :: rest := by
  rcases flag_mem (Y := Y) h with h | h
  · exact h
  · exact (k (Prod.mk.inj h).2).elim
mutual
theorem TIn.flag : ∀ {v : Value} {t : T}, TIn w (tl ++ (dd, vecD w l b u1 u2 u3 u4 u5 u6) :: rest) v t → TIn w (tl ++ (dd, vecD w l b' u1 u2 u3 u4 u5 u6) :: rest) v t
  | _, _, .sym h1 h2 => .sym (flag_keep h1 inst_ne_dict) (flag_keep h2 sym_ne_vec)
  | _, _, .num (l := l2) (n := n) h1 h2 h3 h4 => by
    rcases flag_mem (Y := vecD w l b' u1 u2 u3 u4 u5 u6) h2 with h2 | h2
    · exact .num (flag_keep h1 inst_ne_dict) h2 (flag_keep h3 list_ne_dict) (flag_keep h4 fun h => by have := congrArg Obj.cls h; simp at this)
    · obtain ⟨e1, e2⟩ := Prod.mk.inj h2
      have e3 := vec_inj e2
      rw [e1] at h1
      rw [e3] at h3
      exact .num (flag_keep h1 inst_ne_dict) (List.mem_append_right _ List.mem_cons_self) (flag_keep h3 list_ne_dict) (flag_keep h4 fun h => by have := congrArg Obj.cls h; simp at this)
  | _, _, .call h1 h2 h3 h4 h5 h6 => .call (flag_keep h1 inst_ne_dict) (flag_keep h2 call_ne_vec) (flag_keep h3 list_ne_dict) (flag_keep h4 list_ne_dict) (TsIn.flag h5) h6
theorem TsIn.flag : ∀ {vs : List Value} {ts : List T}, TsIn w (tl ++ (dd, vecD w l b u1 u2 u3 u4 u5 u6) :: rest) vs ts → TsIn w (tl ++ (dd, vecD w l b' u1 u2 u3 u4 u5 u6) :: rest) vs ts
  | _, _, .nil => .nil
  | _, _, .cons h r => .cons (TIn.flag h) (TsIn.flag r)
end
end
structure Sh (w : World) (ov : Value) (to : T) (Led : Bool → List (Addr × Obj)) : Prop where
  keys : ∀ b b' q, q ∈ Led b → ∃ q' ∈ Led b', q'.1 = q.1
  tin : ∀ b, TIn w (Led b) ov to
  flag : ∀ b b' tl v t, TIn w (tl ++ Led b) v t → TIn w (tl ++ Led b') v t
  flags : ∀ b b' tl vs ts, TsIn w (tl ++ Led b) vs ts → TsIn w (tl ++ Led b') vs ts
  call : ∀ b own, (∀ p ∈ own, ∀ b, ∀ q ∈ Led b, q.1 ≠ p.1) → CallsN w 115 [ov] (own ++ Led b) 6 (fun r news' => r = ov ∧ ∃ b', news' = own ++ Led b')

theorem share_still (w : World) (v : Value) (t : T) (ht : ∀ n, t ≠ .num n) (nb news : List (Addr × Obj)) (R : TIn w nb v t) (hnb : ∀ p ∈ nb, p ∈ news) : CallsN w 115 [v] news 6 (fun r news' => r = v ∧ news' = news) := by
  unfold CallsN
  k_fill
  intro p loose mean mg mb dp un gd cn cs a ccd cl outer A₀ base h₀ L m s Q E B F X N Tp hk1 hd hu hret
  k_with_none
  cases R with
  | sym h1 h2 =>
    replace h1 := hnb _ h1
    replace h2 := hnb _ h2
    refine wpAny_call ?_
    k_dflt ktr_enter
    k_steps
    exact hret _ _ _ _ (by assumption) (by assumption) ⟨rfl, rfl⟩
  | num h1 h2 h3 h4 => exact (ht _ rfl).elim
  | call h1 h2 h3 h4 hts htg =>
    replace h1 := hnb _ h1
    replace h2 := hnb _ h2
    refine wpAny_call ?_
    k_dflt ktr_enter
    k_steps
    exact hret _ _ _ _ (by assumption) (by assumption) ⟨rfl, rfl⟩
theorem share_num (w : World) (aa dd l : Addr) (b : Bool) (u1 u2 u3 u4 u5 u6 : Tok) (own rest : List (Addr × Obj)) (ho : ∀ p ∈ own, p.1 ≠ dd) (hr : ∀ p ∈ rest, p.1 ≠ dd) (h1 : (aa, instObj 46 dd) ∈ rest) :
    CallsN w 115 [.ref aa] (own ++ (dd, vecD w l b u1 u2 u3 u4 u5 u6) :: rest) 6 (fun r news' => r = .ref aa ∧ news' = own ++ (dd, vecD w l true u1 u2 u3 u4 u5 u6) :: rest) := by
  unfold CallsN
  k_fill
  intro p loose mean mg mb dp un gd cn cs a ccd cl outer A₀ base h₀ L m s Q E B F X N Tp hk1 hd hu hret
  k_with_none
  have h1' : (aa, instObj 46 dd) ∈ own ++ (dd, vecD w l b u1 u2 u3 u4 u5 u6) :: rest := List.mem_append_right _ (List.mem_cons_of_mem _ h1)
  have h2' : (dd, vecD w l b u1 u2 u3 u4 u5 u6) ∈ own ++ (dd, vecD w l b u1 u2 u3 u4 u5 u6) :: rest := List.mem_append_right _ List.mem_cons_self
  refine wpAny_call ?_
  k_dflt ktr_enter
  k_with "setAttr ref" => k_dflt (refine' set_dict ?k1 ?k2 ?k3 ?k4 ?k5 ?k6 ?k7 ?k8 ?k9 ?k10 ?k11 ?k12 ?k13 ?_; (case k1 => k_asm); (case k2 => k_asm); (case k3 => k_asm); (case k4 => k_inst); (case k5 => exact rfl); (case k6 => k_is); (case k7 => k_is); (case k8 => k_is); (case k9 => k_is); (case k10 => k_get); (case k11 => k_put); (case k12 => exact Upd.at ho hr); (case k13 => exact Nat.le_of_ble_eq_true rfl); k_whole; intro h' F' N')
  k_steps
  exact hret _ _ _ _ (by assumption) (by assumption) ⟨rfl, rfl⟩

theorem Sh.of {w : World} {h₀ h : Heap} {L : Addr} {news nb : List (Addr × Obj)} {ov : Value} {to : T} (N : News h₀ L h news) (R : TIn w nb ov to) (hnb : ∀ p ∈ nb, p ∈ news) :
    ∃ Led b, Sh w ov to Led ∧ (∀ p ∈ Led b, p ∈ news) ∧ ∀ b', ∀ p ∈ news, (∀ q ∈ nb, p.1 ≠ q.1) → p ∈ Led b' := by
  cases R with
  | @num a d l pp b n k j u1 u2 u3 u4 u5 u6 t1 t2 h1 h2 h3 h4 =>
    have hin : ∀ b', ∀ q ∈ nb, q ∈ (d, vecD w l b' u1 u2 u3 u4 u5 u6) :: news.filter (fun p => decide (p.1 ≠ d)) ∨ q = (d, vecD w l b u1 u2 u3 u4 u5 u6) := by
      intro b' q hq
      by_cases hd : q.1 = d
      · refine .inr ?_
        have e1 := (N _ (hnb _ hq)).1
        have e2 := (N _ (hnb _ h2)).1
        rw [hd] at e1
        have e3 := Option.some.inj (e1.symm.trans e2)
        exact Prod.ext hd e3
      · exact .inl (List.mem_cons_of_mem _ (List.mem_filter.mpr ⟨hnb _ hq, by simpa using hd⟩))
    have h1' : ∀ b', (a, instObj 46 d) ∈ (d, vecD w l b' u1 u2 u3 u4 u5 u6) :: news.filter (fun p => decide (p.1 ≠ d)) := fun b' => (hin b' _ h1).elim id fun e => (inst_ne_dict (Prod.mk.inj e).2).elim
    have hoff : ∀ p ∈ news.filter (fun p => decide (p.1 ≠ d)), p.1 ≠ d := fun p hp => by simpa using (List.mem_filter.mp hp).2
    have h1f : (a, instObj 46 d) ∈ news.filter (fun p => decide (p.1 ≠ d)) := by
      rcases List.mem_cons.mp (h1' b) with e | e
      · exact (inst_ne_dict (Prod.mk.inj e).2).elim
      · exact e
    refine ⟨fun b' => (d, vecD w l b' u1 u2 u3 u4 u5 u6) :: news.filter (fun p => decide (p.1 ≠ d)), b, ⟨?_, ?_, fun _ _ _ _ _ h => h.flag, fun _ _ _ _ _ h => h.flag, ?_⟩, ?_, ?_⟩
    · intro b b' q hq
      rcases List.mem_cons.mp hq with rfl | hq
      · exact ⟨_, List.mem_cons_self, rfl⟩
      · exact ⟨q, List.mem_cons_of_mem _ hq, rfl⟩
    · intro b'
      exact .num (h1' b') List.mem_cons_self ((hin b' _ h3).elim id fun e => (list_ne_dict (Prod.mk.inj e).2).elim) ((hin b' _ h4).elim id fun e => by have := congrArg Obj.cls (Prod.mk.inj e).2; simp at this)
    · intro b' own ho
      have := share_num w a d l b' u1 u2 u3 u4 u5 u6 own (news.filter (fun p => decide (p.1 ≠ d))) (fun p hp => (ho p hp b' _ List.mem_cons_self).symm) hoff h1f
      exact CallsN.weak this fun r news' hh => ⟨hh.1, true, hh.2⟩
    · intro p hp
      rcases List.mem_cons.mp hp with rfl | hp
      · exact hnb _ h2
      · exact (List.mem_filter.mp hp).1
    · intro b' p hp hq
      exact List.mem_cons_of_mem _ (List.mem_filter.mpr ⟨hp, by simpa using hq _ h2⟩)
  | sym h1 h2 =>
    have hR : TIn w nb _ (.sym _) := .sym h1 h2
    exact ⟨fun _ => news, true, ⟨fun _ _ q hq => ⟨q, hq, rfl⟩, fun _ => hR.mono hnb, fun _ _ _ _ _ h => h, fun _ _ _ _ _ h => h, fun b own _ => CallsN.weak (share_still w _ _ (by intro n h; cases h) nb _ hR (fun p hp => List.mem_append_right _ (hnb p hp))) fun r news' hh => ⟨hh.1, true, hh.2⟩⟩, fun p hp => hp, fun _ p hp _ => hp⟩
  | call h1 h2 h3 h4 h5 h6 =>
    have hR : TIn w nb _ (.call _ _) := .call h1 h2 h3 h4 h5 h6
    exact ⟨fun _ => news, true, ⟨fun _ _ q hq => ⟨q, hq, rfl⟩, fun _ => hR.mono hnb, fun _ _ _ _ _ h => h, fun _ _ _ _ _ h => h, fun b own _ => CallsN.weak (share_still w _ _ (by intro n h; cases h) nb _ hR (fun p hp => List.mem_append_right _ (hnb p hp))) fun r news' hh => ⟨hh.1, true, hh.2⟩⟩, fun p hp => hp, fun _ p hp _ => hp⟩
end Mine
namespace Mine
theorem offPQSub : True := by
  w_top off
  k_with_none
  trivial
open PySem.Spec PySem.Calls
local macro_rules | `(tactic| k_room) => `(tactic| ((simp only [depth_under_make, depth_under_kw, depth_in1, depth_deeper, depth_caller, ktrTop, recursionLimit]); omega))
local macro_rules | `(tactic| ktr_enter) => `(tactic| first
  | (refine' code_def ?k1 ?k2 ?k3 ?k4 ?k5 ?kA ?kF ?kK ?k6 ?k7 ?k8 ?k9 ?kB ?_ ?c2 ?c3 ?c4 ?c5; (case kA => exact rfl); (case kF => exact rfl); (case kK => assumption); (case k1 => k_asm); (case k2 => k_asm); (case k3 => k_asm); (case k4 => k_asm); (case k5 => k_asm); (case k6 => k_is); (case k7 => k_is); (case k8 => k_room); (case k9 => first | exact BindsTo.of_eq rfl | exact binds_K (by k_in) rfl (by k_is) rfl rfl rfl); (case c5 => decide); (case kB => exact locs rfl); (case c2 => exact rfl); (case c3 => exact rfl); (case c4 => exact rfl); k_whole; intro g' L' h' FG' F' N' B' X' T'; (try dsimp only); (try k_fold))
  | (refine' code_defC ?k1 ?k2 ?k3 ?k4 ?k5 ?kA ?kF ?kK ?k6 ?k7 ?k8 ?k9 ?kB ?kD ?_ ?c2 ?c3 ?c4; (case kA => exact rfl); (case kF => exact rfl); (case kK => assumption); (case k1 => k_asm); (case k2 => k_asm); (case k3 => k_asm); (case k4 => k_asm); (case k5 => k_asm); (case k6 => k_is); (case k7 => k_is); (case k8 => k_room); (case k9 => first | exact BindsTo.of_eq rfl | exact binds_K (by k_in) rfl (by k_is) rfl rfl rfl); (case kB => exact rfl); (case kD => decide +kernel); (case c2 => exact rfl); (case c3 => exact rfl); (case c4 => exact rfl); k_whole; intro g' L' h' tk' cells' FG' F' N' Y' B' X' T' l1; (try k_lt l1); k_cells Y'; (try simp only [List.cons_append, List.nil_append] at N'); (try dsimp only); (try k_fold)))
local macro_rules | `(tactic| k_mem) => `(tactic| first | with_reducible assumption | exact List.mem_cons_self | (refine List.mem_cons_of_mem _ ?_; k_mem) | (refine List.mem_append_left _ ?_; k_mem) | (refine List.mem_append_right _ ?_; k_mem))
local macro_rules | `(tactic| walk_at $s:str) => `(tactic| k_extra $s)
local macro_rules | `(tactic| k_all) => `(tactic| assumption)

section
variable {α : Type} {a b c e t : α} {l l₁ l₂ l₃ l₄ : List α}
theorem pmB : ∀ p ∈ t :: a :: (l ++ c :: l₁), p ∈ a :: (l ++ c :: t :: l₁) := by grind
theorem pmC : ∀ p ∈ c :: a :: t :: (((l ++ l₂) ++ l₃) ++ l₄), p ∈ t :: a :: (l ++ c :: ((l₂ ++ l₃) ++ l₄)) := by grind
theorem pmZ : ∀ p ∈ (a :: b :: c :: e :: l) ++ (l₁ ++ l₂), p ∈ a :: b :: c :: e :: ((l ++ l₁) ++ l₂) := by
  intro p hp
  simp only [List.mem_append, List.mem_cons] at hp ⊢
  rcases hp with (h | h | h | h | h) | h | h <;> simp [h]
theorem pmY : ∀ p ∈ l₁ ++ l₂, p ∈ (a :: b :: c :: e :: l₁) ++ l₂ := by grind
end
theorem append_hd2 {prog : Program} {w : World} {A : Around} {E : Value → Shared → Prop} {s : Shared} {h₀ : Heap} {L D : Addr} {m : Str → Option Value} {rest : List (Addr × Obj)} {xs : List Value} {n : Nat} {x : Value} {Q : Value → Shared → Prop}
    (F : Fr h₀ L s.heap m) (N : News h₀ L s.heap ((D, listOf xs.toArray n) :: rest)) (hoff : ∀ p ∈ rest, p.1 ≠ D) (hz : xs.length ≤ 10000)
    (h : ∀ h', Fr h₀ L h' m → News h₀ L h' ((D, listOf (xs ++ [x]).toArray (n + 1)) :: rest) → Q .none { s with heap := h' }) : wpAny (model prog w) A (call (.builtin "list.append") [.ref D, x]) Q E s :=
  append_K F N (.head hoff) (fun h' F' N' => h h' F' (by simpa using N')) (by rw [PySem.sizeLine_eq, List.size_toArray]; omega)
theorem TIn.part {w : World} {nb : List (Addr × Obj)} {v : Value} {t : T} (h : TIn w nb v t) :
    (∃ a d x, ∃ t1 t2 t3 t4 t5 : Tok, v = .ref a ∧ t = .sym x ∧ (a, instObj 67 d) ∈ nb ∧ (d, symD w x t1 t2 t3 t4 t5) ∈ nb) ∨
    (∃ a d l b, ∃ t1 t2 t3 t4 t5 t6 : Tok, v = .ref a ∧ (a, instObj 46 d) ∈ nb ∧ (d, vecD w l b t1 t2 t3 t4 t5 t6) ∈ nb) ∨
    (∃ a d li lt, ∃ t1 t2 t3 t4 t5 t6 : Tok, v = .ref a ∧ (a, instObj 89 d) ∈ nb ∧ (d, callD w li lt t1 t2 t3 t4 t5 t6) ∈ nb) := by
  cases h with
  | sym h1 h2 => exact .inl ⟨_, _, _, _, _, _, _, _, rfl, rfl, h1, h2⟩
  | num h1 h2 _ _ => exact .inr (.inl ⟨_, _, _, _, _, _, _, _, _, _, rfl, h1, h2⟩)
  | call h1 h2 _ _ _ _ => exact .inr (.inr ⟨_, _, _, _, _, _, _, _, _, _, rfl, h1, h2⟩)
theorem deeps_snoc {q : Option Int} (hq : ∀ k, q = some k → 0 ≤ k) : ∀ (ts : List T) (t : T), T.deeps q (ts ++ [t]) = max (T.deeps q ts) (t.deep q)
  | [], t => by have := deep_nonneg hq t; simp only [List.nil_append, T.deeps]; omega
  | u :: ts, t => by simp only [List.cons_append, T.deeps, deeps_snoc hq ts t]; omega
theorem deeps_take {q : Option Int} (hq : ∀ k, q = some k → 0 ≤ k) {ts : List T} {i : Nat} {t : T} (h : ts[i]? = some t) : T.deeps q (ts.take (i + 1)) = max (T.deeps q (ts.take i)) (t.deep q) := by
  rw [List.take_add_one, h]; exact deeps_snoc hq _ _
theorem datAll_at {news : List (Addr × Obj)} : ∀ {us : List Value} {ds : List Dat}, DatAll news us ds → ∀ {i : Nat} {d : Dat}, ds[i]? = some d → ∃ u, us[i]? = some u ∧ DatIn news u d
  | _, _, .nil, i, d, e => by simp at e
  | _, _, .cons h r, 0, d, e => by simp at e; subst e; exact ⟨_, rfl, h⟩
  | _, _, .cons h r, i + 1, d, e => by
    simp only [List.getElem?_cons_succ] at e ⊢
    exact datAll_at r e
structure SS where
  is : List Value
  tgs : List Value
  ni : Nat
  nt : Nat
  tl : List (Addr × Obj)
  b : Bool
  p : Option Value
theorem for_rpart {prog : Program} {w : World} {A : Around} {E : Value → Shared → Prop} {s : Shared} {env : Env} {h₀ : Heap} {x : Str} {body : List Stmt} {Q : Flow → Shared → Prop} {σ : Type} {r : Addr} {a₀ b₀ : Int} {t₀ u₀ v₀ : Tok} {n : Nat} {m₀ : Str → Option Value} (y : Str) (get : σ → Option Value) (Led : σ → List (Addr × Obj)) (Inv : Nat → σ → Prop) (σ₀ : σ)
    (hh : A.handled = none) (hr : IsRange s.heap r a₀ b₀ 1 t₀ u₀ v₀) (hsmall : Builtin.Range.small a₀ b₀ 1 = true) (hn : Builtin.Range.rangeSize a₀ b₀ 1 = (n : Int)) (F : Fr h₀ env.locals s.heap m₀) (N : News h₀ env.locals s.heap (Led σ₀)) (hy : m₀ y = get σ₀) (h0 : Inv 0 σ₀)
    (turn : ∀ (i : Nat) t σ I it h tk, i < n → Inv i σ → it.cls = .type "range_iterator" → Fr h₀ env.locals h (fun z => if z = x then some (.int (a₀ + (i : Int)) t) else if z = y then get σ else m₀ z) → News h₀ env.locals h ((I, it) :: Led σ) → (∀ p ∈ Led σ, p.1 ≠ I) →
      wpAny (model prog w) A (execs body env) (fun f s₂ => match f with | .ret v => Q (.ret v) s₂ | .brk => Q .next s₂ | _ => TurnTo h₀ env.locals x Led (fun σ z => if z = y then get σ else m₀ z) (Inv (i + 1)) I it { s with heap := h, toks := tk } s₂) E { s with heap := h, toks := tk })
    (done : ∀ σ (u : Str → Option Value) h tk, Inv n σ → Fr h₀ env.locals h (fun z => if z = x then u z else if z = y then get σ else m₀ z) → News h₀ env.locals h (Led σ) → Q .next { s with heap := h, toks := tk }) :
    wpAny (model prog w) A (pyIter (.ref r)) (fun it s₂ => LoopAtV prog w A h₀ env x body Q E it s₂) E s := by
  refine for_range (σ := σ) Led (fun σ z => if z = y then get σ else m₀ z) Inv σ₀ hh hr hsmall hn F N (fun z _ => ?_) h0 turn done
  by_cases h : z = y
  · subst h; simp [hy]
  · simp [h]
/-- what holds between the laps of the substitution's loop -/
structure SInv (w : World) (Led : Bool → List (Addr × Obj)) (own : List (Addr × Obj)) (it tg : Addr) (q : Option Int) (ts : List T) (i : Nat) (σ : SS) : Prop where
  out : ∃ ts' tags, TsIn w (σ.tl ++ Led σ.b) σ.is ts' ∧ (T.hts ts' : Int) = T.deeps q (ts.take i) ∧ DatAll [] σ.tgs tags ∧ ts'.length = i ∧ tags.length = i
  apart : ∀ p ∈ σ.tl, p.1 ≠ it ∧ p.1 ≠ tg ∧ (∀ q ∈ own, q.1 ≠ p.1) ∧ ∀ b, ∀ q ∈ Led b, q.1 ≠ p.1

theorem subst_calls (w : World) {ov : Value} {to : T} {Led : Bool → List (Addr × Obj)} (S : Sh w ov to Led) (td : Addr) (tobj : Obj) (hmemT : ∀ b, (td, tobj) ∈ Led b) (hdict : tobj.IsDictOf (PySem.strKind PySem.Challenge.rw_pq1393_01.row.prog w) [(Str.ofString "a", ov)]) (hlo : (td == sysModules) = false) (k : Nat) :
    ∀ (t : T), t.ht < k → ∀ (v : Value) (nb own : List (Addr × Obj)) (b : Bool), TIn w nb v t → (∀ b, ∀ p ∈ nb, p ∈ Led b) → t.Ok → t.Lev → (∀ x ∈ t.names, x ≠ Str.ofString "...") → (∀ p ∈ own, ∀ b, ∀ q ∈ Led b, q.1 ≠ p.1) →
    CallsN w 143 [v, .ref td] (own ++ Led b) (2 * t.ht + 12) (fun r news' => ∃ tl b' t', news' = tl ++ (own ++ Led b') ∧ (∀ p ∈ tl, (∀ q ∈ own, q.1 ≠ p.1) ∧ ∀ b, ∀ q ∈ Led b, q.1 ≠ p.1) ∧ TIn w (tl ++ Led b') r t' ∧ (t'.ht : Int) = t.deep (some (to.ht : Int))) := by
  have hq : ∀ k, (some (to.ht : Int)) = some k → 0 ≤ k := by intro k h; cases h; exact Int.natCast_nonneg _
  induction k with
  | zero => intro t h; omega
  | succ k ih =>
    intro t hk v nb own b R hnb hok hlev hnm hoo
    unfold CallsN
    k_fill
    intro p loose mean mg mb dp un gd cn cs a ccd cl outer A₀ base h₀ L m s Q E B F X N Tp hk1 hd hu hret
    k_with_none
    have hmT := hmemT b
    cases R with
    | @sym a d x t1 t2 t3 t4 t5 h1 h2 =>
      have hR : TIn w (Led b) _ (.sym x) := .sym (hnb b _ h1) (hnb b _ h2)
      replace h1 := hnb b _ h1
      replace h2 := hnb b _ h2
      simp only [T.ht] at hd hu hk
      have hx : x ≠ Str.ofString "..." := hnm x (by simp [T.names])
      have hx' : (x != Str.ofString "...") = true := by simpa using hx
      by_cases hxa : x = Str.ofString "a"
      · have hvl : valueAt [(Str.ofString "a", ov)] x = some ov := by simp [valueAt, hxa]
        refine wpAny_call ?_
        k_dflt ktr_enter
        k_with "compareOp In str ref" => k_dflt (refine kda_in (knd := PySem.strKind _ _) (by k_asm) (by k_mem) hdict hlo (strKind_is _ _ _ _) true (by rw [hvl]; rfl) ?_)
        k_with "subscriptTail" => k_dflt (refine kda_item (knd := PySem.strKind _ _) (by k_asm) (by k_mem) hdict (strKind_is _ _ _ _) hvl ?_)
        k_with "call ref" => k_dflt (refine' CallsN.use ?k1 ?k2 ?k3 ?k4 ?k5 ?kK (S.call b own hoo) ?kd ?ku ?_; (case k1 => k_asm); (case k2 => k_asm); (case k3 => k_asm); (case k4 => k_asm); (case k5 => k_asm); (case kK => exact rfl);  (case kd => (simp only [depth_deeper, depth_in1, ktrTop]; clear hx hx' hxa hvl; omega)); (case ku => (simp only [units_deeper, units_in1, ktrTop]; clear hx hx' hxa hvl; omega)); intro r news' h' tk' F' N' hr; obtain ⟨hrr, b', rfl⟩ := hr; subst r; (try k_fold))
        k_steps
        exact hret _ _ _ _ (by assumption) (by assumption) ⟨[], b', to, rfl, (fun _ h => nomatch h), S.tin b', by simp [T.deep, oneDeep, hxa]⟩
      · k_with_none
        refine wpAny_call ?_
        k_dflt ktr_enter
        k_with "compareOp In str ref" => k_dflt (refine kda_in (knd := PySem.strKind _ _) (by k_asm) (by k_mem) hdict hlo (strKind_is _ _ _ _) false (by simp [valueAt, hxa, Ne.symm hxa]) ?_)
        k_steps
        exact hret _ _ _ _ (by assumption) (by assumption) ⟨[], b, .sym x, rfl, (fun _ h => nomatch h), hR, by simp [T.ht, T.deep, oneDeep, hxa]⟩
    | num h1 h2 h3 h4 =>
      k_with_none
      have hR : TIn w (Led b) _ (.num _) := .num (hnb b _ h1) (hnb b _ h2) (hnb b _ h3) (hnb b _ h4)
      replace h1 := hnb b _ h1
      replace h2 := hnb b _ h2
      refine wpAny_call ?_
      k_dflt ktr_enter
      k_steps
      exact hret _ _ _ _ (by assumption) (by assumption) ⟨[], b, .num _, rfl, (fun _ h => nomatch h), hR, by simp [T.ht, T.deep]⟩
    | @call a d li lt vs us ts tags kk j t1 t2 t3 t4 t5 t6 h1 h2 h3 h4 hts htg =>
      have hmem : ∀ t' ∈ ts, t'.ht + 1 ≤ (T.call ts tags).ht := fun t' h => by have := hts_mem h; simp only [T.ht]; omega
      have htl : ts.length ≤ 8 := by simp only [T.Ok] at hok; exact hok.2.1
      have htt : tags.length = ts.length := by simp only [T.Lev] at hlev; exact hlev.1
      k_with_none
      have g1 := hnb b _ h1
      have g2 := hnb b _ h2
      have g3 := hnb b _ h3
      have g4 := hnb b _ h4
      refine wpAny_call ?_
      k_dflt ktr_enter
      k_with "call builtin:len" => k_dflt (refine len_at (n := ts.length) (kso_isList (by k_asm) (by k_mem) rfl) hts.length (by omega) ?_; intro tk9)
      k_with "call type:range" => k_dflt (refine range1_rows (by k_asm) (by k_asm) ?_; intro h' tk' rt ru rv rgX F' N' _; (try dsimp only))
      k_with "newList" => k_dflt (refine newList_K (by k_asm) (by k_asm) ?_; intro tg h' F' N' ltg; (try dsimp only); (have o5 : @LT.lt Nat _ it tg := ltg (it, _) List.mem_cons_self))
      k_with "newList" => k_dflt ((fail_if_success have := it); refine newList_K (by k_asm) (by k_asm) ?_; intro it h' F' N' lit; (try dsimp only); (have o1 : ∀ p ∈ own, @LT.lt Nat _ p.1 it := fun p hp => lit p (List.mem_append_left _ hp)); (have o2 : ∀ b', ∀ p ∈ Led b', @LT.lt Nat _ p.1 it := fun b' p hp => Exists.elim (S.keys b' b p hp) fun q' hq' => by rw [← hq'.2]; exact lit q' (List.mem_append_right _ hq'.1)))
      k_with "pyIter ref" => k_dflt ((rename Fr _ _ _ _ => lF); (rename News _ _ _ _ => lN); refine for_rpart (n := ts.length) (σ := SS) (Str.ofString "part") SS.p (fun σ => (it, listOf σ.is.toArray σ.ni) :: (tg, listOf σ.tgs.toArray σ.nt) :: ((σ.tl ++ own) ++ Led σ.b)) (SInv w Led own it tg (some (to.ht : Int)) ts) ⟨[], [], 0, 0, [], b, none⟩ (by rfl) rgX (small_one (by omega) (by omega) (by omega) (by omega)) (by rw [rangeSize_nat]; omega) lF (lN.perm pm5) (by first | rfl | with_unfolding_all rfl) ⟨⟨[], [], .nil, by simp [T.hts, T.deeps], .nil, rfl, rfl⟩, by simp⟩ (fun i tki σ I itr h' tk' hi hI hit F' N' hoff' => Exists.elim (hts.at (List.getElem?_eq_getElem hi)) fun v1 hv1 => Exists.elim (datAll_at htg (List.getElem?_eq_getElem (show i < tags.length by omega))) fun v2 hv2 => ?_) (fun σ u h' tk' hI F' N' => ?_); all_goals (clear lF lN; dsimp only [envOf] at F' N'; (try dsimp only); (try k_fold); (have e1 := hnb σ.b _ h1; have e2 := hnb σ.b _ h2; have e3 := hnb σ.b _ h3; have e4 := hnb σ.b _ h4)))
      k_with "subscriptTail Name Name ref int" => k_dflt ((have gg := hnb σ.b _ h3); refine item_at (vs := vs) (kso_isList (by k_asm) (by k_mem) rfl) (by omega) (by omega) (by rw [show (0 + (i : Int)).toNat = i by omega]; exact hv1.1) ?_; (have hown : ∀ p ∈ (I, itr) :: (it, listOf σ.is.toArray σ.ni) :: (tg, listOf σ.tgs.toArray σ.nt) :: (σ.tl ++ own), ∀ b, ∀ q ∈ Led b, q.1 ≠ p.1 := (by intro p hp b' q hq; obtain ⟨q', hq', e⟩ := S.keys b' σ.b q hq; rw [← e]; simp only [List.mem_cons, List.mem_append] at hp; rcases hp with rfl | rfl | rfl | hp | hp; exact hoff' q' (List.mem_cons_of_mem _ (List.mem_cons_of_mem _ (List.mem_append_right _ hq'))); exact Nat.ne_of_lt (o2 _ q' hq'); exact Nat.ne_of_lt (Nat.lt_trans (o2 _ q' hq') o5); exact (hI.apart p hp).2.2.2 _ q' hq'; exact hoo p hp _ q' hq')); obtain ⟨ts', tags', hts', hdp, htg', hl1, hl2⟩ := hI.out; rcases TIn.part hv1.2 with ⟨pa, pd, px, s1, s2, s3, s4, s5, rfl, et, g5, g6⟩ | ⟨pa, pd, pl, pb, s1, s2, s3, s4, s5, s6, rfl, g5, g6⟩ | ⟨pa, pd, pi, pt, s1, s2, s3, s4, s5, s6, rfl, g5, g6⟩; (all_goals (have g7 := hnb σ.b _ g5; have g8 := hnb σ.b _ g6)); (focus (have hpx : px ≠ Str.ofString "..." := hnm px (by rw [T.names]; exact namesL_mem (List.getElem_mem hi) px (by rw [et]; simp [T.names])); have hpx' : (px == Str.ofString "...") = false := by simpa using hpx)))
      k_with "subscriptTail Name Name ref int" => k_dflt ((have gg := hnb b1 _ h4); (have gf := hnb b1 _ h2); refine item_at (vs := us) (kso_isList (by k_asm) (by k_mem) rfl) (by omega) (by omega) (by rw [show (0 + (i : Int)).toNat = i by omega]; exact hv2.1) ?_)
      k_with "call ref" => ((have hml := hmem ts[i] (List.getElem_mem hi)); k_dflt (refine' CallsN.use ?k1 ?k2 ?k3 ?k4 ?k5 ?kK (ih ts[i] ?kl _ nb ((I, itr) :: (it, listOf σ.is.toArray σ.ni) :: (tg, listOf σ.tgs.toArray σ.nt) :: (σ.tl ++ own)) σ.b hv1.2 hnb ?ko ?kv ?kn ?kp) ?kd ?ku ?_; (case k1 => k_asm); (case k2 => k_asm); (case k3 => k_asm); (case k4 => k_asm); (case k5 => k_asm); (case kK => exact rfl); (case kl => omega); (case ko => (simp only [T.Ok] at hok; exact oks_mem hok.2.2.2 (List.getElem_mem hi))); (case kv => (simp only [T.Lev] at hlev; exact levs_mem hlev.2.1 (List.getElem_mem hi))); (case kn => exact fun x hx => hnm x (by rw [T.names]; exact namesL_mem (List.getElem_mem hi) x hx)); (case kp => exact hown); (case kd => (simp only [depth_deeper, depth_in1, ktrTop]; omega)); (case ku => (simp only [units_deeper, units_in1, ktrTop]; omega)); intro r news' h' tk' F' N' hr; obtain ⟨tl1, b1, t1, rfl, hap1, hR1, hd1⟩ := hr; (try simp only [List.cons_append] at N'); (have e1 := hnb b1 _ h1; have e2 := hnb b1 _ h2; have e3 := hnb b1 _ h3; have e4 := hnb b1 _ h4); (try k_fold)))
      k_with "call ref" => k_dflt ((show wpAny _ _ (call (Value.ref 89) _ _) _ _ _); refine' call_cls ?k1 ?k2 ?k3 ?k4 ?k5 ?k6 ?_; (case k1 => k_asm); (case k2 => k_asm); (case k3 => k_asm); (case k4 => k_is); (case k5 => k_is); (case k6 => k_is); k_whole; intro c9 dc9 h' F' N' lc9 lc9'; (have lc9n := fun p hp => Nat.ne_of_lt (lc9 p hp)); (replace lc9' := ltN lc9'); k_enter)
      k_with "call builtin:list.append" => k_dflt (refine append_hd2 (D := it) (xs := σ.is) (by k_asm) (N'.perm pm1) (by intro p hp; simp only [List.mem_append, List.mem_cons] at hp; rcases hp with hp | rfl | rfl | (hp | hp) | hp; exact ((hap1 p hp).1 (it, listOf σ.is.toArray σ.ni) (by simp)).symm; exact (hoff' (it, listOf σ.is.toArray σ.ni) (by simp)).symm; exact Nat.ne_of_gt o5; exact (hI.apart p hp).1; exact Nat.ne_of_lt (o1 p hp); exact Nat.ne_of_lt (o2 _ p hp)) (by rw [hts'.length, hl1]; omega) ?_; intro h' F' N')
      k_with "call builtin:list.append" => k_dflt (refine append_hd2 (D := tg) (xs := σ.tgs) (by k_asm) (N'.perm pmB) (by intro p hp; simp only [List.mem_append, List.mem_cons] at hp; rcases hp with rfl | hp | rfl | (hp | hp) | hp; exact Nat.ne_of_lt o5; exact ((hap1 p hp).1 (tg, listOf σ.tgs.toArray σ.nt) (by simp)).symm; exact (hoff' (tg, listOf σ.tgs.toArray σ.nt) (by simp)).symm; exact (hI.apart p hp).2.1; exact Nat.ne_of_lt (Nat.lt_trans (o1 p hp) o5); exact Nat.ne_of_lt (Nat.lt_trans (o2 _ p hp) o5)) (by rw [htg'.length, hl2]; omega) ?_; intro h' F' N')
      k_steps
      rotate_right
      · obtain ⟨ts', tags', hts', hdp, htg', hl1, hl2⟩ := hI.out
        rename News h₀ L _ _ => kN
        have o7 : @LT.lt Nat _ tg dc9 := lc9 (tg, listOf σ.tgs.toArray σ.nt) (by simp)
        have o8 : @LT.lt Nat _ dc9 c9 := lc9'
        refine hret _ _ _ _ (by assumption) (kN.perm pmZ) ⟨(c9, _) :: (dc9, _) :: (it, _) :: (tg, _) :: σ.tl, σ.b, .call ts' tags', rfl, ?_, .call List.mem_cons_self (List.mem_cons_of_mem _ List.mem_cons_self) (List.mem_cons_of_mem _ (List.mem_cons_of_mem _ List.mem_cons_self)) (List.mem_cons_of_mem _ (List.mem_cons_of_mem _ (List.mem_cons_of_mem _ List.mem_cons_self))) (hts'.mono pmY) htg', ?_⟩
        · intro p hp
          simp only [List.mem_cons] at hp
          rcases hp with rfl | rfl | rfl | rfl | hp
          · exact ⟨fun q hq => by have := o1 q hq; exact Nat.ne_of_lt (by omega), fun b q hq => by have := o2 b q hq; exact Nat.ne_of_lt (by omega)⟩
          · exact ⟨fun q hq => by have := o1 q hq; exact Nat.ne_of_lt (by omega), fun b q hq => by have := o2 b q hq; exact Nat.ne_of_lt (by omega)⟩
          · exact ⟨fun q hq => by have := o1 q hq; exact Nat.ne_of_lt (by omega), fun b q hq => by have := o2 b q hq; exact Nat.ne_of_lt (by omega)⟩
          · exact ⟨fun q hq => by have := o1 q hq; exact Nat.ne_of_lt (by omega), fun b q hq => by have := o2 b q hq; exact Nat.ne_of_lt (by omega)⟩
          · exact (hI.apart p hp).2.2
        · rw [List.take_length] at hdp
          simp only [T.ht, T.deep]; omega
      all_goals (refine ⟨⟨σ.is ++ [_], σ.tgs ++ [v2], σ.ni + 1, σ.nt + 1, tl1 ++ σ.tl, b1, some (.ref pa)⟩, _, _, _, rfl, (by assumption), frame_eq (if_pos rfl) (by intro z hz hz'; simp only [if_neg hz, if_neg hz']), N'.perm pmC, ?_, ⟨ts' ++ [t1], tags' ++ [tags[i]], ((S.flags σ.b b1 _ _ _ hts').mono pm8).append (.cons (hR1.mono pm9) .nil), ?_, htg'.append (.one hv2.2), (by rw [List.length_append, hl1]; rfl), (by rw [List.length_append, hl2]; rfl)⟩, ?_⟩)
      all_goals first
        | (intro p hp
           simp only [List.mem_append, List.mem_cons] at hp
           rcases hp with rfl | rfl | ((hp | hp) | hp) | hp
           · exact hoff' (it, listOf σ.is.toArray σ.ni) (by simp)
           · exact hoff' (tg, listOf σ.tgs.toArray σ.nt) (by simp)
           · exact ((hap1 p hp).1 (I, itr) (by simp)).symm
           · exact hoff' p (by simp [hp])
           · exact hoff' p (by simp [hp])
           · obtain ⟨q', hq', e⟩ := S.keys b1 σ.b p hp
             rw [← e]
             exact hoff' q' (by simp [hq']))
        | (rw [hts_snoc, deeps_take hq (List.getElem?_eq_getElem hi), ← hdp, ← hd1]; omega)
        | (intro p hp
           rcases List.mem_append.mp hp with hp | hp
           · exact ⟨((hap1 p hp).1 (it, listOf σ.is.toArray σ.ni) (by simp)).symm, ((hap1 p hp).1 (tg, listOf σ.tgs.toArray σ.nt) (by simp)).symm, fun q hq => (hap1 p hp).1 q (by simp [hq]), (hap1 p hp).2⟩
           · exact hI.apart p hp)
end Mine
namespace Mine
theorem offPQLaws : True := by
  w_top off
  k_with_none
  trivial
open PySem.Spec PySem.Calls
mutual
theorem ht_ren (g : Str → Str) : ∀ t : T, (t.ren g).ht = t.ht
  | .sym _ => by simp [T.ren, T.ht]
  | .num _ => by simp [T.ren, T.ht]
  | .call ts _ => by simp only [T.ren, T.ht, hts_ren g ts]
theorem hts_ren (g : Str → Str) : ∀ ts : List T, T.hts (T.rens g ts) = T.hts ts
  | [] => by simp [T.rens]
  | t :: ts => by simp only [T.rens, T.hts, ht_ren g t, hts_ren g ts]
end
mutual
theorem tags_ren (g : Str → Str) : ∀ t : T, (t.ren g).tagsOf = t.tagsOf
  | .sym _ => by simp [T.ren, T.tagsOf]
  | .num _ => by simp [T.ren, T.tagsOf]
  | .call ts _ => by simp only [T.ren, T.tagsOf, tags_rens g ts]
theorem tags_rens (g : Str → Str) : ∀ ts : List T, T.tagsOfL (T.rens g ts) = T.tagsOfL ts
  | [] => by simp [T.rens]
  | t :: ts => by simp only [T.rens, T.tagsOfL, tags_ren g t, tags_rens g ts]
end
mutual
theorem ren_id : ∀ t : T, t.ren (fun x => x) = t
  | .sym _ => by simp [T.ren]
  | .num _ => by simp [T.ren]
  | .call ts _ => by simp only [T.ren, rens_id ts]
theorem rens_id : ∀ ts : List T, T.rens (fun x => x) ts = ts
  | [] => by simp [T.rens]
  | t :: ts => by simp only [T.rens, ren_id t, rens_id ts]
end
mutual
theorem ren_ren (g h : Str → Str) : ∀ t : T, (t.ren g).ren h = t.ren (fun x => h (g x))
  | .sym _ => by simp [T.ren]
  | .num _ => by simp [T.ren]
  | .call ts _ => by simp only [T.ren, rens_rens g h ts]
theorem rens_rens (g h : Str → Str) : ∀ ts : List T, T.rens h (T.rens g ts) = T.rens (fun x => h (g x)) ts
  | [] => by simp [T.rens]
  | t :: ts => by simp only [T.rens, ren_ren g h t, rens_rens g h ts]
end
theorem rens_length (g : Str → Str) : ∀ ts : List T, (T.rens g ts).length = ts.length
  | [] => by simp [T.rens]
  | t :: ts => by simp only [T.rens, List.length_cons, rens_length g ts]
mutual
theorem ok_ren (g : Str → Str) : ∀ t : T, t.Ok → (t.ren g).Ok
  | .sym _, _ => by simp [T.ren, T.Ok]
  | .num _, _ => by simp [T.ren, T.Ok]
  | .call ts tags, h => by
    simp only [T.ren, T.Ok] at h ⊢
    refine ⟨?_, by rw [rens_length]; exact h.2.1, h.2.2.1, oks_ren g ts h.2.2.2⟩
    intro e
    have := congrArg List.length e
    rw [rens_length] at this
    exact h.1 (List.length_eq_zero_iff.mp this)
theorem oks_ren (g : Str → Str) : ∀ ts : List T, T.Oks ts → T.Oks (T.rens g ts)
  | [], _ => by simp [T.rens, T.Oks]
  | t :: ts, h => by
    simp only [T.rens, T.Oks] at h ⊢
    exact ⟨ok_ren g t h.1, oks_ren g ts h.2⟩
end
mutual
theorem tags_ok : ∀ t : T, t.Lev → ∀ d ∈ t.tagsOf, kqdOk 8 d = true
  | .sym _, _ => by simp [T.tagsOf]
  | .num _, _ => by simp [T.tagsOf]
  | .call ts tags, h => by
    simp only [T.Lev] at h
    intro d hd
    rw [T.tagsOf] at hd
    rcases List.mem_cons.mp hd with rfl | hd
    · simp only [kqdOk, List.all_eq_true]; exact h.2.2
    · exact tagsL_ok ts h.2.1 d hd
theorem tagsL_ok : ∀ ts : List T, T.Levs ts → ∀ d ∈ T.tagsOfL ts, kqdOk 8 d = true
  | [], _ => by simp [T.tagsOfL]
  | t :: ts, h => by
    simp only [T.Levs] at h
    intro d hd
    rw [T.tagsOfL] at hd
    exact (List.mem_append.mp hd).elim (tags_ok t h.1 d) (tagsL_ok ts h.2 d)
end
abbrev g1 (x : Str) : Str := x ++ Str.ofString "1"
abbrev g2 (x : Str) : Str := x ++ Str.ofString "22"
abbrev g3 (x : Str) : Str := x ++ Str.ofString "122"
theorem g12 (t : T) : (t.ren g1).ren g2 = t.ren g3 := by
  rw [ren_ren]
  have : (fun x => g2 (g1 x)) = g3 := by
    funext x
    exact (Str.append_assoc x (Str.ofString "1") (Str.ofString "22")).trans (congrArg (x ++ ·) (by decide +kernel))
  rw [this]
theorem TIn.ref {w : World} {news : List (Addr × Obj)} {v : Value} {t : T} (h : TIn w news v t) : ∃ a, v = .ref a := by cases h <;> exact ⟨_, rfl⟩
theorem good_ok {d : Nat} {t : T} (h : Good d t) : ∀ d ∈ t.names.map Dat.str, kqdOk 8 d = true := by
  intro d hd
  obtain ⟨x, hx, rfl⟩ := List.mem_map.mp hd
  rcases h.names x hx with h | h | h | h | h <;> rw [h] <;> decide +kernel
theorem good_ok1 {d : Nat} {t : T} (h : Good d t) : ∀ d ∈ (t.ren g1).names.map Dat.str, kqdOk 8 d = true := by
  intro d hd
  obtain ⟨x, hx, rfl⟩ := List.mem_map.mp hd
  rw [names_ren] at hx
  obtain ⟨y, hy, rfl⟩ := List.mem_map.mp hx
  rcases h.names y hy with h | h | h | h | h <;> rw [h] <;> decide +kernel
theorem good_ne {d : Nat} {t : T} (h : Good d t) : ∀ x ∈ t.names, x ≠ Str.ofString "" := by
  intro x hx
  rcases h.names x hx with h | h | h | h | h <;> rw [h] <;> decide
theorem good_ne1 {d : Nat} {t : T} (h : Good d t) : ∀ x ∈ (t.ren g1).names, x ≠ Str.ofString "" := by
  intro x hx
  rw [names_ren] at hx
  obtain ⟨y, hy, rfl⟩ := List.mem_map.mp hx
  rcases h.names y hy with h | h | h | h | h <;> rw [h] <;> decide
theorem good_dots {d : Nat} {t : T} (h : Good d t) : ∀ x ∈ t.names, x ≠ Str.ofString "..." := by
  intro x hx
  rcases h.names x hx with h | h | h | h | h <;> rw [h] <;> decide
theorem good_len {d : Nat} {t : T} (h : Good d t) : ∀ x ∈ t.names, x.length ≤ 50 := by
  intro x hx
  rcases h.names x hx with h | h | h | h | h <;> rw [h] <;> decide
theorem len_id {d : Nat} {t : T} (h : Good d t) : ∀ x ∈ t.names, x.length ≤ 100 ∧ ((fun x : Str => x) x).length ≤ 100 := fun x hx => by
  have := good_len h x hx
  exact ⟨by omega, by show x.length ≤ 100; omega⟩
theorem len_g {d : Nat} {t : T} (h : Good d t) (s : Str) (hs : s.length ≤ 3) : ∀ x ∈ t.names, x.length ≤ 100 ∧ (x ++ s).length ≤ 100 := fun x hx => by
  have := good_len h x hx
  exact ⟨by omega, by have h8 : (x ++ s).length = x.length + s.length := Str.length_append _ _; omega⟩
theorem len_g12 {d : Nat} {t : T} (h : Good d t) : ∀ x ∈ (t.ren g1).names, x.length ≤ 100 ∧ (g2 x).length ≤ 100 := fun x hx => by
  rw [names_ren] at hx
  obtain ⟨y, hy, rfl⟩ := List.mem_map.mp hx
  have := good_len h y hy
  have h1 : (g1 y).length = y.length + 1 := (Str.length_append y (Str.ofString "1")).trans rfl
  have h2 : (g2 (g1 y)).length = (g1 y).length + 2 := (Str.length_append (g1 y) (Str.ofString "22")).trans rfl
  exact ⟨by omega, by omega⟩
theorem g1_names (t : T) : (t.ren g1).names.map Dat.str = t.names.map fun x => Dat.str (x ++ Str.ofString "1") := by
  rw [names_ren, List.map_map]; rfl
end Mine
namespace Mine
theorem offPQMain : True := by
  w_top off
  k_with_none
  trivial
open PySem.Spec PySem.Calls
local macro_rules | `(tactic| k_room) => `(tactic| ((simp only [depth_under_make, depth_under_kw, depth_in1, depth_deeper, depth_caller, ktrTop, recursionLimit]); omega))
local macro_rules | `(tactic| ktr_enter) => `(tactic| first
  | (refine' code_def ?k1 ?k2 ?k3 ?k4 ?k5 ?kA ?kF ?kK ?k6 ?k7 ?k8 ?k9 ?kB ?_ ?c2 ?c3 ?c4 ?c5; (case kA => exact rfl); (case kF => exact rfl); (case kK => assumption); (case k1 => k_asm); (case k2 => k_asm); (case k3 => k_asm); (case k4 => k_asm); (case k5 => k_asm); (case k6 => k_is); (case k7 => k_is); (case k8 => k_room); (case k9 => first | exact BindsTo.of_eq rfl | exact binds_K (by k_in) rfl (by k_is) rfl rfl rfl); (case c5 => decide); (case kB => exact locs rfl); (case c2 => exact rfl); (case c3 => exact rfl); (case c4 => exact rfl); k_whole; intro g' L' h' FG' F' N' B' X' T'; (try dsimp only); (try k_fold))
  | (refine' code_defC ?k1 ?k2 ?k3 ?k4 ?k5 ?kA ?kF ?kK ?k6 ?k7 ?k8 ?k9 ?kB ?kD ?_ ?c2 ?c3 ?c4; (case kA => exact rfl); (case kF => exact rfl); (case kK => assumption); (case k1 => k_asm); (case k2 => k_asm); (case k3 => k_asm); (case k4 => k_asm); (case k5 => k_asm); (case k6 => k_is); (case k7 => k_is); (case k8 => k_room); (case k9 => first | exact BindsTo.of_eq rfl | exact binds_K (by k_in) rfl (by k_is) rfl rfl rfl); (case kB => exact rfl); (case kD => decide +kernel); (case c2 => exact rfl); (case c3 => exact rfl); (case c4 => exact rfl); k_whole; intro g' L' h' tk' cells' FG' F' N' Y' B' X' T' l1; (try k_lt l1); k_cells Y'; (try simp only [List.cons_append, List.nil_append] at N'); (try dsimp only); (try k_fold)))
local macro_rules | `(tactic| k_mem) => `(tactic| first | with_reducible assumption | exact List.mem_cons_self | (refine List.mem_cons_of_mem _ ?_; k_mem) | (refine List.mem_append_left _ ?_; k_mem) | (refine List.mem_append_right _ ?_; k_mem))
local macro_rules | `(tactic| walk_at $s:str) => `(tactic| k_extra $s)
local macro_rules | `(tactic| k_all) => `(tactic| assumption)

open Classical in
theorem ne_same {prog : Program} {w : World} {A : Around} {E : Value → Shared → Prop} {s : Shared} {Q : Value → Shared → Prop} {h₀ : Heap} {L a b : Addr} {news n₁ n₂ : List (Addr × Obj)} {oa ob : Obj} {xs ys : List Value} {ka kb : Nat} {ds : List Dat} (N : News h₀ L s.heap news) (Da : DatAll n₁ xs ds) (Db : DatAll n₂ ys ds) (ha : ∀ d ∈ ds, kqdOk 8 d = true) (ma : (a, oa) ∈ news) (ca : oa.cls = .type "list") (da : oa.data = .seq xs.toArray ka) (sa : ∀ p ∈ n₁, p ∈ news)
    (mb : (b, ob) ∈ news) (cb : ob.cls = .type "list") (db : ob.data = .seq ys.toArray kb) (sb : ∀ p ∈ n₂, p ∈ news) (hu : A.units + 64 < cLine) (h : Q (.bool false) s) : wpAny (model prog w) A (compareOp .NotEq (.ref a) (.ref b)) Q E s :=
  kqd_ne N ma ca da Da sa mb cb db Db sb ha ha hu (by simpa using h)
open Classical in
theorem eq_same {prog : Program} {w : World} {A : Around} {E : Value → Shared → Prop} {s : Shared} {Q : Value → Shared → Prop} {h₀ : Heap} {L a b : Addr} {news n₁ n₂ : List (Addr × Obj)} {oa ob : Obj} {xs ys : List Value} {ka kb : Nat} {ds : List Dat} (N : News h₀ L s.heap news) (Da : DatAll n₁ xs ds) (Db : DatAll n₂ ys ds) (ha : ∀ d ∈ ds, kqdOk 8 d = true) (ma : (a, oa) ∈ news) (ca : oa.cls = .type "list") (da : oa.data = .seq xs.toArray ka) (sa : ∀ p ∈ n₁, p ∈ news)
    (mb : (b, ob) ∈ news) (cb : ob.cls = .type "list") (db : ob.data = .seq ys.toArray kb) (sb : ∀ p ∈ n₂, p ∈ news) (hu : A.units + 64 < cLine) (h : Q (.bool true) s) : wpAny (model prog w) A (compareOp .Eq (.ref a) (.ref b)) Q E s :=
  kqd_eq N ma ca da Da sa mb cb db Db sb ha ha hu (by simpa using h)
theorem fresh {news : List (Addr × Obj)} {td : Addr} (h : ∀ p ∈ news, p.1 < td) : ∀ p ∈ news, p.1 ≠ td := fun p hp => Nat.ne_of_lt (h p hp)
local macro_rules | `(tactic| ke_room) => `(tactic| (have hcL9 := cLine_is; (simp only [units_deeper, units_in1, units_caller, ktrTop]); omega))
theorem ints_rev : ∀ {vs : List Value} {ns : List Int}, IntsAre vs ns → IntsAre vs.reverse ns.reverse
  | _, _, .nil => .nil
  | _, _, .cons _ _ h => by
    rw [List.reverse_cons, List.reverse_cons]
    exact (ints_rev h).append (.cons _ _ .nil)
theorem rev_salt {ws : List Value} {ns : List Int} (h : IntsAre ws (List.take 70 ns)) : ∃ zs ns', ws.toArray.toList.reverse = zs ∧ IntsAre zs ns' ∧ zs.length ≤ 100 ∧ ws.toArray.toList.length ≤ 100 := by
  have h1 := h.length
  rw [List.length_take] at h1
  exact ⟨_, _, rfl, ints_rev h, by rw [List.length_reverse]; show ws.length ≤ 100; omega, by show ws.length ≤ 100; omega⟩
section
variable {h₀ h : Heap} {L : Addr} {a b : Addr × Obj} {l l₁ l₂ : List (Addr × Obj)}
theorem news_one (N : News h₀ L h (a :: l)) : News h₀ L h [a] := N.perm (by intro p hp; rw [List.mem_singleton.mp hp]; exact List.mem_cons_self)
theorem news_drop (N : News h₀ L h (l ++ (l₁ ++ l₂))) : News h₀ L h (l ++ l₁) := N.perm (by intro p hp; exact (List.mem_append.mp hp).elim (fun h => List.mem_append_left _ h) (fun h => List.mem_append_right _ (List.mem_append_left _ h)))
theorem news_skip (N : News h₀ L h (a :: b :: l)) : News h₀ L h (a :: l) := N.perm (by intro p hp; simp only [List.mem_cons] at hp ⊢; rcases hp with hp | hp <;> simp [hp])
end

mutual
theorem deep_le (q : Option Int) (b : Int) (hb : ∀ k, q = some k → k ≤ b) : ∀ t : T, t.deep q ≤ max b 0 + t.ht
  | .sym x => by
    rw [T.deep, T.ht]; unfold oneDeep
    cases q with
    | none => dsimp only; omega
    | some k => have := hb k rfl; dsimp only; split <;> omega
  | .num _ => by rw [T.deep]; omega
  | .call ts _ => by have := deeps_le q b hb ts; rw [T.deep, T.ht]; omega
theorem deeps_le (q : Option Int) (b : Int) (hb : ∀ k, q = some k → k ≤ b) : ∀ ts : List T, T.deeps q ts ≤ max b 0 + T.hts ts
  | [] => by rw [T.deeps]; omega
  | t :: ts => by have := deep_le q b hb t; have := deeps_le q b hb ts; rw [T.deeps, T.hts]; omega
end
theorem deep_le6 {te to : T} (h : te.ht ≤ 3) (k : to.ht ≤ 3) : te.deep (some (to.ht : Int)) ≤ 6 := by
  have := deep_le (some (to.ht : Int)) 3 (by intro k h; cases h; omega) te
  omega
mutual
theorem deep_none : ∀ t : T, t.deep none = (t.ht : Int)
  | .sym x => by simp [T.deep, T.ht, oneDeep]
  | .num _ => by simp [T.deep, T.ht]
  | .call ts _ => by rw [T.deep, T.ht, deeps_none ts]; omega
theorem deeps_none : ∀ ts : List T, T.deeps none ts = (T.hts ts : Int)
  | [] => by simp [T.deeps, T.hts]
  | t :: ts => by rw [T.deeps, T.hts, deep_none t, deeps_none ts]; omega
end
theorem str_at : ∀ {ys : List Value} {xs : List Str}, DatAll [] ys (xs.map Dat.str) → ∀ {i : Nat} {v : Value}, ys[i]? = some v → ∃ x, xs[i]? = some x ∧ ∃ t, v = .str x t
  | [], [], _, i, v, e => by simp at e
  | [], _ :: _, h, _, _, _ => by cases h
  | _ :: _, [], h, _, _, _ => by cases h
  | y :: ys, x :: xs, h, i, v, e => by
    rw [List.map_cons] at h
    cases h with
    | cons h r =>
      cases i with
      | zero =>
        simp at e; subst e
        cases h
        exact ⟨x, rfl, _, rfl⟩
      | succ i => simp only [List.getElem?_cons_succ] at e ⊢; exact str_at r e
theorem pqMain : PySem.Challenge.rw_pq1393_01.Holds := pqTop (by
  w_strict (
    k_go0
    (all_goals try k_fold)
    k_with_none
    k_with "call builtin:list.reverse" => k_dflt ((rename IntsAre _ (List.take 70 _) => hIt); obtain ⟨zs, ns0, hzs, hz, hb, hb0⟩ := rev_salt hIt; refine kl_reverse (l := zs) (by k_asm) (by k_asm) hzs (.head (by intro p hp; rw [List.mem_singleton.mp hp]; exact Nat.ne_of_lt (by assumption))) (by rw [PySem.sizeLine_eq]; omega) ?_; intro h' F' N'; replace N' := news_one N')
    k_with "call ref" => k_dflt (refine' CallsN.use ?k1 ?k2 ?k3 ?k4 ?k5 ?kK (grown_calls _ 2 2 rfl _ tlE [] ?kp (List.forall_mem_nil _) zs1 ns1 n1 hz1 hb1 _) ?kd ?ku ?_; (case k1 => k_asm); (case k2 => k_asm); (case k3 => k_asm); (case k4 => k_asm); (case k5 => k_asm); (case kK => exact rfl); (case kp => exact fun p hp => (hapE p hp _ List.mem_cons_self).symm); (case kd => ((try simp only [depth_deeper, depth_in1, ktrTop, depth_caller, units_deeper, units_in1, units_caller, T.ht, T.hts, ht_ren]); omega)); (case ku => ((try simp only [depth_deeper, depth_in1, ktrTop, depth_caller, units_deeper, units_in1, units_caller, T.ht, T.hts, ht_ren]); omega)); intro r news' h' tk' F' N' hr; obtain ⟨to, tlO, zs2, ns2, n2, hgO, hRO, hapO, hz2, hb2, rfl⟩ := hr; (have hOh := hgO.ht); obtain ⟨oa, rfl⟩ := hRO.ref; (replace N' := news_drop N'); (try k_fold))
    k_with "call ref" => k_dflt (refine' CallsN.use ?k1 ?k2 ?k3 ?k4 ?k5 ?kK (grown_calls _ 3 3 rfl _ [] [] (List.forall_mem_nil _) (List.forall_mem_nil _) zs ns0 _ hz hb _) ?kd ?ku ?_; (case k1 => k_asm); (case k2 => k_asm); (case k3 => k_asm); (case k4 => exact N'); (case k5 => k_asm); (case kK => exact rfl);  (case kd => ((try simp only [depth_deeper, depth_in1, ktrTop, depth_caller, units_deeper, units_in1, units_caller, T.ht, T.hts, ht_ren]); omega)); (case ku => ((try simp only [depth_deeper, depth_in1, ktrTop, depth_caller, units_deeper, units_in1, units_caller, T.ht, T.hts, ht_ren]); omega)); intro r news' h' tk' F' N' hr; obtain ⟨te, tlE, zs1, ns1, n1, hgE, hRE, hapE, hz1, hb1, rfl⟩ := hr; (have hEh := hgE.ht); obtain ⟨ea, rfl⟩ := hRE.ref; (try simp only [List.nil_append] at N' hapE); (try k_fold))
    k_with "call ref" => ((fail_if_success (first | have gg9 := hysE | fail)); k_dflt (refine' CallsN.use ?k1 ?k2 ?k3 ?k4 ?k5 ?kK (all_names_calls _ (hRE.mono ?kR) ?kn ?ks) ?kd ?ku ?_; (case k1 => k_asm); (case k2 => k_asm); (case k3 => k_asm); (case k4 => k_asm); (case k5 => k_asm); (case kK => exact rfl); (case kR => (intro p hp; k_mem)); (case kn => exact good_ne hgE); (case ks => exact Nat.le_trans hgE.few (by decide)); (case kd => ((try simp only [depth_deeper, depth_in1, ktrTop, depth_caller, units_deeper, units_in1, units_caller, T.ht, T.hts, ht_ren]); omega)); (case ku => ((try simp only [depth_deeper, depth_in1, ktrTop, depth_caller, units_deeper, units_in1, units_caller, T.ht, T.hts, ht_ren]); omega)); intro r news' h' tk' F' N' hr; obtain ⟨fa, ysE, nE, rfl, hysE, hlt, rfl⟩ := hr; (try k_fold)))
    k_with "call type:list" => ((fail_if_success (first | have gg9 := hgd | fail)); k_dflt ((have hyy := hysE); refine list_copyK (items := ysE.toArray) (by k_asm) (by k_asm) (kso_isList (by k_asm) (by k_mem) rfl) ?_ (by rw [PySem.sizeLine_eq]; simp only [List.size_toArray]; have h9 := hysE.length; have h8 := hgE.few; rw [List.length_map] at h9; omega); intro na c9 h' F' N' lna; (replace N' := news_skip N')))
    k_with "call ref" => ((fail_if_success (first | have gg9 := hgd | fail)); k_dflt (refine' CallsN.use ?k1 ?k2 ?k3 ?k4 ?k5 ?kK (tags_calls _ _ te (Nat.lt_succ_self _) _ _ (hRE.mono ?kR) hgE.ok ?ks) ?kd ?ku ?_; (case k1 => k_asm); (case k2 => k_asm); (case k3 => k_asm); (case k4 => k_asm); (case k5 => k_asm); (case kK => exact rfl); (case kR => (intro p hp; k_mem)); (case ks => exact Nat.le_trans hgE.fewT (by decide)); (case kd => ((try simp only [depth_deeper, depth_in1, ktrTop, depth_caller, units_deeper, units_in1, units_caller, T.ht, T.hts, ht_ren]); omega)); (case ku => ((try simp only [depth_deeper, depth_in1, ktrTop, depth_caller, units_deeper, units_in1, units_caller, T.ht, T.hts, ht_ren]); omega)); intro r news' h' tk' F' N' hr; obtain ⟨ga, gys, gn, tlG, rfl, rfl, hgm, hgd, hgo⟩ := hr; (try k_fold)))
    k_with "call ref" => k_dflt (refine' CallsV.use ?k1 ?k2 ?k3 ?k4 ?k5 ?kK (depth_calls _ _ te (Nat.lt_succ_self _) _ _ (hRE.mono ?kR)) ?kd ?ku ?_; (case k1 => k_asm); (case k2 => k_asm); (case k3 => k_asm); (case k4 => k_asm); (case k5 => k_asm); (case kK => exact rfl); (case kR => (intro p hp; k_mem)); (case kd => ((try simp only [depth_deeper, depth_in1, ktrTop, depth_caller, units_deeper, units_in1, units_caller, T.ht, T.hts, ht_ren]); omega)); (case ku => ((try simp only [depth_deeper, depth_in1, ktrTop, depth_caller, units_deeper, units_in1, units_caller, T.ht, T.hts, ht_ren]); omega)); intro r h' tk' F' N' hr; obtain ⟨tk9, rfl⟩ := hr; (try k_fold))
    k_with "call ref" => k_dflt (refine' CallsV.use ?k1 ?k2 ?k3 ?k4 ?k5 ?kK (depth_calls _ _ to (Nat.lt_succ_self _) _ _ (hRO.mono ?kR)) ?kd ?ku ?_; (case k1 => k_asm); (case k2 => k_asm); (case k3 => k_asm); (case k4 => k_asm); (case k5 => k_asm); (case kK => exact rfl); (case kR => (intro p hp; k_mem)); (case kd => ((try simp only [depth_deeper, depth_in1, ktrTop, depth_caller, units_deeper, units_in1, units_caller, T.ht, T.hts, ht_ren]); omega)); (case ku => ((try simp only [depth_deeper, depth_in1, ktrTop, depth_caller, units_deeper, units_in1, units_caller, T.ht, T.hts, ht_ren]); omega)); intro r h' tk' F' N' hr; obtain ⟨tk9, rfl⟩ := hr; (try k_fold))
    k_with "call ref" => k_dflt (refine' CallsV.use ?k1 ?k2 ?k3 ?k4 ?k5 ?kK (deep_calls _ none (fun k h => nomatch h) _ te (Nat.lt_succ_self _) _ _ _ [] _ (hRE.mono ?kR) hgE.ok ?km (by assumption) (by assumption) (.inl ⟨rfl, rfl⟩)) ?kd ?ku ?_; (case k1 => k_asm); (case k2 => k_asm); (case k3 => k_asm); (case k4 => k_asm); (case k5 => k_asm); (case kK => exact rfl); (case kR => (intro p hp; k_mem)); (case km => k_mem); (case kd => ((try simp only [depth_deeper, depth_in1, ktrTop, depth_caller, units_deeper, units_in1, units_caller, T.ht, T.hts, ht_ren]); omega)); (case ku => ((try simp only [depth_deeper, depth_in1, ktrTop, depth_caller, units_deeper, units_in1, units_caller, T.ht, T.hts, ht_ren]); omega)); intro r h' tk' F' N' hr; obtain ⟨tk9, rfl⟩ := hr; rw [deep_none te]; (try k_fold))
    k_with "call ref" => k_dflt (refine' CallsN.use ?k1 ?k2 ?k3 ?k4 ?k5 ?kK (callof_calls _ (nb := tlO ++ tlE) ?kh (hRE.mono fun p hp => List.mem_append_right _ hp) (hRO.mono fun p hp => List.mem_append_left _ hp) ?kb) ?kd ?ku ?_; (case k1 => k_asm); (case k2 => k_asm); (case k3 => k_asm); (case k4 => k_asm); (case k5 => k_asm); (case kK => exact rfl); (case kh => k_mem); (case kb => (intro p hp; rcases List.mem_append.mp hp with hp | hp <;> k_mem)); (case kd => ((try simp only [depth_deeper, depth_in1, ktrTop, depth_caller, units_deeper, units_in1, units_caller, T.ht, T.hts, ht_ren]); omega)); (case ku => ((try simp only [depth_deeper, depth_in1, ktrTop, depth_caller, units_deeper, units_in1, units_caller, T.ht, T.hts, ht_ren]); omega)); intro r news' h' tk' F' N' hr; obtain ⟨tl9, rfl, hC⟩ := hr; (try k_fold))
    k_with "call ref" => k_dflt (refine' CallsV.use ?k1 ?k2 ?k3 ?k4 ?k5 ?kK (depth_exp _ (ts := []) (vs := []) ?ka ?kb ?kc .nil) ?kd ?ku ?_; (case k1 => k_asm); (case k2 => k_asm); (case k3 => k_asm); (case k4 => k_asm); (case k5 => k_asm); (case kK => exact rfl); (case ka => k_mem); (case kb => k_mem); (case kc => k_mem); (case kd => ((try simp only [depth_deeper, depth_in1, ktrTop, depth_caller, units_deeper, units_in1, units_caller, T.ht, T.hts, ht_ren]); omega)); (case ku => ((try simp only [depth_deeper, depth_in1, ktrTop, depth_caller, units_deeper, units_in1, units_caller, T.ht, T.hts, ht_ren]); omega)); intro r h' tk' F' N' hr; obtain ⟨tk9, rfl⟩ := hr; simp only [T.hts]; (try k_fold))
    k_with "call ref" => k_dflt (refine' CallsV.use ?k1 ?k2 ?k3 ?k4 ?k5 ?kK (depth_exp _ (ts := [te, to]) ?ka ?kb ?kc ?ke) ?kd ?ku ?_; (case k1 => k_asm); (case k2 => k_asm); (case k3 => k_asm); (case k4 => k_asm); (case k5 => k_asm); (case kK => exact rfl); (case ka => k_mem); (case kb => k_mem); (case kc => k_mem); (case ke => exact .cons (hRE.mono (by intro p hp; k_mem)) (.cons (hRO.mono (by intro p hp; k_mem)) .nil)); (case kd => ((try simp only [depth_deeper, depth_in1, ktrTop, depth_caller, units_deeper, units_in1, units_caller, T.ht, T.hts, ht_ren]); omega)); (case ku => ((try simp only [depth_deeper, depth_in1, ktrTop, depth_caller, units_deeper, units_in1, units_caller, T.ht, T.hts, ht_ren]); omega)); intro r h' tk' F' N' hr; obtain ⟨tk9, rfl⟩ := hr; simp only [T.hts]; (try k_fold))
    k_with "call ref" => k_dflt (refine' CallsV.use ?k1 ?k2 ?k3 ?k4 ?k5 ?kK (depth_calls _ _ _ (Nat.lt_succ_self _) _ _ hC) ?kd ?ku ?_; (case k1 => k_asm); (case k2 => k_asm); (case k3 => k_asm); (case k4 => k_asm); (case k5 => k_asm); (case kK => exact rfl);  (case kd => ((try simp only [depth_deeper, depth_in1, ktrTop, depth_caller, units_deeper, units_in1, units_caller, T.ht, T.hts, ht_ren]); omega)); (case ku => ((try simp only [depth_deeper, depth_in1, ktrTop, depth_caller, units_deeper, units_in1, units_caller, T.ht, T.hts, ht_ren]); omega)); intro r h' tk' F' N' hr; obtain ⟨tk9, rfl⟩ := hr; simp only [T.ht, T.hts]; (try k_fold))
    k_with "call ref" => k_dflt ((show wpAny _ _ (call (Value.ref 143) _) _ _ _); (rename News _ _ _ _ => lN); (have hLL := Sh.of lN hRO (by intro p hp; k_mem)); obtain ⟨Led, b0, hS, hsub, hkeep⟩ := hLL; (rename (_ == sysModules) = false => hlo); (rename Obj.IsDictOf _ _ _ => hdic); refine' CallsN.use ?k1 ?k2 ?k3 ?k4 ?k5 ?kK (subst_calls _ hS _ _ ?km hdic hlo _ te (Nat.lt_succ_self _) _ tlE [] b0 hRE ?ke hgE.ok hgE.lev (good_dots hgE) (List.forall_mem_nil _)) ?kd ?ku ?_; (case k1 => k_asm); (case k2 => k_asm); (case k3 => k_asm); (case k4 => exact lN.perm hsub); (case k5 => k_asm); (case kK => exact rfl); (case km => exact fun b => hkeep b _ (by k_mem) (fun q hq => Ne.symm (by first | exact fresh (by assumption) q (by k_mem) | (rename (_ ∧ _ ∧ _ ∧ _ ∧ _ ∧ _ ∧ AllLt _ _) => hl0; exact lt_apart hl0.2.2.2.2.2.2 q (by k_mem))))); (case ke => exact fun b p hp => hkeep b p (by k_mem) (fun q hq => hapO q hq p (List.mem_append_left _ hp))); (case kd => ((try simp only [depth_deeper, depth_in1, ktrTop, depth_caller, units_deeper, units_in1, units_caller, T.ht, T.hts, ht_ren]); omega)); (case ku => ((try simp only [depth_deeper, depth_in1, ktrTop, depth_caller, units_deeper, units_in1, units_caller, T.ht, T.hts, ht_ren]); omega)); intro r news' h' tk' F' N' hr; obtain ⟨tlS, b', tS, rfl, hapS, hRS, hdS⟩ := hr; (simp only [List.nil_append] at N'); (have hE' : ∀ p ∈ tlE, p ∈ Led b' := fun p hp => hkeep b' p (by k_mem) (fun q hq => hapO q hq p (List.mem_append_left _ hp))); (have hna' : (na, listOf ysE.toArray c9) ∈ Led b' := hkeep b' _ (by k_mem) (fun q hq => Nat.ne_of_gt (lna q (by k_mem)))); (have hG' : ∀ p ∈ tlG, p ∈ Led b' := fun p hp => hkeep b' p (by k_mem) (fun q hq => Nat.ne_of_gt (hgo p hp q (by k_mem)))); (have hSh : (tS.ht : Int) ≤ 6 := by rw [hdS]; exact deep_le6 hEh (by omega)); (try k_fold))
    k_with "call ref" => ((first | have gg9 := hdS | fail); k_dflt (refine' CallsV.use ?k1 ?k2 ?k3 ?k4 ?k5 ?kK (depth_calls _ _ tS (Nat.lt_succ_self _) _ _ hRS) ?kd ?ku ?_; (case k1 => k_asm); (case k2 => k_asm); (case k3 => k_asm); (case k4 => k_asm); (case k5 => k_asm); (case kK => exact rfl);  (case kd => ((try simp only [depth_deeper, depth_in1, ktrTop, depth_caller, units_deeper, units_in1, units_caller, T.ht, T.hts, ht_ren]); omega)); (case ku => ((try simp only [depth_deeper, depth_in1, ktrTop, depth_caller, units_deeper, units_in1, units_caller, T.ht, T.hts, ht_ren]); omega)); intro r h' tk' F' N' hr; obtain ⟨tk9, rfl⟩ := hr; rw [hdS]; (try k_fold)))
    k_with "call ref" => ((first | have gg9 := hdS | fail); k_dflt (refine' CallsV.use ?k1 ?k2 ?k3 ?k4 ?k5 ?kK (depth_calls _ _ to (Nat.lt_succ_self _) _ _ ((hS.tin b').mono ?kR)) ?kd ?ku ?_; (case k1 => k_asm); (case k2 => k_asm); (case k3 => k_asm); (case k4 => k_asm); (case k5 => k_asm); (case kK => exact rfl); (case kR => (intro p hp; k_mem)); (case kd => ((try simp only [depth_deeper, depth_in1, ktrTop, depth_caller, units_deeper, units_in1, units_caller, T.ht, T.hts, ht_ren]); omega)); (case ku => ((try simp only [depth_deeper, depth_in1, ktrTop, depth_caller, units_deeper, units_in1, units_caller, T.ht, T.hts, ht_ren]); omega)); intro r h' tk' F' N' hr; obtain ⟨tk9, rfl⟩ := hr; (try k_fold)))
    k_with "call ref" => ((first | have gg9 := hdS | fail); ((rename (_ == sysModules) = false => hlo2); (rename Obj.IsDictOf _ _ _ => hdic2); k_dflt (refine' CallsV.use ?k1 ?k2 ?k3 ?k4 ?k5 ?kK (deep_calls _ (some (to.ht : Int)) (by intro k h; cases h; exact Int.natCast_nonneg _) _ te (Nat.lt_succ_self _) _ _ _ _ _ (hRE.mono ?kR) hgE.ok ?km hdic2 hlo2 (.inr ⟨_, _, rfl, rfl⟩)) ?kd ?ku ?_; (case k1 => k_asm); (case k2 => k_asm); (case k3 => k_asm); (case k4 => k_asm); (case k5 => k_asm); (case kK => exact rfl); (case kR => (intro p hp; have hp := hE' p hp; k_mem)); (case km => k_mem); (case kd => ((try simp only [depth_deeper, depth_in1, ktrTop, depth_caller, units_deeper, units_in1, units_caller, T.ht, T.hts, ht_ren]); omega)); (case ku => ((try simp only [depth_deeper, depth_in1, ktrTop, depth_caller, units_deeper, units_in1, units_caller, T.ht, T.hts, ht_ren]); omega)); intro r h' tk' F' N' hr; obtain ⟨tk9, rfl⟩ := hr; (try k_fold))))
    k_with "call ref" => ((first | have gg9 := hE' | fail); ((fail_if_success (first | have gg9 := hM1 | fail)); k_dflt ((rename News _ _ _ _ => lN); (have lN2 := News.perm (news' := tlG ++ (na, listOf ysE.toArray c9) :: tlE) lN (by (intro p hp; simp only [List.mem_append, List.mem_cons] at hp; rcases hp with hp | rfl | hp; (first | k_mem | (have hp2 := hG' p hp; k_mem)); (first | k_mem | (have hp2 := hna'; k_mem)); (first | k_mem | (have hp2 := hE' p hp; k_mem))))); refine' CallsN.use ?k1 ?k2 ?k3 ?k4 ?k5 ?kK (map_calls _ 209 (fun x => x) ?hk (leaf_same _) _ te (Nat.lt_succ_self _) _ (tlE) (tlG ++ (na, listOf ysE.toArray c9) :: tlE) hRE ?ks hgE.ok (len_id hgE)) ?kd ?ku ?_; (case k1 => k_asm); (case k2 => k_asm); (case k3 => k_asm); (case k4 => exact lN2); (case k5 => k_asm); (case kK => exact rfl); (case hk => first | k_is | rfl); (case ks => (intro p hp; first | k_mem | (rcases List.mem_append.mp hp with hp | hp <;> k_mem))); (case kd => ((try simp only [depth_deeper, depth_in1, ktrTop, depth_caller, units_deeper, units_in1, units_caller, T.ht, T.hts, ht_ren]); omega)); (case ku => ((try simp only [depth_deeper, depth_in1, ktrTop, depth_caller, units_deeper, units_in1, units_caller, T.ht, T.hts, ht_ren]); omega)); intro r news' h' tk' F' N' hr; obtain ⟨tl1, rfl, hap1, hM1⟩ := hr; rw [ren_id] at hM1; (try k_fold))))
    k_with "call ref" => ((first | have gg9 := hM1 | fail); ((fail_if_success (first | have gg9 := hM | fail)); k_dflt ((rename News _ _ _ _ => lN); (have lN2 := News.perm (news' := tlG ++ (na, listOf ysE.toArray c9) :: tlE) lN (by (intro p hp; simp only [List.mem_append, List.mem_cons] at hp; rcases hp with hp | rfl | hp; (first | k_mem | (have hp2 := hG' p hp; k_mem)); (first | k_mem | (have hp2 := hna'; k_mem)); (first | k_mem | (have hp2 := hE' p hp; k_mem))))); refine' CallsN.use ?k1 ?k2 ?k3 ?k4 ?k5 ?kK (map_calls _ 216 g1 ?hk (leaf_one _) _ te (Nat.lt_succ_self _) _ (tlE) (tlG ++ (na, listOf ysE.toArray c9) :: tlE) hRE ?ks hgE.ok (len_g hgE _ (by decide))) ?kd ?ku ?_; (case k1 => k_asm); (case k2 => k_asm); (case k3 => k_asm); (case k4 => exact lN2); (case k5 => k_asm); (case kK => exact rfl); (case hk => first | k_is | rfl); (case ks => (intro p hp; first | k_mem | (rcases List.mem_append.mp hp with hp | hp <;> k_mem))); (case kd => ((try simp only [depth_deeper, depth_in1, ktrTop, depth_caller, units_deeper, units_in1, units_caller, T.ht, T.hts, ht_ren]); omega)); (case ku => ((try simp only [depth_deeper, depth_in1, ktrTop, depth_caller, units_deeper, units_in1, units_caller, T.ht, T.hts, ht_ren]); omega)); intro r news' h' tk' F' N' hr; obtain ⟨tlM, rfl, hapM, hM⟩ := hr; obtain ⟨ma, rfl⟩ := hM.ref; (try k_fold))))
    k_with "call ref" => ((first | have gg9 := hM | fail); ((fail_if_success (first | have gg9 := hM2 | fail)); k_dflt ((rename News _ _ _ _ => lN); (have lN2 := News.perm (news' := tlM ++ (tlG ++ (na, listOf ysE.toArray c9) :: tlE)) lN (by (intro p hp; simp only [List.mem_append, List.mem_cons] at hp; rcases hp with hp | hp | rfl | hp <;> k_mem))); refine' CallsN.use ?k1 ?k2 ?k3 ?k4 ?k5 ?kK (map_calls _ 223 g2 ?hk (leaf_two _) _ (te.ren g1) (Nat.lt_succ_self _) _ (tlM ++ tlE) (tlM ++ (tlG ++ (na, listOf ysE.toArray c9) :: tlE)) hM ?ks (ok_ren g1 te hgE.ok) (len_g12 hgE)) ?kd ?ku ?_; (case k1 => k_asm); (case k2 => k_asm); (case k3 => k_asm); (case k4 => exact lN2); (case k5 => k_asm); (case kK => exact rfl); (case hk => first | k_is | rfl); (case ks => (intro p hp; first | k_mem | (rcases List.mem_append.mp hp with hp | hp <;> k_mem))); (case kd => ((try simp only [depth_deeper, depth_in1, ktrTop, depth_caller, units_deeper, units_in1, units_caller, T.ht, T.hts, ht_ren]); omega)); (case ku => ((try simp only [depth_deeper, depth_in1, ktrTop, depth_caller, units_deeper, units_in1, units_caller, T.ht, T.hts, ht_ren]); omega)); intro r news' h' tk' F' N' hr; obtain ⟨tl2, rfl, hap2, hM2⟩ := hr; rw [g12] at hM2; (try k_fold))))
    k_with "call ref" => ((first | have gg9 := hM2 | fail); ((fail_if_success (first | have gg9 := hM3 | fail)); k_dflt ((rename News _ _ _ _ => lN); (have lN2 := News.perm (news' := tl2 ++ (tlM ++ (tlG ++ (na, listOf ysE.toArray c9) :: tlE))) lN (by (intro p hp; simp only [List.mem_append, List.mem_cons] at hp; rcases hp with hp | hp | hp | rfl | hp <;> k_mem))); refine' CallsN.use ?k1 ?k2 ?k3 ?k4 ?k5 ?kK (map_calls _ 230 g3 ?hk (leaf_both _) _ te (Nat.lt_succ_self _) _ (tlE) (tl2 ++ (tlM ++ (tlG ++ (na, listOf ysE.toArray c9) :: tlE))) hRE ?ks hgE.ok (len_g hgE _ (by decide))) ?kd ?ku ?_; (case k1 => k_asm); (case k2 => k_asm); (case k3 => k_asm); (case k4 => exact lN2); (case k5 => k_asm); (case kK => exact rfl); (case hk => first | k_is | rfl); (case ks => (intro p hp; first | k_mem | (rcases List.mem_append.mp hp with hp | hp <;> k_mem))); (case kd => ((try simp only [depth_deeper, depth_in1, ktrTop, depth_caller, units_deeper, units_in1, units_caller, T.ht, T.hts, ht_ren]); omega)); (case ku => ((try simp only [depth_deeper, depth_in1, ktrTop, depth_caller, units_deeper, units_in1, units_caller, T.ht, T.hts, ht_ren]); omega)); intro r news' h' tk' F' N' hr; obtain ⟨tl3, rfl, hap3, hM3⟩ := hr; (try k_fold))))
    k_with "call ref" => ((first | have gg9 := hM1 | fail); k_dflt (refine' CallsV.use ?k1 ?k2 ?k3 ?k4 ?k5 ?kK (equal_calls _ _ te (Nat.lt_succ_self _) _ _ _ (hM1.mono ?ka) (hRE.mono ?kb) hgE.ok) ?kd ?ku ?_; (case k1 => k_asm); (case k2 => k_asm); (case k3 => k_asm); (case k4 => k_asm); (case k5 => k_asm); (case kK => exact rfl); (case ka => (intro p hp; rcases List.mem_append.mp hp with hp | hp <;> k_mem)); (case kb => (intro p hp; k_mem)); (case kd => ((try simp only [depth_deeper, depth_in1, ktrTop, depth_caller, units_deeper, units_in1, units_caller, T.ht, T.hts, ht_ren]); omega)); (case ku => ((try simp only [depth_deeper, depth_in1, ktrTop, depth_caller, units_deeper, units_in1, units_caller, T.ht, T.hts, ht_ren]); omega)); intro r h' tk' F' N' hr; subst hr; (try k_fold)))
    k_with "call ref" => ((first | have gg9 := hM3 | fail); k_dflt (refine' CallsV.use ?k1 ?k2 ?k3 ?k4 ?k5 ?kK (equal_calls _ _ (te.ren g3) (Nat.lt_succ_self _) _ _ _ (hM2.mono ?ka) (hM3.mono ?kb) (ok_ren g3 te hgE.ok)) ?kd ?ku ?_; (case k1 => k_asm); (case k2 => k_asm); (case k3 => k_asm); (case k4 => k_asm); (case k5 => k_asm); (case kK => exact rfl); (case ka => (intro p hp; simp only [List.mem_append] at hp; rcases hp with hp | hp | hp <;> k_mem)); (case kb => (intro p hp; rcases List.mem_append.mp hp with hp | hp <;> k_mem)); (case kd => ((try simp only [depth_deeper, depth_in1, ktrTop, depth_caller, units_deeper, units_in1, units_caller, T.ht, T.hts, ht_ren]); omega)); (case ku => ((try simp only [depth_deeper, depth_in1, ktrTop, depth_caller, units_deeper, units_in1, units_caller, T.ht, T.hts, ht_ren]); omega)); intro r h' tk' F' N' hr; subst hr; (try k_fold)))
    k_with "call ref" => ((first | have gg9 := hM | fail); k_dflt (refine' CallsN.use ?k1 ?k2 ?k3 ?k4 ?k5 ?kK (all_names_calls _ (hM.mono ?kR) (good_ne1 hgE) ?ks) ?kd ?ku ?_; (case k1 => k_asm); (case k2 => k_asm); (case k3 => k_asm); (case k4 => k_asm); (case k5 => k_asm); (case kK => exact rfl); (case kR => (intro p hp; rcases List.mem_append.mp hp with hp | hp <;> k_mem)); (case ks => (rw [names_ren, List.length_map]; exact Nat.le_trans hgE.few (by decide))); (case kd => ((try simp only [depth_deeper, depth_in1, ktrTop, depth_caller, units_deeper, units_in1, units_caller, T.ht, T.hts, ht_ren]); omega)); (case ku => ((try simp only [depth_deeper, depth_in1, ktrTop, depth_caller, units_deeper, units_in1, units_caller, T.ht, T.hts, ht_ren]); omega)); intro r news' h' tk' F' N' hr; obtain ⟨fm, ysM, nM, rfl, hysM, hltM, rfl⟩ := hr; (try k_fold)))
    k_with "call ref" => ((first | have gg9 := hM3 | fail); k_dflt (refine' CallsN.use ?k1 ?k2 ?k3 ?k4 ?k5 ?kK (all_names_calls _ (hRE.mono ?kR) (good_ne hgE) ?ks) ?kd ?ku ?_; (case k1 => k_asm); (case k2 => k_asm); (case k3 => k_asm); (case k4 => k_asm); (case k5 => k_asm); (case kK => exact rfl); (case kR => (intro p hp; k_mem)); (case ks => exact Nat.le_trans hgE.few (by decide)); (case kd => ((try simp only [depth_deeper, depth_in1, ktrTop, depth_caller, units_deeper, units_in1, units_caller, T.ht, T.hts, ht_ren]); omega)); (case ku => ((try simp only [depth_deeper, depth_in1, ktrTop, depth_caller, units_deeper, units_in1, units_caller, T.ht, T.hts, ht_ren]); omega)); intro r news' h' tk' F' N' hr; obtain ⟨fz, ysF, nF, rfl, hysF, hltF, rfl⟩ := hr; (try k_fold)))
    k_with "call ref" => ((first | have gg9 := hM | fail); k_dflt (refine' CallsV.use ?k1 ?k2 ?k3 ?k4 ?k5 ?kK (depth_calls _ _ (te.ren g1) (Nat.lt_succ_self _) _ _ (hM.mono ?kR)) ?kd ?ku ?_; (case k1 => k_asm); (case k2 => k_asm); (case k3 => k_asm); (case k4 => k_asm); (case k5 => k_asm); (case kK => exact rfl); (case kR => (intro p hp; rcases List.mem_append.mp hp with hp | hp <;> k_mem)); (case kd => ((try simp only [depth_deeper, depth_in1, ktrTop, depth_caller, units_deeper, units_in1, units_caller, T.ht, T.hts, ht_ren]); omega)); (case ku => ((try simp only [depth_deeper, depth_in1, ktrTop, depth_caller, units_deeper, units_in1, units_caller, T.ht, T.hts, ht_ren]); omega)); intro r h' tk' F' N' hr; obtain ⟨tk9, rfl⟩ := hr; rw [ht_ren]; (try k_fold)))
    k_with "call ref" => ((first | have gg9 := hM | fail); k_dflt (refine' CallsN.use ?k1 ?k2 ?k3 ?k4 ?k5 ?kK (tags_calls _ _ (te.ren g1) (Nat.lt_succ_self _) _ _ (hM.mono ?kR) (ok_ren g1 te hgE.ok) ?ks) ?kd ?ku ?_; (case k1 => k_asm); (case k2 => k_asm); (case k3 => k_asm); (case k4 => k_asm); (case k5 => k_asm); (case kK => exact rfl); (case kR => (intro p hp; rcases List.mem_append.mp hp with hp | hp <;> k_mem)); (case ks => (rw [tags_ren]; exact Nat.le_trans hgE.fewT (by decide))); (case kd => ((try simp only [depth_deeper, depth_in1, ktrTop, depth_caller, units_deeper, units_in1, units_caller, T.ht, T.hts, ht_ren]); omega)); (case ku => ((try simp only [depth_deeper, depth_in1, ktrTop, depth_caller, units_deeper, units_in1, units_caller, T.ht, T.hts, ht_ren]); omega)); intro r news' h' tk' F' N' hr; obtain ⟨ga2, gys2, gn2, tlG2, rfl, rfl, hgm2, hgd2, hgo2⟩ := hr; rw [tags_ren] at hgd2; (try k_fold)))
    k_with "call ref" => ((first | have gg9 := hM3 | fail); k_dflt (refine' CallsN.use ?k1 ?k2 ?k3 ?k4 ?k5 ?kK (tags_calls _ _ te (Nat.lt_succ_self _) _ _ (hRE.mono ?kR) hgE.ok ?ks) ?kd ?ku ?_; (case k1 => k_asm); (case k2 => k_asm); (case k3 => k_asm); (case k4 => k_asm); (case k5 => k_asm); (case kK => exact rfl); (case kR => (intro p hp; k_mem)); (case ks => exact Nat.le_trans hgE.fewT (by decide)); (case kd => ((try simp only [depth_deeper, depth_in1, ktrTop, depth_caller, units_deeper, units_in1, units_caller, T.ht, T.hts, ht_ren]); omega)); (case ku => ((try simp only [depth_deeper, depth_in1, ktrTop, depth_caller, units_deeper, units_in1, units_caller, T.ht, T.hts, ht_ren]); omega)); intro r news' h' tk' F' N' hr; obtain ⟨ga3, gys3, gn3, tlG3, rfl, rfl, hgm3, hgd3, hgo3⟩ := hr; (try k_fold)))
    k_with "call type:list" => ((have hyy := hysM); refine list_copyK (items := ysM.toArray) (by k_asm) (by k_asm) (kso_isList (by k_asm) (by k_mem) rfl) ?_ (by rw [PySem.sizeLine_eq]; simp only [List.size_toArray]; have h9 := hysM.length; have h8 := hgE.few; rw [List.length_map, names_ren, List.length_map] at h9; omega); intro mna c8 h' F' N' lmna)
    k_with "call type:list" => ((have hyy := hysF); refine list_copyK (items := ysF.toArray) (by k_asm) (by k_asm) (kso_isList (by k_asm) (by k_mem) rfl) ?_ (by rw [PySem.sizeLine_eq]; simp only [List.size_toArray]; have h9 := hysF.length; have h8 := hgE.few; rw [List.length_map] at h9; omega); intro fna c7 h' F' N' lfna)
    k_with "eval ListComp" => k_dflt (refine LCg.ListComp_U (F₀ := by k_asm) (by with_unfolding_all rfl) (by decide) (by rfl) (by decide) (by rfl) ?_)
    k_with "CompSrc" => k_dflt (refine LCg.CompSrc.ledger (by rfl) (by k_asm) (by k_asm) (by k_mem) (by rw [PySem.sizeLine_eq]; simp only [List.size_toArray]; have h9 := hysE.length; have h8 := hgE.few; rw [List.length_map] at h9; omega) ?_; intro g'; refine comp_turns (fun i ys nw => nw = _ ∧ DatAll [] ys ((te.names.take i).map fun x => Dat.str (x ++ Str.ofString "1"))) ⟨rfl, by simp only [List.take_zero, List.map_nil]; exact .nil⟩ (fun i v ys nw I oI C oC D m₂ h' tk' E' hv hJ hC hx F' N' off ne => Exists.elim (str_at hysE hv) fun sx hh => ?_) (fun ysC nwC hJC => ?_); (focus (obtain ⟨rfl, hJ⟩ := hJ; obtain ⟨h1x, tx, rfl⟩ := hh; (have hsl := good_len hgE sx (List.mem_of_getElem? h1x)))); rotate_left; (focus (obtain ⟨rfl, hJC⟩ := hJC; (have hJD : DatAll [] ysC ((te.ren g1).names.map Dat.str) := (by rw [g1_names]; have h9 := hysE.length; rw [List.length_map] at h9; rw [h9, List.take_length] at hJC; exact hJC)))); rotate_right)
    k_with "binaryOp Add str str" => k_dflt (refine add_str (fun t' tk' => ?_) (by rw [PySem.sizeLine_eq, show (Str.ofString "1").length = 1 from rfl]; omega))
    k_with "CompEnd" => k_dflt (refine LCg.CompEnd.intro (by assumption) (by assumption) _ (fun p hp => hp) off (Or.inr ⟨_, by k_mem, rfl, _, rfl⟩) ⟨rfl, ?_⟩; rw [map_take_succ _ h1x]; exact hJ.append (.one (.str _ _)))
    k_with "compareOp NotEq ref ref" => ((first | have gg9 := hJD | fail); k_dflt (refine' ne_same ?kN ?d1 ?d2 ?ok ?ma ?ca ?da ?sa ?mb ?cb ?db ?sb ?hu ?_; (case d1 => exact hysM); (case d2 => exact hJD); (case ok => exact good_ok1 hgE); (case kN => k_asm); (case ma => k_mem); (case ca => rfl); (case da => rfl); (case sa => exact List.forall_mem_nil _); (case mb => k_mem); (case cb => rfl); (case db => rfl); (case sb => exact List.forall_mem_nil _); (case hu => ke_room); (try k_fold)))
    k_with "compareOp NotEq ref ref" => ((first | have gg9 := hgd2 | fail); k_dflt (refine' ne_same ?kN ?d1 ?d2 ?ok ?ma ?ca ?da ?sa ?mb ?cb ?db ?sb ?hu ?_; (case d1 => exact hgd2); (case d2 => exact hgd); (case ok => exact tags_ok te hgE.lev); (case kN => k_asm); (case ma => k_mem); (case ca => rfl); (case da => rfl); (case sa => (intro p hp; k_mem)); (case mb => k_mem); (case cb => rfl); (case db => rfl); (case sb => (intro p hp; k_mem)); (case hu => ke_room); (try k_fold)))
    k_with "compareOp Eq ref ref" => ((first | have gg9 := hysF | fail); k_dflt (refine' eq_same ?kN ?d1 ?d2 ?ok ?ma ?ca ?da ?sa ?mb ?cb ?db ?sb ?hu ?_; (case d1 => exact hysF); (case d2 => exact hysE); (case ok => exact good_ok hgE); (case kN => k_asm); (case ma => k_mem); (case ca => rfl); (case da => rfl); (case sa => exact List.forall_mem_nil _); (case mb => k_mem); (case cb => rfl); (case db => rfl); (case sb => exact List.forall_mem_nil _); (case hu => ke_room); (try k_fold)))
    k_with "compareOp Eq ref ref" => ((first | have gg9 := hgd3 | fail); k_dflt (refine' eq_same ?kN ?d1 ?d2 ?ok ?ma ?ca ?da ?sa ?mb ?cb ?db ?sb ?hu ?_; (case d1 => exact hgd3); (case d2 => exact hgd); (case ok => exact tags_ok te hgE.lev); (case kN => k_asm); (case ma => k_mem); (case ca => rfl); (case da => rfl); (case sa => (intro p hp; k_mem)); (case mb => k_mem); (case cb => rfl); (case db => rfl); (case sb => (intro p hp; k_mem)); (case hu => ke_room); (try k_fold)))
    k_steps))
end Mine
theorem PySem.Challenge.cw_pq1393_01_holds : PySem.Challenge.rw_pq1393_01.Holds :=
  Mine.pqMain
