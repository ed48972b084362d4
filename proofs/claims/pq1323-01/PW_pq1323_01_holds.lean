import PyProof.Rows.All
import Wide.All
import OpenK.AllK
import Wide.FinOn
import KE.KStateText
import PySem.Challenge.RW_pq1323_01
open PySem PySem.W PyProof.Rows PySem.Calls
set_option Elab.async false
set_option maxRecDepth 100000
namespace Mine
def topRunT (tb : String → Option Builtin) (p : Program) (w : World) (n₀ : Nat) (ann : Option Value) : Nat → SharedT → Thread → Option SharedT
  | 0, _, _ => none
  | n + 1, s, t => match through t with
    | true => some s
    | false => match stepOk n₀ ann t with
      | false => none
      | true => match stepT (denote tb) p w s t with
        | some (s', t') => topRunT tb p w n₀ ann n s' t'
        | none => none
theorem topRun_of {tb : String → Option Builtin} {p : Program} {w : World} {n₀ : Nat} {ann : Option Value} : ∀ {n : Nat} {s s' : SharedT} {t : Thread}, topRunT tb p w n₀ ann n s t = some s' → topRun tb p w n₀ ann n s.abs t = some s'.abs
  | 0, _, _, _, h => by cases h
  | n + 1, s, s', t, h => by
    unfold topRunT at h
    unfold topRun
    cases he : through t with
    | true => rw [he] at h; cases h; rfl
    | false =>
      rw [he] at h
      cases hk : stepOk n₀ ann t with
      | false => rw [hk] at h; cases h
      | true =>
        rw [hk] at h
        cases hs : stepT (denote tb) p w s t with
        | none => rw [hs] at h; cases h
        | some r => obtain ⟨s₂, t₂⟩ := r; rw [hs] at h; rw [stepT_spec hs]; exact topRun_of h
/-- the tree of a row of objects -/
def mkBT (os : List Obj) : Nat → Nat → Nat → BT
  | 0, _, _ => .nil
  | f + 1, a, b => match os[b]? with
    | some o => .node o (mkBT os f (2 * a) (a + b)) (mkBT os f (2 * a) (2 * a + b))
    | none => .nil
theorem leftO_tree {p q : Program} {loose : List Str} {Xt : Shared → Bool} {α : Type} {Yf : Shared → α} {Ya : World → α} {N M : Nat} {m₀ : Nat} {ann : Option Value} {T₀ : Params → BT} {life : Params → Life}
    (open_ : ∀ w : World, (fencedOpening treeTable p w N).map (fun s => (s.heap, s.gens, s.drawn, s.toks)) = some (boot_heap w.params, Array.mk [], boot_drawn, boot_toks))
    (tree : ∀ P : Params, absHeap (T₀ P) m₀ (life P) = boot_heap P)
    (size : ∀ w : World, ((boot_heap w.params).isNs mainGlobals, (boot_heap w.params).objs.size, (boot_heap w.params).nsMap mainGlobals "__annotations__") = (true, m₀, ann))
    (le : Nat.ble M N = true)
    (run : ∀ w : World, (fun os => (topRunT treeTable p w m₀ ann M ⟨T₀ w.params, m₀, life w.params, Array.mk [], boot_drawn, boot_toks, os⟩ (topStub p)).map fun s =>
        ((staticsOk (importedModules p.main.body) (boot_heap w.params) s.abs.heap && namesBound p s.abs.heap && gensDone s.abs && laidKept (boot_heap w.params) s.abs.heap),
        openSeen q loose (importedModules p.main.body) Xt true s.abs, Yf s.abs)) = fun _ => some (true, openGood q loose, Ya w)) : LeftO p q loose Xt Yf Ya N := fun w => by
  obtain ⟨⟨h, gs, d, k, os⟩, e, e'⟩ := Option.map_eq_some_iff.mp (open_ w)
  obtain ⟨rfl, rfl, rfl, rfl⟩ : h = boot_heap w.params ∧ gs = Array.mk [] ∧ d = boot_drawn ∧ k = boot_toks := by simpa using e'
  obtain ⟨z1, z2, z3⟩ : _ ∧ _ ∧ _ := by simpa only [Prod.mk.injEq] using size w
  obtain ⟨s₁, r, l⟩ := Option.map_eq_some_iff.mp (congrFun (run w) os)
  obtain ⟨l1, l2, l3⟩ : _ ∧ _ ∧ _ := by simpa only [Prod.mk.injEq] using l
  have r' := topRun_mono (N - M) _ _ _ _ (topRun_of r)
  rw [show M + (N - M) = N by have := Nat.le_of_ble_eq_true le; omega] at r'
  have r2 : topRun treeTable p w m₀ ann N ⟨boot_heap w.params, Array.mk [], boot_drawn, boot_toks, os⟩ (topStub p) = some s₁.abs := by
    rw [← r']
    show _ = topRun treeTable p w m₀ ann N ⟨absHeap (T₀ w.params) m₀ (life w.params), Array.mk [], boot_drawn, boot_toks, os⟩ (topStub p)
    rw [tree]
  have t : topFrom treeTable p w N ⟨boot_heap w.params, Array.mk [], boot_drawn, boot_toks, os⟩ = some s₁.abs := by
    unfold topFrom
    dsimp only
    rw [z1, z2, z3, r2]
    show (match staticsOk (importedModules p.main.body) (boot_heap w.params) s₁.abs.heap && namesBound p s₁.abs.heap && gensDone s₁.abs && laidKept (boot_heap w.params) s₁.abs.heap with | true => _ | false => _) = _
    rw [l1]
  unfold openEnds
  rw [e]
  show (topFrom treeTable p w N _).map _ = _
  rw [t]
  exact congrArg some (Prod.ext l2 l3)
noncomputable def bootT (P : Params) : BT := mkBT (boot_heap P).objs.toList 6 1 0
theorem boot_tree : ∀ P : Params, absHeap (bootT P) 11 ((fun P => (boot_heap P).life) P) = boot_heap P := fun P => by kernel_rfl
theorem boot_facts : ∀ w : World, ((boot_heap w.params).isNs mainGlobals, (boot_heap w.params).objs.size, (boot_heap w.params).nsMap mainGlobals "__annotations__") = (true, 11, some (.ref 6)) := fun w => by kernel_rfl
theorem open_boot (N : Nat) (hN : Nat.ble 600 N = true) : ∀ w : World, (fencedOpening treeTable PySem.Challenge.rw_pq1323_01.row.prog w N).map (fun s => (s.heap, s.gens, s.drawn, s.toks)) = some (boot_heap w.params, Array.mk [], boot_drawn, boot_toks) :=
  boot_open (by kernel_rfl) hN (fun s => by kernel_rfl)

noncomputable def vw : Program := { PySem.Challenge.rw_pq1323_01.row.prog with main := { PySem.Challenge.rw_pq1323_01.row.prog.main with body := ([0, 2, 3, 5, 6, 9, 10, 11, 12, 13, 14, 15, 16, 17, 18, 19, 20, 22, 23, 25, 26, 27] : List Nat).filterMap fun i => PySem.Challenge.rw_pq1323_01.row.prog.main.body[i]? } }
set_option hygiene false in
local macro_rules | `(tactic| o_law) => `(tactic| refine holds_law (by decide +kernel) fun said => ?_)
set_option hygiene false in
local macro_rules | `(tactic| o_head $H) => `(tactic| (
  refine holds_open (q := vw) (loose := [Str.ofString "number"]) (Xt := fun s => xlAt vw [] s && recOk (RowW.records (OpenRow.toRowW PySem.Challenge.rw_pq1323_01.row)) s) (XP := XL vw []) (Yf := Hook.obs $H) (Ya := Hook.val $H) (YP := Hook.says $H) (N := 4652) ?hl (Hook.of $H) (Hook.keeps $H) (fun s e => xl_of s (Bool.and_eq_true_iff.mp e).1) XL.keeps (by rfl) (by rfl) (by rfl) (fun s e => recFacts_of (Bool.and_eq_true_iff.mp e).2) (by rfl) (by first | assumption | decide +kernel) (by decide +kernel) ⟨rfl, rfl, rfl, rfl, rfl, by decide +kernel⟩ ?hw ?hc;
  (case hl => exact leftO_tree (M := 2300) (T₀ := bootT) (life := fun P => (boot_heap P).life) (open_boot 4652 (by decide)) boot_tree boot_facts (by decide) (fun w => by kernel_rfl))))
set_option maxHeartbeats 8000000 in
open_top hd for PySem.Challenge.rw_pq1323_01
end Mine
set_option linter.unusedSimpArgs false
set_option linter.unusedVariables false
set_option maxHeartbeats 8000000
example : True := by
  w_top off
  trivial
example : (PySem.Challenge.rw_pq1323_01, Mine.hd.heap_1) = (PySem.Challenge.rw_pq1323_01, Mine.hd.heap_1) := by
  k_fill
  rfl
namespace Mine
abbrev Led := List (Addr × Obj)

/-- what a call of `f` on `vs` does from any def's frame over the ledger `news` -/
def Doing (w : World) (f : Addr) (vs : List Value) (d u : Nat) (news : Led) (P : Value → Led → Prop) : Prop :=
  ∀ (mean : ExcName → Option Value) (mg mb : Str → Option Value) (dp un : Nat) (gd : Option (List Code)) (cn : Str) (cs : Scope) (a : Addr) (ccd : Value) (cl : List (Str × Addr)) (outer : List Env) (A₀ : Around) (base h₀ : Heap) (L : Addr) (m : Str → Option Value) (s : Shared) (Q E : Value → Shared → Prop),
    Below A₀ base outer h₀ → Fr h₀ L s.heap m → (hd.heap_1 w.params).In h₀ → News h₀ L s.heap news → Top vw (looseW vw [Str.ofString "number"]) mean mg mb h₀ → cs.kind = .function → dp + d < recursionLimit → un + u < cLine →
    (∀ r news' h' tk', Fr h₀ L h' m → News h₀ L h' news' → P r news' → Q r { s with heap := h', toks := tk' }) →
    wpAny (model PySem.Challenge.rw_pq1323_01.row.prog w) (ktrTop dp un gd cn cs L a ccd cl outer) (call (.ref f) vs) Q E s

theorem Doing.use {w : World} {f : Addr} {vs : List Value} {d u : Nat} {news : Led} {P : Value → Led → Prop} (D : Doing w f vs d u news P)
    {mean : ExcName → Option Value} {mg mb : Str → Option Value} {dp un : Nat} {gd : Option (List Code)} {cn : Str} {cs : Scope} {a : Addr} {ccd : Value} {cl : List (Str × Addr)} {outer : List Env} {A₀ : Around} {base h₀ : Heap} {L : Addr} {m : Str → Option Value} {s : Shared} {Q E : Value → Shared → Prop}
    (B : Below A₀ base outer h₀) (F : Fr h₀ L s.heap m) (X : (hd.heap_1 w.params).In h₀) (N : News h₀ L s.heap news) (T : Top vw (looseW vw [Str.ofString "number"]) mean mg mb h₀) (hk : cs.kind = .function) (hdp : dp + d < recursionLimit) (hu : un + u < cLine)
    (ret : ∀ r news' h' tk', Fr h₀ L h' m → News h₀ L h' news' → P r news' → Q r { s with heap := h', toks := tk' }) :
    wpAny (model PySem.Challenge.rw_pq1323_01.row.prog w) (ktrTop dp un gd cn cs L a ccd cl outer) (call (.ref f) vs) Q E s := D _ _ _ _ _ _ _ _ _ _ _ _ _ _ _ _ _ _ _ _ B F X N T hk hdp hu ret

/-- a text of no sign, or of one -/
abbrev chr1 : Option Nat → Str
  | none => ⟨#[]⟩
  | some k => ⟨#[k]⟩
def pLetter : Option Nat → Bool
  | none => false
  | some k => (decide (97 ≤ k) && decide (k ≤ 122)) || (decide (65 ≤ k) && decide (k ≤ 90))
def pDigit : Option Nat → Bool
  | none => false
  | some k => decide (48 ≤ k) && decide (k ≤ 57)
def pName : Option Nat → Bool
  | none => false
  | some k => pLetter (some k) || pDigit (some k) || decide (k = 46) || decide (k = 95)

theorem lt_one (a b : Nat) : (([a] : List Nat) < [b]) ↔ a < b := by simp [List.cons_lt_cons_iff]
theorem nil_lt (b : Nat) (l : List Nat) : (([] : List Nat) < b :: l) ↔ True := by simp
/-- the tuple of the reserved words -/
abbrev keysObj (k : Tok) : Obj := { cls := .type "tuple", data := .seq #[.str (Str.ofString "if") k, .str (Str.ofString "else") (k + 1), .str (Str.ofString "repeat") (k + 1 + 1), .str (Str.ofString "while") (k + 1 + 1 + 1), .str (Str.ofString "function") (k + 1 + 1 + 1 + 1), .str (Str.ofString "for") (k + 1 + 1 + 1 + 1 + 1), .str (Str.ofString "next") (k + 1 + 1 + 1 + 1 + 1 + 1), .str (Str.ofString "break") (k + 1 + 1 + 1 + 1 + 1 + 1 + 1), .str (Str.ofString "in") (k + 1 + 1 + 1 + 1 + 1 + 1 + 1 + 1), .str (Str.ofString "TRUE") (k + 1 + 1 + 1 + 1 + 1 + 1 + 1 + 1 + 1), .str (Str.ofString "FALSE") (k + 1 + 1 + 1 + 1 + 1 + 1 + 1 + 1 + 1 + 1), .str (Str.ofString "NULL") (k + 1 + 1 + 1 + 1 + 1 + 1 + 1 + 1 + 1 + 1 + 1), .str (Str.ofString "Inf") (k + 1 + 1 + 1 + 1 + 1 + 1 + 1 + 1 + 1 + 1 + 1 + 1), .str (Str.ofString "NaN") (k + 1 + 1 + 1 + 1 + 1 + 1 + 1 + 1 + 1 + 1 + 1 + 1 + 1), .str (Str.ofString "NA") (k + 1 + 1 + 1 + 1 + 1 + 1 + 1 + 1 + 1 + 1 + 1 + 1 + 1 + 1), .str (Str.ofString "NA_integer_") (k + 1 + 1 + 1 + 1 + 1 + 1 + 1 + 1 + 1 + 1 + 1 + 1 + 1 + 1 + 1), .str (Str.ofString "NA_real_") (k + 1 + 1 + 1 + 1 + 1 + 1 + 1 + 1 + 1 + 1 + 1 + 1 + 1 + 1 + 1 + 1), .str (Str.ofString "NA_character_") (k + 1 + 1 + 1 + 1 + 1 + 1 + 1 + 1 + 1 + 1 + 1 + 1 + 1 + 1 + 1 + 1 + 1)] }
abbrev lexD (w : World) (k1 k2 k3 k4 : Tok) (tx : Str) (tt : Tok) (i : Int) (ti : Tok) (nl : Bool) (kt : Addr) : Obj :=
  dictOf [⟨PyData.keyHash w.params (Str.ofString "text"), .str (Str.ofString "text") k1, .str tx tt⟩, ⟨PyData.keyHash w.params (Str.ofString "at"), .str (Str.ofString "at") k2, .int i ti⟩,
    ⟨PyData.keyHash w.params (Str.ofString "newline"), .str (Str.ofString "newline") k3, .bool nl⟩, ⟨PyData.keyHash w.params (Str.ofString "keys"), .str (Str.ofString "keys") k4, .ref kt⟩] 4
/-- the reader's three objects, ahead of what else stands -/
abbrev lexLed (w : World) (x dx kt : Addr) (k1 k2 k3 k4 kk : Tok) (tx : Str) (tt : Tok) (i : Int) (ti : Tok) (nl : Bool) (rest : Led) : Led :=
  (x, instObj 304 dx) :: (dx, lexD w k1 k2 k3 k4 tx tt i ti nl kt) :: (kt, keysObj kk) :: rest
/-- a mark that halts the walk: the loop is taken by hand -/
def Stk (P : Prop) : Prop := P
theorem stk {P : Prop} (h : Stk P) : P := h
theorem Stk.out {P : Prop} (h : P) : Stk P := h
/-- the dict of a token -/
abbrev tokD (w : World) (j1 j2 j3 j4 : Tok) (kv vv av : Value) (nl : Bool) : Obj :=
  dictOf [⟨PyData.keyHash w.params (Str.ofString "kind"), .str (Str.ofString "kind") j1, kv⟩, ⟨PyData.keyHash w.params (Str.ofString "value"), .str (Str.ofString "value") j2, vv⟩,
    ⟨PyData.keyHash w.params (Str.ofString "at"), .str (Str.ofString "at") j3, av⟩, ⟨PyData.keyHash w.params (Str.ofString "newline"), .str (Str.ofString "newline") j4, .bool nl⟩] 4
theorem Doing.u {w : World} {f : Addr} {vs : List Value} {d u : Nat} {news : Led} {P : Value → Led → Prop}
    {mean : ExcName → Option Value} {mg mb : Str → Option Value} {dp un : Nat} {gd : Option (List Code)} {cn : Str} {cs : Scope} {a : Addr} {ccd : Value} {cl : List (Str × Addr)} {outer : List Env} {A₀ : Around} {base h₀ : Heap} {L : Addr} {m : Str → Option Value} {s : Shared} {Q E : Value → Shared → Prop}
    (B : Below A₀ base outer h₀ := by k_asm) (F : Fr h₀ L s.heap m := by k_asm) (X : (hd.heap_1 w.params).In h₀ := by k_asm) (N : News h₀ L s.heap news := by walk_at "uN") (T : Top vw (looseW vw [Str.ofString "number"]) mean mg mb h₀ := by k_asm) (hk : cs.kind = .function := by first | exact rfl | assumption) (hdp : dp + d < recursionLimit := by ktr_room) (hu : un + u < cLine := by ktr_units)
    (D : Doing w f vs d u news P) (ret : ∀ r news' h' tk', Fr h₀ L h' m → News h₀ L h' news' → P r news' → Q r { s with heap := h', toks := tk' }) :
    wpAny (model PySem.Challenge.rw_pq1323_01.row.prog w) (ktrTop dp un gd cn cs L a ccd cl outer) (call (.ref f) vs) Q E s := D.use B F X N T hk hdp hu ret
theorem halt (n : Addr) {M : Model} {A : Around} {vs : List Value} {Q E : Value → Shared → Prop} {s : Shared} (h : Stk (wpAny M A (call (.ref n) vs) Q E s)) : wpAny M A (call (.ref n) vs) Q E s := h
theorem Doing.v0 {R : Value} {N' : Led} {w : World} {f : Addr} {vs : List Value} {d u : Nat} {news : Led}
    {mean : ExcName → Option Value} {mg mb : Str → Option Value} {dp un : Nat} {gd : Option (List Code)} {cn : Str} {cs : Scope} {a : Addr} {ccd : Value} {cl : List (Str × Addr)} {outer : List Env} {A₀ : Around} {base h₀ : Heap} {L : Addr} {m : Str → Option Value} {s : Shared} {Q E : Value → Shared → Prop}
    (B : Below A₀ base outer h₀ := by k_asm) (F : Fr h₀ L s.heap m := by k_asm) (X : (hd.heap_1 w.params).In h₀ := by k_asm) (N : News h₀ L s.heap news := by walk_at "uN") (T : Top vw (looseW vw [Str.ofString "number"]) mean mg mb h₀ := by k_asm) (hk : cs.kind = .function := by first | exact rfl | assumption) (hdp : dp + d < recursionLimit := by ktr_room) (hu : un + u < cLine := by ktr_units)
    (D : Doing w f vs d u news (fun r n' => r = R ∧ n' = N')) (ret : ∀ h' tk', Fr h₀ L h' m → News h₀ L h' (N') → Q (R) { s with heap := h', toks := tk' }) :
    wpAny (model PySem.Challenge.rw_pq1323_01.row.prog w) (ktrTop dp un gd cn cs L a ccd cl outer) (call (.ref f) vs) Q E s := D.use B F X N T hk hdp hu fun r n' h' tk' F' N9 p => by
  obtain ⟨e1, e2⟩ := p
  subst e1
  subst e2
  exact ret  h' tk' F' N9
theorem Doing.v1 {α0 : Type} {R : α0 → Value} {N' : α0 → Led} {w : World} {f : Addr} {vs : List Value} {d u : Nat} {news : Led}
    {mean : ExcName → Option Value} {mg mb : Str → Option Value} {dp un : Nat} {gd : Option (List Code)} {cn : Str} {cs : Scope} {a : Addr} {ccd : Value} {cl : List (Str × Addr)} {outer : List Env} {A₀ : Around} {base h₀ : Heap} {L : Addr} {m : Str → Option Value} {s : Shared} {Q E : Value → Shared → Prop}
    (B : Below A₀ base outer h₀ := by k_asm) (F : Fr h₀ L s.heap m := by k_asm) (X : (hd.heap_1 w.params).In h₀ := by k_asm) (N : News h₀ L s.heap news := by walk_at "uN") (T : Top vw (looseW vw [Str.ofString "number"]) mean mg mb h₀ := by k_asm) (hk : cs.kind = .function := by first | exact rfl | assumption) (hdp : dp + d < recursionLimit := by ktr_room) (hu : un + u < cLine := by ktr_units)
    (D : Doing w f vs d u news (fun r n' => ∃ (x1 : α0), r = R x1 ∧ n' = N' x1)) (ret : ∀ (x1 : α0) h' tk', Fr h₀ L h' m → News h₀ L h' (N' x1) → Q (R x1) { s with heap := h', toks := tk' }) :
    wpAny (model PySem.Challenge.rw_pq1323_01.row.prog w) (ktrTop dp un gd cn cs L a ccd cl outer) (call (.ref f) vs) Q E s := D.use B F X N T hk hdp hu fun r n' h' tk' F' N9 p => by
  obtain ⟨x1, e1, e2⟩ := p
  subst e1
  subst e2
  exact ret x1 h' tk' F' N9
theorem Doing.v3 {α0 : Type} {α1 : Type} {α2 : Type} {R : α0 → α1 → α2 → Value} {N' : α0 → α1 → α2 → Led} {S : α0 → α1 → α2 → Prop} {w : World} {f : Addr} {vs : List Value} {d u : Nat} {news : Led}
    {mean : ExcName → Option Value} {mg mb : Str → Option Value} {dp un : Nat} {gd : Option (List Code)} {cn : Str} {cs : Scope} {a : Addr} {ccd : Value} {cl : List (Str × Addr)} {outer : List Env} {A₀ : Around} {base h₀ : Heap} {L : Addr} {m : Str → Option Value} {s : Shared} {Q E : Value → Shared → Prop}
    (B : Below A₀ base outer h₀ := by k_asm) (F : Fr h₀ L s.heap m := by k_asm) (X : (hd.heap_1 w.params).In h₀ := by k_asm) (N : News h₀ L s.heap news := by walk_at "uN") (T : Top vw (looseW vw [Str.ofString "number"]) mean mg mb h₀ := by k_asm) (hk : cs.kind = .function := by first | exact rfl | assumption) (hdp : dp + d < recursionLimit := by ktr_room) (hu : un + u < cLine := by ktr_units)
    (D : Doing w f vs d u news (fun r n' => ∃ (x1 : α0) (x2 : α1) (x3 : α2), r = R x1 x2 x3 ∧ n' = N' x1 x2 x3 ∧ S x1 x2 x3)) (ret : ∀ (x1 : α0) (x2 : α1) (x3 : α2) h' tk', Fr h₀ L h' m → News h₀ L h' (N' x1 x2 x3) → S x1 x2 x3 → Q (R x1 x2 x3) { s with heap := h', toks := tk' }) :
    wpAny (model PySem.Challenge.rw_pq1323_01.row.prog w) (ktrTop dp un gd cn cs L a ccd cl outer) (call (.ref f) vs) Q E s := D.use B F X N T hk hdp hu fun r n' h' tk' F' N9 p => by
  obtain ⟨x1, x2, x3, e1, e2, e3⟩ := p
  subst e1
  subst e2
  exact ret x1 x2 x3 h' tk' F' N9 e3
theorem Doing.v6 {α0 : Type} {α1 : Type} {α2 : Type} {α3 : Type} {α4 : Type} {α5 : Type} {R : α0 → α1 → α2 → α3 → α4 → α5 → Value} {N' : α0 → α1 → α2 → α3 → α4 → α5 → Led} {S : α0 → α1 → α2 → α3 → α4 → α5 → Prop} {w : World} {f : Addr} {vs : List Value} {d u : Nat} {news : Led}
    {mean : ExcName → Option Value} {mg mb : Str → Option Value} {dp un : Nat} {gd : Option (List Code)} {cn : Str} {cs : Scope} {a : Addr} {ccd : Value} {cl : List (Str × Addr)} {outer : List Env} {A₀ : Around} {base h₀ : Heap} {L : Addr} {m : Str → Option Value} {s : Shared} {Q E : Value → Shared → Prop}
    (B : Below A₀ base outer h₀ := by k_asm) (F : Fr h₀ L s.heap m := by k_asm) (X : (hd.heap_1 w.params).In h₀ := by k_asm) (N : News h₀ L s.heap news := by walk_at "uN") (T : Top vw (looseW vw [Str.ofString "number"]) mean mg mb h₀ := by k_asm) (hk : cs.kind = .function := by first | exact rfl | assumption) (hdp : dp + d < recursionLimit := by ktr_room) (hu : un + u < cLine := by ktr_units)
    (D : Doing w f vs d u news (fun r n' => ∃ (x1 : α0) (x2 : α1) (x3 : α2) (x4 : α3) (x5 : α4) (x6 : α5), r = R x1 x2 x3 x4 x5 x6 ∧ n' = N' x1 x2 x3 x4 x5 x6 ∧ S x1 x2 x3 x4 x5 x6)) (ret : ∀ (x1 : α0) (x2 : α1) (x3 : α2) (x4 : α3) (x5 : α4) (x6 : α5) h' tk', Fr h₀ L h' m → News h₀ L h' (N' x1 x2 x3 x4 x5 x6) → S x1 x2 x3 x4 x5 x6 → Q (R x1 x2 x3 x4 x5 x6) { s with heap := h', toks := tk' }) :
    wpAny (model PySem.Challenge.rw_pq1323_01.row.prog w) (ktrTop dp un gd cn cs L a ccd cl outer) (call (.ref f) vs) Q E s := D.use B F X N T hk hdp hu fun r n' h' tk' F' N9 p => by
  obtain ⟨x1, x2, x3, x4, x5, x6, e1, e2, e3⟩ := p
  subst e1
  subst e2
  exact ret x1 x2 x3 x4 x5 x6 h' tk' F' N9 e3
local macro_rules | `(tactic| k_room) => `(tactic| ktr_room)
local macro_rules | `(tactic| k_units) => `(tactic| ktr_units)
local macro_rules | `(tactic| ktr_enter) => `(tactic| (refine' code_def ?k1 ?k2 ?k3 ?k4 ?k5 ?kA ?kF ?kK ?k6 ?k7 ?k8 ?k9 ?kB ?_ ?c2 ?c3 ?c4 ?c5; (case kA => exact rfl); (case kF => exact rfl); (case kK => first | exact rfl | assumption); (case k1 => k_asm); (case k2 => k_asm); (case k3 => k_asm); (case k4 => k_asm); (case k5 => k_asm); (case k6 => k_is); (case k7 => k_is); (case k8 => ktr_room); (case k9 => first | exact BindsTo.of_eq rfl | exact binds_K (by k_in) rfl (by k_is) rfl rfl rfl); (case c5 => decide); (case kB => exact locs rfl); (case c2 => exact rfl); (case c3 => exact rfl); (case c4 => exact rfl); k_whole; intro g' L' h' FG' F' N' B' X' T'; (try dsimp only); (try k_lift B'); (try k_fold)))
local macro_rules | `(tactic| k_enter) => `(tactic| ktr_enter)
local macro_rules | `(tactic| k_all) => `(tactic| first | assumption | exact fun p hp => Nat.ne_of_lt (ktn_ltOf (by assumption) p hp))
local macro_rules | `(tactic| walk_at "exec While Call cons nil") => `(tactic| refine stk ?_)
local macro_rules | `(tactic| walk_at "exec While Compare cons nil") => `(tactic| refine stk ?_)
local macro_rules | `(tactic| walk_at "exec While Constant cons nil") => `(tactic| refine stk ?_)
local macro_rules | `(tactic| walk_at "exec While BoolOp cons nil") => `(tactic| refine stk ?_)
local macro_rules | `(tactic| walk_at "KswEnd") => `(tactic| refine stk ?_)
local macro_rules | `(tactic| walk_at "ite") => `(tactic| first | with_reducible refine ite_tt ?_ | with_reducible refine ite_ff ?_)
section Contracts
local macro_rules | `(tactic| walk_at "eval Call Name") => `(tactic| ((with_reducible show wpAny _ _ (eval (Expr.Call (Expr.Name _ _) _ [] _) _) _ _ _); refine Call_ ?_))
local macro_rules | `(tactic| walk_at "uS") => `(tactic| ((try k_sweep); (try dsimp only); (try k_fold)))
local macro_rules | `(tactic| walk_at "uT") => `(tactic| ((try dsimp only); (try k_fold)))
local macro_rules | `(tactic| walk_at "uN") => `(tactic| (first | k_asm | exact cb_drop (by k_asm) (by kcj_all)))
section MTxt
theorem idx_clip (n i j : Nat) : Builtin.Str.strSliceIndices (some (i : Int)) (some (j : Int)) 1 n = Builtin.Str.strSliceIndices (some ((min i n : Nat) : Int)) (some ((min j n : Nat) : Int)) 1 n := by
  unfold Builtin.Str.strSliceIndices
  simp only [show (1 : Int) > 0 by decide, if_true, show ¬ ((i : Int) < 0) by omega, show ¬ ((j : Int) < 0) by omega, show ¬ (((min i n : Nat) : Int) < 0) by omega, show ¬ (((min j n : Nat) : Int) < 0) by omega, if_false]
  have e1 : max 0 (min (i : Int) n) = max 0 (min ((min i n : Nat) : Int) n) := by omega
  have e2 : max 0 (min (j : Int) n) = max 0 (min ((min j n : Nat) : Int) n) := by omega
  rw [e1, e2]
theorem slice_nat (x : Str) (i j : Nat) (h : i ≤ j) : Txt.slice x (some (i : Int)) (some (j : Int)) = ⟨((x.cps.toList.drop i).take (j - i)).toArray⟩ := by
  have e : Txt.slice x (some (i : Int)) (some (j : Int)) = Txt.slice x (some ((min i x.length : Nat) : Int)) (some ((min j x.length : Nat) : Int)) := by
    unfold Txt.slice
    rw [idx_clip]
  rw [e, eq_of_beq (slice_closesL (x := x) (i := ((min i x.length : Nat) : Int)) (j := ((min j x.length : Nat) : Int)) (by omega) (by omega) (by omega))]
  have hl : x.length = x.cps.toList.length := by simp [Str.length]
  rw [hl]
  generalize x.cps.toList = l
  congr 2
  rw [Int.toNat_natCast]
  rcases Nat.le_total i l.length with hi | hi
  · rw [Nat.min_eq_left hi]
    rcases Nat.le_total j l.length with hj | hj
    · rw [Nat.min_eq_left hj]
      congr 1
      omega
    · rw [Nat.min_eq_right hj, List.take_of_length_le (i := j - i) (by simp; omega), List.take_of_length_le (by simp)]
  · rw [Nat.min_eq_right hi, List.drop_length, List.drop_of_length_le hi]
    simp
theorem slice_one (x : Str) (n : Nat) : Txt.slice x (some (n : Int)) (some ((n : Int) + 1)) = chr1 (x.cps.toList.drop n).head? := by
  have := slice_nat x n (n + 1) (by omega)
  rw [Int.natCast_add, Int.natCast_one] at this
  rw [this]
  have e : n + 1 - n = 1 := by omega
  rw [e]
  cases x.cps.toList.drop n <;> rfl
/-- what is left of a text behind a place -/
def sfx (tx : Str) (i : Int) : List Nat := tx.cps.toList.drop i.toNat
theorem slice_char (x : Str) (i : Int) (h : 0 ≤ i) : Txt.slice x (some i) (some (i + 1)) = chr1 (sfx x i).head? := by
  obtain ⟨n, rfl⟩ := Int.eq_ofNat_of_zero_le h
  exact slice_one x n
theorem sfx_succ (x : Str) (i : Int) (h : 0 ≤ i) : sfx x (i + 1) = (sfx x i).tail := by
  unfold sfx
  have e : (i + 1).toNat = i.toNat + 1 := by omega
  rw [e, List.tail_drop]
theorem sfx_add (x : Str) (i : Int) (k : Nat) (h : 0 ≤ i) : sfx x (i + k) = (sfx x i).drop k := by
  unfold sfx
  have e : (i + k).toNat = i.toNat + k := by omega
  rw [e, List.drop_drop]
theorem sfx_len (x : Str) (i : Int) (h : 0 ≤ i) (h2 : i ≤ x.length) : ((sfx x i).length : Int) = x.length - i := by
  unfold sfx
  have hl : x.length = x.cps.toList.length := by simp [Str.length]
  rw [hl] at h2 ⊢
  rw [List.length_drop]
  omega
theorem slice_sfx (x : Str) (i j : Int) (h : 0 ≤ i) (h2 : i ≤ j) : Txt.slice x (some i) (some j) = ⟨((sfx x i).take (j - i).toNat).toArray⟩ := by
  obtain ⟨n, rfl⟩ := Int.eq_ofNat_of_zero_le h
  obtain ⟨m, rfl⟩ := Int.eq_ofNat_of_zero_le (Int.le_trans h h2)
  have e : ((m : Int) - (n : Int)).toNat = m - n := by omega
  have := slice_nat x n m (by omega)
  rw [e]
  exact this
theorem chr1_lt (k b : Nat) : ((chr1 (some k)).cps.toList < [b]) ↔ k < b := lt_one k b
theorem lt_chr1 (k b : Nat) : ([b] < (chr1 (some k)).cps.toList) ↔ b < k := lt_one b k
theorem codes_a : (Str.ofString "a").cps.toList = [97] := by decide +kernel
theorem codes_z : (Str.ofString "z").cps.toList = [122] := by decide +kernel
theorem codes_A : (Str.ofString "A").cps.toList = [65] := by decide +kernel
theorem codes_Z : (Str.ofString "Z").cps.toList = [90] := by decide +kernel
theorem codes_0 : (Str.ofString "0").cps.toList = [48] := by decide +kernel
theorem codes_9 : (Str.ofString "9").cps.toList = [57] := by decide +kernel
theorem chr1_beq (o : Option Nat) (k : Nat) : (chr1 o == (⟨#[k]⟩ : Str)) = (o == some k) := by
  cases o with
  | none => rfl
  | some j =>
    rw [Bool.eq_iff_iff]
    simp
theorem lit_dot : Str.ofString "." = ⟨#[46]⟩ := by decide +kernel
theorem lit_us : Str.ofString "_" = ⟨#[95]⟩ := by decide +kernel
theorem lit_nl : Str.ofString "\n" = ⟨#[10]⟩ := by decide +kernel
theorem lit_hash : Str.ofString "#" = ⟨#[35]⟩ := by decide +kernel
theorem lit_sq : Str.ofString "'" = ⟨#[39]⟩ := by decide +kernel
theorem lit_dq : Str.ofString "\"" = ⟨#[34]⟩ := by decide +kernel
theorem lit_bq : Str.ofString "`" = ⟨#[96]⟩ := by decide +kernel
theorem lit_pc : Str.ofString "%" = ⟨#[37]⟩ := by decide +kernel
theorem lit_bs : Str.ofString "\\" = ⟨#[92]⟩ := by decide +kernel
theorem lit_sp : Str.ofString " " = ⟨#[32]⟩ := by decide +kernel
theorem lit_e : Str.ofString "e" = ⟨#[101]⟩ := by decide +kernel
theorem lit_E : Str.ofString "E" = ⟨#[69]⟩ := by decide +kernel
theorem lit_L : Str.ofString "L" = ⟨#[76]⟩ := by decide +kernel
theorem lit_i : Str.ofString "i" = ⟨#[105]⟩ := by decide +kernel
theorem lit_x : Str.ofString "x" = ⟨#[120]⟩ := by decide +kernel
theorem lit_X : Str.ofString "X" = ⟨#[88]⟩ := by decide +kernel
theorem lit_0 : Str.ofString "0" = ⟨#[48]⟩ := by decide +kernel
theorem lit_7 : Str.ofString "7" = ⟨#[55]⟩ := by decide +kernel
theorem lit_u : Str.ofString "u" = ⟨#[117]⟩ := by decide +kernel
theorem lit_U : Str.ofString "U" = ⟨#[85]⟩ := by decide +kernel
theorem lit_empty : Str.ofString "" = ⟨#[]⟩ := by decide +kernel
theorem chr1_beq0 (o : Option Nat) : (chr1 o == (⟨#[]⟩ : Str)) = (o == none) := by
  cases o with
  | none => rfl
  | some j =>
    rw [Bool.eq_iff_iff]
    simp
theorem beq_chr1 (o : Option Nat) (k : Nat) : ((⟨#[k]⟩ : Str) == chr1 o) = (o == some k) := by
  cases o with
  | none => rfl
  | some j =>
    rw [Bool.eq_iff_iff, beq_iff_eq, beq_iff_eq]
    exact ⟨fun h => by cases h; rfl, fun h => by cases h; rfl⟩
theorem beq_chr10 (o : Option Nat) : ((⟨#[]⟩ : Str) == chr1 o) = (o == none) := by
  cases o with
  | none => rfl
  | some j =>
    rw [Bool.eq_iff_iff]
    simp
def isKey (W : Str) : Bool := [Str.ofString "if", Str.ofString "else", Str.ofString "repeat", Str.ofString "while", Str.ofString "function", Str.ofString "for", Str.ofString "next", Str.ofString "break", Str.ofString "in", Str.ofString "TRUE", Str.ofString "FALSE", Str.ofString "NULL", Str.ofString "Inf", Str.ofString "NaN", Str.ofString "NA", Str.ofString "NA_integer_", Str.ofString "NA_real_", Str.ofString "NA_character_"].any fun x => x == W
end MTxt
section MExc
open PySem.Builtin PySem.Builtin.ObjectAttr
section
variable {prog : Program} {w : World} {A : Around} {K : Frag} {C x L : Addr} {s : Shared} {h₀ : Heap} {m : Str → Option Value} {R : Result → Shared → Prop} {ox : Obj} {od : Option Obj} {name : Str} {tk : Tok} {v : Value} {r : Option Value} {cd : ClassData}

/-- `object.__setattr__` on an object of a class whose bases are built in, or own over built-in ones -/
theorem osa_openE (X : K.In s.heap) (I : InstAt s.heap x ox C od) (hc : clsIn K C = some cd) (hp : ∀ self, refuseLoop self "__setattr__" cd.mro = pure ()) (hne : cd.mro.isEmpty = false) (ho : cd.mro.contains (.type "object") = true)
    (ht : takerIn K C name = some r)
    (h : ∀ b, wpAny (model prog w) A.in1 (match r with | some a => setByDescriptor a (.ref x) v | none => storeInOwnDict (.ref x) (.ref C) (.str name tk) name v b)
      (fun fin s' => match fin with | .done f => R (.ok f) s' | .again c' => c'.quiet = true ∧ codeAny (model prog w) A c' R s') (fun e s' => R (.error e) s') s) :
    codeAny (model prog w) A (.call (.builtin "object.__setattr__") ⟨[.ref x, .str name tk, v], []⟩) R s := by
  have SF := PySem.F.store_object
  have sub : Looks (model prog w) s.heap (isInstance (.ref x) (.type "object")) true := I.type.andThen (looks_mroIn X (by unfold mroIn; rw [hc, Option.bind_some, if_neg (by rw [hne]; decide), ho]))
  refine codeAny_call_builtin SF.slot.plain SF.entry (@check_slot (model prog w) _ _ s "object.__setattr__" "object" "__setattr__" (.ref x) [.str name tk, v] [] _ SF.kind SF.split sub (SF.args (.ref x) (.str name tk) v) ?_)
  obtain ⟨attr, ha, hr⟩ := Option.bind_eq_some_iff.mp ht
  have hm : Looks (model prog w) s.heap (mroOf (.ref C)) cd.mro := (looks_clsIn X hc).andThen .now
  have L3 : Looks (model prog w) s.heap (storeTaker? attr) r := by
    cases attr with
    | none => cases hr; exact .now
    | some a =>
      obtain ⟨b, hb, rfl⟩ := Option.map_eq_some_iff.mp hr
      refine (looks_takesIn X hb).andThen ?_
      cases b <;> exact .now
  rw [osa_eq, refuse_eq]
  refine wpAny_bind (wpAny_bind (I.type.here (wpAny_bind (hm.here ?_))))
  rw [hp]
  refine wpAny_pure (wpAny_bind (I.type.here (wpAny_bind ((looks_findIn X ha).here (wpAny_bind (L3.here ?_))))))
  exact h _

/-- the store into a dict that stands -/
theorem store_in {dx : Addr} {es : List DictEntry} {n : Nat} {es' : List DictEntry} {n' : Nat} {E : Value → Shared → Prop} {Q : Fin → Shared → Prop} {pre post : List (Addr × Obj)} (F : Fr h₀ L s.heap m) (N : News h₀ L s.heap (pre ++ (dx, dictOf es n) :: post))
    (hl : (getL name es).isSome = true) (h1 : ∀ p ∈ pre, p.1 ≠ dx) (h2 : ∀ p ∈ post, p.1 ≠ dx)
    (e : (putL name (PyData.keyHash w.params name) (.str name s.toks) v es, putN name es n) = (es', n')) (hz : es'.length ≤ 1000)
    (h : ∀ h', Fr h₀ L h' m → News h₀ L h' (pre ++ (dx, dictOf es' n') :: post) → Q (.done (.ret .none)) { s with heap := h', toks := s.toks + 1 }) :
    wpAny (model prog w) A (storeInDict dx (.str name tk) name v) Q E s := by
  obtain ⟨e1, e2⟩ := Prod.mk.inj e
  obtain ⟨U1, U2⟩ := news_upd (f := Obj.putName name (PyData.keyHash w.params name) (.str name s.toks) v) (o' := dictOf es' n') F N h1 h2 (by rw [putName_dict, e1, e2]) rfl
  have D := (N (dx, dictOf es n) (by simp)).1
  have D' := (U2 (dx, dictOf es' n') (by simp)).1
  unfold storeInDict newKeyGuard
  refine wpAny_bind (wpAny_pure (wpAny_bind ?_))
  unfold nsSet
  refine wpAny_bind (wpAny_bind (wpAny_askSetting (wpAny_pure (wpAny_bind (wpAny_mkText (wpAny_bind (wpAny_loadPart D ?_)))))))
  dsimp only
  have c : (!es.toArray.any (·.key.isStr name) && es.toArray.any (·.refKey)) = false := by
    rw [← Array.any_toList, ← Array.any_toList]
    unfold getL at hl
    split at hl
    · rename_i en he
      rw [List.any_eq_true.mpr ⟨en, List.mem_of_find?_eq_some he, List.find?_some he⟩]; rfl
    · split at hl
      · cases hl
      · rename_i z; rw [Bool.not_eq_true] at z; rw [z, Bool.and_false]
  rw [aRefKeyMayBeTheName_at, c]
  refine wpAny_updatePart D ?_
  refine wpAny_bind (wpAny_lookBehind D' (pastItsLine_dict (by rw [List.size_toArray, sizeLine_eq]; omega)) ?_)
  exact wpAny_pure (h _ U1 U2)
end
section
variable {prog : Program} {w : World} {A : Around} {K : Frag} {C x L : Addr} {s : Shared} {h₀ : Heap} {m : Str → Option Value} {E : Value → Shared → Prop} {Q : Unit → Shared → Prop} {name : Str} {v : Value} {cd : ClassData} {fs : Array Value} {sl : Array (Option Value)} {pre post : List (Addr × Obj)}

/-- the first attribute of an exception: its dict is made -/
theorem set_exc_new (F : Fr h₀ L s.heap m) (X₀ : K.In h₀) (N : News h₀ L s.heap (pre ++ (x, (⟨.ref C, none, .fields fs, sl⟩ : Obj)) :: post)) (h1 : ∀ p ∈ pre, p.1 ≠ x) (h2 : ∀ p ∈ post, p.1 ≠ x)
    (hc : clsIn K C = some cd) (hh : cd.hasDict = true) (hp : ∀ self, refuseLoop self "__setattr__" cd.mro = pure ()) (hne : cd.mro.isEmpty = false) (ho : cd.mro.contains (.type "object") = true)
    (ht : takerIn K C name = some none) (hs : findIn K (.ref C) "__setattr__" = some (some (.builtin "object.__setattr__")))
    (h : ∀ d h' t', Fr h₀ L h' m → News h₀ L h' ((d, dictOf [⟨PyData.keyHash w.params name, .str name t', v⟩] 1) :: (pre ++ (x, (⟨.ref C, some d, .fields fs, sl⟩ : Obj)) :: post)) → (∀ p ∈ pre ++ (x, (⟨.ref C, some d, .fields fs, sl⟩ : Obj)) :: post, p.1 ≠ d) → Q () { s with heap := h', toks := s.toks + 2 }) :
    wpAny (model prog w) A (setAttr (.ref x) name v) Q E s := by
  have X := X₀.keeps F.keep
  have I : InstAt s.heap x ⟨.ref C, none, .fields fs, sl⟩ C none := ⟨(N (x, _) (by simp)).1, rfl, rfl, trivial⟩
  refine set_plain X I hs (osa_openE (s := { s with toks := s.toks + 1 }) X I hc hp hne ho ht fun b => ?_)
  refine wpAny_bind (wpAny_pure (wpAny_bind (wpAny_bind (wpAny_loadPart I.at_ (wpAny_bind (Looks.here (s := { s with toks := s.toks + 1 }) (looks_clsIn X hc) ?_))))))
  rw [hh]
  simp only [Bool.not_true, Bool.false_eq_true, if_false, typeHasDict, Bool.or_self]
  refine wpAny_bind (wpAny_alloc' ?_)
  have F1 := F.push (dictOf [] 0)
  have N1 := News.push F N (dictOf [] 0)
  obtain ⟨F2, N2⟩ := news_upd (pre := (s.heap.objs.size, dictOf [] 0) :: pre) (f := fun o => { o with dict := some s.heap.objs.size }) (o' := ⟨.ref C, some s.heap.objs.size, .fields fs, sl⟩) F1 N1
    (fun p hp => by
      rcases List.mem_cons.mp hp with rfl | hp
      · exact Nat.ne_of_gt (Heap.lt_size I.at_)
      · exact h1 p hp) h2 rfl rfl
  refine wpAny_bind (wpAny_update' (N1 (x, (⟨.ref C, none, .fields fs, sl⟩ : Obj)) (by simp)).1 ?_)
  refine wpAny_pure ?_
  have hlt : ∀ p ∈ pre ++ (x, (⟨.ref C, some s.heap.objs.size, .fields fs, sl⟩ : Obj)) :: post, p.1 ≠ s.heap.objs.size := fun p hp => by
    rcases List.mem_append.mp hp with hp | hp
    · exact Nat.ne_of_lt (Heap.lt_size (N p (List.mem_append.mpr (.inl hp))).1)
    · rcases List.mem_cons.mp hp with rfl | hp
      · exact Nat.ne_of_lt (Heap.lt_size I.at_)
      · exact Nat.ne_of_lt (Heap.lt_size (N p (List.mem_append.mpr (.inr (.tail _ hp)))).1)
  refine store_in (pre := []) (post := pre ++ (x, (⟨.ref C, some s.heap.objs.size, .fields fs, sl⟩ : Obj)) :: post) (es := []) (n := 0) F2 N2 rfl (fun _ hp => nomatch hp) hlt rfl (Nat.le_of_ble_eq_true rfl) fun h' F' N' => ?_
  exact h _ _ _ F' N' hlt
/-- a further attribute of an exception -/
theorem set_exc_more {dx : Addr} {es : List DictEntry} {n : Nat} (F : Fr h₀ L s.heap m) (X₀ : K.In h₀) (N : News h₀ L s.heap ((dx, dictOf es n) :: post)) (hxm : (x, (⟨.ref C, some dx, .fields fs, sl⟩ : Obj)) ∈ post) (h2 : ∀ p ∈ post, p.1 ≠ dx)
    (hc : clsIn K C = some cd) (hh : cd.hasDict = true) (hp : ∀ self, refuseLoop self "__setattr__" cd.mro = pure ()) (hne : cd.mro.isEmpty = false) (ho : cd.mro.contains (.type "object") = true)
    (ht : takerIn K C name = some none) (hs : findIn K (.ref C) "__setattr__" = some (some (.builtin "object.__setattr__")))
    (hl : (getL name es).isSome = true) (hz : ∀ t, (putL name (PyData.keyHash w.params name) (.str name t) v es).length ≤ 1000)
    (h : ∀ h' t, Fr h₀ L h' m → News h₀ L h' ((dx, dictOf (putL name (PyData.keyHash w.params name) (.str name t) v es) (putN name es n)) :: post) → Q () { s with heap := h', toks := s.toks + 2 }) :
    wpAny (model prog w) A (setAttr (.ref x) name v) Q E s := by
  have X := X₀.keeps F.keep
  have I : InstAt s.heap x ⟨.ref C, some dx, .fields fs, sl⟩ C (some (dictOf es n)) := ⟨(N (x, _) (.tail _ hxm)).1, rfl, rfl, (N (dx, _) (.head _)).1⟩
  refine set_plain X I hs (osa_openE (s := { s with toks := s.toks + 1 }) X I hc hp hne ho ht fun b => ?_)
  refine wpAny_bind (wpAny_pure (wpAny_bind (wpAny_bind (wpAny_loadPart I.at_ (wpAny_bind (Looks.here (s := { s with toks := s.toks + 1 }) (looks_clsIn X hc) ?_))))))
  rw [hh]
  refine wpAny_pure (a := some dx) ?_
  refine store_in (s := { s with toks := s.toks + 1 }) (pre := []) F N hl (fun _ hp => nomatch hp) h2 rfl (hz _) fun h' F' N' => ?_
  exact h _ _ F' N'
end
end MExc
section MExc2
section
variable {prog : Program} {w : World} {A : Around} {E : Value → Shared → Prop} {h : Heap} {g : Array GenState} {d : Drawn} {t : Nat} {os : OsState}
variable {nm q : Str} {C N : Addr} {bs bm bmB : List Value} {hdct : Bool} {sn : List Str} {sub : List Value} {ab : Bool} {col : Option Bool} {dd : Option Addr} {k0 k1 k2 k3 k5 : Option Value} {B newId initId : String}

/-- an own exception over own ones, with an `__init__` of its own: the maker's run -/
theorem type_call_initE (F : ExcBaseFacts B newId initId bmB) (T : OwnTail h bmB bm) {mN : Str → Option Value} {rest : List Value} {fI : Addr} {oI : Obj} {Q : Fin → Shared → Prop}
    (hC : h.get? C = some (excClassObj nm q C N bs bm hdct sn sub ab col dd k0 k1 k2 k3 k5 newId)) (hn : h.Ns N mN) (hi : mN "__init__" = some (.ref fI))
    (hfI : h.get? fI = some oI) (hfc : oI.cls = .type "function") (hrest : rest.length ≤ sizeLine)
    (hq : ∀ h' e, Heap.MadeExcOf h h' e (.ref C) rest →
      wpAny (model prog w) A (call (.ref fI) (.ref e :: rest)) (fun r s' => r = .none ∧ Q (.done (.ret (.ref e))) s') E ⟨h', g, d, t, os⟩) :
    wpAny (model prog w) A (Builtin.«type.__call__» ⟨.ref C :: rest, []⟩) Q E ⟨h, g, d, t, os⟩ := by
  repeat (first | with_reducible refine wpAny_loadPart_at hC ?_ | with_reducible refine wpAny_madeBy_exc hC ?_ | wp_step)
  refine codeAny_call_builtin_code (Code.quiet_builtin _ F.quiet) (wpAny_check_new_subU F F.hasB T hC ?_)
  refine codeAny_exc_new_subU F F.hasB F T hC ?_ hrest
  show wpAny _ _ _ _ _ _
  let tup : Obj := { cls := .type "tuple", data := .seq rest.toArray }
  let ins : Obj := { cls := .ref C, data := .fields #[.ref h.objs.size, .none, .none, .none, .bool false, .none] }
  have up : ∀ b o, h.get? b = some o → ((h.push tup).push ins).get? b = some o := fun b o e => Heap.get?_push_of_some _ (Heap.get?_push_of_some _ e)
  have hn₁ : ((h.push tup).push ins).Ns N mN := let ⟨o, es, ep, e, r⟩ := hn; ⟨o, es, ep, up _ _ e, r⟩
  have hget : ((h.push tup).push ins).get? (h.objs.size + 1) = some ins := by heap_get
  have hcC : (Value.ref C :: bm).contains (.ref C) = true := by simp
  have T₁ := T.keeps (h' := (h.push tup).push ins) up
  unfold isInstance
  repeat (first | with_reducible refine wpAny_loadPart_at hget ?_ | (with_reducible refine wpAny_isSubtype_exc (up _ _ hC) ?_; rw [hcC]) | wp_step)
  show wpAny _ _ (typeLookup (.ref C) _) _ _ _
  refine wpAny_typeLookup_tail (up _ _ hC) hn₁ T₁ F.mroIs F.init.lookup ?_
  rw [hi]
  refine wpAny_holding (wpAny_bind ?_)
  unfold bindSpecial
  refine wpAny_bind (wpAny_typeOf (T := "function") ⟨_, up _ _ hfI, hfc⟩ ?_)
  rw [if_pos (by decide)]
  refine wpAny_pure (wpAny_bind (wpAny_mono (hq _ (h.objs.size + 1) ⟨up, Heap.get?_none_of_le (Nat.le_succ _), h.objs.size, hget, Heap.get?_none_of_le (Nat.le_refl _), ?_⟩) (fun r s' hr => ?_) fun _ _ x => x))
  · exact Heap.get?_push_of_some _ (Heap.get?_push_at rfl rfl)
  · obtain ⟨rfl, hQ⟩ := hr
    wp_walk
    exact hQ

theorem call_initE (F : ExcBaseFacts B newId initId bmB) (T : OwnTail h bmB bm) {mN : Str → Option Value} {rest : List Value} {fI : Addr} {oI : Obj} {Q : Value → Shared → Prop}
    (hC : h.get? C = some (excClassObj nm q C N bs bm hdct sn sub ab col dd k0 k1 k2 k3 k5 newId)) (hn : h.Ns N mN) (hi : mN "__init__" = some (.ref fI))
    (hfI : h.get? fI = some oI) (hfc : oI.cls = .type "function") (hrest : rest.length ≤ sizeLine)
    (hq : ∀ h' e, Heap.MadeExcOf h h' e (.ref C) rest →
      wpAny (model prog w) (A.under (.builtin "type.__call__" ⟨.ref C :: rest, []⟩)) (call (.ref fI) (.ref e :: rest)) (fun r s' => r = .none ∧ Q (.ref e) s') E ⟨h', g, d, t, os⟩) :
    wpAny (model prog w) A (call (.ref C) rest) Q E ⟨h, g, d, t, os⟩ := by
  have f1 := tc_lookup
  have f2 := tc_bind (.ref C)
  have hT : (⟨h, g, d, t, os⟩ : Shared).TypeIs (.ref C) "type" := ⟨_, hC, rfl⟩
  refine wpAny_call (codeAny_of_tree ?_)
  show wpAny _ _ (callAny (.ref C) _) _ _ _
  repeat (any_goals (first | assumption | with_reducible refine wpAny_loadPart_at hC ?_ | wp_step))
  refine ⟨rfl, ?_⟩
  refine codeAny_call_builtin_at (Code.quiet_builtin _ (by decide +kernel)) entry_typeCall (wpAny_check_type_call_sub hC (type_call_initE F T hC hn hi hfI hfc hrest fun h' e hm => ?_))
  exact hq h' e hm

/-- the raise of an object that bears a dict -/
theorem raiseStmt_dict {M : Model} {env : Env} {s : Shared} {x : Sem Value} {Q : Flow → Shared → Prop} (hbase : bm.contains (.type "BaseException") = true) (hh : A.handled = none)
    (h : wpAny M A x (fun v s₁ => ∃ e t dx, v = .ref e ∧ s₁.heap.get? C = some (excClassObj nm q C N bs bm hdct sn sub ab col dd k0 k1 k2 k3 k5 newId) ∧
      s₁.heap.get? e = some { cls := .ref C, dict := some dx, data := .fields #[.ref t, .none, .none, .none, .bool false, .none] } ∧ E (.ref e) s₁) E s) :
    wpAny M A (raiseStmt env (some x) none) Q E s := by
  have hcB : (Value.ref C :: bm).contains (.type "BaseException") = true := by rw [List.contains_cons, hbase, Bool.or_true]
  unfold raiseStmt
  refine wpAny_bind (wpAny_mono h (fun v s₁ h₁ => ?_) fun _ _ x => x)
  obtain ⟨e, t, dx, rfl, hC, he, hE⟩ := h₁
  obtain ⟨hp, g, d, tk, os⟩ := s₁
  repeat (first | with_reducible refine wpAny_loadPart_at he ?_ | with_reducible refine wpAny_loadPart_at hC ?_ | (with_reducible refine wpAny_isSubtype_exc hC ?_; rw [hcB]) | wp_step)
  exact wpAny_raiseNew_none hh hE
end
/-- an object of ReadError -/
abbrev excO (dx t : Addr) : Obj := { cls := .ref 51, dict := some dx, data := .fields #[.ref t, .none, .none, .none, .bool false, .none] }
theorem cls51 (P : Params) : List.lookup 51 (hd.heap_1 P) = some (excClassObj (Str.ofString "ReadError") (Str.ofString "ReadError") 51 50 [.ref 31] [.ref 31, .type "Exception", .type "BaseException", .type "object"] true [] [] false none none (some (.ref 35)) none (some (.str (Str.ofString "ReadError") 216)) (some (.str (Str.ofString "ReadError") 224)) (some (.bool true)) "Exception.__new__") := by
  kernel_rfl
theorem tail51 (P : Params) : tailIn (hd.heap_1 P) [.type "Exception", .type "BaseException", .type "object"] [.ref 31, .type "Exception", .type "BaseException", .type "object"] = true := by
  kernel_rfl
theorem init51 (P : Params) : nsIn (hd.heap_1 P) 50 "__init__" = some (some (.ref 48)) := by
  kernel_rfl
theorem nsok51 (P : Params) : nsOkIn (hd.heap_1 P) 50 = true := by
  kernel_rfl
theorem fn48 (P : Params) : ∃ o, List.lookup 48 (hd.heap_1 P) = some o ∧ o.cls = .type "function" := by
  have h : (List.lookup 48 (hd.heap_1 P)).map (·.cls) = some (.type "function") := by kernel_rfl
  exact Option.map_eq_some_iff.mp h
theorem nsInOf {K : Frag} {h : Heap} {N : Addr} {n : Str} {v : Value} {mg : Str → Option Value} (X : K.In h) (G : h.Ns N mg) (e : nsIn K N n = some (some v)) : mg n = some v := by
  obtain ⟨o, es, ep, ho, hd', _, hf⟩ := G
  unfold nsIn at e
  split at e
  · rename_i c d es' n' sl q
    have := X _ _ q
    rw [ho] at this
    cases this
    cases hd'
    split at e
    · rename_i en he
      cases e
      rw [← hf]
      unfold nsFind findBy
      rw [← Array.find?_toList, he]
      rfl
    · split at e <;> cases e
  · cases e
theorem cd51 (P : Params) : clsIn (hd.heap_1 P) 51 = some { name := Str.ofString "ReadError", bases := [Value.ref 31], mro := [Value.ref 51, Value.ref 31, Value.type "Exception", Value.type "BaseException", Value.type "object"], ns := 50, qualname := Str.ofString "ReadError" } := by kernel_rfl
theorem pass51 (self : Value) : refuseLoop self "__setattr__" [.ref 51, .ref 31, .type "Exception", .type "BaseException", .type "object"] = pure () := by
  rw [refuseLoop_ref, refuseLoop_ref]; exact PySem.F.store_Exception.passes self
theorem taker51k (P : Params) : takerIn (hd.heap_1 P) 51 "kind" = some none := by k_is
theorem taker51a (P : Params) : takerIn (hd.heap_1 P) 51 "at" = some none := by k_is
theorem set51 (P : Params) : findIn (hd.heap_1 P) (.ref 51) "__setattr__" = some (some (.builtin "object.__setattr__")) := by k_is
end MExc2
section MExc3
theorem readerr_c (w : World) (k : Str) (tk' : Tok) (i : Int) (ti : Tok) (news : Led) : Doing w 51 [.str k tk', .int i ti] 4 64 news (fun r n' => ∃ e t dx, r = .ref e ∧ n' = (e, excO dx t) :: news ∧ (∀ p ∈ news, p.1 ≠ e)) := by
  unfold Doing
  intro mean mg mb dp un gd cn cs a ccd cl outer A₀ base h₀ L m s Q E B F X N T hk hd' hu hret
  obtain ⟨h, g, d, t, os⟩ := s
  have Xh := X.keeps F.keep
  have hN : h.Ns 50 (h.nsMap 50) := .of_isNs (isNs_of_in Xh (nsok51 w.params))
  obtain ⟨oI, hI, hIc⟩ := fn48 w.params
  refine call_initE (A := ktrTop dp un gd cn cs L a ccd cl outer) PySem.F.excBase_Exception (tail_of_in Xh (tail51 w.params)) (Xh _ _ (cls51 w.params)) hN (nsInOf Xh hN (init51 w.params)) (Xh _ _ hI) hIc (by show 2 ≤ sizeLine; rw [sizeLine_eq]; omega) fun h' e hm => ?_
  obtain ⟨t0, he, ht0, _⟩ := hm.there
  have F' : Fr h₀ L h' m := F.keeps hm.keeps
  have hLe : ∀ b o, h.get? b = some o → b ≠ e := fun b o q z => by rw [z, hm.new] at q; cases q
  have N' : News h₀ L h' ([] ++ (e, (⟨.ref 51, none, .fields #[.ref t0, .none, .none, .none, .bool false, .none], #[]⟩ : Obj)) :: news) := fun p hp => by
    rcases List.mem_cons.mp hp with rfl | hp
    · refine ⟨he, ?_, ?_⟩
      · obtain ⟨oL, _, _, hL, _⟩ := F.ns
        exact (hLe _ _ hL).symm
      · cases q : h₀.get? e with
        | none => rfl
        | some o => have := F.keep _ _ q; rw [hm.new] at this; cases this
    · exact ⟨hm.keeps _ _ (N p hp).1, (N p hp).2⟩
  have hne : ∀ p ∈ news, p.1 ≠ e := fun p hp => hLe _ _ (N p hp).1
  clear he ht0 N
  refine wpAny_call ?_
  k_dflt ktr_enter
  k_steps
  refine set_exc_new (K := hd.heap_1 w.params) (pre := []) (by assumption) (by assumption) (by assumption) (fun _ hp => nomatch hp) hne (cd51 _) rfl pass51 rfl (by decide +kernel) (taker51k _) (set51 _) fun d1 h1 t1 F1 N1 hl1 => ?_
  dsimp only
  k_steps
  refine set_exc_more (K := hd.heap_1 w.params) (x := e) (dx := d1) (by assumption) (by assumption) (by assumption) (.head _) hl1 (cd51 _) rfl pass51 rfl (by decide +kernel) (taker51a _) (set51 _) rfl (fun _ => Nat.le_of_ble_eq_true rfl) fun h2 t2 F2 N2 => ?_
  dsimp only
  k_steps
  exact hret _ _ _ _ (by assumption) (cb_drop (by assumption) (fun p hp => .tail _ hp)) ⟨e, t0, d1, rfl, rfl, hne⟩

section
variable {M : Model} {A : Around} {E : Value → Shared → Prop} {s' : Shared} {base g : Heap} {outer : List Env} {L a e dx t : Addr} {m : Str → Option Value} {name : Str} {scope : Scope} {cd : Value} {Q : Unit → Shared → Prop} {news : List (Addr × Obj)}
theorem leave_newO (K : Below A base outer g) (F : Fr g L s'.heap m) (N : News g L s'.heap ((e, excO dx t) :: news)) (hne : ∀ p ∈ news, p.1 ≠ e)
    (hQ : ∀ h', RaisedN base outer e (.ref 51) news h' → g.UpToSlots h' → Q () { s' with heap := h' }) (hk : scope.kind = .function := by rfl) :
    wpAny M (A.deeper (envOf name scope L a cd)) (leaving (envOf name scope L a cd) (.ref e)) Q E s' := by
  have K' := K.push (name := name) (a := a) (cd := cd) F hk
  have hin : ∀ env ∈ (envOf name scope L a cd :: outer), ∀ b, env.frame = some b → b ∈ e :: (envOf name scope L a cd :: outer).filterMap (·.frame) := fun env he b hb => .tail _ (List.mem_filterMap.mpr ⟨env, he, hb⟩)
  have hge : g.get? e = none := (N _ (.head _)).2.2
  have st : base.StaysIn (hideAll s'.heap (e :: (envOf name scope L a cd :: outer).filterMap (·.frame))) := fun b o q => hideAll_get _ (K'.stays b o q) fun hm => by
    rcases List.mem_cons.mp hm with rfl | hm
    · rw [K.stays _ _ q] at hge; cases hge
    · rw [(K'.frames.mem hm).1] at q; cases q
  have hl : ∀ q ∈ news, (hideAll s'.heap (e :: (envOf name scope L a cd :: outer).filterMap (·.frame))).get? q.1 = some q.2 ∧ base.get? q.1 = none := fun q hq => by
    refine ⟨hideAll_get _ (N q (.tail _ hq)).1 fun hm => ?_, fresh_of_stays K.stays (N q (.tail _ hq)).2.2⟩
    rcases List.mem_cons.mp hm with hm | hm
    · exact hne q hq hm
    · obtain ⟨env, he, hf⟩ := List.mem_filterMap.mp hm
      rcases List.mem_cons.mp he with rfl | he
      · exact (N q (.tail _ hq)).2.1 (Option.some.inj hf).symm
      · obtain ⟨o, ho, _⟩ := (K.frames.mem (List.mem_filterMap.mpr ⟨env, he, hf⟩)).2
        rw [(N q (.tail _ hq)).2.2] at ho; cases ho
  have he := (N _ (.head _)).1
  have hen : (hideAll s'.heap (e :: (envOf name scope L a cd :: outer).filterMap (·.frame))).get? e = none := hideAll_none _ (.head _)
  refine wpAny_leaving_firstW (a0 := .ref t) K'.stack (funFrames_hide K'.frames hin) rfl he (fun b o hb => of_hideAll _ hb) hen rfl rfl rfl fun h' hL => ?_
  obtain ⟨k1, ⟨_, _, k2⟩, k3, k4⟩ := hL
  exact hQ h' ⟨_, .ref t, st, hl, k1, hen, k2, k3⟩ ((Heap.UpToSlots.of_keeps F.keep).trans k4)
end

/-- the end of a raise of ReadError: the object is at hand -/
def RaisePost (E : Value → Shared → Prop) (w : World) (v : Value) (s : Shared) : Prop :=
  ∃ e t dx, v = .ref e ∧ (hd.heap_1 w.params).In s.heap ∧ s.heap.get? e = some (excO dx t) ∧ E (.ref e) s
theorem raise_stmt {w : World} {A : Around} {E : Value → Shared → Prop} {Q : Flow → Shared → Prop} {s : Shared} {env : Env} {f : Expr} {args : List Expr} {cpos pos : Pos} (hh : A.handled = none)
    (h : wpAny (model PySem.Challenge.rw_pq1323_01.row.prog w) A (eval (.Call f args [] cpos) env) (RaisePost E w) E s) :
    wpAny (model PySem.Challenge.rw_pq1323_01.row.prog w) A (exec (.Raise (some (.Call f args [] cpos)) none pos) env) Q E s := by
  rw [arm_exec_Raise]
  refine wpAny_bind (wpAny_standAt (raiseStmt_dict (nm := Str.ofString "ReadError") (q := Str.ofString "ReadError") (C := 51) (N := 50) (bs := [.ref 31]) (bm := [.ref 31, .type "Exception", .type "BaseException", .type "object"]) (hdct := true) (sn := []) (sub := []) (ab := false) (col := none) (dd := none) (k0 := some (.ref 35)) (k1 := none) (k2 := some (.str (Str.ofString "ReadError") 216)) (k3 := some (.str (Str.ofString "ReadError") 224)) (k5 := some (.bool true)) (newId := "Exception.__new__") (by decide +kernel) hh (wpAny_bind (wpAny_mono h (fun v s₃ h₃ => wpAny_bind (wpAny_standAt (wpAny_pure ?_))) fun _ _ x => x))))
  obtain ⟨e, t, dx, rfl, X, he, hE⟩ := h₃
  exact ⟨e, t, dx, rfl, X _ _ (cls51 w.params), he, hE⟩
end MExc3
section MExc4
open PySem PySem.W PyProof.Rows PySem.Calls PyProof.V PySem.Spec
theorem rr51 (P : Params) : nsIn (hd.heap_1 P) mainGlobals "ReadError" = some (some (.ref 51)) := by kernel_rfl
section
variable {w : World} {A₀ : Around} {E : Value → Shared → Prop} {s' : Shared} {h₀ h : Heap} {outer : List Env} {L a e : Addr} {m : Str → Option Value} {name : Str} {scope : Scope} {cd : Value}
  {b₀ : Stmt} {suite : List Stmt} {pos np : Pos} {rest : List ExceptHandler} {Q : Flow → Shared → Prop} {news : List (Addr × Obj)} {p : Program} {loose : List Str} {mg mb : Str → Option Value}
theorem caught_read (hst : A₀.frames = some outer) (hns : h.Ns L m) (hab : h₀.objs.size ≤ L) (hsm : h.UpToSlots s'.heap) (R : RaisedN h₀ (envOf name scope L a cd :: outer) e (.ref 51) news s'.heap)
    (X : (hd.heap_1 w.params).In h₀) (T : TopRead p loose mg mb h₀)
    (k : ∀ h', Fr h₀ L h' m → News h₀ L h' news → s'.heap.UpToSlots h' →
      wpAny (model PySem.Challenge.rw_pq1323_01.row.prog w) ((A₀.deeper (envOf name scope L a cd)).mark (some (.ref e))) (execs (b₀ :: suite) (envOf name scope L a cd)) Q E { s' with heap := h' })
    (hk : scope.kind = .function := by rfl) (hx : (envOf name scope L a cd).kindOf "ReadError" = some .globalImplicit := by rfl)
    (hE : PassesOwnAt (model PySem.Challenge.rw_pq1323_01.row.prog w) ((A₀.deeper (envOf name scope L a cd)).mark (some (.ref e))) (A₀.deeper (envOf name scope L a cd)) (envOf name scope L a cd) E := by passes_own) :
    wpAny (model PySem.Challenge.rw_pq1323_01.row.prog w) (A₀.deeper (envOf name scope L a cd)) (noteFrame (.ref e) (envOf name scope L a cd))
      (fun _ s₂ => wpAny (model PySem.Challenge.rw_pq1323_01.row.prog w) (A₀.deeper (envOf name scope L a cd)) (setFlight (.ref e) none) (fun _ s₃ =>
        wpAny (model PySem.Challenge.rw_pq1323_01.row.prog w) (A₀.deeper (envOf name scope L a cd)) (handleBy (.ref e) (envOf name scope L a cd) (.ExceptHandler (some (.Name "ReadError" np)) none (b₀ :: suite) pos :: rest)) Q E s₃) E s₂) E s' := by
  obtain ⟨B, a0, hB, hl, hfl⟩ := R
  have hL : B.get? L = none := by
    obtain ⟨_, ⟨L', _, hf, hn', _⟩, _⟩ := hfl.2.2.1
    obtain rfl : L = L' := Option.some.inj hf
    exact hn'
  refine wpAny_looks_onW (Around.frames_deeper hst) rfl hfl fun h₄ hheld₄ hsm₄ => ?_
  refine wpAny_landsW hheld₄ fun h₅ hheld hsm₅' => ?_
  have hsm₅ := hsm₄.trans hsm₅'
  have hheld' := flyingW_base hB hheld
  have F₅ : Fr h₀ L h₅ m := ⟨(hsm.trans hsm₅).ns hns, hheld'.1, hab⟩
  obtain ⟨ob, hob, hobc⟩ := hheld'.there
  refine wpAny_handleBy_cons (codeAny_handlers_test (name_K F₅ X T (rr51 w.params) ?_ hk hx (by decide))) (by intro q; cases q)
  refine wpAny_excMatches_sub_self (X.keeps F₅.keep _ _ (cls51 w.params)) hob hobc (by decide +kernel) (codeAny_handlers_suite ?_)
  refine lands_againW hheld fun h₆ hfl₆ hsm₆ => ?_
  have hfl₆' := flyingW_base hB hfl₆
  have F₆ : Fr h₀ L h₆ m := ⟨((hsm.trans hsm₅).trans hsm₆).ns hns, hfl₆'.1, hab⟩
  exact wpAny_passesOwnAt hE (k h₆ F₆ (fun q hq => ⟨hfl₆.1 _ _ (hl q hq).1, (fun z => by have := (hl q hq).1; rw [z, hL] at this; cases this), (hl q hq).2⟩) (hsm₅.trans hsm₆))
end

/-- the end of a def that catches: as of any def, or told at once -/
def LeaveT (h₀ : Heap) (L : Addr) (m : Str → Option Value) (g : Heap) (R : Result → Shared → Prop) (v : Value) (s' : Shared) : Prop := LeaveK h₀ L m g R v s' ∨ R (.ok (.ret v)) s'
section
variable {prog : Program} {w : World} {A A₀ : Around} {E : Value → Shared → Prop} {s : Shared} {K : Frag} {C L : Addr} {h₀ base : Heap} {m mg mb : Str → Option Value} {news : List (Addr × Obj)} {p : Program} {loose : List Str} {mean : ExcName → Option Value}
theorem code_defT {env : Env} {outer : List Env} {R : Result → Shared → Prop} {name qual : Str} {params : Arguments} {body : List Stmt} {scope : Scope} {dV kV doc pm cdv ct oc : Value} {an od : Option Addr} {osl : Array (Option Value)} {f : Addr} {args : Args} {binds : List (Str × Value)}
    (B : Below A₀ base outer h₀) (F : Fr h₀ L s.heap m) (X₀ : K.In h₀) (N : News h₀ L s.heap news) (T : Top p loose mean mg mb h₀) (hA : A.frames = some (env :: outer)) (hf : env.frame = some L) (hke : env.scope.kind = .function)
    (ho : K.lookup f = some ⟨oc, od, .func (fnOf name qual params body scope dV kV doc pm an cdv ct), osl⟩) (hcd : codeIn K cdv qual = true) (hroom : A.depth < recursionLimit)
    (hbind : BindsTo s (fnOf name qual params body scope dV kV doc pm an cdv ct) args binds) (hloc : ∀ y ∈ binds, scope.names.lookup y.1 = some .local)
    (h : ∀ g L' h₁, Fr h₀ L g m → Fr g L' h₁ (fun y => binds.reverse.lookup y) → News g L' h₁ news → Below A base (env :: outer) g → K.In g → Top p loose mean mg mb g →
      wpAny (model prog w) (A.deeper (envOf qual scope L' f cdv)) (execs body (envOf qual scope L' f cdv))
        (fun fl s' => LeaveT h₀ L m g R (match fl with | .ret v => v | _ => .none) s')
        (fun e s' => wpAny (model prog w) (A.deeper (envOf qual scope L' f cdv)) (leaving (envOf qual scope L' f cdv) e) (fun _ s'' => R (.error e) s'') (fun e' s'' => R (.error e') s'') s')
        { s with heap := h₁, toks := s.toks + binds.length })
    (hcell : ∀ x ∈ scope.names, x.2 ≠ .cell) (hco : scope.isCoroutine = false) (hgen : scope.isGenerator = false) (hk : scope.kind = .function) : codeAny (model prog w) A (.call (.ref f) args) R s := by
  obtain ⟨FG, BG, st, lv⟩ := groundX (R := R) B F N hA hf hke
  have X := X₀.keeps F.keep
  refine codeAny_call_def (fd := fnOf name qual params body scope dV kV doc pm an cdv ct) (body := body) (binds := binds) hroom (X _ _ ho) rfl (T.nolimit.keeps F.keep) (codeRec_of X hcd) rfl hbind hcell hloc (fun h₁ hns hk₁ => ?_) hco hgen hk
  exact wpAny_mono (h _ s.heap.objs.size h₁ FG ⟨hns, fun b o e => hk₁ b o (of_hideAll _ e), Nat.le_of_eq (hideAll_size _ _)⟩
    (fun p hp => ⟨hk₁ _ _ (N p hp).1, Nat.ne_of_lt (Heap.lt_size (N p hp).1), hideAll_none _ (List.mem_map_of_mem hp)⟩) BG (X₀.keeps st) (T.keeps st)) (fun fl s' hl => hl.elim (lv _ _) id) fun _ _ y => y
end
end MExc4
section M1
theorem fill2 : (PySem.Challenge.rw_pq1323_01, hd.heap_1) = (PySem.Challenge.rw_pq1323_01, hd.heap_1) := by
  k_fill
  rfl

theorem is_letter_c (w : World) (o : Option Nat) (t : Tok) (news : Led) : Doing w 132 [.str (chr1 o) t] 1 8 news (fun r n' => r = .bool (pLetter o) ∧ n' = news) := by
  unfold Doing
  intro mean mg mb dp un gd cn cs a ccd cl outer A₀ base h₀ L m s Q E B F X N T hk hd' hu hret
  cases o with
  | none => 
    k_steps
    all_goals refine hret _ _ _ _ (by k_asm) (by k_asm) ⟨?_, rfl⟩
    all_goals decide +kernel
  | some k =>
    k_steps
    all_goals refine hret _ _ _ _ (by k_asm) (by k_asm) ⟨?_, rfl⟩
    all_goals (simp only [codes_a, codes_z, codes_A, codes_Z, chr1_lt, lt_chr1, lt_one] at *)
    all_goals (rw [Value.bool.injEq, Bool.eq_iff_iff]; simp [pLetter]; omega)
theorem is_digit_c (w : World) (o : Option Nat) (t : Tok) (news : Led) : Doing w 139 [.str (chr1 o) t] 1 8 news (fun r n' => r = .bool (pDigit o) ∧ n' = news) := by
  unfold Doing
  intro mean mg mb dp un gd cn cs a ccd cl outer A₀ base h₀ L m s Q E B F X N T hk hd' hu hret
  cases o with
  | none => 
    k_steps
    all_goals refine hret _ _ _ _ (by k_asm) (by k_asm) ⟨?_, rfl⟩
    all_goals decide +kernel
  | some k =>
    k_steps
    all_goals refine hret _ _ _ _ (by k_asm) (by k_asm) ⟨?_, rfl⟩
    all_goals (simp only [codes_0, codes_9, chr1_lt, lt_chr1, lt_one] at *)
    all_goals (rw [Value.bool.injEq, Bool.eq_iff_iff]; simp [pDigit]; omega)
local macro_rules | `(tactic| walk_at "call ref") => `(tactic| (k_here; (with_reducible show wpAny _ _ (call (Value.ref 132) [Value.str (chr1 _) _]) _ _ _); k_dflt (refine' Doing.v0 (D := is_letter_c _ _ _ _) (ret := ?_)); intro h9 tk9 F9 N9; walk_at "uS"))
local macro_rules | `(tactic| walk_at "call ref") => `(tactic| (k_here; (with_reducible show wpAny _ _ (call (Value.ref 139) [Value.str (chr1 _) _]) _ _ _); k_dflt (refine' Doing.v0 (D := is_digit_c _ _ _ _) (ret := ?_)); intro h9 tk9 F9 N9; walk_at "uS"))
theorem is_name_char_c (w : World) (o : Option Nat) (t : Tok) (news : Led) : Doing w 146 [.str (chr1 o) t] 2 16 news (fun r n' => r = .bool (pName o) ∧ n' = news) := by
  unfold Doing
  intro mean mg mb dp un gd cn cs a ccd cl outer A₀ base h₀ L m s Q E B F X N T hk hd' hu hret
  k_steps
  all_goals refine hret _ _ _ _ (by k_asm) (by k_asm) ⟨?_, rfl⟩
  all_goals (try simp only [lit_dot, lit_us, chr1_beq] at *)
  all_goals (cases o with | none => simp_all [pName, pLetter, pDigit] | some k => (simp_all [pName] <;> (rw [Bool.eq_iff_iff]; simp)))
theorem char_c (w : World) (x dx kt : Addr) (k1 k2 k3 k4 kk : Tok) (tx : Str) (tt : Tok) (i : Int) (ti : Tok) (nl : Bool) (rest : Led) (j : Int) (tj : Tok) (hl : tx.length ≤ 1000) (hj : 0 ≤ j) :
   Doing w 196 [.ref x, .int j tj] 1 8 (lexLed w x dx kt k1 k2 k3 k4 kk tx tt i ti nl rest) (fun r n' => ∃ t', r = .str (chr1 (sfx tx j).head?) t' ∧ n' = lexLed w x dx kt k1 k2 k3 k4 kk tx tt i ti nl rest) := by
  unfold Doing
  intro mean mg mb dp un gd cn cs a ccd cl outer A₀ base h₀ L m s Q E B F X N T hk hd' hu hret
  k_steps
  refine hret _ _ _ _ (by k_asm) (by k_asm) ⟨_, congrArg (fun z => Value.str z _) (slice_char tx j hj), rfl⟩
end M1
local macro_rules | `(tactic| walk_at "call ref") => `(tactic| (k_here; (with_reducible show wpAny _ _ (call (Value.ref 132) [Value.str (chr1 _) _]) _ _ _); k_dflt (refine' Doing.v0 (D := is_letter_c _ _ _ _) (ret := ?_)); intro h9 tk9 F9 N9; walk_at "uS"))
local macro_rules | `(tactic| walk_at "call ref") => `(tactic| (k_here; (with_reducible show wpAny _ _ (call (Value.ref 139) [Value.str (chr1 _) _]) _ _ _); k_dflt (refine' Doing.v0 (D := is_digit_c _ _ _ _) (ret := ?_)); intro h9 tk9 F9 N9; walk_at "uS"))
local macro_rules | `(tactic| walk_at "call ref") => `(tactic| (k_here; (with_reducible show wpAny _ _ (call (Value.ref 146) [Value.str (chr1 _) _]) _ _ _); k_dflt (refine' Doing.v0 (D := is_name_char_c _ _ _ _) (ret := ?_)); intro h9 tk9 F9 N9; walk_at "uS"))
local macro_rules | `(tactic| walk_at "call ref") => `(tactic| (k_here; (with_reducible show wpAny _ _ (call (Value.ref 196) [Value.ref _, Value.int _ _]) _ _ _); k_dflt (refine' Doing.v1 (D := char_c _ _ _ _ _ _ _ _ _ _ _ _ _ _ _ _ _ (by first | assumption | omega) (by omega)) (ret := ?_)); intro t9 h9 tk9 F9 N9; walk_at "uS"))
section M2
def run (p : Nat → Bool) (l : List Nat) : Nat := (l.takeWhile p).length
theorem run_nil (p : Nat → Bool) : run p [] = 0 := rfl
theorem run_pos (p : Nat → Bool) (c : Nat) (l : List Nat) (h : p c = true) : run p (c :: l) = run p l + 1 := by simp [run, List.takeWhile_cons, h]
theorem run_neg (p : Nat → Bool) (c : Nat) (l : List Nat) (h : p c = false) : run p (c :: l) = 0 := by simp [run, List.takeWhile_cons, h]
theorem run_stop (p : Option Nat → Bool) (l : List Nat) (h : p l.head? = false) : run (fun c => p (some c)) l = 0 := by
  cases l with
  | nil => rfl
  | cons c t => exact run_neg _ _ _ h
theorem run_go (p : Option Nat → Bool) (l : List Nat) (h0 : p none = false) (h : p l.head? = true) : run (fun c => p (some c)) l = run (fun c => p (some c)) l.tail + 1 ∧ l ≠ [] := by
  cases l with
  | nil => rw [List.head?_nil, h0] at h; cases h
  | cons c t => exact ⟨run_pos (fun c => p (some c)) _ _ h, by simp⟩
theorem sfx_ne (tx : Str) (i : Int) (h : 0 ≤ i) (h2 : i ≤ tx.length) (hn : sfx tx i ≠ []) : i + 1 ≤ tx.length := by
  have := sfx_len tx i h h2
  cases hs : sfx tx i with
  | nil => exact absurd hs hn
  | cons c t => rw [hs, List.length_cons] at this; omega
theorem digits_end_c (w : World) (x dx kt : Addr) (k1 k2 k3 k4 kk : Tok) (tx : Str) (tt : Tok) (i : Int) (ti : Tok) (nl : Bool) (rest : Led) (j : Int) (tj : Tok) (hl : tx.length ≤ 1000) (hj : 0 ≤ j) (hj2 : j ≤ tx.length) :
   Doing w 245 [.ref x, .int j tj] 4 32 (lexLed w x dx kt k1 k2 k3 k4 kk tx tt i ti nl rest) (fun r n' => ∃ t', r = .int (j + run (fun c => pDigit (some c)) (sfx tx j)) t' ∧ n' = lexLed w x dx kt k1 k2 k3 k4 kk tx tt i ti nl rest) := by
  unfold Doing
  intro mean mg mb dp un gd cn cs a ccd cl outer A₀ base h₀ L m s Q E B F X N T hk hd' hu hret
  k_steps
  refine Stk.out ?_
  refine ksw_while (σ := Int × Tok) (fun _ => lexLed w x dx kt k1 k2 k3 k4 kk tx tt i ti nl rest) (fun c => [(Str.ofString "index", .int c.1 c.2)]) (fun _ => True) [] (fun c => j ≤ c.1 ∧ c.1 ≤ tx.length ∧ c.1 + run (fun c => pDigit (some c)) (sfx tx c.1) = j + run (fun c => pDigit (some c)) (sfx tx j)) (fun c => (tx.length - c.1).toNat) (j, tj) (by assumption) (by assumption) trivial ?_ ?_ ?_ ?_
  · intro p hp; simp only [List.mem_singleton] at hp; subst hp; rfl
  · exact ⟨by dsimp only; omega, hj2, rfl⟩
  · intro c u h tk _ hp F1 N1
    obtain ⟨e, te⟩ := c
    obtain ⟨p1, p2, p3⟩ := hp
    dsimp only at p1 p2 p3 F1 ⊢
    k_fold
    k_steps
    · obtain ⟨q1, q2⟩ := run_go pDigit (sfx tx e) rfl (by assumption)
      have q3 := sfx_ne tx e (by omega) p2 q2
      rw [← sfx_succ tx e (by omega)] at q1
      refine' ksw_end (e + 1, ?tt) (by assumption) (by assumption) (fun _ h => h) trivial ?kk ?kr ?kp ?km
      case kk => intro p hp; simp only [List.mem_singleton] at hp; subst hp; rfl
      case kr => intro z h2 _; have h3 := h2 _ (List.mem_singleton.mpr rfl); dsimp only at h3; simp only [kstB, if_neg h3]; rfl
      case kp => exact ⟨by dsimp only; omega, by dsimp only; omega, by dsimp only; omega⟩
      case km => dsimp only; omega
    · have q1 := run_stop pDigit (sfx tx e) (by assumption)
      refine hret _ _ _ _ (by k_asm) (by k_asm) ⟨_, congrArg (fun z => Value.int z _) ?_, rfl⟩
      omega
  · passes_own
theorem token_c (w : World) (x dx kt : Addr) (k1 k2 k3 k4 kk : Tok) (tx : Str) (tt : Tok) (i : Int) (ti : Tok) (nl : Bool) (rest : Led) (kv vv av : Value) (e : Int) (te : Tok) (hrest : ∀ p ∈ rest, p.1 ≠ dx) (hxd : x ≠ dx) (hkd : kt ≠ dx) :
   Doing w 203 [.ref x, kv, vv, av, .int e te] 4 40 (lexLed w x dx kt k1 k2 k3 k4 kk tx tt i ti nl rest) (fun r n' => ∃ T dT j1 j2 j3 j4, r = .ref T ∧ n' = lexLed w x dx kt k1 k2 k3 k4 kk tx tt e te nl ((T, instObj 114 dT) :: (dT, tokD w j1 j2 j3 j4 kv vv av nl) :: rest) ∧ (x < dT ∧ dx < dT ∧ kt < dT ∧ AllLt dT rest) ∧ dT < T) := by
  unfold Doing
  intro mean mg mb dp un gd cn cs a ccd cl outer A₀ base h₀ L m s Q E B F X N T hk hd' hu hret
  k_steps
  refine' hret _ _ _ _ (by k_asm) (cb_drop (by k_asm) ?_) ⟨_, _, _, _, _, _, rfl, rfl, by assumption, by assumption⟩
  kcj_all
end M2
section MBase3
/-- as `Doing`, or it raises ReadError and `keep` stands -/
def DoingX (w : World) (f : Addr) (vs : List Value) (d u : Nat) (news keep : Led) (XP : Prop) (P : Value → Led → Prop) : Prop :=
  ∀ (mean : ExcName → Option Value) (mg mb : Str → Option Value) (dp un : Nat) (gd : Option (List Code)) (cn : Str) (cs : Scope) (a : Addr) (ccd : Value) (cl : List (Str × Addr)) (outer : List Env) (A₀ : Around) (base h₀ : Heap) (L : Addr) (m : Str → Option Value) (s : Shared) (Q E : Value → Shared → Prop),
    Below A₀ base outer h₀ → Fr h₀ L s.heap m → (hd.heap_1 w.params).In h₀ → News h₀ L s.heap news → Top vw (looseW vw [Str.ofString "number"]) mean mg mb h₀ → cs.kind = .function → dp + d < recursionLimit → un + u < cLine →
    (∀ r news' h' tk', Fr h₀ L h' m → News h₀ L h' news' → P r news' → Q r { s with heap := h', toks := tk' }) →
    (XP → ∀ e g₂ h' tk', Fr h₀ L g₂ m → g₂.UpToSlots h' → RaisedN base (envX cn cs L a ccd cl :: outer) e (.ref 51) keep h' → E (.ref e) { s with heap := h', toks := tk' }) →
    wpAny (model PySem.Challenge.rw_pq1323_01.row.prog w) (ktrTop dp un gd cn cs L a ccd cl outer) (call (.ref f) vs) Q E s
theorem DoingX.use {w : World} {f : Addr} {vs : List Value} {d u : Nat} {news keep : Led} {XP : Prop} {P : Value → Led → Prop} (D : DoingX w f vs d u news keep XP P)
    {mean : ExcName → Option Value} {mg mb : Str → Option Value} {dp un : Nat} {gd : Option (List Code)} {cn : Str} {cs : Scope} {a : Addr} {ccd : Value} {cl : List (Str × Addr)} {outer : List Env} {A₀ : Around} {base h₀ : Heap} {L : Addr} {m : Str → Option Value} {s : Shared} {Q E : Value → Shared → Prop}
    (B : Below A₀ base outer h₀) (F : Fr h₀ L s.heap m) (X : (hd.heap_1 w.params).In h₀) (N : News h₀ L s.heap news) (T : Top vw (looseW vw [Str.ofString "number"]) mean mg mb h₀) (hk : cs.kind = .function) (hdp : dp + d < recursionLimit) (hu : un + u < cLine)
    (ret : ∀ r news' h' tk', Fr h₀ L h' m → News h₀ L h' news' → P r news' → Q r { s with heap := h', toks := tk' })
    (exc : XP → ∀ e g₂ h' tk', Fr h₀ L g₂ m → g₂.UpToSlots h' → RaisedN base (envX cn cs L a ccd cl :: outer) e (.ref 51) keep h' → E (.ref e) { s with heap := h', toks := tk' }) :
    wpAny (model PySem.Challenge.rw_pq1323_01.row.prog w) (ktrTop dp un gd cn cs L a ccd cl outer) (call (.ref f) vs) Q E s := D _ _ _ _ _ _ _ _ _ _ _ _ _ _ _ _ _ _ _ _ B F X N T hk hdp hu ret exc
theorem RaisedN.less {base h : Heap} {l : List Env} {e : Addr} {cls : Value} {news news' : Led} (R : RaisedN base l e cls news h) (hs : ∀ p ∈ news', p ∈ news) : RaisedN base l e cls news' h := by
  obtain ⟨B, a0, hB, hl, hfl⟩ := R
  exact ⟨B, a0, hB, fun q hq => hl q (hs q hq), hfl⟩
theorem RaisePost.intro {E : Value → Shared → Prop} {w : World} {e t dx L : Addr} {s : Shared} {g : Heap} {m : Str → Option Value} {news : Led} (X : (hd.heap_1 w.params).In g) (F : Fr g L s.heap m) (N : News g L s.heap ((e, excO dx t) :: news)) (h : E (.ref e) s) :
    RaisePost E w (.ref e) s := ⟨e, t, dx, rfl, X.keeps F.keep, (N _ (.head _)).1, h⟩
/-- a reader's call gave a token: its object, its dict, and what is said of its kind, its value and the reader's new place -/
def GotTok (w : World) (x dx kt : Addr) (k1 k2 k3 k4 kk : Tok) (tx : Str) (tt : Tok) (rest : Led) (S : Value → Value → Int → Prop) (r : Value) (n' : Led) : Prop :=
  ∃ T dT j1 j2 j3 j4 kv vv av nl e te, r = .ref T ∧ n' = lexLed w x dx kt k1 k2 k3 k4 kk tx tt e te nl ((T, instObj 114 dT) :: (dT, tokD w j1 j2 j3 j4 kv vv av nl) :: rest) ∧
    (x < dT ∧ dx < dT ∧ kt < dT ∧ AllLt dT rest) ∧ dT < T ∧ handedIn vv = true ∧ S kv vv e
theorem DoingX.u {w : World} {f : Addr} {vs : List Value} {d u : Nat} {news keep : Led} {XP : Prop} {P : Value → Led → Prop}
    {mean : ExcName → Option Value} {mg mb : Str → Option Value} {dp un : Nat} {gd : Option (List Code)} {cn : Str} {cs : Scope} {a : Addr} {ccd : Value} {cl : List (Str × Addr)} {outer : List Env} {A₀ : Around} {base h₀ : Heap} {L : Addr} {m : Str → Option Value} {s : Shared} {Q E : Value → Shared → Prop}
    (B : Below A₀ base outer h₀ := by k_asm) (F : Fr h₀ L s.heap m := by k_asm) (X : (hd.heap_1 w.params).In h₀ := by k_asm) (N : News h₀ L s.heap news := by walk_at "uN") (T : Top vw (looseW vw [Str.ofString "number"]) mean mg mb h₀ := by k_asm) (hk : cs.kind = .function := by first | exact rfl | assumption) (hdp : dp + d < recursionLimit := by ktr_room) (hu : un + u < cLine := by ktr_units)
    (D : DoingX w f vs d u news keep XP P) (ret : ∀ r news' h' tk', Fr h₀ L h' m → News h₀ L h' news' → P r news' → Q r { s with heap := h', toks := tk' })
    (exc : XP → ∀ e g₂ h' tk', Fr h₀ L g₂ m → g₂.UpToSlots h' → RaisedN base (envX cn cs L a ccd cl :: outer) e (.ref 51) keep h' → E (.ref e) { s with heap := h', toks := tk' }) :
    wpAny (model PySem.Challenge.rw_pq1323_01.row.prog w) (ktrTop dp un gd cn cs L a ccd cl outer) (call (.ref f) vs) Q E s := D.use B F X N T hk hdp hu ret exc
theorem Doing.vG {w : World} {f : Addr} {vs : List Value} {d u : Nat} {news : Led}
    {mean : ExcName → Option Value} {mg mb : Str → Option Value} {dp un : Nat} {gd : Option (List Code)} {cn : Str} {cs : Scope} {a : Addr} {ccd : Value} {cl : List (Str × Addr)} {outer : List Env} {A₀ : Around} {base h₀ : Heap} {L : Addr} {m : Str → Option Value} {s : Shared} {Q E : Value → Shared → Prop} {x dx kt : Addr} {k1 k2 k3 k4 kk : Tok} {tx : Str} {tt : Tok} {rest : Led} {S : Value → Value → Int → Prop}
    (B : Below A₀ base outer h₀ := by k_asm) (F : Fr h₀ L s.heap m := by k_asm) (X : (hd.heap_1 w.params).In h₀ := by k_asm) (N : News h₀ L s.heap news := by walk_at "uN") (T : Top vw (looseW vw [Str.ofString "number"]) mean mg mb h₀ := by k_asm) (hk : cs.kind = .function := by first | exact rfl | assumption) (hdp : dp + d < recursionLimit := by ktr_room) (hu : un + u < cLine := by ktr_units)
    (D : Doing w f vs d u news (GotTok w x dx kt k1 k2 k3 k4 kk tx tt rest S))
    (ret : ∀ T dT j1 j2 j3 j4 kv vv av nl e te h' tk', Fr h₀ L h' m → News h₀ L h' (lexLed w x dx kt k1 k2 k3 k4 kk tx tt e te nl ((T, instObj 114 dT) :: (dT, tokD w j1 j2 j3 j4 kv vv av nl) :: rest)) → (x < dT ∧ dx < dT ∧ kt < dT ∧ AllLt dT rest) → dT < T → handedIn vv = true → S kv vv e → Q (.ref T) { s with heap := h', toks := tk' }) :
    wpAny (model PySem.Challenge.rw_pq1323_01.row.prog w) (ktrTop dp un gd cn cs L a ccd cl outer) (call (.ref f) vs) Q E s := D.use B F X N T hk hdp hu fun r n' h' tk' F' N9 p => by
  obtain ⟨T1, dT, j1, j2, j3, j4, kv, vv, av, nl, e, te, e1, e2, l1, l2, l3, l4⟩ := p
  subst e1
  subst e2
  exact ret T1 dT j1 j2 j3 j4 kv vv av nl e te h' tk' F' N9 l1 l2 l3 l4
end MBase3
section MTxt2
theorem sfx_none (tx : Str) (e : Int) (h : (sfx tx e).head? = none) : sfx tx e = [] := List.head?_eq_none_iff.mp h
theorem some_ne {tx : Str} {e : Int} {c : Nat} (h : (sfx tx e).head? = some c) : sfx tx e ≠ [] := fun q => by rw [q] at h; cases h
theorem not_none_ne {tx : Str} {e : Int} (h : (sfx tx e).head? ≠ none) : sfx tx e ≠ [] := fun q => h (by rw [q]; rfl)
theorem chr_is {o : Option Nat} {c : Nat} {S : Str} (hS : S = ⟨#[c]⟩) (h : (chr1 o == S) = true) : o = some c := by
  subst hS; rw [chr1_beq] at h; exact eq_of_beq h
theorem chr_not {o : Option Nat} {c : Nat} {S : Str} (hS : S = ⟨#[c]⟩) (h : (chr1 o == S) = false) : o ≠ some c := by
  subst hS; rw [chr1_beq] at h; exact fun q => by rw [q] at h; simp at h
theorem chr_is' {o : Option Nat} {c : Nat} {S : Str} (hS : S = ⟨#[c]⟩) (h : (chr1 o != S) = false) : o = some c := chr_is hS (by rw [bne, Bool.not_eq_false'] at h; exact h)
theorem chr_not' {o : Option Nat} {c : Nat} {S : Str} (hS : S = ⟨#[c]⟩) (h : (chr1 o != S) = true) : o ≠ some c := chr_not hS (by rw [bne, Bool.not_eq_true'] at h; exact h)
theorem chr_end {o : Option Nat} {S : Str} (hS : S = ⟨#[]⟩) (h : (chr1 o == S) = true) : o = none := by
  subst hS; rw [chr1_beq0] at h; exact eq_of_beq h
theorem chr_notend {o : Option Nat} {S : Str} (hS : S = ⟨#[]⟩) (h : (chr1 o == S) = false) : o ≠ none := by
  subst hS; rw [chr1_beq0] at h; exact fun q => by rw [q] at h; simp at h
theorem any_not {o : Option Nat} {l : List Str} {S : Str} (hm : S ∈ l) (h : (l.any fun x => x == chr1 o) = false) : (S == chr1 o) = false := by
  have := List.any_eq_false.mp h S hm
  simpa using this
theorem chr1_ss (o : Option Nat) : (chr1 o == Str.ofString "**") = false := by
  rw [show Str.ofString "**" = ⟨#[42, 42]⟩ from by decide +kernel]
  cases o with
  | none => rfl
  | some c =>
    rw [← Bool.not_eq_true, beq_iff_eq]
    intro h
    have := congrArg (fun s : Str => s.cps.size) h
    simp at this
theorem chr1_len (o : Option Nat) : (chr1 o).length ≤ 1 := by cases o with | none => exact Nat.zero_le _ | some c => exact Nat.le_refl 1
theorem chr1_len1 {o : Option Nat} (h : o ≠ none) : (chr1 o).length = 1 := by
  cases o with
  | none => exact absurd rfl h
  | some c => rfl
theorem lit_comma : Str.ofString "," = ⟨#[44]⟩ := by decide +kernel
/-- no sign of an operation of two or three signs stands at a place -/
def NoOps (tx : Str) (j : Int) : Prop :=
  ([Str.ofString "<<-", Str.ofString "->>", Str.ofString ":::"].any fun x => x == Txt.slice tx (some j) (some (j + 3))) = false ∧
  ([Str.ofString "<<-", Str.ofString "->>", Str.ofString ":::", Str.ofString "<-", Str.ofString "->", Str.ofString "|>", Str.ofString "<=", Str.ofString ">=", Str.ofString "==", Str.ofString "!=", Str.ofString "&&", Str.ofString "||", Str.ofString "::", Str.ofString "[[", Str.ofString "**"].any fun x => x == Txt.slice tx (some j) (some (j + 2))) = false
theorem newsTl {h₀ h : Heap} {L : Addr} {q : Addr × Obj} {news : Led} (N : News h₀ L h (q :: news)) : News h₀ L h news := fun p hp => N p (.tail _ hp)
theorem occ_lit (S : Str) (c : Nat) : (Builtin.Str.occurrences S (chr1 (some c)) 0 S.length 1).isEmpty = !decide (c ∈ S.cps.toList) := by
  rw [← StrLaws.found_one, Bool.not_not]
def isWs (c : Nat) : Bool := c == 10 || c == 32 || c == 9 || c == 13 || c == 12
theorem lit_ws : (Str.ofString " \t\r\x0c").cps.toList = [32, 9, 13, 12] := by decide +kernel
theorem head_run (p : Nat → Bool) {l : List Nat} {c : Nat} (h : l.head? = some c) (hp : p c = true) : run p l = run p l.tail + 1 := by
  cases l with
  | nil => cases h
  | cons d t => cases h; exact run_pos p _ _ hp
theorem head_stop (p : Nat → Bool) {l : List Nat} {c : Nat} (h : l.head? = some c) (hp : p c = false) : run p l = 0 := by
  cases l with
  | nil => cases h
  | cons d t => cases h; exact run_neg p _ _ hp
/-- what a backslash and one sign mean -/
def simpleEsc (c : Nat) : Option Nat :=
  if c = 110 then some 10 else if c = 116 then some 9 else if c = 114 then some 13 else if c = 97 then some 7 else if c = 98 then some 8 else if c = 102 then some 12 else if c = 118 then some 11
  else if c = 92 then some 92 else if c = 34 then some 34 else if c = 39 then some 39 else if c = 96 then some 96 else if c = 10 then some 10 else none
def escLit : Str := Str.ofString "ntrabfv\\\"'` \n"
def escVal : Str := Str.ofString "\n\t\r\x07\x08\x0c\x0b\\\"'` \n"
theorem escLit_codes : escLit.cps.toList = [110, 116, 114, 97, 98, 102, 118, 92, 34, 39, 96, 32, 10] := by decide +kernel
theorem find_neg_of {S : Str} {c : Nat} (h : Txt.find S (chr1 (some c)) < 0) : c ∉ S.cps.toList := by
  intro hm
  have := StrLaws.found_one S c
  rw [decide_eq_true hm] at this
  unfold Txt.find at h
  split at h
  · omega
  · rename_i hq
    rw [show (⟨#[c]⟩ : Str) = chr1 (some c) from rfl, hq] at this
    cases this
theorem find_pos_of {S : Str} {c : Nat} (h : ¬ Txt.find S (chr1 (some c)) < 0) : c ∈ S.cps.toList := by
  have := StrLaws.found_one S c
  unfold Txt.find at h
  split at h
  · rename_i i r hq
    rw [show (⟨#[c]⟩ : Str) = chr1 (some c) from rfl, hq] at this
    exact of_decide_eq_true this.symm
  · omega
theorem esc_none {c : Nat} (h : Txt.find escLit (chr1 (some c)) < 0) : simpleEsc c = none := by
  have := find_neg_of h
  rw [escLit_codes] at this
  simp only [List.mem_cons, List.not_mem_nil, or_false, not_or] at this
  unfold simpleEsc
  simp [this]
theorem esc_item {c : Nat} (h : ¬ Txt.find escLit (chr1 (some c)) < 0) (h2 : c ≠ 32) : Txt.item escVal (Txt.find escLit (chr1 (some c))) = chr1 (simpleEsc c) := by
  have := find_pos_of h
  rw [escLit_codes] at this
  simp only [List.mem_cons, List.not_mem_nil, or_false] at this
  rcases this with rfl | rfl | rfl | rfl | rfl | rfl | rfl | rfl | rfl | rfl | rfl | rfl | rfl <;> first | exact absurd rfl h2 | decide +kernel
theorem esc_lt (c : Nat) : Txt.find (Str.ofString "ntrabfv\\\"'` \n") (chr1 (some c)) < 13 := by
  have h := fact_find (Str.ofString "ntrabfv\\\"'` \n") (chr1 (some c))
  have e1 : (Str.ofString "ntrabfv\\\"'` \n").length = 13 := by decide +kernel
  have e2 : (chr1 (some c)).length = 1 := rfl
  rw [e1, e2] at h
  omega
theorem chr_ne0 {o : Option Nat} {S : Str} (hS : S = ⟨#[]⟩) (h : (chr1 o != S) = true) : o ≠ none := chr_notend hS (by rw [bne, Bool.not_eq_true'] at h; exact h)
theorem chr_e0 {o : Option Nat} {S : Str} (hS : S = ⟨#[]⟩) (h : (chr1 o != S) = false) : o = none := chr_end hS (by rw [bne, Bool.not_eq_false'] at h; exact h)
def ones (l : List Nat) : List Str := l.map fun c => ⟨#[c]⟩
theorem ones_signs (l : List Nat) : ones l = signs ⟨l.toArray⟩ := by simp [ones, signs]
theorem join_ones_is (l : List Nat) : Txt.join (Str.ofString "") (ones l) = ⟨l.toArray⟩ := by
  rw [ones_signs, lit_empty]
  show Builtin.Str.glued _ _ = _
  rw [StrLaws.glued_eq_join]
  exact join_nil_signs _
theorem ones_weight (l : List Nat) : ((ones l).map (·.length)).sum + (ones l).length = 2 * l.length := by
  induction l with
  | nil => rfl
  | cons c t ih =>
    simp only [ones, List.map_cons, List.sum_cons, List.length_cons] at ih ⊢
    have : (⟨#[c]⟩ : Str).length = 1 := rfl
    omega
theorem StrsAre.snoc {vs : List Value} {ys : List Str} (h : StrsAre vs ys) (y : Str) (t : Tok) : StrsAre (vs ++ [.str y t]) (ys ++ [y]) := by
  induction h with
  | nil => exact .cons _ _ .nil
  | cons z u _ ih => exact .cons _ _ ih
def qlex (q : Nat) : List Nat → List Nat → Option (List Nat × List Nat)
  | [], _ => none
  | [c], acc => if c = q then some (acc, []) else none
  | c :: d :: t, acc => if c = q then some (acc, d :: t) else if c = 92 then (match simpleEsc d with | some v => qlex q t (acc ++ [v]) | none => none) else qlex q (d :: t) (acc ++ [c])
theorem qlex_end (q : Nat) (l acc : List Nat) (h : l.head? = some q) : qlex q l acc = some (acc, l.tail) := by
  match l with
  | [] => cases h
  | [c] => cases h; simp [qlex]
  | c :: d :: t => cases h; simp [qlex]
theorem qlex_nil (q : Nat) (l acc : List Nat) (h : l.head? = none) : qlex q l acc = none := by
  rw [List.head?_eq_none_iff.mp h]; simp [qlex]
theorem qlex_plain (q : Nat) (l acc : List Nat) (c : Nat) (h : l.head? = some c) (h1 : c ≠ q) (h2 : c ≠ 92) : qlex q l acc = qlex q l.tail (acc ++ [c]) := by
  match l with
  | [] => cases h
  | [d] => cases h; simp [qlex, h1]
  | d :: e :: t => cases h; simp [qlex, h1, h2]
theorem qlex_esc (q : Nat) (l acc : List Nat) (d : Nat) (hq : q ≠ 92) (h : l.head? = some 92) (h1 : l.tail.head? = some d) : qlex q l acc = (match simpleEsc d with | some v => qlex q l.tail.tail (acc ++ [v]) | none => none) := by
  match l with
  | [] => cases h
  | [d] => cases h1
  | d :: e :: t => cases h; cases h1; simp [qlex, Ne.symm hq]
theorem qlex_cut (q : Nat) (l acc : List Nat) (hq : q ≠ 92) (h : l.head? = some 92) (h1 : l.tail.head? = none) : qlex q l acc = none := by
  match l with
  | [] => cases h
  | [d] => cases h; simp [qlex, Ne.symm hq]
  | d :: e :: t => cases h1
def coded (c : Nat) : Prop := (48 ≤ c ∧ c ≤ 55) ∨ c = 120 ∨ c = 117 ∨ c = 85
def EscOk (tx : Str) : Prop := ∀ i : Int, 0 ≤ i → (sfx tx i).head? = some 92 → ∀ d, (sfx tx (i + 1)).head? = some d → ¬ coded d
theorem EscOk.at {tx : Str} (h : EscOk tx) {i : Int} (hi : 0 ≤ i) (h1 : (sfx tx i).head? = some 92) : ∀ d, (sfx tx (i + 1)).head? = some d → ¬ coded d := h i hi h1
end MTxt2
local macro_rules | `(tactic| walk_at "uN") => `(tactic| (first | k_asm | exact newsTl (by k_asm) | exact newsTl (newsTl (by k_asm)) | exact newsTl (newsTl (newsTl (by k_asm))) | exact newsTl (newsTl (newsTl (newsTl (by k_asm)))) | exact cb_drop (by k_asm) (by kcj_all)))
local macro_rules | `(tactic| walk_at "call ref") => `(tactic| (k_here; (with_reducible show wpAny _ _ (call (Value.ref 203) [Value.ref _, _, _, _, Value.int _ _]) _ _ _); k_dflt (refine' Doing.v6 (D := token_c _ _ _ _ _ _ _ _ _ _ _ _ _ _ _ _ _ _ _ _ (by first | assumption | (simp only [List.forall_mem_cons, ne_eq]; (try simp only [AllLt] at *); (repeat' (first | (refine And.intro ?_ ?_) | assumption)); all_goals omega)) (by assumption) (by assumption)) (ret := ?_)); intro T9 dT9 j91 j92 j93 j94 h9 tk9 F9 N9 p9; obtain ⟨l9, l9'⟩ := p9; walk_at "uS"))
section M3
def wordStr (l : List Nat) : Str := ⟨(l.take (run (fun c => pName (some c)) l)).toArray⟩
theorem word_c (w : World) (x dx kt : Addr) (k1 k2 k3 k4 kk : Tok) (tx : Str) (tt : Tok) (i : Int) (ti : Tok) (nl : Bool) (rest : Led) (j : Int) (tj : Tok) (hl : tx.length ≤ 1000) (hj : 0 ≤ j) (hj2 : j ≤ tx.length) (hrest : ∀ p ∈ rest, p.1 ≠ dx) (hxd : x ≠ dx) (hkd : kt ≠ dx) :
   Doing w 224 [.ref x, .int j tj] 6 60 (lexLed w x dx kt k1 k2 k3 k4 kk tx tt i ti nl rest) (GotTok w x dx kt k1 k2 k3 k4 kk tx tt rest fun kv vv e =>
     (∃ tk tv, kv = .str (if isKey (wordStr (sfx tx j)) = true then Str.ofString "key" else Str.ofString "id") tk ∧ vv = .str (wordStr (sfx tx j)) tv) ∧ e = j + run (fun c => pName (some c)) (sfx tx j)) := by
  unfold Doing
  intro mean mg mb dp un gd cn cs a ccd cl outer A₀ base h₀ L m s Q E B F X N T hk hd' hu hret
  k_steps
  refine Stk.out ?_
  refine ksw_while (σ := Int × Tok) (fun _ => lexLed w x dx kt k1 k2 k3 k4 kk tx tt i ti nl rest) (fun c => [(Str.ofString "end", .int c.1 c.2)]) (fun _ => True) [] (fun c => j ≤ c.1 ∧ c.1 ≤ tx.length ∧ c.1 + run (fun c => pName (some c)) (sfx tx c.1) = j + run (fun c => pName (some c)) (sfx tx j)) (fun c => (tx.length - c.1).toNat) (j, tj) (by assumption) (by assumption) trivial ?_ ?_ ?_ ?_
  · intro p hp; simp only [List.mem_singleton] at hp; subst hp; rfl
  · exact ⟨by dsimp only; omega, hj2, rfl⟩
  · intro c u h tk _ hp F1 N1
    obtain ⟨e, te⟩ := c
    obtain ⟨p1, p2, p3⟩ := hp
    dsimp only at p1 p2 p3 F1 ⊢
    k_fold
    k_steps
    · obtain ⟨q1, q2⟩ := run_go pName (sfx tx e) rfl (by assumption)
      have q3 := sfx_ne tx e (by omega) p2 q2
      rw [← sfx_succ tx e (by omega)] at q1
      refine' ksw_end (e + 1, ?tt) (by assumption) (by assumption) (fun _ h => h) trivial ?kk ?kr ?kp ?km
      case kk => intro p hp; simp only [List.mem_singleton] at hp; subst hp; rfl
      case kr => intro z h2 _; have h3 := h2 _ (List.mem_singleton.mpr rfl); dsimp only at h3; simp only [kstB, if_neg h3]; rfl
      case kp => exact ⟨by dsimp only; omega, by dsimp only; omega, by dsimp only; omega⟩
      case km => dsimp only; omega
    all_goals have q1 := run_stop pName (sfx tx e) (by assumption)
    all_goals have q2 : (e - j).toNat = run (fun c => pName (some c)) (sfx tx j) := by omega
    all_goals have q4 := slice_sfx tx j e hj p1
    all_goals rw [q2] at q4
    · refine hret _ _ _ _ (by assumption) (by assumption) ⟨_, _, _, _, _, _, _, _, _, _, _, _, rfl, rfl, by assumption, by assumption, rfl, ⟨_, _, congrArg (fun z => Value.str z _) ?_, congrArg (fun z => Value.str z _) q4⟩, by omega⟩
      have q5 : isKey (wordStr (sfx tx j)) = true := by unfold wordStr; rw [← q4]; assumption
      rw [if_pos q5]
    · refine hret _ _ _ _ (by assumption) (by assumption) ⟨_, _, _, _, _, _, _, _, _, _, _, _, rfl, rfl, by assumption, by assumption, rfl, ⟨_, _, congrArg (fun z => Value.str z _) ?_, congrArg (fun z => Value.str z _) q4⟩, by omega⟩
      have q5 : isKey (wordStr (sfx tx j)) = false := by unfold wordStr; rw [← q4]; assumption
      rw [if_neg (by rw [q5]; exact Bool.false_ne_true)]
  · passes_own
end M3
local macro_rules | `(tactic| walk_at "call ref") => `(tactic| (k_here; (with_reducible show wpAny _ _ (call (Value.ref 51) [Value.str _ _, Value.int _ _]) _ _ _); k_dflt (refine' Doing.v3 (D := readerr_c _ _ _ _ _ _) (ret := ?_)); intro ex9 t9 dx9 h9 tk9 F9 N9 ne9; walk_at "uS"))
local macro_rules | `(tactic| walk_at "v0") => `(tactic| (refine raise_stmt rfl ?_; (try k_fold)))
local macro_rules | `(tactic| walk_at "v1") => `(tactic| (refine RaisePost.intro (by k_asm) (by k_asm) (by k_asm) ?_))
local macro_rules | `(tactic| walk_at "v2") => `(tactic| (k_here; k_dflt (refine' leave_newO ?k1 ?k2 ?k3 ?k4 ?_; (case k1 => assumption); (case k2 => assumption); (case k3 => assumption); (case k4 => assumption)); intro h9 R9 U9; (try dsimp only at R9 U9 ⊢)))
local macro_rules | `(tactic| walk_at "u0") => `(tactic| ((first | assumption | omega | (simp only [AllLt, sfx] at *; omega))))
local macro_rules | `(tactic| walk_at "u1") => `(tactic| ((first | assumption | (refine neN ?_; (try simp only [AllLt] at *); omega))))
local macro_rules | `(tactic| walk_at "u2") => `(tactic| ((first | assumption | ((repeat' (first | assumption | (refine List.forall_mem_cons.mpr ⟨?_, ?_⟩))) <;> (first | assumption | (refine neN ?_; (try dsimp only); (try simp only [AllLt] at *); omega))))))
section M4
local macro_rules | `(tactic| walk_at "exec Raise some none") => `(tactic| walk_at "v0")
local macro_rules | `(tactic| walk_at "RaisePost") => `(tactic| walk_at "v1")
local macro_rules | `(tactic| walk_at "leaving ref") => `(tactic| walk_at "v2")

theorem percent_c (w : World) (x dx kt : Addr) (k1 k2 k3 k4 kk : Tok) (tx : Str) (tt : Tok) (i : Int) (ti : Tok) (nl : Bool) (rest : Led) (j : Int) (tj : Tok) (hl : tx.length ≤ 1000) (hj : 0 ≤ j) (hj2 : j + 1 ≤ tx.length) (hrest : ∀ p ∈ rest, p.1 ≠ dx) (hxd : x ≠ dx) (hkd : kt ≠ dx) :
   DoingX w 231 [.ref x, .int j tj] 8 120 (lexLed w x dx kt k1 k2 k3 k4 kk tx tt i ti nl rest) rest True (GotTok w x dx kt k1 k2 k3 k4 kk tx tt rest fun kv vv e =>
     (∃ tk, kv = .str (Str.ofString "op") tk) ∧ j ≤ e ∧ e ≤ tx.length) := by
  unfold DoingX
  intro mean mg mb dp un gd cn cs a ccd cl outer A₀ base h₀ L m s Q E B F X N T hk hd' hu hret hexc
  k_steps
  refine Stk.out ?_
  refine' ksw_while (σ := Int × Tok) (fun _ => lexLed w x dx kt k1 k2 k3 k4 kk tx tt i ti nl rest) (fun c => [(Str.ofString "end", .int c.1 c.2)]) (fun _ => True) [] (fun c => j + 1 ≤ c.1 ∧ c.1 ≤ tx.length) (fun c => (tx.length - c.1).toNat) (j + 1, ?t0) (by assumption) (by assumption) trivial ?kk ?kp ?kt ?kE
  case kk => intro p hp; simp only [List.mem_singleton] at hp; subst hp; rfl
  case kp => exact ⟨by dsimp only; omega, hj2⟩
  case kE => passes_own
  case kt =>
    intro c u h tk _ hp F1 N1
    obtain ⟨e, te⟩ := c
    obtain ⟨p1, p2⟩ := hp
    dsimp only at p1 p2 F1 ⊢
    k_fold
    k_steps
    · exact hexc trivial _ _ _ _ (by assumption) (by assumption) (RaisedN.less (by assumption) (by kcj_all))
    · have q1 := any_not (l := [Str.ofString "", Str.ofString "\n"]) (S := Str.ofString "") (by simp) (by assumption)
      rw [lit_empty, beq_chr10] at q1
      have q3 := sfx_ne tx e (by omega) p2 (not_none_ne fun q => by rw [q] at q1; cases q1)
      refine' ksw_end (e + 1, ?tt) (by assumption) (by assumption) (by kcj_all) trivial ?kk ?kr ?kp ?km
      case kk => intro p hp; simp only [List.mem_singleton] at hp; subst hp; rfl
      case kr => intro z h2 _; have h3 := h2 _ (List.mem_singleton.mpr rfl); dsimp only at h3; simp only [kstB, if_neg h3]; rfl
      case kp => exact ⟨by dsimp only; omega, by dsimp only; omega⟩
      case km => dsimp only; omega
    · have q1 := chr_is' lit_pc (by assumption)
      have q3 := sfx_ne tx e (by omega) p2 (some_ne q1)
      exact hret _ _ _ _ (by assumption) (by assumption) ⟨_, _, _, _, _, _, _, _, _, _, _, _, rfl, rfl, by assumption, by assumption, rfl, ⟨_, rfl⟩, by omega, by omega⟩
end M4
local macro_rules | `(tactic| walk_at "call ref") => `(tactic| (k_here; (with_reducible show wpAny _ _ (call (Value.ref 196) [Value.ref _, Value.int _ _]) _ _ _); k_dflt (refine' Doing.v1 (D := char_c _ _ _ _ _ _ _ _ _ _ _ _ _ _ _ _ _ (by walk_at "u0") (by walk_at "u0")) (ret := ?_)); intro t9 h9 tk9 F9 N9; walk_at "uS"))
local macro_rules | `(tactic| walk_at "call ref") => `(tactic| (k_here; (with_reducible show wpAny _ _ (call (Value.ref 203) [Value.ref _, _, _, _, Value.int _ _]) _ _ _); k_dflt (refine' Doing.v6 (D := token_c _ _ _ _ _ _ _ _ _ _ _ _ _ _ _ _ _ _ _ _ (by walk_at "u2") (by walk_at "u1") (by walk_at "u1")) (ret := ?_)); intro T9 dT9 j91 j92 j93 j94 h9 tk9 F9 N9 p9; obtain ⟨l9, l9'⟩ := p9; walk_at "uS"))
section M5
local macro_rules | `(tactic| walk_at "exec Raise some none") => `(tactic| walk_at "v0")
local macro_rules | `(tactic| walk_at "RaisePost") => `(tactic| walk_at "v1")
local macro_rules | `(tactic| walk_at "leaving ref") => `(tactic| walk_at "v2")

theorem operator_c (w : World) (x dx kt : Addr) (k1 k2 k3 k4 kk : Tok) (tx : Str) (tt : Tok) (i : Int) (ti : Tok) (nl : Bool) (rest : Led) (j : Int) (tj : Tok) (hl : tx.length ≤ 1000) (hj : 0 ≤ j) (hj2 : j + 1 ≤ tx.length) (hrest : ∀ p ∈ rest, p.1 ≠ dx) (hxd : x ≠ dx) (hkd : kt ≠ dx) (hno : NoOps tx j) :
   DoingX w 238 [.ref x, .int j tj] 8 120 (lexLed w x dx kt k1 k2 k3 k4 kk tx tt i ti nl rest) rest ((sfx tx j).head? ≠ some 44) (GotTok w x dx kt k1 k2 k3 k4 kk tx tt rest fun kv vv e =>
     (∃ tk, kv = .str (Str.ofString "op") tk) ∧ j ≤ e ∧ e ≤ tx.length ∧ ∀ t, sfx tx j = 44 :: t → (∃ tv, vv = .str (Str.ofString ",") tv) ∧ e = j + 1) := by
  unfold DoingX
  intro mean mg mb dp un gd cn cs a ccd cl outer A₀ base h₀ L m s Q E B F X N T hk hd' hu hret hexc
  obtain ⟨hno3, hno2⟩ := hno
  have hss := chr1_ss (sfx tx j).head?
  have hcl : (chr1 (sfx tx j).head?).length ≤ tx.length := Nat.le_trans (chr1_len _) (by omega)
  k_steps
  · refine hexc (fun q => ?_) _ _ _ _ (by assumption) (by assumption) (RaisedN.less (by assumption) (by kcj_all))
    have q5 := (by assumption : (Builtin.Str.occurrences _ (chr1 (sfx tx j).head?) 0 _ 1).isEmpty = true)
    rw [q, occ_lit] at q5
    exact absurd q5 (by decide +kernel)
  · have hne : sfx tx j ≠ [] := fun q => by have := sfx_len tx j hj (by omega); rw [q, List.length_nil] at this; omega
    have hn1 : (sfx tx j).head? ≠ none := fun q => hne (sfx_none tx j q)
    have hc1 := chr1_len1 hn1
    refine' hret _ _ _ _ (by assumption) (by assumption) ⟨_, _, _, _, _, _, _, _, _, _, _, _, rfl, rfl, by assumption, by assumption, rfl, ⟨_, rfl⟩, by omega, by omega, fun t ht => ⟨⟨_, ?_⟩, by omega⟩⟩
    rotate_left
    · rw [ht, lit_comma]; rfl
end M5
section M6
theorem skip_c (w : World) (x dx kt : Addr) (k1 k2 k3 k4 kk : Tok) (tx : Str) (tt : Tok) (i : Int) (ti : Tok) (nl : Bool) (rest : Led) (hl : tx.length ≤ 1000) (hi : 0 ≤ i) (hi2 : i ≤ tx.length) (hrest : ∀ p ∈ rest, p.1 ≠ dx) (hxd : x ≠ dx) (hkd : kt ≠ dx) (hash : ∀ e, (chr1 (sfx tx e).head? == Str.ofString "#") = false) :
   Doing w 217 [.ref x] 4 40 (lexLed w x dx kt k1 k2 k3 k4 kk tx tt i ti nl rest) (fun r n' => r = .none ∧ ∃ nl' ti', n' = lexLed w x dx kt k1 k2 k3 k4 kk tx tt (i + run isWs (sfx tx i)) ti' nl' rest) := by
  unfold Doing
  intro mean mg mb dp un gd cn cs a ccd cl outer A₀ base h₀ L m s Q E B F X N T hk hd' hu hret
  k_steps
  refine Stk.out ?_
  refine' ksw_while (σ := Int × Tok × Bool) (fun c => lexLed w x dx kt k1 k2 k3 k4 kk tx tt c.1 c.2.1 c.2.2 rest) (fun c => []) (fun _ => True) [Str.ofString "char"] (fun c => i ≤ c.1 ∧ c.1 ≤ tx.length ∧ c.1 + run isWs (sfx tx c.1) = i + run isWs (sfx tx i)) (fun c => (tx.length - c.1).toNat) (i, ti, false) (by assumption) (by assumption) trivial ?kk ?kp ?kt ?kE
  case kk => exact fun _ hp => nomatch hp
  case kp => exact ⟨by dsimp only; omega, hi2, rfl⟩
  case kE => passes_own
  case kt =>
    intro c u h tk _ hp F1 N1
    obtain ⟨e, te, nl'⟩ := c
    obtain ⟨p1, p2, p3⟩ := hp
    dsimp only at p1 p2 p3 F1 N1 ⊢
    have hh := hash e
    (try k_fold)
    k_steps
    · have q1 := chr_is lit_nl (by assumption)
      have q2 := head_run isWs q1 rfl
      have q3 := sfx_ne tx e (by omega) p2 (some_ne q1)
      rw [← sfx_succ tx e (by omega)] at q2
      refine ksw_end (e + 1, _, _) (by assumption) (by assumption) (fun _ h => h) trivial ?kk ?kr ?kp ?km
      case kk => exact fun _ hp => nomatch hp
      case kr => intro z _ h3; have h4 : z ≠ Str.ofString "char" := fun q => (by rw [q] at h3; simp at h3); show (if z = _ then _ else if ([Str.ofString "char"].contains z) = true then _ else _) = _; rw [if_neg h4, if_neg (by rw [h3]; exact Bool.false_ne_true)]
      case kp => exact ⟨by dsimp only; omega, by dsimp only; omega, by dsimp only; omega⟩
      case km => dsimp only; omega
    · have q1 := chr_end lit_empty (by assumption)
      have q2 : run isWs (sfx tx e) = 0 := by rw [sfx_none tx e q1]; rfl
      have q4 : e = i + run isWs (sfx tx i) := by omega
      refine hret _ _ _ _ (by assumption) (by assumption) ⟨rfl, _, _, congrArg (fun z => lexLed w x dx kt k1 k2 k3 k4 kk tx tt z _ _ rest) q4⟩
    · have q0 := chr_notend lit_empty (by assumption)
      have q0' := chr_not lit_nl (by assumption)
      obtain ⟨c, q1⟩ := Option.ne_none_iff_exists'.mp q0
      have q5 := (by assumption : (Builtin.Str.occurrences (Str.ofString " \t\r\x0c") (chr1 (sfx tx e).head?) 0 (Str.ofString " \t\r\x0c").length 1).isEmpty = true)
      rw [q1, occ_lit, lit_ws] at q5
      rw [q1] at q0'
      have q2 : run isWs (sfx tx e) = 0 := head_stop isWs q1 (by simp [isWs] at q5 q0' ⊢; omega)
      have q4 : e = i + run isWs (sfx tx i) := by omega
      refine hret _ _ _ _ (by assumption) (by assumption) ⟨rfl, _, _, congrArg (fun z => lexLed w x dx kt k1 k2 k3 k4 kk tx tt z _ _ rest) q4⟩
    · have q0 := chr_notend lit_empty (by assumption)
      obtain ⟨c, q1⟩ := Option.ne_none_iff_exists'.mp q0
      have q5 := (by assumption : (Builtin.Str.occurrences (Str.ofString " \t\r\x0c") (chr1 (sfx tx e).head?) 0 (Str.ofString " \t\r\x0c").length 1).isEmpty = false)
      rw [q1, occ_lit, lit_ws] at q5
      have q2 := head_run isWs q1 (by simp [isWs] at q5 ⊢; omega)
      have q3 := sfx_ne tx e (by omega) p2 (some_ne q1)
      rw [← sfx_succ tx e (by omega)] at q2
      refine ksw_end (e + 1, _, _) (by assumption) (by assumption) (fun _ h => h) trivial ?kk ?kr ?kp ?km
      case kk => exact fun _ hp => nomatch hp
      case kr => intro z _ h3; have h4 : z ≠ Str.ofString "char" := fun q => (by rw [q] at h3; simp at h3); show (if z = _ then _ else if ([Str.ofString "char"].contains z) = true then _ else _) = _; rw [if_neg h4, if_neg (by rw [h3]; exact Bool.false_ne_true)]
      case kp => exact ⟨by dsimp only; omega, by dsimp only; omega, by dsimp only; omega⟩
      case km => dsimp only; omega
end M6
section M7
local macro_rules | `(tactic| walk_at "call ref") => `(tactic| with_reducible refine halt 294 ?_)
local macro_rules | `(tactic| walk_at "call ref") => `(tactic| with_reducible refine halt 266 ?_)
local macro_rules | `(tactic| walk_at "call ref") => `(tactic| with_reducible refine halt 259 ?_)
local macro_rules | `(tactic| walk_at "call ref") => `(tactic| with_reducible refine halt 301 ?_)
local macro_rules | `(tactic| walk_at "exec Raise some none") => `(tactic| walk_at "v0")
local macro_rules | `(tactic| walk_at "RaisePost") => `(tactic| walk_at "v1")
local macro_rules | `(tactic| walk_at "leaving ref") => `(tactic| walk_at "v2")

theorem simple_escape_c (w : World) (o : Option Nat) (t : Tok) (news : Led) : Doing w 167 [.str (chr1 o) t] 1 8 news (fun r n' => ∃ t', r = .str (chr1 (o.bind simpleEsc)) t' ∧ n' = news) := by
  unfold Doing
  intro mean mg mb dp un gd cn cs a ccd cl outer A₀ base h₀ L m s Q E B F X N T hk hd' hu hret
  cases o with
  | none =>
    k_steps
    refine hret _ _ _ _ (by assumption) (by assumption) ⟨_, congrArg (fun z => Value.str z _) lit_empty, rfl⟩
  | some c =>
    have hb := esc_lt c
    k_steps
    · have q := chr_end lit_empty (by assumption)
      cases q
    · have q := esc_none (by assumption)
      refine hret _ _ _ _ (by assumption) (by assumption) ⟨_, congrArg (fun z => Value.str z _) ?_, rfl⟩
      rw [Option.bind_some, q, lit_empty]
    · have q := chr_is lit_sp (by assumption)
      cases q
      refine hret _ _ _ _ (by assumption) (by assumption) ⟨_, congrArg (fun z => Value.str z _) ?_, rfl⟩
      rw [lit_empty]; rfl
    · have q := chr_not lit_sp (by assumption)
      refine hret _ _ _ _ (by assumption) (by assumption) ⟨_, congrArg (fun z => Value.str z _) ?_, rfl⟩
      exact esc_item (by assumption) (fun h => q (by rw [h]))
local macro_rules | `(tactic| walk_at "call ref") => `(tactic| (k_here; (with_reducible show wpAny _ _ (call (Value.ref 167) [Value.str (chr1 _) _]) _ _ _); k_dflt (refine' Doing.v1 (D := simple_escape_c _ _ _ _) (ret := ?_)); intro t9 h9 tk9 F9 N9; walk_at "uS"))
/-- the two places of a pair made anew -/
abbrev pairO (a b : Value) : Obj := { cls := .type "tuple", data := .seq #[a, b] }
theorem escape_c (w : World) (x dx kt : Addr) (k1 k2 k3 k4 kk : Tok) (tx : Str) (tt : Tok) (i : Int) (ti : Tok) (nl : Bool) (rest : Led) (j : Int) (tj : Tok) (hl : tx.length ≤ 1000) (hj : 0 ≤ j) (hne : (sfx tx (j + 1)).head? ≠ none) (hcod : ∀ d, (sfx tx (j + 1)).head? = some d → ¬ coded d) :
   DoingX w 287 [.ref x, .int j tj] 8 120 (lexLed w x dx kt k1 k2 k3 k4 kk tx tt i ti nl rest) rest ((sfx tx (j + 1)).head?.bind simpleEsc = none) (fun r n' =>
     ∃ D tv te, r = .ref D ∧ n' = (D, pairO (.str (chr1 ((sfx tx (j + 1)).head?.bind simpleEsc)) tv) (.int (j + 2) te)) :: lexLed w x dx kt k1 k2 k3 k4 kk tx tt i ti nl rest ∧ (x < D ∧ dx < D ∧ kt < D ∧ AllLt D rest) ∧ (sfx tx (j + 1)).head?.bind simpleEsc ≠ none) := by
  unfold DoingX
  intro mean mg mb dp un gd cn cs a ccd cl outer A₀ base h₀ L m s Q E B F X N T hk hd' hu hret hexc
  obtain ⟨d, hd⟩ := Option.ne_none_iff_exists'.mp hne
  have hcod := hcod d hd
  have hx : (chr1 (sfx tx (j + 1)).head? == Str.ofString "x") = false := by
    rw [hd, lit_x, chr1_beq, ← Bool.not_eq_true, beq_iff_eq]; intro q; exact hcod (.inr (.inl (Option.some.inj q)))
  have hu' : (chr1 (sfx tx (j + 1)).head? == Str.ofString "u") = false := by
    rw [hd, lit_u, chr1_beq, ← Bool.not_eq_true, beq_iff_eq]; intro q; exact hcod (.inr (.inr (.inl (Option.some.inj q))))
  have hU : (chr1 (sfx tx (j + 1)).head? == Str.ofString "U") = false := by
    rw [hd, lit_U, chr1_beq, ← Bool.not_eq_true, beq_iff_eq]; intro q; exact hcod (.inr (.inr (.inr (Option.some.inj q))))
  have h7 : pDigit (sfx tx (j + 1)).head? = false ∨ (Str.ofString "7").cps.toList < (chr1 (sfx tx (j + 1)).head?).cps.toList := by
    rw [hd, lit_7]
    by_cases q : 48 ≤ d ∧ d ≤ 57
    · right
      exact (lt_one 55 d).mpr (by rcases Nat.lt_or_ge 55 d with z | z; exact z; exact absurd (.inl ⟨q.1, z⟩) hcod)
    · left
      simp only [pDigit]; rw [← Bool.not_eq_true]; simp; omega
  rcases h7 with h7 | h7
  all_goals k_steps
  all_goals first
    | (have q := chr_ne0 lit_empty (by assumption : (chr1 ((sfx tx (j + 1)).head?.bind simpleEsc) != Str.ofString "") = true)
       exact hret _ _ _ _ (by assumption) (by assumption) ⟨_, _, _, rfl, rfl, by assumption, q⟩)
    | (have q := chr_e0 lit_empty (by assumption : (chr1 ((sfx tx (j + 1)).head?.bind simpleEsc) != Str.ofString "") = false)
       exact hexc q _ _ _ _ (by assumption) (by assumption) (RaisedN.less (by assumption) (by kcj_all)))
end M7
local macro_rules | `(tactic| walk_at "v3") => `(tactic| (k_here; (refine join_listW (by is_list) (by assumption) (by decide +kernel) (by assumption) ?_); intro _ _; (try k_fold)))
section M8
local macro_rules | `(tactic| walk_at "call ref") => `(tactic| (k_here; (with_reducible show wpAny _ _ (call (Value.ref 287) [Value.ref _, Value.int _ _]) _ _ _); k_dflt (refine' DoingX.u (D := escape_c _ _ _ _ _ _ _ _ _ _ _ _ _ _ _ _ _ (by walk_at "u0") (by walk_at "u0") (by exact chr_notend lit_empty (by assumption)) (by exact EscOk.at (by assumption) (by omega) (chr_is lit_bs (by assumption)))) (ret := ?_) (exc := ?_)); rotate_left; intro x9 e9 g9 h9 tk9 Fg9 U9 R9; (try dsimp only); rotate_left; intro r9 n9 h9 tk9 F9 N9 p9; obtain ⟨D9, tv9, te9, e9, e9', l9, s9⟩ := p9; subst e9; subst e9'; walk_at "uS"))
local macro_rules | `(tactic| walk_at "call ref") => `(tactic| with_reducible refine halt 294 ?_)
local macro_rules | `(tactic| walk_at "call ref") => `(tactic| with_reducible refine halt 266 ?_)
local macro_rules | `(tactic| walk_at "call ref") => `(tactic| with_reducible refine halt 259 ?_)
local macro_rules | `(tactic| walk_at "call ref") => `(tactic| with_reducible refine halt 301 ?_)
local macro_rules | `(tactic| walk_at "exec Raise some none") => `(tactic| walk_at "v0")
local macro_rules | `(tactic| walk_at "RaisePost") => `(tactic| walk_at "v1")
local macro_rules | `(tactic| walk_at "leaving ref") => `(tactic| walk_at "v2")
local macro_rules | `(tactic| walk_at "call builtin:str.join") => `(tactic| walk_at "v3")

set_option maxHeartbeats 1000000 in
theorem quoted_c (w : World) (x dx kt : Addr) (k1 k2 k3 k4 kk : Tok) (tx : Str) (tt : Tok) (i : Int) (ti : Tok) (nl : Bool) (rest : Led) (j : Int) (tj : Tok) (q : Nat) (hl : tx.length ≤ 1000) (hj : 0 ≤ j) (hj2 : j + 1 ≤ tx.length) (hq : (sfx tx j).head? = some q) (hq2 : q ≠ 92) (hesc : EscOk tx) :
   DoingX w 280 [.ref x, .int j tj] 10 160 (lexLed w x dx kt k1 k2 k3 k4 kk tx tt i ti nl rest) rest (qlex q (sfx tx (j + 1)) [] = none) (fun r n' =>
     ∃ D val tv e te, r = .ref D ∧ n' = (D, pairO (.str ⟨val.toArray⟩ tv) (.int e te)) :: lexLed w x dx kt k1 k2 k3 k4 kk tx tt i ti nl rest ∧ (x < D ∧ dx < D ∧ kt < D ∧ AllLt D rest) ∧ qlex q (sfx tx (j + 1)) [] = some (val, sfx tx e) ∧ j ≤ e ∧ e ≤ tx.length) := by
  unfold DoingX
  intro mean mg mb dp un gd cn cs a ccd cl outer A₀ base h₀ L m s Q E B F X N T hk hd' hu hret hexc
  k_steps
  rename_i ch hA l1 hB hC FA NA
  obtain ⟨lx, ld, lk, lr⟩ := l1
  refine Stk.out ?_
  refine' ksw_while (σ := Int × Tok × List Value × Nat × List Nat) (fun c => lexLed w x dx kt k1 k2 k3 k4 kk tx tt i ti nl ((ch, listOf c.2.2.1.toArray c.2.2.2.1) :: rest)) (fun c => [(Str.ofString "index", .int c.1 c.2.1)]) (fun _ => True) [Str.ofString "char"] (fun c => j + 1 ≤ c.1 ∧ c.1 ≤ tx.length ∧ qlex q (sfx tx c.1) c.2.2.2.2 = qlex q (sfx tx (j + 1)) [] ∧ StrsAre c.2.2.1 (ones c.2.2.2.2) ∧ (c.2.2.2.2.length : Int) ≤ c.1) (fun c => (tx.length - c.1).toNat) (j + 1, ?t0, [], 0, []) (by assumption) (cb_drop (by assumption) (by kcj_all)) trivial ?kk ?kp ?kt ?kE
  case kk => intro p hp; simp only [List.mem_singleton] at hp; subst hp; rfl
  case kp => exact ⟨by dsimp only; omega, hj2, rfl, .nil, by simp; omega⟩
  case kE => passes_own
  case kt =>
    intro c u h tk _ hp F1 N1
    obtain ⟨e, te, vs, vn, acc⟩ := c
    obtain ⟨p1, p2, p3, p4, p5⟩ := hp
    dsimp only at p1 p2 p3 p4 p5 F1 N1 ⊢
    have hsz : vs.toArray.size ≤ 1000 := by have := p4.len_eq; simp [ones] at this; simp; omega
    have p4' : StrsAre vs.toArray.toList (ones acc) := by simpa using p4
    have p6 : ((ones acc).map (·.length)).sum + (ones acc).length ≤ 1048576 := by rw [ones_weight]; omega
    (try k_fold)
    k_steps
    · refine hexc ?_ _ _ _ _ (by assumption) (by assumption) (RaisedN.less (by assumption) (by kcj_all))
      rw [← p3]; exact qlex_nil q _ _ (chr_end lit_empty (by assumption))
    · have qb := chr_is lit_bs (by assumption : (chr1 (sfx tx e).head? == Str.ofString "\\") = true)
      have qe := chr_end lit_empty (by assumption : (chr1 (sfx tx (e + 1)).head? == Str.ofString "") = true)
      refine hexc ?_ _ _ _ _ (by assumption) (by assumption) (RaisedN.less (by assumption) (by kcj_all))
      rw [← p3]; exact qlex_cut q _ _ hq2 qb (by rw [← sfx_succ tx e (by omega)]; exact qe)
    · rename News _ _ _ _ => ND
      have NC := newsTl ND
      clear ND
      k_steps
      rename News _ _ _ _ => NE
      have qb := chr_is lit_bs (by assumption : (chr1 (sfx tx e).head? == Str.ofString "\\") = true)
      obtain ⟨d, hd⟩ := Option.ne_none_iff_exists'.mp (chr_notend lit_empty (by assumption : (chr1 (sfx tx (e + 1)).head? == Str.ofString "") = false))
      have q9 := (by assumption : (sfx tx (e + 1)).head?.bind simpleEsc ≠ none)
      obtain ⟨v, hv⟩ := Option.ne_none_iff_exists'.mp q9
      rw [hv] at NE
      have hv' := hv
      rw [hd, Option.bind_some] at hv'
      have ql := qlex_esc q (sfx tx e) acc d hq2 qb (by rw [← sfx_succ tx e (by omega)]; exact hd)
      rw [hv', ← sfx_succ tx e (by omega), ← sfx_succ tx (e + 1) (by omega)] at ql
      have ee : e + 1 + 1 = e + 2 := by omega
      rw [ee] at ql
      have q3 := sfx_ne tx (e + 1) (by omega) (sfx_ne tx e (by omega) p2 (some_ne qb)) (some_ne hd)
      try simp only [List.push_toArray] at NE
      refine Stk.out ?_
      refine' ksw_end (e + 2, ?tt2, ?vv2, ?nn2, acc ++ [v]) (by assumption) NE (fun _ h => h) trivial ?kk ?kr ?kp ?km
      case kk => intro p hp; simp only [List.mem_singleton] at hp; subst hp; rfl
      case kr => intro z h2 h3; have h4 := h2 _ (List.mem_singleton.mpr rfl); dsimp only at h4; have h5 : z ≠ Str.ofString "char" := fun q => (by rw [q] at h3; simp at h3); simp only [kstB, if_neg h4, if_neg h5, h3, Bool.false_eq_true, if_false]
      case kp => exact ⟨by dsimp only; omega, by dsimp only; omega, by dsimp only at ql ⊢; rw [← ql]; exact p3, by simp only [ones, List.map_append]; exact StrsAre.snoc p4 _ _, by simp; omega⟩
      case km => dsimp only; omega
    · have qb := chr_is lit_bs (by assumption : (chr1 (sfx tx e).head? == Str.ofString "\\") = true)
      obtain ⟨d, hd⟩ := Option.ne_none_iff_exists'.mp (chr_notend lit_empty (by assumption : (chr1 (sfx tx (e + 1)).head? == Str.ofString "") = false))
      have hv' := (by assumption : (sfx tx (e + 1)).head?.bind simpleEsc = none)
      rw [hd, Option.bind_some] at hv'
      have ql := qlex_esc q (sfx tx e) acc d hq2 qb (by rw [← sfx_succ tx e (by omega)]; exact hd)
      rw [hv'] at ql
      refine hexc ?_ _ _ _ _ (by assumption) (by assumption) (RaisedN.less (by assumption) (by kcj_all))
      rw [← p3]; exact ql
    · rename News _ _ _ _ => NE
      have qb := chr_not lit_bs (by assumption : (chr1 (sfx tx e).head? == Str.ofString "\\") = false)
      obtain ⟨d, hd⟩ := Option.ne_none_iff_exists'.mp (chr_notend lit_empty (by assumption : (chr1 (sfx tx e).head? == Str.ofString "") = false))
      have qq := chr_not' (by rw [hq]) (by assumption : (chr1 (sfx tx e).head? != chr1 (sfx tx j).head?) = true)
      rw [hd] at qb qq NE
      have ql := qlex_plain q (sfx tx e) acc d hd (fun z => qq (by rw [z])) (fun z => qb (by rw [z]))
      rw [← sfx_succ tx e (by omega)] at ql
      have q3 := sfx_ne tx e (by omega) p2 (some_ne hd)
      try simp only [List.push_toArray] at NE
      refine Stk.out ?_
      refine' ksw_end (e + 1, ?tt, ?vv, ?nn, acc ++ [d]) (by assumption) NE (fun _ h => h) trivial ?kk ?kr ?kp ?km
      case kk => intro p hp; simp only [List.mem_singleton] at hp; subst hp; rfl
      case kr => intro z h2 h3; have h4 := h2 _ (List.mem_singleton.mpr rfl); dsimp only at h4; have h5 : z ≠ Str.ofString "char" := fun q => (by rw [q] at h3; simp at h3); simp only [kstB, if_neg h4, if_neg h5, h3, Bool.false_eq_true, if_false]
      case kp => exact ⟨by dsimp only; omega, by dsimp only; omega, by dsimp only at ql ⊢; rw [← ql]; exact p3, by simp only [ones, List.map_append]; exact StrsAre.snoc p4 _ _, by simp; omega⟩
      case km => dsimp only; omega
    · have qq := chr_is' (by rw [hq]) (by assumption : (chr1 (sfx tx e).head? != chr1 (sfx tx j).head?) = false)
      have ql := qlex_end q (sfx tx e) acc qq
      rw [← sfx_succ tx e (by omega)] at ql
      have q3 := sfx_ne tx e (by omega) p2 (some_ne qq)
      refine hret _ _ _ _ (by assumption) (cb_drop (by assumption) (by kcj_all)) ⟨_, acc, _, _, _, rfl, congrArg (fun z => (_, pairO (.str z _) _) :: lexLed w x dx kt k1 k2 k3 k4 kk tx tt i ti nl rest) (join_ones_is acc), ?_, p3.symm.trans ql, by omega, by omega⟩
      rename x < _ ∧ dx < _ ∧ kt < _ ∧ ch < _ ∧ AllLt _ rest => l9
      exact ⟨l9.1, l9.2.1, l9.2.2.1, l9.2.2.2.2⟩
end M8
local macro_rules | `(tactic| walk_at "v4") => `(tactic| (k_here; (rename Fr _ _ _ _ => lF'); (with_unfolding_all refine' For_invVF lF' ?k1 ?k2 ?_; (case k1 => exact rfl); (case k2 => exact rfl); k_whole)))
section M9
local macro_rules | `(tactic| walk_at "exec For Name Name cons nil") => `(tactic| walk_at "v4")
local macro_rules | `(tactic| walk_at "pyIter str") => `(tactic| refine stk ?_)
local macro_rules | `(tactic| walk_at "pyIter ref") => `(tactic| refine stk ?_)
local macro_rules | `(tactic| walk_at "InvEndN") => `(tactic| refine stk ?_)

theorem code_mem {S : Str} {pre post : List Int} {n : Nat} (h : KStt.codes S = pre ++ (n : Int) :: post) : n ∈ S.cps.toList := by
  have : (n : Int) ∈ KStt.codes S := by rw [h]; simp
  simp only [KStt.codes, List.mem_map] at this
  obtain ⟨a, h1, h2⟩ := this
  rw [← Int.natCast_inj.mp h2]
  exact h1
set_option maxHeartbeats 1000000 in
theorem digits_value_c (w : World) (S : Str) (t : Tok) (news : Led) (hS : ∀ c ∈ S.cps.toList, 48 ≤ c ∧ c ≤ 57) : Doing w 174 [.str S t] 4 64 news (fun r n' => ∃ v t', r = .int v t' ∧ 0 ≤ v ∧ v < (10 : Int) ^ S.length ∧ n' = news) := by
  unfold Doing
  intro mean mg mb dp un gd cn cs a ccd cl outer A₀ base h₀ L m s Q E B F X N T hk hd' hu hret
  k_steps
  refine Stk.out ?_
  refine' KStt.kst_text (σ := Int × Tok) (fun _ => news) (fun c => [(Str.ofString "value", .int c.1 c.2)]) (fun _ => True) [] (fun pre c => 0 ≤ c.1 ∧ c.1 < (10 : Int) ^ pre.length) (0, ?t0) rfl (by assumption) (by assumption) trivial ?kk ?kp ?kt ?kd
  case kk => intro p hp; simp only [List.mem_singleton] at hp; subst hp; rfl
  case kp => exact ⟨Int.le_refl 0, show (0 : Int) < 10 ^ 0 by decide⟩
  case kt =>
    intro c pre post n t9 u h tk own hc ho _ hp F1 N1
    obtain ⟨v, tv⟩ := c
    have hn := hS n (code_mem hc)
    dsimp only at hp F1 N1 ⊢
    (try k_fold)
    k_steps
    refine Stk.out ?_
    refine' kst_end (v * 10 + n - 48, ?tv2) (by assumption) (by assumption) ?hn ?ho rfl trivial ?kk ?kr ?kp
    case kk => intro p hp; simp only [List.mem_singleton] at hp; subst hp; rfl
    case kr => intro z h1 h2 h3; have h4 := h2 _ (List.mem_singleton.mpr rfl); dsimp only at h4; simp only [kstB, if_neg h1, if_neg h4]; rfl
    case kp =>
      obtain ⟨q1, q2⟩ := hp
      have q3 : (10 : Int) ^ (pre ++ [(n : Int)]).length = 10 ^ pre.length * 10 := by rw [List.length_append]; exact Int.pow_succ 10 pre.length
      refine ⟨?_, ?_⟩
      · dsimp only; omega
      · dsimp only; rw [q3]; omega
    case hn => intro p hp; exact List.mem_append_left _ hp
    case ho => intro p hp; exact List.mem_append_right _ hp
  case kd =>
    intro c u h tk _ hp F1 N1
    obtain ⟨v, tv⟩ := c
    dsimp only at hp F1 N1 ⊢
    (try k_fold)
    k_steps
    exact hret _ _ _ _ (by assumption) (by assumption) ⟨_, _, rfl, hp.1, by rw [← KStt.codes_length]; exact hp.2, rfl⟩
end M9
section M10
local macro_rules | `(tactic| walk_at "exec For Name Name cons nil") => `(tactic| walk_at "v4")
local macro_rules | `(tactic| walk_at "pyIter str") => `(tactic| refine stk ?_)
local macro_rules | `(tactic| walk_at "pyIter ref") => `(tactic| refine stk ?_)
local macro_rules | `(tactic| walk_at "InvEndN") => `(tactic| refine stk ?_)

theorem is_letter_i (w : World) (o : Option Nat) (V : Str) (t : Tok) (news : Led) (h : V = chr1 o) : Doing w 132 [.str V t] 1 8 news (fun r n' => r = .bool (pLetter o) ∧ n' = news) := h ▸ is_letter_c w o t news
theorem is_digit_i (w : World) (o : Option Nat) (V : Str) (t : Tok) (news : Led) (h : V = chr1 o) : Doing w 139 [.str V t] 1 8 news (fun r n' => r = .bool (pDigit o) ∧ n' = news) := h ▸ is_digit_c w o t news
local macro_rules | `(tactic| walk_at "call ref") => `(tactic| (k_here; (with_reducible show wpAny _ _ (call (Value.ref 132) [Value.str (Txt.item _ _) _]) _ _ _); k_dflt (refine' Doing.v0 (D := is_letter_i _ _ _ _ _ (by assumption)) (ret := ?_)); intro h9 tk9 F9 N9; walk_at "uS"))
local macro_rules | `(tactic| walk_at "call ref") => `(tactic| (k_here; (with_reducible show wpAny _ _ (call (Value.ref 139) [Value.str (Txt.slice _ _ _) _]) _ _ _); k_dflt (refine' Doing.v0 (D := is_digit_i _ _ _ _ _ (by assumption)) (ret := ?_)); intro h9 tk9 F9 N9; walk_at "uS"))
def plainB (l : List Nat) : Bool :=
  match l with
  | [] => false
  | c :: t => !isKey ⟨(c :: t).toArray⟩ && (pLetter (some c) || c == 46) && !(c == 46 && pDigit t.head?) && (c :: t).all fun z => pName (some z)
theorem item_head (c : Nat) (l : List Nat) : Txt.item ⟨(c :: l).toArray⟩ 0 = chr1 (some c) := by
  have := item_zero_left c l Str.empty
  rw [Str.append_empty] at this
  exact this
set_option maxHeartbeats 1000000 in
theorem plain_c (w : World) (l : List Nat) (t : Tok) (news : Led) (hl : l.length ≤ 1000) : Doing w 160 [.str ⟨l.toArray⟩ t] 4 64 news (fun r n' => r = .bool (plainB l) ∧ n' = news) := by
  unfold Doing
  intro mean mg mb dp un gd cn cs a ccd cl outer A₀ base h₀ L m s Q E B F X N T hk hd' hu hret
  cases l with
  | nil =>
    have hne : ((⟨([] : List Nat).toArray⟩ : Str) == Str.ofString "") = true := by decide +kernel
    k_steps
    exact hret _ _ _ _ (by assumption) (cb_drop (by assumption) (by kcj_all)) ⟨rfl, rfl⟩
  | cons c l =>
    have hi := item_head c l
    have hs : Txt.slice ⟨(c :: l).toArray⟩ (some 1) (some 2) = chr1 l.head? := by
      have := slice_one ⟨(c :: l).toArray⟩ 1
      simpa using this
    have hne : ((⟨(c :: l).toArray⟩ : Str) == Str.ofString "") = false := by rw [lit_empty, ← Bool.not_eq_true, beq_iff_eq]; intro q; cases q
    cases hlet : pLetter (some c) with
    | true =>
      have hc : (c == 46) = false := by
        rw [← Bool.not_eq_true, beq_iff_eq]; intro q; subst q; exact absurd hlet (by decide)
      have hdot : (Txt.item ⟨(c :: l).toArray⟩ 0 == Str.ofString ".") = false := by rw [hi, lit_dot, chr1_beq]; simpa using hc
      k_steps
      · refine hret _ _ _ _ (by assumption) (cb_drop (by assumption) (by kcj_all)) ⟨?_, rfl⟩
        have q : isKey ⟨(c :: l).toArray⟩ = true := by assumption
        simp only [plainB, q, Bool.not_true, Bool.false_and]
      refine Stk.out ?_
      refine' KStt.kst_text (σ := Unit) (fun _ => news) (fun c => []) (fun _ => True) [] (fun pre _ => (pre.all fun z => pName (some z.toNat)) = true) () rfl (by assumption) (cb_drop (by assumption) (by kcj_all)) trivial ?kk ?kp ?kt ?kd
      case kk => exact fun _ hp => nomatch hp
      case kp => rfl
      case kt =>
        intro c9 pre post n t9 u h tk own hc ho _ hp F1 N1
        rw [show (⟨#[n]⟩ : Str) = chr1 (some n) from rfl] at F1
        dsimp only at hp F1 N1 ⊢
        (try k_fold)
        k_steps
        rotate_left
        · refine hret _ _ _ _ (by assumption) (cb_drop (by assumption) (by kcj_all)) ⟨?_, rfl⟩
          have q := (by assumption : pName (some n) = false)
          have q2 : ((c :: l).all fun z => pName (some z)) = false := by
            rw [List.all_eq_false]
            have q3 := code_mem hc
            exact ⟨n, by simpa using q3, by rw [q]; exact Bool.false_ne_true⟩
          rw [plainB, q2, Bool.and_false]
        · refine Stk.out ?_
          refine' kst_end () (by assumption) (by assumption) ?hn ?ho rfl trivial ?kk ?kr ?kp
          case kk => exact fun _ hp => nomatch hp
          case kr => intro z h1 h2 h3; simp only [kstB, if_neg h1]; rfl
          case kp =>
            have q := (by assumption : pName (some n) = true)
            rw [List.all_append, hp]
            simpa using q
          case hn => intro p hp; exact List.mem_append_left _ hp
          case ho => intro p hp; exact List.mem_append_right _ hp
      case kd =>
        intro c9 u h tk _ hp F1 N1
        dsimp only at hp F1 N1 ⊢
        (try k_fold)
        k_steps
        refine hret _ _ _ _ (by assumption) (by assumption) ⟨?_, rfl⟩
        have q2 : ((c :: l).all fun z => pName (some z)) = true := by
          have : KStt.codes ⟨(c :: l).toArray⟩ = (c :: l).map fun (z : Nat) => (z : Int) := rfl
          rw [this, List.all_map] at hp
          exact hp
        rw [plainB, q2]
        have q : isKey ⟨(c :: l).toArray⟩ = false := by assumption
        simp only [q, hlet, hc, Bool.not_false, Bool.true_or, Bool.false_and, Bool.true_and, Bool.and_true]
    | false =>
      cases hc : (c == 46) with
      | true =>
        have hdot : (Txt.item ⟨(c :: l).toArray⟩ 0 == Str.ofString ".") = true := by rw [hi, lit_dot, chr1_beq]; simpa using hc
        have hdot' : (Txt.item ⟨(c :: l).toArray⟩ 0 != Str.ofString ".") = false := by rw [bne, hdot]; rfl
        k_steps
        · refine hret _ _ _ _ (by assumption) (cb_drop (by assumption) (by kcj_all)) ⟨?_, rfl⟩
          have q : isKey ⟨(c :: l).toArray⟩ = true := by assumption
          simp only [plainB, q, Bool.not_true, Bool.false_and]
        · refine hret _ _ _ _ (by assumption) (cb_drop (by assumption) (by kcj_all)) ⟨?_, rfl⟩
          have q : pDigit l.head? = true := by assumption
          simp only [plainB, q, hc, Bool.and_true, Bool.not_true, Bool.and_false, Bool.false_and]
        refine Stk.out ?_
        refine' KStt.kst_text (σ := Unit) (fun _ => news) (fun c => []) (fun _ => True) [] (fun pre _ => (pre.all fun z => pName (some z.toNat)) = true) () rfl (by assumption) (cb_drop (by assumption) (by kcj_all)) trivial ?kk ?kp ?kt ?kd
        case kk => exact fun _ hp => nomatch hp
        case kp => rfl
        case kt =>
          intro c9 pre post n t9 u h tk own hc ho _ hp F1 N1
          rw [show (⟨#[n]⟩ : Str) = chr1 (some n) from rfl] at F1
          dsimp only at hp F1 N1 ⊢
          (try k_fold)
          k_steps
          rotate_left
          · refine hret _ _ _ _ (by assumption) (cb_drop (by assumption) (by kcj_all)) ⟨?_, rfl⟩
            have q := (by assumption : pName (some n) = false)
            have q2 : ((c :: l).all fun z => pName (some z)) = false := by
              rw [List.all_eq_false]
              have q3 := code_mem hc
              exact ⟨n, by simpa using q3, by rw [q]; exact Bool.false_ne_true⟩
            rw [plainB, q2, Bool.and_false]
          · refine Stk.out ?_
            refine' kst_end () (by assumption) (by assumption) ?hn ?ho rfl trivial ?kk ?kr ?kp
            case kk => exact fun _ hp => nomatch hp
            case kr => intro z h1 h2 h3; simp only [kstB, if_neg h1]; rfl
            case kp =>
              have q := (by assumption : pName (some n) = true)
              rw [List.all_append, hp]
              simpa using q
            case hn => intro p hp; exact List.mem_append_left _ hp
            case ho => intro p hp; exact List.mem_append_right _ hp
        case kd =>
          intro c9 u h tk _ hp F1 N1
          dsimp only at hp F1 N1 ⊢
          (try k_fold)
          k_steps
          refine hret _ _ _ _ (by assumption) (by assumption) ⟨?_, rfl⟩
          have q2 : ((c :: l).all fun z => pName (some z)) = true := by
            have : KStt.codes ⟨(c :: l).toArray⟩ = (c :: l).map fun (z : Nat) => (z : Int) := rfl
            rw [this, List.all_map] at hp
            exact hp
          rw [plainB, q2]
          have q : isKey ⟨(c :: l).toArray⟩ = false := by assumption
          have q3 : pDigit l.head? = false := by assumption
          simp only [q, q3, hlet, hc, Bool.not_false, Bool.or_true, Bool.and_false, Bool.true_and, Bool.and_true]
      | false =>
        have hdot : (Txt.item ⟨(c :: l).toArray⟩ 0 == Str.ofString ".") = false := by rw [hi, lit_dot, chr1_beq]; simpa using hc
        have hdot' : (Txt.item ⟨(c :: l).toArray⟩ 0 != Str.ofString ".") = true := by rw [bne, hdot]; rfl
        k_steps
        all_goals refine hret _ _ _ _ (by assumption) (cb_drop (by assumption) (by kcj_all)) ⟨?_, rfl⟩
        all_goals simp only [plainB, hlet, hc, Bool.or_false, Bool.and_false, Bool.false_and]
end M10
section M11
local macro_rules | `(tactic| walk_at "exec For Name Name cons nil") => `(tactic| walk_at "v4")
local macro_rules | `(tactic| walk_at "pyIter str") => `(tactic| refine stk ?_)
local macro_rules | `(tactic| walk_at "pyIter ref") => `(tactic| refine stk ?_)
local macro_rules | `(tactic| walk_at "InvEndN") => `(tactic| refine stk ?_)

set_option maxHeartbeats 1000000 in
theorem number_c (w : World) (n d : Int) (tn td : Tok) (news : Led) (hn : 0 ≤ n) (hd0 : 0 < d) (hn8 : n ≤ 100000000) (hd8 : d ≤ 100000000) : Doing w 97 [.int n tn, .int d td] 8 120 news (fun r n' => ∃ D, r = .ref D ∧ n' = news) := by
  unfold Doing
  intro mean mg mb dp un gd cn cs a ccd cl outer A₀ base h₀ L m s Q E B F X N T hk hd' hu hret
  have hn' : ¬ n < 0 := by omega
  k_steps
  refine Stk.out ?_
  refine' ksw_while (σ := Int × Tok × Int × Tok) (fun c => news) (fun c => [(Str.ofString "a", .int c.1 c.2.1), (Str.ofString "b", .int c.2.2.1 c.2.2.2)]) (fun _ => True) [] (fun c => 0 ≤ c.1 ∧ 0 ≤ c.2.2.1 ∧ 0 < c.1 + c.2.2.1 ∧ c.1 ≤ 100000000 ∧ c.2.2.1 ≤ 100000000) (fun c => c.2.2.1.toNat) (n, ?t0, d, ?t1) (by assumption) (by assumption) trivial ?kk ?kp ?kt ?kE
  case kk => 
    intro p hp
    simp only [List.mem_cons, List.not_mem_nil, or_false] at hp
    rcases hp with rfl | rfl
    · simp only [if_neg hn']; rfl
    · rfl
  case kp => exact ⟨hn, by dsimp only; omega, by dsimp only; omega, hn8, hd8⟩
  case kE => passes_own
  case kt =>
    intro c u h tk _ hp F1 N1
    obtain ⟨x, tx, y, ty⟩ := c
    obtain ⟨p1, p2, p3, p4, p5⟩ := hp
    dsimp only at p1 p2 p3 p4 p5 F1 N1 ⊢
    (try k_fold)
    k_steps
    · have q1 := Int.fmod_nonneg_of_pos x (by assumption : 0 < y)
      have q2 := Int.fmod_lt_of_pos x (by assumption : 0 < y)
      refine Stk.out ?_
      refine' ksw_end (y, ?tt, x.fmod y, ?tt2) (by assumption) (by assumption) (by kcj_all) trivial ?kk ?kr ?kp ?km
      case kk => 
        intro p hp
        simp only [List.mem_cons, List.not_mem_nil, or_false] at hp
        rcases hp with rfl | rfl <;> rfl
      case kr => intro z h2 _; have h3 := h2 _ (.head _); have h4 := h2 _ (.tail _ (.head _)); dsimp only at h3 h4; simp only [kstB, if_neg h3, if_neg h4]; rfl
      case kp => exact ⟨p2, q1, by dsimp only; omega, by dsimp only; omega, by dsimp only; omega⟩
      case km => dsimp only; omega
    · have hx : 0 < x := by omega
      have hx' : x ≠ 0 := by omega
      k_steps
      exact hret _ _ _ _ (by assumption) (cb_drop (by assumption) (by kcj_all)) ⟨_, rfl, rfl⟩
end M11
local macro_rules | `(tactic| walk_at "call ref") => `(tactic| (k_here; (with_reducible show wpAny _ _ (call (Value.ref 196) _) _ _ _); k_dflt (refine' Doing.v1 (D := char_c _ _ _ _ _ _ _ _ _ _ _ _ _ _ _ _ _ (by walk_at "u0") (by walk_at "u0")) (ret := ?_)); intro t9 h9 tk9 F9 N9; walk_at "uS"))
local macro_rules | `(tactic| walk_at "call ref") => `(tactic| (k_here; (with_reducible show wpAny _ _ (call (Value.ref 203) _) _ _ _); k_dflt (refine' Doing.v6 (D := token_c _ _ _ _ _ _ _ _ _ _ _ _ _ _ _ _ _ _ _ _ (by walk_at "u2") (by walk_at "u1") (by walk_at "u1")) (ret := ?_)); intro T9 dT9 j91 j92 j93 j94 h9 tk9 F9 N9 p9; obtain ⟨l9, l9'⟩ := p9; walk_at "uS"))
section M12
local macro_rules | `(tactic| walk_at "call ref") => `(tactic| (k_here; (with_reducible show wpAny _ _ (call (Value.ref 97) _) _ _ _); k_dflt (refine' Doing.v1 (D := number_c _ _ _ _ _ _ (by walk_at "u0") (by walk_at "u0") (by walk_at "u0") (by walk_at "u0")) (ret := ?_)); intro D9 h9 tk9 F9 N9; walk_at "uS"))
set_option maxHeartbeats 1000000 in
theorem number_token_c (w : World) (x dx kt : Addr) (k1 k2 k3 k4 kk : Tok) (tx : Str) (tt : Tok) (i : Int) (ti : Tok) (nl : Bool) (rest : Led) (n d j e : Int) (tn td tj te : Tok) (hn : 0 ≤ n) (hd0 : 0 < d) (hn8 : n ≤ 100000000) (hd8 : d ≤ 100000000) (hl : tx.length ≤ 1000) (he : 0 ≤ e) (hrest : ∀ p ∈ rest, p.1 ≠ dx) (hxd : x ≠ dx) (hkd : kt ≠ dx) (hi : (chr1 (sfx tx e).head? == Str.ofString "i") = false) (hL : (chr1 (sfx tx e).head? == Str.ofString "L") = false) (hL' : (chr1 (sfx tx e).head? != Str.ofString "L") = true) :
   Doing w 273 [.ref x, .int n tn, .int d td, .int j tj, .int e te] 16 200 (lexLed w x dx kt k1 k2 k3 k4 kk tx tt i ti nl rest) (GotTok w x dx kt k1 k2 k3 k4 kk tx tt rest fun kv vv e' => (∃ tk, kv = .str (Str.ofString "num") tk) ∧ e' = e) := by
  unfold Doing
  intro mean mg mb dp un gd cn cs a ccd cl outer A₀ base h₀ L m s Q E B F X N T hk hd' hu hret
  k_steps
  exact hret _ _ _ _ (by assumption) (by assumption) ⟨_, _, _, _, _, _, _, _, _, _, _, _, rfl, rfl, by assumption, by assumption, (by first | rfl | assumption), ⟨_, rfl⟩, rfl⟩
end M12
section M13

def pd (c : Nat) : Bool := pDigit (some c)
theorem pow10_pos (k : Int) : (0 : Int) < 10 ^ k.toNat := Int.pow_pos (by decide)
theorem pow10_le {k : Int} (h : k ≤ 8) : (10 : Int) ^ k.toNat ≤ 100000000 := by
  have h2 : k.toNat ≤ 8 := by omega
  generalize k.toNat = n at h2
  have : n = 0 ∨ n = 1 ∨ n = 2 ∨ n = 3 ∨ n = 4 ∨ n = 5 ∨ n = 6 ∨ n = 7 ∨ n = 8 := by omega
  rcases this with rfl | rfl | rfl | rfl | rfl | rfl | rfl | rfl | rfl <;> decide
theorem pow10_mul {v : Int} (h : v ≤ 100000000) : v * 10 ^ (0 : Int).toNat ≤ 100000000 := by
  have : (10 : Int) ^ (0 : Int).toNat = 1 := by decide
  rw [this]; omega
theorem pow10_mulk {v k : Int} (h : v ≤ 100000000) (hk : k ≤ 0) : v * 10 ^ k.toNat ≤ 100000000 := by
  have : k.toNat = 0 := by omega
  rw [this, Int.pow_zero]; omega
theorem pow10_mulk0 {v k : Int} (h : 0 ≤ v) : 0 ≤ v * 10 ^ k.toNat := Int.mul_nonneg h (Int.le_of_lt (pow10_pos k))
theorem pow10_mul0 {v : Int} (h : 0 ≤ v) : 0 ≤ v * 10 ^ (0 : Int).toNat := by
  have : (10 : Int) ^ (0 : Int).toNat = 1 := by decide
  rw [this]; omega
theorem digits_value8_c (w : World) (S : Str) (t : Tok) (news : Led) (hS : ∀ c ∈ S.cps.toList, 48 ≤ c ∧ c ≤ 57) (h8 : S.length ≤ 8) : Doing w 174 [.str S t] 4 64 news (fun r n' => ∃ v t', r = .int v t' ∧ 0 ≤ v ∧ v ≤ 100000000 ∧ n' = news) := by
  have h := digits_value_c w S t news hS
  unfold Doing at h ⊢
  intro mean mg mb dp un gd cn cs a ccd cl outer A₀ base h₀ L m s Q E B F X N T hk hd' hu hret
  refine h _ _ _ _ _ _ _ _ _ _ _ _ _ _ _ _ _ _ _ _ B F X N T hk hd' hu fun r n' h' tk' F' N' p => ?_
  obtain ⟨v, t', e1, e2, e3, e4⟩ := p
  have q : (10 : Int) ^ S.length ≤ 100000000 := by have := @pow10_le (S.length : Int) (by omega); rwa [Int.toNat_natCast] at this
  exact hret _ _ _ _ F' N' ⟨v, t', e1, e2, by omega, e4⟩
def NumOk (tx : Str) : Prop := tx.length ≤ 8 ∧ ∀ e, (sfx tx e).head? ≠ some 48 ∧ (sfx tx e).head? ≠ some 101 ∧ (sfx tx e).head? ≠ some 69 ∧ (sfx tx e).head? ≠ some 105 ∧ (sfx tx e).head? ≠ some 76
theorem beq_no {o : Option Nat} {c : Nat} {S : Str} (hS : S = ⟨#[c]⟩) (h : o ≠ some c) : (chr1 o == S) = false := by
  subst hS; rw [chr1_beq, ← Bool.not_eq_true, beq_iff_eq]; exact h
theorem beq_no' {o : Option Nat} {c : Nat} {S : Str} (hS : S = ⟨#[c]⟩) (h : o ≠ some c) : (S == chr1 o) = false := by
  subst hS; rw [beq_chr1, ← Bool.not_eq_true, beq_iff_eq]; exact h
theorem run_le (p : Nat → Bool) (l : List Nat) : run p l ≤ l.length := by
  unfold run; exact List.Sublist.length_le (List.takeWhile_sublist p)
theorem take_run (p : Nat → Bool) (l : List Nat) : l.take (run p l) = l.takeWhile p := by
  induction l with
  | nil => rfl
  | cons c t ih =>
    cases h : p c with
    | true => rw [run_pos p c t h, List.take_succ_cons, ih, List.takeWhile_cons, h]; rfl
    | false => rw [run_neg p c t h, List.takeWhile_cons, h]; rfl
theorem takeWhile_all (p : Nat → Bool) (l : List Nat) : ∀ c ∈ l.takeWhile p, p c = true := by
  induction l with
  | nil => intro c hc; cases hc
  | cons d t ih =>
    intro c hc
    cases h : p d with
    | true =>
      rw [List.takeWhile_cons, h] at hc
      rcases List.mem_cons.mp hc with rfl | hc
      · exact h
      · exact ih c hc
    | false => rw [List.takeWhile_cons, h] at hc; cases hc
theorem run_digits (l : List Nat) : ∀ c ∈ l.take (run (fun c => pDigit (some c)) l), 48 ≤ c ∧ c ≤ 57 := by
  intro c hc
  have e : l.take (run (fun c => pDigit (some c)) l) = l.takeWhile (fun c => pDigit (some c)) := take_run _ l
  rw [e] at hc
  have := takeWhile_all _ l c hc
  simpa [pDigit] using this
local macro_rules | `(tactic| walk_at "call ref") => `(tactic| (k_here; (with_reducible show wpAny _ _ (call (Value.ref 245) _) _ _ _); k_dflt (refine' Doing.v1 (D := digits_end_c _ _ _ _ _ _ _ _ _ _ _ _ _ _ _ _ _ (by walk_at "u0") (by walk_at "u0") (by walk_at "u0")) (ret := ?_)); intro t9 h9 tk9 F9 N9; walk_at "uS"))
local macro_rules | `(tactic| walk_at "call ref") => `(tactic| (k_here; (with_reducible show wpAny _ _ (call (Value.ref 174) _) _ _ _); k_dflt (refine' Doing.u (D := digits_value8_c _ _ _ _ (by assumption) (by assumption)) (ret := ?_)); intro r9 n9 h9 tk9 F9 N9 p9; obtain ⟨v9, t9, e9, l9, l9', e9'⟩ := p9; subst e9; subst e9'; walk_at "uS"))

local macro_rules | `(tactic| walk_at "u3") => `(tactic| ((first | assumption | omega | exact pow10_pos _ | exact pow10_le (by omega) | exact pow10_mul (by assumption) | exact pow10_mul0 (by assumption) | exact pow10_mulk (by assumption) (by omega) | exact pow10_mulk0 (by assumption) | (simp only [AllLt, sfx] at *; omega))))
local macro_rules | `(tactic| walk_at "zz") => `(tactic| (k_here; (with_reducible show wpAny _ _ (call (Value.ref 273) _) _ _ _); k_dflt (refine' Doing.vG (D := number_token_c _ _ _ _ _ _ _ _ _ _ _ _ _ _ _ _ _ _ _ _ _ _ _ (by walk_at "u3") (by walk_at "u3") (by walk_at "u3") (by walk_at "u3") (by walk_at "u0") (by walk_at "u0") (by walk_at "u2") (by walk_at "u1") (by walk_at "u1") (by assumption) (by assumption) (by assumption)) (ret := ?_)); intro T9 dT9 j91 j92 j93 j94 kv9 vv9 av9 nl9 i9 ti9 h9 tk9 F9 N9 l9 l9' hv9 s9; walk_at "uS"))
local macro_rules | `(tactic| walk_at "call ref") => `(tactic| with_reducible refine halt 273 ?_)

set_option maxHeartbeats 1000000 in
theorem numeral_c (w : World) (x dx kt : Addr) (k1 k2 k3 k4 kk : Tok) (tx : Str) (tt : Tok) (i : Int) (ti : Tok) (nl : Bool) (rest : Led) (j : Int) (tj : Tok) (hok : NumOk tx) (hj : 0 ≤ j) (hj2 : j ≤ tx.length) (hrest : ∀ p ∈ rest, p.1 ≠ dx) (hxd : x ≠ dx) (hkd : kt ≠ dx) :
   Doing w 252 [.ref x, .int j tj] 20 300 (lexLed w x dx kt k1 k2 k3 k4 kk tx tt i ti nl rest) (GotTok w x dx kt k1 k2 k3 k4 kk tx tt rest fun kv vv e' => (∃ tk, kv = .str (Str.ofString "num") tk) ∧ j ≤ e' ∧ e' ≤ tx.length) := by
  unfold Doing
  intro mean mg mb dp un gd cn cs a ccd cl outer A₀ base h₀ L m s Q E B F X N T hk hd' hu hret
  obtain ⟨hl8, hch⟩ := hok
  have hl : tx.length ≤ 1000 := by omega
  have h0 : (chr1 (sfx tx j).head? == Str.ofString "0") = false := beq_no lit_0 (hch j).1
  have hi : ∀ e, (chr1 (sfx tx e).head? == Str.ofString "i") = false := fun e => beq_no lit_i (hch e).2.2.2.1
  have hL : ∀ e, (chr1 (sfx tx e).head? == Str.ofString "L") = false := fun e => beq_no lit_L (hch e).2.2.2.2
  have hL' : ∀ e, (chr1 (sfx tx e).head? != Str.ofString "L") = true := fun e => by rw [bne, hL]; rfl
  have hE : ∀ e, ([Str.ofString "e", Str.ofString "E"].any fun x => x == chr1 (sfx tx e).head?) = false := fun e => by
    simp only [List.any_cons, List.any_nil, Bool.or_false, beq_no' lit_e (hch e).2.1, beq_no' lit_E (hch e).2.2.1]
  have r1 := run_le (fun c => pDigit (some c)) (sfx tx j)
  have l1 := sfx_len tx j hj hj2
  have s1 := slice_sfx tx j (j + run (fun c => pDigit (some c)) (sfx tx j)) hj (by omega)
  have e1 : (j + (run (fun c => pDigit (some c)) (sfx tx j) : Int) - j).toNat = run (fun c => pDigit (some c)) (sfx tx j) := by omega
  rw [e1] at s1
  have d1 : ∀ c ∈ (Txt.slice tx (some j) (some (j + run (fun c => pDigit (some c)) (sfx tx j)))).cps.toList, 48 ≤ c ∧ c ≤ 57 := by
    rw [s1]; exact run_digits _
  have b1 : (Txt.slice tx (some j) (some (j + run (fun c => pDigit (some c)) (sfx tx j)))).length ≤ 8 := by
    rw [s1]; show (List.toArray _).size ≤ 8; simp; omega
  have a1 := hi (j + run (fun c => pDigit (some c)) (sfx tx j))
  have a2 := hL (j + run (fun c => pDigit (some c)) (sfx tx j))
  have a2' := hL' (j + run (fun c => pDigit (some c)) (sfx tx j))
  have a3 := hE (j + run (fun c => pDigit (some c)) (sfx tx j))
  cases hdot : (chr1 (sfx tx (j + run (fun c => pDigit (some c)) (sfx tx j))).head? == Str.ofString ".") with
  | false =>
    k_steps
    all_goals refine Stk.out ?_
    all_goals walk_at "zz"
    all_goals k_steps
    all_goals (obtain ⟨⟨tk9, s1⟩, s2⟩ := (by assumption : (∃ tk, _ = Value.str (Str.ofString "num") tk) ∧ _ = _); subst s1; subst s2; exact hret _ _ _ _ (by assumption) (by assumption) ⟨_, _, _, _, _, _, _, _, _, _, _, _, rfl, rfl, by assumption, by assumption, (by first | rfl | assumption), ⟨_, rfl⟩, by omega, by omega⟩)
  | true =>
    have z := chr_is lit_dot hdot
    have z1 := sfx_ne tx _ (by omega) (by omega) (some_ne z)
    have r2 := run_le (fun c => pDigit (some c)) (sfx tx (j + run (fun c => pDigit (some c)) (sfx tx j) + 1))
    have l2 := sfx_len tx (j + run (fun c => pDigit (some c)) (sfx tx j) + 1) (by omega) z1
    have s2 := slice_sfx tx (j + run (fun c => pDigit (some c)) (sfx tx j) + 1) (j + run (fun c => pDigit (some c)) (sfx tx j) + 1 + run (fun c => pDigit (some c)) (sfx tx (j + run (fun c => pDigit (some c)) (sfx tx j) + 1))) (by omega) (by omega)
    have e2 : (j + (run (fun c => pDigit (some c)) (sfx tx j) : Int) + 1 + run (fun c => pDigit (some c)) (sfx tx (j + run (fun c => pDigit (some c)) (sfx tx j) + 1)) - (j + (run (fun c => pDigit (some c)) (sfx tx j) : Int) + 1)).toNat = run (fun c => pDigit (some c)) (sfx tx (j + run (fun c => pDigit (some c)) (sfx tx j) + 1)) := by omega
    rw [e2] at s2
    have d2 : ∀ c ∈ (Txt.slice tx (some j) (some (j + run (fun c => pDigit (some c)) (sfx tx j))) ++ Txt.slice tx (some (j + run (fun c => pDigit (some c)) (sfx tx j) + 1)) (some (j + run (fun c => pDigit (some c)) (sfx tx j) + 1 + run (fun c => pDigit (some c)) (sfx tx (j + run (fun c => pDigit (some c)) (sfx tx j) + 1))))).cps.toList, 48 ≤ c ∧ c ≤ 57 := by
      rw [Str.cps_append, Array.toList_append, List.forall_mem_append]
      exact ⟨d1, by rw [s2]; exact run_digits _⟩
    have b2 : (Txt.slice tx (some j) (some (j + run (fun c => pDigit (some c)) (sfx tx j))) ++ Txt.slice tx (some (j + run (fun c => pDigit (some c)) (sfx tx j) + 1)) (some (j + run (fun c => pDigit (some c)) (sfx tx j) + 1 + run (fun c => pDigit (some c)) (sfx tx (j + run (fun c => pDigit (some c)) (sfx tx j) + 1))))).length ≤ 8 := by
      rw [s1, s2]; show (Str.cps (_ ++ _)).size ≤ 8; rw [Str.cps_append, Array.size_append]; simp; omega
    have a4 := hi (j + run (fun c => pDigit (some c)) (sfx tx j) + 1 + run (fun c => pDigit (some c)) (sfx tx (j + run (fun c => pDigit (some c)) (sfx tx j) + 1)))
    have a5 := hL (j + run (fun c => pDigit (some c)) (sfx tx j) + 1 + run (fun c => pDigit (some c)) (sfx tx (j + run (fun c => pDigit (some c)) (sfx tx j) + 1)))
    have a5' := hL' (j + run (fun c => pDigit (some c)) (sfx tx j) + 1 + run (fun c => pDigit (some c)) (sfx tx (j + run (fun c => pDigit (some c)) (sfx tx j) + 1)))
    have a6 := hE (j + run (fun c => pDigit (some c)) (sfx tx j) + 1 + run (fun c => pDigit (some c)) (sfx tx (j + run (fun c => pDigit (some c)) (sfx tx j) + 1)))
    k_steps
    all_goals refine Stk.out ?_
    all_goals walk_at "zz"
    all_goals k_steps
    all_goals (obtain ⟨⟨tk9, s1⟩, s2⟩ := (by assumption : (∃ tk, _ = Value.str (Str.ofString "num") tk) ∧ _ = _); subst s1; subst s2; exact hret _ _ _ _ (by assumption) (by assumption) ⟨_, _, _, _, _, _, _, _, _, _, _, _, rfl, rfl, by assumption, by assumption, (by first | rfl | assumption), ⟨_, rfl⟩, by omega, by omega⟩)
end M13
section M14

def wordStart (l : List Nat) : Bool := pLetter l.head? || (l.head? == some 46 && !pDigit l.tail.head?)
/-- the name that stands ahead of a text without layout ahead, and what is behind it -/
def idTok (l : List Nat) : Option (List Nat × List Nat) :=
  if wordStart l = true then (if isKey (wordStr l) = true then none else some (l.take (run (fun c => pName (some c)) l), l.drop (run (fun c => pName (some c)) l)))
  else if l.head? = some 96 then (match qlex 96 l.tail [] with | some (v, r) => if v = [] then none else some (v, r) | none => none)
  else none
structure Good (tx : Str) : Prop where
  len : tx.length ≤ 1000
  hash : ∀ e, (chr1 (sfx tx e).head? == Str.ofString "#") = false
  esc : EscOk tx
  ops : ∀ j, 0 ≤ j → NoOps tx j
  raw : ∀ e, 0 ≤ e → ((sfx tx e).head? = some 114 ∨ (sfx tx e).head? = some 82) → (sfx tx (e + 1)).head? ≠ some 39 ∧ (sfx tx (e + 1)).head? ≠ some 34
def NumIf (tx : Str) (p : Int) : Prop := (pDigit (sfx tx p).head? = true ∨ ((sfx tx p).head? = some 46 ∧ pDigit (sfx tx (p + 1)).head? = true)) → NumOk tx
theorem NumIf.digit {tx : Str} {p : Int} (h : NumIf tx p) (h1 : pDigit (sfx tx p).head? = true) : NumOk tx := h (.inl h1)
theorem NumIf.dot {tx : Str} {p : Int} (h : NumIf tx p) (h1 : (chr1 (sfx tx p).head? == Str.ofString ".") = true) (h2 : pDigit (sfx tx (p + 1)).head? = true) : NumOk tx := h (.inr ⟨chr_is lit_dot h1, h2⟩)
/-- what a token read at a place is -/
def TokIs (tx : Str) (p : Int) (kv vv : Value) (e : Int) : Prop :=
  (0 ≤ e ∧ e ≤ tx.length) ∧
  ((idTok (sfx tx p) = none ∧ ∃ K tk, kv = .str K tk ∧ (K == Str.ofString "id") = false) ∨ (∃ v tk tv, idTok (sfx tx p) = some (v, sfx tx e) ∧ kv = .str (Str.ofString "id") tk ∧ vv = .str ⟨v.toArray⟩ tv)) ∧
  (sfx tx p = [] → ∃ tk, kv = .str (Str.ofString "eof") tk) ∧ (∀ t, sfx tx p = 44 :: t → (∃ tk tv, kv = .str (Str.ofString "op") tk ∧ vv = .str (Str.ofString ",") tv) ∧ e = p + 1)
theorem rR_codes : (Str.ofString "rR").cps.toList = [114, 82] := by decide +kernel
theorem eqv {o : Option Nat} {S : Str} {c c0 : Nat} (hS : S = ⟨#[c0]⟩) (ho : o = some c) : (chr1 o == S) = decide (c = c0) := by
  subst hS; subst ho; rw [chr1_beq]; simp only [Option.some_beq_some]; rfl
theorem raw_no {o : Option Nat} (h : o ≠ some 39 ∧ o ≠ some 34) : ([Str.ofString "'", Str.ofString "\""].any fun x => x == chr1 o) = false := by
  simp only [List.any_cons, List.any_nil, Bool.or_false, beq_no' lit_sq h.1, beq_no' lit_dq h.2]

theorem idTok_none {l : List Nat} (h1 : wordStart l = false) (h2 : l.head? ≠ some 96) : idTok l = none := by
  unfold idTok
  rw [if_neg (by rw [h1]; exact Bool.false_ne_true), if_neg h2]
theorem wordStart_no {l : List Nat} {c : Nat} (h : l.head? = some c) (h1 : pLetter (some c) = false) (h2 : c ≠ 46 ∨ pDigit l.tail.head? = true) : wordStart l = false := by
  unfold wordStart
  rw [h, h1, Bool.false_or]
  rcases h2 with h2 | h2
  · have : ((some c : Option Nat) == some 46) = false := by rw [← Bool.not_eq_true, beq_iff_eq]; simpa using h2
    rw [this, Bool.false_and]
  · rw [h2, Bool.not_true, Bool.and_false]
theorem digit_not_letter {c : Nat} (h : pDigit (some c) = true) : pLetter (some c) = false ∧ c ≠ 46 ∧ c ≠ 96 ∧ c ≠ 44 := by
  simp [pDigit] at h
  refine ⟨?_, by omega, by omega, by omega⟩
  simp [pLetter]; omega
theorem letter_not {c : Nat} (h : pLetter (some c) = true) : c ≠ 96 ∧ c ≠ 44 ∧ pDigit (some c) = false := by
  simp [pLetter] at h
  refine ⟨by omega, by omega, ?_⟩
  simp [pDigit]; omega
theorem TokIs.eof {tx : Str} {p : Int} {tk : Tok} {vv : Value} (h : (sfx tx p).head? = none) (hp : 0 ≤ p) (hp2 : p ≤ tx.length) : TokIs tx p (.str (Str.ofString "eof") tk) vv p := by
  have e := sfx_none tx p h
  refine ⟨⟨hp, hp2⟩, .inl ⟨by rw [e]; rfl, _, _, rfl, by decide +kernel⟩, fun _ => ⟨_, rfl⟩, fun t ht => ?_⟩
  rw [e] at ht; cases ht
theorem TokIs.other {tx : Str} {p e : Int} {K : Str} {tk : Tok} {kv vv : Value} {c : Nat} (hkv : kv = .str K tk) (ho : (sfx tx p).head? = some c) (hw : wordStart (sfx tx p) = false) (h96 : c ≠ 96) (h44 : c ≠ 44) (hK : (K == Str.ofString "id") = false) (he : 0 ≤ e) (he2 : e ≤ tx.length) : TokIs tx p kv vv e := by
  refine ⟨⟨he, he2⟩, .inl ⟨idTok_none hw (by rw [ho]; simpa using h96), _, _, hkv, hK⟩, fun h => ?_, fun t ht => ?_⟩
  · rw [h] at ho; cases ho
  · rw [ht] at ho; exact absurd (Option.some.inj ho).symm h44
theorem TokIs.op {tx : Str} {p e : Int} {tk : Tok} {kv vv : Value} {c : Nat} (hkv : kv = .str (Str.ofString "op") tk) (ho : (sfx tx p).head? = some c) (hw : wordStart (sfx tx p) = false) (h96 : c ≠ 96) (he : 0 ≤ e) (he2 : e ≤ tx.length) (hc : ∀ t, sfx tx p = 44 :: t → (∃ tv, vv = .str (Str.ofString ",") tv) ∧ e = p + 1) : TokIs tx p kv vv e := by
  refine ⟨⟨he, he2⟩, .inl ⟨idTok_none hw (by rw [ho]; simpa using h96), _, _, hkv, by decide +kernel⟩, fun h => ?_, fun t ht => ?_⟩
  · rw [h] at ho; cases ho
  · obtain ⟨⟨tv, h1⟩, h2⟩ := hc t ht
    exact ⟨⟨_, _, hkv, h1⟩, h2⟩
theorem TokIs.word {tx : Str} {p e : Int} {tk tv : Tok} {kv vv : Value} {c : Nat} (hp : 0 ≤ p) (hp2 : p ≤ tx.length) (hkv : kv = .str (if isKey (wordStr (sfx tx p)) = true then Str.ofString "key" else Str.ofString "id") tk) (hvv : vv = .str (wordStr (sfx tx p)) tv) (he : e = p + run (fun c => pName (some c)) (sfx tx p)) (ho : (sfx tx p).head? = some c) (hw : wordStart (sfx tx p) = true) (h44 : c ≠ 44) : TokIs tx p kv vv e := by
  have r := run_le (fun c => pName (some c)) (sfx tx p)
  have l := sfx_len tx p hp hp2
  refine ⟨⟨by omega, by omega⟩, ?_, fun h => ?_, fun t ht => ?_⟩
  · cases hk : isKey (wordStr (sfx tx p)) with
    | true =>
      left
      refine ⟨by unfold idTok; rw [if_pos hw, if_pos hk], _, _, hkv, ?_⟩
      rw [if_pos hk]; decide +kernel
    | false =>
      right
      refine ⟨_, tk, tv, ?_, ?_, hvv⟩
      · unfold idTok
        rw [if_pos hw, if_neg (by rw [hk]; exact Bool.false_ne_true), he, sfx_add tx p _ hp]
      · rw [hkv, if_neg (by rw [hk]; exact Bool.false_ne_true)]
  · rw [h] at ho; cases ho
  · rw [ht] at ho; exact absurd (Option.some.inj ho).symm h44
theorem idTok_quote {tx : Str} {p : Int} (hp : 0 ≤ p) (ho : (sfx tx p).head? = some 96) : idTok (sfx tx p) = (match qlex 96 (sfx tx (p + 1)) [] with | some (v, r) => if v = [] then none else some (v, r) | none => none) := by
  unfold idTok
  have : wordStart (sfx tx p) = false := wordStart_no ho (by decide) (.inl (by decide))
  rw [if_neg (by rw [this]; exact Bool.false_ne_true), if_pos ho, sfx_succ tx p hp]
theorem TokIs.quote {tx : Str} {p e : Int} {tk tv : Tok} {v : List Nat} (hp : 0 ≤ p) (ho : (sfx tx p).head? = some 96) (hq : qlex 96 (sfx tx (p + 1)) [] = some (v, sfx tx e)) (hv : v ≠ []) (he : 0 ≤ e) (he2 : e ≤ tx.length) : TokIs tx p (.str (Str.ofString "id") tk) (.str ⟨v.toArray⟩ tv) e := by
  refine ⟨⟨he, he2⟩, .inr ⟨v, tk, tv, ?_, rfl, rfl⟩, fun h => ?_, fun t ht => ?_⟩
  · rw [idTok_quote hp ho, hq]; simp only [if_neg hv]
  · rw [h] at ho; cases ho
  · rw [ht] at ho; cases ho

local macro_rules | `(tactic| walk_at "call ref") => `(tactic| with_reducible refine halt 252 ?_)

local macro_rules | `(tactic| walk_at "call ref") => `(tactic| with_reducible refine halt 224 ?_)

local macro_rules | `(tactic| walk_at "call ref") => `(tactic| with_reducible refine halt 280 ?_)

local macro_rules | `(tactic| walk_at "call ref") => `(tactic| with_reducible refine halt 231 ?_)

local macro_rules | `(tactic| walk_at "call ref") => `(tactic| with_reducible refine halt 238 ?_)

local macro_rules | `(tactic| walk_at "call ref") => `(tactic| with_reducible refine halt 217 ?_)
local macro_rules | `(tactic| walk_at "call ref") => `(tactic| (k_here; (with_reducible show wpAny _ _ (call (Value.ref 51) _) _ _ _); k_dflt (refine' Doing.v3 (D := readerr_c _ _ _ _ _ _) (ret := ?_)); intro ex9 t9 dx9 h9 tk9 F9 N9 ne9; walk_at "uS"))
local macro_rules | `(tactic| walk_at "call ref") => `(tactic| (k_here; (with_reducible show wpAny _ _ (call (Value.ref 217) _) _ _ _); k_dflt (refine' Doing.u (D := skip_c _ _ _ _ _ _ _ _ _ _ _ _ _ _ _ (by walk_at "u0") (by walk_at "u0") (by walk_at "u0") (by walk_at "u2") (by walk_at "u1") (by walk_at "u1") (by assumption)) (ret := ?_)); intro r9 n9 h9 tk9 F9 N9 p9; obtain ⟨e9, nl9, ti9, e9'⟩ := p9; subst e9; subst e9'; walk_at "uS"))
local macro_rules | `(tactic| walk_at "call ref") => `(tactic| with_reducible refine halt 294 ?_)
local macro_rules | `(tactic| walk_at "call ref") => `(tactic| with_reducible refine halt 266 ?_)
local macro_rules | `(tactic| walk_at "call ref") => `(tactic| with_reducible refine halt 259 ?_)
local macro_rules | `(tactic| walk_at "call ref") => `(tactic| with_reducible refine halt 301 ?_)
local macro_rules | `(tactic| walk_at "exec Raise some none") => `(tactic| walk_at "v0")
local macro_rules | `(tactic| walk_at "RaisePost") => `(tactic| walk_at "v1")
local macro_rules | `(tactic| walk_at "leaving ref") => `(tactic| walk_at "v2")

set_option maxHeartbeats 2000000 in
theorem next_token_c (w : World) (x dx kt : Addr) (k1 k2 k3 k4 kk : Tok) (tx : Str) (tt : Tok) (i : Int) (ti : Tok) (nl : Bool) (rest : Led) (hG : Good tx) (hi : 0 ≤ i) (hi2 : i ≤ tx.length) (hnum : NumIf tx (i + run isWs (sfx tx i))) (hrest : ∀ p ∈ rest, p.1 ≠ dx) (hxd : x ≠ dx) (hkd : kt ≠ dx) :
   DoingX w 210 [.ref x] 30 500 (lexLed w x dx kt k1 k2 k3 k4 kk tx tt i ti nl rest) rest (idTok (sfx tx (i + run isWs (sfx tx i))) = none ∧ sfx tx (i + run isWs (sfx tx i)) ≠ [] ∧ (sfx tx (i + run isWs (sfx tx i))).head? ≠ some 44) (GotTok w x dx kt k1 k2 k3 k4 kk tx tt rest fun kv vv e => TokIs tx (i + run isWs (sfx tx i)) kv vv e) := by
  unfold DoingX
  intro mean mg mb dp un gd cn cs a ccd cl outer A₀ base h₀ L m s Q E B F X N T hk hd' hu hret hexc
  have hl := hG.len
  have hash := hG.hash
  have hesc := hG.esc
  have r1 := run_le isWs (sfx tx i)
  have l1 := sfx_len tx i hi hi2
  have hno := hG.ops (i + run isWs (sfx tx i)) (by omega)
  have hj : 0 ≤ i + (run isWs (sfx tx i) : Int) := by omega
  have hj2 : i + (run isWs (sfx tx i) : Int) ≤ tx.length := by omega
  have hraw := hG.raw (i + run isWs (sfx tx i)) hj
  cases ho : (sfx tx (i + run isWs (sfx tx i))).head? with
  | none =>
    have hE : (chr1 (sfx tx (i + run isWs (sfx tx i))).head? == Str.ofString "") = true := by rw [ho, lit_empty]; rfl
    k_steps
    refine hret _ _ _ _ (by assumption) (by assumption) ⟨_, _, _, _, _, _, _, _, _, _, _, _, rfl, rfl, by assumption, by assumption, (by first | rfl | assumption), TokIs.eof ho hj hj2⟩
  | some c =>
    have hE : (chr1 (sfx tx (i + run isWs (sfx tx i))).head? == Str.ofString "") = false := by rw [ho, lit_empty]; rfl
    have hj3 := sfx_ne tx (i + run isWs (sfx tx i)) hj hj2 (some_ne ho)
    cases hD : pDigit (some c) with
    | true =>
      have fD : pDigit (sfx tx (i + run isWs (sfx tx i))).head? = true := by rw [ho]; first | assumption | (simp only [pDigit]; simp; omega)
      k_steps
      refine Stk.out ?_
      refine' Doing.use (numeral_c _ _ _ _ _ _ _ _ _ _ _ _ _ _ _ _ _ ?sd0 ?sd1 ?sd2 ?sd3 ?sd4 ?sd5) ?k1 ?k2 ?k3 ?k4 ?k5 ?k6 ?k7 ?k8 ?_
      case k1 => k_asm
      case k2 => k_asm
      case k3 => k_asm
      case k4 => first | k_asm | exact newsTl (by k_asm) | exact newsTl (newsTl (by k_asm)) | exact newsTl (newsTl (newsTl (by k_asm))) | exact newsTl (newsTl (newsTl (newsTl (by k_asm)))) | exact cb_drop (by k_asm) (by kcj_all)
      case k5 => k_asm
      case k6 => first | exact rfl | assumption
      case k7 => ktr_room
      case k8 => ktr_units
      case sd0 => first | exact NumIf.digit (by assumption) (by assumption) | exact NumIf.dot (by assumption) (by assumption) (by assumption)
      case sd1 => (first | assumption | omega | (simp only [AllLt, sfx] at *; omega))
      case sd2 => (first | assumption | omega | (simp only [AllLt, sfx] at *; omega))
      case sd3 => (first | assumption | ((repeat' (first | assumption | (refine List.forall_mem_cons.mpr ⟨?_, ?_⟩))) <;> (first | assumption | (refine neN ?_; (try dsimp only); (try simp only [AllLt] at *); omega))))
      case sd4 => (first | assumption | (refine neN ?_; (try simp only [AllLt] at *); omega))
      case sd5 => (first | assumption | (refine neN ?_; (try simp only [AllLt] at *); omega))
      intro r9 n9 h9 tk9 F9 N9 p9
      obtain ⟨T9, dT9, j91, j92, j93, j94, kv9, vv9, av9, nl9, i9, ti9, e9, e9', l9, l9', hv9, s9⟩ := p9
      subst e9
      subst e9'
      obtain ⟨d1, d2, d3, d4⟩ := digit_not_letter hD
      k_steps
      refine hret _ _ _ _ (by assumption) (by assumption) ⟨_, _, _, _, _, _, _, _, _, _, _, _, rfl, rfl, by assumption, by assumption, (by first | rfl | assumption), ?_⟩
      obtain ⟨⟨tq, s1⟩, s2, s3⟩ := s9
      have hw := wordStart_no ho (d1) (.inl d2)
      exact TokIs.other s1 ho hw (by omega) (by omega) (by decide +kernel) (by omega) s3
    | false =>
      by_cases hdot : c = 46
      · cases hD1 : pDigit (sfx tx (i + run isWs (sfx tx i) + 1)).head? with
        | true =>
          have fD : pDigit (sfx tx (i + run isWs (sfx tx i))).head? = false := by rw [ho]; first | assumption | (simp only [pDigit]; simp; omega)
          have fDot : (chr1 (sfx tx (i + run isWs (sfx tx i))).head? == Str.ofString ".") = true := (eqv lit_dot ho).trans (by simp [hdot])
          have fD1 : pDigit (sfx tx (i + run isWs (sfx tx i) + 1)).head? = true := by assumption
          k_steps
          refine Stk.out ?_
          refine' Doing.use (numeral_c _ _ _ _ _ _ _ _ _ _ _ _ _ _ _ _ _ ?sd0 ?sd1 ?sd2 ?sd3 ?sd4 ?sd5) ?k1 ?k2 ?k3 ?k4 ?k5 ?k6 ?k7 ?k8 ?_
          case k1 => k_asm
          case k2 => k_asm
          case k3 => k_asm
          case k4 => first | k_asm | exact newsTl (by k_asm) | exact newsTl (newsTl (by k_asm)) | exact newsTl (newsTl (newsTl (by k_asm))) | exact newsTl (newsTl (newsTl (newsTl (by k_asm)))) | exact cb_drop (by k_asm) (by kcj_all)
          case k5 => k_asm
          case k6 => first | exact rfl | assumption
          case k7 => ktr_room
          case k8 => ktr_units
          case sd0 => first | exact NumIf.digit (by assumption) (by assumption) | exact NumIf.dot (by assumption) (by assumption) (by assumption)
          case sd1 => (first | assumption | omega | (simp only [AllLt, sfx] at *; omega))
          case sd2 => (first | assumption | omega | (simp only [AllLt, sfx] at *; omega))
          case sd3 => (first | assumption | ((repeat' (first | assumption | (refine List.forall_mem_cons.mpr ⟨?_, ?_⟩))) <;> (first | assumption | (refine neN ?_; (try dsimp only); (try simp only [AllLt] at *); omega))))
          case sd4 => (first | assumption | (refine neN ?_; (try simp only [AllLt] at *); omega))
          case sd5 => (first | assumption | (refine neN ?_; (try simp only [AllLt] at *); omega))
          intro r9 n9 h9 tk9 F9 N9 p9
          obtain ⟨T9, dT9, j91, j92, j93, j94, kv9, vv9, av9, nl9, i9, ti9, e9, e9', l9, l9', hv9, s9⟩ := p9
          subst e9
          subst e9'
          k_steps
          refine hret _ _ _ _ (by assumption) (by assumption) ⟨_, _, _, _, _, _, _, _, _, _, _, _, rfl, rfl, by assumption, by assumption, (by first | rfl | assumption), ?_⟩
          obtain ⟨⟨tq, s1⟩, s2, s3⟩ := s9
          have hw := wordStart_no ho (by rw [hdot]; decide) (.inr (by rw [← sfx_succ tx _ hj]; exact hD1))
          exact TokIs.other s1 ho hw (by omega) (by omega) (by decide +kernel) (by omega) s3
        | false =>
          have fD : pDigit (sfx tx (i + run isWs (sfx tx i))).head? = false := by rw [ho]; first | assumption | (simp only [pDigit]; simp; omega)
          have fDot : (chr1 (sfx tx (i + run isWs (sfx tx i))).head? == Str.ofString ".") = true := (eqv lit_dot ho).trans (by simp [hdot])
          have fD1 : pDigit (sfx tx (i + run isWs (sfx tx i) + 1)).head? = false := by assumption
          have fR : (Builtin.Str.occurrences (Str.ofString "rR") (chr1 (sfx tx (i + run isWs (sfx tx i))).head?) 0 (Str.ofString "rR").length 1).isEmpty = true := by rw [ho, occ_lit, rR_codes]; simp; omega
          have fL : pLetter (sfx tx (i + run isWs (sfx tx i))).head? = false := by rw [ho]; first | assumption | (simp only [pLetter]; simp; omega)
          k_steps
          refine Stk.out ?_
          refine' Doing.use (word_c _ _ _ _ _ _ _ _ _ _ _ _ _ _ _ _ _ ?sd0 ?sd1 ?sd2 ?sd3 ?sd4 ?sd5) ?k1 ?k2 ?k3 ?k4 ?k5 ?k6 ?k7 ?k8 ?_
          case k1 => k_asm
          case k2 => k_asm
          case k3 => k_asm
          case k4 => first | k_asm | exact newsTl (by k_asm) | exact newsTl (newsTl (by k_asm)) | exact newsTl (newsTl (newsTl (by k_asm))) | exact newsTl (newsTl (newsTl (newsTl (by k_asm)))) | exact cb_drop (by k_asm) (by kcj_all)
          case k5 => k_asm
          case k6 => first | exact rfl | assumption
          case k7 => ktr_room
          case k8 => ktr_units
          case sd0 => (first | assumption | omega | (simp only [AllLt, sfx] at *; omega))
          case sd1 => (first | assumption | omega | (simp only [AllLt, sfx] at *; omega))
          case sd2 => (first | assumption | omega | (simp only [AllLt, sfx] at *; omega))
          case sd3 => (first | assumption | ((repeat' (first | assumption | (refine List.forall_mem_cons.mpr ⟨?_, ?_⟩))) <;> (first | assumption | (refine neN ?_; (try dsimp only); (try simp only [AllLt] at *); omega))))
          case sd4 => (first | assumption | (refine neN ?_; (try simp only [AllLt] at *); omega))
          case sd5 => (first | assumption | (refine neN ?_; (try simp only [AllLt] at *); omega))
          intro r9 n9 h9 tk9 F9 N9 p9
          obtain ⟨T9, dT9, j91, j92, j93, j94, kv9, vv9, av9, nl9, i9, ti9, e9, e9', l9, l9', hv9, s9⟩ := p9
          subst e9
          subst e9'
          k_steps
          refine hret _ _ _ _ (by assumption) (by assumption) ⟨_, _, _, _, _, _, _, _, _, _, _, _, rfl, rfl, by assumption, by assumption, (by first | rfl | assumption), ?_⟩
          obtain ⟨⟨tq, tq2, s1, s2⟩, s3⟩ := s9
          exact TokIs.word hj hj2 s1 s2 s3 ho (by unfold wordStart; rw [ho]; rw [← sfx_succ tx _ hj, hD1, hdot]; rfl) (by omega)
      · cases hL : pLetter (some c) with
        | true =>
          obtain ⟨d1, d2, d3⟩ := letter_not hL
          by_cases hr : c = 114 ∨ c = 82
          · have fRq := raw_no (hraw (by rw [ho]; simpa using hr))
            have fD : pDigit (sfx tx (i + run isWs (sfx tx i))).head? = false := by rw [ho]; first | assumption | (simp only [pDigit]; simp; omega)
            have fDot : (chr1 (sfx tx (i + run isWs (sfx tx i))).head? == Str.ofString ".") = false := (eqv lit_dot ho).trans (by simp [hdot])
            have fR : (Builtin.Str.occurrences (Str.ofString "rR") (chr1 (sfx tx (i + run isWs (sfx tx i))).head?) 0 (Str.ofString "rR").length 1).isEmpty = false := by rw [ho, occ_lit, rR_codes]; simp; omega
            have fL : pLetter (sfx tx (i + run isWs (sfx tx i))).head? = true := by rw [ho]; first | assumption | (simp only [pLetter]; simp; omega)
            k_steps
            refine Stk.out ?_
            refine' Doing.use (word_c _ _ _ _ _ _ _ _ _ _ _ _ _ _ _ _ _ ?sd0 ?sd1 ?sd2 ?sd3 ?sd4 ?sd5) ?k1 ?k2 ?k3 ?k4 ?k5 ?k6 ?k7 ?k8 ?_
            case k1 => k_asm
            case k2 => k_asm
            case k3 => k_asm
            case k4 => first | k_asm | exact newsTl (by k_asm) | exact newsTl (newsTl (by k_asm)) | exact newsTl (newsTl (newsTl (by k_asm))) | exact newsTl (newsTl (newsTl (newsTl (by k_asm)))) | exact cb_drop (by k_asm) (by kcj_all)
            case k5 => k_asm
            case k6 => first | exact rfl | assumption
            case k7 => ktr_room
            case k8 => ktr_units
            case sd0 => (first | assumption | omega | (simp only [AllLt, sfx] at *; omega))
            case sd1 => (first | assumption | omega | (simp only [AllLt, sfx] at *; omega))
            case sd2 => (first | assumption | omega | (simp only [AllLt, sfx] at *; omega))
            case sd3 => (first | assumption | ((repeat' (first | assumption | (refine List.forall_mem_cons.mpr ⟨?_, ?_⟩))) <;> (first | assumption | (refine neN ?_; (try dsimp only); (try simp only [AllLt] at *); omega))))
            case sd4 => (first | assumption | (refine neN ?_; (try simp only [AllLt] at *); omega))
            case sd5 => (first | assumption | (refine neN ?_; (try simp only [AllLt] at *); omega))
            intro r9 n9 h9 tk9 F9 N9 p9
            obtain ⟨T9, dT9, j91, j92, j93, j94, kv9, vv9, av9, nl9, i9, ti9, e9, e9', l9, l9', hv9, s9⟩ := p9
            subst e9
            subst e9'
            k_steps
            refine hret _ _ _ _ (by assumption) (by assumption) ⟨_, _, _, _, _, _, _, _, _, _, _, _, rfl, rfl, by assumption, by assumption, (by first | rfl | assumption), ?_⟩
            obtain ⟨⟨tq, tq2, s1, s2⟩, s3⟩ := s9
            exact TokIs.word hj hj2 s1 s2 s3 ho (by unfold wordStart; rw [ho]; rw [hL]; rfl) (by omega)
          · have hh := 0
            have fD : pDigit (sfx tx (i + run isWs (sfx tx i))).head? = false := by rw [ho]; first | assumption | (simp only [pDigit]; simp; omega)
            have fDot : (chr1 (sfx tx (i + run isWs (sfx tx i))).head? == Str.ofString ".") = false := (eqv lit_dot ho).trans (by simp [hdot])
            have fR : (Builtin.Str.occurrences (Str.ofString "rR") (chr1 (sfx tx (i + run isWs (sfx tx i))).head?) 0 (Str.ofString "rR").length 1).isEmpty = true := by rw [ho, occ_lit, rR_codes]; simp; omega
            have fL : pLetter (sfx tx (i + run isWs (sfx tx i))).head? = true := by rw [ho]; first | assumption | (simp only [pLetter]; simp; omega)
            k_steps
            refine Stk.out ?_
            refine' Doing.use (word_c _ _ _ _ _ _ _ _ _ _ _ _ _ _ _ _ _ ?sd0 ?sd1 ?sd2 ?sd3 ?sd4 ?sd5) ?k1 ?k2 ?k3 ?k4 ?k5 ?k6 ?k7 ?k8 ?_
            case k1 => k_asm
            case k2 => k_asm
            case k3 => k_asm
            case k4 => first | k_asm | exact newsTl (by k_asm) | exact newsTl (newsTl (by k_asm)) | exact newsTl (newsTl (newsTl (by k_asm))) | exact newsTl (newsTl (newsTl (newsTl (by k_asm)))) | exact cb_drop (by k_asm) (by kcj_all)
            case k5 => k_asm
            case k6 => first | exact rfl | assumption
            case k7 => ktr_room
            case k8 => ktr_units
            case sd0 => (first | assumption | omega | (simp only [AllLt, sfx] at *; omega))
            case sd1 => (first | assumption | omega | (simp only [AllLt, sfx] at *; omega))
            case sd2 => (first | assumption | omega | (simp only [AllLt, sfx] at *; omega))
            case sd3 => (first | assumption | ((repeat' (first | assumption | (refine List.forall_mem_cons.mpr ⟨?_, ?_⟩))) <;> (first | assumption | (refine neN ?_; (try dsimp only); (try simp only [AllLt] at *); omega))))
            case sd4 => (first | assumption | (refine neN ?_; (try simp only [AllLt] at *); omega))
            case sd5 => (first | assumption | (refine neN ?_; (try simp only [AllLt] at *); omega))
            intro r9 n9 h9 tk9 F9 N9 p9
            obtain ⟨T9, dT9, j91, j92, j93, j94, kv9, vv9, av9, nl9, i9, ti9, e9, e9', l9, l9', hv9, s9⟩ := p9
            subst e9
            subst e9'
            k_steps
            refine hret _ _ _ _ (by assumption) (by assumption) ⟨_, _, _, _, _, _, _, _, _, _, _, _, rfl, rfl, by assumption, by assumption, (by first | rfl | assumption), ?_⟩
            obtain ⟨⟨tq, tq2, s1, s2⟩, s3⟩ := s9
            exact TokIs.word hj hj2 s1 s2 s3 ho (by unfold wordStart; rw [ho]; rw [hL]; rfl) (by omega)
        | false =>
          have h114 : ¬ (c = 114 ∨ c = 82) := by intro h; rcases h with rfl | rfl <;> exact absurd hL (by decide)
          by_cases h34 : c = 34
          · have hh := 0
            have fD : pDigit (sfx tx (i + run isWs (sfx tx i))).head? = false := by rw [ho]; first | assumption | (simp only [pDigit]; simp; omega)
            have fDot : (chr1 (sfx tx (i + run isWs (sfx tx i))).head? == Str.ofString ".") = false := (eqv lit_dot ho).trans (by simp [hdot, h34])
            have fR : (Builtin.Str.occurrences (Str.ofString "rR") (chr1 (sfx tx (i + run isWs (sfx tx i))).head?) 0 (Str.ofString "rR").length 1).isEmpty = true := by rw [ho, occ_lit, rR_codes]; simp; omega
            have fL : pLetter (sfx tx (i + run isWs (sfx tx i))).head? = false := by rw [ho]; first | assumption | (simp only [pLetter]; simp; omega)
            have fDq : (chr1 (sfx tx (i + run isWs (sfx tx i))).head? == Str.ofString "\"") = true := (eqv lit_dq ho).trans (by simp [hdot, h34])
            k_steps
            refine Stk.out ?_
            refine' DoingX.use (quoted_c _ _ _ _ _ _ _ _ _ _ _ _ _ _ _ _ _ c ?sd0 ?sd1 ?sd2 ?sd3 ?sd4 ?sd5) ?k1 ?k2 ?k3 ?k4 ?k5 ?k6 ?k7 ?k8 ?_ ?_
            case k1 => k_asm
            case k2 => k_asm
            case k3 => k_asm
            case k4 => first | k_asm | exact newsTl (by k_asm) | exact newsTl (newsTl (by k_asm)) | exact newsTl (newsTl (newsTl (by k_asm))) | exact newsTl (newsTl (newsTl (newsTl (by k_asm)))) | exact cb_drop (by k_asm) (by kcj_all)
            case k5 => k_asm
            case k6 => first | exact rfl | assumption
            case k7 => ktr_room
            case k8 => ktr_units
            case sd0 => (first | assumption | omega | (simp only [AllLt, sfx] at *; omega))
            case sd1 => (first | assumption | omega | (simp only [AllLt, sfx] at *; omega))
            case sd2 => (first | assumption | omega | (simp only [AllLt, sfx] at *; omega))
            case sd3 => exact ho
            case sd4 => omega
            case sd5 => assumption
            rotate_left
            intro x9 e9 g9 h9 tk9 Fg9 U9 R9
            rotate_left
            intro r9 n9 h9 tk9 F9 N9 p9
            obtain ⟨D9, val9, tv9, en9, te9, e9, e9', l9, s9, s9', s9''⟩ := p9
            subst e9
            subst e9'
            · k_steps
              refine hret _ _ _ _ (by assumption) (by assumption) ⟨_, _, _, _, _, _, _, _, _, _, _, _, rfl, rfl, by assumption, by assumption, (by first | rfl | assumption), ?_⟩
              have hw := wordStart_no ho hL (.inl hdot)
              exact TokIs.other rfl ho hw (by omega) (by omega) (by decide +kernel) (by omega) (by omega)
            · have hw := wordStart_no ho hL (.inl hdot)
              k_steps
              exact hexc ⟨idTok_none hw (by rw [ho]; simp <;> omega), some_ne ho, by rw [ho]; simp <;> omega⟩ _ _ _ _ (by assumption) (by assumption) (RaisedN.less (by assumption) (by kcj_all))
          by_cases h39 : c = 39
          · have hh := 0
            have fD : pDigit (sfx tx (i + run isWs (sfx tx i))).head? = false := by rw [ho]; first | assumption | (simp only [pDigit]; simp; omega)
            have fDot : (chr1 (sfx tx (i + run isWs (sfx tx i))).head? == Str.ofString ".") = false := (eqv lit_dot ho).trans (by simp [hdot, h34, h39])
            have fR : (Builtin.Str.occurrences (Str.ofString "rR") (chr1 (sfx tx (i + run isWs (sfx tx i))).head?) 0 (Str.ofString "rR").length 1).isEmpty = true := by rw [ho, occ_lit, rR_codes]; simp; omega
            have fL : pLetter (sfx tx (i + run isWs (sfx tx i))).head? = false := by rw [ho]; first | assumption | (simp only [pLetter]; simp; omega)
            have fDq : (chr1 (sfx tx (i + run isWs (sfx tx i))).head? == Str.ofString "\"") = false := (eqv lit_dq ho).trans (by simp [hdot, h34, h39])
            have fSq : (chr1 (sfx tx (i + run isWs (sfx tx i))).head? == Str.ofString "'") = true := (eqv lit_sq ho).trans (by simp [hdot, h34, h39])
            k_steps
            refine Stk.out ?_
            refine' DoingX.use (quoted_c _ _ _ _ _ _ _ _ _ _ _ _ _ _ _ _ _ c ?sd0 ?sd1 ?sd2 ?sd3 ?sd4 ?sd5) ?k1 ?k2 ?k3 ?k4 ?k5 ?k6 ?k7 ?k8 ?_ ?_
            case k1 => k_asm
            case k2 => k_asm
            case k3 => k_asm
            case k4 => first | k_asm | exact newsTl (by k_asm) | exact newsTl (newsTl (by k_asm)) | exact newsTl (newsTl (newsTl (by k_asm))) | exact newsTl (newsTl (newsTl (newsTl (by k_asm)))) | exact cb_drop (by k_asm) (by kcj_all)
            case k5 => k_asm
            case k6 => first | exact rfl | assumption
            case k7 => ktr_room
            case k8 => ktr_units
            case sd0 => (first | assumption | omega | (simp only [AllLt, sfx] at *; omega))
            case sd1 => (first | assumption | omega | (simp only [AllLt, sfx] at *; omega))
            case sd2 => (first | assumption | omega | (simp only [AllLt, sfx] at *; omega))
            case sd3 => exact ho
            case sd4 => omega
            case sd5 => assumption
            rotate_left
            intro x9 e9 g9 h9 tk9 Fg9 U9 R9
            rotate_left
            intro r9 n9 h9 tk9 F9 N9 p9
            obtain ⟨D9, val9, tv9, en9, te9, e9, e9', l9, s9, s9', s9''⟩ := p9
            subst e9
            subst e9'
            · k_steps
              refine hret _ _ _ _ (by assumption) (by assumption) ⟨_, _, _, _, _, _, _, _, _, _, _, _, rfl, rfl, by assumption, by assumption, (by first | rfl | assumption), ?_⟩
              have hw := wordStart_no ho hL (.inl hdot)
              exact TokIs.other rfl ho hw (by omega) (by omega) (by decide +kernel) (by omega) (by omega)
            · have hw := wordStart_no ho hL (.inl hdot)
              k_steps
              exact hexc ⟨idTok_none hw (by rw [ho]; simp <;> omega), some_ne ho, by rw [ho]; simp <;> omega⟩ _ _ _ _ (by assumption) (by assumption) (RaisedN.less (by assumption) (by kcj_all))
          by_cases h96 : c = 96
          · have hh := 0
            have fD : pDigit (sfx tx (i + run isWs (sfx tx i))).head? = false := by rw [ho]; first | assumption | (simp only [pDigit]; simp; omega)
            have fDot : (chr1 (sfx tx (i + run isWs (sfx tx i))).head? == Str.ofString ".") = false := (eqv lit_dot ho).trans (by simp [hdot, h34, h39, h96])
            have fR : (Builtin.Str.occurrences (Str.ofString "rR") (chr1 (sfx tx (i + run isWs (sfx tx i))).head?) 0 (Str.ofString "rR").length 1).isEmpty = true := by rw [ho, occ_lit, rR_codes]; simp; omega
            have fL : pLetter (sfx tx (i + run isWs (sfx tx i))).head? = false := by rw [ho]; first | assumption | (simp only [pLetter]; simp; omega)
            have fDq : (chr1 (sfx tx (i + run isWs (sfx tx i))).head? == Str.ofString "\"") = false := (eqv lit_dq ho).trans (by simp [hdot, h34, h39, h96])
            have fSq : (chr1 (sfx tx (i + run isWs (sfx tx i))).head? == Str.ofString "'") = false := (eqv lit_sq ho).trans (by simp [hdot, h34, h39, h96])
            have fBq : (chr1 (sfx tx (i + run isWs (sfx tx i))).head? == Str.ofString "`") = true := (eqv lit_bq ho).trans (by simp [hdot, h34, h39, h96])
            k_steps
            refine Stk.out ?_
            refine' DoingX.use (quoted_c _ _ _ _ _ _ _ _ _ _ _ _ _ _ _ _ _ c ?sd0 ?sd1 ?sd2 ?sd3 ?sd4 ?sd5) ?k1 ?k2 ?k3 ?k4 ?k5 ?k6 ?k7 ?k8 ?_ ?_
            case k1 => k_asm
            case k2 => k_asm
            case k3 => k_asm
            case k4 => first | k_asm | exact newsTl (by k_asm) | exact newsTl (newsTl (by k_asm)) | exact newsTl (newsTl (newsTl (by k_asm))) | exact newsTl (newsTl (newsTl (newsTl (by k_asm)))) | exact cb_drop (by k_asm) (by kcj_all)
            case k5 => k_asm
            case k6 => first | exact rfl | assumption
            case k7 => ktr_room
            case k8 => ktr_units
            case sd0 => (first | assumption | omega | (simp only [AllLt, sfx] at *; omega))
            case sd1 => (first | assumption | omega | (simp only [AllLt, sfx] at *; omega))
            case sd2 => (first | assumption | omega | (simp only [AllLt, sfx] at *; omega))
            case sd3 => exact ho
            case sd4 => omega
            case sd5 => assumption
            rotate_left
            intro x9 e9 g9 h9 tk9 Fg9 U9 R9
            rotate_left
            intro r9 n9 h9 tk9 F9 N9 p9
            obtain ⟨D9, val9, tv9, en9, te9, e9, e9', l9, s9, s9', s9''⟩ := p9
            subst e9
            subst e9'
            all_goals subst h96
            · k_steps
              · have z := (by assumption : ((⟨val9.toArray⟩ : Str) == Str.ofString "") = true)
                have z2 : val9 = [] := by rw [lit_empty, beq_iff_eq] at z; simpa using z
                subst z2
                exact hexc ⟨by rw [idTok_quote hj ho, s9]; rfl, some_ne ho, by rw [ho]; simp <;> omega⟩ _ _ _ _ (by assumption) (by assumption) (RaisedN.less (by assumption) (by kcj_all))
              · refine hret _ _ _ _ (by assumption) (by assumption) ⟨_, _, _, _, _, _, _, _, _, _, _, _, rfl, rfl, by assumption, by assumption, (by first | rfl | assumption), ?_⟩
                have z := (by assumption : ((⟨val9.toArray⟩ : Str) == Str.ofString "") = false)
                have z2 : val9 ≠ [] := by intro q; subst q; rw [lit_empty] at z; exact absurd z (by decide)
                exact TokIs.quote hj ho s9 z2 (by omega) (by omega)
            · k_steps
              exact hexc ⟨by rw [idTok_quote hj ho, x9], some_ne ho, by rw [ho]; simp <;> omega⟩ _ _ _ _ (by assumption) (by assumption) (RaisedN.less (by assumption) (by kcj_all))
          by_cases h37 : c = 37
          · have hh := 0
            have fD : pDigit (sfx tx (i + run isWs (sfx tx i))).head? = false := by rw [ho]; first | assumption | (simp only [pDigit]; simp; omega)
            have fDot : (chr1 (sfx tx (i + run isWs (sfx tx i))).head? == Str.ofString ".") = false := (eqv lit_dot ho).trans (by simp [hdot, h34, h39, h96, h37])
            have fR : (Builtin.Str.occurrences (Str.ofString "rR") (chr1 (sfx tx (i + run isWs (sfx tx i))).head?) 0 (Str.ofString "rR").length 1).isEmpty = true := by rw [ho, occ_lit, rR_codes]; simp; omega
            have fL : pLetter (sfx tx (i + run isWs (sfx tx i))).head? = false := by rw [ho]; first | assumption | (simp only [pLetter]; simp; omega)
            have fDq : (chr1 (sfx tx (i + run isWs (sfx tx i))).head? == Str.ofString "\"") = false := (eqv lit_dq ho).trans (by simp [hdot, h34, h39, h96, h37])
            have fSq : (chr1 (sfx tx (i + run isWs (sfx tx i))).head? == Str.ofString "'") = false := (eqv lit_sq ho).trans (by simp [hdot, h34, h39, h96, h37])
            have fBq : (chr1 (sfx tx (i + run isWs (sfx tx i))).head? == Str.ofString "`") = false := (eqv lit_bq ho).trans (by simp [hdot, h34, h39, h96, h37])
            have fPc : (chr1 (sfx tx (i + run isWs (sfx tx i))).head? == Str.ofString "%") = true := (eqv lit_pc ho).trans (by simp [hdot, h34, h39, h96, h37])
            k_steps
            refine Stk.out ?_
            refine' DoingX.use (percent_c _ _ _ _ _ _ _ _ _ _ _ _ _ _ _ _ _ ?sd0 ?sd1 ?sd2 ?sd3 ?sd4 ?sd5) ?k1 ?k2 ?k3 ?k4 ?k5 ?k6 ?k7 ?k8 ?_ ?_
            case k1 => k_asm
            case k2 => k_asm
            case k3 => k_asm
            case k4 => first | k_asm | exact newsTl (by k_asm) | exact newsTl (newsTl (by k_asm)) | exact newsTl (newsTl (newsTl (by k_asm))) | exact newsTl (newsTl (newsTl (newsTl (by k_asm)))) | exact cb_drop (by k_asm) (by kcj_all)
            case k5 => k_asm
            case k6 => first | exact rfl | assumption
            case k7 => ktr_room
            case k8 => ktr_units
            case sd0 => (first | assumption | omega | (simp only [AllLt, sfx] at *; omega))
            case sd1 => (first | assumption | omega | (simp only [AllLt, sfx] at *; omega))
            case sd2 => (first | assumption | omega | (simp only [AllLt, sfx] at *; omega))
            case sd3 => (first | assumption | ((repeat' (first | assumption | (refine List.forall_mem_cons.mpr ⟨?_, ?_⟩))) <;> (first | assumption | (refine neN ?_; (try dsimp only); (try simp only [AllLt] at *); omega))))
            case sd4 => (first | assumption | (refine neN ?_; (try simp only [AllLt] at *); omega))
            case sd5 => (first | assumption | (refine neN ?_; (try simp only [AllLt] at *); omega))
            rotate_left
            intro x9 e9 g9 h9 tk9 Fg9 U9 R9
            rotate_left
            intro r9 n9 h9 tk9 F9 N9 p9
            obtain ⟨T9, dT9, j91, j92, j93, j94, kv9, vv9, av9, nl9, i9, ti9, e9, e9', l9, l9', hv9, s9⟩ := p9
            subst e9
            subst e9'
            · k_steps
              refine hret _ _ _ _ (by assumption) (by assumption) ⟨_, _, _, _, _, _, _, _, _, _, _, _, rfl, rfl, by assumption, by assumption, (by first | rfl | assumption), ?_⟩
              have hw := wordStart_no ho hL (.inl hdot)
              obtain ⟨⟨tq, s1⟩, s2, s3⟩ := s9
              exact TokIs.other s1 ho hw (by omega) (by omega) (by decide +kernel) (by omega) s3
            · have hw := wordStart_no ho hL (.inl hdot)
              k_steps
              exact hexc ⟨idTok_none hw (by rw [ho]; simp <;> omega), some_ne ho, by rw [ho]; simp <;> omega⟩ _ _ _ _ (by assumption) (by assumption) (RaisedN.less (by assumption) (by kcj_all))
          · have hh := 0
            have fD : pDigit (sfx tx (i + run isWs (sfx tx i))).head? = false := by rw [ho]; first | assumption | (simp only [pDigit]; simp; omega)
            have fDot : (chr1 (sfx tx (i + run isWs (sfx tx i))).head? == Str.ofString ".") = false := (eqv lit_dot ho).trans (by simp [hdot, h34, h39, h96, h37])
            have fR : (Builtin.Str.occurrences (Str.ofString "rR") (chr1 (sfx tx (i + run isWs (sfx tx i))).head?) 0 (Str.ofString "rR").length 1).isEmpty = true := by rw [ho, occ_lit, rR_codes]; simp; omega
            have fL : pLetter (sfx tx (i + run isWs (sfx tx i))).head? = false := by rw [ho]; first | assumption | (simp only [pLetter]; simp; omega)
            have fDq : (chr1 (sfx tx (i + run isWs (sfx tx i))).head? == Str.ofString "\"") = false := (eqv lit_dq ho).trans (by simp [hdot, h34, h39, h96, h37])
            have fSq : (chr1 (sfx tx (i + run isWs (sfx tx i))).head? == Str.ofString "'") = false := (eqv lit_sq ho).trans (by simp [hdot, h34, h39, h96, h37])
            have fBq : (chr1 (sfx tx (i + run isWs (sfx tx i))).head? == Str.ofString "`") = false := (eqv lit_bq ho).trans (by simp [hdot, h34, h39, h96, h37])
            have fPc : (chr1 (sfx tx (i + run isWs (sfx tx i))).head? == Str.ofString "%") = false := (eqv lit_pc ho).trans (by simp [hdot, h34, h39, h96, h37])
            k_steps
            refine Stk.out ?_
            refine' DoingX.use (operator_c _ _ _ _ _ _ _ _ _ _ _ _ _ _ _ _ _ ?sd0 ?sd1 ?sd2 ?sd3 ?sd4 ?sd5 ?sd6) ?k1 ?k2 ?k3 ?k4 ?k5 ?k6 ?k7 ?k8 ?_ ?_
            case k1 => k_asm
            case k2 => k_asm
            case k3 => k_asm
            case k4 => first | k_asm | exact newsTl (by k_asm) | exact newsTl (newsTl (by k_asm)) | exact newsTl (newsTl (newsTl (by k_asm))) | exact newsTl (newsTl (newsTl (newsTl (by k_asm)))) | exact cb_drop (by k_asm) (by kcj_all)
            case k5 => k_asm
            case k6 => first | exact rfl | assumption
            case k7 => ktr_room
            case k8 => ktr_units
            case sd0 => (first | assumption | omega | (simp only [AllLt, sfx] at *; omega))
            case sd1 => (first | assumption | omega | (simp only [AllLt, sfx] at *; omega))
            case sd2 => (first | assumption | omega | (simp only [AllLt, sfx] at *; omega))
            case sd3 => (first | assumption | ((repeat' (first | assumption | (refine List.forall_mem_cons.mpr ⟨?_, ?_⟩))) <;> (first | assumption | (refine neN ?_; (try dsimp only); (try simp only [AllLt] at *); omega))))
            case sd4 => (first | assumption | (refine neN ?_; (try simp only [AllLt] at *); omega))
            case sd5 => (first | assumption | (refine neN ?_; (try simp only [AllLt] at *); omega))
            case sd6 => assumption
            rotate_left
            intro x9 e9 g9 h9 tk9 Fg9 U9 R9
            rotate_left
            intro r9 n9 h9 tk9 F9 N9 p9
            obtain ⟨T9, dT9, j91, j92, j93, j94, kv9, vv9, av9, nl9, i9, ti9, e9, e9', l9, l9', hv9, s9⟩ := p9
            subst e9
            subst e9'
            · k_steps
              refine hret _ _ _ _ (by assumption) (by assumption) ⟨_, _, _, _, _, _, _, _, _, _, _, _, rfl, rfl, by assumption, by assumption, (by first | rfl | assumption), ?_⟩
              have hw := wordStart_no ho hL (.inl hdot)
              obtain ⟨⟨tq, s1⟩, s2, s3, s4⟩ := s9
              exact TokIs.op s1 ho hw (by omega) (by omega) s3 s4
            · have hw := wordStart_no ho hL (.inl hdot)
              k_steps
              exact hexc ⟨idTok_none hw (by rw [ho]; simp; omega), some_ne ho, x9⟩ _ _ _ _ (by assumption) (by assumption) (RaisedN.less (by assumption) (by kcj_all))
end M14
section M15

theorem newsRot {h₀ h : Heap} {L : Addr} {a b c : Addr × Obj} {l : Led} (N : News h₀ L h (a :: b :: c :: l)) : News h₀ L h (b :: c :: a :: l) := fun p hp => N p (by
  rcases List.mem_cons.mp hp with rfl | hp
  · exact .tail _ (.head _)
  rcases List.mem_cons.mp hp with rfl | hp
  · exact .tail _ (.tail _ (.head _))
  rcases List.mem_cons.mp hp with rfl | hp
  · exact .head _
  · exact .tail _ (.tail _ (.tail _ hp)))
set_option maxHeartbeats 1000000 in
theorem lexer_c (w : World) (tx : Str) (tt : Tok) (news : Led) : Doing w 304 [.str tx tt] 8 100 news (fun r n' => ∃ x dx kt k1 k2 k3 k4 kk ti, r = .ref x ∧ n' = lexLed w x dx kt k1 k2 k3 k4 kk tx tt 0 ti false news ∧ x ≠ dx ∧ kt ≠ dx ∧ AllLt dx news ∧ dx < x ∧ x < kt) := by
  unfold Doing
  intro mean mg mb dp un gd cn cs a ccd cl outer A₀ base h₀ L m s Q E B F X N T hk hd' hu hret
  k_steps
  refine hret _ _ _ _ (by assumption) (newsRot (by assumption)) ⟨_, _, _, _, _, _, _, _, _, rfl, rfl, ?_, ?_, ?_, ?_, ?_⟩
  · k_ne
  · k_ne
  · exact allLt_of (by assumption)
  · assumption
  · refine ltN ?_; omega
end M15
section M16
local macro_rules | `(tactic| walk_at "exec For Name Name cons nil") => `(tactic| walk_at "v4")
local macro_rules | `(tactic| walk_at "pyIter str") => `(tactic| refine stk ?_)
local macro_rules | `(tactic| walk_at "pyIter ref") => `(tactic| refine stk ?_)
local macro_rules | `(tactic| walk_at "InvEndN") => `(tactic| refine stk ?_)
local macro_rules | `(tactic| walk_at "call builtin:str.join") => `(tactic| walk_at "v3")

def escOne (c : Nat) : List Nat := if c = 10 then [92, 110] else if c = 92 then [92, 92] else if c = 96 then [92, 96] else [c]
def escStr (z : Int) : Str := ⟨(escOne z.toNat).toArray⟩
theorem escOne_len (c : Nat) : (escOne c).length ≤ 2 := by unfold escOne; split <;> (try split) <;> (try split) <;> simp
theorem esc_weight (l : List Int) : ((l.map escStr).map (·.length)).sum ≤ 2 * l.length := by
  induction l with
  | nil => simp
  | cons c t ih =>
    simp only [List.map_cons, List.sum_cons, List.length_cons]
    have : (escStr c).length ≤ 2 := escOne_len c.toNat
    omega
theorem join_flat (ys : List Str) : Txt.join (Str.ofString "") ys = ⟨(ys.flatMap fun y => y.cps.toList).toArray⟩ := by
  rw [lit_empty]
  show Builtin.Str.glued _ _ = _
  rw [StrLaws.glued_eq_join]
  induction ys with
  | nil => rfl
  | cons y t ih =>
    rw [PyProof.Rows.join_nil_cons, ih]
    refine Str.ext' (Array.toList_inj.mp ?_)
    rw [Str.cps_append, Array.toList_append]
    simp
def okc (c : Nat) : Prop := c = 10 ∨ (32 ≤ c ∧ c ≠ 127)
def escLs : Str := Str.ofString "\n\t\r\x07\x08\x0c\x0b\\"
theorem escLs_codes : escLs.cps.toList = [10, 9, 13, 7, 8, 12, 11, 92] := by decide +kernel
theorem find_lt8 (n : Nat) : Txt.find (Str.ofString "\n\t\r\x07\x08\x0c\x0b\\") (chr1 (some n)) < 8 := by
  have h := fact_find (Str.ofString "\n\t\r\x07\x08\x0c\x0b\\") (chr1 (some n))
  have e1 : (Str.ofString "\n\t\r\x07\x08\x0c\x0b\\").length = 8 := by decide +kernel
  have e2 : (chr1 (some n)).length = 1 := rfl
  rw [e1, e2] at h
  omega
theorem bq_codes : (Str.ofString "`").cps.toList = [96] := by decide +kernel
theorem esc_flat (l : List Nat) : ((KStt.codes ⟨l.toArray⟩).map escStr).flatMap (fun y => y.cps.toList) = l.flatMap escOne := by
  have e : KStt.codes ⟨l.toArray⟩ = l.map fun (z : Nat) => (z : Int) := rfl
  rw [e]
  induction l with
  | nil => rfl
  | cons c t ih =>
    simp only [List.map_cons, List.flatMap_cons]
    rw [ih rfl]
    rfl
set_option maxHeartbeats 1000000 in
theorem escaped_c (w : World) (l : List Nat) (t tq : Tok) (news : Led) (hl : l.length ≤ 1000) (hok : ∀ c ∈ l, okc c) : Doing w 315 [.str ⟨l.toArray⟩ t, .str (Str.ofString "`") tq] 4 64 news (fun r n' => ∃ t', r = .str ⟨(96 :: l.flatMap escOne ++ [96]).toArray⟩ t' ∧ n' = news) := by
  unfold Doing
  intro mean mg mb dp un gd cn cs a ccd cl outer A₀ base h₀ L m s Q E B F X N T hk hd' hu hret
  k_steps
  rename_i tk0 ch hA l1 hC FA NA
  have lr : AllLt ch news := allLt_of l1
  refine Stk.out ?_
  refine' KStt.kst_text (σ := List Value × Nat × List Str) (fun c => (ch, listOf c.1.toArray c.2.1) :: news) (fun c => []) (fun _ => True) [Str.ofString "place", Str.ofString "code"] (fun pre c => StrsAre c.1 c.2.2 ∧ c.2.2 = Str.ofString "`" :: pre.map escStr) ([.str (Str.ofString "`") tq], 0, [Str.ofString "`"]) rfl (by assumption) (by assumption) trivial ?kk ?kp ?kt ?kd
  case kk => exact fun _ hp => nomatch hp
  case kp => exact ⟨.cons _ _ .nil, rfl⟩
  case kt =>
    intro c pre post n t9 u h tk own hc ho _ hp F1 N1
    obtain ⟨vs, vn, ys⟩ := c
    obtain ⟨p1, p2⟩ := hp
    have hn := hok n (by simpa using code_mem hc)
    rw [show (⟨#[n]⟩ : Str) = chr1 (some n) from rfl] at F1
    have hlen : pre.length < 1000 := by
      have e1 := congrArg List.length hc
      rw [KStt.codes_length, List.length_append, List.length_cons] at e1
      have e2 : (⟨l.toArray⟩ : Str).length = l.length := by show (List.toArray l).size = _; simp
      omega
    dsimp only at p1 p2 F1 N1 ⊢
    simp only [List.cons_append] at N1
    have hsz : vs.toArray.size ≤ 1001 := by have := p1.len_eq; rw [p2] at this; simp at this; simp; omega
    have hall : ∀ p ∈ news ++ own, p.1 ≠ ch := by
      intro p hp
      rcases List.mem_append.mp hp with hp | hp
      · exact Nat.ne_of_lt (l1 p hp)
      · exact ho p hp ch (.head _)
    have hb := find_lt8 n
    (try k_fold)
    k_steps
    · have q := find_pos_of (S := Str.ofString "\n\t\r\x07\x08\x0c\x0b\\") (c := n) (by omega)
      have hY : Str.ofString "\\" ++ Txt.item (Str.ofString "ntrabfv\\") (Txt.find (Str.ofString "\n\t\r\x07\x08\x0c\x0b\\") (chr1 (some n))) = escStr n := by
        have q2 : (Str.ofString "\n\t\r\x07\x08\x0c\x0b\\").cps.toList = [10, 9, 13, 7, 8, 12, 11, 92] := escLs_codes
        rw [q2] at q
        simp only [List.mem_cons, List.not_mem_nil, or_false] at q
        rcases hn with rfl | ⟨h32, _⟩
        · decide +kernel
        · have : n = 92 := by omega
          subst this
          decide +kernel
      rename News _ _ _ _ => NE
      rw [hY] at NE
      (try simp only [List.push_toArray] at NE)
      refine Stk.out ?_
      refine' kst_end (?vv1, ?nn1, ys ++ [escStr n]) (by assumption) NE ?hn ?ho ?ha trivial ?kk ?kr ?kp
      case hn => intro p hp; rcases List.mem_cons.mp hp with rfl | hp; exact .head _; exact .tail _ (List.mem_append_left _ hp)
      case ha => rfl
      case ho => intro p hp; exact .tail _ (List.mem_append_right _ hp)
      case kk => exact fun _ hp => nomatch hp
      case kr => intro z h1 h2 h3; have h4 : z ≠ Str.ofString "place" := fun q => (by rw [q] at h3; exact absurd h3 (by decide +kernel)); have h5 : z ≠ Str.ofString "code" := fun q => (by rw [q] at h3; exact absurd h3 (by decide +kernel)); simp only [kstB, if_neg h1, if_neg h4, if_neg h5, h3, Bool.false_eq_true, if_false]
      case kp => exact ⟨StrsAre.snoc p1 _ _, by dsimp only; rw [p2, List.map_append]; rfl⟩
    · have q : n = 96 := Option.some.inj (chr_is lit_bq (by assumption))
      have hY : Str.ofString "\\`" = escStr n := by subst q; decide +kernel
      rename News _ _ _ _ => NE
      rw [hY] at NE
      (try simp only [List.push_toArray] at NE)
      refine Stk.out ?_
      refine' kst_end (?vv2, ?nn2, ys ++ [escStr n]) (by assumption) NE ?hn ?ho ?ha trivial ?kk ?kr ?kp
      case hn => intro p hp; rcases List.mem_cons.mp hp with rfl | hp; exact .head _; exact .tail _ (List.mem_append_left _ hp)
      case ha => rfl
      case ho => intro p hp; exact .tail _ (List.mem_append_right _ hp)
      case kk => exact fun _ hp => nomatch hp
      case kr => intro z h1 h2 h3; have h4 : z ≠ Str.ofString "place" := fun q => (by rw [q] at h3; exact absurd h3 (by decide +kernel)); have h5 : z ≠ Str.ofString "code" := fun q => (by rw [q] at h3; exact absurd h3 (by decide +kernel)); simp only [kstB, if_neg h1, if_neg h4, if_neg h5, h3, Bool.false_eq_true, if_false]
      case kp => exact ⟨StrsAre.snoc p1 _ _, by dsimp only; rw [p2, List.map_append]; rfl⟩
    · exfalso
      rcases hn with rfl | ⟨h32, _⟩
      · exact absurd (by decide +kernel : 0 ≤ Txt.find (Str.ofString "\n\t\r\x07\x08\x0c\x0b\\") (chr1 (some 10))) (by assumption)
      · omega
    · exfalso
      rcases hn with rfl | ⟨h32, h127⟩
      · exact absurd (by decide +kernel : 0 ≤ Txt.find (Str.ofString "\n\t\r\x07\x08\x0c\x0b\\") (chr1 (some 10))) (by assumption)
      · omega
    · have q := find_neg_of (S := Str.ofString "\n\t\r\x07\x08\x0c\x0b\\") (c := n) (by omega)
      have q1 : n ≠ 96 := fun z => chr_not lit_bq (by assumption) (by rw [z])
      have hY : chr1 (some n) = escStr n := by
        have q2 : (Str.ofString "\n\t\r\x07\x08\x0c\x0b\\").cps.toList = [10, 9, 13, 7, 8, 12, 11, 92] := escLs_codes
        rw [q2] at q
        simp only [List.mem_cons, List.not_mem_nil, or_false, not_or] at q
        show (⟨#[n]⟩ : Str) = ⟨(escOne ((n : Int).toNat)).toArray⟩
        rw [Int.toNat_natCast]
        unfold escOne
        rw [if_neg q.1, if_neg q.2.2.2.2.2.2.2, if_neg q1]
      rename News _ _ _ _ => NE
      rw [hY] at NE
      (try simp only [List.push_toArray] at NE)
      refine Stk.out ?_
      refine' kst_end (?vv3, ?nn3, ys ++ [escStr n]) (by assumption) NE ?hn ?ho ?ha trivial ?kk ?kr ?kp
      case hn => intro p hp; rcases List.mem_cons.mp hp with rfl | hp; exact .head _; exact .tail _ (List.mem_append_left _ hp)
      case ha => rfl
      case ho => intro p hp; exact .tail _ (List.mem_append_right _ hp)
      case kk => exact fun _ hp => nomatch hp
      case kr => intro z h1 h2 h3; have h4 : z ≠ Str.ofString "place" := fun q => (by rw [q] at h3; exact absurd h3 (by decide +kernel)); have h5 : z ≠ Str.ofString "code" := fun q => (by rw [q] at h3; exact absurd h3 (by decide +kernel)); simp only [kstB, if_neg h1, if_neg h4, if_neg h5, h3, Bool.false_eq_true, if_false]
      case kp => exact ⟨StrsAre.snoc p1 _ _, by dsimp only; rw [p2, List.map_append]; rfl⟩
  case kd =>
    intro c u h tk _ hp F1 N1
    obtain ⟨vs, vn, ys⟩ := c
    obtain ⟨p1, p2⟩ := hp
    dsimp only at p1 p2 F1 N1 ⊢
    have hsz : vs.toArray.size ≤ 1001 := by
      have e2 : (⟨l.toArray⟩ : Str).length = l.length := by show (List.toArray l).size = _; simp
      have := p1.len_eq; rw [p2] at this; simp [KStt.codes_length, e2] at this; simp; omega
    have pA : StrsAre (vs.toArray.push (Value.str (Str.ofString "`") tq)).toList (ys ++ [Str.ofString "`"]) := by rw [List.push_toArray]; exact StrsAre.snoc p1 _ _
    have pB : StrsAre (vs ++ [Value.str (Str.ofString "`") tq]).toArray.toList (ys ++ [Str.ofString "`"]) := StrsAre.snoc p1 _ _
    have e2 : (⟨l.toArray⟩ : Str).length = l.length := by show (List.toArray l).size = _; simp
    have pw : ((ys ++ [Str.ofString "`"]).map (·.length)).sum + (ys ++ [Str.ofString "`"]).length ≤ 1048576 := by
      have w1 := esc_weight (KStt.codes ⟨l.toArray⟩)
      have w2 : (Str.ofString "`").length = 1 := by decide +kernel
      rw [KStt.codes_length, e2] at w1
      rw [p2]
      simp only [List.cons_append, List.map_cons, List.map_append, List.map_nil, List.sum_cons, List.sum_append, List.sum_nil, List.length_cons, List.length_append, List.length_nil, List.length_map, KStt.codes_length, e2, w2]
      omega
    (try k_fold)
    k_steps
    refine hret _ _ _ _ (by assumption) (cb_drop (by assumption) (by kcj_all)) ⟨_, congrArg (fun z => Value.str z _) ?_, rfl⟩
    rw [join_flat, p2]
    congr 2
    rw [List.cons_append, List.flatMap_cons, List.flatMap_append, esc_flat, bq_codes, List.flatMap_cons, bq_codes]
    rfl
end M16
section M17
local macro_rules | `(tactic| walk_at "call ref") => `(tactic| (k_here; (with_reducible show wpAny _ _ (call (Value.ref 160) _) _ _ _); k_dflt (refine' Doing.v0 (D := plain_c _ _ _ _ (by assumption)) (ret := ?_)); intro h9 tk9 F9 N9; walk_at "uS"))
local macro_rules | `(tactic| walk_at "call ref") => `(tactic| (k_here; (with_reducible show wpAny _ _ (call (Value.ref 315) _) _ _ _); k_dflt (refine' Doing.v1 (D := escaped_c _ _ _ _ _ (by assumption) (by assumption)) (ret := ?_)); intro t9 h9 tk9 F9 N9; walk_at "uS"))
def shown (l : List Nat) : List Nat := if plainB l = true then l else 96 :: l.flatMap escOne ++ [96]
set_option maxHeartbeats 1000000 in
theorem name_text_c (w : World) (l : List Nat) (t : Tok) (news : Led) (hl : l.length ≤ 1000) (hne : l ≠ []) (hok : ∀ c ∈ l, okc c) : Doing w 322 [.str ⟨l.toArray⟩ t] 8 100 news (fun r n' => ∃ t', r = .str ⟨(shown l).toArray⟩ t' ∧ n' = news) := by
  unfold Doing
  intro mean mg mb dp un gd cn cs a ccd cl outer A₀ base h₀ L m s Q E B F X N T hk hd' hu hret
  have hz : ((⟨l.toArray⟩ : Str) == Str.ofString "") = false := by
    rw [lit_empty, ← Bool.not_eq_true, beq_iff_eq]; intro q; apply hne; simpa using q
  k_steps
  · have q := (by assumption : plainB l = true)
    refine hret _ _ _ _ (by assumption) (by assumption) ⟨t, by rw [shown, if_pos q], rfl⟩
  · have q := (by assumption : plainB l = false)
    refine hret _ _ _ _ (by assumption) (by assumption) ⟨_, congrArg (fun (z : List Nat) => Value.str (⟨z.toArray⟩ : Str) _) ?_, rfl⟩
    rw [shown, if_neg (by rw [q]; exact Bool.false_ne_true)]
end M17
section M18
local macro_rules | `(tactic| walk_at "exec For Name Name cons nil") => `(tactic| walk_at "v4")
local macro_rules | `(tactic| walk_at "pyIter str") => `(tactic| refine stk ?_)
local macro_rules | `(tactic| walk_at "pyIter ref") => `(tactic| refine stk ?_)
local macro_rules | `(tactic| walk_at "InvEndN") => `(tactic| refine stk ?_)

local macro_rules | `(tactic| walk_at "exec For Name Subscript cons nil") => `(tactic| (k_here; (rename Fr _ _ _ _ => lF'); (with_unfolding_all refine' For_invVF lF' ?k1 ?k2 ?_; (case k1 => exact rfl); (case k2 => exact rfl); k_whole)))
def sgn16 : List Nat := [97, 90, 57, 46, 95, 32, 34, 39, 96, 92, 10, 43, 45, 37, 233, 40]
def words10 : List (List Nat) := [[105, 102], [101, 108, 115, 101], [84, 82, 85, 69], [78, 85, 76, 76], [78, 65, 95, 114, 101, 97, 108, 95], [105, 110], [102, 117, 110, 99, 116, 105, 111, 110], [73, 110, 102], [78, 97, 78], [110, 101, 120, 116]]
def IsName (l : List Nat) : Prop := (l ≠ [] ∧ l.length ≤ 8 ∧ ∀ c ∈ l, c ∈ sgn16) ∨ l ∈ words10
theorem codes_a' : Str.ofString "a" = ⟨([97] : List Nat).toArray⟩ := by decide +kernel
theorem sgnS : (Str.ofString "aZ9._ \"'`\\\n+-%é(") = ⟨sgn16.toArray⟩ := by decide +kernel
theorem sgn_at : ∀ j, j < 16 → sgn16.toArray.getD j 0 ∈ sgn16 := by decide +kernel
theorem sign_item (n : Int) : ∃ x ∈ sgn16, Txt.item (Str.ofString "aZ9._ \"'`\\\n+-%é(") (n.fmod ((16 : Nat) : Int)) = ⟨#[x]⟩ := by
  have h1 := Int.fmod_nonneg_of_pos n (by decide : (0 : Int) < ((16 : Nat) : Int))
  have h2 := Int.fmod_lt_of_pos n (by decide : (0 : Int) < ((16 : Nat) : Int))
  generalize n.fmod ((16 : Nat) : Int) = k at h1 h2
  rw [sgnS]
  refine ⟨sgn16.toArray.getD k.toNat 0, sgn_at _ (by omega), ?_⟩
  exact item_meets ⟨h1, by rw [show ((⟨sgn16.toArray⟩ : Str).length : Int) = 16 from rfl]; omega⟩
theorem snoc_str (l : List Nat) (x : Nat) : (⟨l.toArray⟩ : Str) ++ ⟨#[x]⟩ = ⟨(l ++ [x]).toArray⟩ := by
  refine Str.ext' (Array.toList_inj.mp ?_)
  rw [Str.cps_append, Array.toList_append]
def wordsS : List Str := [Str.ofString "if", Str.ofString "else", Str.ofString "TRUE", Str.ofString "NULL", Str.ofString "NA_real_", Str.ofString "in", Str.ofString "function", Str.ofString "Inf", Str.ofString "NaN", Str.ofString "next"]
theorem wordsS_is : wordsS = words10.map fun l => ⟨l.toArray⟩ := by decide +kernel
theorem word_at (n : Int) : ∃ l ∈ words10, wordsS.getD (n.fmod 10).toNat Str.empty = ⟨l.toArray⟩ := by
  have h1 := Int.fmod_nonneg_of_pos n (by decide : (0 : Int) < 10)
  have h2 := Int.fmod_lt_of_pos n (by decide : (0 : Int) < 10)
  generalize n.fmod 10 = k at h1 h2
  have hk : k.toNat < 10 := by omega
  generalize k.toNat = j at hk
  have : j = 0 ∨ j = 1 ∨ j = 2 ∨ j = 3 ∨ j = 4 ∨ j = 5 ∨ j = 6 ∨ j = 7 ∨ j = 8 ∨ j = 9 := by omega
  rw [wordsS_is]
  rcases this with rfl | rfl | rfl | rfl | rfl | rfl | rfl | rfl | rfl | rfl <;> exact ⟨_, by decide, rfl⟩
set_option maxHeartbeats 1000000 in
theorem law_name_c (w : World) (a1 : Addr) (vs : List Value) (ns : List Int) (nn : Nat) (news : Led) (hv : IntsAre vs ns) (hl : ns.length ≤ 9) : Doing w 329 [.ref a1] 8 100 ((a1, listOf vs.toArray nn) :: news) (fun r n' => ∃ (l : List Nat) (t' : Tok), r = .str ⟨l.toArray⟩ t' ∧ IsName l ∧ n' = (a1, listOf vs.toArray nn) :: news) := by
  unfold Doing
  intro mean mg mb dp un gd cn cs a ccd cl outer A₀ base h₀ L m s Q E B F X N T hk hd' hu hret
  by_cases hns : ns = []
  · have hd : decide (List.take 1 ns = []) = true := by rw [hns]; rfl
    k_steps
    rename News _ _ _ _ => lN
    have lI := (by assumption : IntsAre _ (List.take (min 9 ns.length - 1) (List.drop 1 ns)))
    have lC : (List.take (min 9 ns.length - 1) (List.drop 1 ns)).length ≤ 8 := by simp; omega
    refine Stk.out ?_
    refine' kst_listL (σ := List Nat × Tok) (fun _ => _) (fun c => [(Str.ofString "found", .str ⟨c.1.toArray⟩ c.2)]) (fun _ => True) [] (fun pre c => c.1.length = pre.length ∧ ∀ z ∈ c.1, z ∈ sgn16) ([], ?t0) rfl (fun _ => List.Mem.head _) lI (by assumption) lN trivial ?kk ?kp ?kt ?kd
    case kk => intro p hp; simp only [List.mem_singleton] at hp; subst hp; rw [← lit_empty]; rfl
    case kp => exact ⟨rfl, fun z hz => nomatch hz⟩
    case kt =>
      intro c pre post n t9 u h tk own hc hmem ho _ hp F1 N1
      obtain ⟨l, tl⟩ := c
      obtain ⟨p1, p2⟩ := hp
      have e1 := congrArg List.length hc
      rw [List.length_append, List.length_cons] at e1
      have hl9 : (⟨l.toArray⟩ : Str).length ≤ 8 := by show (List.toArray l).size ≤ 8; simp only [List.size_toArray]; dsimp only at p1; omega
      dsimp only at p1 p2 F1 N1 ⊢
      (try k_fold)
      k_steps
      obtain ⟨x, hx, hxe⟩ := sign_item n
      rename Fr _ _ _ (fun y => if y = Str.ofString "found" then _ else _) => FE
      rw [hxe, snoc_str] at FE
      refine Stk.out ?_
      refine' kst_end (l ++ [x], ?tv1) FE (by assumption) ?hn ?ho rfl trivial ?kk ?kr ?kp
      case kk => intro p hp; simp only [List.mem_singleton] at hp; subst hp; rfl
      case kr => intro z h1 h2 h3; have h4 := h2 _ (List.mem_singleton.mpr rfl); dsimp only at h4; simp only [kstB, if_neg h1, if_neg h4]; rfl
      case kp => exact ⟨by dsimp only; rw [List.length_append, List.length_append, p1]; rfl, fun z hz => (List.mem_append.mp hz).elim (p2 z) fun hz => (List.mem_singleton.mp hz) ▸ hx⟩
      case hn => intro p hp; exact List.mem_append_left _ hp
      case ho => intro p hp; exact List.mem_append_right _ hp
    case kd =>
      intro c u h tk _ hp F1 N1
      obtain ⟨l, tl⟩ := c
      obtain ⟨p1, p2⟩ := hp
      dsimp only at p1 p2 F1 N1 ⊢
      (try k_fold)
      k_steps
      · have q := (by assumption : ((⟨l.toArray⟩ : Str) != Str.ofString "") = true)
        have q2 : l ≠ [] := by intro z; subst z; rw [lit_empty] at q; exact absurd q (by decide)
        exact hret _ _ _ _ (by assumption) (cb_drop (by assumption) (by kcj_all)) ⟨l, _, rfl, .inl ⟨q2, by omega, p2⟩, rfl⟩
      · exact hret _ _ _ _ (by assumption) (cb_drop (by assumption) (by kcj_all)) ⟨[97], _, congrArg (fun z => Value.str z _) codes_a', .inl ⟨by simp, by simp, by simp [sgn16]⟩, rfl⟩
  · have hd : decide (List.take 1 ns = []) = false := by
      cases ns with
      | nil => exact absurd rfl hns
      | cons a b => rfl
    have hlen : 1 ≤ ns.length := by
      cases ns with
      | nil => exact absurd rfl hns
      | cons a b => simp
    k_steps
    · obtain ⟨l, q1, q2⟩ := word_at (ns.getD (Int.toNat 1) 0)
      exact hret _ _ _ _ (by assumption) (cb_drop (by assumption) (by kcj_all)) ⟨l, _, congrArg (fun z => Value.str z _) q2, .inr q1, rfl⟩
    · exact hret _ _ _ _ (by assumption) (cb_drop (by assumption) (by kcj_all)) ⟨[105, 102], _, congrArg (fun z => Value.str z _) (by decide +kernel), .inr (by decide), rfl⟩
    · rename News _ _ _ _ => lN
      have lI := (by assumption : IntsAre _ (List.take (min 9 ns.length - 1) (List.drop 1 ns)))
      have lC : (List.take (min 9 ns.length - 1) (List.drop 1 ns)).length ≤ 8 := by simp; omega
      refine Stk.out ?_
      refine' kst_listL (σ := List Nat × Tok) (fun _ => _) (fun c => [(Str.ofString "found", .str ⟨c.1.toArray⟩ c.2)]) (fun _ => True) [] (fun pre c => c.1.length = pre.length ∧ ∀ z ∈ c.1, z ∈ sgn16) ([], ?t02) rfl (fun _ => List.Mem.head _) lI (by assumption) lN trivial ?kk ?kp ?kt ?kd
      case kk => intro p hp; simp only [List.mem_singleton] at hp; subst hp; rw [← lit_empty]; rfl
      case kp => exact ⟨rfl, fun z hz => nomatch hz⟩
      case kt =>
        intro c pre post n t9 u h tk own hc hmem ho _ hp F1 N1
        obtain ⟨l, tl⟩ := c
        obtain ⟨p1, p2⟩ := hp
        have e1 := congrArg List.length hc
        rw [List.length_append, List.length_cons] at e1
        have hl9 : (⟨l.toArray⟩ : Str).length ≤ 8 := by show (List.toArray l).size ≤ 8; simp only [List.size_toArray]; dsimp only at p1; omega
        dsimp only at p1 p2 F1 N1 ⊢
        (try k_fold)
        k_steps
        obtain ⟨x, hx, hxe⟩ := sign_item n
        rename Fr _ _ _ (fun y => if y = Str.ofString "found" then _ else _) => FE
        rw [hxe, snoc_str] at FE
        refine Stk.out ?_
        refine' kst_end (l ++ [x], ?tv2) FE (by assumption) ?hn ?ho rfl trivial ?kk ?kr ?kp
        case kk => intro p hp; simp only [List.mem_singleton] at hp; subst hp; rfl
        case kr => intro z h1 h2 h3; have h4 := h2 _ (List.mem_singleton.mpr rfl); dsimp only at h4; simp only [kstB, if_neg h1, if_neg h4]; rfl
        case kp => exact ⟨by dsimp only; rw [List.length_append, List.length_append, p1]; rfl, fun z hz => (List.mem_append.mp hz).elim (p2 z) fun hz => (List.mem_singleton.mp hz) ▸ hx⟩
        case hn => intro p hp; exact List.mem_append_left _ hp
        case ho => intro p hp; exact List.mem_append_right _ hp
      case kd =>
        intro c u h tk _ hp F1 N1
        obtain ⟨l, tl⟩ := c
        obtain ⟨p1, p2⟩ := hp
        dsimp only at p1 p2 F1 N1 ⊢
        (try k_fold)
        k_steps
        · have q := (by assumption : ((⟨l.toArray⟩ : Str) != Str.ofString "") = true)
          have q2 : l ≠ [] := by intro z; subst z; rw [lit_empty] at q; exact absurd q (by decide)
          exact hret _ _ _ _ (by assumption) (cb_drop (by assumption) (by kcj_all)) ⟨l, _, rfl, .inl ⟨q2, by omega, p2⟩, rfl⟩
        · exact hret _ _ _ _ (by assumption) (cb_drop (by assumption) (by kcj_all)) ⟨[97], _, congrArg (fun z => Value.str z _) codes_a', .inl ⟨by simp, by simp, by simp [sgn16]⟩, rfl⟩
theorem law_name_m (w : World) (a1 : Addr) (vs : List Value) (ns : List Int) (nn : Nat) (news : Led) (hv : IntsAre vs ns) (hl : ns.length ≤ 9) (hm : (a1, listOf vs.toArray nn) ∈ news) : Doing w 329 [.ref a1] 8 100 news (fun r n' => ∃ (l : List Nat) (t' : Tok), r = .str ⟨l.toArray⟩ t' ∧ IsName l ∧ n' = news) := by
  have h := law_name_c w a1 vs ns nn news hv hl
  unfold Doing at h ⊢
  intro mean mg mb dp un gd cn cs a ccd cl outer A₀ base h₀ L m s Q E B F X N T hk hd' hu hret
  refine h _ _ _ _ _ _ _ _ _ _ _ _ _ _ _ _ _ _ _ _ B F X (fun p hp => by rcases List.mem_cons.mp hp with rfl | hp; exact N _ hm; exact N p hp) T hk hd' hu fun r n' h' tk' F' N' p => ?_
  obtain ⟨l, t', e1, e2, e3⟩ := p
  subst e3
  exact hret r _ h' tk' F' (newsTl N') ⟨l, t', e1, e2, rfl⟩
end M18
section P
theorem sfx_mk (l : List Nat) (i : Int) : sfx ⟨l.toArray⟩ i = l.drop i.toNat := rfl
def okChar (c : Nat) : Bool := !(c == 35 || c == 48 || c == 60 || c == 62 || c == 124 || c == 61 || c == 38 || c == 58 || c == 91 || c == 42)
def codedB : Option Nat → Bool
  | some d => (decide (48 ≤ d) && decide (d ≤ 55)) || d == 120 || d == 117 || d == 85
  | none => false
def okPair (c : Nat) (o : Option Nat) : Bool := okChar c && !((c == 114 || c == 82) && (o == some 39 || o == some 34)) && !(c == 92 && codedB o)
def okList : List Nat → Bool
  | [] => true
  | c :: t => okPair c t.head? && okList t
theorem okList_tail {c : Nat} {t : List Nat} (h : okList (c :: t) = true) : okList t = true := by
  rw [okList, Bool.and_eq_true] at h; exact h.2
theorem okList_drop {l : List Nat} (h : okList l = true) (n : Nat) : okList (l.drop n) = true := by
  induction n generalizing l with
  | zero => exact h
  | succ n ih =>
    cases l with
    | nil => rfl
    | cons c t => exact ih (okList_tail h)
theorem okList_at {l : List Nat} (h : okList l = true) {n c : Nat} (hc : (l.drop n).head? = some c) : okPair c (l.drop (n + 1)).head? = true := by
  have h2 := okList_drop h n
  rw [← List.tail_drop]
  cases hd : l.drop n with
  | nil => rw [hd] at hc; cases hc
  | cons d t =>
    rw [hd] at hc h2
    cases hc
    rw [okList, Bool.and_eq_true] at h2
    exact h2.1
theorem okPair_char {c : Nat} {o : Option Nat} (h : okPair c o = true) : okChar c = true := by
  unfold okPair at h; simp only [Bool.and_eq_true] at h; exact h.1.1
theorem okList_mem {l : List Nat} (h : okList l = true) : ∀ c ∈ l, okChar c = true := by
  induction l with
  | nil => intro c hc; cases hc
  | cons d t ih =>
    intro c hc
    rcases List.mem_cons.mp hc with rfl | hc
    · rw [okList, Bool.and_eq_true] at h; exact okPair_char h.1
    · exact ih (okList_tail h) c hc
theorem bad_ne {x S : Str} (hx : (x.cps.toList.any fun c => !okChar c) = true) (hS : ∀ c ∈ S.cps.toList, okChar c = true) : (x == S) = false := by
  rw [← Bool.not_eq_true, beq_iff_eq]
  intro e
  subst e
  obtain ⟨c, hc, h⟩ := List.any_eq_true.mp hx
  rw [hS c hc] at h
  cases h
theorem bad3 : ∀ x ∈ [Str.ofString "<<-", Str.ofString "->>", Str.ofString ":::"], (x.cps.toList.any fun c => !okChar c) = true := by decide +kernel
theorem bad2 : ∀ x ∈ [Str.ofString "<<-", Str.ofString "->>", Str.ofString ":::", Str.ofString "<-", Str.ofString "->", Str.ofString "|>", Str.ofString "<=", Str.ofString ">=", Str.ofString "==", Str.ofString "!=", Str.ofString "&&", Str.ofString "||", Str.ofString "::", Str.ofString "[[", Str.ofString "**"], (x.cps.toList.any fun c => !okChar c) = true := by decide +kernel
theorem good_of {l : List Nat} (hl : l.length ≤ 1000) (h : okList l = true) : Good ⟨l.toArray⟩ := by
  have hm := okList_mem h
  have hd : ∀ n c, (l.drop n).head? = some c → okChar c = true := fun n c hc => okPair_char (okList_at h hc)
  refine ⟨?_, ?_, ?_, ?_, ?_⟩
  · show (List.toArray l).size ≤ 1000
    simpa using hl
  · intro e
    refine beq_no lit_hash fun q => ?_
    rw [sfx_mk] at q
    exact absurd (hd _ _ q) (by decide)
  · intro i hi q d hd2 hc
    rw [sfx_mk] at q hd2
    have e : (i + 1).toNat = i.toNat + 1 := by omega
    rw [e] at hd2
    have := okList_at h q
    rw [hd2] at this
    unfold okPair at this
    simp only [Bool.and_eq_true] at this
    have h3 := this.2
    have : codedB (some d) = true := by
      unfold coded at hc
      simp [codedB]
      omega
    rw [this] at h3
    exact absurd h3 (by decide)
  · intro j hj
    have hs : ∀ k : Nat, ∀ c ∈ (Txt.slice ⟨l.toArray⟩ (some j) (some (j + k))).cps.toList, okChar c = true := by
      intro k c hc
      rw [slice_sfx _ j (j + k) hj (by omega)] at hc
      have hc2 : c ∈ (l.drop j.toNat).take (j + k - j).toNat := by simpa [sfx_mk] using hc
      exact hm c (List.mem_of_mem_drop (List.mem_of_mem_take hc2))
    refine ⟨List.any_eq_false.mpr fun x hx => ?_, List.any_eq_false.mpr fun x hx => ?_⟩
    · exact Bool.eq_false_iff.mp (bad_ne (bad3 x hx) (hs 3))
    · exact Bool.eq_false_iff.mp (bad_ne (bad2 x hx) (hs 2))
  · intro e he q
    simp only [sfx_mk] at q ⊢
    have e1 : (e + 1).toNat = e.toNat + 1 := by omega
    rw [e1]
    have key : ∀ c, (l.drop e.toNat).head? = some c → (c == 114 || c == 82) = true → (l.drop (e.toNat + 1)).head? ≠ some 39 ∧ (l.drop (e.toNat + 1)).head? ≠ some 34 := by
      intro c hc hr
      have := okList_at h hc
      unfold okPair at this
      rw [hr, Bool.true_and] at this
      simp only [Bool.and_eq_true, Bool.not_eq_true', Bool.or_eq_false_iff, beq_eq_false_iff_ne, ne_eq] at this
      exact ⟨this.1.2.1, this.1.2.2⟩
    rcases q with q | q
    · exact key _ q (by decide)
    · exact key _ q (by decide)
theorem okPair_comma (c : Nat) : okPair c (some 44) = okPair c none := by
  unfold okPair
  have e1 : ((some 44 : Option Nat) == some 39 || (some 44 : Option Nat) == some 34) = false := by decide
  have e2 : ((none : Option Nat) == some 39 || (none : Option Nat) == some 34) = false := by decide
  have e3 : codedB (some 44) = codedB none := by decide
  rw [e1, e2, e3]
theorem okList_comma (a t : List Nat) (ha : okList a = true) (ht : okList (44 :: t) = true) : okList (a ++ 44 :: t) = true := by
  induction a with
  | nil => exact ht
  | cons c r ih =>
    rw [List.cons_append, okList, Bool.and_eq_true]
    refine ⟨?_, ih (okList_tail ha)⟩
    rw [okList, Bool.and_eq_true] at ha
    cases r with
    | nil => show okPair c (some 44) = true; rw [okPair_comma]; exact ha.1
    | cons d r => exact ha.1
def A18 : List Nat := [97, 90, 57, 46, 95, 32, 34, 39, 96, 92, 10, 43, 45, 37, 233, 40, 110, 44]
theorem okPair_A : ∀ c ∈ A18, okPair c none = true ∧ ∀ d ∈ A18, okPair c (some d) = true := by decide +kernel
theorem okList_A {l : List Nat} (h : ∀ c ∈ l, c ∈ A18) : okList l = true := by
  induction l with
  | nil => rfl
  | cons c t ih =>
    rw [okList, Bool.and_eq_true]
    refine ⟨?_, ih fun d hd => h d (.tail _ hd)⟩
    have := okPair_A c (h c (.head _))
    cases t with
    | nil => exact this.1
    | cons d t => exact this.2 d (h d (.tail _ (.head _)))
theorem sgn_A : ∀ c ∈ sgn16, c ∈ A18 ∧ (∀ d ∈ escOne c, d ∈ A18) := by decide +kernel
theorem words_plain : ∀ l ∈ words10, plainB l = false := by decide +kernel
theorem words_facts : ∀ l ∈ words10, l ≠ [] ∧ l.length ≤ 8 ∧ (l.all fun c => decide (32 ≤ c) && decide (c ≠ 127)) = true ∧ okList l = true ∧ okList (96 :: l.flatMap escOne ++ [96]) = true ∧ (l.all fun c => !pDigit (some c) && c != 46) = true := by decide +kernel
theorem sgn_ok : ∀ c ∈ sgn16, c = 10 ∨ (32 ≤ c ∧ c ≠ 127) := by decide +kernel
theorem sgn_num : ∀ c ∈ sgn16, c ≠ 48 ∧ c ≠ 101 ∧ c ≠ 69 ∧ c ≠ 105 ∧ c ≠ 76 := by decide +kernel
theorem IsName.facts {l : List Nat} (h : IsName l) : l ≠ [] ∧ l.length ≤ 8 ∧ ∀ c ∈ l, okc c := by
  rcases h with ⟨h1, h2, h3⟩ | h
  · exact ⟨h1, h2, fun c hc => sgn_ok c (h3 c hc)⟩
  · obtain ⟨h1, h2, h3, _⟩ := words_facts l h
    refine ⟨h1, h2, fun c hc => .inr ?_⟩
    have := List.all_eq_true.mp h3 c hc
    simpa using this
theorem IsName.okRaw {l : List Nat} (h : IsName l) : okList l = true := by
  rcases h with ⟨_, _, h3⟩ | h
  · exact okList_A fun c hc => (sgn_A c (h3 c hc)).1
  · exact (words_facts l h).2.2.2.1
theorem IsName.okShown {l : List Nat} (h : IsName l) : okList (shown l) = true := by
  unfold shown
  split
  · exact h.okRaw
  · rcases h with ⟨_, _, h3⟩ | h
    · refine okList_A fun c hc => ?_
      rcases List.mem_cons.mp hc with rfl | hc
      · decide
      rcases List.mem_append.mp hc with hc | hc
      · obtain ⟨d, hd, hc⟩ := List.mem_flatMap.mp hc
        exact (sgn_A d (h3 d hd)).2 c hc
      · rcases List.mem_singleton.mp hc with rfl; decide
    · exact (words_facts l h).2.2.2.2.1
theorem flat_len (l : List Nat) : l.length ≤ (l.flatMap escOne).length ∧ (l.flatMap escOne).length ≤ 2 * l.length := by
  induction l with
  | nil => simp
  | cons c t ih =>
    rw [List.flatMap_cons, List.length_append, List.length_cons]
    have h1 := escOne_len c
    have h2 : 1 ≤ (escOne c).length := by unfold escOne; split <;> (try split) <;> (try split) <;> simp
    omega
theorem shown_len {l : List Nat} (h : l.length ≤ 8) : (shown l).length ≤ 18 := by
  unfold shown
  split
  · omega
  · have := (flat_len l).2
    simp only [List.cons_append, List.length_cons, List.length_append, List.length_nil]
    omega
theorem shown_ne {l : List Nat} (h : plainB l = false) : shown l ≠ l := by
  intro e
  have := congrArg List.length e
  unfold shown at this
  rw [if_neg (by rw [h]; exact Bool.false_ne_true)] at this
  have h2 := (flat_len l).1
  simp only [List.cons_append, List.length_cons, List.length_append, List.length_nil] at this
  omega
theorem shown_plain {l : List Nat} (h : plainB l = true) : shown l = l := by unfold shown; rw [if_pos h]
theorem shown_quote {l : List Nat} (h : plainB l = false) : shown l = 96 :: l.flatMap escOne ++ [96] := by unfold shown; rw [if_neg (by rw [h]; exact Bool.false_ne_true)]
end P
section P2
theorem qlex_q (acc r : List Nat) : qlex 96 (96 :: r) acc = some (acc, r) := by
  rw [qlex_end 96 (96 :: r) acc rfl]; rfl
theorem qlex_escaped (nm : List Nat) : ∀ (acc r : List Nat), qlex 96 (nm.flatMap escOne ++ 96 :: r) acc = some (acc ++ nm, r) := by
  induction nm with
  | nil => intro acc r; rw [List.flatMap_nil, List.nil_append, qlex_q, List.append_nil]
  | cons c t ih =>
    intro acc r
    rw [List.flatMap_cons, List.append_assoc]
    have step : ∀ a, simpleEsc a = some c → qlex 96 ([92, a] ++ (t.flatMap escOne ++ 96 :: r)) acc = some (acc ++ c :: t, r) := by
      intro a ha
      rw [qlex_esc 96 _ acc a (by decide) rfl rfl, ha]
      show qlex 96 (t.flatMap escOne ++ 96 :: r) (acc ++ [c]) = _
      rw [ih, List.append_assoc]
      rfl
    unfold escOne
    split
    · rename_i h; subst h; exact step 110 rfl
    · split
      · rename_i h; subst h; exact step 92 rfl
      · split
        · rename_i h; subst h; exact step 96 rfl
        · rename_i h1 h2 h3
          rw [qlex_plain 96 _ acc c rfl h3 h2]
          show qlex 96 (t.flatMap escOne ++ 96 :: r) (acc ++ [c]) = _
          rw [ih, List.append_assoc]
          rfl
theorem qlex_len (q : Nat) : ∀ (n : Nat) (l acc v r : List Nat), l.length ≤ n → qlex q l acc = some (v, r) → v.length + 1 ≤ acc.length + l.length := by
  intro n
  induction n with
  | zero =>
    intro l acc v r hl h
    cases l with
    | nil => cases h
    | cons c t => simp at hl
  | succ n ih =>
    intro l acc v r hl h
    match l with
    | [] => cases h
    | [c] =>
      unfold qlex at h
      split at h
      · cases h; simp
      · cases h
    | c :: d :: t =>
      unfold qlex at h
      split at h
      · cases h; simp <;> omega
      · split at h
        · split at h
          · have := ih _ _ _ _ (by simp at hl ⊢; omega) h
            simp at this ⊢; omega
          · cases h
        · have := ih _ _ _ _ (by simp at hl ⊢; omega) h
          simp at this ⊢; omega
theorem run_app (p : Nat → Bool) (nm r : List Nat) (h : nm.all p = true) (hr : r = [] ∨ ∃ d t, r = d :: t ∧ p d = false) : run p (nm ++ r) = nm.length := by
  induction nm with
  | nil =>
    rcases hr with rfl | ⟨d, t, rfl, hd⟩
    · rfl
    · exact run_neg p d t hd
  | cons c t ih =>
    rw [List.all_cons, Bool.and_eq_true] at h
    rw [List.cons_append, run_pos p c _ h.1, ih h.2]
    rfl
theorem plain_cases {l : List Nat} (h : plainB l = true) : ∃ c t, l = c :: t ∧ isKey ⟨(c :: t).toArray⟩ = false ∧ (pLetter (some c) = true ∨ c = 46) ∧ (c = 46 → pDigit t.head? = false) ∧ (c :: t).all (fun z => pName (some z)) = true := by
  cases l with
  | nil => cases h
  | cons c t =>
    simp only [plainB, Bool.and_eq_true, Bool.not_eq_true', Bool.or_eq_true, beq_iff_eq, Bool.and_eq_false_iff, beq_eq_false_iff_ne] at h
    obtain ⟨⟨⟨h1, h2⟩, h3⟩, h4⟩ := h
    refine ⟨c, t, rfl, h1, h2, fun hc => ?_, h4⟩
    rcases h3 with h3 | h3
    · exact absurd hc h3
    · exact h3
theorem comma_end {r : List Nat} (hr : r = [] ∨ ∃ t, r = 44 :: t) : r = [] ∨ ∃ d t, r = d :: t ∧ pName (some d) = false := by
  rcases hr with h | ⟨t, h⟩
  · exact .inl h
  · exact .inr ⟨44, t, h, by decide⟩
theorem idTok_96 (t : List Nat) : idTok (96 :: t) = (match qlex 96 t [] with | some (v, r) => if v = [] then none else some (v, r) | none => none) := rfl
theorem shown_tok {nm : List Nat} (h : IsName nm) (r : List Nat) (hr : r = [] ∨ ∃ t, r = 44 :: t) : run isWs (shown nm ++ r) = 0 ∧ idTok (shown nm ++ r) = some (nm, r) ∧ ¬ (pDigit (shown nm ++ r).head? = true ∨ ((shown nm ++ r).head? = some 46 ∧ pDigit (shown nm ++ r).tail.head? = true)) := by
  cases hp : plainB nm with
  | true =>
    rw [shown_plain hp]
    obtain ⟨c, t, rfl, h1, h2, h3, h4⟩ := plain_cases hp
    have hws : isWs c = false := by
      rcases h2 with h2 | rfl
      · simp [pLetter] at h2; simp [isWs]; omega
      · decide
    have hdg : pDigit (some c) = false := by
      rcases h2 with h2 | rfl
      · exact (letter_not h2).2.2
      · decide
    have htl : c = 46 → pDigit (t ++ r).head? = false := by
      intro hc
      cases t with
      | nil => rcases hr with rfl | ⟨u, rfl⟩ <;> rfl
      | cons d u => exact h3 hc
    refine ⟨run_neg _ _ _ hws, ?_, ?_⟩
    · have hw : wordStart (c :: t ++ r) = true := by
        show (pLetter (some c) || ((some c : Option Nat) == some 46 && !pDigit (t ++ r).head?)) = true
        rcases h2 with h2 | h2
        · rw [h2]; rfl
        · rw [htl h2, h2]; rfl
      have hrun := run_app (fun z => pName (some z)) (c :: t) r h4 (comma_end hr)
      have hws : wordStr (c :: t ++ r) = ⟨(c :: t).toArray⟩ := by
        unfold wordStr
        rw [hrun, List.take_left]
      unfold idTok
      rw [if_pos hw, hws, if_neg (by rw [h1]; exact Bool.false_ne_true), hrun, List.take_left, List.drop_left]
    · rintro (q | ⟨q1, q2⟩)
      · have : pDigit (some c) = true := q
        rw [hdg] at this; cases this
      · have : (some c : Option Nat) = some 46 := q1
        have e : pDigit (t ++ r).head? = true := q2
        rw [htl (Option.some.inj this)] at e; cases e
  | false =>
    rw [shown_quote hp]
    refine ⟨rfl, ?_, ?_⟩
    · rw [List.cons_append, List.cons_append, idTok_96]
      rw [List.append_assoc, List.singleton_append, qlex_escaped, List.nil_append]
      simp only [if_neg h.facts.1]
    · rintro (q | ⟨q1, q2⟩)
      · have q' : pDigit (some 96) = true := q
        exact absurd q' (by decide)
      · have q' : (some 96 : Option Nat) = some 46 := q1
        exact absurd (Option.some.inj q') (by decide)
theorem all_take_run (p : Nat → Bool) (l : List Nat) (h : run p l = l.length) : l.all p = true := by
  induction l with
  | nil => rfl
  | cons c t ih =>
    cases hp : p c with
    | true =>
      rw [run_pos p c t hp, List.length_cons] at h
      rw [List.all_cons, hp, ih (by omega)]; rfl
    | false => rw [run_neg p c t hp] at h; simp at h
/-- a name that is not plain is not read back as it stands -/
theorem raw_tok {nm : List Nat} (hp : plainB nm = false) (k : Nat) (r : List Nat) : idTok (nm.drop k) ≠ some (nm, r) := by
  intro h
  unfold idTok at h
  split at h
  · rename_i hw
    split at h
    · cases h
    · rename_i hk
      have h1 := (Prod.mk.inj (Option.some.inj h)).1
      have hl := congrArg List.length h1
      rw [List.length_take] at hl
      have hr := run_le (fun c => pName (some c)) (nm.drop k)
      rw [List.length_drop] at hr hl
      have hne : nm ≠ [] := by intro q; subst q; rw [List.drop_nil] at hw; cases hw
      have hpos : 0 < nm.length := List.length_pos_iff.mpr hne
      have hk0 : k = 0 := by omega
      subst hk0
      rw [List.drop_zero] at hw hk hl hr h1
      have hrun : run (fun c => pName (some c)) nm = nm.length := by omega
      have hall := all_take_run _ _ hrun
      have hkey : isKey ⟨nm.toArray⟩ = false := by
        have : wordStr nm = ⟨nm.toArray⟩ := by unfold wordStr; rw [hrun, List.take_length]
        rw [this] at hk
        exact Bool.eq_false_iff.mpr hk
      cases nm with
      | nil => exact hne rfl
      | cons c t =>
        have hw' : (pLetter (some c) || ((some c : Option Nat) == some 46 && !pDigit t.head?)) = true := hw
        have : plainB (c :: t) = true := by
          simp only [plainB, hkey, hall, Bool.not_false, Bool.true_and, Bool.and_true, Bool.and_eq_true, Bool.or_eq_true, Bool.not_eq_true', Bool.and_eq_false_iff]
          rw [Bool.or_eq_true, Bool.and_eq_true] at hw'
          rcases hw' with hw' | ⟨q1, q2⟩
          · exact ⟨.inl hw', .inl (by rw [← Bool.not_eq_true, beq_iff_eq]; intro q; subst q; exact absurd hw' (by decide))⟩
          · have e : c = 46 := by simpa using q1
            exact ⟨.inr (by simpa using e), .inr (by simpa using q2)⟩
        rw [this] at hp; cases hp
  · split at h
    · split at h
      · rename_i v r' hq
        split at h
        · cases h
        · have h1 := (Prod.mk.inj (Option.some.inj h)).1
          subst h1
          have := qlex_len 96 _ _ _ _ _ (Nat.le_refl _) hq
          rw [List.length_tail, List.length_drop] at this
          simp at this
          omega
      · cases h
    · cases h
theorem raw_num {nm : List Nat} (h : IsName nm) : ∀ p, NumIf ⟨nm.toArray⟩ p := by
  intro p q
  rcases h with ⟨_, h2, h3⟩ | h
  · refine ⟨by show (List.toArray nm).size ≤ 8; simpa using h2, fun e => ?_⟩
    have key : ∀ c, (sfx ⟨nm.toArray⟩ e).head? = some c → c ∈ sgn16 := by
      intro c hc
      rw [sfx_mk] at hc
      exact h3 c (List.mem_of_mem_drop (List.mem_of_mem_head? hc))
    refine ⟨fun q => ?_, fun q => ?_, fun q => ?_, fun q => ?_, fun q => ?_⟩
    · exact (sgn_num _ (key _ q)).1 rfl
    · exact (sgn_num _ (key _ q)).2.1 rfl
    · exact (sgn_num _ (key _ q)).2.2.1 rfl
    · exact (sgn_num _ (key _ q)).2.2.2.1 rfl
    · exact (sgn_num _ (key _ q)).2.2.2.2 rfl
  · exfalso
    have hall := List.all_eq_true.mp (words_facts nm h).2.2.2.2.2
    have key : ∀ c, (sfx ⟨nm.toArray⟩ p).head? = some c → pDigit (some c) = false ∧ c ≠ 46 := by
      intro c hc
      rw [sfx_mk] at hc
      have := hall c (List.mem_of_mem_drop (List.mem_of_mem_head? hc))
      simpa using this
    cases ho : (sfx ⟨nm.toArray⟩ p).head? with
    | none => rw [ho] at q; rcases q with q | ⟨q, _⟩ <;> cases q
    | some c =>
      obtain ⟨k1, k2⟩ := key c ho
      rw [ho] at q
      rcases q with q | ⟨q, _⟩
      · rw [k1] at q; cases q
      · exact k2 (Option.some.inj q)
end P2
section M19

local macro_rules | `(tactic| k_handed) => `(tactic| assumption)
local macro_rules | `(tactic| ktr_enter) => `(tactic| (refine' code_defT ?k1 ?k2 ?k3 ?k4 ?k5 ?kA ?kF ?kK ?k6 ?k7 ?k8 ?k9 ?kB ?_ ?c2 ?c3 ?c4 ?c5; (case kA => exact rfl); (case kF => exact rfl); (case kK => first | exact rfl | assumption); (case k1 => k_asm); (case k2 => k_asm); (case k3 => k_asm); (case k4 => k_asm); (case k5 => k_asm); (case k6 => k_is); (case k7 => k_is); (case k8 => ktr_room); (case k9 => first | exact BindsTo.of_eq rfl | exact binds_K (by k_in) rfl (by k_is) rfl rfl rfl); (case c5 => exact rfl); (case kB => exact locs rfl); (case c2 => decide); (case c3 => exact rfl); (case c4 => exact rfl); k_whole; intro g' L' h' FG' F' N' B' X' T'; (try dsimp only); (try k_lift B'); (try k_fold)))
local macro_rules | `(tactic| walk_at "call ref") => `(tactic| (k_here; (with_reducible show wpAny _ _ (call (Value.ref 304) _) _ _ _); k_dflt (refine' Doing.u (D := lexer_c _ _ _ _) (ret := ?_)); intro r9 n9 h9 tk9 F9 N9 p9; obtain ⟨x9, dx9, kt9, k91, k92, k93, k94, k95, ti9, e9, e9', n91, n92, l9, lx9, lk9⟩ := p9; subst e9; subst e9'; walk_at "uS"))
local macro_rules | `(tactic| walk_at "call ref") => `(tactic| with_reducible refine halt 210 ?_)

/-- as `Doing`, for a def that catches, called from the lowest frame -/
def DoingT (w : World) (f : Addr) (vs : List Value) (d u : Nat) (news : Led) (P : Value → Led → Prop) : Prop :=
  ∀ (mean : ExcName → Option Value) (mg mb : Str → Option Value) (dp un : Nat) (gd : Option (List Code)) (cn : Str) (cs : Scope) (a : Addr) (ccd : Value) (cl : List (Str × Addr)) (A₀ : Around) (h₀ : Heap) (L : Addr) (m : Str → Option Value) (s : Shared) (Q E : Value → Shared → Prop),
    Below A₀ h₀ [] h₀ → Fr h₀ L s.heap m → (hd.heap_1 w.params).In h₀ → News h₀ L s.heap news → Top vw (looseW vw [Str.ofString "number"]) mean mg mb h₀ → cs.kind = .function → dp + d < recursionLimit → un + u < cLine →
    (∀ r news' h' tk', Fr h₀ L h' m → News h₀ L h' news' → P r news' → Q r { s with heap := h', toks := tk' }) →
    wpAny (model PySem.Challenge.rw_pq1323_01.row.prog w) (ktrTop dp un gd cn cs L a ccd cl []) (call (.ref f) vs) Q E s
theorem stkQ {α : Type} {M : Model} {A : Around} {x : Sem α} {Q : α → Shared → Prop} {E : Value → Shared → Prop} {s : Shared} (h : wpAny M A x (fun f s => Stk (Q f s)) E s) : wpAny M A x Q E s := h
theorem newsTok {h₀ h : Heap} {L : Addr} {a b c d e f g : Addr × Obj} {l : Led} (N : News h₀ L h (a :: b :: c :: d :: e :: f :: g :: l)) : News h₀ L h (f :: g :: d :: e :: l) := fun p hp => N p (by
  rcases List.mem_cons.mp hp with rfl | hp
  · exact .tail _ (.tail _ (.tail _ (.tail _ (.tail _ (.head _)))))
  rcases List.mem_cons.mp hp with rfl | hp
  · exact .tail _ (.tail _ (.tail _ (.tail _ (.tail _ (.tail _ (.head _))))))
  rcases List.mem_cons.mp hp with rfl | hp
  · exact .tail _ (.tail _ (.tail _ (.head _)))
  rcases List.mem_cons.mp hp with rfl | hp
  · exact .tail _ (.tail _ (.tail _ (.tail _ (.head _))))
  · exact .tail _ (.tail _ (.tail _ (.tail _ (.tail _ (.tail _ (.tail _ hp)))))))
/-- the frame below stands as an object of the ledger -/
theorem under {h₀ g g₂ h h' : Heap} {L L' : Addr} {m m' : Str → Option Value} {news : Led} (FG : Fr h₀ L g m) (Fg : Fr g L' g₂ m') (U : g₂.UpToSlots h) (U' : h.UpToSlots h') (N : News h₀ L' h' news) : ∃ oL, News h₀ L' h' ((L, oL) :: news) ∧ (∃ es ep, oL.data = .dict es ep ∧ StrKeys es ∧ ∀ name, nsFind es name = m name) := by
  have ns : h'.Ns L m := (U.trans U').ns (FG.ns.keeps Fg.keep)
  obtain ⟨oL, es, ep, h1, h2, h3, h4⟩ := ns
  refine ⟨oL, fun p hp => ?_, es, ep, h2, h3, h4⟩
  rcases List.mem_cons.mp hp with rfl | hp
  · refine ⟨h1, Nat.ne_of_lt (Nat.lt_of_lt_of_le FG.ns.lt Fg.above), ?_⟩
    cases q : h₀.get? L with
    | none => rfl
    | some o => exact absurd (Heap.lt_size q) (Nat.not_lt.mpr FG.above)
  · exact N p hp
theorem backFr {h₀ h g : Heap} {L L' D : Addr} {m m' m₀ : Str → Option Value} {news : Led} {oL oD : Obj} {vs : Array Value} (FG : Fr h₀ L g m) (F : Fr h₀ L' h m') (N : News h₀ L' h ((D, oD) :: (L, oL) :: news)) (hD : oD.data = .seq vs) (hL : ∃ es ep, oL.data = .dict es ep ∧ StrKeys es ∧ ∀ name, nsFind es name = m name) (hne : ∀ p ∈ news, p.1 ≠ L) : Fr h₀ L h m ∧ News h₀ L h ((D, oD) :: news) := by
  obtain ⟨es, ep, h2, h3, h4⟩ := hL
  have n1 := N _ (.tail _ (.head _))
  have n2 := N _ (.head _)
  refine ⟨⟨⟨oL, es, ep, n1.1, h2, h3, h4⟩, F.keep, FG.above⟩, fun p hp => ?_⟩
  rcases List.mem_cons.mp hp with rfl | hp
  · refine ⟨n2.1, fun q => ?_, n2.2.2⟩
    dsimp only at q n1 n2
    subst q
    have e : oL = oD := Option.some.inj (n1.1.symm.trans n2.1)
    rw [e, hD] at h2
    cases h2
  · exact ⟨(N p (.tail _ (.tail _ hp))).1, hne p hp, (N p (.tail _ (.tail _ hp))).2.2⟩
abbrev tripO (a b c : Value) : Obj := { cls := .type "tuple", data := .seq #[a, b, c] }
/-- what the reading of a text gives -/
def ReadIs (tx : Str) (p : Int) (k v k2 : Value) : Prop :=
  (idTok (sfx tx p) = none ∧ ((k = .none ∧ v = .none ∧ ∃ t, k2 = .str (Str.ofString "") t) ∨ (∃ K t K2 t2, k = .str K t ∧ (K == Str.ofString "id") = false ∧ k2 = .str K2 t2))) ∨
  (∃ v' r, idTok (sfx tx p) = some (v', r) ∧ ((k = .none ∧ v = .none ∧ ∃ t, k2 = .str (Str.ofString "") t ∧ r ≠ []) ∨ (∃ t t2 K2 t3, k = .str (Str.ofString "id") t ∧ v = .str ⟨v'.toArray⟩ t2 ∧ k2 = .str K2 t3 ∧ (r = [] → K2 = Str.ofString "eof"))))
set_option maxHeartbeats 2000000 in
theorem law_read_c (w : World) (tx : Str) (tt : Tok) (news : Led) (hG : Good tx) (hn1 : NumIf tx (0 + run isWs (sfx tx 0))) (hn2 : ∀ kv vv e, TokIs tx (0 + run isWs (sfx tx 0)) kv vv e → NumIf tx (e + run isWs (sfx tx e))) :
   DoingT w 336 [.str tx tt] 40 700 news (fun r n' => ∃ D k v k2, r = .ref D ∧ n' = (D, tripO k v k2) :: news ∧ ReadIs tx (0 + run isWs (sfx tx 0)) k v k2) := by
  unfold DoingT
  intro mean mg mb dp un gd cn cs a ccd cl A₀ h₀ L m s Q E B F X N T hk hd' hu hret
  k_steps
  refine Stk.out ?_
  refine' DoingX.use (next_token_c _ _ _ _ _ _ _ _ _ _ _ _ _ _ _ ?sd0 ?sd1 ?sd2 ?sd3 ?sd4 ?sd5 ?sd6) ?k1 ?k2 ?k3 ?k4 ?k5 ?k6 ?k7 ?k8 ?_ ?_
  case k1 => k_asm
  case k2 => k_asm
  case k3 => k_asm
  case k4 => first | k_asm | exact newsTl (by k_asm) | exact newsTl (newsTl (by k_asm)) | exact newsTl (newsTl (newsTl (by k_asm))) | exact newsTl (newsTl (newsTl (newsTl (by k_asm)))) | exact cb_drop (by k_asm) (by kcj_all)
  case k5 => k_asm
  case k6 => first | exact rfl | assumption
  case k7 => ktr_room
  case k8 => ktr_units
  case sd0 => assumption
  case sd1 => omega
  case sd2 => omega
  case sd3 => exact hn1
  case sd4 => (first | assumption | exact (fun p hp => Nat.ne_of_lt (ktn_ltOf (by assumption) p hp)) | ((repeat' (first | assumption | (exact fun p hp => Nat.ne_of_lt (ktn_ltOf (by assumption) p hp)) | (refine List.forall_mem_cons.mpr ⟨?_, ?_⟩))) <;> (first | assumption | (refine neN ?_; (try dsimp only); (try simp only [AllLt] at *); omega))))
  case sd5 => (first | assumption | (refine neN ?_; (try simp only [AllLt] at *); omega))
  case sd6 => (first | assumption | (refine neN ?_; (try simp only [AllLt] at *); omega))
  rotate_left
  intro x9 e9 g9 h9 tk9 Fg9 U9 R9
  rotate_left
  intro r9 n9 h9 tk9 F9 N9 p9
  obtain ⟨T9, dT9, j91, j92, j93, j94, kv9, vv9, av9, nl9, i9, ti9, e9, e9', l9, l9', hv9, s9⟩ := p9
  subst e9
  subst e9'
  · have s9c := s9
    obtain ⟨⟨r1, r2⟩, s9k, _, _⟩ := s9c
    obtain ⟨o1, o2, o3, o4⟩ := l9
    k_steps
    refine Stk.out ?_
    refine' DoingX.use (next_token_c _ _ _ _ _ _ _ _ _ _ _ _ _ _ _ ?sd0 ?sd1 ?sd2 ?sd3 ?sd4 ?sd5 ?sd6) ?k1 ?k2 ?k3 ?k4 ?k5 ?k6 ?k7 ?k8 ?_ ?_
    case k1 => k_asm
    case k2 => k_asm
    case k3 => k_asm
    case k4 => first | k_asm | exact newsTl (by k_asm) | exact newsTl (newsTl (by k_asm)) | exact newsTl (newsTl (newsTl (by k_asm))) | exact newsTl (newsTl (newsTl (newsTl (by k_asm)))) | exact cb_drop (by k_asm) (by kcj_all)
    case k5 => k_asm
    case k6 => first | exact rfl | assumption
    case k7 => ktr_room
    case k8 => ktr_units
    case sd0 => assumption
    case sd1 => omega
    case sd2 => omega
    case sd3 => exact hn2 _ _ _ s9
    case sd4 => exact List.forall_mem_cons.mpr ⟨Nat.ne_of_gt (Nat.lt_trans o2 l9'), List.forall_mem_cons.mpr ⟨Nat.ne_of_gt o2, fun p hp => Nat.ne_of_lt (ktn_ltOf (by assumption) p hp)⟩⟩
    case sd5 => (first | assumption | (refine neN ?_; (try simp only [AllLt] at *); omega))
    case sd6 => (first | assumption | (refine neN ?_; (try simp only [AllLt] at *); omega))
    rotate_left
    intro x9 e9 g9 h9 tk9 Fg9 U9 R9
    rotate_left
    intro r9 n9 h9 tk9 F9 N9 p9
    obtain ⟨T8, dT8, j81, j82, j83, j84, kv8, vv8, av8, nl8, i8, ti8, e9, e9', l8, l8', hv8, s8⟩ := p9
    subst e9
    subst e9'
    · rename News _ _ _ _ => ND
      have NE := newsTok ND
      clear ND
      have s8k : ∃ K2 t2, kv8 = .str K2 t2 := by
        rcases s8.2.1 with ⟨_, K, tk, e, _⟩ | ⟨_, tk, _, _, e, _⟩
        · exact ⟨_, _, e⟩
        · exact ⟨_, _, e⟩
      obtain ⟨K2, t2, rfl⟩ := s8k
      rcases s9k with ⟨hnone, K, tk, rfl, hK⟩ | ⟨v, tk, tv, hsome, rfl, rfl⟩
      · k_steps
        show LeaveT h₀ L m _ _ _ _
        rename News _ _ _ _ => NN
        refine Or.inl (leaveK_ (by assumption) NN (fun F7 N7 => hret _ ((_, tripO (.str K tk) vv9 (.str K2 t2)) :: news) _ _ F7 (cb_drop N7 ?_) ⟨_, _, _, _, rfl, rfl, .inl ⟨hnone, .inr ⟨K, tk, K2, t2, rfl, hK, rfl⟩⟩⟩))
        kcj_all
      · k_steps
        show LeaveT h₀ L m _ _ _ _
        rename News _ _ _ _ => NN
        refine Or.inl (leaveK_ (by assumption) NN (fun F7 N7 => hret _ ((_, tripO (.str (Str.ofString "id") tk) (.str ⟨v.toArray⟩ tv) (.str K2 t2)) :: news) _ _ F7 (cb_drop N7 ?_) ⟨_, _, _, _, rfl, rfl, .inr ⟨v, _, hsome, .inr ⟨tk, tv, K2, t2, rfl, rfl, rfl, fun hr => ?_⟩⟩⟩))
        · kcj_all
        obtain ⟨tk', e⟩ := s8.2.2.1 (by rw [hr]; show sfx tx (i9 + 0) = []; rw [Int.add_zero]; exact hr)
        exact (Value.str.inj e).1
    · k_steps
      rename Fr h₀ L _ m => FGx
      have q1 := FGx.above
      have q2 := FGx.ns.lt
      have q3 := Fg9.above
      have q4 : h₀.objs.size ≤ _ := Nat.le_trans q1 (Nat.le_trans (Nat.le_of_lt q2) q3)
      refine caught_read rfl Fg9.ns q4 U9 R9 X (topRead_of T) fun h4 F4 N4 U4 => ?_
      obtain ⟨oL, N5, hoL⟩ := under FGx Fg9 U9 U4 (cb_drop (news := news) N4 (by kcj_all))
      clear N4
      refine stkQ ?_
      (try k_fold)
      k_steps
      refine Stk.out ?_
      rename News h₀ _ _ _ => N6
      rename Fr h₀ _ _ _ => F6
      obtain ⟨F7, N7⟩ := backFr (m₀ := m) FGx F6 N6 rfl hoL (fun p hp => (N p hp).2.1)
      show LeaveT h₀ L m _ _ _ _
      refine Or.inr (hret _ _ _ _ F7 N7 ⟨_, _, _, _, rfl, rfl, ?_⟩)
      rcases s9k with ⟨hnone, _⟩ | ⟨v, tk, tv, hsome, _, _⟩
      · exact .inl ⟨hnone, .inl ⟨rfl, rfl, _, rfl⟩⟩
      · refine .inr ⟨v, _, hsome, .inl ⟨rfl, rfl, _, rfl, fun hr => x9.2.1 ?_⟩⟩
        rw [hr]; show sfx tx (i9 + 0) = []; rw [Int.add_zero]; exact hr
  · k_steps
    rename Fr h₀ L _ m => FGx
    have q1 := FGx.above
    have q2 := FGx.ns.lt
    have q3 := Fg9.above
    have q4 : h₀.objs.size ≤ _ := Nat.le_trans q1 (Nat.le_trans (Nat.le_of_lt q2) q3)
    refine caught_read rfl Fg9.ns q4 U9 R9 X (topRead_of T) fun h4 F4 N4 U4 => ?_
    obtain ⟨oL, N5, hoL⟩ := under FGx Fg9 U9 U4 (cb_drop (news := news) N4 (by kcj_all))
    clear N4
    refine stkQ ?_
    (try k_fold)
    k_steps
    refine Stk.out ?_
    rename News h₀ _ _ _ => N6
    rename Fr h₀ _ _ _ => F6
    obtain ⟨F7, N7⟩ := backFr (m₀ := m) FGx F6 N6 rfl hoL (fun p hp => (N p hp).2.1)
    show LeaveT h₀ L m _ _ _ _
    exact Or.inr (hret _ _ _ _ F7 N7 ⟨_, _, _, _, rfl, rfl, .inl ⟨x9.1, .inl ⟨rfl, rfl, _, rfl⟩⟩⟩)
end M19
end Contracts
section M21
theorem DoingT.mono {w : World} {f : Addr} {vs : List Value} {d u : Nat} {news : Led} {P P' : Value → Led → Prop} (D : DoingT w f vs d u news P) (h : ∀ r n, P r n → P' r n) : DoingT w f vs d u news P' := by
  unfold DoingT at D ⊢
  intro mean mg mb dp un gd cn cs a ccd cl A₀ h₀ L m s Q E B F X N T hk hd' hu hret
  exact D _ _ _ _ _ _ _ _ _ _ _ _ _ _ _ _ _ _ B F X N T hk hd' hu fun r n' h' tk' F' N' p => hret r n' h' tk' F' N' (h r n' p)
theorem DoingT.use {w : World} {f : Addr} {vs : List Value} {d u : Nat} {news : Led} {P : Value → Led → Prop} (D : DoingT w f vs d u news P)
    {mean : ExcName → Option Value} {mg mb : Str → Option Value} {dp un : Nat} {gd : Option (List Code)} {cn : Str} {cs : Scope} {a : Addr} {ccd : Value} {cl : List (Str × Addr)} {A₀ : Around} {h₀ : Heap} {L : Addr} {m : Str → Option Value} {s : Shared} {Q E : Value → Shared → Prop}
    (B : Below A₀ h₀ [] h₀) (F : Fr h₀ L s.heap m) (X : (hd.heap_1 w.params).In h₀) (N : News h₀ L s.heap news) (T : Top vw (looseW vw [Str.ofString "number"]) mean mg mb h₀) (hk : cs.kind = .function) (hdp : dp + d < recursionLimit) (hu : un + u < cLine)
    (ret : ∀ r news' h' tk', Fr h₀ L h' m → News h₀ L h' news' → P r news' → Q r { s with heap := h', toks := tk' }) :
    wpAny (model PySem.Challenge.rw_pq1323_01.row.prog w) (ktrTop dp un gd cn cs L a ccd cl []) (call (.ref f) vs) Q E s := D _ _ _ _ _ _ _ _ _ _ _ _ _ _ _ _ _ _ B F X N T hk hdp hu ret
theorem numIf_end {tx : Str} {e : Int} (he : sfx tx e = []) : NumIf tx (e + run isWs (sfx tx e)) := by
  intro q
  rw [he] at q
  have : sfx tx (e + (run isWs ([] : List Nat) : Int)) = [] := by show sfx tx (e + 0) = []; rw [Int.add_zero]; exact he
  rw [this] at q
  rcases q with q | ⟨q, _⟩ <;> cases q
theorem sfx0 (l : List Nat) : sfx ⟨l.toArray⟩ 0 = l := rfl
theorem numIf_at {tx : Str} {p : Int} (hp : 0 ≤ p) {s : List Nat} (hs : sfx tx p = s) (h : ¬ (pDigit s.head? = true ∨ (s.head? = some 46 ∧ pDigit s.tail.head? = true))) : NumIf tx p := by
  intro q
  rw [hs, sfx_succ tx p hp, hs] at q
  exact absurd q h
theorem shown_good {nm : List Nat} (h : IsName nm) : Good ⟨(shown nm).toArray⟩ := good_of (by have := shown_len h.facts.2.1; omega) h.okShown
theorem raw_good {nm : List Nat} (h : IsName nm) : Good ⟨nm.toArray⟩ := good_of (by have := h.facts.2.1; omega) h.okRaw
theorem law_read_yes (w : World) (nm : List Nat) (tt : Tok) (news : Led) (h : IsName nm) :
   DoingT w 336 [.str ⟨(shown nm).toArray⟩ tt] 40 700 news (fun r n' => ∃ D t1 t2 t3, r = .ref D ∧ n' = (D, tripO (.str (Str.ofString "id") t1) (.str ⟨nm.toArray⟩ t2) (.str (Str.ofString "eof") t3)) :: news) := by
  obtain ⟨s1, s2, s3⟩ := shown_tok h [] (.inl rfl)
  rw [List.append_nil] at s1 s2 s3
  have e0 : (0 : Int) + (run isWs (sfx ⟨(shown nm).toArray⟩ 0) : Int) = 0 := by rw [sfx0, s1]; rfl
  refine (law_read_c w ⟨(shown nm).toArray⟩ tt news (shown_good h) ?_ ?_).mono ?_
  · rw [e0]; exact numIf_at (Int.le_refl 0) (sfx0 _) s3
  · intro kv vv e t
    rw [e0] at t
    rcases t.2.1 with ⟨t1, _⟩ | ⟨v, _, _, t1, _⟩
    · rw [sfx0, s2] at t1; cases t1
    · rw [sfx0, s2] at t1
      exact numIf_end (Prod.mk.inj (Option.some.inj t1)).2.symm
  · rintro r n ⟨D, k, v, k2, e1, e2, q⟩
    rw [e0] at q
    rcases q with ⟨q, _⟩ | ⟨v', r', q, q2⟩
    · rw [sfx0, s2] at q; cases q
    · rw [sfx0, s2] at q
      obtain ⟨f1, f2⟩ := Prod.mk.inj (Option.some.inj q)
      subst f1
      subst f2
      rcases q2 with ⟨_, _, _, _, q2⟩ | ⟨t, t2, K2, t3, g1, g2, g3, g4⟩
      · exact absurd rfl q2
      · exact ⟨D, t, t2, t3, e1, by rw [e2, g1, g2, g3, g4 rfl]⟩
theorem law_read_no (w : World) (nm : List Nat) (tt : Tok) (news : Led) (h : IsName nm) (hp : plainB nm = false) :
   DoingT w 336 [.str ⟨nm.toArray⟩ tt] 40 700 news (fun r n' => ∃ D k v k2, r = .ref D ∧ n' = (D, tripO k v k2) :: news ∧
     ((k = .none ∧ ∃ t, k2 = .str (Str.ofString "") t) ∨ (∃ K t K2 t2, k = .str K t ∧ (K == Str.ofString "id") = false ∧ k2 = .str K2 t2) ∨ (∃ t V t2 K2 t3, k = .str (Str.ofString "id") t ∧ v = .str V t2 ∧ (V == ⟨nm.toArray⟩) = false ∧ k2 = .str K2 t3))) := by
  refine (law_read_c w ⟨nm.toArray⟩ tt news (raw_good h) (raw_num h _) (fun _ _ _ _ => raw_num h _)).mono ?_
  rintro r n ⟨D, k, v, k2, e1, e2, q⟩
  refine ⟨D, k, v, k2, e1, e2, ?_⟩
  rcases q with ⟨_, q | q⟩ | ⟨v', r', q, q2⟩
  · obtain ⟨g1, _, t, g2⟩ := q
    exact .inl ⟨g1, t, g2⟩
  · exact .inr (.inl q)
  · have hne : v' ≠ nm := by
      intro z
      subst z
      have e : sfx ⟨v'.toArray⟩ (0 + (run isWs (sfx ⟨v'.toArray⟩ 0) : Int)) = v'.drop (run isWs v') := by rw [sfx_add _ 0 _ (Int.le_refl 0)]; rfl
      rw [e] at q
      exact raw_tok hp _ _ q
    rcases q2 with ⟨g1, _, t, g2, _⟩ | ⟨t, t2, K2, t3, g1, g2, g3, _⟩
    · exact .inl ⟨g1, t, g2⟩
    · refine .inr (.inr ⟨t, _, t2, K2, t3, g1, g2, ?_, g3⟩)
      rw [← Bool.not_eq_true, beq_iff_eq]
      intro z
      apply hne
      simpa using z
theorem nt_id (w : World) (x dx kt : Addr) (k1 k2 k3 k4 kk : Tok) (tx : Str) (tt : Tok) (i : Int) (ti : Tok) (nl : Bool) (rest : Led) (s v r : List Nat) (hG : Good tx) (hi : 0 ≤ i) (hi2 : i ≤ tx.length) (hs : sfx tx i = s) (hid : idTok (s.drop (run isWs s)) = some (v, r)) (hnum : ¬ (pDigit (s.drop (run isWs s)).head? = true ∨ ((s.drop (run isWs s)).head? = some 46 ∧ pDigit (s.drop (run isWs s)).tail.head? = true))) (hrest : ∀ p ∈ rest, p.1 ≠ dx) (hxd : x ≠ dx) (hkd : kt ≠ dx) :
   Doing w 210 [.ref x] 30 500 (lexLed w x dx kt k1 k2 k3 k4 kk tx tt i ti nl rest) (fun r' n' => ∃ T dT j1 j2 j3 j4 tk tv av nl' e te, r' = .ref T ∧ n' = lexLed w x dx kt k1 k2 k3 k4 kk tx tt e te nl' ((T, instObj 114 dT) :: (dT, tokD w j1 j2 j3 j4 (.str (Str.ofString "id") tk) (.str ⟨v.toArray⟩ tv) av nl') :: rest) ∧ (x < dT ∧ dx < dT ∧ kt < dT ∧ AllLt dT rest) ∧ dT < T ∧ sfx tx e = r ∧ 0 ≤ e ∧ e ≤ tx.length) := by
  have hp : sfx tx (i + (run isWs (sfx tx i) : Int)) = s.drop (run isWs s) := by rw [sfx_add tx i _ hi, hs]
  have hn : NumIf tx (i + run isWs (sfx tx i)) := numIf_at (by omega) hp hnum
  have D := next_token_c w x dx kt k1 k2 k3 k4 kk tx tt i ti nl rest hG hi hi2 hn hrest hxd hkd
  unfold DoingX at D
  unfold Doing
  intro mean mg mb dp un gd cn cs a ccd cl outer A₀ base h₀ L m sh Q E B F X N T hk hd' hu hret
  refine D _ _ _ _ _ _ _ _ _ _ _ _ _ _ _ _ _ _ _ _ B F X N T hk hd' hu (fun r' n' h' tk' F' N' p => ?_) (fun xp => ?_)
  · obtain ⟨T9, dT9, j91, j92, j93, j94, kv9, vv9, av9, nl9, i9, ti9, e9, e9', l9, l9', _, s9⟩ := p
    refine hret _ _ _ _ F' N' ?_
    rcases s9.2.1 with ⟨q, _⟩ | ⟨v', tk, tv, q, q2, q3⟩
    · rw [hp, hid] at q; cases q
    · rw [hp, hid] at q
      obtain ⟨f1, f2⟩ := Prod.mk.inj (Option.some.inj q)
      subst f1
      subst q2
      subst q3
      exact ⟨T9, dT9, j91, j92, j93, j94, tk, tv, av9, nl9, i9, ti9, e9, e9', l9, l9', f2.symm, s9.1.1, s9.1.2⟩
  · rw [hp, hid] at xp; exact absurd xp.1 (by simp)
theorem nt_comma (w : World) (x dx kt : Addr) (k1 k2 k3 k4 kk : Tok) (tx : Str) (tt : Tok) (i : Int) (ti : Tok) (nl : Bool) (rest : Led) (t : List Nat) (hG : Good tx) (hi : 0 ≤ i) (hi2 : i ≤ tx.length) (hs : sfx tx i = 44 :: t) (hrest : ∀ p ∈ rest, p.1 ≠ dx) (hxd : x ≠ dx) (hkd : kt ≠ dx) :
   Doing w 210 [.ref x] 30 500 (lexLed w x dx kt k1 k2 k3 k4 kk tx tt i ti nl rest) (fun r' n' => ∃ T dT j1 j2 j3 j4 tk tv av nl' e te, r' = .ref T ∧ n' = lexLed w x dx kt k1 k2 k3 k4 kk tx tt e te nl' ((T, instObj 114 dT) :: (dT, tokD w j1 j2 j3 j4 (.str (Str.ofString "op") tk) (.str (Str.ofString ",") tv) av nl') :: rest) ∧ (x < dT ∧ dx < dT ∧ kt < dT ∧ AllLt dT rest) ∧ dT < T ∧ sfx tx e = t ∧ 0 ≤ e ∧ e ≤ tx.length) := by
  have hr : run isWs (44 :: t) = 0 := run_neg _ _ _ (by decide)
  have e0 : i + (run isWs (sfx tx i) : Int) = i := by rw [hs, hr]; show i + 0 = i; omega
  have hn : NumIf tx (i + run isWs (sfx tx i)) := by
    rw [e0]
    refine numIf_at hi hs ?_
    rintro (q | ⟨q, _⟩)
    · have q' : pDigit (some 44) = true := q
      exact absurd q' (by decide)
    · have q' : (some 44 : Option Nat) = some 46 := q
      exact absurd (Option.some.inj q') (by decide)
  have D := next_token_c w x dx kt k1 k2 k3 k4 kk tx tt i ti nl rest hG hi hi2 hn hrest hxd hkd
  rw [e0] at D
  unfold DoingX at D
  unfold Doing
  intro mean mg mb dp un gd cn cs a ccd cl outer A₀ base h₀ L m sh Q E B F X N T hk hd' hu hret
  refine D _ _ _ _ _ _ _ _ _ _ _ _ _ _ _ _ _ _ _ _ B F X N T hk hd' hu (fun r' n' h' tk' F' N' p => ?_) (fun xp => ?_)
  · obtain ⟨T9, dT9, j91, j92, j93, j94, kv9, vv9, av9, nl9, i9, ti9, e9, e9', l9, l9', _, s9⟩ := p
    refine hret _ _ _ _ F' N' ?_
    obtain ⟨⟨tk, tv, q1, q2⟩, q3⟩ := s9.2.2.2 t hs
    subst q1
    subst q2
    refine ⟨T9, dT9, j91, j92, j93, j94, tk, tv, av9, nl9, i9, ti9, e9, e9', l9, l9', ?_, s9.1.1, s9.1.2⟩
    rw [q3, sfx_succ tx i hi, hs]; rfl
  · exact absurd (by rw [hs]; rfl) xp.2.2
theorem nt_eof (w : World) (x dx kt : Addr) (k1 k2 k3 k4 kk : Tok) (tx : Str) (tt : Tok) (i : Int) (ti : Tok) (nl : Bool) (rest : Led) (hG : Good tx) (hi : 0 ≤ i) (hi2 : i ≤ tx.length) (hs : sfx tx i = []) (hrest : ∀ p ∈ rest, p.1 ≠ dx) (hxd : x ≠ dx) (hkd : kt ≠ dx) :
   Doing w 210 [.ref x] 30 500 (lexLed w x dx kt k1 k2 k3 k4 kk tx tt i ti nl rest) (fun r' n' => ∃ T dT j1 j2 j3 j4 tk vv av nl' e te, r' = .ref T ∧ n' = lexLed w x dx kt k1 k2 k3 k4 kk tx tt e te nl' ((T, instObj 114 dT) :: (dT, tokD w j1 j2 j3 j4 (.str (Str.ofString "eof") tk) vv av nl') :: rest) ∧ (x < dT ∧ dx < dT ∧ kt < dT ∧ AllLt dT rest) ∧ dT < T) := by
  have D := next_token_c w x dx kt k1 k2 k3 k4 kk tx tt i ti nl rest hG hi hi2 (numIf_end hs) hrest hxd hkd
  have e0 : i + (run isWs (sfx tx i) : Int) = i := by rw [hs]; show i + 0 = i; omega
  rw [e0] at D
  unfold DoingX at D
  unfold Doing
  intro mean mg mb dp un gd cn cs a ccd cl outer A₀ base h₀ L m sh Q E B F X N T hk hd' hu hret
  refine D _ _ _ _ _ _ _ _ _ _ _ _ _ _ _ _ _ _ _ _ B F X N T hk hd' hu (fun r' n' h' tk' F' N' p => ?_) (fun xp => ?_)
  · obtain ⟨T9, dT9, j91, j92, j93, j94, kv9, vv9, av9, nl9, i9, ti9, e9, e9', l9, l9', _, s9⟩ := p
    refine hret _ _ _ _ F' N' ?_
    obtain ⟨tk, q1⟩ := s9.2.2.1 hs
    subst q1
    exact ⟨T9, dT9, j91, j92, j93, j94, tk, vv9, av9, nl9, i9, ti9, e9, e9', l9, l9'⟩
  · exact absurd hs xp.2.1
end M21
section M22
theorem sgn_small : ∀ c ∈ sgn16, c ≤ 233 := by decide +kernel
theorem words_small : ∀ l ∈ words10, ∀ c ∈ l, c ≤ 233 := by decide +kernel
theorem IsName.small {l : List Nat} (h : IsName l) : ∀ c ∈ l, c ≤ 233 := by
  rcases h with ⟨_, _, h⟩ | h
  · exact fun c hc => sgn_small c (h c hc)
  · exact words_small l h
theorem IsName.strOk {l : List Nat} (h : IsName l) : PyData.strOk ⟨l.toArray⟩ = true := by
  unfold PyData.strOk
  rw [Array.all_eq_true_iff_forall_mem]
  intro c hc
  have := h.small c (by simpa using hc)
  exact decide_eq_true (by omega)
theorem strOk_id : PyData.strOk (Str.ofString "id") = true := by decide +kernel
theorem strOk_eof : PyData.strOk (Str.ofString "eof") = true := by decide +kernel
theorem IsName.shaped {l : List Nat} (h : IsName l) : SeqAt.shaped (PyData.tuple [PyData.str (Str.ofString "id"), PyData.str ⟨l.toArray⟩, PyData.str (Str.ofString "eof")]) = true := by
  simp only [SeqAt.shaped, PyData.canLay0, PyData.canLayAll0, h.strOk, strOk_id, strOk_eof, Bool.and_true, Bool.true_and]
  rfl
theorem quote_facts {l : List Nat} (hp : plainB l = false) : ((⟨(shown l).toArray⟩ : Str) == ⟨l.toArray⟩) = false ∧ ((⟨(shown l).toArray⟩ : Str) != ⟨l.toArray⟩) = true ∧ (Txt.item ⟨(shown l).toArray⟩ 0 != Str.ofString "`") = false ∧ (Txt.item ⟨(shown l).toArray⟩ (-1) != Str.ofString "`") = false ∧ 1 ≤ (⟨(shown l).toArray⟩ : Str).length := by
  have e1 : ((⟨(shown l).toArray⟩ : Str) == ⟨l.toArray⟩) = false := by
    rw [← Bool.not_eq_true, beq_iff_eq]
    intro q
    exact shown_ne hp (by simpa using q)
  have hs := shown_quote hp
  refine ⟨e1, by rw [bne, e1]; rfl, ?_, ?_, ?_⟩
  · have : Txt.item ⟨(shown l).toArray⟩ 0 = ⟨#[96]⟩ := by rw [hs]; exact item_head 96 _
    rw [this, lit_bq]; decide
  · have : Txt.item ⟨(shown l).toArray⟩ (-1) = ⟨#[96]⟩ := by
      have e := item_last_right Str.empty (96 :: l.flatMap escOne) 96
      rw [Str.empty_append] at e
      rw [hs]; exact e
    rw [this, lit_bq]; decide
  · rw [hs]; show 1 ≤ (List.toArray _).size; simp
theorem law_read_plain (w : World) (nm : List Nat) (tt : Tok) (news : Led) (h : IsName nm) (hp : plainB nm = true) :
   DoingT w 336 [.str ⟨nm.toArray⟩ tt] 40 700 news (fun r n' => ∃ D t1 t2 t3, r = .ref D ∧ n' = (D, tripO (.str (Str.ofString "id") t1) (.str ⟨nm.toArray⟩ t2) (.str (Str.ofString "eof") t3)) :: news) := by
  have := law_read_yes w nm tt news h
  rw [shown_plain hp] at this
  exact this
end M22
section M23
theorem lit_cs : Str.ofString ", " = ⟨([44, 32] : List Nat).toArray⟩ := by decide +kernel
theorem both_text (a b : List Nat) : (⟨a.toArray⟩ : Str) ++ Str.ofString ", " ++ ⟨b.toArray⟩ = ⟨(a ++ 44 :: 32 :: b).toArray⟩ := by
  rw [lit_cs]
  refine Str.ext' (Array.toList_inj.mp ?_)
  rw [Str.cps_append, Str.cps_append, Array.toList_append, Array.toList_append]
  simp
theorem both_good {a b : List Nat} (ha : IsName a) (hb : IsName b) : Good ⟨(shown a ++ 44 :: 32 :: shown b).toArray⟩ := by
  refine good_of ?_ ?_
  · have h1 := shown_len ha.facts.2.1
    have h2 := shown_len hb.facts.2.1
    simp only [List.length_append, List.length_cons]
    omega
  · refine okList_comma _ _ ha.okShown ?_
    have h := hb.okShown
    have e1 : okPair 44 (some 32) = true := by decide
    have e2 : ∀ o, okPair 32 o = true := by
      intro o
      unfold okPair
      rfl
    rw [okList, okList, Bool.and_eq_true, Bool.and_eq_true]
    exact ⟨e1, e2 _, h⟩
/-- the three places of the law's own text -/
theorem both_first {a b : List Nat} (ha : IsName a) : (run isWs (shown a ++ 44 :: 32 :: shown b) = 0) ∧ idTok ((shown a ++ 44 :: 32 :: shown b).drop (run isWs (shown a ++ 44 :: 32 :: shown b))) = some (a, 44 :: 32 :: shown b) ∧
    ¬ (pDigit ((shown a ++ 44 :: 32 :: shown b).drop (run isWs (shown a ++ 44 :: 32 :: shown b))).head? = true ∨ (((shown a ++ 44 :: 32 :: shown b).drop (run isWs (shown a ++ 44 :: 32 :: shown b))).head? = some 46 ∧ pDigit ((shown a ++ 44 :: 32 :: shown b).drop (run isWs (shown a ++ 44 :: 32 :: shown b))).tail.head? = true)) := by
  obtain ⟨h1, h2, h3⟩ := shown_tok ha (44 :: 32 :: shown b) (.inr ⟨_, rfl⟩)
  rw [h1, List.drop_zero]
  exact ⟨rfl, h2, h3⟩
theorem both_third {b : List Nat} (hb : IsName b) : idTok ((32 :: shown b).drop (run isWs (32 :: shown b))) = some (b, []) ∧
    ¬ (pDigit ((32 :: shown b).drop (run isWs (32 :: shown b))).head? = true ∨ (((32 :: shown b).drop (run isWs (32 :: shown b))).head? = some 46 ∧ pDigit ((32 :: shown b).drop (run isWs (32 :: shown b))).tail.head? = true)) := by
  obtain ⟨h1, h2, h3⟩ := shown_tok hb [] (.inl rfl)
  rw [List.append_nil] at h1 h2 h3
  have e : run isWs (32 :: shown b) = 1 := by rw [run_pos isWs 32 _ (by decide), h1]
  rw [e]
  exact ⟨h2, h3⟩
end M23
section M24
theorem perm3 {α : Type} {a b c d e f : α} {l : List α} {p : α} (h : p ∈ d :: e :: f :: a :: b :: c :: l) : p ∈ a :: b :: c :: d :: e :: f :: l := by
  simp only [List.mem_cons] at h ⊢
  rcases h with h | h | h | h | h | h | h
  · exact .inr (.inr (.inr (.inl h)))
  · exact .inr (.inr (.inr (.inr (.inl h))))
  · exact .inr (.inr (.inr (.inr (.inr (.inl h)))))
  · exact .inl h
  · exact .inr (.inl h)
  · exact .inr (.inr (.inl h))
  · exact .inr (.inr (.inr (.inr (.inr (.inr h)))))
/-- three objects stand ahead of the reader's three -/
theorem lead3 {w : World} {f : Addr} {vs : List Value} {dd u : Nat} {P : Value → Led → Prop} {x dx kt : Addr} {k1 k2 k3 k4 kk : Tok} {tx : Str} {tt : Tok} {i : Int} {ti : Tok} {nl : Bool} {a b c : Addr × Obj} {rest : Led}
    (D : Doing w f vs dd u (lexLed w x dx kt k1 k2 k3 k4 kk tx tt i ti nl (a :: b :: c :: rest)) P) : Doing w f vs dd u (a :: b :: c :: lexLed w x dx kt k1 k2 k3 k4 kk tx tt i ti nl rest) P := by
  unfold Doing at D ⊢
  intro mean mg mb dp un gd cn cs ad ccd cl outer A₀ base h₀ L m s Q E B F X N T hk hd' hu hret
  exact D _ _ _ _ _ _ _ _ _ _ _ _ _ _ _ _ _ _ _ _ B F X (fun p hp => N p (perm3 hp)) T hk hd' hu hret
theorem back3 {w : World} {x dx kt : Addr} {k1 k2 k3 k4 kk : Tok} {tx : Str} {tt : Tok} {i : Int} {ti : Tok} {nl : Bool} {h₀ h : Heap} {L : Addr} {t d a b c : Addr × Obj} {rest : Led}
    (N : News h₀ L h (lexLed w x dx kt k1 k2 k3 k4 kk tx tt i ti nl (t :: d :: a :: b :: c :: rest))) :
    News h₀ L h (a :: b :: c :: (x, instObj 304 dx) :: (dx, lexD w k1 k2 k3 k4 tx tt i ti nl kt) :: (kt, keysObj kk) :: t :: d :: rest) := fun p hp => N p (by
  simp only [List.mem_cons] at hp ⊢
  rcases hp with h | h | h | h | h | h | h | h | h
  · exact .inr (.inr (.inr (.inr (.inr (.inl h)))))
  · exact .inr (.inr (.inr (.inr (.inr (.inr (.inl h))))))
  · exact .inr (.inr (.inr (.inr (.inr (.inr (.inr (.inl h)))))))
  · exact .inl h
  · exact .inr (.inl h)
  · exact .inr (.inr (.inl h))
  · exact .inr (.inr (.inr (.inl h)))
  · exact .inr (.inr (.inr (.inr (.inl h))))
  · exact .inr (.inr (.inr (.inr (.inr (.inr (.inr (.inr h)))))))
  )
end M24
section M26
/-- one element of the row of tokens: the reader's method is called -/
def EltStep (w : World) (x dx kt : Addr) (k1 k2 k3 k4 : Tok) (tx : Str) (tt : Tok) (h₀ : Heap) (L : Addr) (A : Around) (env : Env) (elt : PySem.Expr) (scope : Scope) (cl : List (Str × Addr)) (o' : Obj) : Prop :=
  ∀ (C : Addr) (oC : Obj) (m m₂ : Str → Option Value) (s : Shared) (Q E : Value → Shared → Prop) (i : Int) (ti : Tok) (nl : Bool) (all : Led) (P : Value → Led → Prop),
    Doing w 210 [.ref x] 30 500 all P → Fr h₀ L s.heap m → LCg.NsObj oC m₂ → Stk (News h₀ L s.heap all) → News h₀ L s.heap [(C, oC), (L + 1, o'), (x, instObj 304 dx), (dx, lexD w k1 k2 k3 k4 tx tt i ti nl kt)] →
    (∀ r n' h' tk', Fr h₀ L h' m → News h₀ L h' n' → P r n' → Q r { s with heap := h', toks := tk' }) →
    wpAny (model PySem.Challenge.rw_pq1323_01.row.prog w) A (eval elt (compEnvC scope cl C env)) Q E s
def TokP (w : World) (x dx kt : Addr) (k1 k2 k3 k4 kk : Tok) (tx : Str) (tt : Tok) (S : Value → Value → Int → Prop) (led : Led) (r : Value) (n' : Led) : Prop :=
  ∃ T dT j1 j2 j3 j4 kv vv av nl' e te, r = .ref T ∧ n' = lexLed w x dx kt k1 k2 k3 k4 kk tx tt e te nl' ((T, instObj 114 dT) :: (dT, tokD w j1 j2 j3 j4 kv vv av nl') :: led) ∧ (x < dT ∧ dx < dT ∧ kt < dT ∧ AllLt dT led) ∧ dT < T ∧ S kv vv e
/-- one turn of the row of tokens -/
theorem turn {w : World} {h₀ : Heap} {L : Addr} {x dx kt : Addr} {k1 k2 k3 k4 kk : Tok} {tx : Str} {tt : Tok} {A : Around} {env : Env} {elt : PySem.Expr} {scope : Scope} {cl : List (Str × Addr)} {xn : Str} {o' : Obj} {m : Str → Option Value} {s₂ : Shared} {i : Int} {ti : Tok} {nl : Bool} {rest : Led} {S : Value → Value → Int → Prop} {k j : Nat} {ys : List Value} {Pv : Nat → Value → Prop} {Fin : List Value → Led → Prop}
   (hel : EltStep w x dx kt k1 k2 k3 k4 tx tt h₀ L A env elt scope cl o') (hm : (L + 1, o') ∈ rest)
   (hD : ∀ a b c : Addr × Obj, a.1 ≠ dx → b.1 ≠ dx → c.1 ≠ dx → Doing w 210 [.ref x] 30 500 (lexLed w x dx kt k1 k2 k3 k4 kk tx tt i ti nl (a :: b :: c :: rest)) (TokP w x dx kt k1 k2 k3 k4 kk tx tt S (a :: b :: c :: rest)))
   (next : ∀ T dT j1 j2 j3 j4 kv vv av nl' e te, S kv vv e → @LT.lt Nat _ x dT → @LT.lt Nat _ dx dT → @LT.lt Nat _ kt dT → AllLt dT rest → @LT.lt Nat _ dT T →
     LCg.CompRest PySem.Challenge.rw_pq1323_01.row.prog w A h₀ L m env elt xn scope cl s₂ (fun _ => True) Pv Fin k (j + 1) (ys ++ [.ref T]) (lexLed w x dx kt k1 k2 k3 k4 kk tx tt e te nl' ((T, instObj 114 dT) :: (dT, tokD w j1 j2 j3 j4 kv vv av nl') :: rest))) :
   LCg.CompRest PySem.Challenge.rw_pq1323_01.row.prog w A h₀ L m env elt xn scope cl s₂ (fun _ => True) Pv Fin (k + 1) j ys (lexLed w x dx kt k1 k2 k3 k4 kk tx tt i ti nl rest) := by
  refine LCg.CompRest.succ ?_
  intro v I oI C oC D m₂ h tk E' hv hC hx F N off ne
  have o1 : (@Ne Nat x I ∧ @Ne Nat x C ∧ @Ne Nat x D) ∧ (@Ne Nat dx I ∧ @Ne Nat dx C ∧ @Ne Nat dx D) ∧ (@Ne Nat kt I ∧ @Ne Nat kt C ∧ @Ne Nat kt D) ∧ LCg.Off3 I C D rest := off
  refine hel C oC m m₂ _ _ _ i ti nl _ _ (lead3 (hD (I, oI) (C, oC) (D, LCg.lst ys) (Ne.symm o1.2.1.1) (Ne.symm o1.2.1.2.1) (Ne.symm o1.2.1.2.2))) F hC N (fun p hp => N p ?_) ?_
  · simp only [List.mem_cons, List.not_mem_nil, or_false] at hp ⊢
    rcases hp with rfl | rfl | rfl | rfl
    · exact .inr (.inl rfl)
    · exact .inr (.inr (.inr (.inr (.inr (.inr hm)))))
    · exact .inr (.inr (.inr (.inl rfl)))
    · exact .inr (.inr (.inr (.inr (.inl rfl))))
  · intro r n' h' tk' F' N' p
    obtain ⟨T1, dT, j1, j2, j3, j4, kv, vv, av, nl', e, te, e1, e2, ⟨u1, u2, u3, u4⟩, o2, hS⟩ := p
    subst e1
    subst e2
    have z : @LT.lt Nat _ I dT ∧ @LT.lt Nat _ C dT ∧ @LT.lt Nat _ D dT ∧ AllLt dT rest := u4
    have o3 : @LT.lt Nat _ dT T1 := o2
    refine LCg.CompEnd.intro F' (back3 N') _ (fun p hp => hp) ⟨o1.1, o1.2.1, o1.2.2.1, ⟨?_, ?_, ?_⟩, ⟨?_, ?_, ?_⟩, o1.2.2.2⟩ trivial (next T1 dT j1 j2 j3 j4 kv vv av nl' e te hS u1 u2 u3 z.2.2.2 o3)
    · exact Nat.ne_of_gt (Nat.lt_trans z.1 o3)
    · exact Nat.ne_of_gt (Nat.lt_trans z.2.1 o3)
    · exact Nat.ne_of_gt (Nat.lt_trans z.2.2.1 o3)
    · exact Nat.ne_of_gt z.1
    · exact Nat.ne_of_gt z.2.1
    · exact Nat.ne_of_gt z.2.2.1
theorem Doing.mono {w : World} {f : Addr} {vs : List Value} {d u : Nat} {news : Led} {P P' : Value → Led → Prop} (D : Doing w f vs d u news P) (h : ∀ r n, P r n → P' r n) : Doing w f vs d u news P' := by
  unfold Doing at D ⊢
  intro mean mg mb dp un gd cn cs a ccd cl outer A₀ base h₀ L m s Q E B F X N T hk hd' hu hret
  exact D _ _ _ _ _ _ _ _ _ _ _ _ _ _ _ _ _ _ _ _ B F X N T hk hd' hu fun r n' h' tk' F' N' p => hret r n' h' tk' F' N' (h r n' p)
theorem three {dx : Addr} {rest : Led} (hr : ∀ p ∈ rest, p.1 ≠ dx) {a b c : Addr × Obj} (ha : a.1 ≠ dx) (hb : b.1 ≠ dx) (hc : c.1 ≠ dx) : ∀ p ∈ a :: b :: c :: rest, p.1 ≠ dx :=
  List.forall_mem_cons.mpr ⟨ha, List.forall_mem_cons.mpr ⟨hb, List.forall_mem_cons.mpr ⟨hc, hr⟩⟩⟩
theorem two {dx T d : Addr} {rest : Led} {o1 o2 : Obj} (hr : ∀ p ∈ rest, p.1 ≠ dx) (h1 : @LT.lt Nat _ dx d) (h2 : @LT.lt Nat _ d T) : ∀ p ∈ (T, o1) :: (d, o2) :: rest, p.1 ≠ dx :=
  List.forall_mem_cons.mpr ⟨Nat.ne_of_gt (Nat.lt_trans h1 h2), List.forall_mem_cons.mpr ⟨Nat.ne_of_gt h1, hr⟩⟩
def IdAt (tx : Str) (v r : List Nat) (kv vv : Value) (e : Int) : Prop := ∃ tk tv, kv = .str (Str.ofString "id") tk ∧ vv = .str ⟨v.toArray⟩ tv ∧ sfx tx e = r ∧ 0 ≤ e ∧ e ≤ tx.length
def CommaAt (tx : Str) (r : List Nat) (kv vv : Value) (e : Int) : Prop := ∃ tk tv, kv = .str (Str.ofString "op") tk ∧ vv = .str (Str.ofString ",") tv ∧ sfx tx e = r ∧ 0 ≤ e ∧ e ≤ tx.length
def EofAt (kv vv : Value) (e : Int) : Prop := ∃ tk, kv = .str (Str.ofString "eof") tk
theorem nt_idP {w : World} {x dx kt : Addr} {k1 k2 k3 k4 kk : Tok} {tx : Str} {tt : Tok} {i : Int} {ti : Tok} {nl : Bool} {rest : Led} {s v r : List Nat} (hG : Good tx) (hi : 0 ≤ i) (hi2 : i ≤ tx.length) (hs : sfx tx i = s) (hid : idTok (s.drop (run isWs s)) = some (v, r)) (hnum : ¬ (pDigit (s.drop (run isWs s)).head? = true ∨ ((s.drop (run isWs s)).head? = some 46 ∧ pDigit (s.drop (run isWs s)).tail.head? = true))) (hrest : ∀ p ∈ rest, p.1 ≠ dx) (hxd : x ≠ dx) (hkd : kt ≠ dx) :
   Doing w 210 [.ref x] 30 500 (lexLed w x dx kt k1 k2 k3 k4 kk tx tt i ti nl rest) (TokP w x dx kt k1 k2 k3 k4 kk tx tt (IdAt tx v r) rest) :=
  (nt_id w x dx kt k1 k2 k3 k4 kk tx tt i ti nl rest s v r hG hi hi2 hs hid hnum hrest hxd hkd).mono fun r' n' p => by
    obtain ⟨T1, dT, j1, j2, j3, j4, tk, tv, av, nl', e, te, e1, e2, u, o, q⟩ := p
    exact ⟨T1, dT, j1, j2, j3, j4, _, _, av, nl', e, te, e1, e2, u, o, tk, tv, rfl, rfl, q⟩
theorem nt_commaP {w : World} {x dx kt : Addr} {k1 k2 k3 k4 kk : Tok} {tx : Str} {tt : Tok} {i : Int} {ti : Tok} {nl : Bool} {rest : Led} {t : List Nat} (hG : Good tx) (hi : 0 ≤ i) (hi2 : i ≤ tx.length) (hs : sfx tx i = 44 :: t) (hrest : ∀ p ∈ rest, p.1 ≠ dx) (hxd : x ≠ dx) (hkd : kt ≠ dx) :
   Doing w 210 [.ref x] 30 500 (lexLed w x dx kt k1 k2 k3 k4 kk tx tt i ti nl rest) (TokP w x dx kt k1 k2 k3 k4 kk tx tt (CommaAt tx t) rest) :=
  (nt_comma w x dx kt k1 k2 k3 k4 kk tx tt i ti nl rest t hG hi hi2 hs hrest hxd hkd).mono fun r' n' p => by
    obtain ⟨T1, dT, j1, j2, j3, j4, tk, tv, av, nl', e, te, e1, e2, u, o, q⟩ := p
    exact ⟨T1, dT, j1, j2, j3, j4, _, _, av, nl', e, te, e1, e2, u, o, tk, tv, rfl, rfl, q⟩
theorem nt_eofP {w : World} {x dx kt : Addr} {k1 k2 k3 k4 kk : Tok} {tx : Str} {tt : Tok} {i : Int} {ti : Tok} {nl : Bool} {rest : Led} (hG : Good tx) (hi : 0 ≤ i) (hi2 : i ≤ tx.length) (hs : sfx tx i = []) (hrest : ∀ p ∈ rest, p.1 ≠ dx) (hxd : x ≠ dx) (hkd : kt ≠ dx) :
   Doing w 210 [.ref x] 30 500 (lexLed w x dx kt k1 k2 k3 k4 kk tx tt i ti nl rest) (TokP w x dx kt k1 k2 k3 k4 kk tx tt EofAt rest) :=
  (nt_eof w x dx kt k1 k2 k3 k4 kk tx tt i ti nl rest hG hi hi2 hs hrest hxd hkd).mono fun r' n' p => by
    obtain ⟨T1, dT, j1, j2, j3, j4, tk, vv, av, nl', e, te, e1, e2, u, o⟩ := p
    exact ⟨T1, dT, j1, j2, j3, j4, _, _, av, nl', e, te, e1, e2, u, o, tk, rfl⟩
theorem told4 {w : World} {h₀ : Heap} {L : Addr} {x dx kt : Addr} {k1 k2 k3 k4 kk : Tok} {tx : Str} {tt : Tok} {A : Around} {env : Env} {elt : PySem.Expr} {scope : Scope} {cl : List (Str × Addr)} {xn : Str} {o' : Obj} {m : Str → Option Value} {s₂ : Shared} {ti : Tok} {nl : Bool} {rest : Led} {Pv : Nat → Value → Prop} {Fin : List Value → Led → Prop} {la lb : List Nat} (ha : IsName la) (hb : IsName lb)
   (hel : EltStep w x dx kt k1 k2 k3 k4 tx tt h₀ L A env elt scope cl o') (hm : (L + 1, o') ∈ rest)
   (htx : tx = ⟨(shown la ++ 44 :: 32 :: shown lb).toArray⟩) (hr : ∀ p ∈ rest, p.1 ≠ dx) (hxd : x ≠ dx) (hkd : kt ≠ dx)
   (fin : ∀ e te nl' T4 d4 p1 p2 p3 p4 t4 vv4 av4 nl4 T3 d3 q1 q2 q3 q4 t3 u3 av3 nl3 T2 d2 r1 r2 r3 r4 t2 u2 av2 nl2 T1 d1 j1 j2 j3 j4 t1 u1 av1 nl1,
     Fin [.ref T1, .ref T2, .ref T3, .ref T4] (lexLed w x dx kt k1 k2 k3 k4 kk tx tt e te nl'
       ((T4, instObj 114 d4) :: (d4, tokD w p1 p2 p3 p4 (.str (Str.ofString "eof") t4) vv4 av4 nl4) ::
        (T3, instObj 114 d3) :: (d3, tokD w q1 q2 q3 q4 (.str (Str.ofString "id") t3) (.str ⟨lb.toArray⟩ u3) av3 nl3) ::
        (T2, instObj 114 d2) :: (d2, tokD w r1 r2 r3 r4 (.str (Str.ofString "op") t2) (.str (Str.ofString ",") u2) av2 nl2) ::
        (T1, instObj 114 d1) :: (d1, tokD w j1 j2 j3 j4 (.str (Str.ofString "id") t1) (.str ⟨la.toArray⟩ u1) av1 nl1) :: rest))) :
   LCg.CompRest PySem.Challenge.rw_pq1323_01.row.prog w A h₀ L m env elt xn scope cl s₂ (fun _ => True) Pv Fin 4 0 [] (lexLed w x dx kt k1 k2 k3 k4 kk tx tt 0 ti nl rest) := by
  have hG : Good tx := htx ▸ both_good ha hb
  have hs : sfx tx 0 = shown la ++ 44 :: 32 :: shown lb := by rw [htx]; rfl
  have hft := both_first (a := la) (b := lb) ha
  refine turn (k := 3) (j := 0) (ys := []) hel hm (fun a b c h1 h2 h3 => nt_idP hG (Int.le_refl 0) (Int.natCast_nonneg _) hs hft.2.1 hft.2.2 (three hr h1 h2 h3) hxd hkd) ?_
  intro T1 d1 j1 j2 j3 j4 kv1 vv1 av1 nl1 e1 te1 s1 _ l1 _ _ o1
  obtain ⟨t1, u1, g1, g1', a1, b1, c1⟩ := s1
  subst g1
  subst g1'
  have hr1 := two (o1 := instObj 114 d1) (o2 := tokD w j1 j2 j3 j4 (.str (Str.ofString "id") t1) (.str ⟨la.toArray⟩ u1) av1 nl1) hr l1 o1
  refine turn (k := 2) (j := 1) (ys := [.ref T1]) hel (.tail _ (.tail _ hm)) (fun a b c h1 h2 h3 => nt_commaP hG b1 c1 a1 (three hr1 h1 h2 h3) hxd hkd) ?_
  intro T2 d2 r1 r2 r3 r4 kv2 vv2 av2 nl2 e2 te2 s2 _ l2 _ _ o2
  obtain ⟨t2, u2, g2, g2', a2, b2, c2⟩ := s2
  subst g2
  subst g2'
  have hr2 := two (o1 := instObj 114 d2) (o2 := tokD w r1 r2 r3 r4 (.str (Str.ofString "op") t2) (.str (Str.ofString ",") u2) av2 nl2) hr1 l2 o2
  refine turn (k := 1) (j := 2) (ys := [.ref T1, .ref T2]) hel (.tail _ (.tail _ (.tail _ (.tail _ hm)))) (fun a b c h1 h2 h3 => nt_idP hG b2 c2 a2 (both_third hb).1 (both_third hb).2 (three hr2 h1 h2 h3) hxd hkd) ?_
  intro T3 d3 q1 q2 q3 q4 kv3 vv3 av3 nl3 e3 te3 s3 _ l3 _ _ o3
  obtain ⟨t3, u3, g3, g3', a3, b3, c3⟩ := s3
  subst g3
  subst g3'
  have hr3 := two (o1 := instObj 114 d3) (o2 := tokD w q1 q2 q3 q4 (.str (Str.ofString "id") t3) (.str ⟨lb.toArray⟩ u3) av3 nl3) hr2 l3 o3
  refine turn (k := 0) (j := 3) (ys := [.ref T1, .ref T2, .ref T3]) hel (.tail _ (.tail _ (.tail _ (.tail _ (.tail _ (.tail _ hm)))))) (fun a b c h1 h2 h3 => nt_eofP hG b3 c3 a3 (three hr3 h1 h2 h3) hxd hkd) ?_
  intro T4 d4 p1 p2 p3 p4 kv4 vv4 av4 nl4 e4 te4 s4 _ _ _ _ _
  obtain ⟨t4, g4⟩ := s4
  subst g4
  exact LCg.CompRest.zero (fin e4 te4 _ T4 d4 p1 p2 p3 p4 t4 vv4 av4 nl4 T3 d3 q1 q2 q3 q4 t3 u3 av3 _ T2 d2 r1 r2 r3 r4 t2 u2 av2 _ T1 d1 j1 j2 j3 j4 t1 u1 av1 _)
end M26
local macro_rules | `(tactic| walk_at "v5") => `(tactic| (first | (k_unfold; (try dsimp only)) | walk1 | (dsimp only; walk1) | (leave1; try dsimp only)))
local macro_rules | `(tactic| walk_at "v6") => `(tactic| repeat' ((fail_if_success (with_reducible refine Stk.out ?_)); walk_at "st"))
section M25

local macro_rules | `(tactic| walk_at "call ref") => `(tactic| with_reducible refine halt 210 ?_)

local macro_rules | `(tactic| walk_at "st") => `(tactic| walk_at "v5")
local macro_rules | `(tactic| walk_at "sx") => `(tactic| walk_at "v6")
/-- the law's own body and scope, as the row has them; the element and the scope of its row of tokens -/
noncomputable def lawBody : List Stmt := match (PySem.Challenge.rw_pq1323_01.row.prog.main.body[27]? : Option Stmt) with
  | some (Stmt.FunctionDef _ _ b _ _ _ _ _ _ _) => b
  | _ => []
noncomputable def lawScope : Scope := match (PySem.Challenge.rw_pq1323_01.row.prog.main.body[27]? : Option Stmt) with
  | some (Stmt.FunctionDef _ _ _ _ _ _ SC _ _ _) => SC
  | _ => PySem.Challenge.rw_pq1323_01.row.prog.main.scope
noncomputable def tokElt : PySem.Expr := match lawBody.drop 4 with
  | Stmt.Assign _ (PySem.Expr.ListComp e _ _ _) _ :: _ => e
  | _ => .Constant .none 0 ⟨0, 0, 0, 0⟩
noncomputable def tokScope : Scope := match lawBody.drop 4 with
  | Stmt.Assign _ (PySem.Expr.ListComp _ _ q _) _ :: _ => q
  | _ => PySem.Challenge.rw_pq1323_01.row.prog.main.scope
theorem elt_step {w : World} {mean : ExcName → Option Value} {mg mb : Str → Option Value} {h₀ : Heap} {L fa : Addr} {ccd : Value} {x dx kt : Addr} {k1 k2 k3 k4 : Tok} {tx : Str} {tt : Tok} {o' : Obj} {sc scope : Scope} {elt : PySem.Expr} (hsc : sc = lawScope) (hscope : scope = tokScope) (helt : elt = tokElt)
   (B : Below callerA h₀ [] h₀) (X : (hd.heap_1 w.params).In h₀) (T : Top vw (looseW vw [Str.ofString "number"]) mean mg mb h₀) (hd' : o'.data = Data.cell (some (.ref x))) :
   EltStep w x dx kt k1 k2 k3 k4 tx tt h₀ L (callerA.deeper (envOfC (Str.ofString "law") sc L fa ccd)) (envOfC (Str.ofString "law") sc L fa ccd) elt scope [(Str.ofString "lexer", L + 1)] o' := by
  conv at hsc => rhs; whnf
  conv at hscope => rhs; whnf
  conv at helt => rhs; whnf
  subst hsc
  subst hscope
  subst helt
  intro C oC m m₂ s Q E i ti nl all P D F hC NA N ret
  k_steps
  refine Stk.out ?_
  refine' Doing.use D ?k1 ?k2 ?k3 ?k4 ?k5 ?k6 ?k7 ?k8 ?_
  case k1 => k_asm
  case k2 => k_asm
  case k3 => k_asm
  case k4 => exact NA
  case k5 => k_asm
  case k6 => first | exact rfl | assumption
  case k7 => ktr_room
  case k8 => ktr_units
  exact fun r n' h' tk' F' N' p => ret r n' h' tk' F' N' p
end M25
section M27

local macro_rules | `(tactic| walk_at "CompSrc") => `(tactic| (k_here; k_dflt (refine LCg.CompSrc.range (by rfl) (by k_asm) (by k_asm) (by assumption) (by first | decide | rfl) (by first | rfl | decide) (by first | size_fits | exact Nat.le_of_ble_eq_true rfl) ?_); intro g'; lcg_lit; refine stk ?_))
local macro_rules | `(tactic| walk_at "CompEnd") => `(tactic| (with_unfolding_all refine LCg.CompEnd.intro (by assumption) (by assumption) _ (fun _ hp => hp) (by assumption) (by lcg_src) ?_))
local macro_rules | `(tactic| walk_at "CompRest") => `(tactic| (with_unfolding_all first
  | (refine LCg.CompRest.succ ?_; intro v' I' oI' C' oC' D' m' h' tk' E' hv' hC' hx' F' N' off' ne'; (first | lcg_open hv' | (obtain ⟨t9', hv9'⟩ := hv'; subst hv9')))
  | refine LCg.CompRest.zero ?_))
local macro_rules | `(tactic| walk_at "st") => `(tactic| walk_at "v5")
local macro_rules | `(tactic| walk_at "sx") => `(tactic| walk_at "v6")
theorem law_tail {w : World} {mean : ExcName → Option Value} {mg mb : Str → Option Value} {h₀ : Heap} {L fa : Addr} {ccd : Value} {x dx kt : Addr} {k1 k2 k3 k4 kk : Tok} {tx : Str} {tt : Tok} {m : Str → Option Value} {s : Shared} {Q : Flow → Shared → Prop} {E : Value → Shared → Prop} {ti : Tok} {D l' a3 a4 : Addr} {o2 o3 o4 o' : Obj} {la lb : List Nat} {ta tb : Tok} (ha : IsName la) (hb : IsName lb) {code : List Stmt} {sc : Scope} (hcode : code = lawBody.drop 4) (hsc : sc = lawScope)
   (B : Below callerA h₀ [] h₀) (F : Fr h₀ L s.heap (fun z => if z = Str.ofString "names" then some (.ref D) else m z)) (X : (hd.heap_1 w.params).In h₀) (T : Top vw (looseW vw [Str.ofString "number"]) mean mg mb h₀)
   (hd' : o'.data = Data.cell (some (.ref x)))
   (htx : tx = ⟨(shown la ++ 44 :: 32 :: shown lb).toArray⟩)
   (N : News h₀ L s.heap [(x, instObj 304 dx), (dx, lexD w k1 k2 k3 k4 tx tt 0 ti false kt), (kt, keysObj kk), (D, LCg.lst [.str ⟨la.toArray⟩ ta, .str ⟨lb.toArray⟩ tb]), (l', o2), (a3, o3), (a4, o4), (L + 1, o')])
   (hxd : x ≠ dx) (hkd : kt ≠ dx) (w1 : @LT.lt Nat _ D dx) (w2 : @LT.lt Nat _ l' dx) (w3 : @LT.lt Nat _ a3 dx) (w4 : @LT.lt Nat _ a4 dx) (w5 : @LT.lt Nat _ (L + 1) dx)
   (ret : ∀ m' h' tk', Fr h₀ L h' m' → Q (.ret (.bool true)) { s with heap := h', toks := tk' }) :
   wpAny (model PySem.Challenge.rw_pq1323_01.row.prog w) (callerA.deeper (envOfC (Str.ofString "law") sc L fa ccd)) (execs code (envOfC (Str.ofString "law") sc L fa ccd)) Q E s := by
  conv at hcode => rhs; whnf
  conv at hsc => rhs; whnf
  subst hcode
  subst hsc
  k_steps
  refine Stk.out ?_
  refine' told4 ha hb ?hel ?hm htx ?hr hxd hkd ?_
  case hel => exact elt_step rfl rfl rfl B X T hd'
  case hm => exact .tail _ (.tail _ (.tail _ (.tail _ (.head _))))
  case hr => exact List.forall_mem_cons.mpr ⟨Nat.ne_of_lt w1, List.forall_mem_cons.mpr ⟨Nat.ne_of_lt w2, List.forall_mem_cons.mpr ⟨Nat.ne_of_lt w3, List.forall_mem_cons.mpr ⟨Nat.ne_of_lt w4, List.forall_mem_cons.mpr ⟨Nat.ne_of_lt w5, List.forall_mem_nil _⟩⟩⟩⟩⟩
  intro e te nl' T4 d4 p1 p2 p3 p4 t4 vv4 av4 nl4 T3 d3 q1 q2 q3 q4 t3 u3 av3 nl3 T2 d2 r1 r2 r3 r4 t2 u2 av2 nl2 T1 d1 j1 j2 j3 j4 t1 u1 av1 nl1
  have hbeA : ((⟨la.toArray⟩ : Str) == ⟨la.toArray⟩) = true := beq_self_eq_true _
  have hbeB : ((⟨lb.toArray⟩ : Str) == ⟨lb.toArray⟩) = true := beq_self_eq_true _
  k_steps
  rw [hbeB]
  exact ret _ _ _ (by assumption)
end M27
local macro_rules | `(tactic| k_qdec) => `(tactic| decide +kernel)
section M20

local macro_rules | `(tactic| walk_at "call ref") => `(tactic| with_reducible refine halt 336 ?_)

local macro_rules | `(tactic| walk_at "call ref") => `(tactic| with_reducible refine halt 304 ?_)

local macro_rules | `(tactic| walk_at "call ref") => `(tactic| with_reducible refine halt 210 ?_)

local macro_rules | `(tactic| walk_at "call ref") => `(tactic| with_reducible refine halt 322 ?_)

local macro_rules | `(tactic| walk_at "call ref") => `(tactic| with_reducible refine halt 329 ?_)

theorem frNames {h₀ h : Heap} {L : Addr} {m : Str → Option Value} {D : Addr} (F : Fr h₀ L h m) (e : m (Str.ofString "names") = some (.ref D)) : Fr h₀ L h (fun z => if z = Str.ofString "names" then some (.ref D) else m z) := by
  have q : (fun z => if z = Str.ofString "names" then some (.ref D) else m z) = m := by
    funext z
    by_cases hz : z = Str.ofString "names"
    · rw [if_pos hz, hz, e]
    · rw [if_neg hz]
  rw [q]
  exact F
structure BodyMark : Prop where
  one : True
def BodyPost (h₀ : Heap) (L : Addr) (s : Shared) (stored : List Str) (m : Str → Option Value) (news : Led) (f : Flow) (s' : Shared) : Prop :=
  ∃ (u : Str → Option Value) (h' : Heap) (tk' : Nat), f = .next ∧ s' = { s with heap := h', toks := tk' } ∧ Fr h₀ L h' (fun z => if stored.contains z = true then u z else m z) ∧ News h₀ L h' news
theorem bodySplit {M : Model} {A : Around} {x : Sem Flow} {Q : Flow → Shared → Prop} {E : Value → Shared → Prop} {s : Shared} {h₀ : Heap} {L : Addr} {m : Str → Option Value} {news : Led} (_F : Fr h₀ L s.heap m) (_N : News h₀ L s.heap news) (stored : List Str)
    (h : wpAny M A x (fun f s' => Stk (BodyPost h₀ L s stored m news f s')) E s) (k : ∀ (u : Str → Option Value) (h' : Heap) (tk' : Nat), Fr h₀ L h' (fun z => if stored.contains z = true then u z else m z) → News h₀ L h' news → Q .next { s with heap := h', toks := tk' }) : wpAny M A x Q E s :=
  wpAny_mono h (fun f s' p => by
    obtain ⟨u, h', tk', rfl, rfl, F', N'⟩ := p
    exact k u h' tk' F' N') fun _ _ e => e
theorem BodyPost.intro {s s' : Shared} {f : Flow} {h₀ h' : Heap} {L : Addr} {stored : List Str} {m m₁ : Str → Option Value} {news : Led} {tk' : Nat} (hf : f = .next) (hs : s' = { s with heap := h', toks := tk' }) (F : Fr h₀ L h' m₁) (N : News h₀ L h' news) (hm : ∀ z, stored.contains z = false → m₁ z = m z) : BodyPost h₀ L s stored m news f s' := by
  refine ⟨m₁, h', tk', hf, hs, ?_, N⟩
  have e : (fun z => if stored.contains z = true then m₁ z else m z) = m₁ := by
    funext z
    cases h : stored.contains z with
    | true => rw [if_pos rfl]
    | false => rw [if_neg Bool.false_ne_true]; exact (hm z h).symm
  rw [e]
  exact F
local macro_rules | `(tactic| walk_at "execs cons") => `(tactic| ((with_reducible show wpAny _ _ (execs (Stmt.Assign [Expr.Name (Str.ofString "shown_so") _] _ _ :: _) _) _ _ _); (fail_if_success (have q9 : BodyMark := (by assumption))); refine stk ?_))
local macro_rules | `(tactic| walk_at "execs cons") => `(tactic| ((with_reducible show wpAny _ _ (execs (Stmt.Assign [Expr.Name (Str.ofString "told") _] _ _ :: _) _) _ _ _); (fail_if_success (have q9 : BodyMark := (by assumption))); refine stk ?_))
local macro_rules | `(tactic| walk_at "st") => `(tactic| walk_at "v5")
local macro_rules | `(tactic| walk_at "sx") => `(tactic| walk_at "v6")
set_option pp.maxSteps 6000 in
set_option maxHeartbeats 8000000 in
theorem law_test : PySem.Challenge.rw_pq1323_01.Holds := hd (by
  k_go0
  (all_goals try k_fold)
  k_steps
  rename IntsAre _ (List.take 9 _) => hI1
  rename IntsAre _ (List.take (min 18 _ - 9) _) => hI2
  have hl3 : ∀ (a b : List Int) (k j : Nat), a = List.take (min 18 k - 9) (List.drop 9 b) → a.length ≤ 9 := by intro a b k j h; rw [h]; simp only [List.length_take, List.length_drop]; omega
  have hl4 : ∀ (a b : List Int), a = List.take 9 b → a.length ≤ 9 := by intro a b h; rw [h]; simp only [List.length_take]; omega
  refine Stk.out ?_
  refine' Doing.use (law_name_m _ _ _ _ 0 _ hI1 ?hlA ?sd2) ?k1 ?k2 ?k3 ?k4 ?k5 ?k6 ?k7 ?k8 ?_
  case k1 => k_asm
  case k2 => k_asm
  case k3 => k_asm
  case k4 => first | k_asm | exact newsTl (by k_asm) | exact newsTl (newsTl (by k_asm)) | exact newsTl (newsTl (newsTl (by k_asm))) | exact newsTl (newsTl (newsTl (newsTl (by k_asm)))) | exact cb_drop (by k_asm) (by kcj_all)
  case k5 => k_asm
  case k6 => first | exact rfl | assumption
  case k7 => ktr_room
  case k8 => ktr_units
  case hlA => exact hl4 _ _ rfl
  case sd2 => exact .tail _ (.tail _ (.tail _ (.tail _ (.tail _ (.head _)))))
  intro r9 n9 h9 tk9 F9 N9 p9
  obtain ⟨la, ta, e9, ha, e9'⟩ := p9
  subst e9
  subst e9'
  k_steps
  refine Stk.out ?_
  refine' Doing.use (law_name_m _ _ _ _ 0 _ hI2 ?hlA ?sd2) ?k1 ?k2 ?k3 ?k4 ?k5 ?k6 ?k7 ?k8 ?_
  case k1 => k_asm
  case k2 => k_asm
  case k3 => k_asm
  case k4 => first | k_asm | exact newsTl (by k_asm) | exact newsTl (newsTl (by k_asm)) | exact newsTl (newsTl (newsTl (by k_asm))) | exact newsTl (newsTl (newsTl (newsTl (by k_asm)))) | exact cb_drop (by k_asm) (by kcj_all)
  case k5 => k_asm
  case k6 => first | exact rfl | assumption
  case k7 => ktr_room
  case k8 => ktr_units
  case hlA => exact hl3 _ _ _ 0 rfl
  case sd2 => exact .tail _ (.tail _ (.tail _ (.tail _ (.head _))))
  intro r9 n9 h9 tk9 F9 N9 p9
  obtain ⟨lb, tb, e9, hb, e9'⟩ := p9
  subst e9
  subst e9'
  k_steps
  refine Stk.out ?_
  rename Fr _ _ _ _ => FB
  rename News _ _ _ _ => NB
  refine bodySplit FB NB [Str.ofString "shown_so", Str.ofString "kind", Str.ofString "value", Str.ofString "behind"] ?_ ?_
  · have bm : BodyMark := ⟨trivial⟩
    have hf := ha.facts
    have hl1000 : la.length ≤ 1000 := Nat.le_trans hf.2.1 (by decide)
    have hbe : ((⟨la.toArray⟩ : Str) == ⟨la.toArray⟩) = true := beq_self_eq_true _
    have hbn : ((⟨la.toArray⟩ : Str) != ⟨la.toArray⟩) = false := by rw [bne, hbe]; rfl
    have hz0 : ((Str.ofString "eof" == Str.ofString "eof") != ((⟨la.toArray⟩ : Str) == ⟨la.toArray⟩)) = false := by rw [hbe, beq_self_eq_true]; rfl
    cases hp : plainB la with
    | true =>
      have hsh := shown_plain hp
      k_steps
      refine Stk.out ?_
      refine' Doing.use (name_text_c _ la _ _ hl1000 hf.1 hf.2.2) ?k1 ?k2 ?k3 ?k4 ?k5 ?k6 ?k7 ?k8 ?_
      case k1 => k_asm
      case k2 => k_asm
      case k3 => k_asm
      case k4 => k_asm
      case k5 => k_asm
      case k6 => first | exact rfl | assumption
      case k7 => ktr_room
      case k8 => ktr_units
      intro r9 n9 h9 tk9 F9 N9 p9
      obtain ⟨tn, e9, e9'⟩ := p9
      subst e9
      subst e9'
      rw [hsh]
      k_steps
      refine Stk.out ?_
      refine' DoingT.use (law_read_plain _ la _ _ ha hp) ?k1 ?k2 ?k3 ?k4 ?k5 ?k6 ?k7 ?k8 ?_
      case k1 => k_asm
      case k2 => k_asm
      case k3 => k_asm
      case k4 => k_asm
      case k5 => k_asm
      case k6 => first | exact rfl | assumption
      case k7 => ktr_room
      case k8 => ktr_units
      intro r9 n9 h9 tk9 F9 N9 p9
      obtain ⟨Dr, t1, t2, t3, e9, e9'⟩ := p9
      subst e9
      subst e9'
      k_steps
      refine ne_dataH (by ke_read) (by ke_read) ha.shaped ha.shaped (by ke_room) ?_
      ke_norm
      k_steps
      refine Stk.out ?_
      refine' DoingT.use (law_read_plain _ la _ _ ha hp) ?k1 ?k2 ?k3 ?k4 ?k5 ?k6 ?k7 ?k8 ?_
      case k1 => k_asm
      case k2 => k_asm
      case k3 => k_asm
      case k4 => k_asm
      case k5 => k_asm
      case k6 => first | exact rfl | assumption
      case k7 => ktr_room
      case k8 => ktr_units
      intro r9 n9 h9 tk9 F9 N9 p9
      obtain ⟨Dr2, t12, t22, t32, e9, e9'⟩ := p9
      subst e9
      subst e9'
      k_steps
      refine Stk.out ?_
      refine' BodyPost.intro rfl rfl ?hF1 ?hN1 ?hm1
      case hF1 => assumption
      case hN1 => exact cb_drop (by assumption) (by kcj_all)
      intro z hz
      simp only [List.contains_cons, List.contains_nil, Bool.or_false, Bool.or_eq_false_iff, beq_eq_false_iff_ne, ne_eq] at hz
      obtain ⟨h1, h2, h3, h4⟩ := hz
      simp only [if_neg h1, if_neg h2, if_neg h3, if_neg h4]
    | false =>
      obtain ⟨q1, q2, q3, q4, q5⟩ := quote_facts hp
      have hz : (false != ((⟨(shown la).toArray⟩ : Str) == ⟨la.toArray⟩)) = false := by rw [q1]; rfl
      k_steps
      refine Stk.out ?_
      refine' Doing.use (name_text_c _ la _ _ hl1000 hf.1 hf.2.2) ?k1 ?k2 ?k3 ?k4 ?k5 ?k6 ?k7 ?k8 ?_
      case k1 => k_asm
      case k2 => k_asm
      case k3 => k_asm
      case k4 => k_asm
      case k5 => k_asm
      case k6 => first | exact rfl | assumption
      case k7 => ktr_room
      case k8 => ktr_units
      intro r9 n9 h9 tk9 F9 N9 p9
      obtain ⟨tn, e9, e9'⟩ := p9
      subst e9
      subst e9'
      k_steps
      refine Stk.out ?_
      refine' DoingT.use (law_read_yes _ la _ _ ha) ?k1 ?k2 ?k3 ?k4 ?k5 ?k6 ?k7 ?k8 ?_
      case k1 => k_asm
      case k2 => k_asm
      case k3 => k_asm
      case k4 => k_asm
      case k5 => k_asm
      case k6 => first | exact rfl | assumption
      case k7 => ktr_room
      case k8 => ktr_units
      intro r9 n9 h9 tk9 F9 N9 p9
      obtain ⟨Dr, t1, t2, t3, e9, e9'⟩ := p9
      subst e9
      subst e9'
      k_steps
      refine ne_dataH (by ke_read) (by ke_read) ha.shaped ha.shaped (by ke_room) ?_
      ke_norm
      k_steps
      refine Stk.out ?_
      refine' DoingT.use (law_read_no _ la _ _ ha hp) ?k1 ?k2 ?k3 ?k4 ?k5 ?k6 ?k7 ?k8 ?_
      case k1 => k_asm
      case k2 => k_asm
      case k3 => k_asm
      case k4 => k_asm
      case k5 => k_asm
      case k6 => first | exact rfl | assumption
      case k7 => ktr_room
      case k8 => ktr_units
      intro r9 n9 h9 tk9 F9 N9 p9
      obtain ⟨Dr2, kx, vx, kx2, e9, e9', px⟩ := p9
      subst e9
      subst e9'
      rcases px with ⟨g1, t12, g2⟩ | ⟨K, t12, K2, t22, g1, g2, g3⟩ | ⟨t12, V, t22, K2, t32, g1, g2, g3, g4⟩
      · subst g1
        subst g2
        k_steps
        refine Stk.out ?_
        refine' BodyPost.intro rfl rfl ?hF2 ?hN2 ?hm2
        case hF2 => assumption
        case hN2 => exact cb_drop (by assumption) (by kcj_all)
        intro z hz
        simp only [List.contains_cons, List.contains_nil, Bool.or_false, Bool.or_eq_false_iff, beq_eq_false_iff_ne, ne_eq] at hz
        obtain ⟨h1, h2, h3, h4⟩ := hz
        simp only [if_neg h1, if_neg h2, if_neg h3, if_neg h4]
      · have hz2 : ((K == Str.ofString "id") != ((⟨(shown la).toArray⟩ : Str) == ⟨la.toArray⟩)) = false := by rw [g2, q1]; rfl
        subst g1
        subst g3
        k_steps
        refine Stk.out ?_
        refine' BodyPost.intro rfl rfl ?hF3 ?hN3 ?hm3
        case hF3 => assumption
        case hN3 => exact cb_drop (by assumption) (by kcj_all)
        intro z hz
        simp only [List.contains_cons, List.contains_nil, Bool.or_false, Bool.or_eq_false_iff, beq_eq_false_iff_ne, ne_eq] at hz
        obtain ⟨h1, h2, h3, h4⟩ := hz
        simp only [if_neg h1, if_neg h2, if_neg h3, if_neg h4]
      · have hz3 : ((V == (⟨la.toArray⟩ : Str)) != ((⟨(shown la).toArray⟩ : Str) == ⟨la.toArray⟩)) = false := by rw [g3, q1]; rfl
        subst g1
        subst g2
        subst g4
        k_steps
        refine Stk.out ?_
        refine' BodyPost.intro rfl rfl ?hF4 ?hN4 ?hm4
        case hF4 => assumption
        case hN4 => exact cb_drop (by assumption) (by kcj_all)
        intro z hz
        simp only [List.contains_cons, List.contains_nil, Bool.or_false, Bool.or_eq_false_iff, beq_eq_false_iff_ne, ne_eq] at hz
        obtain ⟨h1, h2, h3, h4⟩ := hz
        simp only [if_neg h1, if_neg h2, if_neg h3, if_neg h4]
  · intro u1 h1 tk1 F1 N1
    clear FB NB
    k_steps
    refine Stk.out ?_
    rename Fr _ _ _ _ => FB
    rename News _ _ _ _ => NB
    refine bodySplit FB NB [Str.ofString "shown_so", Str.ofString "kind", Str.ofString "value", Str.ofString "behind"] ?_ ?_
    · have bm : BodyMark := ⟨trivial⟩
      have hf := hb.facts
      have hl1000 : lb.length ≤ 1000 := Nat.le_trans hf.2.1 (by decide)
      have hbe : ((⟨lb.toArray⟩ : Str) == ⟨lb.toArray⟩) = true := beq_self_eq_true _
      have hbn : ((⟨lb.toArray⟩ : Str) != ⟨lb.toArray⟩) = false := by rw [bne, hbe]; rfl
      have hz0 : ((Str.ofString "eof" == Str.ofString "eof") != ((⟨lb.toArray⟩ : Str) == ⟨lb.toArray⟩)) = false := by rw [hbe, beq_self_eq_true]; rfl
      cases hp : plainB lb with
      | true =>
        have hsh := shown_plain hp
        k_steps
        refine Stk.out ?_
        refine' Doing.use (name_text_c _ lb _ _ hl1000 hf.1 hf.2.2) ?k1 ?k2 ?k3 ?k4 ?k5 ?k6 ?k7 ?k8 ?_
        case k1 => k_asm
        case k2 => k_asm
        case k3 => k_asm
        case k4 => k_asm
        case k5 => k_asm
        case k6 => first | exact rfl | assumption
        case k7 => ktr_room
        case k8 => ktr_units
        intro r9 n9 h9 tk9 F9 N9 p9
        obtain ⟨tn, e9, e9'⟩ := p9
        subst e9
        subst e9'
        rw [hsh]
        k_steps
        refine Stk.out ?_
        refine' DoingT.use (law_read_plain _ lb _ _ hb hp) ?k1 ?k2 ?k3 ?k4 ?k5 ?k6 ?k7 ?k8 ?_
        case k1 => k_asm
        case k2 => k_asm
        case k3 => k_asm
        case k4 => k_asm
        case k5 => k_asm
        case k6 => first | exact rfl | assumption
        case k7 => ktr_room
        case k8 => ktr_units
        intro r9 n9 h9 tk9 F9 N9 p9
        obtain ⟨Dr, t1, t2, t3, e9, e9'⟩ := p9
        subst e9
        subst e9'
        k_steps
        refine ne_dataH (by ke_read) (by ke_read) hb.shaped hb.shaped (by ke_room) ?_
        ke_norm
        k_steps
        refine Stk.out ?_
        refine' DoingT.use (law_read_plain _ lb _ _ hb hp) ?k1 ?k2 ?k3 ?k4 ?k5 ?k6 ?k7 ?k8 ?_
        case k1 => k_asm
        case k2 => k_asm
        case k3 => k_asm
        case k4 => k_asm
        case k5 => k_asm
        case k6 => first | exact rfl | assumption
        case k7 => ktr_room
        case k8 => ktr_units
        intro r9 n9 h9 tk9 F9 N9 p9
        obtain ⟨Dr2, t12, t22, t32, e9, e9'⟩ := p9
        subst e9
        subst e9'
        k_steps
        refine Stk.out ?_
        refine' BodyPost.intro rfl rfl ?hFb1 ?hNb1 ?hmb1
        case hFb1 => assumption
        case hNb1 => exact cb_drop (by assumption) (by kcj_all)
        intro z hz
        simp only [List.contains_cons, List.contains_nil, Bool.or_false, Bool.or_eq_false_iff, beq_eq_false_iff_ne, ne_eq] at hz
        obtain ⟨h1, h2, h3, h4⟩ := hz
        simp only [if_neg h1, if_neg h2, if_neg h3, if_neg h4]
      | false =>
        obtain ⟨q1, q2, q3, q4, q5⟩ := quote_facts hp
        have hz : (false != ((⟨(shown lb).toArray⟩ : Str) == ⟨lb.toArray⟩)) = false := by rw [q1]; rfl
        k_steps
        refine Stk.out ?_
        refine' Doing.use (name_text_c _ lb _ _ hl1000 hf.1 hf.2.2) ?k1 ?k2 ?k3 ?k4 ?k5 ?k6 ?k7 ?k8 ?_
        case k1 => k_asm
        case k2 => k_asm
        case k3 => k_asm
        case k4 => k_asm
        case k5 => k_asm
        case k6 => first | exact rfl | assumption
        case k7 => ktr_room
        case k8 => ktr_units
        intro r9 n9 h9 tk9 F9 N9 p9
        obtain ⟨tn, e9, e9'⟩ := p9
        subst e9
        subst e9'
        k_steps
        refine Stk.out ?_
        refine' DoingT.use (law_read_yes _ lb _ _ hb) ?k1 ?k2 ?k3 ?k4 ?k5 ?k6 ?k7 ?k8 ?_
        case k1 => k_asm
        case k2 => k_asm
        case k3 => k_asm
        case k4 => k_asm
        case k5 => k_asm
        case k6 => first | exact rfl | assumption
        case k7 => ktr_room
        case k8 => ktr_units
        intro r9 n9 h9 tk9 F9 N9 p9
        obtain ⟨Dr, t1, t2, t3, e9, e9'⟩ := p9
        subst e9
        subst e9'
        k_steps
        refine ne_dataH (by ke_read) (by ke_read) hb.shaped hb.shaped (by ke_room) ?_
        ke_norm
        k_steps
        refine Stk.out ?_
        refine' DoingT.use (law_read_no _ lb _ _ hb hp) ?k1 ?k2 ?k3 ?k4 ?k5 ?k6 ?k7 ?k8 ?_
        case k1 => k_asm
        case k2 => k_asm
        case k3 => k_asm
        case k4 => k_asm
        case k5 => k_asm
        case k6 => first | exact rfl | assumption
        case k7 => ktr_room
        case k8 => ktr_units
        intro r9 n9 h9 tk9 F9 N9 p9
        obtain ⟨Dr2, kx, vx, kx2, e9, e9', px⟩ := p9
        subst e9
        subst e9'
        rcases px with ⟨g1, t12, g2⟩ | ⟨K, t12, K2, t22, g1, g2, g3⟩ | ⟨t12, V, t22, K2, t32, g1, g2, g3, g4⟩
        · subst g1
          subst g2
          k_steps
          refine Stk.out ?_
          refine' BodyPost.intro rfl rfl ?hFb2 ?hNb2 ?hmb2
          case hFb2 => assumption
          case hNb2 => exact cb_drop (by assumption) (by kcj_all)
          intro z hz
          simp only [List.contains_cons, List.contains_nil, Bool.or_false, Bool.or_eq_false_iff, beq_eq_false_iff_ne, ne_eq] at hz
          obtain ⟨h1, h2, h3, h4⟩ := hz
          simp only [if_neg h1, if_neg h2, if_neg h3, if_neg h4]
        · have hz2 : ((K == Str.ofString "id") != ((⟨(shown lb).toArray⟩ : Str) == ⟨lb.toArray⟩)) = false := by rw [g2, q1]; rfl
          subst g1
          subst g3
          k_steps
          refine Stk.out ?_
          refine' BodyPost.intro rfl rfl ?hFb3 ?hNb3 ?hmb3
          case hFb3 => assumption
          case hNb3 => exact cb_drop (by assumption) (by kcj_all)
          intro z hz
          simp only [List.contains_cons, List.contains_nil, Bool.or_false, Bool.or_eq_false_iff, beq_eq_false_iff_ne, ne_eq] at hz
          obtain ⟨h1, h2, h3, h4⟩ := hz
          simp only [if_neg h1, if_neg h2, if_neg h3, if_neg h4]
        · have hz3 : ((V == (⟨lb.toArray⟩ : Str)) != ((⟨(shown lb).toArray⟩ : Str) == ⟨lb.toArray⟩)) = false := by rw [g3, q1]; rfl
          subst g1
          subst g2
          subst g4
          k_steps
          refine Stk.out ?_
          refine' BodyPost.intro rfl rfl ?hFb4 ?hNb4 ?hmb4
          case hFb4 => assumption
          case hNb4 => exact cb_drop (by assumption) (by kcj_all)
          intro z hz
          simp only [List.contains_cons, List.contains_nil, Bool.or_false, Bool.or_eq_false_iff, beq_eq_false_iff_ne, ne_eq] at hz
          obtain ⟨h1, h2, h3, h4⟩ := hz
          simp only [if_neg h1, if_neg h2, if_neg h3, if_neg h4]
    · intro u2 h2 tk2 F2 N2
      clear FB NB
      k_steps
      have hfa := ha.facts
      have hfb := hb.facts
      have hla1 : la.length ≤ 1000 := Nat.le_trans hfa.2.1 (by decide)
      have hsa : (⟨(shown la).toArray⟩ : Str).length ≤ 18 := (by have := shown_len hfa.2.1; show (List.toArray _).size ≤ 18; simpa using this)
      have hsb : (⟨(shown lb).toArray⟩ : Str).length ≤ 18 := (by have := shown_len hfb.2.1; show (List.toArray _).size ≤ 18; simpa using this)
      have hlb1 : lb.length ≤ 1000 := Nat.le_trans hfb.2.1 (by decide)
      refine Stk.out ?_
      refine' Doing.use (name_text_c _ la _ _ hla1 hfa.1 hfa.2.2) ?k1 ?k2 ?k3 ?k4 ?k5 ?k6 ?k7 ?k8 ?_
      case k1 => k_asm
      case k2 => k_asm
      case k3 => k_asm
      case k4 => k_asm
      case k5 => k_asm
      case k6 => first | exact rfl | assumption
      case k7 => ktr_room
      case k8 => ktr_units
      intro r9 n9 h9 tk9 F9 N9 p9
      obtain ⟨tna, e9, e9'⟩ := p9
      subst e9
      subst e9'
      k_steps
      refine Stk.out ?_
      refine' Doing.use (name_text_c _ lb _ _ hlb1 hfb.1 hfb.2.2) ?k1 ?k2 ?k3 ?k4 ?k5 ?k6 ?k7 ?k8 ?_
      case k1 => k_asm
      case k2 => k_asm
      case k3 => k_asm
      case k4 => k_asm
      case k5 => k_asm
      case k6 => first | exact rfl | assumption
      case k7 => ktr_room
      case k8 => ktr_units
      intro r9 n9 h9 tk9 F9 N9 p9
      obtain ⟨tnb, e9, e9'⟩ := p9
      subst e9
      subst e9'
      k_steps
      rw [both_text]
      refine Stk.out ?_
      refine' Doing.use (lexer_c _ _ _ _) ?k1 ?k2 ?k3 ?k4 ?k5 ?k6 ?k7 ?k8 ?_
      case k1 => k_asm
      case k2 => k_asm
      case k3 => k_asm
      case k4 => k_asm
      case k5 => k_asm
      case k6 => first | exact rfl | assumption
      case k7 => ktr_room
      case k8 => ktr_units
      intro r9 n9 h9 tk9 F9 N9 p9
      obtain ⟨x, dx, kt, k1, k2, k3, k4, kk, ti, e9, e9', hxd, hkd, hdx, hlx, hlk⟩ := p9
      subst e9
      subst e9'
      obtain ⟨w1, w2, w3, w4, w5, _⟩ := hdx
      have hlx' : @LT.lt Nat _ dx x := hlx
      have hlk' : @LT.lt Nat _ x kt := hlk
      k_steps
      refine Stk.out ?_
      rename (Obj.data _ = Data.cell _) => hCell
      refine' law_tail ha hb rfl rfl ?kB ?kF ?kX ?kT hCell rfl ?kN hxd hkd w1 w2 w3 w4 w5 ?_
      case kN => k_asm
      case kF => exact frNames (by assumption) (by first | rfl | with_unfolding_all rfl)
      case kB => k_asm
      case kX => k_asm
      case kT => k_asm
      intro m9 h9 tk9 F9
      k_steps)
end M20
end Mine
set_option maxRecDepth 100000 in
theorem PySem.Challenge.cw_pq1323_01_holds : PySem.Challenge.rw_pq1323_01.Holds := by
  exact Mine.law_test
