import PyProof.Rows.All
import Wide.All
import OpenK.AllK
import Wide.FinOn
import PySem.Challenge.RW_og0070_01
set_option Elab.async false
section
open PySem PySem.W PyProof.Rows
set_option Elab.async false
set_option maxRecDepth 100000
set_option maxHeartbeats 8000000
namespace Mine
/-- the top's run upon a tree of objects -/
noncomputable def runT (tb : String → Option Builtin) (p : Program) (w : World) (n₀ : Nat) (ann : Option Value) : Nat → SharedT → Thread → Option SharedT
  | 0, _, _ => none
  | n + 1, s, t => match through t with
    | true => some s
    | false => match stepOk n₀ ann t with
      | false => none
      | true => match stepT (denote tb) p w s t with
        | some (s', t') => runT tb p w n₀ ann n s' t'
        | none => none
theorem runT_of {tb : String → Option Builtin} {p : Program} {w : World} {n₀ : Nat} {ann : Option Value} : ∀ {n : Nat} {s s' : SharedT} {t : Thread}, runT tb p w n₀ ann n s t = some s' → topRun tb p w n₀ ann n s.abs t = some s'.abs
  | 0, _, _, _, h => by cases h
  | n + 1, s, s', t, h => by
    unfold runT at h
    unfold topRun
    cases he : through t with
    | true => rw [he] at h; cases h; rfl
    | false =>
      rw [he] at h
      cases hk : stepOk n₀ ann t with
      | false => rw [hk] at h; cases h
      | true =>
        rw [hk] at h
        cases hs : stepT (denote tb) p w s t with
        | none => rw [hs] at h; cases h
        | some r => obtain ⟨s₂, t₂⟩ := r; rw [hs] at h; rw [stepT_spec hs]; exact runT_of h
/-- the same by the library's quick twins -/
noncomputable def runQ (tb : String → Option Builtin) (p : Program) (w : World) (n₀ : Nat) (ann : Option Value) : Nat → SharedT → Thread → Option SharedT
  | 0, _, _ => none
  | n + 1, s, t => match through t with
    | true => some s
    | false => match PySem.W.Fast.tw6613529449190102663 n₀ ann t with
      | false => none
      | true => match PySem.W.Fast.tw10156331382660048174 (PySem.W.Fast.tw11892475500146522536 tb) p w s t with
        | some (s', t') => runQ tb p w n₀ ann n s' t'
        | none => none
theorem runQ_eq (tb : String → Option Builtin) (p : Program) (w : World) (n₀ : Nat) (ann : Option Value) : ∀ (n : Nat) (s : SharedT) (t : Thread), runT tb p w n₀ ann n s t = runQ tb p w n₀ ann n s t
  | 0, _, _ => rfl
  | n + 1, s, t => by
    unfold runT runQ
    rw [← PySem.W.Fast.te6613529449190102663, ← PySem.W.Fast.te10156331382660048174, ← PySem.W.Fast.te11892475500146522536]
    simp only [runQ_eq tb p w n₀ ann n]
noncomputable def bootT (P : Params) : BT := ((((((((((BT.nil.ins 0 (boot_o_0 P)).ins 1 (boot_o_1 P)).ins 2 (boot_o_2 P)).ins 3 (boot_o_3 P)).ins 4 (boot_o_4 P)).ins 5 (boot_o_5 P)).ins 6 (boot_o_6 P)).ins 7 (boot_o_7 P)).ins 8 (boot_o_8 P)).ins 9 (boot_o_9 P)).ins 10 (boot_o_10 P)
theorem bootT_abs : ∀ P : Params, absHeap (bootT P) 11 {} = boot_heap P := by
  intro P
  kernel_rfl
/-- what stands behind the opening, by a run upon a tree of objects, in the library's quick words -/
theorem left_of_tree {p p' q : Program} {loose : List PySem.Str} {Xt : Shared → Bool} {α : Type} {Yf : Shared → α} {Ya : World → α} {N : Nat} {g0 : Bool} {H : Params → Heap} {T : Params → BT} {n : Nat} {life : Life} {gs : Array GenState} {d : Drawn} {k m₀ : Nat} {ann : Option Value} (ep : p = p')
    (op : ∀ w : World, (fencedOpening treeTable p w N).map (fun s => (s.heap, s.gens, s.drawn, s.toks)) = some (H w.params, gs, d, k)) (hT : ∀ P : Params, absHeap (T P) n life = H P)
    (size : ∀ w : World, ((H w.params).isNs mainGlobals && gs.size == 0, (H w.params).objs.size, (H w.params).nsMap mainGlobals "__annotations__") = (true, m₀, ann))
    (run : ∀ (w : World) (os : OsState), (runQ PySem.W.Fast.tw14364793385576792824 p' w m₀ ann N ⟨T w.params, n, life, gs, d, k, os⟩ (topStub p')).map (fun s => (staticsOk (importedModules p'.main.body) (H w.params) s.abs.heap && namesBound p' s.abs.heap && gensDone s.abs && laidKept (H w.params) s.abs.heap, PySem.W.Fast.tw4187177175401517315 q loose (importedModules p'.main.body) Xt g0 s.abs, Yf s.abs)) = some (true, openGood q loose, Ya w)) : LeftO p q loose Xt Yf Ya N g0 := fun w => by
  subst ep
  obtain ⟨⟨h, gs', d', k', os⟩, e, e'⟩ := Option.map_eq_some_iff.mp (op w)
  obtain ⟨rfl, rfl, rfl, rfl⟩ : h = H w.params ∧ gs' = gs ∧ d' = d ∧ k' = k := by simpa using e'
  obtain ⟨z1, z2, z3⟩ : _ ∧ _ ∧ _ := by simpa only [Prod.mk.injEq] using size w
  obtain ⟨s, r, l⟩ := Option.map_eq_some_iff.mp (run w os)
  rw [← PySem.W.Fast.te14364793385576792824, ← runQ_eq] at r
  rw [← PySem.W.Fast.te4187177175401517315] at l
  obtain ⟨l1, l2, l3⟩ : _ ∧ _ ∧ _ := by simpa only [Prod.mk.injEq] using l
  have r' := runT_of r
  have ha : (⟨T w.params, n, life, gs', d', k', os⟩ : SharedT).abs = ⟨H w.params, gs', d', k', os⟩ := by rw [SharedT.abs, hT]
  rw [ha] at r'
  have t : topFrom treeTable p w N ⟨H w.params, gs', d', k', os⟩ = some s.abs := by
    unfold topFrom
    dsimp only
    rw [z1, z2, z3, r']
    show (match staticsOk (importedModules p.main.body) (H w.params) s.abs.heap && namesBound p s.abs.heap && gensDone s.abs && laidKept (H w.params) s.abs.heap with | true => _ | false => _) = _
    rw [l1]
  unfold openEnds
  rw [e]
  show (topFrom treeTable p w N _).map _ = _
  rw [t]
  exact congrArg some (Prod.ext l2 l3)
theorem said_once : (PySem.Challenge.pw_og0070_01.main.body.length == 19) = true := by k_qdec
/-- the program with the statements alone that bind what the law comes to -/
def view : Program := { PySem.Challenge.pw_og0070_01 with main := { PySem.Challenge.pw_og0070_01.main with body := (PySem.Challenge.pw_og0070_01.main.body.take 3).drop 1 ++ ((PySem.Challenge.pw_og0070_01.main.body.take 7).drop 4 ++ PySem.Challenge.pw_og0070_01.main.body.drop 8) } }
local macro_rules | `(tactic| o_head $H) => `(tactic| (
  refine holds_open (q := view) (loose := [PySem.Str.ofString "LedgerError"]) (Xt := fun s => xlAt view [] s && recOk (RowW.records (OpenRow.toRowW PySem.Challenge.rw_og0070_01.row)) s) (XP := XL view []) (Yf := Hook.obs $H) (Ya := Hook.val $H) (YP := Hook.says $H) (N := 3014) ?hl (Hook.of $H) (Hook.keeps $H) (fun s e => xl_of s (Bool.and_eq_true_iff.mp e).1) XL.keeps (by rfl) (by rfl) (by rfl) (fun s e => recFacts_of (Bool.and_eq_true_iff.mp e).2) (by rfl) (by first | assumption | decide +kernel) (by decide +kernel) ⟨rfl, rfl, rfl, rfl, rfl, by decide +kernel⟩ ?hw ?hc
  case hl =>
    refine left_of_tree (m₀ := 11) (ann := some (.ref 6)) PySem.W.Fast.te14877749455075534363 (boot_open (by kernel_rfl) (by decide) (fun s => by rfl)) bootT_abs (fun w => by kernel_rfl) ?_
    intro w os
    kernel_rfl
  all_goals (rename_i hsaid; clear hsaid)))
open_top hd for PySem.Challenge.rw_og0070_01
end Mine
end

section
open PySem PySem.Spec PySem.Calls PySem.W PyProof.Rows PyProof.V
set_option Elab.async false
set_option maxRecDepth 100000
namespace Mine
abbrev Led := List (Addr × Obj)
abbrev By := Array UInt8
abbrev tupOf (vs : List Value) (n : Nat) : Obj := { cls := .type "tuple", data := .seq vs.toArray n }
abbrev sK (w : World) : KeyKind PySem.Challenge.rw_og0070_01.row.prog w Str := strKind PySem.Challenge.rw_og0070_01.row.prog w
abbrev iK (w : World) : KeyKind PySem.Challenge.rw_og0070_01.row.prog w Int := intKind PySem.Challenge.rw_og0070_01.row.prog w

/-- a def's contract over an abstract ledger -/
def Does (w : World) (f : Addr) (d : Nat) (news : Led) (vs : List Value) (Post : Led → Value → Prop) : Prop :=
  ∀ (p : Program) (loose : List Str) (mean : ExcName → Option Value) (mg mb : Str → Option Value) (dp un : Nat) (gd : Option (List Code)) (cn : Str) (cs : Scope) (a : Addr) (ccd : Value) (cl : List (Str × Addr)) (outer : List Env) (A₀ : Around) (base h₀ : Heap) (L : Addr) (m : Str → Option Value) (s : Shared) (Q E : Value → Shared → Prop),
    Below A₀ base outer h₀ → Fr h₀ L s.heap m → (hd.heap_39 w.params).In h₀ → News h₀ L s.heap news → Top p loose mean mg mb h₀ → cs.kind = .function → dp + d < recursionLimit → un + 100 * d < cLine →
    (∀ r news' h' tk', Fr h₀ L h' m → News h₀ L h' news' → Post news' r → Q r { s with heap := h', toks := tk' }) →
    wpAny (model PySem.Challenge.rw_og0070_01.row.prog w) (ktrTop dp un gd cn cs L a ccd cl outer) (call (.ref f) vs) Q E s

/-- the shelf object with its dict of files -/
structure ShelfAt (P : Params) (news : Led) (x dx D : Addr) : Prop where
  inst : (x, instObj 137 dx) ∈ news
  dict : ∃ t n, (dx, dictOf [⟨PyData.keyHash P (Str.ofString "files"), .str (Str.ofString "files") t, .ref D⟩] n) ∈ news
end Mine
end

section
open PySem PySem.Spec PySem.Calls PySem.W PyProof.Rows PyProof.V
set_option Elab.async false
set_option maxRecDepth 100000
namespace Mine
structure File where
  path : Str
  kind : Str
  rows : List By
abbrev relS : Str := Str.ofString "relative"
inductive BytesAre : List Value → List By → Prop
  | nil : BytesAre [] []
  | cons {b : By} {t : Tok} {vs : List Value} {bs : List By} : BytesAre vs bs → BytesAre (.bytes b t :: vs) (b :: bs)
inductive NumAre : Nat → List (Int × Value) → List By → Prop
  | nil {n : Nat} : NumAre n [] []
  | cons {n : Nat} {b : By} {t : Tok} {kvs : List (Int × Value)} {bs : List By} : NumAre (n + 1) kvs bs → NumAre n (((n : Int), .bytes b t) :: kvs) (b :: bs)
/-- the content object of a file -/
def ContIs (w : World) (kind : Str) (rows : List By) (o : Obj) : Prop :=
  (kind = relS ∧ ∃ kvs, o.IsDictOf (iK w) kvs ∧ NumAre 1 kvs rows) ∨ (kind ≠ relS ∧ ∃ xs ep, o = listOf xs.toArray ep ∧ BytesAre xs rows)
theorem ContIs.noTup {w : World} {kind : Str} {rows : List By} {o : Obj} (h : ContIs w kind rows o) : o.cls ≠ .type "tuple" := by
  rcases h with ⟨_, kvs, ⟨es, ep, hx, _⟩, _⟩ | ⟨_, xs, ep, rfl, _⟩
  · rw [hx.1]; decide
  · show Value.type "list" ≠ _; decide
theorem loOf {d : Addr} (h : @LT.lt Nat _ 1 d) : (d == sysModules) = false := by
  rw [beq_eq_false_iff_ne]; rintro rfl; exact absurd h (by decide)
abbrev Tau := List (File × Addr)
/-- the entries of a dict of files -/
inductive FsAre (w : World) (news : Led) : List (Str × Value) → Tau → Prop
  | nil : FsAre w news [] []
  | cons {f : File} {c tup : Addr} {tk : Tok} {n : Nat} {o : Obj} {kvs : List (Str × Value)} {τ : Tau} : (tup, tupOf [.str f.kind tk, .ref c] n) ∈ news → (c, o) ∈ news → ContIs w f.kind f.rows o → @LT.lt Nat _ 1 c → FsAre w news kvs τ → FsAre w news ((f.path, .ref tup) :: kvs) ((f, c) :: τ)
structure FilesAt (w : World) (news : Led) (D : Addr) (τ : Tau) : Prop where
  ex : ∃ o kvs, (D, o) ∈ news ∧ o.IsDictOf (sK w) kvs ∧ FsAre w news kvs τ
  lo : @LT.lt Nat _ 1 D
/-- one file -/
structure At (w : World) (news : Led) (D : Addr) (p : Str) (f : File) (c : Addr) : Prop where
  ex : ∃ o kvs tup tk n, (D, o) ∈ news ∧ o.IsDictOf (sK w) kvs ∧ valueAt kvs p = some (.ref tup) ∧ (tup, tupOf [.str f.kind tk, .ref c] n) ∈ news
  cont : ∃ oc, (c, oc) ∈ news ∧ ContIs w f.kind f.rows oc
  lo : @LT.lt Nat _ 1 D
  loc : @LT.lt Nat _ 1 c
structure NotAt (w : World) (news : Led) (D : Addr) (p : Str) : Prop where
  ex : ∃ o kvs, (D, o) ∈ news ∧ o.IsDictOf (sK w) kvs ∧ valueAt kvs p = none
  lo : @LT.lt Nat _ 1 D
def lookT (τ : Tau) (p : Str) : Option (File × Addr) := τ.find? fun q => decide (q.1.path = p)
def putT (τ : Tau) (f : File) (c : Addr) : Tau := if τ.any (fun q => decide (q.1.path = f.path)) then τ.map (fun q => if q.1.path = f.path then (f, c) else q) else τ ++ [(f, c)]
def addT (τ : Tau) (p : Str) (b : By) : Tau := τ.map fun q => if q.1.path = p then (⟨q.1.path, q.1.kind, q.1.rows ++ [b]⟩, q.2) else q
def Sub (news news' : Led) : Prop := ∀ q ∈ news, q ∈ news'
def Keep (d : Addr) (news news' : Led) : Prop := ∀ q ∈ news, q.1 ≠ d → q ∈ news'
def Fun (news : Led) : Prop := ∀ a o o', (a, o) ∈ news → (a, o') ∈ news → o = o'
theorem fun_of {h₀ h : Heap} {L : Addr} {news : Led} (N : News h₀ L h news) : Fun news := fun a o o' h1 h2 => by
  have e1 := (N _ h1).1
  have e2 := (N _ h2).1
  exact Option.some.inj (e1.symm.trans e2)
theorem Sub.keep {news news' : Led} (h : Sub news news') (d : Addr) : Keep d news news' := fun q hq _ => h q hq

theorem FsAre.length {w : World} {news : Led} {kvs : List (Str × Value)} {τ : Tau} (h : FsAre w news kvs τ) : kvs.length = τ.length := by
  induction h with
  | nil => rfl
  | cons _ _ _ _ _ ih => simp [ih]
theorem FsAre.paths {w : World} {news : Led} {kvs : List (Str × Value)} {τ : Tau} (h : FsAre w news kvs τ) : kvs.map (·.1) = τ.map (·.1.path) := by
  induction h with
  | nil => rfl
  | cons _ _ _ _ _ ih => simp [ih]
theorem FsAre.look {w : World} {news : Led} {kvs : List (Str × Value)} {τ : Tau} (h : FsAre w news kvs τ) (p : Str) :
    (lookT τ p = none ∧ valueAt kvs p = none) ∨ (∃ f c tup tk n o, lookT τ p = some (f, c) ∧ f.path = p ∧ (f, c) ∈ τ ∧ valueAt kvs p = some (.ref tup) ∧ (tup, tupOf [.str f.kind tk, .ref c] n) ∈ news ∧ (c, o) ∈ news ∧ ContIs w f.kind f.rows o ∧ @LT.lt Nat _ 1 c) := by
  induction h with
  | nil => exact .inl ⟨rfl, rfl⟩
  | @cons f c tup tk n o kvs τ h1 h2 h3 h4 _ ih =>
    by_cases e : f.path = p
    · refine .inr ⟨f, c, tup, tk, n, o, ?_, e, .head _, ?_, h1, h2, h3, h4⟩
      · simp [lookT, e]
      · simp [valueAt, e]
    · have e1 : lookT ((f, c) :: τ) p = lookT τ p := by simp [lookT, e]
      have e2 : valueAt ((f.path, Value.ref tup) :: kvs) p = valueAt kvs p := by simp [valueAt, e]
      rw [e1, e2]
      rcases ih with ih | ⟨f', c', tup', tk', n', o', a1, a2, a3, r⟩
      · exact .inl ih
      · exact .inr ⟨f', c', tup', tk', n', o', a1, a2, .tail _ a3, r⟩
theorem FilesAt.at {w : World} {news : Led} {D : Addr} {τ : Tau} {p : Str} {f : File} {c : Addr} (h : FilesAt w news D τ) (e : lookT τ p = some (f, c)) : At w news D p f c := by
  obtain ⟨⟨o, kvs, hD, hk, hF⟩, lo⟩ := h
  rcases hF.look p with ⟨e', _⟩ | ⟨f', c', tup, tk, n, oc, e', _, _, hv, ht, hc, hC, hl⟩
  · rw [e] at e'; cases e'
  · rw [e] at e'; cases e'
    exact ⟨⟨o, kvs, tup, tk, n, hD, hk, hv, ht⟩, ⟨oc, hc, hC⟩, lo, hl⟩
theorem FilesAt.notAt {w : World} {news : Led} {D : Addr} {τ : Tau} {p : Str} (h : FilesAt w news D τ) (e : lookT τ p = none) : NotAt w news D p := by
  obtain ⟨⟨o, kvs, hD, hk, hF⟩, lo⟩ := h
  rcases hF.look p with ⟨_, e'⟩ | ⟨f', c', tup, tk, n, oc, e', _⟩
  · exact ⟨⟨o, kvs, hD, hk, e'⟩, lo⟩
  · rw [e] at e'; cases e'
theorem FsAre.sub {w : World} {news news' : Led} {kvs : List (Str × Value)} {τ : Tau} (h : FsAre w news kvs τ) (hs : Sub news news') : FsAre w news' kvs τ := by
  induction h with
  | nil => exact .nil
  | cons h1 h2 h3 h4 _ ih => exact .cons (hs _ h1) (hs _ h2) h3 h4 ih
theorem FilesAt.sub {w : World} {news news' : Led} {D : Addr} {τ : Tau} (h : FilesAt w news D τ) (hs : Sub news news') : FilesAt w news' D τ :=
  let ⟨⟨o, kvs, hD, hk, hF⟩, lo⟩ := h; ⟨⟨o, kvs, hs _ hD, hk, hF.sub hs⟩, lo⟩
theorem At.sub {w : World} {news news' : Led} {D : Addr} {p : Str} {f : File} {c : Addr} (h : At w news D p f c) (hs : Sub news news') : At w news' D p f c :=
  let ⟨⟨o, kvs, tup, tk, n, hD, hk, hv, ht⟩, ⟨oc, hc, hC⟩, lo, loc⟩ := h; ⟨⟨o, kvs, tup, tk, n, hs _ hD, hk, hv, hs _ ht⟩, ⟨oc, hs _ hc, hC⟩, lo, loc⟩
theorem ShelfAt.sub {P : Params} {news news' : Led} {x dx D : Addr} (h : ShelfAt P news x dx D) (hs : Sub news news') : ShelfAt P news' x dx D :=
  let ⟨h1, t, n, h2⟩ := h; ⟨hs _ h1, t, n, hs _ h2⟩
/-- what a change of one object leaves -/
theorem FsAre.keep {w : World} {news news' : Led} {d : Addr} {od : Obj} {kvs : List (Str × Value)} {τ : Tau} (h : FsAre w news kvs τ) (hf : Fun news) (hd : (d, od) ∈ news) (ht : od.cls ≠ .type "tuple") (hs : Keep d news news') (hn : d ∉ τ.map (·.2)) : FsAre w news' kvs τ := by
  induction h with
  | nil => exact .nil
  | @cons f c tup tk n o kvs τ h1 h2 h3 h4 _ ih =>
    simp only [List.map_cons, List.mem_cons, not_or] at hn
    exact .cons (hs _ h1 fun e => ht (by have e' : tup = d := e; subst e'; rw [hf _ _ _ hd h1])) (hs _ h2 fun e => hn.1 e.symm) h3 h4 (ih hn.2)
theorem FilesAt.keep {w : World} {news news' : Led} {d D : Addr} {od : Obj} {τ : Tau} (h : FilesAt w news D τ) (hf : Fun news) (hd : (d, od) ∈ news) (ht : od.cls ≠ .type "tuple") (hs : Keep d news news') (hD : D ≠ d) (hn : d ∉ τ.map (·.2)) : FilesAt w news' D τ :=
  let ⟨⟨o, kvs, hD', hk, hF⟩, lo⟩ := h; ⟨⟨o, kvs, hs _ hD' hD, hk, hF.keep hf hd ht hs hn⟩, lo⟩
theorem ShelfAt.keep {P : Params} {news news' : Led} {x dx D d : Addr} (h : ShelfAt P news x dx D) (hs : Keep d news news') (h1 : x ≠ d) (h2 : dx ≠ d) : ShelfAt P news' x dx D :=
  let ⟨a, t, n, b⟩ := h; ⟨hs _ a h1, t, n, hs _ b h2⟩
theorem FsAre.put {w : World} {news' : Led} {kvs : List (Str × Value)} {τ : Tau} {f : File} {c tup : Addr} {tk : Tok} {n : Nat} {o : Obj} (h : FsAre w news' kvs τ) (h1 : (tup, tupOf [.str f.kind tk, .ref c] n) ∈ news') (h2 : (c, o) ∈ news') (h3 : ContIs w f.kind f.rows o) (h4 : @LT.lt Nat _ 1 c) :
    FsAre w news' (stored kvs f.path (.ref tup)) (putT τ f c) := by
  have hany : kvs.any (fun kv => decide (kv.1 = f.path)) = τ.any (fun q => decide (q.1.path = f.path)) := by
    clear h1 h2 h3 h4
    induction h with
    | nil => rfl
    | cons _ _ _ _ _ ih => simp only [List.any_cons, ih]
  unfold stored putT
  rw [hany]
  split
  · clear hany
    rename_i hh; clear hh
    induction h with
    | nil => exact .nil
    | @cons f' c' tup' tk' n' o' kvs τ a1 a2 a3 a4 _ ih =>
      simp only [List.map_cons]
      by_cases e : f'.path = f.path
      · simp only [e, if_true]
        exact .cons h1 h2 h3 h4 ih
      · simp only [e, if_false]
        exact .cons a1 a2 a3 a4 ih
  · clear hany
    rename_i hh; clear hh
    induction h with
    | nil => exact .cons h1 h2 h3 h4 .nil
    | cons a1 a2 a3 a4 _ ih => exact .cons a1 a2 a3 a4 ih
theorem FsAre.add {w : World} {news news' : Led} {kvs : List (Str × Value)} {τ : Tau} {p : Str} {c : Addr} {f : File} {b : By} {oc oc' : Obj} (h : FsAre w news kvs τ) (hf : Fun news) (hc : (c, oc) ∈ news) (ht : oc.cls ≠ .type "tuple") (hl : lookT τ p = some (f, c)) (hn : (τ.map (·.2)).Nodup) (hs : Keep c news news')
    (hc' : (c, oc') ∈ news') (hC : ContIs w f.kind (f.rows ++ [b]) oc') (hp : (kvs.map (·.1)).Nodup) : FsAre w news' kvs (addT τ p b) := by
  induction h with
  | nil => exact .nil
  | @cons f' c₁ tup tk n o kvs τ h1 h2 h3 h4 hF ih =>
    have htup : (tup, tupOf [.str f'.kind tk, .ref c₁] n) ∈ news' := hs _ h1 fun e => ht (by have e' : tup = c := e; subst e'; rw [hf _ _ _ hc h1])
    simp only [List.map_cons, List.nodup_cons] at hn hp
    have hpaths : kvs.map (·.1) = τ.map (·.1.path) := by
      clear ih h1 h2 h3 h4 hl hn hp htup
      induction hF with
      | nil => rfl
      | cons _ _ _ _ _ ih => simp [ih]
    by_cases e : f'.path = p
    · have e1 : lookT ((f', c₁) :: τ) p = some (f', c₁) := by simp [lookT, e]
      rw [e1] at hl; cases hl
      have rest : addT τ p b = τ := by
        unfold addT
        refine (List.map_congr_left (g := id) fun q hq => ?_).trans (List.map_id _)
        have : q.1.path ≠ p := fun e' => hp.1 (by rw [hpaths, e, ← e']; exact List.mem_map_of_mem (f := fun q : File × Addr => q.1.path) hq)
        simp [this]
      have e2 : addT ((f, c) :: τ) p b = (⟨f.path, f.kind, f.rows ++ [b]⟩, c) :: τ := by
        show (if f.path = p then _ else _) :: addT τ p b = _
        rw [rest, if_pos e]
      rw [e2]
      exact FsAre.cons (f := ⟨f.path, f.kind, f.rows ++ [b]⟩) htup hc' hC h4 (hF.keep hf hc ht hs hn.1)
    · have e1 : lookT ((f', c₁) :: τ) p = lookT τ p := by simp [lookT, e]
      rw [e1] at hl
      have e2 : addT ((f', c₁) :: τ) p b = (f', c₁) :: addT τ p b := by
        show (if f'.path = p then _ else _) :: addT τ p b = _
        rw [if_neg e]
      rw [e2]
      have hcm : c ∈ τ.map (·.2) := List.mem_map_of_mem (f := fun q : File × Addr => q.2) (List.mem_of_find?_eq_some hl)
      exact FsAre.cons htup (hs _ h2 fun e' => hn.1 (by have e'' : c₁ = c := e'; rw [e'']; exact hcm)) h3 h4 (ih hl hn.2 hp.2)
end Mine
end

section
open PySem PySem.Spec PySem.Calls PySem.W PyProof.Rows PyProof.V
set_option Elab.async false
set_option maxRecDepth 100000
namespace Mine
def dropL (d : Addr) (news : Led) : Led := news.filter fun q => decide (q.1 ≠ d)
theorem mem_dropL {d : Addr} {news : Led} {q : Addr × Obj} : q ∈ dropL d news ↔ q ∈ news ∧ q.1 ≠ d := by
  unfold dropL; rw [List.mem_filter]; simp
section
variable {w : World} {A : Around} {E : Value → Shared → Prop} {s : Shared} {h₀ : Heap} {L d : Addr} {m : Str → Option Value} {news : Led} {o : Obj}
theorem news_led {h' : Heap} {o' : Obj} (N : News h₀ L s.heap news) (hm : (d, o) ∈ news) (hs : Heap.SameBut d s.heap h') (ho : h'.get? d = some o') : News h₀ L h' ((d, o') :: dropL d news) := fun q hq => by
  rcases List.mem_cons.mp hq with rfl | hq
  · exact ⟨ho, (N _ hm).2⟩
  · obtain ⟨h1, h2⟩ := mem_dropL.mp hq
    exact ⟨(hs.2 _ h2).trans (N _ h1).1, (N _ h1).2⟩
theorem set_led {K : Type} [DecidableEq K] {prog : Program} {knd : KeyKind prog w K} {kvs : List (K × Value)} {k : K} {key v : Value} {Q : Unit → Shared → Prop} (F : Fr h₀ L s.heap m) (N : News h₀ L s.heap news) (hm : (d, o) ∈ news) (hd : o.IsDictOf knd kvs) (hkey : knd.is k key = true) (hsz : kvs.length ≤ sizeLine)
    (h : ∀ h' o', Fr h₀ L h' m → News h₀ L h' ((d, o') :: dropL d news) → o'.IsDictOf knd (stored kvs k v) → Q () { s with heap := h', toks := s.toks + 1 }) : wpAny (model prog w) A (setItem (.ref d) key v) Q E s := by
  have hm' := N _ hm
  refine wpAny_setItem_pairs (hsz := hsz) hkey (Heap.dictOf_iff.mpr ⟨o, hm'.1, hd⟩) fun h' hmm hs => ?_
  obtain ⟨o', ho', hd'⟩ := Heap.dictOf_iff.mp hmm
  exact h h' o' (F.change hs hm'.2.1 hm'.2.2) (news_led N hm hs ho') hd'
theorem append_led {prog : Program} {its : Array Value} {n : Nat} {x : Value} {Q : Value → Shared → Prop} (F : Fr h₀ L s.heap m) (N : News h₀ L s.heap news) (hm : (d, listOf its n) ∈ news)
    (h : ∀ h', Fr h₀ L h' m → News h₀ L h' ((d, listOf (its.push x) (n + 1)) :: dropL d news) → Q .none { s with heap := h' }) (hsz : its.size ≤ sizeLine) : wpAny (model prog w) A (call (.builtin "list.append") [.ref d, x]) Q E s := by
  have hm' := N _ hm
  refine append_at (hsz := hsz) hm'.1 fun h' hs ho => ?_
  exact h h' (F.change hs hm'.2.1 hm'.2.2) (news_led N hm hs ho)
theorem strAny {x : Str} : ∀ {vs : List Value}, (∀ y ∈ vs, ∃ z t, y = .str z t) → ∀ {t : Tok} {y : Value}, y ∈ vs → SeqAt.EqAt A.in1 s y (.str x t) (y.isStr x)
  | _, h, t, y, hy => by
    obtain ⟨z, u, rfl⟩ := h y hy
    intro prog w E Q hq
    refine wpAny_eqBool_str ?_
    have e : (Value.str z u).isStr x = decide (z = x) := by
      show (z == x) = _
      rw [Bool.eq_iff_iff]; simp
    rw [e] at hq; exact hq
theorem notIn_strs {prog : Program} {l : Addr} {vs : List Value} {n : Nat} {dd : Option Addr} {sl : Array (Option Value)} {x : Str} {t : Tok} {Q : Value → Shared → Prop} (hl : s.heap.get? l = some ⟨.type "tuple", dd, .seq vs.toArray n, sl⟩) (hv : ∀ y ∈ vs, ∃ z t, y = .str z t) (h : Q (.bool (!vs.any fun y => y.isStr x)) s) :
    wpAny (model prog w) A (compareOp .NotIn (.str x t) (.ref l)) Q E s :=
  SeqAt.notIn_tupleAt (fun y => y.isStr x) ⟨_, hl, rfl, n, rfl⟩ (fun y hy => strAny hv (by simpa using hy)) (by simpa using h)
end
theorem valueAt_stored' (kvs : List (Str × Value)) (k : Str) (v : Value) : valueAt (stored kvs k v) k = some v := by
  unfold stored
  split
  · rename_i h
    induction kvs with
    | nil => simp at h
    | cons kv kvs ih =>
      simp only [List.map_cons]
      by_cases e : kv.1 = k
      · simp [valueAt, e]
      · have h' : kvs.any (fun kv => decide (kv.1 = k)) = true := by simpa [e] using h
        have := ih h'
        simp only [e, if_false]
        have e2 : valueAt (kv :: kvs.map fun kv => if kv.1 = k then (kv.1, v) else kv) k = valueAt (kvs.map fun kv => if kv.1 = k then (kv.1, v) else kv) k := by simp [valueAt, e]
        rw [e2]; exact this
  · rename_i h
    induction kvs with
    | nil => simp [valueAt]
    | cons kv kvs ih =>
      simp only [List.any_cons, Bool.or_eq_true, not_or] at h
      have e : ¬ kv.1 = k := by simpa using h.1
      have e2 : valueAt ((kv :: kvs) ++ [(k, v)]) k = valueAt (kvs ++ [(k, v)]) k := by simp [valueAt, e]
      rw [e2]; exact ih h.2
theorem begin_post {w : World} {news : Led} {D l T : Addr} {pth kind : Str} {u : Tok} {n : Nat} {o o9 oc : Obj} {kvs : List (Str × Value)} {τ : Tau} (hf : Fun news) (hD : (D, o) ∈ news) (hk : o.IsDictOf (sK w) kvs) (hF : FsAre w news kvs τ) (lo : @LT.lt Nat _ 1 D) (hn : D ∉ τ.map (·.2)) (l1 : ∀ q ∈ news, q.1 < l) (l2 : @LT.lt Nat _ l T) (hC : ContIs w kind [] oc) (hd9 : o9.IsDictOf (sK w) (stored kvs pth (.ref T))) :
    FilesAt w ((D, o9) :: dropL D ((T, tupOf [.str kind u, .ref l] n) :: (l, oc) :: news)) D (putT τ ⟨pth, kind, []⟩ l) ∧ At w ((D, o9) :: dropL D ((T, tupOf [.str kind u, .ref l] n) :: (l, oc) :: news)) D pth ⟨pth, kind, []⟩ l ∧
      Keep D news ((D, o9) :: dropL D ((T, tupOf [.str kind u, .ref l] n) :: (l, oc) :: news)) ∧ ∀ q ∈ news, q.1 < l := by
  have hDl : @LT.lt Nat _ D l := l1 _ hD
  have loc : @LT.lt Nat _ 1 l := Nat.lt_trans lo hDl
  have nl : l ≠ D := Nat.ne_of_gt hDl
  have nT : T ≠ D := Nat.ne_of_gt (Nat.lt_trans hDl l2)
  have hl : (l, oc) ∈ (D, o9) :: dropL D ((T, tupOf [.str kind u, .ref l] n) :: (l, oc) :: news) := .tail _ (mem_dropL.mpr ⟨.tail _ (.head _), nl⟩)
  have hT : (T, tupOf [.str kind u, .ref l] n) ∈ (D, o9) :: dropL D ((T, tupOf [.str kind u, .ref l] n) :: (l, oc) :: news) := .tail _ (mem_dropL.mpr ⟨.head _, nT⟩)
  have hK : Keep D news ((D, o9) :: dropL D ((T, tupOf [.str kind u, .ref l] n) :: (l, oc) :: news)) := fun q hq h => .tail _ (mem_dropL.mpr ⟨.tail _ (.tail _ hq), h⟩)
  have hno : o.cls ≠ .type "tuple" := by obtain ⟨es, ep, hx, _⟩ := hk; rw [hx.1]; decide
  refine ⟨⟨⟨o9, _, .head _, hd9, ?_⟩, lo⟩, ⟨⟨o9, _, T, u, n, .head _, hd9, valueAt_stored' _ _ _, hT⟩, ⟨oc, hl, hC⟩, lo, loc⟩, hK, l1⟩
  exact FsAre.put (f := ⟨pth, kind, []⟩) (hF.keep hf hD hno hK hn) hT hl hC loc
def Stop (P : Prop) : Prop := P
theorem stop_ {P : Prop} (h : Stop P) : P := h
theorem stopped {P : Prop} (h : P) : Stop P := h
theorem Does.use {w : World} {f : Addr} {d : Nat} {news : Led} {vs : List Value} {Post : Led → Value → Prop} (C : Does w f d news vs Post) {p : Program} {loose : List Str} {mean : ExcName → Option Value} {mg mb : Str → Option Value} {dp un : Nat} {gd : Option (List Code)} {cn : Str} {cs : Scope} {a : Addr} {ccd : Value} {cl : List (Str × Addr)} {outer : List Env} {A₀ : Around} {base h₀ : Heap} {L : Addr} {m : Str → Option Value} {s : Shared} {Q E : Value → Shared → Prop}
    (B : Below A₀ base outer h₀) (F : Fr h₀ L s.heap m) (X : (hd.heap_39 w.params).In h₀) (N : News h₀ L s.heap news) (T : Top p loose mean mg mb h₀) (hk : cs.kind = .function) (hd : dp + d < recursionLimit) (hu : un + 100 * d < cLine)
    (ret : ∀ r news' h' tk', Fr h₀ L h' m → News h₀ L h' news' → Post news' r → Q r { s with heap := h', toks := tk' }) :
    wpAny (model PySem.Challenge.rw_og0070_01.row.prog w) (ktrTop dp un gd cn cs L a ccd cl outer) (call (.ref f) vs) Q E s := C p loose mean mg mb dp un gd cn cs a ccd cl outer A₀ base h₀ L m s Q E B F X N T hk hd hu ret
theorem memOf {q : Addr × Obj} {l : Led} (h : q ∈ l) : List.Mem q l := h
end Mine
end

section
open PySem PySem.Spec PySem.Calls PySem.W PyProof.Rows PyProof.V
set_option Elab.async false
set_option maxRecDepth 100000
namespace Mine
/-- ascending texts -/
def leS (a b : Str) : Prop := ¬ (b.cps.toList < a.cps.toList)
theorem leS_trans {a b c : Str} (h : leS a b) (k : leS b c) : leS a c := List.le_trans (α := Nat) h k
theorem leS_anti {a b : Str} (h : leS a b) (k : leS b a) : a = b := by
  have e : a.cps.toList = b.cps.toList := List.le_antisymm (α := Nat) h k
  cases a; cases b; congr 1; exact Array.ext' e
theorem pairwise_of_sortedS : ∀ {l : List Str}, sortedS l = true → l.Pairwise leS
  | [], _ => .nil
  | x :: r, h => by
    have go : ∀ (l : List Str) (p : Str), risingS p l = true → (p :: l).Pairwise leS := by
      intro l
      induction l with
      | nil => intro p _; exact .cons (fun _ h => nomatch h) .nil
      | cons x r ih =>
        intro p h
        simp only [risingS, Bool.and_eq_true, Bool.not_eq_true', ltCps_eq, decide_eq_false_iff_not] at h
        have hr := ih x h.2
        refine .cons (fun y hy => ?_) hr
        rcases List.mem_cons.mp hy with rfl | hy
        · exact h.1
        · exact leS_trans h.1 (List.rel_of_pairwise_cons hr hy)
    exact go r x h
theorem uniqS : ∀ {a b : List Str}, a.Perm b → a.Pairwise leS → b.Pairwise leS → a = b
  | [], b, p, _, _ => (List.nil_perm.mp p).symm
  | x :: a, [], p, _, _ => absurd p.length_eq (by simp)
  | x :: a, y :: b, p, ha, hb => by
    have e : x = y := by
      have h1 : x ∈ y :: b := p.subset (.head _)
      have h2 : y ∈ x :: a := p.symm.subset (.head _)
      rcases List.mem_cons.mp h1 with h1 | h1
      · exact h1
      · rcases List.mem_cons.mp h2 with h2 | h2
        · exact h2.symm
        · exact leS_anti (List.rel_of_pairwise_cons ha h2) (List.rel_of_pairwise_cons hb h1)
    subst e
    rw [uniqS (List.Perm.cons_inv p) (List.pairwise_cons.mp ha).2 (List.pairwise_cons.mp hb).2]
section
variable {w : World} {prog : Program} {A : Around} {E : Value → Shared → Prop} {s : Shared} {h₀ : Heap} {L d : Addr} {m : Str → Option Value} {news : Led} {o : Obj}
theorem sortedHeap_led {D : Addr} {vs : List Value} {out : Array Value} (F : Fr h₀ L s.heap m) (N : News h₀ L s.heap ((D, listOf vs.toArray 0) :: news)) (hlt : ∀ q ∈ news, q.1 < D) :
    ∃ e, Fr h₀ L (sortedHeap s.heap D vs out) m ∧ News h₀ L (sortedHeap s.heap D vs out) ((D, listOf out e) :: news) := by
  have hm := N _ (.head _)
  obtain ⟨e, he⟩ := sortedHeap_at (out := out) (h := s.heap) (a := D) (vs := vs) (n := 0) hm.1
  have old : ∀ b, b ≠ D → ∀ o, s.heap.get? b = some o → (sortedHeap s.heap D vs out).get? b = some o := fun b hb o e => (sortedHeap_old hb (Heap.lt_size e)).trans e
  refine ⟨e, ⟨F.ns.at' fun o e => old _ (fun q => hm.2.1 q.symm) _ e, fun b o e => old b (fun q => ?_) o (F.keep b o e), F.above⟩, fun q hq => ?_⟩
  · have := hm.2.2
    rw [← q, e] at this; cases this
  · rcases List.mem_cons.mp hq with rfl | hq
    · exact ⟨he, hm.2⟩
    · have := N _ (.tail _ hq)
      exact ⟨old _ (Nat.ne_of_lt (hlt q hq)) _ this.1, this.2⟩
theorem sorted_dict_ints {kvs : List (Int × Value)} {Q : Value → Shared → Prop} (hh : A.handled = none) (F : Fr h₀ L s.heap m) (N : News h₀ L s.heap news) (hm : (d, o) ∈ news) (hd : o.IsDictOf (intKind prog w) kvs) (lo : (d == sysModules) = false) (hz : kvs.length < 64)
    (h : ∀ D h' tk vs' ns' e, Fr h₀ L h' m → News h₀ L h' ((D, listOf vs'.toArray e) :: news) → (∀ q ∈ news, q.1 < D) → IntsAre vs' ns' → ns'.Perm (kvs.map (·.1)) → ns'.Pairwise (· ≤ ·) → Q (.ref D) { s with heap := h', toks := tk }) :
    wpAny (model prog w) A (call (.builtin "sorted") [.ref d]) Q E s := by
  have hD : s.heap.DictOf (intKind prog w) d kvs := kda_dict N hm hd
  obtain ⟨ep, hat⟩ := hD.dictAt
  refine kdu_sorted (kdl_dict (knd := intKind prog w) (kvs := kvs) (ep := ep) lo) hh F N hat (by rw [sizeLine_eq]; omega) fun B h' tk vs F' N' l1 hl hv => ?_
  have hI : IntsAre vs (kvs.map (·.1)) := by
    clear F' N' h hat hD hm hd F N
    induction vs generalizing kvs with
    | nil => cases kvs with
      | nil => exact .nil
      | cons _ _ => simp at hl
    | cons v vs ih => cases kvs with
      | nil => simp at hl
      | cons kv kvs =>
        obtain ⟨k, x, e, hk⟩ := hv 0 v rfl
        simp at e
        have : ∃ t, v = .int k t := by
          cases v <;> simp [intKind, Value.isInt] at hk
          exact ⟨_, by rw [hk]⟩
        obtain ⟨t, rfl⟩ := this
        rw [e]
        exact .cons k t (ih (kvs := kvs) (by simp at hz; omega) (by simpa using hl) fun j v hj => hv (j + 1) v hj)
  refine wpAny_call_entry PyProof.Rows.slot_list_sort ⟨_, (N' _ (.head _)).1, rfl⟩ PyProof.Rows.entry_list_sort (list_sort_tree (n := 0) (vs := vs) (N' _ (.head _)).1 hI (by omega) fun out ns' hI' hp hP => ⟨.none, rfl, ?_⟩) (PyProof.Rows.args_list_sort _)
  obtain ⟨e, F2, N2⟩ := sortedHeap_led (s := { s with heap := h', toks := tk }) (out := out) F' N' l1
  exact h B _ tk out.toList ns' e F2 (by simpa using N2) l1 hI' hp hP
theorem sorted_dict_strs {kvs : List (Str × Value)} {Q : Value → Shared → Prop} (hh : A.handled = none) (F : Fr h₀ L s.heap m) (N : News h₀ L s.heap news) (hm : (d, o) ∈ news) (hd : o.IsDictOf (PySem.strKind prog w) kvs) (lo : (d == sysModules) = false) (hz : kvs.length < 64)
    (h : ∀ D h' tk vs' ns' e, Fr h₀ L h' m → News h₀ L h' ((D, listOf vs'.toArray e) :: news) → (∀ q ∈ news, q.1 < D) → StrsAre vs' ns' → ns'.Perm (kvs.map (·.1)) → ns'.Pairwise leS → Q (.ref D) { s with heap := h', toks := tk }) :
    wpAny (model prog w) A (call (.builtin "sorted") [.ref d]) Q E s := by
  have hD : s.heap.DictOf (PySem.strKind prog w) d kvs := kda_dict N hm hd
  obtain ⟨ep, hat⟩ := hD.dictAt
  refine kdu_sorted (kdl_dict (knd := PySem.strKind prog w) (kvs := kvs) (ep := ep) lo) hh F N hat (by rw [sizeLine_eq]; omega) fun B h' tk vs F' N' l1 hl hv => ?_
  have hI : StrsAre vs (kvs.map (·.1)) := by
    clear F' N' h hat hD hm hd F N
    induction vs generalizing kvs with
    | nil => cases kvs with
      | nil => exact .nil
      | cons _ _ => simp at hl
    | cons v vs ih => cases kvs with
      | nil => simp at hl
      | cons kv kvs =>
        obtain ⟨k, x, e, hk⟩ := hv 0 v rfl
        simp at e
        have : ∃ t, v = .str k t := by
          cases v <;> simp [PySem.strKind, Value.isStrOf] at hk
          exact ⟨_, by rw [hk]⟩
        obtain ⟨t, rfl⟩ := this
        rw [e]
        exact .cons k t (ih (kvs := kvs) (by simp at hz; omega) (by simpa using hl) fun j v hj => hv (j + 1) v hj)
  refine wpAny_call_entry PyProof.Rows.slot_list_sort ⟨_, (N' _ (.head _)).1, rfl⟩ PyProof.Rows.entry_list_sort (list_sort_treeK (κ := PyProof.Rows.strKind) strKind_oneLt (n := 0) (vs := vs) (N' _ (.head _)).1 hI.keysOf (fun v₁ v₂ rest e => keyKind_strs (by rw [← e]; exact hI)) (by omega) fun st' hp hs => ⟨.none, rfl, ?_⟩) (PyProof.Rows.args_list_sort _)
  obtain ⟨ss', h1, h2, h3⟩ := sorted_out_str hI hp hs
  obtain ⟨e, F2, N2⟩ := sortedHeap_led (s := { s with heap := h', toks := tk }) (out := (arrOf st').map (·.2)) F' N' l1
  exact h B _ tk ((arrOf st').map (·.2)).toList ss' e F2 (by rw [Array.toArray_toList]; exact N2) l1 h1 h2 (pairwise_of_sortedS h3)
end
end Mine
end

section
open PySem PySem.Spec PySem.Calls PySem.W PyProof.Rows PyProof.V
set_option Elab.async false
set_option maxRecDepth 100000
namespace Mine
open LCg
theorem CompEnd.mono {h₀ : Heap} {L I C D : Addr} {m : Str → Option Value} {s₁ : Shared} {oI oC oD : Obj} {S : Led → Prop} {rest rest' : Value → Led → Prop} {y : Value} {s₂ : Shared} (h : CompEnd h₀ L m s₁ I oI C oC D oD S rest y s₂) (hr : ∀ y nw, rest y nw → rest' y nw) : CompEnd h₀ L m s₁ I oI C oC D oD S rest' y s₂ := by
  obtain ⟨h', tk, nw, e, F, N, o, hS, r⟩ := h
  exact ⟨h', tk, nw, e, F, N, o, hS, hr _ _ r⟩
section
variable {prog : Program} {w : World} {A : Around} {h₀ : Heap} {L : Addr} {m : Str → Option Value} {env : Env} {ct elt : Expr} {x : Str} {scope : Scope} {cl : List (Str × Addr)} {s : Shared} {S : Led → Prop} {P : Nat → Value → Prop} {Fin : List Value → Led → Prop}
theorem compRest_ind (Inv : Nat → List Value → Led → Prop) (n : Nat) (hfin : ∀ ys nw, Inv n ys nw → Fin ys nw)
    (hturn : ∀ i ys nw, i < n → Inv i ys nw → ∀ v I oI C oC D m₂ h tk (E' : Value → Shared → Prop), P i v → NsObj oC m₂ → m₂ x = some v → Fr h₀ L h m → News h₀ L h ((I, oI) :: (C, oC) :: (D, lst ys) :: nw) → Off3 I C D nw → ((@Ne Nat I C) ∧ (@Ne Nat I D) ∧ (@Ne Nat C D)) →
      wpAny (model prog w) A (eval elt (compEnvC scope cl C env)) (CompEnd h₀ L m { s with heap := h, toks := tk } I oI C oC D (lst ys) S (fun y nw' => Inv (i + 1) (ys ++ [y]) nw')) E' { s with heap := h, toks := tk }) :
    ∀ k i ys nw, i + k = n → Inv i ys nw → CompRest prog w A h₀ L m env elt x scope cl s S P Fin k i ys nw := by
  intro k
  induction k with
  | zero => intro i ys nw e hi; obtain rfl : i = n := e; exact CompRest.zero (hfin _ _ hi)
  | succ k ih =>
    intro i ys nw e hi
    refine CompRest.succ fun v I oI C oC D m₂ h tk E' a1 a2 a3 a4 a5 a6 a7 => ?_
    exact wpAny_mono (hturn i ys nw (by omega) hi v I oI C oC D m₂ h tk E' a1 a2 a3 a4 a5 a6 a7) (fun y s' hy => CompEnd.mono hy fun y nw' hI => ih (i + 1) _ _ (by omega) hI) fun _ _ e => e
theorem compRestT_ind (Inv : Nat → List Value → Led → Prop) (n : Nat) (hfin : ∀ ys nw, Inv n ys nw → Fin ys nw)
    (hturn : ∀ i ys nw, i < n → Inv i ys nw → ∀ v I oI C oC D m₂ h tk (E' : Value → Shared → Prop), P i v → NsObj oC m₂ → m₂ x = some v → Fr h₀ L h m → News h₀ L h ((I, oI) :: (C, oC) :: (D, lst ys) :: nw) → Off3 I C D nw → ((@Ne Nat I C) ∧ (@Ne Nat I D) ∧ (@Ne Nat C D)) →
      wpAny (model prog w) A (isTrue ct (compEnvC scope cl C env) (eval ct (compEnvC scope cl C env))) (fun ok s' => if ok = true then
        wpAny (model prog w) A (eval elt (compEnvC scope cl C env)) (CompEnd h₀ L m { s with heap := h, toks := tk } I oI C oC D (lst ys) S (fun y nw' => Inv (i + 1) (ys ++ [y]) nw')) E' s'
        else CompEnd h₀ L m { s with heap := h, toks := tk } I oI C oC D (lst ys) S (fun _ nw' => Inv (i + 1) ys nw') Value.none s') E' { s with heap := h, toks := tk }) :
    ∀ k i ys nw, i + k = n → Inv i ys nw → LCt.CompRestT prog w A h₀ L m env ct elt x scope cl s S P Fin k i ys nw := by
  intro k
  induction k with
  | zero => intro i ys nw e hi; obtain rfl : i = n := e; exact LCt.CompRestT.zero (hfin _ _ hi)
  | succ k ih =>
    intro i ys nw e hi
    refine LCt.CompRestT.succ fun v I oI C oC D m₂ h tk E' a1 a2 a3 a4 a5 a6 a7 => ?_
    refine wpAny_mono (hturn i ys nw (by omega) hi v I oI C oC D m₂ h tk E' a1 a2 a3 a4 a5 a6 a7) (fun ok s' hy => ?_) fun _ _ e => e
    cases ok with
    | true =>
      simp only [if_true] at hy ⊢
      exact wpAny_mono hy (fun y s'' hz => CompEnd.mono hz fun y nw' hI => ih (i + 1) _ _ (by omega) hI) fun _ _ e => e
    | false =>
      simp only [Bool.false_eq_true, if_false] at hy ⊢
      exact CompEnd.mono hy fun y nw' hI => ih (i + 1) _ _ (by omega) hI
end
theorem sub4 {a b c d : Addr × Obj} {nw : Led} : ∀ p ∈ b :: c :: d :: a :: nw, p ∈ a :: b :: c :: d :: nw := fun p hp => by
  simp only [List.mem_cons] at hp ⊢
  rcases hp with h | h | h | h | h <;> simp [h]
theorem compEnd_one {h₀ : Heap} {L I C D T : Addr} {m : Str → Option Value} {s₁ : Shared} {oI oC oD o : Obj} {S : Led → Prop} {rest : Value → Led → Prop} {y : Value} {h' : Heap} {tk : Nat} {nw : Led}
    (F : Fr h₀ L h' m) (N : News h₀ L h' ((T, o) :: (I, oI) :: (C, oC) :: (D, oD) :: nw)) (l : @LT.lt Nat _ I T ∧ @LT.lt Nat _ C T ∧ @LT.lt Nat _ D T ∧ AllLt T nw) (off : Off3 I C D nw) (hS : S ((T, o) :: nw)) (r : rest y ((T, o) :: nw)) :
    CompEnd h₀ L m s₁ I oI C oC D oD S rest y { s₁ with heap := h', toks := tk } :=
  CompEnd.intro F N ((T, o) :: nw) sub4 ⟨⟨Nat.ne_of_gt l.1, Nat.ne_of_gt l.2.1, Nat.ne_of_gt l.2.2.1⟩, off⟩ hS r
theorem compEnd_zero {h₀ : Heap} {L I C D : Addr} {m : Str → Option Value} {s₁ : Shared} {oI oC oD : Obj} {S : Led → Prop} {rest : Value → Led → Prop} {y : Value} {h' : Heap} {tk : Nat} {nw : Led}
    (F : Fr h₀ L h' m) (N : News h₀ L h' ((I, oI) :: (C, oC) :: (D, oD) :: nw)) (off : Off3 I C D nw) (hS : S nw) (r : rest y nw) :
    CompEnd h₀ L m s₁ I oI C oC D oD S rest y { s₁ with heap := h', toks := tk } :=
  CompEnd.intro F N nw (fun _ hp => hp) off hS r
/-- a datum made of new objects alone -/
def FreshDat (news news' : Led) (r : Value) (d : Dat) : Prop := ∃ tl : Led, Sub tl news' ∧ (∀ q ∈ news, ∀ p ∈ tl, q.1 < p.1) ∧ DatIn tl r d
theorem allLt_mem {T : Addr} : ∀ {l : Led}, AllLt T l → ∀ p ∈ l, p.1 < T
  | [], _, _, h => nomatch h
  | _ :: _, h, p, hp => by
    rcases List.mem_cons.mp hp with rfl | hp
    · exact h.1
    · exact allLt_mem h.2 p hp
theorem off3_append {I C D : Addr} {l l' : Led} (h : Off3 I C D l) (h' : Off3 I C D l') : Off3 I C D (l ++ l') := Off3.of fun p hp => (List.mem_append.mp hp).elim (h.mem p) (h'.mem p)
theorem compEnd_call {h₀ : Heap} {L I C D T : Addr} {m : Str → Option Value} {s₁ : Shared} {oI oC oD o : Obj} {S : Led → Prop} {rest : Value → Led → Prop} {y : Value} {h' : Heap} {tk : Nat} {nw news1 tl : Led}
    (F : Fr h₀ L h' m) (N : News h₀ L h' ((T, o) :: news1)) (hs1 : Sub ((I, oI) :: (C, oC) :: (D, oD) :: nw) news1) (l1 : ∀ q ∈ news1, q.1 < T) (ht : Sub tl news1) (hf : ∀ q ∈ (I, oI) :: (C, oC) :: (D, oD) :: nw, ∀ p ∈ tl, q.1 < p.1) (off : Off3 I C D nw)
    (hS : S ((T, o) :: (tl ++ nw))) (r : rest y ((T, o) :: (tl ++ nw))) :
    CompEnd h₀ L m s₁ I oI C oC D oD S rest y { s₁ with heap := h', toks := tk } := by
  have mI : (I, oI) ∈ (I, oI) :: (C, oC) :: (D, oD) :: nw := .head _
  have mC : (C, oC) ∈ (I, oI) :: (C, oC) :: (D, oD) :: nw := .tail _ (.head _)
  have mD : (D, oD) ∈ (I, oI) :: (C, oC) :: (D, oD) :: nw := .tail _ (.tail _ (.head _))
  refine CompEnd.intro F N ((T, o) :: (tl ++ nw)) (fun p hp => ?_) ⟨⟨Nat.ne_of_gt (l1 _ (hs1 _ mI)), Nat.ne_of_gt (l1 _ (hs1 _ mC)), Nat.ne_of_gt (l1 _ (hs1 _ mD))⟩, off3_append (Off3.of fun p hp => ⟨Nat.ne_of_gt (hf _ mI p hp), Nat.ne_of_gt (hf _ mC p hp), Nat.ne_of_gt (hf _ mD p hp)⟩) off⟩ hS r
  simp only [List.mem_cons, List.mem_append] at hp
  rcases hp with h | h | h | h | h | h
  · exact .tail _ (hs1 _ (h ▸ mI))
  · exact .tail _ (hs1 _ (h ▸ mC))
  · exact .tail _ (hs1 _ (h ▸ mD))
  · rw [h]; exact .head _
  · exact .tail _ (ht _ h)
  · exact .tail _ (hs1 _ (.tail _ (.tail _ (.tail _ h))))
theorem sub3 {a b c : Addr × Obj} {l : Led} : Sub l (a :: b :: c :: l) := fun _ h => .tail _ (.tail _ (.tail _ h))
theorem Sub.trans {a b c : Led} (h : Sub a b) (k : Sub b c) : Sub a c := fun q hq => k q (h q hq)
theorem subNil {l : Led} : Sub [] l := fun _ h => absurd h List.not_mem_nil
theorem freshNil {news : Led} : ∀ q ∈ news, ∀ p ∈ ([] : Led), q.1 < p.1 := fun _ _ _ h => absurd h List.not_mem_nil
theorem subRefl {l : Led} : Sub l l := fun _ h => h
theorem tl_cons {news nw tl : Led} {T : Addr} {o : Obj} {ys : List Value} {ds : List Dat} (ht : Sub tl nw) (hf : ∀ q ∈ news, ∀ p ∈ tl, q.1 < p.1) (hT : ∀ q ∈ news, q.1 < T) (hd : DatAll ((T, o) :: tl) ys ds) :
    ∃ tl' : Led, Sub tl' ((T, o) :: nw) ∧ (∀ q ∈ news, ∀ p ∈ tl', q.1 < p.1) ∧ DatAll tl' ys ds := by
  refine ⟨(T, o) :: tl, fun q hq => ?_, fun q hq p hp => ?_, hd⟩
  · rcases List.mem_cons.mp hq with rfl | hq
    · exact .head _
    · exact .tail _ (ht _ hq)
  · rcases List.mem_cons.mp hp with rfl | hp
    · exact hT q hq
    · exact hf q hq p hp
theorem freshOne {news news' : Led} {T : Addr} {o : Obj} {r : Value} {d : Dat} (hT : ∀ q ∈ news, q.1 < T) (hm : (T, o) ∈ news') (hd : DatIn [(T, o)] r d) : FreshDat news news' r d :=
  ⟨[(T, o)], fun q hq => by rw [List.mem_singleton] at hq; rw [hq]; exact hm, fun q hq p hp => by rw [List.mem_singleton] at hp; rw [hp]; exact hT q hq, hd⟩
end Mine
end

section
open PySem PySem.Spec PySem.Calls PySem.W PyProof.Rows PyProof.V
set_option Elab.async false
set_option maxRecDepth 100000
namespace Mine
open SeqAt
mutual
def datDepth : Dat → Nat
  | .tuple ds => datDepths ds + 1
  | .list ds => datDepths ds + 1
  | _ => 0
def datDepths : List Dat → Nat
  | [] => 0
  | d :: ds => max (datDepth d) (datDepths ds)
end
theorem datDepths_le : ∀ {ds : List Dat} {i : Nat} {d : Dat}, ds[i]? = some d → datDepth d ≤ datDepths ds
  | [], _, _, h => by simp at h
  | d :: ds, 0, _, h => by simp at h; subst h; rw [datDepths]; exact Nat.le_max_left _ _
  | d :: ds, i + 1, _, h => by rw [datDepths]; exact Nat.le_trans (datDepths_le (ds := ds) (i := i) (by simpa using h)) (Nat.le_max_right _ _)
theorem eqAt_int (a : Int) (t u : Tok) (A : Around) (s : Shared) : EqAt A s (.int a t) (.int a u) true := fun prog w E Q h => wpAny_eqBool_int (by simpa using h)
theorem eqAt_str (a : Str) (t u : Tok) (A : Around) (s : Shared) : EqAt A s (.str a t) (.str a u) true := fun prog w E Q h => wpAny_eqBool_str (by simpa using h)
theorem eqAt_bytes (a : By) (t u : Tok) (A : Around) (s : Shared) : EqAt A s (.bytes a t) (.bytes a u) true := fun prog w E Q h => eqBool_bytes (by simpa using h)
section
variable {h₀ : Heap} {L : Addr} {news : Led} {s : Shared}
theorem isTuple_led (N : News h₀ L s.heap news) {a : Addr} {vs : List Value} {n : Nat} (h : (a, ({ cls := .type "tuple", data := .seq vs.toArray n } : Obj)) ∈ news) : s.heap.IsTuple a vs.toArray := ⟨_, N.get h, rfl, n, rfl⟩
theorem isList_led (N : News h₀ L s.heap news) {a : Addr} {vs : List Value} {n : Nat} (h : (a, listOf vs.toArray n) ∈ news) : s.heap.IsList a vs.toArray := ⟨_, N.get h, rfl, n, rfl⟩
theorem items_eq {A : Around} {vs vs' : List Value} {ds : List Dat} (D : DatAll news vs ds) (D' : DatAll news vs' ds) (he : ∀ d v v', datDepth d ≤ datDepths ds → DatIn news v d → DatIn news v' d → EqAt A s v v' true) :
    ∀ j (h1 : j < vs.toArray.size) (h2 : j < vs'.toArray.size), EqAt A s vs.toArray[j] vs'.toArray[j] true := by
  intro j h1 h2
  have hj : j < ds.length := by rw [← D.length]; simpa using h1
  obtain ⟨v, hv, hd⟩ := D.get hj
  obtain ⟨v', hv', hd'⟩ := D'.get hj
  have e1 : vs.toArray[j] = v := by
    have : vs[j]? = some vs.toArray[j] := by simp at h1; simp [h1]
    rw [hv] at this; exact (Option.some.inj this).symm
  have e2 : vs'.toArray[j] = v' := by
    have : vs'[j]? = some vs'.toArray[j] := by simp at h2; simp [h2]
    rw [hv'] at this; exact (Option.some.inj this).symm
  rw [e1, e2]
  exact he _ _ _ (datDepths_le (List.getElem?_eq_getElem hj)) hd hd'
theorem all_true (n : Nat) : (List.range n).all (fun _ => true) = true := by simp
theorem dat_eq (N : News h₀ L s.heap news) : ∀ (n : Nat) (d : Dat) (v v' : Value) (A : Around), datDepth d ≤ n → A.units + n < cLine → DatIn news v d → DatIn news v' d → EqAt A s v v' true := by
  intro n
  induction n with
  | zero =>
    intro d v v' A hn hu h h'
    cases h with
    | none => cases h'; exact EqAt.same _
    | bool b => cases h'; exact EqAt.same _
    | int i t => cases h' with | int _ u => exact eqAt_int i t u A s
    | str x t => cases h' with | str _ u => exact eqAt_str x t u A s
    | bytes x t => cases h' with | bytes _ u => exact eqAt_bytes x t u A s
    | tuple _ _ => rw [datDepth] at hn; omega
    | list _ _ => rw [datDepth] at hn; omega
  | succ n ih =>
    intro d v v' A hn hu h h'
    cases h with
    | none => cases h'; exact EqAt.same _
    | bool b => cases h'; exact EqAt.same _
    | int i t => cases h' with | int _ u => exact eqAt_int i t u A s
    | str x t => cases h' with | str _ u => exact eqAt_str x t u A s
    | bytes x t => cases h' with | bytes _ u => exact eqAt_bytes x t u A s
    | @tuple a vs k ds hm D => cases h' with
      | @tuple b vs' k' _ hm' D' =>
        rw [datDepth] at hn
        by_cases e : a = b
        · subst e; exact EqAt.same _
        · refine EqAt.of_refs e ?_
          have R := RcAt.tuples (A := A) (e := fun _ => true) (isTuple_led N hm) (isTuple_led N hm') (by omega) (items_eq D D' fun d v v' hd h1 h2 => ih d v v' A.in1 (by omega) (by show A.units + 1 + n < cLine; omega) h1 h2)
          have e2 : ((List.range (min vs.toArray.size vs'.toArray.size)).all (fun _ => true) && vs.toArray.size == vs'.toArray.size) = true := by
            rw [all_true, List.size_toArray, List.size_toArray, D.length, D'.length]; simp
          rw [e2] at R; exact R
    | @list a vs k ds hm D => cases h' with
      | @list b vs' k' _ hm' D' =>
        rw [datDepth] at hn
        by_cases e : a = b
        · subst e; exact EqAt.same _
        · refine EqAt.of_refs e ?_
          have R := RcAt.lists (A := A) (e := fun _ => true) (isList_led N hm) (isList_led N hm') (by rw [List.size_toArray, List.size_toArray, D.length, D'.length]) (by omega) (items_eq D D' fun d v v' hd h1 h2 => ih d v v' A.in1 (by omega) (by show A.units + 1 + n < cLine; omega) h1 h2)
          rw [all_true] at R; exact R
theorem eq_tupDat {prog : Program} {w : World} {A : Around} {E : Value → Shared → Prop} {Q : Value → Shared → Prop} {n : Nat} {ds : List Dat} {v v' : Value} (N : News h₀ L s.heap news) (h : DatIn news v (.tuple ds)) (h' : DatIn news v' (.tuple ds)) (hn : datDepths ds ≤ n) (hu : A.units + n + 1 < cLine) (hq : Q (.bool true) s) :
    wpAny (model prog w) A (compareOp .Eq v v') Q E s := by
  cases h with
  | @tuple a vs k _ hm D => cases h' with
    | @tuple b vs' k' _ hm' D' =>
      have R := RcAt.tuples (A := A) (e := fun _ => true) (isTuple_led N hm) (isTuple_led N hm') (by omega) (items_eq D D' fun d v v' hd h1 h2 => dat_eq N n d v v' A.in1 (by omega) (by show A.units + 1 + n < cLine; omega) h1 h2)
      have e2 : ((List.range (min vs.toArray.size vs'.toArray.size)).all (fun _ => true) && vs.toArray.size == vs'.toArray.size) = true := by
        rw [all_true, List.size_toArray, List.size_toArray, D.length, D'.length]; simp
      rw [e2] at R; exact R prog w E Q hq
theorem ne_tupDat {prog : Program} {w : World} {A : Around} {E : Value → Shared → Prop} {Q : Value → Shared → Prop} {n : Nat} {ds : List Dat} {v v' : Value} (N : News h₀ L s.heap news) (h : DatIn news v (.tuple ds)) (h' : DatIn news v' (.tuple ds)) (hn : datDepths ds ≤ n) (hu : A.units + n + 1 < cLine) (hq : Q (.bool false) s) :
    wpAny (model prog w) A (compareOp .NotEq v v') Q E s := by
  cases h with
  | @tuple a vs k _ hm D => cases h' with
    | @tuple b vs' k' _ hm' D' =>
      have R := RcNeAt.tuples (A := A) (e := fun _ => true) (isTuple_led N hm) (isTuple_led N hm') (by omega) (items_eq D D' fun d v v' hd h1 h2 => dat_eq N n d v v' A.in1 (by omega) (by show A.units + 1 + n < cLine; omega) h1 h2)
      have e2 : (!((List.range (min vs.toArray.size vs'.toArray.size)).all (fun _ => true) && vs.toArray.size == vs'.toArray.size)) = false := by
        rw [all_true, List.size_toArray, List.size_toArray, D.length, D'.length]; simp
      rw [e2] at R; exact R prog w E Q hq
end
end Mine
end

section
open PySem PySem.Spec PySem.Calls PySem.W PyProof.Rows PyProof.V
set_option Elab.async false
set_option maxRecDepth 100000
namespace Mine
section
variable {prog : Program} {w : World} {A : Around} {E : Value → Shared → Prop} {h₀ : Heap} {env : Env} {target : Expr} {body : List Stmt} {Q : Flow → Shared → Prop} {s : Shared} {ws : List (Addr × String)} {keep : Led}
theorem unrPost_mono {L : Addr} {s₁ : Shared} {its : Led} {rest rest' : (Str → Option Value) → Led → Prop} (hr : ∀ m n, rest m n → rest' m n) {f : Flow} {s₂ : Shared} (h : UnrPostW h₀ L s₁ its rest Q f s₂) : UnrPostW h₀ L s₁ its rest' Q f s₂ := by
  have up : UnrEndW h₀ L s₁ its rest s₂ → UnrEndW h₀ L s₁ its rest' s₂ := fun ⟨h', tk, m', news', a, b, c, d, e⟩ => ⟨h', tk, m', news', a, b, c, d, hr _ _ e⟩
  cases f with
  | ret v => exact h
  | brk => exact h
  | next => exact up h
  | cont => exact up h
theorem allObj_mono : ∀ {ws : List (Addr × String)} {k k' : Led → Prop}, (∀ its, k its → k' its) → AllObj ws k → AllObj ws k'
  | [], _, _, h, x => h _ x
  | _ :: _, _, _, h, x => fun o ho => allObj_mono (fun its => h _) (x o ho)
/-- the turns of a for by what holds between them -/
theorem itemsRest_ind (Inv : Nat → (Str → Option Value) → Led → Prop) (xs : List Itm) (fin : ∀ m nw, Inv xs.length m nw → ∀ h tk, Fr h₀ env.locals h m → News h₀ env.locals h nw → Q .next { s with heap := h, toks := tk })
    (turn : ∀ i a m nw, xs[i]? = some a → Inv i m nw → ∀ v h tk, a.Is v h → Fr h₀ env.locals h m → AllObj ws (fun its => News h₀ env.locals h (its ++ nw) →
      wpAny (model prog w) A (assign target env v) (fun _ s₂ => wpAny (model prog w) A (execs body env) (UnrPostW h₀ env.locals { s with heap := h, toks := tk } its (fun m' n' => SubL keep n' ∧ Inv (i + 1) m' n') Q) E s₂) E { s with heap := h, toks := tk })) :
    ∀ k i m nw, i + k = xs.length → Inv i m nw → ItemsRest prog w A E h₀ env target body Q s ws keep (xs.drop i) m nw := by
  intro k
  induction k with
  | zero =>
    intro i m nw e hi
    obtain rfl : i = xs.length := e
    rw [List.drop_length]
    exact ItemsRest.zero (fin m nw hi)
  | succ k ih =>
    intro i m nw e hi
    have hlt : i < xs.length := by omega
    rw [List.drop_eq_getElem_cons hlt]
    intro v h tk ha F
    refine allObj_mono (fun its hk N => ?_) (turn i _ m nw (List.getElem?_eq_getElem hlt) hi v h tk ha F)
    exact wpAny_mono (hk N) (fun _ s₂ h₂ => wpAny_mono h₂ (fun f s₃ h₃ => unrPost_mono (fun m' n' ⟨a, b⟩ => ⟨a, ih (i + 1) m' n' (by omega) b⟩) h₃) fun _ _ e => e) fun _ _ e => e
theorem if_same (x : Str) (m₀ : Str → Option Value) : m₀ = fun y => if y = x then m₀ y else m₀ y := by funext y; simp
theorem if_next (x : Str) (m₀ u : Str → Option Value) (v : Option Value) : ∃ u' : Str → Option Value, (fun y => if y = x then v else (fun y => if y = x then u y else m₀ y) y) = fun y => if y = x then u' y else m₀ y :=
  ⟨fun _ => v, by funext y; by_cases h : y = x <;> simp [h]⟩
/-- a for that changes nothing but its own name -/
theorem itemsRest_same (x : Str) (m₀ : Str → Option Value) (nw : Led) (xs : List Itm) (fin : ∀ (u : Str → Option Value) (h : Heap) (tk : Nat), Fr h₀ env.locals h (fun y => if y = x then u y else m₀ y) → News h₀ env.locals h nw → Q .next { s with heap := h, toks := tk })
    (turn : ∀ (i : Nat) (a : Itm) (u : Str → Option Value), xs[i]? = some a → ∀ (v : Value) (h : Heap) (tk : Nat), a.Is v h → Fr h₀ env.locals h (fun y => if y = x then u y else m₀ y) → AllObj ws (fun its => News h₀ env.locals h (its ++ nw) →
      wpAny (model prog w) A (assign target env v) (fun _ s₂ => wpAny (model prog w) A (execs body env) (UnrPostW h₀ env.locals { s with heap := h, toks := tk } its (fun m' n' => SubL keep n' ∧ (∃ u' : Str → Option Value, m' = fun y => if y = x then u' y else m₀ y) ∧ n' = nw) Q) E s₂) E { s with heap := h, toks := tk })) :
    ItemsRest prog w A E h₀ env target body Q s ws keep xs m₀ nw := by
  have := itemsRest_ind (prog := prog) (w := w) (A := A) (E := E) (h₀ := h₀) (env := env) (target := target) (body := body) (Q := Q) (s := s) (ws := ws) (keep := keep)
    (fun _ m n => (∃ u' : Str → Option Value, m = fun y => if y = x then u' y else m₀ y) ∧ n = nw) xs (fun m n ⟨⟨u, e⟩, e'⟩ h tk F N => by subst e e'; exact fin u h tk F N)
    (fun i a m n hx ⟨⟨u, e⟩, e'⟩ v h tk ha F => by subst e e'; exact turn i a u hx v h tk ha F) xs.length 0 m₀ nw (Nat.zero_add _) ⟨⟨m₀, if_same x m₀⟩, rfl⟩
  simpa using this
theorem kyStr {w : World} : ∀ (k : Str) (v : Value), (sK w).is k v = true → ∃ t, v = kyVal (PyData.str k) t := fun k v h => by
  cases v <;> simp [PySem.strKind, Value.isStrOf] at h
  subst h; exact ⟨_, rfl⟩
end
/-- the turn's end that leaves the ledger -/
theorem unrEnd_one {h₀ : Heap} {L I : Addr} {oI : Obj} {s₁ : Shared} {rest : (Str → Option Value) → Led → Prop} {Q : Flow → Shared → Prop} {h' : Heap} {tk : Nat} {m' : Str → Option Value} {all nw : Led} (F : Fr h₀ L h' m') (N : News h₀ L h' all) (hI : (I, oI) ∈ all) (hs : Sub nw all) (off : ∀ p ∈ nw, p.1 ≠ I) (r : rest m' nw) :
    UnrPostW h₀ L s₁ [(I, oI)] rest Q .next { s₁ with heap := h', toks := tk } :=
  ⟨h', tk, m', nw, rfl, F, fun p hp => by
    rcases List.mem_append.mp hp with hp | hp
    · rw [List.mem_singleton.mp hp]; exact N _ hI
    · exact N p (hs p hp), fun p hp q hq => by rw [List.mem_singleton.mp hq]; exact off p hp, r⟩
theorem unrEndW_one {h₀ : Heap} {L I : Addr} {oI : Obj} {s₁ : Shared} {rest : (Str → Option Value) → Led → Prop} {h' : Heap} {tk : Nat} {m' : Str → Option Value} {all nw : Led} (F : Fr h₀ L h' m') (N : News h₀ L h' all) (hI : (I, oI) ∈ all) (hs : Sub nw all) (off : ∀ p ∈ nw, p.1 ≠ I) (r : rest m' nw) :
    UnrEndW h₀ L s₁ [(I, oI)] rest { s₁ with heap := h', toks := tk } :=
  ⟨h', tk, m', nw, rfl, F, fun p hp => by
    rcases List.mem_append.mp hp with hp | hp
    · rw [List.mem_singleton.mp hp]; exact N _ hI
    · exact N p (hs p hp), fun p hp q hq => by rw [List.mem_singleton.mp hq]; exact off p hp, r⟩
theorem if_step (x : Str) (m₀ u : Str → Option Value) (v : Option Value) : (fun y => if y = x then v else if y = x then u y else m₀ y) = fun y => if y = x then (fun _ => v) y else m₀ y := by
  funext y; by_cases h : y = x <;> simp [h]
end Mine
end

section
open PySem PySem.Spec PySem.Calls PySem.W PyProof.Rows PyProof.V
set_option Elab.async false
set_option maxRecDepth 100000
namespace Mine
def putF (σ : List File) (f : File) : List File := if σ.any (fun g => decide (g.path = f.path)) then σ.map (fun g => if g.path = f.path then f else g) else σ ++ [f]
def addF (σ : List File) (p : Str) (b : By) : List File := σ.map fun g => if g.path = p then ⟨g.path, g.kind, g.rows ++ [b]⟩ else g
theorem putT_fst (τ : Tau) (f : File) (c : Addr) : (putT τ f c).map (·.1) = putF (τ.map (·.1)) f := by
  unfold putT putF
  rw [List.any_map]
  show _ = if τ.any (fun q => decide (q.1.path = f.path)) = true then _ else _
  split
  · simp only [List.map_map]
    refine List.map_congr_left fun q _ => ?_
    show (if q.1.path = f.path then (f, c) else q).1 = if q.1.path = f.path then f else q.1
    split <;> rfl
  · simp
theorem addT_fst (τ : Tau) (p : Str) (b : By) : (addT τ p b).map (·.1) = addF (τ.map (·.1)) p b := by
  unfold addT addF
  simp only [List.map_map]
  refine List.map_congr_left fun q _ => ?_
  show (if q.1.path = p then _ else q).1 = if q.1.path = p then _ else q.1
  split <;> rfl
theorem addT_snd (τ : Tau) (p : Str) (b : By) : (addT τ p b).map (·.2) = τ.map (·.2) := by
  unfold addT
  simp only [List.map_map]
  refine List.map_congr_left fun q _ => ?_
  show (if q.1.path = p then _ else q).2 = q.2
  split <;> rfl
theorem putT_sub (τ : Tau) (f : File) (c : Addr) : ∀ a ∈ (putT τ f c).map (·.2), a = c ∨ a ∈ τ.map (·.2) := by
  intro a ha
  obtain ⟨q, hq, rfl⟩ := List.mem_map.mp ha
  unfold putT at hq
  split at hq
  · obtain ⟨r, hr, rfl⟩ := List.mem_map.mp hq
    split
    · exact .inl rfl
    · exact .inr (List.mem_map_of_mem hr)
  · rcases List.mem_append.mp hq with hq | hq
    · exact .inr (List.mem_map_of_mem hq)
    · rw [List.mem_singleton.mp hq]; exact .inl rfl
theorem putT_nodup {τ : Tau} {f : File} {c : Addr} (hp : (τ.map (·.1.path)).Nodup) (hn : (τ.map (·.2)).Nodup) (hc : c ∉ τ.map (·.2)) : ((putT τ f c).map (·.2)).Nodup := by
  unfold putT
  split
  · rename_i h; clear h
    induction τ with
    | nil => exact .nil
    | cons q τ ih =>
      simp only [List.map_cons, List.nodup_cons, List.mem_cons, not_or] at hp hn hc
      have ih' := ih hp.2 hn.2 hc.2
      by_cases e : q.1.path = f.path
      · have rest : τ.map (fun q => if q.1.path = f.path then (f, c) else q) = τ := by
          refine (List.map_congr_left (g := id) fun r hr => ?_).trans (List.map_id _)
          have : r.1.path ≠ f.path := fun e' => hp.1 (by rw [e, ← e']; exact List.mem_map_of_mem (f := fun q : File × Addr => q.1.path) hr)
          simp [this]
        simp only [List.map_cons, e, if_true, rest, List.nodup_cons]
        exact ⟨hc.2, hn.2⟩
      · simp only [List.map_cons, e, if_false, List.nodup_cons]
        refine ⟨fun hm => ?_, ih'⟩
        obtain ⟨r, hr, er⟩ := List.mem_map.mp hm
        obtain ⟨r', hr', rfl⟩ := List.mem_map.mp hr
        split at er
        · exact hc.1 er
        · exact hn.1 (by rw [← er]; exact List.mem_map_of_mem (f := fun q : File × Addr => q.2) hr')
  · rw [List.map_append, List.nodup_append]
    refine ⟨hn, by simp, fun a ha b hb => ?_⟩
    simp at hb
    rintro rfl
    exact hc (hb ▸ ha)
theorem look_put (τ : Tau) (f : File) (c : Addr) : lookT (putT τ f c) f.path = some (f, c) := by
  unfold putT
  split
  · rename_i h
    induction τ with
    | nil => simp at h
    | cons q τ ih =>
      by_cases e : q.1.path = f.path
      · simp [lookT, e]
      · have h' : τ.any (fun q => decide (q.1.path = f.path)) = true := by simpa [e] using h
        have e2 : lookT ((q :: τ).map fun q => if q.1.path = f.path then (f, c) else q) f.path = lookT (τ.map fun q => if q.1.path = f.path then (f, c) else q) f.path := by simp [lookT, e]
        rw [e2]; exact ih h'
  · rename_i h
    induction τ with
    | nil => simp [lookT]
    | cons q τ ih =>
      simp only [List.any_cons, Bool.or_eq_true, not_or] at h
      have e : ¬ q.1.path = f.path := by simpa using h.1
      have e2 : lookT ((q :: τ) ++ [(f, c)]) f.path = lookT (τ ++ [(f, c)]) f.path := by simp [lookT, e]
      rw [e2]; exact ih h.2
theorem look_add {τ : Tau} {p : Str} {f : File} {c : Addr} (b : By) (h : lookT τ p = some (f, c)) : lookT (addT τ p b) p = some (⟨f.path, f.kind, f.rows ++ [b]⟩, c) := by
  unfold addT
  induction τ with
  | nil => simp [lookT] at h
  | cons q τ ih =>
    by_cases e : q.1.path = p
    · have h' : q = (f, c) := by simpa [lookT, e] using h
      subst h'
      simp only [List.map_cons]
      rw [if_pos e]
      simp [lookT, (show f.path = p from e)]
    · have e1 : lookT (q :: τ) p = lookT τ p := by simp [lookT, e]
      rw [e1] at h
      have e2 : lookT ((q :: τ).map fun q => if q.1.path = p then ((⟨q.1.path, q.1.kind, q.1.rows ++ [b]⟩, q.2) : File × Addr) else q) p = lookT (τ.map fun q => if q.1.path = p then ((⟨q.1.path, q.1.kind, q.1.rows ++ [b]⟩, q.2) : File × Addr) else q) p := by simp [lookT, e]
      rw [e2]; exact ih h
/-- the shelf's dict and the law's, apart -/
structure Two (w : World) (pr : List Addr) (news : Led) (D1 D2 : Addr) (τ1 τ2 : Tau) : Prop where
  one : FilesAt w news D1 τ1
  two : FilesAt w news D2 τ2
  apart : (D1 :: D2 :: (τ1.map (·.2) ++ τ2.map (·.2))).Nodup
  off : ∀ a ∈ pr, a ∉ D1 :: D2 :: (τ1.map (·.2) ++ τ2.map (·.2))
  there : ∀ a ∈ pr, ∃ o, (a, o) ∈ news
section
variable {w : World} {pr : List Addr} {news news' : Led} {D1 D2 : Addr} {τ1 τ2 : Tau}
theorem FilesAt.mem {D : Addr} {τ : Tau} (h : FilesAt w news D τ) : ∃ o, (D, o) ∈ news ∧ o.cls ≠ .type "tuple" := by
  obtain ⟨⟨o, kvs, hD, ⟨es, ep, hx, _⟩, _⟩, _⟩ := h
  exact ⟨o, hD, by rw [hx.1]; decide⟩
theorem FilesAt.pathsNodup {D : Addr} {τ : Tau} (h : FilesAt w news D τ) : (τ.map (·.1.path)).Nodup := by
  obtain ⟨⟨o, kvs, hD, ⟨es, ep, _, _, _, _, hn⟩, hF⟩, _⟩ := h
  rw [← hF.paths]; exact hn
theorem FilesAt.contMem {D : Addr} {τ : Tau} (h : FilesAt w news D τ) : ∀ a ∈ τ.map (·.2), ∃ o, (a, o) ∈ news := by
  obtain ⟨⟨o, kvs, hD, hk, hF⟩, _⟩ := h
  clear hD hk
  induction hF with
  | nil => intro a ha; simp at ha
  | cons _ h2 _ _ _ ih =>
    intro a ha
    rcases List.mem_cons.mp ha with rfl | ha
    · exact ⟨_, h2⟩
    · exact ih a ha
theorem Two.sub (h : Two w pr news D1 D2 τ1 τ2) (hs : Sub news news') : Two w pr news' D1 D2 τ1 τ2 :=
  ⟨h.one.sub hs, h.two.sub hs, h.apart, h.off, fun a ha => let ⟨o, ho⟩ := h.there a ha; ⟨o, hs _ ho⟩⟩
theorem Two.ne (h : Two w pr news D1 D2 τ1 τ2) : D1 ≠ D2 ∧ D1 ∉ τ1.map (·.2) ∧ D1 ∉ τ2.map (·.2) ∧ D2 ∉ τ1.map (·.2) ∧ D2 ∉ τ2.map (·.2) ∧ (τ1.map (·.2)).Nodup ∧ (τ2.map (·.2)).Nodup ∧ ∀ a ∈ τ1.map (·.2), a ∉ τ2.map (·.2) := by
  have h1 := List.nodup_cons.mp h.apart
  have h2 := List.nodup_cons.mp h1.2
  have h3 := List.nodup_append.mp h2.2
  simp only [List.mem_cons, List.mem_append, not_or] at h1 h2
  exact ⟨h1.1.1, h1.1.2.1, h1.1.2.2, h2.1.1, h2.1.2, h3.1, h3.2.1, fun a ha hb => h3.2.2 a ha a hb rfl⟩
theorem Two.fresh (h : Two w pr news D1 D2 τ1 τ2) {c : Addr} (hc : ∀ q ∈ news, q.1 < c) : c ∉ D1 :: D2 :: (τ1.map (·.2) ++ τ2.map (·.2)) ∧ ∀ a ∈ pr, a ≠ c := by
  refine ⟨fun hm => ?_, fun a ha e => ?_⟩
  · simp only [List.mem_cons, List.mem_append] at hm
    rcases hm with rfl | rfl | hm | hm
    · obtain ⟨o, ho, _⟩ := h.one.mem; exact Nat.lt_irrefl _ (hc _ ho)
    · obtain ⟨o, ho, _⟩ := h.two.mem; exact Nat.lt_irrefl _ (hc _ ho)
    · obtain ⟨o, ho⟩ := h.one.contMem c hm; exact Nat.lt_irrefl _ (hc _ ho)
    · obtain ⟨o, ho⟩ := h.two.contMem c hm; exact Nat.lt_irrefl _ (hc _ ho)
  · obtain ⟨o, ho⟩ := h.there a ha
    subst e
    exact Nat.lt_irrefl _ (hc _ ho)
theorem apart_put {f : File} {c : Addr} (h : (D1 :: D2 :: (τ1.map (·.2) ++ τ2.map (·.2))).Nodup) (hp : (τ1.map (·.1.path)).Nodup) (hc : c ∉ D1 :: D2 :: (τ1.map (·.2) ++ τ2.map (·.2))) : (D1 :: D2 :: ((putT τ1 f c).map (·.2) ++ τ2.map (·.2))).Nodup := by
  have h1 := List.nodup_cons.mp h
  have h2 := List.nodup_cons.mp h1.2
  have h3 := List.nodup_append.mp h2.2
  simp only [List.mem_cons, List.mem_append, not_or] at h1 h2 hc
  have hs := putT_sub τ1 f c
  refine List.nodup_cons.mpr ⟨fun hm => ?_, List.nodup_cons.mpr ⟨fun hm => ?_, List.nodup_append.mpr ⟨putT_nodup hp h3.1 hc.2.2.1, h3.2.1, fun a ha b hb e => ?_⟩⟩⟩
  · simp only [List.mem_cons, List.mem_append] at hm
    rcases hm with e | hm | hm
    · exact h1.1.1 e
    · rcases hs _ hm with e | e
      · exact hc.1 e.symm
      · exact h1.1.2.1 e
    · exact h1.1.2.2 hm
  · simp only [List.mem_append] at hm
    rcases hm with hm | hm
    · rcases hs _ hm with e | e
      · exact hc.2.1 e.symm
      · exact h2.1.1 e
    · exact h2.1.2 hm
  · subst e
    rcases hs _ ha with e | e
    · exact hc.2.2.2 (e ▸ hb)
    · exact h3.2.2 _ e _ hb rfl
theorem apart_swap (h : (D1 :: D2 :: (τ1.map (·.2) ++ τ2.map (·.2))).Nodup) : (D2 :: D1 :: (τ2.map (·.2) ++ τ1.map (·.2))).Nodup :=
  (List.Perm.nodup_iff ((List.Perm.swap _ _ _).trans ((List.perm_append_comm.cons _).cons _))).mp h
theorem Two.swap (h : Two w pr news D1 D2 τ1 τ2) : Two w pr news D2 D1 τ2 τ1 :=
  ⟨h.two, h.one, apart_swap h.apart, fun a ha hm => h.off a ha (by simp only [List.mem_cons, List.mem_append] at hm ⊢; rcases hm with e | e | e | e <;> simp [e]), h.there⟩
theorem Two.put {f : File} {c : Addr} (h : Two w pr news D1 D2 τ1 τ2) (hf : Fun news) (h1 : FilesAt w news' D1 (putT τ1 f c)) (hK : Keep D1 news news') (hc : ∀ q ∈ news, q.1 < c) : Two w pr news' D1 D2 (putT τ1 f c) τ2 := by
  obtain ⟨n1, n2, n3, n4, n5, n6, n7, n8⟩ := h.ne
  obtain ⟨o1, ho1, ht1⟩ := h.one.mem
  obtain ⟨fr, fp⟩ := h.fresh hc
  refine ⟨h1, h.two.keep hf ho1 ht1 hK (Ne.symm n1) n3, apart_put h.apart h.one.pathsNodup fr, fun a ha hm => ?_, fun a ha => ?_⟩
  · simp only [List.mem_cons, List.mem_append] at hm
    have ho := h.off a ha
    simp only [List.mem_cons, List.mem_append, not_or] at ho
    rcases hm with e | e | e | e
    · exact ho.1 e
    · exact ho.2.1 e
    · rcases putT_sub _ _ _ _ e with e | e
      · exact fp a ha e
      · exact ho.2.2.1 e
    · exact ho.2.2.2 e
  · obtain ⟨o, ho⟩ := h.there a ha
    have hne := h.off a ha
    simp only [List.mem_cons, not_or] at hne
    exact ⟨o, hK _ ho hne.1⟩
theorem Two.add {p : Str} {b : By} {f : File} {c : Addr} {oc oc' : Obj} (h : Two w pr news D1 D2 τ1 τ2) (hf : Fun news) (hl : lookT τ1 p = some (f, c)) (hc : (c, oc) ∈ news) (ht : oc.cls ≠ .type "tuple") (hc' : (c, oc') ∈ news') (hC : ContIs w f.kind (f.rows ++ [b]) oc') (hK : Keep c news news') : Two w pr news' D1 D2 (addT τ1 p b) τ2 := by
  obtain ⟨n1, n2, n3, n4, n5, n6, n7, n8⟩ := h.ne
  have hcm : c ∈ τ1.map (·.2) := List.mem_map_of_mem (f := fun q : File × Addr => q.2) (List.mem_of_find?_eq_some hl)
  have d1 : D1 ≠ c := fun e => n2 (e ▸ hcm)
  have d2 : D2 ≠ c := fun e => n4 (e ▸ hcm)
  refine ⟨?_, h.two.keep hf hc ht hK d2 (n8 c hcm), by rw [addT_snd]; exact h.apart, by rw [addT_snd]; exact h.off, fun a ha => ?_⟩
  · have hpn := h.one.pathsNodup
    obtain ⟨⟨o, kvs, hD, hk, hF⟩, lo⟩ := h.one
    exact ⟨⟨o, kvs, hK _ hD d1, hk, hF.add hf hc ht hl n6 hK hc' hC (by rw [hF.paths]; exact hpn)⟩, lo⟩
  · obtain ⟨o, ho⟩ := h.there a ha
    have hne := h.off a ha
    simp only [List.mem_cons, List.mem_append, not_or] at hne
    exact ⟨o, hK _ ho fun e => hne.2.2.1 (by have e' : a = c := e; rw [e']; exact hcm)⟩
end
end Mine
end

section
open PySem PySem.Spec PySem.Calls PySem.W PyProof.Rows PyProof.V
set_option Elab.async false
set_option maxRecDepth 100000
set_option maxHeartbeats 8000000
namespace Mine
local macro_rules | `(tactic| k_mem) => `(tactic| (refine memOf ?_; ktr_member))
theorem kind_of_out {w : World} {news : Led} {x dx D : Addr} {pth : Str} {t : Tok} (S : ShelfAt w.params news x dx D) (H : NotAt w news D pth) :
   Does w 91 2 news [.ref x, .str pth t] (fun news' r => news' = news ∧ ∃ t, r = .str (Str.ofString "") t) := by
  unfold Does; k_fill
  intro p loose mean mg mb dp un gd cn cs a ccd cl outer A₀ base h₀ L m s Q E B F X N T hkf hd hu hret
  obtain ⟨hx, _, _, hdx⟩ := S
  obtain ⟨⟨o, kvs, hD, hk, hf⟩, lo⟩ := H
  refine wpAny_call ?_
  k_dflt ktr_enter
  k_steps
  refine kda_in (knd := sK w) (by k_asm) (by k_mem) hk (loOf lo) (strKind_is _ _ _ _) false (by rw [hf]; rfl) ?_
  (try dsimp only)
  k_steps
  exact hret _ _ _ _ (by k_asm) (by k_asm) ⟨rfl, _, rfl⟩
theorem kind_of_in {w : World} {news : Led} {x dx D : Addr} {pth : Str} {t : Tok} {f : File} {c : Addr} (S : ShelfAt w.params news x dx D) (H : At w news D pth f c) :
   Does w 91 2 news [.ref x, .str pth t] (fun news' r => news' = news ∧ ∃ t, r = .str f.kind t) := by
  unfold Does; k_fill
  intro p loose mean mg mb dp un gd cn cs a ccd cl outer A₀ base h₀ L m s Q E B F X N T hkf hd hu hret
  obtain ⟨hx, _, _, hdx⟩ := S
  obtain ⟨⟨o, kvs, tup, tk, n, hD, hk, hf, ht⟩, _, lo, _⟩ := H
  refine wpAny_call ?_
  k_dflt ktr_enter
  k_steps
  refine kda_in (knd := sK w) (by k_asm) (by k_mem) hk (loOf lo) (strKind_is _ _ _ _) true (by rw [hf]; rfl) ?_
  (try dsimp only)
  k_steps
  refine kda_item (knd := sK w) (by k_asm) (by k_mem) hk (strKind_is _ _ _ _) hf ?_
  (try dsimp only)
  k_steps
  exact hret _ _ _ _ (by k_asm) (by k_asm) ⟨rfl, _, rfl⟩
theorem content_of_in {w : World} {news : Led} {x dx D : Addr} {pth : Str} {t : Tok} {f : File} {c : Addr} (S : ShelfAt w.params news x dx D) (H : At w news D pth f c) :
   Does w 98 2 news [.ref x, .str pth t] (fun news' r => news' = news ∧ r = .ref c) := by
  unfold Does; k_fill
  intro p loose mean mg mb dp un gd cn cs a ccd cl outer A₀ base h₀ L m s Q E B F X N T hkf hd hu hret
  obtain ⟨hx, _, _, hdx⟩ := S
  obtain ⟨⟨o, kvs, tup, tk, n, hD, hk, hf, ht⟩, _, lo, _⟩ := H
  refine wpAny_call ?_
  k_dflt ktr_enter
  k_steps
  refine kdg_notin (knd := sK w) (by k_asm) (by k_mem) hk (loOf lo) (strKind_is _ _ _ _) true (by rw [hf]; rfl) ?_
  (try dsimp only)
  k_steps
  refine kda_item (knd := sK w) (by k_asm) (by k_mem) hk (strKind_is _ _ _ _) hf ?_
  (try dsimp only)
  k_steps
  exact hret _ _ _ _ (by k_asm) (by k_asm) ⟨rfl, rfl⟩
theorem begin_ {w : World} {news : Led} {x dx D : Addr} {pth kind : Str} {t u : Tok} {τ : Tau} (S : ShelfAt w.params news x dx D) (H : FilesAt w news D τ) (hn : D ∉ τ.map (·.2)) (hlen : τ.length ≤ 1000) (hkind : kind = Str.ofString "sequential" ∨ kind = relS ∨ kind = Str.ofString "indexed") :
   Does w 105 2 news [.ref x, .str pth t, .str kind u] (fun news' r => ∃ c, r = .ref c ∧ FilesAt w news' D (putT τ ⟨pth, kind, []⟩ c) ∧ At w news' D pth ⟨pth, kind, []⟩ c ∧ Keep D news news' ∧ ∀ q ∈ news, q.1 < c) := by
  unfold Does; k_fill
  intro p loose mean mg mb dp un gd cn cs a ccd cl outer A₀ base h₀ L m s Q E B F X N T hkf hd hu hret
  obtain ⟨hx, _, _, hdx⟩ := S
  obtain ⟨⟨o, kvs, hD, hk, hF⟩, lo⟩ := H
  have hsz : kvs.length ≤ sizeLine := by rw [hF.length, sizeLine_eq]; omega
  have hfun := fun_of N
  refine wpAny_call ?_
  rcases hkind with rfl | rfl | rfl <;> (
    k_dflt ktr_enter
    k_steps
    refine notIn_strs ((Frag.In.keeps (by k_asm) (Fr.keep (by k_asm))) 56 _ (by k_is)) (List.forall_mem_cons.mpr ⟨⟨_, _, rfl⟩, List.forall_mem_cons.mpr ⟨⟨_, _, rfl⟩, List.forall_mem_cons.mpr ⟨⟨_, _, rfl⟩, List.forall_mem_nil _⟩⟩⟩) ?_
    (try dsimp only)
    k_steps
    refine set_led (knd := sK w) (by k_asm) (by k_asm) (by k_mem) hk (strKind_is _ _ _ _) hsz ?_
    intro h9 o9 F9 N9 hd9
    (try dsimp only)
    k_steps
    first
      | exact hret _ _ _ _ (by k_asm) (by k_asm) ⟨_, rfl, begin_post hfun hD hk hF lo hn (by assumption) (And.left (by assumption)) (.inr ⟨by decide, [], 0, rfl, .nil⟩) hd9⟩
      | exact hret _ _ _ _ (by k_asm) (by k_asm) ⟨_, rfl, begin_post hfun hD hk hF lo hn (by assumption) (And.left (by assumption)) (.inl ⟨rfl, [], by assumption, .nil⟩) hd9⟩
      | fail "begin")
end Mine
end

section
open PySem PySem.Spec PySem.Calls PySem.W PyProof.Rows PyProof.V
set_option Elab.async false
set_option maxRecDepth 100000
set_option maxHeartbeats 8000000
namespace Mine
local macro_rules | `(tactic| k_mem) => `(tactic| (refine memOf ?_; ktr_member))
local macro_rules | `(tactic| walk_at "call ref") => `(tactic| (k_here; refine stop_ ?_))
local macro_rules | `(tactic| ktr_call $x:term $_c:term) => `(tactic| (refine stopped ?_; k_dflt (refine' Does.use $x ?d1 ?d2 ?d3 ?d4 ?d5 ?d6 ?d7 ?d8 ?_; (case d1 => k_asm); (case d2 => k_asm); (case d3 => k_asm); (case d4 => k_asm); (case d5 => k_asm); (case d6 => first | exact rfl | assumption); (case d7 => ktr_room); (case d8 => ktr_units))))
theorem subCons {a : Addr × Obj} {l : Led} : Sub l (a :: l) := fun _ h => .tail _ h

theorem opened_out {w : World} {news : Led} {x dx D : Addr} {pth kind : Str} {t u v : Tok} {τ : Tau} (S : ShelfAt w.params news x dx D) (H : FilesAt w news D τ) (hn : D ∉ τ.map (·.2)) (hlen : τ.length ≤ 1000) (hkind : kind = Str.ofString "sequential" ∨ kind = relS ∨ kind = Str.ofString "indexed") :
   Does w 117 4 news [.ref x, .str pth t, .str kind u, .str (Str.ofString "output") v] (fun news' r => ∃ T n tk c, r = .ref T ∧ (T, tupOf [.str (Str.ofString "00") tk, .ref c] n) ∈ news' ∧ FilesAt w news' D (putT τ ⟨pth, kind, []⟩ c) ∧ At w news' D pth ⟨pth, kind, []⟩ c ∧ Keep D news news' ∧ ∀ q ∈ news, q.1 < c) := by
  unfold Does; k_fill
  intro p loose mean mg mb dp un gd cn cs a ccd cl outer A₀ base h₀ L m s Q E B F X N T hkf hd hu hret
  have S' := S
  obtain ⟨hx, _, _, hdx⟩ := S
  refine wpAny_call ?_
  k_dflt ktr_enter
  k_steps
  ktr_call (begin_ S' H hn hlen hkind) 0
  rintro r1 news1 h1 tk1 F1 N1 ⟨c, rfl, P1, P2, P3, P4⟩
  (try dsimp only)
  k_steps
  exact hret _ _ _ _ (by k_asm) (by k_asm) ⟨_, _, _, _, rfl, .head _, P1.sub subCons, P2.sub subCons, fun q hq hn => .tail _ (P3 q hq hn), P4⟩
theorem opened_none {w : World} {news : Led} {x dx D : Addr} {pth kind mode : Str} {t u v : Tok} (S : ShelfAt w.params news x dx D) (H : NotAt w news D pth) (hm : mode ≠ Str.ofString "output") :
   Does w 117 4 news [.ref x, .str pth t, .str kind u, .str mode v] (fun news' r => ∃ T n tk, r = .ref T ∧ (T, tupOf [.str (Str.ofString "35") tk, .none] n) ∈ news' ∧ Sub news news') := by
  unfold Does; k_fill
  intro p loose mean mg mb dp un gd cn cs a ccd cl outer A₀ base h₀ L m s Q E B F X N T hkf hd hu hret
  obtain ⟨hx, _, _, hdx⟩ := S
  obtain ⟨⟨o, kvs, hD, hk, hf⟩, lo⟩ := H
  have hm' : (mode == Str.ofString "output") = false := by rw [beq_eq_false_iff_ne]; exact hm
  refine wpAny_call ?_
  k_dflt ktr_enter
  k_steps
  refine kdg_notin (knd := sK w) (by k_asm) (by k_mem) hk (loOf lo) (strKind_is _ _ _ _) false (by rw [hf]; rfl) ?_
  (try dsimp only)
  k_steps
  exact hret _ _ _ _ (by k_asm) (by k_asm) ⟨_, _, _, rfl, .head _, subCons⟩
theorem opened_diff {w : World} {news : Led} {x dx D : Addr} {pth kind mode : Str} {t u v : Tok} {f : File} {c : Addr} (S : ShelfAt w.params news x dx D) (H : At w news D pth f c) (hm : mode ≠ Str.ofString "output") (hdk : f.kind ≠ kind) :
   Does w 117 4 news [.ref x, .str pth t, .str kind u, .str mode v] (fun news' r => ∃ T n tk, r = .ref T ∧ (T, tupOf [.str (Str.ofString "39") tk, .none] n) ∈ news' ∧ Sub news news') := by
  unfold Does; k_fill
  intro p loose mean mg mb dp un gd cn cs a ccd cl outer A₀ base h₀ L m s Q E B F X N T hkf hd hu hret
  have S' := S
  have H' := H
  obtain ⟨hx, _, _, hdx⟩ := S
  obtain ⟨⟨o, kvs, tup, tk, n, hD, hk, hf, ht⟩, _, lo, _⟩ := H
  have hm' : (mode == Str.ofString "output") = false := by rw [beq_eq_false_iff_ne]; exact hm
  have hd' : (f.kind != kind) = true := by rw [bne_iff_ne]; exact hdk
  refine wpAny_call ?_
  k_dflt ktr_enter
  k_steps
  refine kdg_notin (knd := sK w) (by k_asm) (by k_mem) hk (loOf lo) (strKind_is _ _ _ _) true (by rw [hf]; rfl) ?_
  (try dsimp only)
  k_steps
  ktr_call (kind_of_in S' H') 0
  rintro r1 news1 h1 tk1 F1 N1 ⟨rfl, t1, rfl⟩
  (try dsimp only)
  k_steps
  exact hret _ _ _ _ (by k_asm) (by k_asm) ⟨_, _, _, rfl, .head _, subCons⟩
theorem opened_same {w : World} {news : Led} {x dx D : Addr} {pth kind mode : Str} {t u v : Tok} {f : File} {c : Addr} (S : ShelfAt w.params news x dx D) (H : At w news D pth f c) (hm : mode ≠ Str.ofString "output") (hdk : f.kind = kind) :
   Does w 117 4 news [.ref x, .str pth t, .str kind u, .str mode v] (fun news' r => ∃ T n tk, r = .ref T ∧ (T, tupOf [.str (Str.ofString "00") tk, .ref c] n) ∈ news' ∧ Sub news news') := by
  unfold Does; k_fill
  intro p loose mean mg mb dp un gd cn cs a ccd cl outer A₀ base h₀ L m s Q E B F X N T hkf hd hu hret
  have S' := S
  have H' := H
  obtain ⟨hx, _, _, hdx⟩ := S
  obtain ⟨⟨o, kvs, tup, tk, n, hD, hk, hf, ht⟩, _, lo, _⟩ := H
  have hm' : (mode == Str.ofString "output") = false := by rw [beq_eq_false_iff_ne]; exact hm
  have hd' : (f.kind != kind) = false := by rw [bne_eq_false_iff_eq]; exact hdk
  refine wpAny_call ?_
  k_dflt ktr_enter
  k_steps
  refine kdg_notin (knd := sK w) (by k_asm) (by k_mem) hk (loOf lo) (strKind_is _ _ _ _) true (by rw [hf]; rfl) ?_
  (try dsimp only)
  k_steps
  ktr_call (kind_of_in S' H') 0
  rintro r1 news1 h1 tk1 F1 N1 ⟨rfl, t1, rfl⟩
  (try dsimp only)
  k_steps
  ktr_call (content_of_in S' H') 0
  rintro r2 news2 h2 tk2 F2 N2 ⟨rfl, rfl⟩
  (try dsimp only)
  k_steps
  exact hret _ _ _ _ (by k_asm) (by k_asm) ⟨_, _, _, rfl, .head _, subCons⟩
theorem law_added_list {w : World} {news : Led} {c : Addr} {kind : Str} {t u : Tok} {b : By} {xs : List Value} {ep : Nat} (hk : kind ≠ relS) (hc : (c, listOf xs.toArray ep) ∈ news) (hz : xs.length ≤ 1000) :
   Does w 189 2 news [.str kind t, .ref c, .bytes b u] (fun news' r => r = .none ∧ (c, listOf (xs ++ [Value.bytes b u]).toArray (ep + 1)) ∈ news' ∧ Keep c news news') := by
  unfold Does; k_fill
  intro p loose mean mg mb dp un gd cn cs a ccd cl outer A₀ base h₀ L m s Q E B F X N T hkf hd hu hret
  have hk' : (kind == Str.ofString "relative") = false := by rw [beq_eq_false_iff_ne]; exact hk
  refine wpAny_call ?_
  k_dflt ktr_enter
  k_steps
  refine append_led (by k_asm) (by k_asm) (by k_mem) ?_ (by rw [List.size_toArray, sizeLine_eq]; omega)
  intro h9 F9 N9
  (try dsimp only)
  k_steps
  exact hret _ _ _ _ (by k_asm) (by k_asm) ⟨rfl, by rw [← List.push_toArray]; exact .head _, fun q hq hn => .tail _ (mem_dropL.mpr ⟨hq, hn⟩)⟩
theorem law_added_dict {w : World} {news : Led} {c : Addr} {kind : Str} {t u : Tok} {b : By} {o : Obj} {kvs : List (Int × Value)} (hk : kind = relS) (hc : (c, o) ∈ news) (ho : o.IsDictOf (iK w) kvs) (lo : @LT.lt Nat _ 1 c) (hz : kvs.length ≤ 1000) :
   Does w 189 2 news [.str kind t, .ref c, .bytes b u] (fun news' r => r = .none ∧ ∃ o', (c, o') ∈ news' ∧ o'.IsDictOf (iK w) (stored kvs ((kvs.length : Int) + 1) (.bytes b u)) ∧ Keep c news news') := by
  unfold Does; k_fill
  intro p loose mean mg mb dp un gd cn cs a ccd cl outer A₀ base h₀ L m s Q E B F X N T hkf hd hu hret
  subst hk
  refine wpAny_call ?_
  k_dflt ktr_enter
  k_steps
  refine kda_len (knd := iK w) (by k_asm) (by k_mem) ho (loOf lo) (by omega) ?_
  (try dsimp only)
  k_steps
  refine set_led (knd := iK w) (by k_asm) (by k_asm) (by k_mem) ho (intKind_is _ _ _ _) (by rw [sizeLine_eq]; omega) ?_
  intro h9 o9 F9 N9 hd9
  (try dsimp only)
  k_steps
  exact hret _ _ _ _ (by k_asm) (by k_asm) ⟨rfl, o9, .head _, hd9, fun q hq hn => .tail _ (mem_dropL.mpr ⟨hq, hn⟩)⟩
end Mine
end

section
open PySem PySem.Spec PySem.Calls PySem.W PyProof.Rows PyProof.V
set_option Elab.async false
set_option maxRecDepth 100000
namespace Mine
theorem BytesAre.length {xs : List Value} {bs : List By} (h : BytesAre xs bs) : xs.length = bs.length := by
  induction h with
  | nil => rfl
  | cons _ ih => simp [ih]
theorem NumAre.length {n : Nat} {kvs : List (Int × Value)} {bs : List By} (h : NumAre n kvs bs) : kvs.length = bs.length := by
  induction h with
  | nil => rfl
  | cons _ ih => simp [ih]
theorem BytesAre.snoc {xs : List Value} {bs : List By} (h : BytesAre xs bs) (b : By) (t : Tok) : BytesAre (xs ++ [Value.bytes b t]) (bs ++ [b]) := by
  induction h with
  | nil => exact .cons .nil
  | cons _ ih => exact .cons ih
theorem NumAre.snoc {n : Nat} {kvs : List (Int × Value)} {bs : List By} (h : NumAre n kvs bs) (b : By) (t : Tok) : NumAre n (kvs ++ [((n : Int) + bs.length, Value.bytes b t)]) (bs ++ [b]) := by
  induction h with
  | @nil n =>
    have e : ((n : Int) + ([] : List By).length) = (n : Int) := by simp
    rw [e]; exact .cons .nil
  | @cons n b' t' kvs bs _ ih =>
    have e : ((n : Int) + (b' :: bs).length) = ((n + 1 : Nat) : Int) + bs.length := by simp; omega
    rw [e]; exact .cons ih
theorem NumAre.none {n : Nat} {kvs : List (Int × Value)} {bs : List By} (h : NumAre n kvs bs) {k : Int} (hk : k < n ∨ (n : Int) + bs.length ≤ k) : valueAt kvs k = none := by
  induction h with
  | nil => rfl
  | @cons n b' t' kvs bs _ ih =>
    have hne : ¬ ((n : Int) = k) := by simp at hk; omega
    have e : valueAt (((n : Int), Value.bytes b' t') :: kvs) k = valueAt kvs k := by simp [valueAt, hne]
    rw [e]; refine ih ?_
    simp at hk; omega
theorem NumAre.some {n : Nat} {kvs : List (Int × Value)} {bs : List By} (h : NumAre n kvs bs) {i : Nat} (hi : i < bs.length) : ∃ t, valueAt kvs ((n : Int) + i) = some (.bytes bs[i] t) := by
  induction h generalizing i with
  | nil => exact absurd hi (Nat.not_lt_zero _)
  | @cons n b' t' kvs bs _ ih =>
    cases i with
    | zero => exact ⟨t', by simp [valueAt]⟩
    | succ i =>
      obtain ⟨t, ht⟩ := ih (i := i) (by simpa using hi)
      refine ⟨t, ?_⟩
      have hne : ¬ ((n : Int) = (n : Int) + ((i + 1 : Nat) : Int)) := by omega
      have e : valueAt (((n : Int), Value.bytes b' t') :: kvs) ((n : Int) + ((i + 1 : Nat) : Int)) = valueAt kvs (((n + 1 : Nat) : Int) + i) := by
        rw [show ((n : Int) + ((i + 1 : Nat) : Int)) = (((n + 1 : Nat) : Int) + i) by omega] at hne ⊢
        generalize (((n + 1 : Nat) : Int) + (i : Int)) = k at hne ⊢
        simp [valueAt, hne]
      rw [e, ht]; rfl
theorem Does.mono {w : World} {f : Addr} {d : Nat} {news : Led} {vs : List Value} {P P' : Led → Value → Prop} (h : Does w f d news vs P) (hp : ∀ n r, P n r → P' n r) : Does w f d news vs P' := by
  intro p loose mean mg mb dp un gd cn cs a ccd cl outer A₀ base h₀ L m s Q E B F X N T hk hd hu ret
  exact h p loose mean mg mb dp un gd cn cs a ccd cl outer A₀ base h₀ L m s Q E B F X N T hk hd hu fun r n h' tk F' N' hP => ret r n h' tk F' N' (hp _ _ hP)
theorem law_added_ {w : World} {news : Led} {c : Addr} {kind : Str} {t u : Tok} {b : By} {rows : List By} {oc : Obj} (hc : (c, oc) ∈ news) (hC : ContIs w kind rows oc) (lo : @LT.lt Nat _ 1 c) (hz : rows.length ≤ 1000) :
   Does w 189 2 news [.str kind t, .ref c, .bytes b u] (fun news' r => r = .none ∧ ∃ oc', (c, oc') ∈ news' ∧ ContIs w kind (rows ++ [b]) oc' ∧ Keep c news news') := by
  rcases hC with ⟨hk, kvs, ho, hN⟩ | ⟨hk, xs, ep, rfl, hB⟩
  · refine (law_added_dict hk hc ho lo (by rw [hN.length]; exact hz)).mono fun n r ⟨e, o', h1, h2, h3⟩ => ⟨e, o', h1, .inl ⟨hk, _, h2, ?_⟩, h3⟩
    have h0 : valueAt kvs ((kvs.length : Int) + 1) = none := hN.none (.inr (by rw [hN.length]; omega))
    rw [stored_absent h0]
    have h5 := hN.snoc b u
    rw [hN.length, show ((rows.length : Int) + 1) = ((1 : Nat) : Int) + rows.length by omega]
    exact h5
  · exact (law_added_list hk hc (by rw [hB.length]; exact hz)).mono fun n r ⟨e, h1, h2⟩ => ⟨e, _, h1, .inr ⟨hk, _, _, rfl, hB.snoc b u⟩, h2⟩
end Mine
end

section
open PySem PySem.Spec PySem.Calls PySem.W PyProof.Rows PyProof.V
set_option Elab.async false
set_option maxRecDepth 100000
set_option maxHeartbeats 4000000
namespace Mine
local macro_rules | `(tactic| k_mem) => `(tactic| (refine memOf ?_; ktr_member))
local macro_rules | `(tactic| walk_at "call ref") => `(tactic| (k_here; refine stop_ ?_))
local macro_rules | `(tactic| ktr_call $x:term $_c:term) => `(tactic| (refine stopped ?_; k_dflt (refine' Does.use $x ?d1 ?d2 ?d3 ?d4 ?d5 ?d6 ?d7 ?d8 ?_; (case d1 => k_asm); (case d2 => k_asm); (case d3 => k_asm); (case d4 => k_asm); (case d5 => k_asm); (case d6 => first | exact rfl | assumption); (case d7 => ktr_room); (case d8 => ktr_units))))
theorem allNe {news : Led} {b d : Addr} (h : ∀ q ∈ news, q.1 < b) (hb : @LE.le Nat _ b d) : ∀ q ∈ news, q.1 ≠ d := fun q hq => Nat.ne_of_lt (Nat.lt_of_lt_of_le (h q hq) hb)
local macro_rules | `(tactic| k_all) => `(tactic| exact allNe (by assumption) (by omega))
local macro_rules | `(tactic| cell_enter) => `(tactic| (refine' code_defC ?k1 ?k2 ?k3 ?k4 ?k5 ?kA ?kF ?kK ?k6 ?k7 ?k8 ?k9 ?kB ?kD ?_ ?c2 ?c3 ?c4; (case kA => exact rfl); (case kF => exact rfl); (case kK => assumption); (case k1 => k_asm); (case k2 => k_asm); (case k3 => k_asm); (case k4 => k_asm); (case k5 => k_asm); (case k6 => k_is); (case k7 => k_is); (case k8 => ktr_room); (case k9 => exact BindsTo.of_eq rfl); (case kB => exact rfl); (case kD => decide +kernel); (case c2 => exact rfl); (case c3 => exact rfl); (case c4 => exact rfl); k_whole; intro g' L' h' tk' cells' FG' F' N' Y' B' X' T' l1; k_cells Y'; (try simp only [List.cons_append, List.nil_append] at N'); (try dsimp only); (try k_fold)))

local macro_rules | `(tactic| walk_at "eval ListComp") => `(tactic| (k_here; refine stop_ ?_))
local macro_rules | `(tactic| walk_at "call builtin:sorted") => `(tactic| (k_here; refine stop_ ?_))
theorem NumAre.keys {n : Nat} {kvs : List (Int × Value)} {bs : List By} (h : NumAre n kvs bs) : kvs.map (·.1) = (List.range' n bs.length).map fun (i : Nat) => (i : Int) := by
  induction h with
  | nil => rfl
  | cons _ ih => simp [List.range'_succ, ih]
theorem range_asc (n k : Nat) : ((List.range' n k).map fun (i : Nat) => (i : Int)).Pairwise (· ≤ ·) := by
  rw [List.pairwise_map]
  exact (List.pairwise_le_range' (s := n) (n := k)).imp fun h => by omega
def numDat : Nat → List By → List Dat
  | _, [] => []
  | n, b :: bs => .tuple [.int n, .bytes b] :: numDat (n + 1) bs
def rowsDat (kind : Str) (rows : List By) : Dat := .tuple (if kind = relS then numDat 1 rows else rows.map .bytes)

theorem numDat_length : ∀ (n : Nat) (bs : List By), (numDat n bs).length = bs.length
  | _, [] => rfl
  | n, _ :: bs => by simp [numDat, numDat_length (n + 1) bs]
theorem numDat_get : ∀ (n : Nat) (bs : List By) (i : Nat) (hi : i < bs.length), (numDat n bs)[i]? = some (.tuple [.int ((n : Int) + i), .bytes bs[i]])
  | _, [], _, hi => absurd hi (Nat.not_lt_zero _)
  | n, b :: bs, 0, _ => by simp [numDat]
  | n, b :: bs, i + 1, hi => by
    have h := numDat_get (n + 1) bs i (by simpa using hi)
    rw [show ((n + 1 : Nat) : Int) + (i : Int) = (n : Int) + ((i + 1 : Nat) : Int) by omega] at h
    simpa [numDat] using h
theorem bytesDat {news : Led} {kind : Str} {xs : List Value} {bs : List By} (hk : kind ≠ relS) (h : BytesAre xs bs) : DatAll news xs (if kind = relS then numDat 1 bs else bs.map .bytes) := by
  rw [if_neg hk]
  induction h with
  | nil => exact .nil
  | cons _ ih => exact .cons (.bytes _ _) ih
theorem subDrop2 {a b : Addr × Obj} {l : Led} : Sub l (a :: b :: l) := fun _ h => .tail _ (.tail _ h)
theorem rows_of_ {w : World} {news : Led} {x dx D : Addr} {pth : Str} {t : Tok} {f : File} {c : Addr} (S : ShelfAt w.params news x dx D) (H : At w news D pth f c) (hz : f.rows.length ≤ 30) :
   Does w 122 4 news [.ref x, .str pth t] (fun news' r => Sub news news' ∧ FreshDat news news' r (rowsDat f.kind f.rows)) := by
  unfold Does; k_fill
  intro p loose mean mg mb dp un gd cn cs a ccd cl outer A₀ base h₀ L m s Q E B F X N T hkf hd hu hret
  have S' := S
  have H' := H
  obtain ⟨hx, _, _, hdx⟩ := S
  obtain ⟨⟨o, kvs, tup, tk, n, hD, hk, hf, ht⟩, ⟨oc, hc, hC⟩, lo, loc⟩ := H
  refine wpAny_call ?_
  rcases hC with ⟨hrel, kv2, ho, hN⟩ | ⟨hrel, xs, ep, rfl, hB⟩
  · have hrel' : (f.kind == Str.ofString "relative") = true := by rw [beq_iff_eq]; exact hrel
    k_dflt cell_enter
    k_steps
    ktr_call (content_of_in (S'.sub subCons) (H'.sub subCons)) 0
    rintro r1 news1 h1 tk1 F1 N1 ⟨rfl, rfl⟩
    (try dsimp only)
    k_steps
    ktr_call (kind_of_in (S'.sub subCons) (H'.sub subCons)) 0
    rintro r1 news1 h1 tk1 F1 N1 ⟨rfl, t1, rfl⟩
    (try dsimp only)
    k_steps
    refine stopped ?_
    k_dflt (refine LCg.ListComp_U (F₀ := by k_asm) (by with_unfolding_all rfl) (by decide) (by rfl) (by decide) (by rfl) ?_)
    k_steps
    refine stopped ?_
    refine sorted_dict_ints (by rfl) (by k_asm) (by k_asm) (by k_mem) ho (loOf loc) (by rw [hN.length]; omega) ?_
    intro D' h9 tk9 vs9 ns9 e9_1 F9 N9 l9 hI9 hp9 hP9
    (try dsimp only)
    k_steps
    have e9 : ns9 = (List.range' 1 f.rows.length).map fun (i : Nat) => (i : Int) := lks_uniq (by rw [← hN.keys]; exact hp9) hP9 (range_asc _ _)
    have hl9 : vs9.length = f.rows.length := by rw [hI9.length, e9]; simp
    refine LCg.CompSrc.ledger (by rfl) (by k_asm) (by k_asm) (List.Mem.head _) (by rw [List.size_toArray, hl9, sizeLine_eq]; omega) ?_
    intro g9
    refine compRest_ind (fun i ys nw => Sub ((D', listOf vs9.toArray e9_1) :: (_, _) :: news) nw ∧ ∃ tl : Led, Sub tl nw ∧ (∀ q ∈ news, ∀ p ∈ tl, q.1 < p.1) ∧ DatAll tl ys ((numDat 1 f.rows).take i)) _ ?fin ?turn _ 0 [] _ (Nat.zero_add _) ⟨subRefl, [], subNil, freshNil, DatAll.nil⟩
    · rintro ys nw ⟨hs, tl, ht, hf, hd⟩
      k_steps
      refine kde_tupleOf (by k_asm) (by k_asm) ⟨_, (News.get (by k_asm) (by k_mem)), rfl, _, rfl⟩ (by rw [List.size_toArray, hd.length, List.length_take, numDat_length]; omega) (List.toList_toArray ..) ?_
      intro D9 h8 F8 N8 l8
      (try dsimp only)
      k_steps
      refine hret _ _ _ _ (by k_asm) (by k_asm) ⟨fun q hq => .tail _ (.tail _ (hs q (.tail _ (.tail _ hq)))), (D9, tupOf ys 0) :: tl, ?_, ?_, .tuple (.head _) ?_⟩
      · intro q hq
        rcases List.mem_cons.mp hq with rfl | hq
        · exact .head _
        · exact .tail _ (.tail _ (ht _ hq))
      · intro q hq p hp
        rcases List.mem_cons.mp hp with rfl | hp
        · exact l8 _ (.tail _ (hs _ (.tail _ (.tail _ hq))))
        · exact hf q hq p hp
      rw [if_pos hrel]
      rw [List.take_of_length_le (by rw [numDat_length, List.size_toArray, hl9]; exact Nat.le_refl _)] at hd
      exact hd.mono subCons
    · rintro i ys nw hi ⟨hs, tl, ht, hf, hd⟩ v I oI C oC D9 m₂ h tk E' hP hC hx F N off ne
      have hcell := hs _ (List.Mem.tail _ (List.Mem.head _))
      have hc2 := hs _ (List.Mem.tail _ (List.Mem.tail _ hc))
      have hsrc := hs _ (List.Mem.head _)
      have hi' : i < f.rows.length := by rw [List.size_toArray, hl9] at hi; exact hi
      obtain ⟨t5, hv5⟩ := hI9.get i (((1 : Nat) : Int) + (i : Int)) (by rw [e9]; simp [hi'])
      have hv6 : v = .int (((1 : Nat) : Int) + (i : Int)) t5 := by
        have : vs9[i]? = some v := by simpa using hP
        rw [hv5] at this; exact (Option.some.inj this).symm
      subst hv6
      obtain ⟨t6, ht6⟩ := hN.some hi'
      k_steps
      refine kda_item (knd := iK w) (by k_asm) (by k_mem) ho (intKind_is _ _ _ _) ht6 ?_
      (try dsimp only)
      k_steps
      refine compEnd_one (by k_asm) (by k_asm) (by assumption) off (.inr ⟨_, .tail _ hsrc, rfl, _, rfl⟩) ⟨fun q hq => .tail _ (hs q hq), tl_cons ht hf (fun q hq => allLt_mem (And.right (And.right (And.right (by assumption)))) _ (hs _ (.tail _ (.tail _ hq)))) ?_⟩
      rw [List.take_add_one, numDat_get _ _ _ hi']
      exact (hd.mono subCons).append (.one (.tuple (.head _) (.cons (.int _ _) (.cons (.bytes _ _) .nil))))
  · have hrel' : (f.kind == Str.ofString "relative") = false := by rw [beq_eq_false_iff_ne]; exact hrel
    k_dflt cell_enter
    k_steps
    ktr_call (content_of_in (S'.sub subCons) (H'.sub subCons)) 0
    rintro r1 news1 h1 tk1 F1 N1 ⟨rfl, rfl⟩
    (try dsimp only)
    k_steps
    ktr_call (kind_of_in (S'.sub subCons) (H'.sub subCons)) 0
    rintro r1 news1 h1 tk1 F1 N1 ⟨rfl, t1, rfl⟩
    (try dsimp only)
    k_steps
    refine kde_tupleOf (by k_asm) (by k_asm) ⟨_, (News.get (by k_asm) (by k_mem)), rfl, _, rfl⟩ (by rw [List.size_toArray, hB.length]; omega) (List.toList_toArray ..) ?_
    intro D' h9 F9 N9 l9
    (try dsimp only)
    k_steps
    exact hret _ _ _ _ (by k_asm) (by k_asm) ⟨subDrop2, freshOne (fun q hq => l9 _ (.tail _ hq)) (.head _) (.tuple (.head _) (bytesDat hrel hB))⟩
end Mine
end

section
open PySem PySem.Spec PySem.Calls PySem.W PyProof.Rows PyProof.V
set_option Elab.async false
set_option maxRecDepth 100000
set_option maxHeartbeats 4000000
namespace Mine
local macro_rules | `(tactic| k_mem) => `(tactic| (refine memOf ?_; ktr_member))
local macro_rules | `(tactic| walk_at "call ref") => `(tactic| (k_here; refine stop_ ?_))
local macro_rules | `(tactic| ktr_call $x:term $_c:term) => `(tactic| (refine stopped ?_; k_dflt (refine' Does.use $x ?d1 ?d2 ?d3 ?d4 ?d5 ?d6 ?d7 ?d8 ?_; (case d1 => k_asm); (case d2 => k_asm); (case d3 => k_asm); (case d4 => k_asm); (case d5 => k_asm); (case d6 => first | exact rfl | assumption); (case d7 => ktr_room); (case d8 => ktr_units))))
local macro_rules | `(tactic| k_all) => `(tactic| exact allNe (by assumption) (by omega))
local macro_rules | `(tactic| cell_enter) => `(tactic| (refine' code_defC ?k1 ?k2 ?k3 ?k4 ?k5 ?kA ?kF ?kK ?k6 ?k7 ?k8 ?k9 ?kB ?kD ?_ ?c2 ?c3 ?c4; (case kA => exact rfl); (case kF => exact rfl); (case kK => assumption); (case k1 => k_asm); (case k2 => k_asm); (case k3 => k_asm); (case k4 => k_asm); (case k5 => k_asm); (case k6 => k_is); (case k7 => k_is); (case k8 => ktr_room); (case k9 => exact BindsTo.of_eq rfl); (case kB => exact rfl); (case kD => decide +kernel); (case c2 => exact rfl); (case c3 => exact rfl); (case c4 => exact rfl); k_whole; intro g' L' h' tk' cells' FG' F' N' Y' B' X' T' l1; k_cells Y'; (try simp only [List.cons_append, List.nil_append] at N'); (try dsimp only); (try k_fold)))

local macro_rules | `(tactic| walk_at "eval ListComp") => `(tactic| (k_here; refine stop_ ?_))
local macro_rules | `(tactic| walk_at "call builtin:sorted") => `(tactic| (k_here; refine stop_ ?_))

theorem law_rows_ {w : World} {news : Led} {kind : Str} {t : Tok} {c : Addr} {rows : List By} {oc : Obj} (hc : (c, oc) ∈ news) (hC : ContIs w kind rows oc) (loc : @LT.lt Nat _ 1 c) (hz : rows.length ≤ 30) :
   Does w 182 4 news [.str kind t, .ref c] (fun news' r => Sub news news' ∧ FreshDat news news' r (rowsDat kind rows)) := by
  unfold Does; k_fill
  intro p loose mean mg mb dp un gd cn cs a ccd cl outer A₀ base h₀ L m s Q E B F X N T hkf hd hu hret
  refine wpAny_call ?_
  rcases hC with ⟨hrel, kv2, ho, hN⟩ | ⟨hrel, xs, ep, rfl, hB⟩
  · have hrel' : (kind != Str.ofString "relative") = false := by rw [bne_eq_false_iff_eq]; exact hrel
    k_dflt cell_enter
    k_steps
    refine stopped ?_
    k_dflt (refine LCt.ListComp_T (F₀ := by k_asm) (by with_unfolding_all rfl) (by decide) (by rfl) (by decide) (by rfl) ?_)
    k_steps
    refine LCt.CompSrcT.range (n := 39) (by rfl) (by k_asm) (by k_asm) (by assumption) (by decide) (by first | rfl | decide) (by rw [sizeLine_eq]; omega) ?_
    intro g9
    refine compRestT_ind (fun i ys nw => Sub ((_, _) :: news) nw ∧ ∃ tl : Led, Sub tl nw ∧ (∀ q ∈ news, ∀ p ∈ tl, q.1 < p.1) ∧ DatAll tl ys ((numDat 1 rows).take i)) _ ?_ ?_ _ 0 [] _ (Nat.zero_add _) ⟨subRefl, [], subNil, freshNil, DatAll.nil⟩
    · rintro ys nw ⟨hs, tl, ht, hf, hd⟩
      k_steps
      refine kde_tupleOf (by k_asm) (by k_asm) ⟨_, (News.get (by k_asm) (by k_mem)), rfl, _, rfl⟩ (by rw [List.size_toArray, hd.length, List.length_take, numDat_length]; omega) (List.toList_toArray ..) ?_
      intro D9 h8 F8 N8 l8
      (try dsimp only)
      k_steps
      refine hret _ _ _ _ (by k_asm) (by k_asm) ⟨fun q hq => .tail _ (.tail _ (hs q (.tail _ hq))), (D9, tupOf ys 0) :: tl, ?_, ?_, .tuple (.head _) ?_⟩
      · intro q hq
        rcases List.mem_cons.mp hq with rfl | hq
        · exact .head _
        · exact .tail _ (.tail _ (ht _ hq))
      · intro q hq p hp
        rcases List.mem_cons.mp hp with rfl | hp
        · exact l8 _ (.tail _ (hs _ (.tail _ hq)))
        · exact hf q hq p hp
      rw [if_pos hrel]
      rw [List.take_of_length_le (by rw [numDat_length]; omega)] at hd
      exact hd.mono subCons
    · rintro i ys nw hi ⟨hs, tl, ht, hf, hd⟩ v I oI C oC D9 m₂ h tk E' ⟨t5, rfl⟩ hC hx F N off ne
      have hcell := hs _ (List.Mem.head _)
      have hc2 := hs _ (List.Mem.tail _ hc)
      by_cases hi' : i < rows.length
      · obtain ⟨t6, ht6⟩ := hN.some hi'
        k_steps
        refine kda_in (knd := iK w) (by k_asm) (by k_mem) ho (loOf loc) (intKind_is _ _ _ _) true (by rw [show (1 : Int) = ((1 : Nat) : Int) from rfl, ht6]; rfl) ?_
        (try dsimp only)
        k_steps
        refine kda_item (knd := iK w) (by k_asm) (by k_mem) ho (intKind_is _ _ _ _) ht6 ?_
        (try dsimp only)
        k_steps
        refine compEnd_one (by k_asm) (by k_asm) (by assumption) off trivial ⟨fun q hq => .tail _ (hs q hq), tl_cons ht hf (fun q hq => allLt_mem (And.right (And.right (And.right (by assumption)))) _ (hs _ (.tail _ hq))) ?_⟩
        rw [List.take_add_one, numDat_get _ _ _ hi']
        exact (hd.mono subCons).append (.one (.tuple (.head _) (.cons (.int _ _) (.cons (.bytes _ _) .nil))))
      · have hno : valueAt kv2 ((1 : Int) + (i : Int)) = none := hN.none (.inr (by omega))
        k_steps
        refine kda_in (knd := iK w) (by k_asm) (by k_mem) ho (loOf loc) (intKind_is _ _ _ _) false (by rw [hno]; rfl) ?_
        (try dsimp only)
        k_steps
        refine compEnd_zero (by k_asm) (by k_asm) off trivial ⟨hs, tl, ht, hf, ?_⟩
        rw [List.take_of_length_le (by rw [numDat_length]; omega)] at hd ⊢
        exact hd
  · have hrel' : (kind != Str.ofString "relative") = true := by rw [bne_iff_ne]; exact hrel
    k_dflt cell_enter
    k_steps
    refine kde_tupleOf (by k_asm) (by k_asm) ⟨_, (News.get (by k_asm) (by k_mem)), rfl, _, rfl⟩ (by rw [List.size_toArray, hB.length]; omega) (List.toList_toArray ..) ?_
    intro D' h9 F9 N9 l9
    (try dsimp only)
    k_steps
    exact hret _ _ _ _ (by k_asm) (by k_asm) ⟨subDrop2, freshOne (fun q hq => l9 _ (.tail _ hq)) (.head _) (.tuple (.head _) (bytesDat hrel hB))⟩
end Mine
end

section
open PySem PySem.Spec PySem.Calls PySem.W PyProof.Rows PyProof.V
set_option Elab.async false
set_option maxRecDepth 100000
set_option maxHeartbeats 4000000
namespace Mine
local macro_rules | `(tactic| k_mem) => `(tactic| (refine memOf ?_; ktr_member))
local macro_rules | `(tactic| walk_at "call ref") => `(tactic| (k_here; refine stop_ ?_))
local macro_rules | `(tactic| ktr_call $x:term $_c:term) => `(tactic| (refine stopped ?_; k_dflt (refine' Does.use $x ?d1 ?d2 ?d3 ?d4 ?d5 ?d6 ?d7 ?d8 ?_; (case d1 => k_asm); (case d2 => k_asm); (case d3 => k_asm); (case d4 => k_asm); (case d5 => k_asm); (case d6 => first | exact rfl | assumption); (case d7 => ktr_room); (case d8 => ktr_units))))
local macro_rules | `(tactic| k_all) => `(tactic| exact allNe (by assumption) (by omega))
local macro_rules | `(tactic| cell_enter) => `(tactic| (refine' code_defC ?k1 ?k2 ?k3 ?k4 ?k5 ?kA ?kF ?kK ?k6 ?k7 ?k8 ?k9 ?kB ?kD ?_ ?c2 ?c3 ?c4; (case kA => exact rfl); (case kF => exact rfl); (case kK => assumption); (case k1 => k_asm); (case k2 => k_asm); (case k3 => k_asm); (case k4 => k_asm); (case k5 => k_asm); (case k6 => k_is); (case k7 => k_is); (case k8 => ktr_room); (case k9 => exact BindsTo.of_eq rfl); (case kB => exact rfl); (case kD => decide +kernel); (case c2 => exact rfl); (case c3 => exact rfl); (case c4 => exact rfl); k_whole; intro g' L' h' tk' cells' FG' F' N' Y' B' X' T' l1; k_cells Y'; (try simp only [List.cons_append, List.nil_append] at N'); (try dsimp only); (try k_fold)))

local macro_rules | `(tactic| walk_at "eval ListComp") => `(tactic| (k_here; refine stop_ ?_))
local macro_rules | `(tactic| walk_at "call builtin:sorted") => `(tactic| (k_here; refine stop_ ?_))


theorem paths_ {w : World} {news : Led} {x dx D : Addr} {τ : Tau} (S : ShelfAt w.params news x dx D) (H : FilesAt w news D τ) (hlen : τ.length < 64) :
   Does w 84 2 news [.ref x] (fun news' r => ∃ l vs ss e, r = .ref l ∧ news' = (l, listOf vs.toArray e) :: news ∧ StrsAre vs ss ∧ ss.Perm (τ.map (·.1.path)) ∧ ss.Pairwise leS) := by
  unfold Does; k_fill
  intro p loose mean mg mb dp un gd cn cs a ccd cl outer A₀ base h₀ L m s Q E B F X N T hkf hd hu hret
  obtain ⟨hx, _, _, hdx⟩ := S
  obtain ⟨⟨o, kvs, hD, hk, hF⟩, lo⟩ := H
  refine wpAny_call ?_
  k_dflt ktr_enter
  k_steps
  refine stopped ?_
  refine sorted_dict_strs (by rfl) (by k_asm) (by k_asm) (by k_mem) hk (loOf lo) (by rw [hF.length]; omega) ?_
  intro D' h9 tk9 vs9 ns9 e9 F9 N9 l9 hI9 hp9 hP9
  (try dsimp only)
  k_steps
  exact hret _ _ _ _ (by k_asm) (by k_asm) ⟨_, _, _, _, rfl, rfl, hI9, by rw [hF.paths] at hp9; exact hp9, hP9⟩
def lookF (σ : List File) (p : Str) : Option File := σ.find? fun f => decide (f.path = p)
def fileDat (σ : List File) (p : Str) : Dat := match lookF σ p with
  | some f => .tuple [.str p, .str f.kind, rowsDat f.kind f.rows]
  | none => .none
theorem lookF_of {τ : Tau} {p : Str} : lookF (τ.map (·.1)) p = (lookT τ p).map (·.1) := by
  unfold lookF lookT
  induction τ with
  | nil => rfl
  | cons q τ ih =>
    by_cases e : q.1.path = p
    · simp [e]
    · simp only [List.map_cons, List.find?_cons, e, decide_false]; exact ih
theorem look_mem {τ : Tau} {p : Str} (h : p ∈ τ.map (·.1.path)) : ∃ f c, lookT τ p = some (f, c) ∧ (f, c) ∈ τ ∧ f.path = p := by
  obtain ⟨q, hq, rfl⟩ := List.mem_map.mp h
  cases e : lookT τ q.1.path with
  | none =>
    have := List.find?_eq_none.mp e q hq
    simp at this
  | some r => exact ⟨r.1, r.2, rfl, List.mem_of_find?_eq_some e, by simpa using List.find?_some e⟩
theorem strsGet : ∀ {vs : List Value} {ss : List Str}, StrsAre vs ss → ∀ {i : Nat} {v : Value}, vs[i]? = some v → ∃ x t, ss[i]? = some x ∧ v = .str x t
  | _, _, .nil, _, _, h => by simp at h
  | _, _, .cons x t r, 0, _, h => ⟨x, t, rfl, by simpa using h.symm⟩
  | _, _, .cons x t r, i + 1, _, h => strsGet r (i := i) (by simpa using h)
theorem fileDat_of {τ : Tau} {p : Str} {f : File} {c : Addr} (h : lookT τ p = some (f, c)) : fileDat (τ.map (·.1)) p = .tuple [.str p, .str f.kind, rowsDat f.kind f.rows] := by
  unfold fileDat; rw [lookF_of, h]; rfl
theorem told_ {w : World} {news : Led} {x dx D : Addr} {τ : Tau} (S : ShelfAt w.params news x dx D) (H : FilesAt w news D τ) (hz : ∀ q ∈ τ, q.1.rows.length ≤ 30) (hlen : τ.length < 64) :
   Does w 134 6 news [.ref x] (fun news' r => Sub news news' ∧ ∃ ss : List Str, ss.Perm (τ.map (·.1.path)) ∧ ss.Pairwise leS ∧ DatIn news' r (.tuple (ss.map (fileDat (τ.map (·.1)))))) := by
  unfold Does; k_fill
  intro p loose mean mg mb dp un gd cn cs a ccd cl outer A₀ base h₀ L m s Q E B F X N T hkf hd hu hret
  have S' := S
  obtain ⟨hx, _, _, hdx⟩ := S
  refine wpAny_call ?_
  k_dflt cell_enter
  k_steps
  refine stopped ?_
  k_dflt (refine LCg.ListComp_U (F₀ := by k_asm) (by with_unfolding_all rfl) (by decide) (by rfl) (by decide) (by rfl) ?_)
  k_steps
  ktr_call (paths_ (S'.sub subCons) (H.sub subCons) hlen) 0
  rintro r1 news1 h1 tk1 F1 N1 ⟨l, vs, ss, e, rfl, rfl, hS, hp, hP⟩
  (try dsimp only)
  k_steps
  refine LCg.CompSrc.ledger (by rfl) (by k_asm) (by k_asm) (List.Mem.head _) (by rw [List.size_toArray, hS.length, hp.length_eq, List.length_map, sizeLine_eq]; omega) ?_
  intro g9
  refine compRest_ind (fun i ys nw => Sub ((l, listOf vs.toArray e) :: (_, _) :: news) nw ∧ DatAll nw ys ((ss.map (fileDat (τ.map (·.1)))).take i)) _ ?_ ?_ _ 0 [] _ (Nat.zero_add _) ⟨fun _ h => h, .nil⟩
  · rintro ys nw ⟨hs, hd⟩
    k_steps
    refine tuple_ofL (by k_asm) (by k_asm) ⟨_, (News.get (by k_asm) (by k_mem)), rfl, _, rfl⟩ ?_ (by rw [hd.length, sizeLine_eq, List.length_take, List.length_map, hp.length_eq, List.length_map]; omega)
    intro D9 h8 F8 N8 k8
    (try dsimp only)
    k_steps
    refine hret _ _ _ _ (by k_asm) (by k_asm) ⟨fun q hq => .tail _ (.tail _ (hs q (.tail _ (.tail _ hq)))), ss, hp, hP, .tuple (.head _) ?_⟩
    rw [List.take_of_length_le (by rw [List.length_map, List.size_toArray, hS.length]; exact Nat.le_refl _)] at hd
    exact hd.mono fun q hq => .tail _ (.tail _ hq)
  · rintro i ys nw hi ⟨hs, hd⟩ v I oI C oC D9 m₂ h tk E' hP9 hC hxv F N off ne
    have hcell := hs _ (List.Mem.tail _ (List.Mem.head _))
    have hsub : Sub news nw := fun q hq => hs _ (List.Mem.tail _ (List.Mem.tail _ hq))
    have hx2 := hsub _ hx
    have hdx2 := hsub _ hdx
    have hsrc := hs _ (List.Mem.head _)
    obtain ⟨pth, t5, hss, rfl⟩ := strsGet hS (i := i) (v := v) (by simpa using hP9)
    obtain ⟨f, c, hlook, hmem, hpath⟩ := look_mem (τ := τ) (hp.subset (List.mem_of_getElem? hss))
    k_steps
    ktr_call (kind_of_in ((S'.sub hsub).sub sub3) (((H.at hlook).sub hsub).sub sub3)) 0
    rintro r1 news1 h1 tk1 F1 N1 ⟨rfl, t1, rfl⟩
    (try dsimp only)
    k_steps
    ktr_call (rows_of_ ((S'.sub hsub).sub sub3) (((H.at hlook).sub hsub).sub sub3) (hz _ hmem)) 0
    rintro r2 news2 h2 tk2 F2 N2 ⟨hs2, tl, ht, hf, hdat⟩
    (try dsimp only)
    k_steps
    refine compEnd_call (by k_asm) (by k_asm) hs2 (by assumption) ht hf off (.inr ⟨_, .tail _ (List.mem_append.mpr (.inr hsrc)), rfl, _, rfl⟩) ⟨fun q hq => .tail _ (List.mem_append.mpr (.inr (hs q hq))), ?_⟩
    rw [List.take_add_one, List.getElem?_map, hss]
    refine (hd.mono fun q hq => .tail _ (List.mem_append.mpr (.inr hq))).append (.one ?_)
    rw [fileDat_of hlook]
    exact .tuple (.head _) (.cons (.str _ _) (.cons (.str _ _) (.cons (hdat.mono fun q hq => .tail _ (List.mem_append.mpr (.inl hq))) .nil)))
end Mine
end

section
open PySem PySem.Spec PySem.Calls PySem.W PyProof.Rows PyProof.V
set_option Elab.async false
set_option maxRecDepth 100000
set_option maxHeartbeats 4000000
namespace Mine
local macro_rules | `(tactic| k_mem) => `(tactic| (refine memOf ?_; ktr_member))
local macro_rules | `(tactic| walk_at "call ref") => `(tactic| (k_here; refine stop_ ?_))
local macro_rules | `(tactic| ktr_call $x:term $_c:term) => `(tactic| (refine stopped ?_; k_dflt (refine' Does.use $x ?d1 ?d2 ?d3 ?d4 ?d5 ?d6 ?d7 ?d8 ?_; (case d1 => k_asm); (case d2 => k_asm); (case d3 => k_asm); (case d4 => k_asm); (case d5 => k_asm); (case d6 => first | exact rfl | assumption); (case d7 => ktr_room); (case d8 => ktr_units))))
local macro_rules | `(tactic| k_all) => `(tactic| exact allNe (by assumption) (by omega))
local macro_rules | `(tactic| cell_enter) => `(tactic| (refine' code_defC ?k1 ?k2 ?k3 ?k4 ?k5 ?kA ?kF ?kK ?k6 ?k7 ?k8 ?k9 ?kB ?kD ?_ ?c2 ?c3 ?c4; (case kA => exact rfl); (case kF => exact rfl); (case kK => assumption); (case k1 => k_asm); (case k2 => k_asm); (case k3 => k_asm); (case k4 => k_asm); (case k5 => k_asm); (case k6 => k_is); (case k7 => k_is); (case k8 => ktr_room); (case k9 => exact BindsTo.of_eq rfl); (case kB => exact rfl); (case kD => decide +kernel); (case c2 => exact rfl); (case c3 => exact rfl); (case c4 => exact rfl); k_whole; intro g' L' h' tk' cells' FG' F' N' Y' B' X' T' l1; k_cells Y'; (try simp only [List.cons_append, List.nil_append] at N'); (try dsimp only); (try k_fold)))

local macro_rules | `(tactic| walk_at "eval ListComp") => `(tactic| (k_here; refine stop_ ?_))
local macro_rules | `(tactic| walk_at "call builtin:sorted") => `(tactic| (k_here; refine stop_ ?_))



local macro_rules | `(tactic| walk_at "exec For Name Name cons nil") => `(tactic| (k_here; refine stop_ ?_))
local macro_rules | `(tactic| walk_at "compareOp NotEq ref ref") => `(tactic| (k_here; refine stop_ ?_))
local macro_rules | `(tactic| walk_at "compareOp Eq ref ref") => `(tactic| (k_here; refine stop_ ?_))
theorem look_both {τ1 τ2 : Tau} {p : Str} (he : τ1.map (·.1) = τ2.map (·.1)) (h : p ∈ τ2.map (·.1.path)) : ∃ f c1 c2, lookT τ1 p = some (f, c1) ∧ lookT τ2 p = some (f, c2) ∧ (f, c1) ∈ τ1 ∧ (f, c2) ∈ τ2 := by
  obtain ⟨f, c2, h2, hm2, _⟩ := look_mem h
  have e1 : (lookT τ1 p).map (·.1) = some f := by rw [← lookF_of, he, lookF_of, h2]; rfl
  obtain ⟨⟨f1, c1⟩, h1, rfl⟩ := Option.map_eq_some_iff.mp e1
  exact ⟨f1, c1, c2, h1, h2, List.mem_of_find?_eq_some h1, hm2⟩
theorem rowsDat_ref {tl : Led} {r : Value} {k : Str} {rs : List By} (h : DatIn tl r (rowsDat k rs)) : ∃ a, r = .ref a := by
  unfold rowsDat at h; cases h; exact ⟨_, rfl⟩
theorem numDat_depth : ∀ (n : Nat) (bs : List By), datDepths (numDat n bs) ≤ 1
  | _, [] => by rw [numDat, datDepths]; omega
  | n, b :: bs => by
    have h := numDat_depth (n + 1) bs
    simp only [numDat, datDepths, datDepth]
    omega
theorem bytes_depth : ∀ (bs : List By), datDepths (bs.map Dat.bytes) ≤ 1
  | [] => by rw [List.map_nil, datDepths]; omega
  | b :: bs => by
    have h := bytes_depth bs
    simp only [List.map_cons, datDepths, datDepth]
    omega
theorem rows_depth (k : Str) (rs : List By) : datDepths (if k = relS then numDat 1 rs else rs.map Dat.bytes) ≤ 1 := by
  split
  · exact numDat_depth 1 rs
  · exact bytes_depth rs
theorem tupDat_ref {tl : Led} {r : Value} {ds : List Dat} (h : DatIn tl r (.tuple ds)) : ∃ a, r = .ref a := by
  cases h; exact ⟨_, rfl⟩
theorem paths_eq {τ1 τ2 : Tau} (he : τ1.map (·.1) = τ2.map (·.1)) : τ1.map (·.1.path) = τ2.map (·.1.path) := by
  have h := congrArg (List.map File.path) he
  simp only [List.map_map] at h
  exact h
theorem fileDat_depth (σ : List File) (p : Str) : datDepth (fileDat σ p) ≤ 3 := by
  unfold fileDat
  split
  · rename_i f _
    have h := rows_depth f.kind f.rows
    simp only [datDepth, datDepths, rowsDat]
    omega
  · simp [datDepth]
theorem told_depth (σ : List File) : ∀ ss : List Str, datDepths (ss.map (fileDat σ)) ≤ 3
  | [] => by rw [List.map_nil, datDepths]; omega
  | p :: ss => by
    have h := told_depth σ ss
    have h' := fileDat_depth σ p
    simp only [List.map_cons, datDepths]
    omega
theorem law_told_right_ {w : World} {news : Led} {x dx D1 D2 : Addr} {τ1 τ2 : Tau} (S : ShelfAt w.params news x dx D1) (H1 : FilesAt w news D1 τ1) (H2 : FilesAt w news D2 τ2) (he : τ1.map (·.1) = τ2.map (·.1)) (hz : ∀ q ∈ τ1, q.1.rows.length ≤ 30) (hlen : τ1.length < 64) :
   Does w 194 8 news [.ref x, .ref D2] (fun news' r => Sub news news' ∧ r = .bool true) := by
  unfold Does; k_fill
  intro p loose mean mg mb dp un gd cn cs a ccd cl outer A₀ base h₀ L m s Q E B F X N T hkf hd hu hret
  refine wpAny_call ?_
  have S' := S
  have H2' := H2
  obtain ⟨hx0, _, _, hdx0⟩ := S
  obtain ⟨⟨o2, kv2, hD2, hk2, hF2⟩, lo2⟩ := H2
  have hlen2 : τ2.length = τ1.length := by have := congrArg List.length he; simpa using this.symm
  k_dflt cell_enter
  k_steps
  refine stopped ?_
  refine For_turns (by k_asm) ?_
  k_steps
  refine kta_keys (enc := PyData.str) (by rfl) (by k_asm) (by k_asm) (List.Mem.tail _ hD2) hk2 (loOf lo2) kyStr rfl ?_
  intro I lI
  refine itemsRest_same (Str.ofString "path") _ _ _ ?_ ?_
  · intro u h9 tk9 F9 N9
    (try dsimp only)
    k_steps
    ktr_call (told_ (S'.sub subCons) (H1.sub subCons) hz hlen) 0
    rintro r1 news1 h1 tk1 F1 N1 ⟨hs1, ss, hp, hP, hdat⟩
    have hcell1 := hs1 _ (List.Mem.head _)
    have hD21 := hs1 _ (List.Mem.tail _ hD2)
    obtain ⟨a1, rfl⟩ := tupDat_ref hdat
    (try dsimp only)
    k_steps
    refine stopped ?_
    k_dflt (refine LCg.ListComp_U (F₀ := by k_asm) (by with_unfolding_all rfl) (by decide) (by rfl) (by decide) (by rfl) ?_)
    k_steps
    refine stopped ?_
    refine sorted_dict_strs (by rfl) (by k_asm) (by k_asm) (by k_mem) hk2 (loOf lo2) (by rw [hF2.length, hlen2]; omega) ?_
    intro D' h2 tk2 vs2 ss2 e2 F2 N2 l2 hI2 hp2 hP2
    (try dsimp only)
    k_steps
    have hss : ss2 = ss := uniqS (hp2.trans (by rw [hF2.paths, ← paths_eq he]; exact hp.symm)) hP2 hP
    subst hss
    have hlv : vs2.length = τ1.length := by rw [hI2.length, hp.length_eq, List.length_map]
    refine LCg.CompSrc.ledger (by rfl) (by k_asm) (by k_asm) (List.Mem.head _) (by rw [List.size_toArray, hlv, sizeLine_eq]; omega) ?_
    intro g9
    refine compRest_ind (fun i ys nw => Sub ((D', listOf vs2.toArray e2) :: news1) nw ∧ DatAll nw ys ((ss2.map (fileDat (τ1.map (·.1)))).take i)) _ ?_ ?_ _ 0 [] _ (Nat.zero_add _) ⟨fun _ h => h, DatAll.nil⟩
    · rintro ys nw ⟨hs, hd⟩
      k_steps
      refine tuple_ofL (by k_asm) (by k_asm) ⟨_, (News.get (by k_asm) (by k_mem)), rfl, _, rfl⟩ ?_ (by rw [hd.length, sizeLine_eq, List.length_take, List.length_map, hp.length_eq, List.length_map]; omega)
      intro D9 h8 F8 N8 k8
      (try dsimp only)
      k_steps
      rw [List.take_of_length_le (by rw [List.length_map, List.size_toArray, hI2.length]; exact Nat.le_refl _)] at hd
      refine stopped ?_
      refine eq_tupDat (n := 3) (by k_asm) (hdat.mono fun q hq => .tail _ (.tail _ (hs _ (.tail _ hq)))) (.tuple (.head _) (hd.mono fun q hq => .tail _ (.tail _ hq))) (told_depth _ _) (by ktr_units) ?_
      (try dsimp only)
      k_steps
      exact hret _ _ _ _ (by k_asm) (by k_asm) ⟨fun q hq => .tail _ (.tail _ (hs _ (.tail _ (hs1 _ (.tail _ hq))))), rfl⟩
    · rintro i ys nw hi ⟨hs, hd⟩ v I oI C oC D9 m₂ h tk E' hP9 hC hxv F N off ne
      have hcn := hs _ (List.Mem.tail _ hcell1)
      have hD2n := hs _ (List.Mem.tail _ hD21)
      have hsrc := hs _ (List.Mem.head _)
      obtain ⟨pth, t5, hss, rfl⟩ := strsGet hI2 (i := i) (v := v) (by simpa using hP9)
      obtain ⟨f, c1, c2, hl1, hl2, hm1, hm2⟩ := look_both (p := pth) he (by rw [← paths_eq he]; exact hp.subset (List.mem_of_getElem? hss))
      rcases hF2.look pth with ⟨e, _⟩ | ⟨f', c', tup, tk3, n2, oc2, e, _, _, hv2, ht2, hc2, hC2, hlo2⟩
      · rw [hl2] at e; cases e
      rw [hl2] at e; cases e
      have ht2n := hs _ (List.Mem.tail _ (hs1 _ (List.Mem.tail _ ht2)))
      have hc2n := hs _ (List.Mem.tail _ (hs1 _ (List.Mem.tail _ hc2)))
      k_steps
      refine kda_item (knd := sK w) (by k_asm) (by k_mem) hk2 (strKind_is _ _ _ _) hv2 ?_
      (try dsimp only)
      k_steps
      refine kda_item (knd := sK w) (by k_asm) (by k_mem) hk2 (strKind_is _ _ _ _) hv2 ?_
      (try dsimp only)
      k_steps
      refine kda_item (knd := sK w) (by k_asm) (by k_mem) hk2 (strKind_is _ _ _ _) hv2 ?_
      (try dsimp only)
      k_steps
      ktr_call (law_rows_ (sub3 _ hc2n) hC2 hlo2 (hz _ hm1)) 0
      rintro r3 news3 h3 tk3 F3 N3 ⟨hs3, tl, htl, hf, hd3⟩
      (try dsimp only)
      k_steps
      refine compEnd_call (by k_asm) (by k_asm) hs3 (by assumption) htl hf off (.inr ⟨_, .tail _ (List.mem_append.mpr (.inr hsrc)), rfl, _, rfl⟩) ⟨fun q hq => .tail _ (List.mem_append.mpr (.inr (hs q hq))), ?_⟩
      rw [List.take_add_one, List.getElem?_map, hss]
      refine (hd.mono fun q hq => .tail _ (List.mem_append.mpr (.inr hq))).append (.one ?_)
      rw [fileDat_of hl1]
      exact .tuple (.head _) (.cons (.str _ _) (.cons (.str _ _) (.cons (hd3.mono fun q hq => .tail _ (List.mem_append.mpr (.inl hq))) .nil)))
  · intro i a u hx v h9 tk9 hv F9 oI hI N9
    rw [List.getElem?_map] at hx
    obtain ⟨kv, hkv, rfl⟩ := Option.map_eq_some_iff.mp hx
    obtain ⟨t5, rfl⟩ := hv
    obtain ⟨f, c1, c2, hl1, hl2, hm1, hm2⟩ := look_both (p := kv.1) he (by rw [← hF2.paths]; exact List.mem_map_of_mem (List.mem_of_getElem? hkv))
    have hnn : (f.kind != f.kind) = false := by simp
    rcases hF2.look kv.1 with ⟨e, _⟩ | ⟨f', c', tup, tk2, n2, oc2, e, _, _, hv2, ht2, hc2, hC2, hlo2⟩
    · rw [hl2] at e; cases e
    rw [hl2] at e; cases e
    dsimp only [List.cons_append, List.nil_append, kyVal] at N9 ⊢
    k_steps
    ktr_call (kind_of_in (S'.sub subDrop2) ((H1.at hl1).sub subDrop2)) 0
    rintro r1 news1 h1 tk1 F1 N1 ⟨rfl, t1, rfl⟩
    (try dsimp only)
    k_steps
    refine kda_item (knd := sK w) (by k_asm) (by k_mem) hk2 (strKind_is _ _ _ _) hv2 ?_
    (try dsimp only)
    k_steps
    ktr_call (rows_of_ (S'.sub subDrop2) ((H1.at hl1).sub subDrop2) (hz _ hm1)) 0
    rintro r2 news2 h2 tk2 F2 N2 ⟨hs2, tl2, htl2, hf2, hd2⟩
    have hI2 := hs2 _ (List.Mem.head _)
    have hcell2 := hs2 _ (List.Mem.tail _ (List.Mem.head _))
    have hD2b := hs2 _ (List.Mem.tail _ (List.Mem.tail _ hD2))
    have ht2b := hs2 _ (List.Mem.tail _ (List.Mem.tail _ ht2))
    have hc2b := hs2 _ (List.Mem.tail _ (List.Mem.tail _ hc2))
    (try dsimp only)
    k_steps
    refine kda_item (knd := sK w) (by k_asm) (by k_mem) hk2 (strKind_is _ _ _ _) hv2 ?_
    (try dsimp only)
    k_steps
    refine kda_item (knd := sK w) (by k_asm) (by k_mem) hk2 (strKind_is _ _ _ _) hv2 ?_
    (try dsimp only)
    k_steps
    ktr_call (law_rows_ hc2b hC2 hlo2 (hz _ hm1)) 0
    rintro r3 news3 h3 tk3 F3 N3 ⟨hs3, tl3, htl3, hf3, hd3⟩
    have hI3 := hs3 _ hI2
    obtain ⟨a2, rfl⟩ := rowsDat_ref hd2
    obtain ⟨a3, rfl⟩ := rowsDat_ref hd3
    (try dsimp only)
    k_steps
    refine stopped ?_
    refine ne_tupDat (n := 3) (by k_asm) (hd2.mono (htl2.trans hs3)) (hd3.mono htl3) (Nat.le_trans (rows_depth _ _) (by decide)) (by ktr_units) ?_
    (try dsimp only)
    k_steps
    exact unrEndW_one F3 N3 hI3 (fun q hq => hs3 _ (hs2 _ (.tail _ hq))) (fun p hp => Nat.ne_of_lt (lI p hp)) ⟨⟨List.Mem.tail _ hD2, trivial⟩, ⟨_, if_step _ _ _ _⟩, rfl⟩
end Mine
end

section
open PySem PySem.Spec PySem.Calls PySem.W PyProof.Rows PyProof.V
set_option Elab.async false
set_option maxRecDepth 100000
namespace Mine
def nextS (σ : List File) (p k m : Str) (b : By) : List File :=
  if m = Str.ofString "output" then addF (putF σ ⟨p, k, []⟩) p b else
  match lookF σ p with
  | none => σ
  | some f => if f.kind = k then addF σ p b else σ
def Fine (k n : Nat) (σ : List File) : Prop := (∀ f ∈ σ, f.rows.length ≤ k) ∧ σ.length ≤ n
def OffP (q : Str) (σ : List File) : Prop := ∀ f ∈ σ, f.path ≠ q
theorem putF_mem {σ : List File} {f g : File} (h : g ∈ putF σ f) : g = f ∨ g ∈ σ := by
  unfold putF at h
  split at h
  · obtain ⟨r, hr, rfl⟩ := List.mem_map.mp h
    split
    · exact .inl rfl
    · exact .inr hr
  · rcases List.mem_append.mp h with h | h
    · exact .inr h
    · exact .inl (List.mem_singleton.mp h)
theorem addF_mem {σ : List File} {p : Str} {b : By} {g : File} (h : g ∈ addF σ p b) : ∃ f ∈ σ, g.path = f.path ∧ g.rows.length ≤ f.rows.length + 1 := by
  unfold addF at h
  obtain ⟨r, hr, rfl⟩ := List.mem_map.mp h
  refine ⟨r, hr, ?_⟩
  split
  · simp
  · exact ⟨rfl, Nat.le_succ _⟩
theorem Fine.put {k n : Nat} {σ : List File} {f : File} (h : Fine k n σ) (hf : f.rows.length ≤ k) : Fine k (n + 1) (putF σ f) := by
  refine ⟨fun g hg => ?_, ?_⟩
  · rcases putF_mem hg with rfl | hg
    · exact hf
    · exact h.1 g hg
  · unfold putF
    have := h.2
    split
    · rw [List.length_map]; omega
    · rw [List.length_append]; simp; omega
theorem Fine.add {k n : Nat} {σ : List File} {p : Str} {b : By} (h : Fine k n σ) : Fine (k + 1) n (addF σ p b) := by
  refine ⟨fun g hg => ?_, ?_⟩
  · obtain ⟨f, hf, _, hr⟩ := addF_mem hg
    have := h.1 f hf
    omega
  · unfold addF; rw [List.length_map]; exact h.2
theorem Fine.mono {k n k' n' : Nat} {σ : List File} (h : Fine k n σ) (h1 : k ≤ k') (h2 : n ≤ n') : Fine k' n' σ := ⟨fun f hf => Nat.le_trans (h.1 f hf) h1, Nat.le_trans h.2 h2⟩
theorem Fine.next {k n : Nat} {σ : List File} {p kk m : Str} {b : By} (h : Fine k n σ) : Fine (k + 1) (n + 1) (nextS σ p kk m b) := by
  unfold nextS
  split
  · exact (h.put (Nat.zero_le _)).add
  · split
    · exact h.mono (Nat.le_succ _) (Nat.le_succ _)
    · split
      · exact h.add.mono (Nat.le_refl _) (Nat.le_succ _)
      · exact h.mono (Nat.le_succ _) (Nat.le_succ _)
theorem OffP.put {q : Str} {σ : List File} {f : File} (h : OffP q σ) (hf : f.path ≠ q) : OffP q (putF σ f) := fun g hg => by
  rcases putF_mem hg with rfl | hg
  · exact hf
  · exact h g hg
theorem OffP.add {q p : Str} {b : By} {σ : List File} (h : OffP q σ) : OffP q (addF σ p b) := fun g hg => by
  obtain ⟨f, hf, e, _⟩ := addF_mem hg
  rw [e]; exact h f hf
theorem OffP.next {q : Str} {σ : List File} {p kk m : Str} {b : By} (h : OffP q σ) (hp : p ≠ q) : OffP q (nextS σ p kk m b) := by
  unfold nextS
  split
  · exact (h.put hp).add
  · split
    · exact h
    · split
      · exact h.add
      · exact h
theorem OffP.none {q : Str} {τ : Tau} (h : OffP q (τ.map (·.1))) : lookT τ q = none := by
  unfold lookT
  rw [List.find?_eq_none]
  intro r hr
  simpa using h r.1 (List.mem_map_of_mem hr)
def Kept (pr : List Addr) (news news' : Led) : Prop := ∀ q ∈ news, q.1 ∈ pr → q ∈ news'
theorem Sub.kept {pr : List Addr} {news news' : Led} (h : Sub news news') : Kept pr news news' := fun q hq _ => h q hq
theorem Keep.kept {pr : List Addr} {d : Addr} {news news' : Led} (h : Keep d news news') (hd : ∀ a ∈ pr, a ≠ d) : Kept pr news news' := fun q hq hp => h q hq (hd _ hp)
theorem Kept.trans {pr : List Addr} {a b c : Led} (h : Kept pr a b) (k : Kept pr b c) : Kept pr a c := fun q hq hp => k q (h q hq hp) hp
theorem ShelfAt.kept {P : Params} {pr : List Addr} {news news' : Led} {x dx D : Addr} (h : ShelfAt P news x dx D) (hs : Kept pr news news') (h1 : x ∈ pr) (h2 : dx ∈ pr) : ShelfAt P news' x dx D :=
  let ⟨a, t, n, b⟩ := h; ⟨hs _ a h1, t, n, hs _ b h2⟩
section
variable {w : World} {pr : List Addr} {news news' : Led} {D1 D2 : Addr} {τ1 τ2 : Tau}
theorem Two.off1 (h : Two w pr news D1 D2 τ1 τ2) : ∀ a ∈ pr, a ≠ D1 := fun a ha e => h.off a ha (by rw [e]; exact .head _)
theorem Two.off2 (h : Two w pr news D1 D2 τ1 τ2) : ∀ a ∈ pr, a ≠ D2 := fun a ha e => h.off a ha (by rw [e]; exact .tail _ (.head _))
theorem look_snd {τ : Tau} {p : Str} {f : File} {c : Addr} (h : lookT τ p = some (f, c)) : c ∈ τ.map (·.2) := List.mem_map_of_mem (f := fun q : File × Addr => q.2) (List.mem_of_find?_eq_some h)
theorem look_fst {τ : Tau} {p : Str} {f : File} {c : Addr} (h : lookT τ p = some (f, c)) : f ∈ τ.map (·.1) := List.mem_map_of_mem (f := fun q : File × Addr => q.1) (List.mem_of_find?_eq_some h)
theorem Two.offc1 (h : Two w pr news D1 D2 τ1 τ2) {p : Str} {f : File} {c : Addr} (hl : lookT τ1 p = some (f, c)) : ∀ a ∈ pr, a ≠ c := fun a ha e => h.off a ha (by rw [e]; exact .tail _ (.tail _ (List.mem_append.mpr (.inl (look_snd hl)))))
theorem Two.offc2 (h : Two w pr news D1 D2 τ1 τ2) {p : Str} {f : File} {c : Addr} (hl : lookT τ2 p = some (f, c)) : ∀ a ∈ pr, a ≠ c := fun a ha e => h.off a ha (by rw [e]; exact .tail _ (.tail _ (List.mem_append.mpr (.inr (look_snd hl)))))
end
theorem look_same {τ1 τ2 : Tau} {p : Str} {f : File} {c : Addr} (he : τ1.map (·.1) = τ2.map (·.1)) (h : lookT τ1 p = some (f, c)) : ∃ c2, lookT τ2 p = some (f, c2) := by
  have e1 : (lookT τ2 p).map (·.1) = some f := by rw [← lookF_of, ← he, lookF_of, h]; rfl
  obtain ⟨⟨f1, c2⟩, h2, rfl⟩ := Option.map_eq_some_iff.mp e1
  exact ⟨c2, h2⟩
theorem look_sameN {τ1 τ2 : Tau} {p : Str} (he : τ1.map (·.1) = τ2.map (·.1)) (h : lookT τ1 p = none) : lookT τ2 p = none := by
  have e1 : (lookT τ2 p).map (·.1) = none := by rw [← lookF_of, ← he, lookF_of, h]; rfl
  exact Option.map_eq_none_iff.mp e1
/-- files[path] = (kind, a new content) -/
theorem put_led {w : World} {A : Around} {E : Value → Shared → Prop} {s : Shared} {h₀ : Heap} {L D T l : Addr} {m : Str → Option Value} {news : Led} {oc : Obj} {τ : Tau} {pth kind : Str} {t u : Tok} {n : Nat} {Q : Unit → Shared → Prop}
    (F : Fr h₀ L s.heap m) (N : News h₀ L s.heap ((T, tupOf [.str kind u, .ref l] n) :: (l, oc) :: news)) (H : FilesAt w news D τ) (hn : D ∉ τ.map (·.2)) (hlen : τ.length ≤ 1000) (l1 : ∀ q ∈ news, q.1 < l) (l2 : @LT.lt Nat _ l T) (hC : ContIs w kind [] oc)
    (h : ∀ h' news', Fr h₀ L h' m → News h₀ L h' news' → FilesAt w news' D (putT τ ⟨pth, kind, []⟩ l) → Keep D news news' → Q () { s with heap := h', toks := s.toks + 1 }) :
    wpAny (model PySem.Challenge.rw_og0070_01.row.prog w) A (setItem (.ref D) (.str pth t) (.ref T)) Q E s := by
  obtain ⟨⟨o, kvs, hD, hk, hF⟩, lo⟩ := H
  have hsz : kvs.length ≤ sizeLine := by rw [hF.length, sizeLine_eq]; omega
  have hfun : Fun news := fun_of (h₀ := h₀) (h := s.heap) (L := L) fun q hq => N q (.tail _ (.tail _ hq))
  refine set_led (knd := sK w) F N (.tail _ (.tail _ hD)) hk (strKind_is _ _ _ _) hsz fun h9 o9 F9 N9 hd9 => ?_
  obtain ⟨P1, P2, P3, P4⟩ := begin_post hfun hD hk hF lo hn l1 l2 hC hd9
  exact h h9 _ F9 N9 P1 P3
end Mine
end

section
open PySem PySem.Spec PySem.Calls PySem.W PyProof.Rows PyProof.V
set_option Elab.async false
set_option maxRecDepth 100000
namespace Mine
/-- a claim kept out of the sight of «assumption» -/
structure Hold (P : Prop) : Prop where
  it : P
theorem have_key {P Q : Prop} (k : Hold P) (f : Hold P → Q) : Q := f k
/-- put_led whose end knows neither the content's address nor the tokens: so two roads meet there -/
theorem put_led2 {w : World} {A : Around} {E : Value → Shared → Prop} {h₀ h : Heap} {L D T l : Addr} {m : Str → Option Value} {news : Led} {oc : Obj} {τ : Tau} {pth kind : Str} {t u : Tok} {n : Nat} {Q : Unit → Shared → Prop} {gs : Array GenState} {dr : Drawn} {tk : Tok} {os : OsState}
    (F : Fr h₀ L h m) (N : News h₀ L h ((T, tupOf [.str kind u, .ref l] n) :: (l, oc) :: news)) (H : FilesAt w news D τ) (hn : D ∉ τ.map (·.2)) (hlen : τ.length ≤ 1000) (l1 : ∀ q ∈ news, q.1 < l) (l2 : @LT.lt Nat _ l T) (hC : ContIs w kind [] oc)
    (k : ∀ (l : Addr) (h' : Heap) (tk' : Tok) (news' : Led), (∀ q ∈ news, q.1 < l) → Fr h₀ L h' m → News h₀ L h' news' → FilesAt w news' D (putT τ ⟨pth, kind, []⟩ l) → Keep D news news' → Q () ⟨h', gs, dr, tk', os⟩) :
    wpAny (model PySem.Challenge.rw_og0070_01.row.prog w) A (setItem (.ref D) (.str pth t) (.ref T)) Q E ⟨h, gs, dr, tk, os⟩ :=
  put_led F N H hn hlen l1 l2 hC fun h' news' F' N' H' K' => k l h' _ news' l1 F' N' H' K'
end Mine
end

section
open PySem PySem.Spec PySem.Calls PySem.W PyProof.Rows PyProof.V
set_option Elab.async false
set_option maxRecDepth 100000
set_option maxHeartbeats 4000000
namespace Mine
local macro_rules | `(tactic| k_mem) => `(tactic| (refine memOf ?_; ktr_member))
local macro_rules | `(tactic| walk_at "call ref") => `(tactic| (k_here; refine stop_ ?_))
local macro_rules | `(tactic| ktr_call $x:term $_c:term) => `(tactic| (refine stopped ?_; k_dflt (refine' Does.use $x ?d1 ?d2 ?d3 ?d4 ?d5 ?d6 ?d7 ?d8 ?_; (case d1 => k_asm); (case d2 => k_asm); (case d3 => k_asm); (case d4 => k_asm); (case d5 => k_asm); (case d6 => first | exact rfl | assumption); (case d7 => ktr_room); (case d8 => ktr_units))))
local macro_rules | `(tactic| k_all) => `(tactic| exact allNe (by assumption) (by omega))
local macro_rules | `(tactic| walk_at "compareOp NotEq ref ref") => `(tactic| (k_here; refine stop_ ?_))
local macro_rules | `(tactic| walk_at "compareOp Eq ref ref") => `(tactic| (k_here; refine stop_ ?_))
theorem put_next {w : World} {pr : List Addr} {news news1 news2 : Led} {D1 D2 c : Addr} {τ1 τ2 : Tau} {f : File} (W : Two w pr news1 D1 D2 τ1 τ2) (K : Kept pr news news1) (N : Fun news1) (Q1 : FilesAt w news2 D2 (putT τ2 f c)) (Q2 : Keep D2 news1 news2) (hc : ∀ q ∈ news1, q.1 < c) :
    ∃ c2, lookT (putT τ2 f c2) f.path = some (f, c2) ∧ Two w pr news2 D1 D2 τ1 (putT τ2 f c2) ∧ Kept pr news news2 :=
  ⟨c, look_put _ _ _, (W.swap.put N Q1 Q2 hc).swap, K.trans (Q2.kept W.off2)⟩
theorem law_opened_right_ {w : World} {pr : List Addr} {news : Led} {x dx D1 D2 : Addr} {τ1 τ2 : Tau} {pth kind mode : Str} {t u v z : Tok} {b : By} (S : ShelfAt w.params news x dx D1) (px : x ∈ pr) (pdx : dx ∈ pr) (T : Two w pr news D1 D2 τ1 τ2) (he : τ1.map (·.1) = τ2.map (·.1)) (hF : Fine 25 40 (τ1.map (·.1))) (hkind : kind = Str.ofString "sequential" ∨ kind = relS ∨ kind = Str.ofString "indexed") :
   Does w 201 10 news [.ref x, .ref D2, .str pth t, .str kind u, .str mode v, .bytes b z] (fun news' r => r = .bool true ∧ Kept pr news news' ∧ ∃ τ1' τ2', Two w pr news' D1 D2 τ1' τ2' ∧ τ1'.map (·.1) = nextS (τ1.map (·.1)) pth kind mode b ∧ τ2'.map (·.1) = nextS (τ1.map (·.1)) pth kind mode b) := by
  unfold Does; k_fill
  intro p loose mean mg mb dp un gd cn cs a ccd cl outer A₀ base h₀ L m s Q E B F X N T0 hkf hd hu hret
  have S' := S
  obtain ⟨hx0, _, _, hdx0⟩ := S'
  refine wpAny_call ?_
  by_cases hm : mode = Str.ofString "output"
  · subst hm
    k_dflt ktr_enter
    k_steps
    ktr_call (opened_out S T.one T.ne.2.1 (by have := hF.2; rw [List.length_map] at this; omega) hkind) 0
    rintro r1 news1 h1 tk1 F1 N1 ⟨T1, n1, k1, c1, rfl, hT1, P1, P2, P3, P4⟩
    have u1 := fun_of N1
    have W1 := T.put (fun_of N) P1 P3 P4
    have K1 := P3.kept T.off1
    have S1 := S.kept K1 px pdx
    (try dsimp only)
    refine' have_key ?kk (fun key => ?mm)
    case mm =>
      k_steps
      all_goals (
        (try dsimp only)
        refine put_led2 (by k_asm) (by k_asm) W1.two W1.swap.ne.2.1 (by have := hF.2; rw [he, List.length_map] at this; omega) (by assumption) (And.left (by assumption)) (by first | exact .inr ⟨ne_of_beq_false (by assumption), [], 0, rfl, .nil⟩ | exact .inl ⟨eq_of_beq (by assumption), [], by assumption, .nil⟩) ?_
        exact key.it)
    case kk =>
      constructor
      intro cA h2 tk2 news2 lA F2 N2 Q1 Q2
      obtain ⟨c2, hl2, W2, K2⟩ := put_next W1 K1 u1 Q1 Q2 lA
      have u2 := fun_of N2
      have hl1 : lookT (putT τ1 ⟨pth, kind, []⟩ c1) pth = some (⟨pth, kind, []⟩, c1) := look_put _ _ _
      (try dsimp only)
      have hFA : Fine 25 41 ((putT τ1 ⟨pth, kind, []⟩ c1).map (·.1)) := by rw [putT_fst]; exact hF.put (Nat.zero_le _)
      have hE2 : (putT τ1 ⟨pth, kind, []⟩ c1).map (·.1) = (putT τ2 ⟨pth, kind, []⟩ c2).map (·.1) := by rw [putT_fst, putT_fst, he]
      have hkk : (kind == kind) = true := by simp
      obtain ⟨⟨o3, kv3, tup3, tk3, n3, hD3, hk3, hf3, ht3⟩, _, lo3, _⟩ := W2.two.at hl2
      replace ht3 : (tup3, tupOf [.str kind tk3, .ref c2] n3) ∈ news2 := ht3
      obtain ⟨_, ⟨oc1, hc1, hC1⟩, _, loc1⟩ := W2.one.at hl1
      replace hC1 : ContIs w kind [] oc1 := hC1
      have hz1 : ([] : List By).length ≤ 25 := hFA.1 _ (look_fst hl1)
      k_steps
      refine kdg_notin (knd := sK w) (by k_asm) (by k_mem) hk3 (loOf lo3) (strKind_is _ _ _ _) true (by rw [hf3]; rfl) ?_
      (try dsimp only)
      k_steps
      refine kda_item (knd := sK w) (by k_asm) (by k_mem) hk3 (strKind_is _ _ _ _) hf3 ?_
      (try dsimp only)
      k_steps
      ktr_call (law_added_ hc1 hC1 loc1 (by omega)) 0
      rintro r3 news3 h3 tk3 F3 N3 ⟨rfl, oc3, hc3, hC3, K3⟩
      have u3 := fun_of N3
      have W3 := W2.add u2 hl1 hc1 hC1.noTup hc3 hC3 K3
      have J3 := K2.trans (K3.kept (W2.offc1 hl1))
      obtain ⟨⟨o4, kv4, tup4, tk4, n4, hD4, hk4, hf4, ht4⟩, ⟨oc2, hc2, hC2⟩, lo4, loc2⟩ := W3.two.at hl2
      replace ht4 : (tup4, tupOf [.str kind tk4, .ref c2] n4) ∈ news3 := ht4
      replace hC2 : ContIs w kind [] oc2 := hC2
      (try dsimp only)
      k_steps
      refine kda_item (knd := sK w) (by k_asm) (by k_mem) hk4 (strKind_is _ _ _ _) hf4 ?_
      (try dsimp only)
      k_steps
      ktr_call (law_added_ hc2 hC2 loc2 (by omega)) 0
      rintro r4 news4 h4 tk4 F4 N4 ⟨rfl, oc4, hc4, hC4, K4⟩
      have W4 := (W3.swap.add u3 hl2 hc2 hC2.noTup hc4 hC4 K4).swap
      have J4 := J3.trans (K4.kept (W3.offc2 hl2))
      have S4 := S.kept J4 px pdx
      have S4' := S4
      obtain ⟨hx4, _, _, hdx4⟩ := S4'
      have A1 := W4.one.at (look_add b hl1)
      have A2 := W4.two.at (look_add b hl2)
      obtain ⟨_, ⟨oc5, hc5, hC5⟩, _, loc5⟩ := A1
      replace hC5 : ContIs w kind ([] ++ [b]) oc5 := hC5
      obtain ⟨⟨o6, kv6, tup6, tk6, n6, hD6, hk6, hf6, ht6⟩, ⟨oc6, hc6, hC6⟩, lo6, loc6⟩ := A2
      replace ht6 : (tup6, tupOf [.str kind tk6, .ref c2] n6) ∈ news4 := ht6
      replace hC6 : ContIs w kind ([] ++ [b]) oc6 := hC6
      have hz5 : ([] ++ [b]).length ≤ 30 := by rw [List.length_append]; simp only [List.length_singleton]; omega
      (try dsimp only)
      k_steps
      ktr_call (content_of_in S4 (W4.one.at (look_add b hl1))) 0
      rintro r5 news5 h5 tk5 F5 N5 ⟨rfl, rfl⟩
      (try dsimp only)
      k_steps
      ktr_call (law_rows_ hc5 hC5 loc5 hz5) 0
      rintro r5 news6 h6 tk6 F6 N6 ⟨hs6, tl6, ht6', hf6', hd6⟩
      obtain ⟨a6, rfl⟩ := rowsDat_ref hd6
      have hD6' := hs6 _ hD6
      have ht6'' := hs6 _ ht6
      (try dsimp only)
      k_steps
      refine kda_item (knd := sK w) (by k_asm) (by k_mem) hk6 (strKind_is _ _ _ _) hf6 ?_
      (try dsimp only)
      k_steps
      ktr_call (law_rows_ (hs6 _ hc6) hC6 loc6 hz5) 0
      rintro r7 news7 h7 tk7 F7 N7 ⟨hs7, tl7, ht7', hf7', hd7⟩
      obtain ⟨a7, rfl⟩ := rowsDat_ref hd7
      (try dsimp only)
      k_steps
      refine stopped ?_
      refine eq_tupDat (n := 1) (by k_asm) (hd6.mono (ht6'.trans hs7)) (hd7.mono ht7') (rows_depth _ _) (by ktr_units) ?_
      (try dsimp only)
      k_steps
      have W7 := W4.sub (hs6.trans hs7)
      have hE7 : (addT (putT τ1 ⟨pth, kind, []⟩ c1) pth b).map (·.1) = (addT (putT τ2 ⟨pth, kind, []⟩ c2) pth b).map (·.1) := by rw [addT_fst, addT_fst]; exact congrArg (addF · pth b) hE2
      ktr_call (law_told_right_ (S4.sub (hs6.trans hs7)) W7.one W7.two hE7 (fun q hq => Nat.le_trans (((addT_fst (putT τ1 ⟨pth, kind, []⟩ c1) pth b ▸ (hFA).add (p := pth) (b := b) : Fine _ _ ((addT (putT τ1 ⟨pth, kind, []⟩ c1) pth b).map (·.1)))).1 q.1 (List.mem_map_of_mem hq)) (by omega)) (by have := (hFA).2; rw [List.length_map] at this; unfold addT; rw [List.length_map]; omega)) 0
      rintro r8 news8 h8 tk8 F8 N8 ⟨hs8, rfl⟩
      (try dsimp only)
      k_steps
      refine hret _ _ _ _ (by k_asm) (by k_asm) ⟨rfl, J4.trans (hs6.trans (hs7.trans hs8)).kept, _, _, W7.sub hs8, ?_, ?_⟩
      · rw [addT_fst, putT_fst]; unfold nextS; rw [if_pos rfl]
      · rw [addT_fst, putT_fst, ← he]; unfold nextS; rw [if_pos rfl]
  · have hm' : (mode == Str.ofString "output") = false := by rw [beq_eq_false_iff_ne]; exact hm
    cases hl : lookT τ1 pth with
    | none =>
      have hl2 := look_sameN he hl
      obtain ⟨⟨o3, kv3, hD3, hk3, hf3⟩, lo3⟩ := T.two.notAt hl2
      k_dflt ktr_enter
      k_steps
      ktr_call (opened_none S (T.one.notAt hl) hm) 0
      rintro r1 news1 h1 tk1 F1 N1 ⟨T1, n1, k1, rfl, hT1, hs1⟩
      have hD3' := hs1 _ hD3
      (try dsimp only)
      k_steps
      refine kdg_notin (knd := sK w) (by k_asm) (by k_mem) hk3 (loOf lo3) (strKind_is _ _ _ _) false (by rw [hf3]; rfl) ?_
      (try dsimp only)
      k_steps
      ktr_call (law_told_right_ (S.sub hs1) (T.one.sub hs1) (T.two.sub hs1) he (fun q hq => Nat.le_trans (hF.1 q.1 (List.mem_map_of_mem hq)) (by omega)) (by have := hF.2; rw [List.length_map] at this; omega)) 0
      rintro r2 news2 h2 tk2 F2 N2 ⟨hs2, rfl⟩
      (try dsimp only)
      k_steps
      refine hret _ _ _ _ (by k_asm) (by k_asm) ⟨rfl, (hs1.trans hs2).kept, _, _, T.sub (hs1.trans hs2), ?_, ?_⟩
      · unfold nextS; rw [if_neg hm, lookF_of, hl]; rfl
      · unfold nextS; rw [if_neg hm, lookF_of, hl, ← he]; rfl
    | some fc =>
      obtain ⟨⟨fp, fk, fr⟩, c1⟩ := fc
      obtain ⟨c2, hl2⟩ := look_same he hl
      by_cases hdk : fk = kind
      · obtain rfl : kind = fk := hdk.symm
        have hl1 := hl
        k_dflt ktr_enter
        k_steps
        ktr_call (opened_same S (T.one.at hl) hm rfl) 0
        rintro r1 news1 h1 tk1 F1 N1 ⟨T1, n1, k1, rfl, hT1, hs1⟩
        have u1 := fun_of N1
        have W1 := T.sub hs1
        have J1 : Kept pr news news1 := hs1.kept
        (try dsimp only)
        have hkk : (kind == kind) = true := by simp
        obtain ⟨⟨o3, kv3, tup3, tk3, n3, hD3, hk3, hf3, ht3⟩, _, lo3, _⟩ := W1.two.at hl2
        replace ht3 : (tup3, tupOf [.str kind tk3, .ref c2] n3) ∈ news1 := ht3
        obtain ⟨_, ⟨oc1, hc1, hC1⟩, _, loc1⟩ := W1.one.at hl1
        replace hC1 : ContIs w kind fr oc1 := hC1
        have hz1 : (fr : List By).length ≤ 25 := hF.1 _ (look_fst hl1)
        k_steps
        refine kdg_notin (knd := sK w) (by k_asm) (by k_mem) hk3 (loOf lo3) (strKind_is _ _ _ _) true (by rw [hf3]; rfl) ?_
        (try dsimp only)
        k_steps
        refine kda_item (knd := sK w) (by k_asm) (by k_mem) hk3 (strKind_is _ _ _ _) hf3 ?_
        (try dsimp only)
        k_steps
        ktr_call (law_added_ hc1 hC1 loc1 (by omega)) 0
        rintro r3 news3 h3 tk3 F3 N3 ⟨rfl, oc3, hc3, hC3, K3⟩
        have u3 := fun_of N3
        have W3 := W1.add u1 hl1 hc1 hC1.noTup hc3 hC3 K3
        have J3 := J1.trans (K3.kept (W1.offc1 hl1))
        obtain ⟨⟨o4, kv4, tup4, tk4, n4, hD4, hk4, hf4, ht4⟩, ⟨oc2, hc2, hC2⟩, lo4, loc2⟩ := W3.two.at hl2
        replace ht4 : (tup4, tupOf [.str kind tk4, .ref c2] n4) ∈ news3 := ht4
        replace hC2 : ContIs w kind fr oc2 := hC2
        (try dsimp only)
        k_steps
        refine kda_item (knd := sK w) (by k_asm) (by k_mem) hk4 (strKind_is _ _ _ _) hf4 ?_
        (try dsimp only)
        k_steps
        ktr_call (law_added_ hc2 hC2 loc2 (by omega)) 0
        rintro r4 news4 h4 tk4 F4 N4 ⟨rfl, oc4, hc4, hC4, K4⟩
        have W4 := (W3.swap.add u3 hl2 hc2 hC2.noTup hc4 hC4 K4).swap
        have J4 := J3.trans (K4.kept (W3.offc2 hl2))
        have S4 := S.kept J4 px pdx
        have S4' := S4
        obtain ⟨hx4, _, _, hdx4⟩ := S4'
        have A1 := W4.one.at (look_add b hl1)
        have A2 := W4.two.at (look_add b hl2)
        obtain ⟨_, ⟨oc5, hc5, hC5⟩, _, loc5⟩ := A1
        replace hC5 : ContIs w kind (fr ++ [b]) oc5 := hC5
        obtain ⟨⟨o6, kv6, tup6, tk6, n6, hD6, hk6, hf6, ht6⟩, ⟨oc6, hc6, hC6⟩, lo6, loc6⟩ := A2
        replace ht6 : (tup6, tupOf [.str kind tk6, .ref c2] n6) ∈ news4 := ht6
        replace hC6 : ContIs w kind (fr ++ [b]) oc6 := hC6
        have hz5 : (fr ++ [b]).length ≤ 30 := by rw [List.length_append]; simp only [List.length_singleton]; omega
        (try dsimp only)
        k_steps
        ktr_call (content_of_in S4 (W4.one.at (look_add b hl1))) 0
        rintro r5 news5 h5 tk5 F5 N5 ⟨rfl, rfl⟩
        (try dsimp only)
        k_steps
        ktr_call (law_rows_ hc5 hC5 loc5 hz5) 0
        rintro r5 news6 h6 tk6 F6 N6 ⟨hs6, tl6, ht6', hf6', hd6⟩
        obtain ⟨a6, rfl⟩ := rowsDat_ref hd6
        have hD6' := hs6 _ hD6
        have ht6'' := hs6 _ ht6
        (try dsimp only)
        k_steps
        refine kda_item (knd := sK w) (by k_asm) (by k_mem) hk6 (strKind_is _ _ _ _) hf6 ?_
        (try dsimp only)
        k_steps
        ktr_call (law_rows_ (hs6 _ hc6) hC6 loc6 hz5) 0
        rintro r7 news7 h7 tk7 F7 N7 ⟨hs7, tl7, ht7', hf7', hd7⟩
        obtain ⟨a7, rfl⟩ := rowsDat_ref hd7
        (try dsimp only)
        k_steps
        refine stopped ?_
        refine eq_tupDat (n := 1) (by k_asm) (hd6.mono (ht6'.trans hs7)) (hd7.mono ht7') (rows_depth _ _) (by ktr_units) ?_
        (try dsimp only)
        k_steps
        have W7 := W4.sub (hs6.trans hs7)
        have hE7 : (addT τ1 pth b).map (·.1) = (addT τ2 pth b).map (·.1) := by rw [addT_fst, addT_fst]; exact congrArg (addF · pth b) he
        ktr_call (law_told_right_ (S4.sub (hs6.trans hs7)) W7.one W7.two hE7 (fun q hq => Nat.le_trans (((addT_fst τ1 pth b ▸ (hF).add (p := pth) (b := b) : Fine _ _ ((addT τ1 pth b).map (·.1)))).1 q.1 (List.mem_map_of_mem hq)) (by omega)) (by have := (hF).2; rw [List.length_map] at this; unfold addT; rw [List.length_map]; omega)) 0
        rintro r8 news8 h8 tk8 F8 N8 ⟨hs8, rfl⟩
        (try dsimp only)
        k_steps
        refine hret _ _ _ _ (by k_asm) (by k_asm) ⟨rfl, J4.trans (hs6.trans (hs7.trans hs8)).kept, _, _, W7.sub hs8, ?_, ?_⟩
        · rw [addT_fst]; unfold nextS; rw [if_neg hm, lookF_of, hl]; exact (if_pos rfl).symm
        · rw [addT_fst, ← he]; unfold nextS; rw [if_neg hm, lookF_of, hl]; exact (if_pos rfl).symm
      · have hdk' : (fk == kind) = false := by rw [beq_eq_false_iff_ne]; exact hdk
        obtain ⟨⟨o3, kv3, tup3, tk3, n3, hD3, hk3, hf3, ht3⟩, _, lo3, _⟩ := T.two.at hl2
        replace ht3 : (tup3, tupOf [.str fk tk3, .ref c2] n3) ∈ news := ht3
        k_dflt ktr_enter
        k_steps
        ktr_call (opened_diff S (T.one.at hl) hm hdk) 0
        rintro r1 news1 h1 tk1 F1 N1 ⟨T1, n1, k1, rfl, hT1, hs1⟩
        have hD3' := hs1 _ hD3
        have ht3' := hs1 _ ht3
        (try dsimp only)
        k_steps
        refine kdg_notin (knd := sK w) (by k_asm) (by k_mem) hk3 (loOf lo3) (strKind_is _ _ _ _) true (by rw [hf3]; rfl) ?_
        (try dsimp only)
        k_steps
        refine kda_item (knd := sK w) (by k_asm) (by k_mem) hk3 (strKind_is _ _ _ _) hf3 ?_
        (try dsimp only)
        k_steps
        ktr_call (law_told_right_ (S.sub hs1) (T.one.sub hs1) (T.two.sub hs1) he (fun q hq => Nat.le_trans (hF.1 q.1 (List.mem_map_of_mem hq)) (by omega)) (by have := hF.2; rw [List.length_map] at this; omega)) 0
        rintro r2 news2 h2 tk2 F2 N2 ⟨hs2, rfl⟩
        (try dsimp only)
        k_steps
        refine hret _ _ _ _ (by k_asm) (by k_asm) ⟨rfl, (hs1.trans hs2).kept, _, _, T.sub (hs1.trans hs2), ?_, ?_⟩
        · unfold nextS; rw [if_neg hm, lookF_of, hl]; exact (if_neg hdk).symm
        · unfold nextS; rw [if_neg hm, lookF_of, hl, ← he]; exact (if_neg hdk).symm
end Mine
end

section
open PySem PySem.Spec PySem.Calls PySem.W PyProof.Rows PyProof.V
set_option Elab.async false
set_option maxRecDepth 100000
namespace Mine
open LCg LCt
def SrcTup (ax : Addr) (its : Array Value) (nw : Led) : Prop := ∃ o, (ax, o) ∈ nw ∧ o.cls = .type "tuple" ∧ ∃ n, o.data = .seq its n
theorem SrcTup.tup {h₀ h : Heap} {L ax : Addr} {its : Array Value} {nw : Led} (x : SrcTup ax its nw) (N : News h₀ L h nw) : h.IsTuple ax its :=
  let ⟨o, hm, r⟩ := x; ⟨o, (N _ hm).1, r⟩
theorem tup_st {h₀ : Heap} {L ax I : Addr} {its : Array Value} : ∀ i (h h' : Heap) (o : Obj) (nw : Led), (h.IsTupleIter I ax i ∧ h.IsTuple ax its) → h.get? I = some o → h'.get? I = some o → (∀ b o, h₀.get? b = some o → h'.get? b = some o) → News h₀ L h' nw → SrcTup ax its nw → (h'.IsTupleIter I ax i ∧ h'.IsTuple ax its) :=
  fun i h h' o nw st e e' _ N S => ⟨by obtain ⟨o', q, r⟩ := st.1; rw [e] at q; cases q; exact ⟨o, e', r⟩, S.tup N⟩
/-- a sequence of the ledger -/
def SeqObj (vs : List Value) (o : Obj) : Prop := (∃ n, o = tupOf vs n) ∨ (∃ n, o = listOf vs.toArray n)
def SeqSrcT (prog : Program) (w : World) (A : Around) (h₀ : Heap) (L : Addr) (m : Str → Option Value) (env : Env) (ct elt : Expr) (x : Str) (scope : Scope) (cl : List (Str × Addr)) (Q : Value → Shared → Prop) (xv : Value) (s₁ : Shared) : Prop :=
  ∃ (ax : Addr) (oR : Obj) (vs : List Value) (news : Led), xv = .ref ax ∧ A.handled = none ∧ Fr h₀ L s₁.heap m ∧ News h₀ L s₁.heap news ∧ (ax, oR) ∈ news ∧ SeqObj vs oR ∧ vs.length ≤ sizeLine ∧
      ∀ g, CompRestT prog w A h₀ L m env ct elt x scope cl { s₁ with heap := g } (fun nw => (ax, oR) ∈ nw) (fun i v => vs[i]? = some v) (FinE h₀ L m { s₁ with heap := g } Q) vs.length 0 [] news
section
variable {prog : Program} {w : World} {A : Around} {E : Value → Shared → Prop} {s : Shared} {h₀ : Heap} {L : Addr} {m : Str → Option Value} {env : Env}
/-- a comprehension with one test over a list or a tuple of the ledger -/
theorem ListComp_seqT {ct elt iter : Expr} {x : Str} {px : Pos} {scope : Scope} {cl : List (Str × Addr)} {pos : Pos} {Q : Value → Shared → Prop} (_F₀ : Fr h₀ L s.heap m)
    (hclos : closureFor scope env = pure cl) (hcell : ∀ y ∈ scope.names, y.2 ≠ .cell) (hkind : scope.kind = .function)
    (hnames : ∀ y ∈ scope.names, y.2 = .local → scope.names.lookup y.1 = some .local) (hx : scope.names.lookup x = some .local)
    (h : wpAny (model prog w) A (eval iter env) (SeqSrcT prog w A h₀ L m env ct elt x scope cl Q) E s)
    (hs : ∀ x, foldedSetIterable iter env x = pure x := by intro _; rfl) :
    wpAny (model prog w) A (eval (.ListComp elt [⟨.Name x px, iter, [ct], 0⟩] scope pos) env) Q E s := by
  rw [eval_ListComp]
  refine wpAny_comprehension_free (use := none) rfl hs hclos hkind hnames (wpAny_mono h (fun xv s₁ h₁ => ?_) fun _ _ e => e)
  obtain ⟨ax, oR, vs, news, rfl, hh, F, N, S, hO, hsz, R⟩ := h₁
  have fin : ∀ (D C : Addr) (h : Heap) (tk : Nat) (m' : Str → Option Value) (ys : List Value) (news' : Led) (s₂ : Shared), Fr h₀ L h m → News h₀ L h ((D, lst ys) :: news') → Off1 D news' → h.Ns C m' → h₀.get? C = none → h₀.get? D = none → C ≠ L → D ≠ L → C ≠ D → (∀ p ∈ news', p.1 ≠ C) → FinE h₀ L m s₂ Q ys news' →
      ∃ m', h.Ns C m' ∧ ∀ h'' : Heap, Heap.SameBut C h h'' → Q (.ref D) { s₂ with heap := h'', toks := tk } := by
    intro D C h tk m' ys news' s₂ F' N' o1 hn hC₀ hD₀ hCL hDL hCD offC fin
    refine ⟨m', hn, fun h'' hs'' => fin D h'' tk (F'.change hs'' hCL hC₀) (fun p hp => ?_) o1⟩
    refine ⟨hs''.extBut _ _ ?_ (N' p hp).1, (N' p hp).2⟩
    rcases List.mem_cons.mp hp with rfl | hp
    · exact Ne.symm hCD
    · exact offC p hp
  rcases hO with ⟨n, rfl⟩ | ⟨n, rfl⟩
  · have hl : s₁.heap.IsTuple ax vs.toArray := ⟨_, (N _ S).1, rfl, _, rfl⟩
    have hlt : ax < s₁.heap.objs.size := by obtain ⟨_, e, _⟩ := hl; exact Heap.lt_size e
    refine wpAny_pyIter_tuple hl ?_
    have up : ∀ b o, s₁.heap.get? b = some o → (s₁.heap.push { cls := .type "tuple_iterator", data := .fields #[.ref ax, .int 0 0] }).get? b = some o := fun b o e => Heap.get?_push_of_some _ e
    refine block_T (S := fun nw => (ax, tupOf vs n) ∈ nw) (n := vs.length) (P := fun i v => vs[i]? = some v) (Fin := FinE h₀ L m { s₁ with heap := _ } Q) (by have W := Walks.tuple (prog := prog) (w := w) hh s₁.heap.objs.size ax (Nat.ne_of_lt hlt) vs.toArray; simpa using W) hsz (fun i h st => by obtain ⟨o, e, _⟩ := st.1; exact ⟨o, e⟩) (fun i h h' o nw a b c d e hm => tup_st i h h' o nw a b c d e ⟨_, hm, rfl, _, rfl⟩) hcell hkind hx ⟨⟨_, Heap.get?_push_size _ rfl, rfl, rfl⟩, hl.at (up _)⟩ (fun b hb => ?_)
      (F.keeps up) (N.grown up) (Nat.ne_of_lt F.ns.lt) (next_is_new F) (fun p hp => Nat.ne_of_lt (Heap.lt_size (N p hp).1)) S (R _) ?_
    · show b < (s₁.heap.push _).objs.size
      rw [Heap.size_push]
      rcases List.mem_cons.mp hb with rfl | hb
      · exact Nat.lt_succ_self _
      · rw [List.mem_singleton.mp hb]; exact Nat.lt_succ_of_lt hlt
    · intro D C h tk m' ys news' F' N' o1 hn hC₀ hD₀ hCL hDL hCD offC fn
      exact fin D C h tk m' ys news' _ F' N' o1 hn hC₀ hD₀ hCL hDL hCD offC fn
  · have hl : s₁.heap.IsList ax vs.toArray := ⟨_, (N _ S).1, rfl, _, rfl⟩
    have hlt : ax < s₁.heap.objs.size := by obtain ⟨_, e, _⟩ := hl; exact Heap.lt_size e
    refine wpAny_pyIter_list hl ?_
    have up : ∀ b o, s₁.heap.get? b = some o → (s₁.heap.push { cls := .type "list_iterator", data := .fields #[.ref ax, .int 0 0] }).get? b = some o := fun b o e => Heap.get?_push_of_some _ e
    refine block_T (S := fun nw => (ax, listOf vs.toArray n) ∈ nw) (n := vs.length) (P := fun i v => vs[i]? = some v) (Fin := FinE h₀ L m { s₁ with heap := _ } Q) (by have W := Walks.list (prog := prog) (w := w) hh s₁.heap.objs.size ax (Nat.ne_of_lt hlt) vs.toArray; simpa using W) hsz (fun i h st => by obtain ⟨o, e, _⟩ := st.1; exact ⟨o, e⟩) (fun i h h' o nw a b c d e hm => list_st (h₀ := h₀) i h h' o nw a b c d e (.inr ⟨_, hm, rfl, _, rfl⟩)) hcell hkind hx ⟨⟨_, Heap.get?_push_size _ rfl, rfl, rfl⟩, hl.push _⟩ (fun b hb => ?_)
      (F.keeps up) (N.grown up) (Nat.ne_of_lt F.ns.lt) (next_is_new F) (fun p hp => Nat.ne_of_lt (Heap.lt_size (N p hp).1)) S (R _) ?_
    · show b < (s₁.heap.push _).objs.size
      rw [Heap.size_push]
      rcases List.mem_cons.mp hb with rfl | hb
      · exact Nat.lt_succ_self _
      · rw [List.mem_singleton.mp hb]; exact Nat.lt_succ_of_lt hlt
    · intro D C h tk m' ys news' F' N' o1 hn hC₀ hD₀ hCL hDL hCD offC fn
      exact fin D C h tk m' ys news' _ F' N' o1 hn hC₀ hD₀ hCL hDL hCD offC fn
/-- the turns of a for over a list or a tuple of the ledger -/
theorem iter_seq {target : Expr} {body : List Stmt} {Q : Flow → Shared → Prop} {ax : Addr} {lo : Obj} {vs : List Value} {m₀ : Str → Option Value} {news : Led}
    (hh : A.handled = none) (F : Fr h₀ env.locals s.heap m₀) (N : News h₀ env.locals s.heap news) (hm : (ax, lo) ∈ news) (hO : SeqObj vs lo)
    (rest₀ : ∀ I nm, (∀ p ∈ news, p.1 < I) → ItemsRest prog w A E h₀ env target body Q s [(I, nm)] [(ax, lo)] (vs.map .val) m₀ news) :
    wpAny (model prog w) A (pyIter (.ref ax)) (fun it s₂ => TurnsAt prog w A h₀ env target body Q E it s₂) E s := by
  rcases hO with ⟨n, rfl⟩ | ⟨n, rfl⟩
  · exact iter_tupTurns hh F N hm rfl rfl fun I h => rest₀ I _ h
  · exact iter_listTurns hh F N hm rfl rfl fun I h => rest₀ I _ h
end
def setT (τ : Tau) (p : Str) (rows : List By) : Tau := τ.map fun q => if q.1.path = p then (⟨q.1.path, q.1.kind, rows⟩, q.2) else q
theorem FsAre.set {w : World} {news news' : Led} {kvs : List (Str × Value)} {τ : Tau} {p : Str} {c : Addr} {f : File} {rows : List By} {oc oc' : Obj} (h : FsAre w news kvs τ) (hf : Fun news) (hc : (c, oc) ∈ news) (ht : oc.cls ≠ .type "tuple") (hl : lookT τ p = some (f, c)) (hn : (τ.map (·.2)).Nodup) (hs : Keep c news news')
    (hc' : (c, oc') ∈ news') (hC : ContIs w f.kind rows oc') (hp : (kvs.map (·.1)).Nodup) : FsAre w news' kvs (setT τ p rows) := by
  induction h with
  | nil => exact .nil
  | @cons f' c₁ tup tk n o kvs τ h1 h2 h3 h4 hF ih =>
    have htup : (tup, tupOf [.str f'.kind tk, .ref c₁] n) ∈ news' := hs _ h1 fun e => ht (by have e' : tup = c := e; subst e'; rw [hf _ _ _ hc h1])
    simp only [List.map_cons, List.nodup_cons] at hn hp
    have hpaths : kvs.map (·.1) = τ.map (·.1.path) := hF.paths
    by_cases e : f'.path = p
    · have e1 : lookT ((f', c₁) :: τ) p = some (f', c₁) := by simp [lookT, e]
      rw [e1] at hl; cases hl
      have rest : setT τ p rows = τ := by
        unfold setT
        refine (List.map_congr_left (g := id) fun q hq => ?_).trans (List.map_id _)
        have : q.1.path ≠ p := fun e' => hp.1 (by rw [hpaths, e, ← e']; exact List.mem_map_of_mem (f := fun q : File × Addr => q.1.path) hq)
        simp [this]
      have e2 : setT ((f, c) :: τ) p rows = (⟨f.path, f.kind, rows⟩, c) :: τ := by
        show (if f.path = p then _ else _) :: setT τ p rows = _
        rw [rest, if_pos e]
      rw [e2]
      exact FsAre.cons (f := ⟨f.path, f.kind, rows⟩) htup hc' hC h4 (hF.keep hf hc ht hs hn.1)
    · have e1 : lookT ((f', c₁) :: τ) p = lookT τ p := by simp [lookT, e]
      rw [e1] at hl
      have e2 : setT ((f', c₁) :: τ) p rows = (f', c₁) :: setT τ p rows := by
        show (if f'.path = p then _ else _) :: setT τ p rows = _
        rw [if_neg e]
      rw [e2]
      have hcm : c ∈ τ.map (·.2) := List.mem_map_of_mem (f := fun q : File × Addr => q.2) (List.mem_of_find?_eq_some hl)
      exact FsAre.cons htup (hs _ h2 fun e' => hn.1 (by have e'' : c₁ = c := e'; rw [e'']; exact hcm)) h3 h4 (ih hl hn.2 hp.2)
theorem set_put (τ : Tau) (p k : Str) (r rows : List By) (c : Addr) : setT (putT τ ⟨p, k, r⟩ c) p rows = putT τ ⟨p, k, rows⟩ c := by
  unfold setT putT
  show _ = if τ.any (fun q => decide (q.1.path = p)) = true then _ else _
  show List.map _ (if τ.any (fun q => decide (q.1.path = p)) = true then _ else _) = _
  split
  · rw [List.map_map]
    refine List.map_congr_left fun q _ => ?_
    show (if (if q.1.path = p then ((⟨p, k, r⟩ : File), c) else q).1.path = p then _ else _) = _
    by_cases e : q.1.path = p
    · simp [e]
    · simp [e]
  · rename_i h
    rw [List.map_append]
    congr 1
    · refine (List.map_congr_left (g := id) fun q hq => ?_).trans (List.map_id _)
      have : q.1.path ≠ p := fun e => h (List.any_eq_true.mpr ⟨q, hq, by simp [e]⟩)
      simp [this]
    · simp
theorem FilesAt.putRows {w : World} {news news' : Led} {D c : Addr} {τ : Tau} {p k : Str} {rows : List By} {oc oc' : Obj} (h : FilesAt w news D (putT τ ⟨p, k, []⟩ c)) (hf : Fun news) (hn : D ≠ c) (hnd : ((putT τ ⟨p, k, []⟩ c).map (·.2)).Nodup) (hc : (c, oc) ∈ news) (ht : oc.cls ≠ .type "tuple") (hK : Keep c news news') (hc' : (c, oc') ∈ news') (hC : ContIs w k rows oc') :
    FilesAt w news' D (putT τ ⟨p, k, rows⟩ c) := by
  have hp := h.pathsNodup
  obtain ⟨⟨o, kvs, hD, hk, hF⟩, lo⟩ := h
  refine ⟨⟨o, kvs, hK _ hD hn, hk, ?_⟩, lo⟩
  rw [← set_put]
  exact hF.set (f := ⟨p, k, []⟩) hf hc ht (look_put τ ⟨p, k, []⟩ c) hnd hK hc' hC (by rw [hF.paths]; exact hp)
end Mine
end

section
open PySem PySem.Spec PySem.Calls PySem.W PyProof.Rows PyProof.V
set_option Elab.async false
set_option maxRecDepth 100000
namespace Mine
section
variable {prog : Program} {w : World} {A : Around} {E : Value → Shared → Prop} {h₀ : Heap} {env : Env} {target : Expr} {body : List Stmt} {Q : Flow → Shared → Prop} {s : Shared} {ws : List (Addr × String)} {keep : Led}
/-- a for whose turns change the ledger and its own name -/
theorem itemsRest_var (x : Str) (m₀ : Str → Option Value) (J : Nat → Led → Prop) (nw₀ : Led) (xs : List Itm) (h0 : J 0 nw₀)
    (fin : ∀ (u : Str → Option Value) (nw : Led) (h : Heap) (tk : Nat), J xs.length nw → Fr h₀ env.locals h (fun y => if y = x then u y else m₀ y) → News h₀ env.locals h nw → Q .next { s with heap := h, toks := tk })
    (turn : ∀ (i : Nat) (a : Itm) (u : Str → Option Value) (nw : Led), xs[i]? = some a → J i nw → ∀ (v : Value) (h : Heap) (tk : Nat), a.Is v h → Fr h₀ env.locals h (fun y => if y = x then u y else m₀ y) → AllObj ws (fun its => News h₀ env.locals h (its ++ nw) →
      wpAny (model prog w) A (assign target env v) (fun _ s₂ => wpAny (model prog w) A (execs body env) (UnrPostW h₀ env.locals { s with heap := h, toks := tk } its (fun m' n' => SubL keep n' ∧ (∃ u' : Str → Option Value, m' = fun y => if y = x then u' y else m₀ y) ∧ J (i + 1) n') Q) E s₂) E { s with heap := h, toks := tk })) :
    ItemsRest prog w A E h₀ env target body Q s ws keep xs m₀ nw₀ := by
  have := itemsRest_ind (prog := prog) (w := w) (A := A) (E := E) (h₀ := h₀) (env := env) (target := target) (body := body) (Q := Q) (s := s) (ws := ws) (keep := keep)
    (fun i m n => (∃ u' : Str → Option Value, m = fun y => if y = x then u' y else m₀ y) ∧ J i n) xs (fun m n ⟨⟨u, e⟩, e'⟩ h tk F N => by subst e; exact fin u n h tk e' F N)
    (fun i a m n hx ⟨⟨u, e⟩, e'⟩ v h tk ha F => by subst e; exact turn i a u n hx e' v h tk ha F) xs.length 0 m₀ nw₀ (Nat.zero_add _) ⟨⟨m₀, if_same x m₀⟩, h0⟩
  simpa using this
end
theorem keep_trans {d : Addr} {a b c : Led} (h : Keep d a b) (k : Keep d b c) : Keep d a c := fun q hq hn => k q (h q hq hn) hn
theorem keep_drop {d : Addr} {o : Obj} {l nw : Led} (h : Sub nw l) : Keep d nw ((d, o) :: dropL d l) := fun q hq hn => .tail _ (mem_dropL.mpr ⟨h q hq, hn⟩)
theorem datBytes {news : Led} {vs : List Value} {bs : List By} (h : DatAll news vs (bs.map .bytes)) {i : Nat} {v : Value} (hv : vs[i]? = some v) : ∃ b t, bs[i]? = some b ∧ v = .bytes b t := by
  have hi : i < (bs.map Dat.bytes).length := by rw [← h.length]; exact (List.getElem?_eq_some_iff.mp hv).1
  obtain ⟨v', hv', hd⟩ := h.get hi
  rw [hv] at hv'; cases hv'
  have hi' : i < bs.length := by simpa using hi
  simp only [List.getElem_map] at hd
  cases hd
  exact ⟨_, _, List.getElem?_eq_getElem hi', rfl⟩
theorem datNum {news : Led} {vs : List Value} {bs : List By} (h : DatAll news vs (numDat 1 bs)) {i : Nat} {v : Value} (hv : vs[i]? = some v) : ∃ b T n t u, bs[i]? = some b ∧ v = .ref T ∧ (T, tupOf [.int ((1 : Int) + (i : Int)) t, .bytes b u] n) ∈ news := by
  have hi : i < (numDat 1 bs).length := by rw [← h.length]; exact (List.getElem?_eq_some_iff.mp hv).1
  obtain ⟨v', hv', hd⟩ := h.get hi
  rw [hv] at hv'; cases hv'
  have hi' : i < bs.length := by rw [numDat_length] at hi; exact hi
  have e := numDat_get 1 bs i hi'
  rw [List.getElem?_eq_getElem hi] at e
  rw [Option.some.inj e] at hd
  cases hd with
  | tuple hm D =>
    cases D with
    | cons d1 D => cases D with
      | cons d2 D => cases D with
        | nil =>
          cases d1; cases d2
          exact ⟨_, _, _, _, _, List.getElem?_eq_getElem hi', rfl, hm⟩
theorem loop_end {h₀ : Heap} {L I c : Addr} {oI oc' : Obj} {s₁ : Shared} {rest : (Str → Option Value) → Led → Prop} {h' : Heap} {tk : Nat} {m' : Str → Option Value} {nw : Led} (F : Fr h₀ L h' m') (N : News h₀ L h' ((c, oc') :: dropL c ((I, oI) :: nw))) (hc : ∃ oc, (c, oc) ∈ nw) (off : ∀ q ∈ nw, @Ne Nat q.1 I)
    (r : (∀ q ∈ (c, oc') :: dropL c nw, @Ne Nat q.1 I) → Keep c nw ((c, oc') :: dropL c nw) → rest m' ((c, oc') :: dropL c nw)) : UnrEndW h₀ L s₁ [(I, oI)] rest { s₁ with heap := h', toks := tk } := by
  obtain ⟨oc, hc⟩ := hc
  have hcI : c ≠ I := off _ hc
  have hoff : ∀ q ∈ (c, oc') :: dropL c nw, @Ne Nat q.1 I := fun q hq => by
    rcases List.mem_cons.mp hq with rfl | hq
    · exact hcI
    · exact off _ (mem_dropL.mp hq).1
  refine unrEndW_one F N (.tail _ (mem_dropL.mpr ⟨.head _, Ne.symm hcI⟩)) (fun q hq => ?_) hoff (r hoff (keep_drop subRefl))
  rcases List.mem_cons.mp hq with rfl | hq
  · exact .head _
  · obtain ⟨h1, h2⟩ := mem_dropL.mp hq
    exact .tail _ (mem_dropL.mpr ⟨.tail _ h1, h2⟩)
end Mine
end

section
open PySem PySem.Spec PySem.Calls PySem.W PyProof.Rows PyProof.V
set_option Elab.async false
set_option maxRecDepth 100000
namespace Mine
theorem bb_bytes : typeLookup (.type "bytes") "__bytes__" = pure (some (.builtin "bytes.__bytes__")) := by rw [typeLookup_type, builtinLookup_eq_fast]; kernel_rfl
section
variable {prog : Program} {w : World} {A : Around} {E : Value → Shared → Prop} {s : Shared}
theorem bb_new {b : By} {t : Tok} {Q : Value → Shared → Prop} (hQ : Q (.bytes b t) s) :
    codeAny (model prog w) A (.call (.builtin "bytes.__new__") ⟨[.type "bytes", .bytes b t], []⟩) (wants Q E) s := by
  refine codeAny_of_tree ?_
  show wpAny _ A.in1 (do checkBuiltinCall "bytes.__new__" ⟨[.type "bytes", .bytes b t], []⟩; again (.builtin "bytes.__new__" ⟨[.type "bytes", .bytes b t], []⟩)) _ _ s
  refine wpAny_bind (wpAny_of_eq (F.bm_newCall _) (wpAny_pure ⟨plainId_quiet F.bm_plain _, codeAny_builtin F.bm_entry ?_⟩))
  rw [Around.under_plainId F.bm_plain _]
  have hT : s.TypeIs (.bytes b t) "bytes" := PySem.W.typeIs_bytes _ _ _
  unfold Builtin.«bytes.__new__»
  refine wpAny_bind (wpAny_of_eq (a := true) rfl ?_)
  refine bm_if_false rfl ?_
  refine wpAny_bind (wpAny_of_eq F.bm_sub ?_)
  refine bm_if_false rfl ?_
  refine wpAny_bind (wpAny_of_eq (F.bm_bind _) ?_)
  refine wpAny_bind (wpAny_of_eq (a := ()) rfl ?_)
  refine wpAny_bind (wpAny_of_eq (a := ()) rfl ?_)
  refine bm_if_false rfl ?_
  refine wpAny_bind (wpAny_specialOf hT bb_bytes ?_)
  dsimp only
  refine wpAny_bind ?_
  wp_step
  refine wpAny_bind (wpAny_typeOf hT ?_)
  refine bm_if_true (by decide +kernel) ?_
  show wpAny _ _ (if (Value.type "bytes" == Value.type "bytes") = true then _ else _) _ _ _
  refine bm_if_true (by decide) ?_
  first
    | exact wpAny_pure hQ
    | exact wpAny_bind (wpAny_pure (wpAny_pure hQ))
theorem call_bytes_bytes {b : By} {t : Tok} {Q : Value → Shared → Prop} (hQ : Q (.bytes b t) s) : wpAny (model prog w) A (call (.type "bytes") [.bytes b t]) Q E s := by
  refine callType_codes (Q₁ := fun obj s₁ => s₁.TypeIs obj "bytes" ∧ Q obj s₁) F.bm_called (F.bm_typeCall _) F.entry_object_init
    (bb_new ⟨PySem.W.typeIs_bytes _ _ _, hQ⟩) fun obj s₁ h₁ => ?_
  exact ⟨h₁.1, F.args_object_init_2 obj _, object_init_meets F.bm_called.init.lookup F.bm_called.made (by decide) prog w A.in1 _ s₁ ⟨h₁.1, rfl, h₁.2⟩⟩
open SeqAt in
theorem ne_nil {h₀ : Heap} {L a b : Addr} {news : Led} {n k : Nat} {Q : Value → Shared → Prop} (N : News h₀ L s.heap news) (h1 : (a, listOf ([] : List Value).toArray n) ∈ news) (h2 : (b, listOf ([] : List Value).toArray k) ∈ news) (hu : A.units + 1 < cLine) (hq : Q (.bool false) s) :
    wpAny (model prog w) A (compareOp .NotEq (.ref a) (.ref b)) Q E s := by
  have R := RcNeAt.lists (A := A) (e := fun _ => true) (isList_led N h1) (isList_led N h2) rfl (by omega) (fun j h1 _ => absurd h1 (Nat.not_lt_zero _))
  exact R prog w E Q hq
end
end Mine
end

section
open PySem PySem.Spec PySem.Calls PySem.W PyProof.Rows PyProof.V
set_option Elab.async false
set_option maxRecDepth 100000
set_option maxHeartbeats 4000000
namespace Mine
local macro_rules | `(tactic| k_mem) => `(tactic| (refine memOf ?_; ktr_member))
local macro_rules | `(tactic| walk_at "call ref") => `(tactic| (k_here; refine stop_ ?_))
local macro_rules | `(tactic| ktr_call $x:term $_c:term) => `(tactic| (refine stopped ?_; k_dflt (refine' Does.use $x ?d1 ?d2 ?d3 ?d4 ?d5 ?d6 ?d7 ?d8 ?_; (case d1 => k_asm); (case d2 => k_asm); (case d3 => k_asm); (case d4 => k_asm); (case d5 => k_asm); (case d6 => first | exact rfl | assumption); (case d7 => ktr_room); (case d8 => ktr_units))))
local macro_rules | `(tactic| k_all) => `(tactic| exact allNe (by assumption) (by omega))
local macro_rules | `(tactic| walk_at "compareOp NotEq ref ref") => `(tactic| (k_here; refine stop_ ?_))
local macro_rules | `(tactic| walk_at "compareOp Eq ref ref") => `(tactic| (k_here; refine stop_ ?_))
local macro_rules | `(tactic| walk_at "call type:bytes") => `(tactic| (k_here; refine call_bytes_bytes ?_))
local macro_rules | `(tactic| walk_at "call bytes") => `(tactic| (k_here; refine call_bytes_bytes ?_))
local macro_rules | `(tactic| walk_at "call type") => `(tactic| (k_here; refine call_bytes_bytes ?_))
local macro_rules | `(tactic| walk_at "eval ListComp") => `(tactic| (k_here; refine stop_ ?_))
local macro_rules | `(tactic| cell_enter) => `(tactic| (refine' code_defC ?k1 ?k2 ?k3 ?k4 ?k5 ?kA ?kF ?kK ?k6 ?k7 ?k8 ?k9 ?kB ?kD ?_ ?c2 ?c3 ?c4; (case kA => exact rfl); (case kF => exact rfl); (case kK => assumption); (case k1 => k_asm); (case k2 => k_asm); (case k3 => k_asm); (case k4 => k_asm); (case k5 => k_asm); (case k6 => k_is); (case k7 => k_is); (case k8 => ktr_room); (case k9 => exact BindsTo.of_eq rfl); (case kB => exact rfl); (case kD => decide +kernel); (case c2 => exact rfl); (case c3 => exact rfl); (case c4 => exact rfl); k_whole; intro g' L' h' tk' cells' FG' F' N' Y' B' X' T' l1; k_cells Y'; (try simp only [List.cons_append, List.nil_append] at N'); (try dsimp only); (try k_fold)))

local macro_rules | `(tactic| walk_at "exec For Name Name cons nil") => `(tactic| (k_here; refine stop_ ?_))
local macro_rules | `(tactic| walk_at "exec For Name Name cons cons") => `(tactic| (k_here; refine stop_ ?_))
theorem lay_ {w : World} {news : Led} {x dx D R : Addr} {oR : Obj} {vs : List Value} {pth kind : Str} {rows : List By} {t u : Tok} {τ : Tau} (S : ShelfAt w.params news x dx D) (H : FilesAt w news D τ) (hn : D ∉ τ.map (·.2)) (hnd : (τ.map (·.2)).Nodup) (hlen : τ.length ≤ 1000) (hkind : kind = Str.ofString "sequential" ∨ kind = relS ∨ kind = Str.ofString "indexed")
   (hR : (R, oR) ∈ news) (hO : SeqObj vs oR) (hd : DatAll news vs (if kind = relS then numDat 1 rows else rows.map .bytes)) (hz : rows.length ≤ 40) :
   Does w 110 4 news [.ref x, .str pth t, .str kind u, .ref R] (fun news' r => r = .none ∧ ∃ c, FilesAt w news' D (putT τ ⟨pth, kind, rows⟩ c) ∧ Keep D news news' ∧ ∀ q ∈ news, q.1 < c) := by
  unfold Does; k_fill
  intro p loose mean mg mb dp un gd cn cs a ccd cl outer A₀ base h₀ L m s Q E B F X N T0 hkf hdp hu hret
  have S' := S
  obtain ⟨hx, _, _, hdx⟩ := S'
  have hfun := fun_of N
  have hRD : R ≠ D := by
    rintro rfl
    obtain ⟨⟨o, kvs, hD, ⟨es, ep, hx, _⟩, _⟩, _⟩ := H
    have e := hfun _ _ _ hD hR
    rcases hO with ⟨n, rfl⟩ | ⟨n, rfl⟩ <;> (rw [e] at hx; have := hx.1; revert this; show ¬ (Value.type _ = _); decide)
  have hlv : vs.length = rows.length := by rw [hd.length]; split; exact numDat_length _ _; exact List.length_map _
  refine wpAny_call ?_
  by_cases hrel : kind = relS
  · have hrel' : (kind == Str.ofString "relative") = true := by rw [beq_iff_eq]; exact hrel
    k_dflt ktr_enter
    k_steps
    refine stopped ?_
    k_dflt (refine ListComp_seqT (by k_asm) (by with_unfolding_all rfl) (by decide) (by rfl) (by decide) (by rfl) ?_)
    k_steps
    refine ⟨R, oR, vs, _, rfl, by rfl, by k_asm, by k_asm, hR, hO, by rw [hlv, sizeLine_eq]; omega, ?_⟩
    intro g9
    refine compRestT_ind (fun i ys nw => Sub news nw ∧ ys = []) _ ?_ ?_ _ 0 [] _ (Nat.zero_add _) ⟨subRefl, rfl⟩
    · rintro ys nw ⟨hs, rfl⟩
      have hx2 := hs _ hx
      have hdx2 := hs _ hdx
      k_steps
      refine stopped ?_
      refine ne_nil (by k_asm) (by k_mem) (by k_mem) (by ktr_units) ?_
      (try dsimp only)
      k_steps
      ktr_call (begin_ ((S.sub hs).sub subDrop2) ((H.sub hs).sub subDrop2) hn hlen hkind) 0
      rintro r1 news1 h1 tk1 F1 N1 ⟨c, rfl, P1, P2, P3, P4⟩
      obtain ⟨_, ⟨oc1, hc1, hC1⟩, _, loc⟩ := P2
      have hfun1 := fun_of N1
      have hR1 := P3 _ (.tail _ (.tail _ (hs _ hR))) hRD
      have P4' : ∀ q ∈ news, q.1 < c := fun q hq => P4 _ (.tail _ (.tail _ (hs _ hq)))
      have hRc : R ≠ c := Nat.ne_of_lt (P4' _ hR)
      have hDc : @LT.lt Nat _ D c := by obtain ⟨o, ho, _⟩ := H.mem; exact P4' _ ho
      have hnd1 : ((putT τ ⟨pth, kind, []⟩ c).map (·.2)).Nodup := putT_nodup H.pathsNodup hnd fun hm => by obtain ⟨o, ho⟩ := H.contMem c hm; exact Nat.lt_irrefl _ (P4' _ ho)
      (try dsimp only)
      k_steps
      refine stopped ?_
      refine For_turns (by k_asm) ?_
      k_steps
      refine iter_seq (by rfl) (by k_asm) (by k_asm) hR1 hO ?_
      intro I nm lI
      refine itemsRest_var (Str.ofString "row") _ (fun i nw => (∀ q ∈ nw, @Ne Nat q.1 I) ∧ Keep c news1 nw ∧ ∃ oc, (c, oc) ∈ nw ∧ ContIs w kind (rows.take i) oc) _ _ ⟨fun q hq => Nat.ne_of_lt (lI q hq), fun q hq _ => hq, oc1, hc1, hC1⟩ ?_ ?_
      · rintro u9 nw9 h9 tk9 ⟨o9, K9, oc9, hc9, hC9⟩ F9 N9
        rw [List.take_of_length_le (by rw [List.length_map, hlv]; exact Nat.le_refl _)] at hC9
        (try dsimp only)
        k_steps
        exact hret _ _ _ _ (by k_asm) (by k_asm) ⟨rfl, c, P1.putRows hfun1 (Nat.ne_of_lt hDc) hnd1 hc1 hC1.noTup K9 hc9 hC9, fun q hq hn => K9 q (P3 q (.tail _ (.tail _ (hs _ hq))) hn) (Nat.ne_of_lt (P4' q hq)), P4'⟩
      · rintro i a9 u9 nw9 hx9 ⟨o9, K9, oc9, hc9, hC9⟩ v9 h9 tk9 hv9 F9 oI hI N9
        rw [List.getElem?_map] at hx9
        obtain ⟨v8, hv8, rfl⟩ := Option.map_eq_some_iff.mp hx9
        obtain rfl : v9 = v8 := hv9
        rw [if_pos hrel] at hd
        obtain ⟨b, T, n9, t9, u9, hb, rfl, hT⟩ := datNum hd hv8
        rcases hC9 with ⟨_, kv9, hk9, hN9⟩ | ⟨hr, _⟩
        · have hi9 : i < rows.length := (List.getElem?_eq_some_iff.mp hb).1
          have hTD : T ≠ D := fun e => by
            obtain ⟨o, ho, ht⟩ := H.mem
            subst e
            exact ht (by rw [hfun _ _ _ ho hT])
          have hTn := K9 _ (P3 _ (.tail _ (.tail _ (hs _ hT))) hTD) (Nat.ne_of_lt (P4' _ hT))
          have hlt : (rows.take i).length = i := by rw [List.length_take]; omega
          have hno : valueAt kv9 ((1 : Int) + (i : Int)) = none := hN9.none (.inr (by rw [hlt]; omega))
          dsimp only [List.cons_append, List.nil_append] at N9 ⊢
          k_steps
          refine set_led (knd := iK w) (by k_asm) (by k_asm) (by k_mem) hk9 (intKind_is _ _ _ _) (by rw [hN9.length, hlt, sizeLine_eq]; omega) ?_
          intro h8 o8 F8 N8 hd8
          (try dsimp only)
          k_steps
          refine loop_end (by k_asm) (by k_asm) ⟨_, hc9⟩ o9 fun o8 K8 => ⟨⟨K8 _ (K9 _ hR1 hRc) hRc, trivial⟩, ⟨_, if_step _ _ _ _⟩, o8, keep_trans K9 K8, _, .head _, .inl ⟨hrel, _, hd8, ?_⟩⟩
          rw [stored_absent hno, List.take_add_one, hb]
          have h5 := hN9.snoc b u9
          rw [hlt] at h5
          simpa using h5
        · exact absurd hrel hr
    · rintro i ys nw hi ⟨hs, rfl⟩ v I oI C oC D9 m₂ h tk E' hP9 hC hxv F N off ne
      rw [if_pos hrel] at hd
      obtain ⟨b, T, n9, t9, u9, hb, rfl, hT⟩ := datNum hd hP9
      have hTn := hs _ hT
      k_steps
      exact compEnd_zero (by k_asm) (by k_asm) off (hs _ hR) ⟨hs, rfl⟩
  · have hrel' : (kind == Str.ofString "relative") = false := by rw [beq_eq_false_iff_ne]; exact hrel
    k_dflt ktr_enter
    k_steps
    ktr_call (begin_ S H hn hlen hkind) 0
    rintro r1 news1 h1 tk1 F1 N1 ⟨c, rfl, P1, P2, P3, P4⟩
    obtain ⟨_, ⟨oc1, hc1, hC1⟩, _, loc⟩ := P2
    have hfun1 := fun_of N1
    have hR1 := P3 _ hR hRD
    have hRc : R ≠ c := Nat.ne_of_lt (P4 _ hR)
    have hDc : @LT.lt Nat _ D c := by obtain ⟨o, ho, _⟩ := H.mem; exact P4 _ ho
    have hnd1 : ((putT τ ⟨pth, kind, []⟩ c).map (·.2)).Nodup := putT_nodup H.pathsNodup hnd fun hm => by obtain ⟨o, ho⟩ := H.contMem c hm; exact Nat.lt_irrefl _ (P4 _ ho)
    (try dsimp only)
    k_steps
    refine stopped ?_
    refine For_turns (by k_asm) ?_
    k_steps
    refine iter_seq (by rfl) (by k_asm) (by k_asm) hR1 hO ?_
    intro I nm lI
    refine itemsRest_var (Str.ofString "row") _ (fun i nw => (∀ q ∈ nw, @Ne Nat q.1 I) ∧ Keep c news1 nw ∧ ∃ oc, (c, oc) ∈ nw ∧ ContIs w kind (rows.take i) oc) _ _ ⟨fun q hq => Nat.ne_of_lt (lI q hq), fun q hq _ => hq, oc1, hc1, hC1⟩ ?_ ?_
    · rintro u9 nw9 h9 tk9 ⟨o9, K9, oc9, hc9, hC9⟩ F9 N9
      rw [List.take_of_length_le (by rw [List.length_map, hlv]; exact Nat.le_refl _)] at hC9
      (try dsimp only)
      k_steps
      exact hret _ _ _ _ (by k_asm) (by k_asm) ⟨rfl, c, P1.putRows hfun1 (Nat.ne_of_lt hDc) hnd1 hc1 hC1.noTup K9 hc9 hC9, fun q hq hn => K9 q (P3 q hq hn) (Nat.ne_of_lt (P4 q hq)), P4⟩
    · rintro i a9 u9 nw hx9 ⟨o9, K9, oc9, hc9, hC9⟩ v9 h9 tk9 hv9 F9 oI hI N9
      rw [List.getElem?_map] at hx9
      obtain ⟨v8, hv8, rfl⟩ := Option.map_eq_some_iff.mp hx9
      obtain rfl : v9 = v8 := hv9
      rw [if_neg hrel] at hd
      obtain ⟨b, tb, hb, rfl⟩ := datBytes hd hv8
      rcases hC9 with ⟨hr, _⟩ | ⟨_, xs, ep, rfl, hB⟩
      · exact absurd hr hrel
      have hi9 : i < rows.length := (List.getElem?_eq_some_iff.mp hb).1
      dsimp only [List.cons_append, List.nil_append] at N9 ⊢
      k_steps
      refine append_led (by k_asm) (by k_asm) (by k_mem) ?_ (by rw [List.size_toArray, hB.length, List.length_take, sizeLine_eq]; omega)
      intro h8 F8 N8
      (try dsimp only)
      k_steps
      refine loop_end (by k_asm) (by k_asm) ⟨_, hc9⟩ o9 fun o8 K8 => ⟨⟨K8 _ (K9 _ hR1 hRc) hRc, trivial⟩, ⟨_, if_step _ _ _ _⟩, o8, keep_trans K9 K8, _, .head _, .inr ⟨hrel, _, _, rfl, ?_⟩⟩
      rw [List.take_add_one, hb]
      simpa using hB.snoc b tb
end Mine
end

section
open PySem PySem.Spec PySem.Calls PySem.W PyProof.Rows PyProof.V
set_option Elab.async false
set_option maxRecDepth 100000
set_option maxHeartbeats 4000000
namespace Mine
local macro_rules | `(tactic| k_mem) => `(tactic| (refine memOf ?_; ktr_member))
local macro_rules | `(tactic| ktr_call $x:term $_c:term) => `(tactic| (refine stopped ?_; k_dflt (refine' Does.use $x ?d1 ?d2 ?d3 ?d4 ?d5 ?d6 ?d7 ?d8 ?_; (case d1 => k_asm); (case d2 => k_asm); (case d3 => k_asm); (case d4 => k_asm); (case d5 => k_asm); (case d6 => first | exact rfl | assumption); (case d7 => ktr_room); (case d8 => ktr_units))))
local macro_rules | `(tactic| k_all) => `(tactic| exact allNe (by assumption) (by omega))
local macro_rules | `(tactic| walk_at "compareOp NotEq ref ref") => `(tactic| (k_here; refine stop_ ?_))
local macro_rules | `(tactic| walk_at "compareOp Eq ref ref") => `(tactic| (k_here; refine stop_ ?_))
local macro_rules | `(tactic| walk_at "eval ListComp") => `(tactic| (k_here; refine stop_ ?_))
local macro_rules | `(tactic| cell_enter) => `(tactic| (refine' code_defC ?k1 ?k2 ?k3 ?k4 ?k5 ?kA ?kF ?kK ?k6 ?k7 ?k8 ?k9 ?kB ?kD ?_ ?c2 ?c3 ?c4; (case kA => exact rfl); (case kF => exact rfl); (case kK => assumption); (case k1 => k_asm); (case k2 => k_asm); (case k3 => k_asm); (case k4 => k_asm); (case k5 => k_asm); (case k6 => k_is); (case k7 => k_is); (case k8 => ktr_room); (case k9 => exact BindsTo.of_eq rfl); (case kB => exact rfl); (case kD => decide +kernel); (case c2 => exact rfl); (case c3 => exact rfl); (case c4 => exact rfl); k_whole; intro g' L' h' tk' cells' FG' F' N' Y' B' X' T' l1; k_cells Y'; (try simp only [List.cons_append, List.nil_append] at N'); (try dsimp only); (try k_fold)))

local macro_rules | `(tactic| walk_at "exec For Name Name cons nil") => `(tactic| (k_here; refine stop_ ?_))
local macro_rules | `(tactic| walk_at "exec For Name Call cons nil") => `(tactic| (k_here; refine stop_ ?_))
local macro_rules | `(tactic| walk_at "exec For Name Call Attribute cons nil") => `(tactic| (k_here; refine stop_ ?_))
local macro_rules | `(tactic| walk_at "exec For Name Name cons cons") => `(tactic| (k_here; refine stop_ ?_))

theorem shelf_new {w : World} {news : Led} :
   Does w 137 3 news [] (fun news' r => Sub news news' ∧ ∃ x dx D, r = .ref x ∧ ShelfAt w.params news' x dx D ∧ FilesAt w news' D [] ∧ ((@Ne Nat x D) ∧ (@Ne Nat dx D)) ∧ ∀ q ∈ news, q.1 < dx ∧ q.1 < x ∧ q.1 < D) := by
  unfold Does; k_fill
  intro p loose mean mg mb dp un gd cn cs a ccd cl outer A₀ base h₀ L m s Q E B F X N T0 hkf hdp hu hret
  k_dflt (refine' call_cls ?k1 ?k2 ?k3 ?k4 ?k5 ?k6 ?_; (case k1 => k_asm); (case k2 => k_asm); (case k3 => k_asm); (case k4 => k_is); (case k5 => k_is); (case k6 => k_is); k_whole; intro x' d' h' F' N' l1 l2; k_lt2 l2; ktr_enter)
  k_steps
  have hl9 : ∀ q ∈ news, q.1 < d' := l1
  refine hret _ _ _ _ (by k_asm) (by k_asm) ⟨fun q hq => .tail _ (.tail _ (.tail _ hq)), x', d', _, rfl, ⟨.tail _ (.head _), _, _, .tail _ (.tail _ (.head _))⟩, ⟨⟨_, [], .head _, by assumption, .nil⟩, ?_⟩, ⟨Nat.ne_of_lt (And.left (by assumption)), Nat.ne_of_lt (And.left (And.right (by assumption)))⟩, fun q hq => ⟨hl9 q hq, Nat.lt_trans (hl9 q hq) l2, Nat.lt_trans (hl9 q hq) (Nat.lt_trans l2 (by omega))⟩⟩
  have := l2
  omega
theorem look_putF (σ : List File) (f : File) (p : Str) : lookF (putF σ f) p = if p = f.path then some f else lookF σ p := by
  unfold putF
  split
  · rename_i h
    induction σ with
    | nil => simp at h
    | cons g σ ih =>
      by_cases e : g.path = f.path
      · by_cases e2 : p = f.path
        · simp [lookF, e, e2]
        · have e3 : ¬ f.path = p := fun q => e2 q.symm
          have e4 : ¬ g.path = p := by rw [e]; exact e3
          by_cases h2 : σ.any (fun g => decide (g.path = f.path)) = true
          · have := ih h2
            rw [if_neg e2] at this ⊢
            have e5 : ∀ l : List File, lookF (g :: l) p = lookF l p := fun l => by simp [lookF, e4]
            have e6 : ∀ l : List File, lookF (f :: l) p = lookF l p := fun l => by simp [lookF, e3]
            rw [List.map_cons, if_pos e, e5, e6]
            exact this
          · have hm : σ.map (fun g => if g.path = f.path then f else g) = σ := by
              refine (List.map_congr_left (g := id) fun q hq => ?_).trans (List.map_id _)
              have : q.path ≠ f.path := fun e' => h2 (List.any_eq_true.mpr ⟨q, hq, by simp [e']⟩)
              simp [this]
            rw [if_neg e2, List.map_cons, if_pos e, hm]
            simp [lookF, e3, e4]
      · have h2 : σ.any (fun g => decide (g.path = f.path)) = true := by simpa [e] using h
        have := ih h2
        rw [List.map_cons, if_neg e]
        by_cases e4 : g.path = p
        · have e2 : ¬ p = f.path := fun q => e (e4.trans q)
          rw [if_neg e2]; simp [lookF, e4]
        · have e5 : ∀ l : List File, lookF (g :: l) p = lookF l p := fun l => by simp [lookF, e4]
          rw [e5, e5]; exact this
  · rename_i h
    induction σ with
    | nil =>
      by_cases e2 : p = f.path
      · simp [lookF, e2]
      · have e3 : ¬ f.path = p := fun q => e2 q.symm
        simp [lookF, e2, e3]
    | cons g σ ih =>
      simp only [List.any_cons, Bool.or_eq_true, not_or] at h
      have e : ¬ g.path = f.path := by simpa using h.1
      have := ih h.2
      by_cases e4 : g.path = p
      · have e2 : ¬ p = f.path := fun q => e (e4.trans q)
        rw [if_neg e2]; simp [lookF, e4]
      · have e5 : ∀ l : List File, lookF (g :: l) p = lookF l p := fun l => by simp [lookF, e4]
        rw [List.cons_append, e5, e5]; exact this
theorem lookF_none {σ : List File} {p : Str} (h : p ∉ σ.map (·.path)) : lookF σ p = none := by
  unfold lookF
  rw [List.find?_eq_none]
  intro f hf
  have : f.path ≠ p := fun e => h (e ▸ List.mem_map_of_mem hf)
  simpa using this
theorem rowsDat_seq {tl : Led} {r : Value} {k : Str} {rs : List By} (h : DatIn tl r (rowsDat k rs)) : ∃ R vs n, r = .ref R ∧ (R, tupOf vs n) ∈ tl ∧ DatAll tl vs (if k = relS then numDat 1 rs else rs.map .bytes) := by
  unfold rowsDat at h
  cases h with
  | tuple hm D => exact ⟨_, _, _, rfl, hm, D⟩
theorem datAll_sub {a b : Led} {vs : List Value} {ds : List Dat} (h : DatAll a vs ds) (hs : Sub a b) : DatAll b vs ds := h.mono hs
theorem copied_ {w : World} {news : Led} {x dx D : Addr} {τ : Tau} (S : ShelfAt w.params news x dx D) (H : FilesAt w news D τ) (hz : ∀ q ∈ τ, q.1.rows.length ≤ 30) (hlen : τ.length < 64)
   (hkinds : ∀ q ∈ τ, q.1.kind = Str.ofString "sequential" ∨ q.1.kind = relS ∨ q.1.kind = Str.ofString "indexed") :
   Does w 129 8 news [.ref x] (fun news' r => Sub news news' ∧ ∃ x' dx' D' τ', r = .ref x' ∧ ShelfAt w.params news' x' dx' D' ∧ FilesAt w news' D' τ' ∧ D' ∉ τ'.map (·.2) ∧ τ'.length ≤ 64 ∧ (∀ q ∈ news, @Ne Nat q.1 D') ∧ ∀ p, lookF (τ'.map (·.1)) p = lookF (τ.map (·.1)) p) := by
  unfold Does; k_fill
  intro p loose mean mg mb dp un gd cn cs a ccd cl outer A₀ base h₀ L m s Q E B F X N T0 hkf hdp hu hret
  refine wpAny_call ?_
  k_dflt ktr_enter
  k_steps
  ktr_call (shelf_new) 0
  rintro r1 news1 h1 tk1 F1 N1 ⟨hs1, x1, d1, D1, rfl, S1, H1, ⟨nx1, nd1⟩, l1⟩
  have hfun1 := fun_of N1
  obtain ⟨hx, _, _, hdx⟩ := S.sub hs1
  have S1' := S1
  obtain ⟨hx1, _, _, hdx1⟩ := S1'
  (try dsimp only)
  k_steps
  refine stopped ?_
  refine For_turns (by k_asm) ?_
  k_steps
  ktr_call (paths_ (S.sub hs1) (H.sub hs1) hlen) 0
  rintro r2 news2 h2 tk2 F2 N2 ⟨l, vs, ss, e, rfl, rfl, hS, hp, hP⟩
  have hfun2 := fun_of N2
  have hlD : l ≠ D1 := by
    rintro rfl
    obtain ⟨⟨o, kv, ho, ⟨es, ep, hx, _⟩, _⟩, _⟩ := H1
    have e := hfun2 _ _ _ (.tail _ ho) (.head _)
    rw [e] at hx
    have := hx.1
    revert this; show ¬ (Value.type _ = _); decide
  (try dsimp only)
  k_steps
  refine iter_listTurns (by rfl) (by k_asm) (by k_asm) (List.Mem.head _) rfl rfl ?_
  intro I lI
  have hvs : vs.length = ss.length := hS.length
  have hss : ss.length = τ.length := by rw [hp.length_eq, List.length_map]
  refine itemsRest_var (Str.ofString "path") _ (fun i nw => (∀ q ∈ nw, @Ne Nat q.1 I) ∧ Keep D1 ((l, listOf vs.toArray e) :: news1) nw ∧ ∃ τ', FilesAt w nw D1 τ' ∧ D1 ∉ τ'.map (·.2) ∧ (τ'.map (·.2)).Nodup ∧ τ'.length ≤ i ∧ ∀ p, lookF (τ'.map (·.1)) p = if p ∈ ss.take i then lookF (τ.map (·.1)) p else none) _ _ ⟨fun q hq => Nat.ne_of_lt (lI q hq), fun q hq _ => hq, [], H1.sub subCons, by simp, by simp, Nat.le_refl _, fun p => by simp [lookF]⟩ ?_ ?_
  · rintro u9 nw9 h9 tk9 ⟨o9, K9, τ9, P9, n9, nd9, len9, look9⟩ F9 N9
    rw [List.length_map] at len9 look9
    rw [List.take_of_length_le (by rw [hvs]; exact Nat.le_refl _)] at look9
    have hx9 := K9 _ (.tail _ hx1) nx1
    (try dsimp only)
    k_steps
    refine hret _ _ _ _ (by k_asm) (by k_asm) ⟨fun q hq => K9 q (.tail _ (hs1 q hq)) (Nat.ne_of_lt (l1 q hq).2.2), x1, d1, D1, τ9, rfl, (S1.sub subCons).keep K9 nx1 nd1, P9, n9, by omega, fun q hq => Nat.ne_of_lt (l1 q hq).2.2, fun p => ?_⟩
    rw [look9 p]
    split
    · rfl
    · rename_i hno
      refine (lookF_none fun hm => hno (hp.symm.subset ?_)).symm
      rw [List.map_map] at hm; exact hm
  · rintro i a9 u9 nw hx9 ⟨o9, K9, τ9, P9, n9, nd9, len9, look9⟩ v9 h9 tk9 hv9 F9 oI hI N9
    rw [List.getElem?_map] at hx9
    obtain ⟨v8, hv8, rfl⟩ := Option.map_eq_some_iff.mp hx9
    obtain rfl : v9 = v8 := hv9
    obtain ⟨pth, t5, hssi, rfl⟩ := strsGet hS hv8
    obtain ⟨⟨fp, fk, fr⟩, c0, hl0, hm0, hfp⟩ := look_mem (τ := τ) (hp.subset (List.mem_of_getElem? hssi))
    obtain rfl : fp = pth := hfp
    have hsub : Sub news nw := fun q hq => K9 q (.tail _ (hs1 q hq)) (Nat.ne_of_lt (l1 q hq).2.2)
    have S9 : ShelfAt w.params nw x1 d1 D1 := (S1.sub subCons).keep K9 nx1 nd1
    have S9' := S9
    obtain ⟨hx9, _, _, hdx9⟩ := S9'
    obtain ⟨hx8, _, _, hdx8⟩ := S.sub hsub
    have hilt : i < τ.length := by rw [← hss]; exact (List.getElem?_eq_some_iff.mp hssi).1
    dsimp only [List.cons_append, List.nil_append] at N9 ⊢
    k_steps
    ktr_call (kind_of_in ((S.sub hsub).sub subCons) (((H.at hl0).sub hsub).sub subCons)) 0
    rintro r3 news3 h3 tk3 F3 N3 ⟨rfl, t3, rfl⟩
    (try dsimp only)
    k_steps
    ktr_call (rows_of_ ((S.sub hsub).sub subCons) (((H.at hl0).sub hsub).sub subCons) (hz _ hm0)) 0
    rintro r4 news4 h4 tk4 F4 N4 ⟨hs4, tl4, ht4, hf4, hd4⟩
    obtain ⟨R, vR, nR, rfl, hR, hdR⟩ := rowsDat_seq hd4
    have S4 := (S9.sub subCons).sub hs4
    have hI4 := hs4 _ (.head _)
    (try dsimp only)
    k_steps
    ktr_call (lay_ S4 ((P9.sub subCons).sub hs4) n9 nd9 (by omega) (hkinds _ hm0) (ht4 _ hR) (.inl ⟨_, rfl⟩) (datAll_sub hdR ht4) (Nat.le_trans (hz _ hm0) (by decide))) 0
    rintro r5 news5 h5 tk5 F5 N5 ⟨rfl, c5, P5, K5, l5⟩
    have hDI : D1 ≠ I := by obtain ⟨o, ho, _⟩ := P9.mem; exact o9 _ ho
    have hI5 := K5 _ hI4 (Ne.symm hDI)
    have hfun5 := fun_of N5
    have hD15 : ∃ o, (D1, o) ∈ news4 := by obtain ⟨o, ho, _⟩ := P9.mem; exact ⟨o, hs4 _ (.tail _ ho)⟩
    have hcon : ∀ b ∈ τ9.map (·.2), b ≠ I ∧ b < c5 := fun b hb => by
      obtain ⟨o, ho⟩ := P9.contMem b hb
      exact ⟨o9 _ ho, l5 _ (hs4 _ (.tail _ ho))⟩
    (try dsimp only)
    k_steps
    have hin : ∀ b ∈ (putT τ9 ⟨fp, fk, fr⟩ c5).map (·.2), b ≠ I ∧ b ≠ D1 := fun b hb => by
      rcases putT_sub _ _ _ _ hb with rfl | hb
      · obtain ⟨o, ho⟩ := hD15
        exact ⟨Nat.ne_of_gt (l5 _ hI4), Nat.ne_of_gt (l5 _ ho)⟩
      · exact ⟨(hcon b hb).1, fun e => n9 (e ▸ hb)⟩
    refine unrEndW_one F5 N5 hI5 (nw := dropL I news5) (fun q hq => (mem_dropL.mp hq).1) (fun q hq => (mem_dropL.mp hq).2) ⟨⟨mem_dropL.mpr ⟨K5 _ (hs4 _ (.tail _ (K9 _ (.head _) hlD))) hlD, Nat.ne_of_lt (lI _ (.head _))⟩, trivial⟩, ⟨_, if_step _ _ _ _⟩, fun q hq => (mem_dropL.mp hq).2, fun q hq hn => mem_dropL.mpr ⟨K5 _ (hs4 _ (.tail _ (K9 _ hq hn))) hn, Nat.ne_of_lt (lI _ hq)⟩, putT τ9 ⟨fp, fk, fr⟩ c5,
      P5.keep hfun5 hI5 (by rw [hI]; show Value.type "list_iterator" ≠ Value.type "tuple"; decide) (fun q hq hn => mem_dropL.mpr ⟨hq, hn⟩) hDI (fun hm => (hin _ hm).1 rfl), fun hm => (hin _ hm).2 rfl, putT_nodup P9.pathsNodup nd9 (fun hm => Nat.lt_irrefl _ (hcon _ hm).2), ?_, fun p => ?_⟩
    · unfold putT
      split
      · rw [List.length_map]; omega
      · rw [List.length_append]; simp; omega
    · rw [putT_fst, look_putF, look9 p, List.take_add_one, hssi]
      have e0 : lookF (τ.map (·.1)) fp = some ⟨fp, fk, fr⟩ := by rw [lookF_of, hl0]; rfl
      by_cases e : p = fp
      · subst e
        simp [e0]
      · simp [e]
end Mine
end

section
open PySem PySem.Spec PySem.Calls PySem.W PyProof.Rows PyProof.V
set_option Elab.async false
set_option maxRecDepth 100000
namespace Mine
def IsKind (k : Str) : Prop := k = Str.ofString "sequential" ∨ k = relS ∨ k = Str.ofString "indexed"
def Kinds (σ : List File) : Prop := ∀ f ∈ σ, IsKind f.kind
def statusS (σ : List File) (p k m : Str) : Str :=
  if m = Str.ofString "output" then Str.ofString "00" else
  match lookF σ p with
  | none => Str.ofString "35"
  | some f => if f.kind = k then Str.ofString "00" else Str.ofString "39"
theorem Kinds.put {σ : List File} {f : File} (h : Kinds σ) (hf : IsKind f.kind) : Kinds (putF σ f) := fun g hg => by
  rcases putF_mem hg with rfl | hg
  · exact hf
  · exact h g hg
theorem Kinds.add {σ : List File} {p : Str} {b : By} (h : Kinds σ) : Kinds (addF σ p b) := fun g hg => by
  unfold addF at hg
  obtain ⟨r, hr, rfl⟩ := List.mem_map.mp hg
  split
  · exact h r hr
  · exact h r hr
theorem Kinds.next {σ : List File} {p k m : Str} {b : By} (h : Kinds σ) (hk : IsKind k) : Kinds (nextS σ p k m b) := by
  unfold nextS
  split
  · exact (h.put hk).add
  · split
    · exact h
    · split
      · exact h.add
      · exact h
section
variable {w : World} {pr : List Addr} {news news' : Led} {D1 D2 I : Addr} {τ1 τ2 : Tau} {oI : Obj}
/-- one more address that is kept -/
theorem Two.keepI (h : Two w pr news D1 D2 τ1 τ2) (off : ∀ q ∈ news, @Ne Nat q.1 I) : Two w (I :: pr) ((I, oI) :: news) D1 D2 τ1 τ2 := by
  refine ⟨h.one.sub subCons, h.two.sub subCons, h.apart, fun a ha hm => ?_, fun a ha => ?_⟩
  · rcases List.mem_cons.mp ha with rfl | ha
    · simp only [List.mem_cons, List.mem_append] at hm
      rcases hm with rfl | rfl | hm | hm
      · obtain ⟨o, ho, _⟩ := h.one.mem; exact off _ ho rfl
      · obtain ⟨o, ho, _⟩ := h.two.mem; exact off _ ho rfl
      · obtain ⟨o, ho⟩ := h.one.contMem _ hm; exact off _ ho rfl
      · obtain ⟨o, ho⟩ := h.two.contMem _ hm; exact off _ ho rfl
    · exact h.off a ha hm
  · rcases List.mem_cons.mp ha with rfl | ha
    · exact ⟨oI, .head _⟩
    · obtain ⟨o, ho⟩ := h.there a ha; exact ⟨o, .tail _ ho⟩
theorem Two.dropI (h : Two w (I :: pr) news D1 D2 τ1 τ2) (hf : Fun news) (hI : (I, oI) ∈ news) (ht : oI.cls ≠ .type "tuple") (hp : ∀ a ∈ pr, @Ne Nat a I) : Two w pr (dropL I news) D1 D2 τ1 τ2 := by
  have hK : Keep I news (dropL I news) := fun q hq hn => mem_dropL.mpr ⟨hq, hn⟩
  have ho := h.off I (.head _)
  simp only [List.mem_cons, List.mem_append, not_or] at ho
  refine ⟨h.one.keep hf hI ht hK (Ne.symm ho.1) ho.2.2.1, h.two.keep hf hI ht hK (Ne.symm ho.2.1) ho.2.2.2, h.apart, fun a ha => h.off a (.tail _ ha), fun a ha => ?_⟩
  obtain ⟨o, hao⟩ := h.there a (.tail _ ha)
  exact ⟨o, mem_dropL.mpr ⟨hao, hp a ha⟩⟩
end
/-- shelf.opened in one contract -/
theorem opened_ {w : World} {news : Led} {x dx D : Addr} {pth kind mode : Str} {t u v : Tok} {τ : Tau} (S : ShelfAt w.params news x dx D) (H : FilesAt w news D τ) (hn : D ∉ τ.map (·.2)) (hlen : τ.length ≤ 1000) (hkind : IsKind kind) :
   Does w 117 4 news [.ref x, .str pth t, .str kind u, .str mode v] (fun news' r => ∃ T n tk y, r = .ref T ∧ (T, tupOf [.str (statusS (τ.map (·.1)) pth kind mode) tk, y] n) ∈ news' ∧ Keep D news news') := by
  by_cases hm : mode = Str.ofString "output"
  · subst hm
    refine (opened_out S H hn hlen hkind).mono fun n r ⟨T, k, tk, c, e, h1, _, _, h4, _⟩ => ⟨T, k, tk, .ref c, e, ?_, h4⟩
    unfold statusS; rw [if_pos rfl]; exact h1
  · cases hl : lookT τ pth with
    | none =>
      refine (opened_none S (H.notAt hl) hm).mono fun n r ⟨T, k, tk, e, h1, h4⟩ => ⟨T, k, tk, .none, e, ?_, h4.keep _⟩
      unfold statusS; rw [if_neg hm, lookF_of, hl]; exact h1
    | some fc =>
      obtain ⟨f, c⟩ := fc
      by_cases hdk : f.kind = kind
      · refine (opened_same S (H.at hl) hm hdk).mono fun n r ⟨T, k, tk, e, h1, h4⟩ => ⟨T, k, tk, .ref c, e, ?_, h4.keep _⟩
        unfold statusS; rw [if_neg hm, lookF_of, hl]
        show (T, tupOf [.str (if f.kind = kind then _ else _) tk, _] k) ∈ n
        rw [if_pos hdk]; exact h1
      · refine (opened_diff S (H.at hl) hm hdk).mono fun n r ⟨T, k, tk, e, h1, h4⟩ => ⟨T, k, tk, .none, e, ?_, h4.keep _⟩
        unfold statusS; rw [if_neg hm, lookF_of, hl]
        show (T, tupOf [.str (if f.kind = kind then _ else _) tk, _] k) ∈ n
        rw [if_neg hdk]; exact h1
abbrev newB : By := #[110, 101, 119]
def asked : List (Str × Str × Str × Str) := [("a", "sequential", "input", "00"), ("a", "indexed", "input", "39"), ("b", "sequential", "i-o", "39"), ("b", "relative", "i-o", "00"), ("c", "indexed", "extend", "35"), ("c", "indexed", "i-o", "35"), ("c", "indexed", "input", "35"), ("c", "indexed", "output", "00"), ("c", "indexed", "extend", "00"), ("a", "sequential", "output", "00"), ("b", "indexed", "output", "00"), ("b", "relative", "input", "39")]
abbrev sigma0 : List File := [⟨"a", "sequential", [#[120], #[121]]⟩, ⟨"b", relS, [#[122]]⟩]
def sigma (l : List (Str × Str × Str × Str)) : List File := l.foldl (fun σ a => nextS σ a.1 a.2.1 a.2.2.1 newB) sigma0
theorem sigma_snoc (i : Nat) {p k m st : Str} (h : asked[i]? = some (p, k, m, st)) : sigma (asked.take (i + 1)) = nextS (sigma (asked.take i)) p k m newB := by
  rw [List.take_add_one, h]
  unfold sigma
  rw [Option.toList_some, List.foldl_append]
  rfl
theorem asked_all : ∀ i, i < 12 → ∃ p k m st, asked[i]? = some (p, k, m, st) ∧ IsKind k ∧ statusS (sigma (asked.take i)) p k m = st := by
  intro i hi
  have : i = 0 ∨ i = 1 ∨ i = 2 ∨ i = 3 ∨ i = 4 ∨ i = 5 ∨ i = 6 ∨ i = 7 ∨ i = 8 ∨ i = 9 ∨ i = 10 ∨ i = 11 := by omega
  rcases this with h | h | h | h | h | h | h | h | h | h | h | h <;> subst h <;> refine ⟨_, _, _, _, rfl, ?_, ?_⟩
  all_goals first
    | exact .inl rfl
    | exact .inr (.inl rfl)
    | exact .inr (.inr rfl)
    | decide +kernel
theorem sigma_good : ∀ i, i ≤ 12 → Fine (2 + i) (2 + i) (sigma (asked.take i)) ∧ Kinds (sigma (asked.take i)) := by
  intro i
  induction i with
  | zero =>
    intro _
    refine ⟨⟨fun f hf => ?_, by decide⟩, fun f hf => ?_⟩
    · rcases List.mem_cons.mp hf with rfl | hf
      · decide
      · rcases List.mem_cons.mp hf with rfl | hf
        · decide
        · cases hf
    · rcases List.mem_cons.mp hf with rfl | hf
      · exact .inl rfl
      · rcases List.mem_cons.mp hf with rfl | hf
        · exact .inr (.inl rfl)
        · cases hf
  | succ i ih =>
    intro hi
    obtain ⟨p, k, m, st, h, hk, _⟩ := asked_all i (by omega)
    obtain ⟨h1, h2⟩ := ih (by omega)
    rw [sigma_snoc i h]
    exact ⟨h1.next, h2.next hk⟩
end Mine
end

section
open PySem PySem.Spec PySem.Calls PySem.W PyProof.Rows PyProof.V
set_option Elab.async false
set_option maxRecDepth 100000
namespace Mine
def upd : List Str → (Str → Option Value) → (Str → Option Value) → Str → Option Value
  | [], _, m₀ => m₀
  | a :: r, u, m₀ => fun y => if y = a then u y else upd r u m₀ y
theorem upd_out : ∀ (l : List Str) (u m₀ : Str → Option Value) (y : Str), y ∉ l → upd l u m₀ y = m₀ y
  | [], _, _, _, _ => rfl
  | a :: r, u, m₀, y, h => by
    simp only [List.mem_cons, not_or] at h
    show (if y = a then u y else upd r u m₀ y) = m₀ y
    rw [if_neg h.1]; exact upd_out r u m₀ y h.2
theorem upd_in : ∀ (l : List Str) (u m₀ : Str → Option Value) (y : Str), y ∈ l → upd l u m₀ y = u y
  | [], _, _, _, h => nomatch h
  | a :: r, u, m₀, y, h => by
    show (if y = a then u y else upd r u m₀ y) = u y
    by_cases e : y = a
    · rw [if_pos e]
    · rw [if_neg e]
      rcases List.mem_cons.mp h with h | h
      · exact absurd h e
      · exact upd_in r u m₀ y h
theorem updOf (l : List Str) (m₀ m' : Str → Option Value) (h : ∀ y, y ∉ l → m' y = m₀ y) : ∃ u, m' = upd l u m₀ := by
  refine ⟨m', ?_⟩
  funext y
  by_cases e : y ∈ l
  · rw [upd_in _ _ _ _ e]
  · rw [upd_out _ _ _ _ e, h y e]
section
variable {prog : Program} {w : World} {A : Around} {E : Value → Shared → Prop} {h₀ : Heap} {env : Env} {target : Expr} {body : List Stmt} {Q : Flow → Shared → Prop} {s : Shared} {ws : List (Addr × String)} {keep : Led}
/-- a for whose turns change the ledger and some names -/
theorem itemsRest_vars (l : List Str) (m₀ : Str → Option Value) (J : Nat → Led → Prop) (nw₀ : Led) (xs : List Itm) (h0 : J 0 nw₀)
    (fin : ∀ (u : Str → Option Value) (nw : Led) (h : Heap) (tk : Nat), J xs.length nw → Fr h₀ env.locals h (upd l u m₀) → News h₀ env.locals h nw → Q .next { s with heap := h, toks := tk })
    (turn : ∀ (i : Nat) (a : Itm) (u : Str → Option Value) (nw : Led), xs[i]? = some a → J i nw → ∀ (v : Value) (h : Heap) (tk : Nat), a.Is v h → Fr h₀ env.locals h (upd l u m₀) → AllObj ws (fun its => News h₀ env.locals h (its ++ nw) →
      wpAny (model prog w) A (assign target env v) (fun _ s₂ => wpAny (model prog w) A (execs body env) (UnrPostW h₀ env.locals { s with heap := h, toks := tk } its (fun m' n' => SubL keep n' ∧ (∀ y, y ∉ l → m' y = m₀ y) ∧ J (i + 1) n') Q) E s₂) E { s with heap := h, toks := tk })) :
    ItemsRest prog w A E h₀ env target body Q s ws keep xs m₀ nw₀ := by
  have := itemsRest_ind (prog := prog) (w := w) (A := A) (E := E) (h₀ := h₀) (env := env) (target := target) (body := body) (Q := Q) (s := s) (ws := ws) (keep := keep)
    (fun i m n => (∀ y, y ∉ l → m y = m₀ y) ∧ J i n) xs (fun m n ⟨e, e'⟩ h tk F N => by obtain ⟨u, rfl⟩ := updOf l m₀ m e; exact fin u n h tk e' F N)
    (fun i a m n hx ⟨e, e'⟩ v h tk ha F => by obtain ⟨u, rfl⟩ := updOf l m₀ m e; exact turn i a u n hx e' v h tk ha F) xs.length 0 m₀ nw₀ (Nat.zero_add _) ⟨fun _ _ => rfl, h0⟩
  simpa using this
end
theorem two_start {w : World} {news nw : Led} {D1 D2 c2 c3 l dd x1 d1 : Addr} {τ1 τ2 : Tau} (one : FilesAt w nw D1 τ1) (two : FilesAt w nw D2 τ2) (h1 : τ1.map (·.2) = [c2, c3]) (h2 : τ2.map (·.2) = [l, dd]) (o1 : @LT.lt Nat _ D1 c2) (o2 : @LT.lt Nat _ c2 c3) (o3 : @LT.lt Nat _ c3 D2) (o4 : @LT.lt Nat _ D2 l) (o5 : @LT.lt Nat _ l dd)
    (hn : ∀ q ∈ news, @LT.lt Nat _ q.1 D1) (hx : @Ne Nat x1 D1 ∧ @LT.lt Nat _ x1 c2) (hd : @Ne Nat d1 D1 ∧ @LT.lt Nat _ d1 c2) (hs : Sub news nw) (tx : ∃ o, (x1, o) ∈ nw) (td : ∃ o, (d1, o) ∈ nw) : Two w (news.map (·.1) ++ [x1, d1]) nw D1 D2 τ1 τ2 := by
  refine ⟨one, two, ?_, fun a ha hm => ?_, fun a ha => ?_⟩
  · rw [h1, h2]
    show [D1, D2, c2, c3, l, dd].Nodup
    refine List.nodup_cons.mpr ⟨fun hm => ?_, List.nodup_cons.mpr ⟨fun hm => ?_, List.nodup_cons.mpr ⟨fun hm => ?_, List.nodup_cons.mpr ⟨fun hm => ?_, List.nodup_cons.mpr ⟨fun hm => ?_, List.nodup_cons.mpr ⟨fun hm => (nomatch hm), .nil⟩⟩⟩⟩⟩⟩ <;>
      simp only [List.mem_cons, List.cons_append, List.nil_append, List.not_mem_nil, or_false] at hm
    · rcases hm with h | h | h | h | h <;> (have h' : @Eq Nat D1 _ := h; omega)
    · rcases hm with h | h | h | h <;> (have h' : @Eq Nat D2 _ := h; omega)
    · rcases hm with h | h | h <;> (have h' : @Eq Nat c2 _ := h; omega)
    · rcases hm with h | h <;> (have h' : @Eq Nat c3 _ := h; omega)
    · have h' : @Eq Nat l _ := hm; omega
  · rw [h1, h2] at hm
    have hb : @Ne Nat a D1 ∧ @LT.lt Nat _ a c2 := by
      rcases List.mem_append.mp ha with ha | ha
      · obtain ⟨q, hq, rfl⟩ := List.mem_map.mp ha
        have h3 := hn q hq
        exact ⟨Nat.ne_of_lt h3, Nat.lt_trans h3 o1⟩
      · simp only [List.mem_cons, List.not_mem_nil, or_false] at ha
        rcases ha with rfl | rfl
        · exact hx
        · exact hd
    obtain ⟨hb1, hb2⟩ := hb
    simp only [List.mem_cons, List.cons_append, List.nil_append, List.not_mem_nil, or_false] at hm
    rcases hm with h | h | h | h | h | h <;> (have h' : @Eq Nat a _ := h; omega)
  · rcases List.mem_append.mp ha with ha | ha
    · obtain ⟨q, hq, rfl⟩ := List.mem_map.mp ha
      exact ⟨q.2, hs _ hq⟩
    · simp only [List.mem_cons, List.not_mem_nil, or_false] at ha
      rcases ha with rfl | rfl
      · exact tx
      · exact td
theorem start_two {w : World} {news news2 news3 l0 : Led} {D1 d2 c2 c3 l dd x1 d1 T1 T2 : Addr} {h₀ h : Heap} {L : Addr} {ta tb t1 t2 t3 t4 t5 t6 : Tok} {n1 n2 n3 : Nat} {o1 o2 : Obj} {R2 R3 R4 : Prop}
    (P3 : FilesAt w news3 D1 (putT (putT [] ⟨"a", "sequential", [#[120], #[121]]⟩ c2) ⟨"b", relS, [#[122]]⟩ c3))
    (N : News h₀ L h ((T2, tupOf [.str "relative" tb, .ref dd] n2) :: (dd, o1) :: (T1, tupOf [.str "sequential" ta, .ref l] n1) :: (l, listOf [Value.bytes #[120] t1, Value.bytes #[121] t2].toArray n3) :: (d2, o2) :: news3))
    (hdS : o2.IsDictOf (sK w) (strPairs [(.str "a" t3, .ref T1), (.str "b" t4, .ref T2)])) (hdI : o1.IsDictOf (iK w) (intKeyPairs [(.int 1 t5, .bytes #[122] t6)]))
    (a1 : ∀ q ∈ news3, q.1 < d2) (a2 : @LT.lt Nat _ d2 l ∧ R2) (a3 : @LT.lt Nat _ l T1 ∧ R3) (a4 : @LT.lt Nat _ T1 dd ∧ R4)
    (l2 : ∀ q ∈ l0, q.1 < c2) (l3 : ∀ q ∈ news2, q.1 < c3) (hc2 : c2 ∈ news2.map (·.1)) (hD1 : D1 ∈ l0.map (·.1)) (hx1 : x1 ∈ l0.map (·.1)) (hd1 : d1 ∈ l0.map (·.1)) (nx : x1 ≠ D1) (nd : d1 ≠ D1) (hn : ∀ q ∈ news, q.1 < D1) (hs : Sub news news3) (tx : ∃ o, (x1, o) ∈ news3) (td : ∃ o, (d1, o) ∈ news3) :
    Two w (news.map (·.1) ++ [x1, d1]) ((T2, tupOf [.str "relative" tb, .ref dd] n2) :: (dd, o1) :: (T1, tupOf [.str "sequential" ta, .ref l] n1) :: (l, listOf [Value.bytes #[120] t1, Value.bytes #[121] t2].toArray n3) :: (d2, o2) :: news3) D1 d2 [(⟨"a", "sequential", [#[120], #[121]]⟩, c2), (⟨"b", relS, [#[122]]⟩, c3)] [(⟨"a", "sequential", [#[120], #[121]]⟩, l), (⟨"b", relS, [#[122]]⟩, dd)] := by
  have P3' : FilesAt w news3 D1 [(⟨"a", "sequential", [#[120], #[121]]⟩, c2), (⟨"b", relS, [#[122]]⟩, c3)] := P3
  have sub3 : Sub news3 ((T2, tupOf [.str "relative" tb, .ref dd] n2) :: (dd, o1) :: (T1, tupOf [.str "sequential" ta, .ref l] n1) :: (l, listOf [Value.bytes #[120] t1, Value.bytes #[121] t2].toArray n3) :: (d2, o2) :: news3) := fun q hq => .tail _ (.tail _ (.tail _ (.tail _ (.tail _ hq))))
  have le2 : ∀ a, a ∈ l0.map (·.1) → @LT.lt Nat _ a c2 := fun a ha => by obtain ⟨q, hq, rfl⟩ := List.mem_map.mp ha; exact l2 q hq
  have hc23 : @LT.lt Nat _ c2 c3 := by obtain ⟨q, hq, rfl⟩ := List.mem_map.mp hc2; exact l3 q hq
  have hc3 : @LT.lt Nat _ c3 d2 := by obtain ⟨o, ho⟩ := P3'.contMem c3 (.tail _ (.head _)); exact a1 _ ho
  have hlo : @LT.lt Nat _ 1 d2 := by obtain ⟨o, ho, _⟩ := P3'.mem; exact Nat.lt_trans P3'.lo (a1 _ ho)
  refine two_start (P3'.sub sub3) ⟨⟨o2, _, (.tail _ (.tail _ (.tail _ (.tail _ (.head _))))), hdS, ?_⟩, hlo⟩ rfl rfl (le2 _ hD1) hc23 hc3 a2.1 (Nat.lt_trans a3.1 a4.1) hn ⟨nx, le2 _ hx1⟩ ⟨nd, le2 _ hd1⟩ (hs.trans sub3) (tx.imp fun o h => sub3 _ h) (td.imp fun o h => sub3 _ h)
  refine FsAre.cons (f := ⟨"a", "sequential", [#[120], #[121]]⟩) (.tail _ (.tail _ (.head _))) (.tail _ (.tail _ (.tail _ (.head _)))) (.inr ⟨by decide, _, _, rfl, .cons (.cons .nil)⟩) (Nat.lt_trans hlo a2.1) (FsAre.cons (f := ⟨"b", relS, [#[122]]⟩) (.head _) (.tail _ (.head _)) (.inl ⟨rfl, _, hdI, .cons .nil⟩) (Nat.lt_trans hlo (Nat.lt_trans a2.1 (Nat.lt_trans a3.1 a4.1))) .nil)
/-- what holds between the turns of _law_written_right -/
def JJ (w : World) (news : Led) (x1 d1 D1 D2 I : Addr) (i : Nat) (nw : Led) : Prop :=
  (∀ q ∈ nw, @Ne Nat q.1 I) ∧ ShelfAt w.params nw x1 d1 D1 ∧ Sub news nw ∧ ∃ τ1 τ2, Two w (news.map (·.1) ++ [x1, d1]) nw D1 D2 τ1 τ2 ∧ τ1.map (·.1) = sigma (asked.take i) ∧ τ2.map (·.1) = sigma (asked.take i)
theorem asked_at {i : Nat} {p k m st : Str} (h : asked[i]? = some (p, k, m, st)) : IsKind k ∧ statusS (sigma (asked.take i)) p k m = st := by
  have hi : i < 12 := (List.getElem?_eq_some_iff.mp h).1
  obtain ⟨p', k', m', st', h', r⟩ := asked_all i hi
  rw [h] at h'
  cases h'
  exact r
theorem statusS_look {σ σ' : List File} {p k m : Str} (h : lookF σ p = lookF σ' p) : statusS σ p k m = statusS σ' p k m := by
  unfold statusS; rw [h]
theorem JJ_end {w : World} {news nw news4 news5 : Led} {x1 d1 D1 D2 I : Addr} {i : Nat} {oI : Obj} {τ1 τ2 τ1' τ2' : Tau} {p k m st : Str} (hA : asked[i]? = some (p, k, m, st)) (o9 : ∀ q ∈ nw, @Ne Nat q.1 I) (S9 : ShelfAt w.params nw x1 d1 D1) (hsub9 : Sub news nw) (T9 : Two w (news.map (·.1) ++ [x1, d1]) nw D1 D2 τ1 τ2) (hs4 : Sub ((I, oI) :: nw) news4) (K5 : Kept (I :: (news.map (·.1) ++ [x1, d1])) news4 news5) (hf5 : Fun news5)
    (T5 : Two w (I :: (news.map (·.1) ++ [x1, d1])) news5 D1 D2 τ1' τ2') (e : τ1.map (·.1) = sigma (asked.take i)) (e1 : τ1'.map (·.1) = nextS (τ1.map (·.1)) p k m newB) (e2 : τ2'.map (·.1) = nextS (τ1.map (·.1)) p k m newB) (ht : oI.cls ≠ .type "tuple") :
    (I, oI) ∈ news5 ∧ JJ w news x1 d1 D1 D2 I (i + 1) (dropL I news5) := by
  have hI5 : (I, oI) ∈ news5 := K5 _ (hs4 _ (.head _)) (.head _)
  have hp : ∀ a ∈ news.map (·.1) ++ [x1, d1], @Ne Nat a I := fun a ha => by obtain ⟨o, ho⟩ := T9.there a ha; exact o9 _ ho
  have keep : ∀ q ∈ nw, q.1 ∈ news.map (·.1) ++ [x1, d1] → q ∈ dropL I news5 := fun q hq ha => mem_dropL.mpr ⟨K5 _ (hs4 _ (.tail _ hq)) (.tail _ ha), hp _ ha⟩
  refine ⟨hI5, fun q hq => (mem_dropL.mp hq).2, ?_, fun q hq => keep q (hsub9 q hq) (List.mem_append.mpr (.inl (List.mem_map_of_mem hq))), τ1', τ2', T5.dropI hf5 hI5 ht hp, ?_, ?_⟩
  · exact S9.kept (pr := news.map (·.1) ++ [x1, d1]) keep (by simp) (by simp)
  · rw [e1, e, sigma_snoc i hA]
  · rw [e2, e, sigma_snoc i hA]
theorem JJ_start {w : World} {news L0 : Led} {x1 d1 D1 D2 I c2 c3 l dd : Addr} (S : ShelfAt w.params L0 x1 d1 D1) (hs : Sub news L0) (T : Two w (news.map (·.1) ++ [x1, d1]) L0 D1 D2 [(⟨"a", "sequential", [#[120], #[121]]⟩, c2), (⟨"b", relS, [#[122]]⟩, c3)] [(⟨"a", "sequential", [#[120], #[121]]⟩, l), (⟨"b", relS, [#[122]]⟩, dd)]) (lI : ∀ q ∈ L0, q.1 < I) : JJ w news x1 d1 D1 D2 I 0 L0 :=
  ⟨fun q hq => Nat.ne_of_lt (lI q hq), S, hs, _, _, T, rfl, rfl⟩
end Mine
end

section
open PySem PySem.Spec PySem.Calls PySem.W PyProof.Rows PyProof.V
set_option Elab.async false
set_option maxRecDepth 100000
namespace Mine
open LCg LCp
section
variable (prog : Program) (w : World) (A : Around) (h₀ : Heap) (L : Addr) (m : Str → Option Value) (env : Env) (elt : Expr) (x x₂ : Str) (scope : Scope) (cl : List (Str × Addr)) (Inv : Nat → List Value → Led → Prop)
/-- one turn of a comprehension over pairs of the written part -/
def PairTurn (its : Array Value) (s : Shared) : Prop :=
  ∀ (i : Nat) (ys : List Value) (nw : Led) (v : Value), its[i]? = some v → Inv i ys nw → ∃ t v₁ v₂, v = .ref t ∧ IsTup h₀ t #[v₁, v₂] ∧
    ∀ I oI C oC D m₂ h tk (E' : Value → Shared → Prop), NsObj oC m₂ → m₂ x = some v₁ → m₂ x₂ = some v₂ → Fr h₀ L h m → News h₀ L h ((I, oI) :: (C, oC) :: (D, lst ys) :: nw) → Off3 I C D nw → ((@Ne Nat I C) ∧ (@Ne Nat I D) ∧ (@Ne Nat C D)) →
      wpAny (model prog w) A (eval elt (compEnvC scope cl C env)) (CompEnd h₀ L m { s with heap := h, toks := tk } I oI C oC D (lst ys) (fun _ => True) (fun y nw' => Inv (i + 1) (ys ++ [y]) nw')) E' { s with heap := h, toks := tk }
def PairSrc (Q : Value → Shared → Prop) (xv : Value) (s₁ : Shared) : Prop :=
  ∃ (ax : Addr) (its : Array Value) (news : Led), xv = .ref ax ∧ A.handled = none ∧ Fr h₀ L s₁.heap m ∧ News h₀ L s₁.heap news ∧ IsTup h₀ ax its ∧ its.size ≤ sizeLine ∧ Inv 0 [] news ∧
    ∀ g, PairTurn prog w A h₀ L m env elt x x₂ scope cl Inv its { s₁ with heap := g } ∧ ∀ ys nw, Inv its.size ys nw → FinE h₀ L m { s₁ with heap := g } Q ys nw
end
section
variable {prog : Program} {w : World} {A : Around} {E : Value → Shared → Prop} {h₀ : Heap} {L : Addr} {m : Str → Option Value} {env : Env} {elt iter : Expr} {x x₂ : Str} {px px₂ tp : Pos} {tk : Nat} {scope : Scope} {cl : List (Str × Addr)} {pos : Pos} {Inv : Nat → List Value → Led → Prop} {its : Array Value} {ax : Addr} {news : Led}
theorem pair_block {s₂ : Shared} {I : Addr} {RR : Value → Addr → Result → Shared → Prop} (hh : A.handled = none) (hax : IsTup h₀ ax its) (hsz : its.size ≤ sizeLine) (hcell : ∀ y ∈ scope.names, y.2 ≠ .cell) (hkind : scope.kind = .function)
    (hx : scope.names.lookup x = some .local) (hx₂ : scope.names.lookup x₂ = some .local) (hxx : x ≠ x₂) (hit : s₂.heap.IsTupleIter I ax 0) (F : Fr h₀ L s₂.heap m) (N : News h₀ L s₂.heap news) (hIL : L ≠ I) (hI₀ : h₀.get? I = none) (off : ∀ p ∈ news, p.1 ≠ I)
    (i0 : Inv 0 [] news) (turn : PairTurn prog w A h₀ L m env elt x x₂ scope cl Inv its s₂)
    (hRR : ∀ D C h tk m' ys nw, Fr h₀ L h m → News h₀ L h ((D, lst ys) :: nw) → Off1 D nw → h.Ns C m' → h₀.get? C = none → C ≠ L → C ≠ D → (∀ p ∈ nw, p.1 ≠ C) → Inv its.size ys nw → RR (.ref D) C (.ok .next) { s₂ with heap := h, toks := tk }) :
    wpAny (model prog w) A (newList []) (fun acc s₃ => wpAny (model prog w) A (newFunctionEnv scope env.globals cl [] env.qual none .none (some env)) (fun cenv s₄ =>
      codeAny (model prog w) A (.compStart (.ListComp elt [⟨.Tuple [.Name x px, .Name x₂ px₂] tk tp, iter, [], 0⟩] scope pos) 0 (.ref I) acc { cenv with scope := relabel scope env }) (RR acc cenv.locals) s₄) E s₃) E s₂ := by
  have tupAt : ∀ h : Heap, Fr h₀ L h m → h.IsTuple ax its := fun h F => IsTup.keeps hax F.keep
  have hax₀ : @LT.lt Nat _ ax h₀.objs.size := by obtain ⟨o, e, _⟩ := hax; exact Heap.lt_size e
  have hIlt : I < s₂.heap.objs.size := by obtain ⟨o, e, _⟩ := hit; exact Heap.lt_size e
  have haxI : ax ≠ I := by
    rintro rfl
    obtain ⟨o, e, _⟩ := hax
    rw [hI₀] at e; cases e
  have W := Walks.tuple (prog := prog) (w := w) hh I ax haxI its
  refine wpAny_newObj_type (wpAny_newFunctionEnv hcell (by intro y hy; simp at hy) (fun h₁ hns₁ hsb₁ => ?_) hkind)
  dsimp only at hns₁ hsb₁ ⊢
  generalize hH2 : s₂.heap.push { cls := .type "list", dict := none, data := .seq ([] : List Value).toArray } = H2 at hns₁ hsb₁ ⊢
  have hC : H2.objs.size = s₂.heap.objs.size + 1 := by rw [← hH2, Heap.size_push]
  have below : ∀ b, b < s₂.heap.objs.size → b ≠ H2.objs.size ∧ b ≠ s₂.heap.objs.size := fun b hb => ⟨by rw [hC]; exact Nat.ne_of_lt (Nat.lt_succ_of_lt hb), Nat.ne_of_lt hb⟩
  have hDC : s₂.heap.objs.size ≠ H2.objs.size := by rw [hC]; exact Nat.ne_of_lt (Nat.lt_succ_self _)
  have old : ∀ b o, s₂.heap.get? b = some o → h₁.get? b = some o := fun b o e => hsb₁.extBut b o (below b (Heap.lt_size e)).1 (Heap.get?_push_of_some _ (hH2 ▸ Heap.get?_push_of_some _ e))
  have hacc : h₁.get? s₂.heap.objs.size = some (lst []) := hsb₁.extBut _ _ hDC (Heap.get?_push_of_some _ (hH2 ▸ Heap.get?_push_size _ rfl))
  have none₀ : ∀ a, s₂.heap.objs.size ≤ a → h₀.get? a = none := fun a ha => by
    cases e : h₀.get? a with
    | none => rfl
    | some o' => exact absurd (Heap.lt_size (F.keep a o' e)) (Nat.not_lt.mpr ha)
  have hC₀ : h₀.get? H2.objs.size = none := none₀ _ (by rw [hC]; exact Nat.le_succ _)
  have hD₀ : h₀.get? s₂.heap.objs.size = none := none₀ _ (Nat.le_refl _)
  have hDL : s₂.heap.objs.size ≠ L := Ne.symm (below L F.ns.lt).2
  have hCL : H2.objs.size ≠ L := Ne.symm (below L F.ns.lt).1
  have hIC : I ≠ H2.objs.size := (below I hIlt).1
  have hID : I ≠ s₂.heap.objs.size := (below I hIlt).2
  have off₀ : Off3 I H2.objs.size s₂.heap.objs.size news := Off3.of fun p hp => ⟨off p hp, (below _ (Heap.lt_size (N p hp).1)).1, (below _ (Heap.lt_size (N p hp).1)).2⟩
  clear below
  generalize s₂.heap.objs.size = D at *
  generalize H2.objs.size = C at *
  have iter' : ∀ {h h' : Heap} {i : Nat}, h.IsTupleIter I ax i → (∀ b o, b ≠ C → b ≠ D → h.get? b = some o → h'.get? b = some o) → h'.IsTupleIter I ax i := fun ⟨o, e, r⟩ k => ⟨o, k _ _ hIC hID e, r⟩
  have loop : ∀ s₃ : Shared, s₃ = { s₂ with heap := h₁, toks := s₂.toks + ([] : List (Str × Value)).length } →
      codeAny (model prog w) A (.compLoop (.ListComp elt [⟨.Tuple [.Name x px, .Name x₂ px₂] tk tp, iter, [], 0⟩] scope pos) 0 (.ref I) (.ref D) (compEnvC scope cl C env)) (RR (.ref D) C) s₃ := by
    rintro s₃ rfl
    refine codeAny_compLoop_pair
      (fun k s' => ∃ h' t' i ys m' nw, s' = { s₂ with heap := h', toks := t' } ∧ i ≤ its.size ∧ k = its.size + 1 - i ∧ ys.length = i ∧ h'.IsTupleIter I ax i ∧ Fr h₀ L h' m ∧ h'.Ns C m' ∧ News h₀ L h' ((D, lst ys) :: nw) ∧ Off3 I C D nw ∧ Inv i ys nw) ?_ (its.size + 1)
      ⟨h₁, _, 0, [], _, news, rfl, Nat.zero_le _, rfl, rfl, hit.imp fun o r => ⟨old _ _ r.1, r.2⟩, F.keeps old, hns₁, fun p hp => ?_, off₀, i0⟩
    · rintro k s' ⟨h', t', i, ys, m', nw, rfl, hi, rfl, hyl, hit', F', hn', N', off', hI'⟩
      have o3 := off'.mem
      have outI : ∀ p ∈ (D, lst ys) :: nw, p.1 ≠ I := fun p hp => by
        rcases List.mem_cons.mp hp with rfl | hp
        · exact Ne.symm hID
        · exact (o3 p hp).1
      by_cases hlt : i < its.size
      · refine W.item i _ _ _ hlt ⟨hit', tupAt _ F'⟩ fun v h₂ t₂ hv hst₂ hk₂ => ?_
        obtain ⟨t, v₁, v₂, rfl, ht, T⟩ := turn i ys nw v hv hI'
        have F₂ := fr_but F' hk₂ hIL hI₀
        have N₂ := news_but N' hk₂ outI
        have n₂ : h₂.Ns C m' := hn'.at' fun o e => hk₂ _ o (by simpa using Ne.symm hIC) e
        refine letGo_tupleiter hst₂.1 ?_
        refine assign_Tuple_tuple hh (ht.keeps F₂.keep) rfl rfl fun h₃ he₃ => ?_
        have k₃ : ∀ b o, h₂.get? b = some o → h₃.get? b = some o := fun b o e => he₃ b o (Nat.ne_of_lt (Heap.lt_size e)) e
        refine assignInOrder_cons (wpAny_assign_Name (wpAny_storeName_local (lookup_relabel_local hx) (n₂.at' fun o e => k₃ _ o e) (fun h₄ n₄ s₄ => ?_) (by simp [compEnvC, relabel, hkind])))
        refine assignInOrder_cons (wpAny_assign_Name (wpAny_storeName_local (lookup_relabel_local hx₂) n₄ (fun h₅ n₅ s₅ => ?_) (by simp [compEnvC, relabel, hkind])))
        refine assignInOrder_nil ?_
        have k₅ : ∀ b o, b ≠ C → h₂.get? b = some o → h₅.get? b = some o := fun b o hb e => s₅.extBut b o hb (s₄.extBut b o hb (k₃ b o e))
        obtain ⟨oI, heI, hcI⟩ := iter' hst₂.1 fun b o hb _ e => k₅ b o hb e
        obtain ⟨oC, heC, hoC⟩ := ns_obj n₅
        have F₅ : Fr h₀ L h₅ m := ((F₂.keeps k₃).change s₄ hCL hC₀).change s₅ hCL hC₀
        have N₅ : News h₀ L h₅ ((I, oI) :: (C, oC) :: (D, lst ys) :: nw) := fun p hp => by
          rcases List.mem_cons.mp hp with rfl | hp
          · exact ⟨heI, Ne.symm hIL, hI₀⟩
          · rcases List.mem_cons.mp hp with rfl | hp
            · exact ⟨heC, hCL, hC₀⟩
            · refine ⟨k₅ _ _ ?_ (N₂ p hp).1, (N₂ p hp).2⟩
              rcases List.mem_cons.mp hp with rfl | hp
              · exact hDC
              · exact (o3 p hp).2.1
        refine wpAny_mono (T I oI C oC D _ h₅ _ _ hoC (by simp [hxx]) (by simp) F₅ N₅ off' ⟨hIC, hID, Ne.symm hDC⟩) (fun y s₆ h₆ => ?_) fun _ _ e => e
        obtain ⟨h₆, t₆, nw₆, rfl, F₆, N₆, off₆, _, i₆⟩ := h₆
        have zI := (N₆ _ (.head _)).1
        have zC := (N₆ _ (.tail _ (.head _))).1
        have zD := (N₆ _ (.tail _ (.tail _ (.head _)))).1
        have N₇ : News h₀ L h₆ nw₆ := fun p hp => N₆ p (.tail _ (.tail _ (.tail _ hp)))
        have o6 := off₆.mem
        refine append_at (hsz := by show ys.toArray.size ≤ sizeLine; rw [List.size_toArray, hyl]; exact Nat.le_trans hi hsz) zD fun h₇ s₇ hD₇ => ?_
        refine ⟨its.size + 1 - (i + 1), by omega, h₇, t₆, i + 1, ys ++ [y], _, nw₆, rfl, hlt, rfl, by rw [List.length_append, List.length_singleton, hyl], ⟨oI, s₇.extBut _ _ hID zI, hcI⟩, F₆.change s₇ hDL hD₀, (hoC.ns zC).sameBut s₇ (Ne.symm hDC), fun p hp => ?_, off₆, i₆⟩
        rcases List.mem_cons.mp hp with rfl | hp
        · exact ⟨hD₇.trans (congrArg some (lst_snoc ys y)), hDL, hD₀⟩
        · exact ⟨s₇.extBut _ _ (o6 p hp).2.2 (N₇ p hp).1, (N₇ p hp).2⟩
      · obtain rfl : i = its.size := Nat.le_antisymm hi (Nat.not_lt.mp hlt)
        refine W.done _ _ _ ⟨hit', tupAt _ F'⟩ fun h₂ t₂ hk₂ => ?_
        exact hRR D C h₂ t₂ _ ys nw (fr_but F' hk₂ hIL hI₀) (news_but N' hk₂ outI) off'.one (hn'.at' fun o e => hk₂ _ o (by simpa using Ne.symm hIC) e) hC₀ hCL (Ne.symm hDC) (fun p hp => (o3 p hp).2.1) hI'
    · rcases List.mem_cons.mp hp with rfl | hp
      · exact ⟨hacc, hDL, hD₀⟩
      · exact ⟨old _ _ (N p hp).1, (N p hp).2⟩
  exact codeAny_compStart_list (loop _ rfl) (W.self 0 _ _ _ ⟨hit.imp fun o r => ⟨old _ _ r.1, r.2⟩, tupAt _ (F.keeps old)⟩ (loop _ rfl))
theorem ListComp_top {s : Shared} {Q : Value → Shared → Prop} (_F₀ : Fr h₀ L s.heap m)
    (hclos : closureFor scope env = pure cl) (hcell : ∀ y ∈ scope.names, y.2 ≠ .cell) (hkind : scope.kind = .function)
    (hnames : ∀ y ∈ scope.names, y.2 = .local → scope.names.lookup y.1 = some .local) (hx : scope.names.lookup x = some .local) (hx₂ : scope.names.lookup x₂ = some .local) (hxx : x ≠ x₂) (Inv : Nat → List Value → Led → Prop)
    (h : wpAny (model prog w) A (eval iter env) (PairSrc prog w A h₀ L m env elt x x₂ scope cl Inv Q) E s)
    (hs : ∀ x, foldedSetIterable iter env x = pure x := by intro _; rfl) :
    wpAny (model prog w) A (eval (.ListComp elt [⟨.Tuple [.Name x px, .Name x₂ px₂] tk tp, iter, [], 0⟩] scope pos) env) Q E s := by
  rw [eval_ListComp]
  refine wpAny_comprehension_free (use := none) rfl hs hclos hkind hnames (wpAny_mono h (fun xv s₁ h₁ => ?_) fun _ _ e => e)
  obtain ⟨ax, its, news, rfl, hh, F, N, hax, hsz, i0, R⟩ := h₁
  refine wpAny_pyIter_tuple (IsTup.keeps hax F.keep) ?_
  have up : ∀ b o, s₁.heap.get? b = some o → (s₁.heap.push { cls := .type "tuple_iterator", data := .fields #[.ref ax, .int 0 0] }).get? b = some o := fun b o e => Heap.get?_push_of_some _ e
  refine pair_block hh hax hsz hcell hkind hx hx₂ hxx ⟨_, Heap.get?_push_size _ rfl, rfl, rfl⟩ (F.keeps up) (N.grown up) (Nat.ne_of_lt F.ns.lt) (next_is_new F) (fun p hp => Nat.ne_of_lt (Heap.lt_size (N p hp).1)) i0 (R _).1 ?_
  intro D C h tk m' ys nw F' N' o1 hn hC₀ hCL hCD offC hi
  refine ⟨m', hn, fun h'' hs'' => (R s₁.heap).2 ys nw hi D h'' tk (F'.change hs'' hCL hC₀) (fun p hp => ?_) o1⟩
  refine ⟨hs''.extBut _ _ ?_ (N' p hp).1, (N' p hp).2⟩
  rcases List.mem_cons.mp hp with rfl | hp
  · exact Ne.symm hCD
  · exact offC p hp
end
end Mine
end

section
open PySem PySem.Spec PySem.Calls PySem.W PyProof.Rows PyProof.V
set_option Elab.async false
set_option maxRecDepth 100000
set_option maxHeartbeats 4000000
namespace Mine
local macro_rules | `(tactic| k_mem) => `(tactic| (refine memOf ?_; ktr_member))
local macro_rules | `(tactic| ktr_call $x:term $_c:term) => `(tactic| (refine stopped ?_; k_dflt (refine' Does.use $x ?d1 ?d2 ?d3 ?d4 ?d5 ?d6 ?d7 ?d8 ?_; (case d1 => k_asm); (case d2 => k_asm); (case d3 => k_asm); (case d4 => k_asm); (case d5 => k_asm); (case d6 => first | exact rfl | assumption); (case d7 => ktr_room); (case d8 => ktr_units))))
local macro_rules | `(tactic| k_all) => `(tactic| exact allNe (by assumption) (by omega))
local macro_rules | `(tactic| walk_at "compareOp NotEq ref ref") => `(tactic| (k_here; refine stop_ ?_))
local macro_rules | `(tactic| walk_at "compareOp Eq ref ref") => `(tactic| (k_here; refine stop_ ?_))
local macro_rules | `(tactic| walk_at "eval ListComp") => `(tactic| (k_here; refine stop_ ?_))
local macro_rules | `(tactic| cell_enter) => `(tactic| (refine' code_defC ?k1 ?k2 ?k3 ?k4 ?k5 ?kA ?kF ?kK ?k6 ?k7 ?k8 ?k9 ?kB ?kD ?_ ?c2 ?c3 ?c4; (case kA => exact rfl); (case kF => exact rfl); (case kK => assumption); (case k1 => k_asm); (case k2 => k_asm); (case k3 => k_asm); (case k4 => k_asm); (case k5 => k_asm); (case k6 => k_is); (case k7 => k_is); (case k8 => ktr_room); (case k9 => exact BindsTo.of_eq rfl); (case kB => exact rfl); (case kD => decide +kernel); (case c2 => exact rfl); (case c3 => exact rfl); (case c4 => exact rfl); k_whole; intro g' L' h' tk' cells' FG' F' N' Y' B' X' T' l1; k_cells Y'; (try simp only [List.cons_append, List.nil_append] at N'); (try dsimp only); (try k_fold)))

local macro_rules | `(tactic| walk_at "exec For Name Name cons nil") => `(tactic| (k_here; refine stop_ ?_))
local macro_rules | `(tactic| walk_at "exec For Name Call cons nil") => `(tactic| (k_here; refine stop_ ?_))
local macro_rules | `(tactic| walk_at "exec For Name Call Attribute cons nil") => `(tactic| (k_here; refine stop_ ?_))
local macro_rules | `(tactic| walk_at "exec For Name Name cons cons") => `(tactic| (k_here; refine stop_ ?_))


local macro_rules | `(tactic| walk_at "pyIter ref") => `(tactic| (k_here; refine stop_ ?_))
local macro_rules | `(tactic| walk_at "exec For Tuple Name cons nil") => `(tactic| (k_here; refine stop_ ?_))

def statuses : List (Str × Str) := [("00", ""), ("02", ""), ("10", "end"), ("14", "end"), ("21", "invalid"), ("22", "invalid"), ("23", "invalid"), ("24", "invalid"), ("30", "fault"), ("35", "fault"), ("43", "fault"), ("46", "fault"), ("49", "fault"), ("90", "fault")]
theorem statuses_top {w : World} : ∀ {g : Heap} (_ : PySem.Challenge.rw_og0070_01 = PySem.Challenge.rw_og0070_01) (_ : (hd.heap_39 w.params).In g), ∃ its : Array Value, IsTup g 157 its ∧ its.size = 14 ∧ ∀ (i : Nat) (v : Value), its[i]? = some v → ∃ (t : Addr) (s1 s2 : Str) (t1 t2 : Tok), v = Value.ref t ∧ statuses[i]? = some (s1, s2) ∧ IsTup g t #[Value.str s1 t1, Value.str s2 t2] := by
  k_fill
  intro g _ X
  refine ⟨_, ⟨_, X 157 _ (by k_dflt k_is), rfl, _, rfl⟩, rfl, ?_⟩
  intro i v hv
  have hi : i < 14 := by
    have h0 := (Array.getElem?_eq_some_iff.mp hv).1
    exact h0
  have : i = 0 ∨ i = 1 ∨ i = 2 ∨ i = 3 ∨ i = 4 ∨ i = 5 ∨ i = 6 ∨ i = 7 ∨ i = 8 ∨ i = 9 ∨ i = 10 ∨ i = 11 ∨ i = 12 ∨ i = 13 := by omega
  rcases this with h | h | h | h | h | h | h | h | h | h | h | h | h | h <;> subst h
  all_goals
    have e := Option.some.inj hv
    subst e
    exact ⟨_, _, _, _, _, rfl, rfl, ⟨_, X _ _ (by k_dflt k_is), rfl, _, rfl⟩⟩
theorem statuses_led {w : World} {g h : Heap} {L : Addr} (nw : Led) (_ : News g L h nw) (X : (hd.heap_39 w.params).In g) : ∃ its : Array Value, IsTup g 157 its ∧ its.size = 14 ∧ ∀ (i : Nat) (v : Value), its[i]? = some v → ∃ (t : Addr) (s1 s2 : Str) (t1 t2 : Tok), v = Value.ref t ∧ statuses[i]? = some (s1, s2) ∧ IsTup g t #[Value.str s1 t1, Value.str s2 t2] := statuses_top rfl X
open SeqAt in
theorem eq_listDat {h₀ : Heap} {L : Addr} {news : Led} {s : Shared} {prog : Program} {w : World} {A : Around} {E : Value → Shared → Prop} {Q : Value → Shared → Prop} {n a b k k' : Nat} {ds : List Dat} {vs vs' : List Value} (N : News h₀ L s.heap news) (h : (a, listOf vs.toArray k) ∈ news) (h' : (b, listOf vs'.toArray k') ∈ news) (D : DatAll news vs ds) (D' : DatAll news vs' ds) (hn : datDepths ds ≤ n) (hu : A.units + n + 1 < cLine) (hq : Q (.bool true) s) :
    wpAny (model prog w) A (compareOp .Eq (.ref a) (.ref b)) Q E s := by
  have R := RcAt.lists (A := A) (e := fun _ => true) (isList_led N h) (isList_led N h') (by rw [List.size_toArray, List.size_toArray, D.length, D'.length]) (by omega) (items_eq D D' fun d v v' hd h1 h2 => dat_eq N n d v v' A.in1 (by omega) (by show A.units + 1 + n < cLine; omega) h1 h2)
  rw [all_true] at R; exact R prog w E Q hq
theorem words_depth : datDepths (statuses.map fun q => Dat.str q.2) ≤ 1 := by decide
theorem outcome_word {st wd : Str} (h : (st, wd) ∈ statuses) (t1 t2 t3 t4 t5 t6 : Tok) : (PySem.Spec.lookup (.str (Txt.slice st none (some 1))) (strData [(Value.str (Str.ofString "0") t1, Value.str (Str.ofString "") t2), (Value.str (Str.ofString "1") t3, Value.str (Str.ofString "end") t4), (Value.str (Str.ofString "2") t5, Value.str (Str.ofString "invalid") t6)])).getD (.str (Str.ofString "fault")) = .str wd := by
  simp only [statuses, List.mem_cons, List.not_mem_nil, or_false, Prod.mk.injEq] at h
  rcases h with h | h | h | h | h | h | h | h | h | h | h | h | h | h
  all_goals
    obtain ⟨rfl, rfl⟩ := h
    rfl
theorem outcome_len {st wd : Str} (h : (st, wd) ∈ statuses) : st.length ≤ sizeLine := by
  simp only [statuses, List.mem_cons, List.not_mem_nil, or_false, Prod.mk.injEq] at h
  rcases h with h | h | h | h | h | h | h | h | h | h | h | h | h | h
  all_goals
    obtain ⟨rfl, rfl⟩ := h
    exact Nat.le_of_ble_eq_true rfl
local macro_rules | `(tactic| walk_at "call builtin:dict.get") => `(tactic| (k_here; k_dflt (refine' call_get2_strTab ?k1 ?k2 ?_; (case k1 => k_tabat); (case k2 => k_flat); k_whole; intro _ hvv)))
theorem outcome_of_ {w : World} {news : Led} {st wd : Str} {t : Tok} (h : (st, wd) ∈ statuses) :
   Does w 63 2 news [.str st t] (fun news' r => (∃ t, r = .str wd t) ∧ ∃ T o, news' = (T, o) :: news ∧ ∀ q ∈ news, q.1 < T) := by
  unfold Does; k_fill
  intro p loose mean mg mb dp un gd cn cs a ccd cl outer A₀ base h₀ L m s Q E B F X N T0 hkf hdp hu hret
  refine wpAny_call ?_
  have hsl := outcome_len h
  k_dflt ktr_enter
  k_steps
  with_reducible rename PyProof.V.Flat _ _ => hvv
  obtain ⟨tf, ef⟩ := Flat.str_inv (x := wd) (outcome_word h _ _ _ _ _ _ ▸ hvv)
  exact hret _ _ _ _ (by k_asm) (by k_asm) ⟨⟨tf, ef⟩, _, _, rfl, by assumption⟩
end Mine
end

section
open PySem PySem.Spec PySem.Calls PySem.W PyProof.Rows PyProof.V
set_option Elab.async false
set_option maxRecDepth 100000
set_option maxHeartbeats 4000000
namespace Mine
local macro_rules | `(tactic| k_mem) => `(tactic| (refine memOf ?_; ktr_member))
local macro_rules | `(tactic| ktr_call $x:term $_c:term) => `(tactic| (refine stopped ?_; k_dflt (refine' Does.use $x ?d1 ?d2 ?d3 ?d4 ?d5 ?d6 ?d7 ?d8 ?_; (case d1 => k_asm); (case d2 => k_asm); (case d3 => k_asm); (case d4 => k_asm); (case d5 => k_asm); (case d6 => first | exact rfl | assumption); (case d7 => ktr_room); (case d8 => ktr_units))))
local macro_rules | `(tactic| k_all) => `(tactic| exact allNe (by assumption) (by omega))
local macro_rules | `(tactic| walk_at "compareOp NotEq ref ref") => `(tactic| (k_here; refine stop_ ?_))
local macro_rules | `(tactic| walk_at "compareOp Eq ref ref") => `(tactic| (k_here; refine stop_ ?_))
local macro_rules | `(tactic| walk_at "eval ListComp") => `(tactic| (k_here; refine stop_ ?_))
local macro_rules | `(tactic| cell_enter) => `(tactic| (refine' code_defC ?k1 ?k2 ?k3 ?k4 ?k5 ?kA ?kF ?kK ?k6 ?k7 ?k8 ?k9 ?kB ?kD ?_ ?c2 ?c3 ?c4; (case kA => exact rfl); (case kF => exact rfl); (case kK => assumption); (case k1 => k_asm); (case k2 => k_asm); (case k3 => k_asm); (case k4 => k_asm); (case k5 => k_asm); (case k6 => k_is); (case k7 => k_is); (case k8 => ktr_room); (case k9 => exact BindsTo.of_eq rfl); (case kB => exact rfl); (case kD => decide +kernel); (case c2 => exact rfl); (case c3 => exact rfl); (case c4 => exact rfl); k_whole; intro g' L' h' tk' cells' FG' F' N' Y' B' X' T' l1; k_cells Y'; (try simp only [List.cons_append, List.nil_append] at N'); (try dsimp only); (try k_fold)))

local macro_rules | `(tactic| walk_at "exec For Name Name cons nil") => `(tactic| (k_here; refine stop_ ?_))
local macro_rules | `(tactic| walk_at "exec For Name Call cons nil") => `(tactic| (k_here; refine stop_ ?_))
local macro_rules | `(tactic| walk_at "exec For Name Call Attribute cons nil") => `(tactic| (k_here; refine stop_ ?_))
local macro_rules | `(tactic| walk_at "exec For Name Name cons cons") => `(tactic| (k_here; refine stop_ ?_))


local macro_rules | `(tactic| walk_at "pyIter ref") => `(tactic| (k_here; refine stop_ ?_))
local macro_rules | `(tactic| walk_at "exec For Tuple Name cons nil") => `(tactic| (k_here; refine stop_ ?_))
theorem numOne {news : Led} {T : Addr} {b : By} {t u : Tok} {n : Nat} (h : (T, tupOf [.int 1 t, .bytes b u] n) ∈ news) : DatAll news [.ref T] (if relS = relS then numDat 1 [b] else [b].map .bytes) := by
  rw [if_pos rfl]
  exact .cons (.tuple h (.cons (.int _ _) (.cons (.bytes _ _) .nil))) .nil
theorem law_written_right_ {w : World} {news : Led} :
   Does w 213 14 news [] (fun news' r => r = .bool true ∧ Sub news news') := by
  unfold Does; k_fill
  intro p loose mean mg mb dp un gd cn cs a ccd cl outer A₀ base h₀ L m s Q E B F X N T0 hkf hdp hu hret
  refine wpAny_call ?_
  k_dflt ktr_enter
  k_steps
  ktr_call (shelf_new) 0
  rintro r1 news1 h1 tk1 F1 N1 ⟨hs1, x1, d1, D1, rfl, S1, H1, ⟨nx1, nd1⟩, l1⟩
  have hfun1 := fun_of N1
  have S1' := S1
  obtain ⟨hx1, _, _, hdx1⟩ := S1'
  (try dsimp only)
  k_steps
  ktr_call (lay_ (rows := [#[120], #[121]]) (S1.sub subCons) (H1.sub subCons) (by simp) (by simp) (by simp) (.inl rfl) (List.Mem.head _) (.inr ⟨0, rfl⟩) (bytesDat (by decide) (.cons (.cons .nil))) (by decide)) 0
  rintro r2 news2 h2 tk2 F2 N2 ⟨rfl, c2, P2, K2, l2⟩
  have S2 := (S1.sub subCons).keep K2 nx1 nd1
  have hsub2 : Sub news news2 := fun q hq => K2 q (.tail _ (hs1 q hq)) (Nat.ne_of_lt (l1 q hq).2.2)
  have hfun2 := fun_of N2
  have hnD : ∀ q ∈ news, q.1 < D1 := fun q hq => (l1 q hq).2.2
  have mD1 : D1 ∈ List.map (·.1) news1 := by obtain ⟨o, ho, _⟩ := H1.mem; exact List.mem_map_of_mem (f := fun q : Addr × Obj => q.1) ho
  have mx1 : x1 ∈ List.map (·.1) news1 := List.mem_map_of_mem (f := fun q : Addr × Obj => q.1) hx1
  have md1 : d1 ∈ List.map (·.1) news1 := List.mem_map_of_mem (f := fun q : Addr × Obj => q.1) hdx1
  have l2' : ∀ q ∈ news1, q.1 < c2 := fun q hq => l2 q (.tail _ hq)
  have mc2 : c2 ∈ List.map (·.1) news2 := by obtain ⟨o, ho⟩ := P2.contMem c2 (.head _); exact List.mem_map_of_mem (f := fun q : Addr × Obj => q.1) ho
  have hD12 : D1 < c2 := by obtain ⟨o, ho, _⟩ := H1.mem; exact l2 _ (.tail _ ho)
  have hx2 := S2.inst
  obtain ⟨_, _, hdx2⟩ := S2.dict
  clear hs1 l1 H1 hfun1 K2 hx1 hdx1
  (try dsimp only)
  k_steps
  ktr_call (lay_ (rows := [#[122]]) (S2.sub subDrop2) (P2.sub subDrop2) (by show D1 ∉ [c2]; simpa using Nat.ne_of_lt hD12) (by show [c2].Nodup; simp) (by show (1 : Nat) ≤ 1000; omega) (.inr (.inl rfl)) (List.Mem.head _) (.inr ⟨0, rfl⟩) (numOne (.tail _ (.head _))) (by decide)) 0
  rintro r3 news3 h3 tk3 F3 N3 ⟨rfl, c3, P3, K3, l3⟩
  have S3 := (S2.sub subDrop2).keep K3 nx1 nd1
  have hfun3 := fun_of N3
  have hx3 := S3.inst
  obtain ⟨_, _, hdx3⟩ := S3.dict
  have hsub3 : Sub news news3 := fun q hq => K3 q (.tail _ (.tail _ (hsub2 q hq))) (Nat.ne_of_lt (hnD q hq))
  have l3' : ∀ q ∈ news2, q.1 < c3 := fun q hq => l3 q (.tail _ (.tail _ hq))
  clear K3 l3 l2
  (try dsimp only)
  k_steps
  have W := start_two P3 (by assumption) (by assumption) (by assumption) (by assumption) (by assumption) (by assumption) (by assumption) l2' l3' mc2 mD1 mx1 md1 nx1 nd1 hnD hsub3 ⟨_, hx3⟩ ⟨_, hdx3⟩
  refine stopped ?_
  refine For_turns (by k_asm) ?_
  k_steps
  refine stopped ?_
  k_dflt (with_unfolding_all refine' iter_tupK ?h ?F ?N ?X ?k ?c ?d ?z ?_; (case h => with_unfolding_all rfl); (case F => k_asm); (case N => k_asm); (case X => k_asm); (case k => k_is); (case c => exact rfl); (case d => exact rfl); (case z => decide); k_whole)
  intro I lI
  refine itemsRest_vars ["path", "kind", "mode", "status", "before"] _ (JJ w news x1 d1 D1 _ I) _ _ (JJ_start (S3.sub fun q hq => .tail _ (.tail _ (.tail _ (.tail _ (.tail _ hq))))) (fun q hq => .tail _ (.tail _ (.tail _ (.tail _ (.tail _ (hsub3 q hq)))))) W lI) ?_ ?_
  · rintro u9 nw9 h9 tk9 ⟨o9, S9, hsub9, τ1, τ2, T9, e1, e2⟩ F9 N9
    simp only [upd] at F9
    (try dsimp only)
    k_steps
    have hx9' := S9.inst
    refine stopped ?_
    k_dflt (refine ListComp_top (by k_asm) (by with_unfolding_all rfl) (by decide) (by rfl) (by decide) (by rfl) (by rfl) (by decide) (fun i ys nw => Sub nw9 nw ∧ DatAll nw ys ((statuses.map fun q => Dat.str q.2).take i)) ?_)
    k_steps
    obtain ⟨its, hits, hsz, hget⟩ := statuses_led (w := w) nw9 (by k_asm) (by k_in)
    have hlenS : statuses.length = 14 := rfl
    refine ⟨157, its, nw9, rfl, by rfl, by k_asm, by k_asm, hits, by rw [hsz, sizeLine_eq]; decide, ⟨subRefl, .nil⟩, fun g => ⟨?_, ?_⟩⟩
    · rintro i ys nw v hv ⟨hs, hd⟩
      obtain ⟨t, s1, s2, t1, t2, rfl, hst, htup⟩ := hget i v hv
      refine ⟨t, _, _, rfl, htup, ?_⟩
      intro I2 oI2 C2 oC2 D2' m₂ h tk E' hC hx1 hx2 F N off ne
      k_steps
      ktr_call (outcome_of_ (List.mem_of_getElem? hst)) 0
      rintro r1 news1' h1 tk1 F1 N1 ⟨⟨t4, rfl⟩, T4, o4, rfl, lT⟩
      (try dsimp only)
      k_steps
      refine compEnd_one (by k_asm) (by k_asm) ⟨lT _ (.head _), lT _ (.tail _ (.head _)), lT _ (.tail _ (.tail _ (.head _))), allLt_of fun q hq => lT q (.tail _ (.tail _ (.tail _ hq)))⟩ off trivial ⟨fun q hq => .tail _ (hs q hq), ?_⟩
      rw [List.take_add_one, List.getElem?_map, hst]
      exact (datAll_sub hd subCons).append (.one (.str _ _))
    · rintro ys nw ⟨hs, hd⟩ D5 h5 tk5 F5 N5 off5
      (try dsimp only)
      k_steps
      refine stopped ?_
      k_dflt (refine ListComp_top (by k_asm) (by with_unfolding_all rfl) (by decide) (by rfl) (by decide) (by rfl) (by rfl) (by decide) (fun i ys' nw' => Sub ((D5, listOf ys.toArray ys.length) :: nw) nw' ∧ DatAll nw' ys' ((statuses.map fun q => Dat.str q.2).take i)) ?_)
      k_steps
      refine ⟨157, its, (D5, listOf ys.toArray ys.length) :: nw, rfl, by rfl, by k_asm, by k_asm, hits, by rw [hsz, sizeLine_eq]; decide, ⟨subRefl, .nil⟩, fun g => ⟨?_, ?_⟩⟩
      · rintro i ys' nw' v hv ⟨hs', hd'⟩
        obtain ⟨t, s1, s2, t1, t2, rfl, hst, htup⟩ := hget i v hv
        refine ⟨t, _, _, rfl, htup, ?_⟩
        intro I2 oI2 C2 oC2 D2' m₂ h tk E' hC hx1 hx2 F N off ne
        k_steps
        refine compEnd_zero (by k_asm) (by k_asm) off trivial ⟨hs', ?_⟩
        rw [List.take_add_one, List.getElem?_map, hst]
        exact hd'.append (.one (.str _ _))
      · rintro ys' nw' ⟨hs', hd'⟩ D6 h6 tk6 F6 N6 off6
        rw [List.take_of_length_le (by rw [List.length_map, hlenS, hsz]; exact Nat.le_refl _)] at hd hd'
        (try dsimp only)
        k_steps
        refine stopped ?_
        refine eq_listDat (n := 1) (by k_asm) (.tail _ (hs' _ (.head _))) (.head _) (datAll_sub hd fun q hq => .tail _ (hs' q (.tail _ hq))) (datAll_sub hd' subCons) words_depth (by ktr_units) ?_
        (try dsimp only)
        k_steps
        exact hret _ _ _ _ (by k_asm) (by k_asm) ⟨rfl, fun q hq => .tail _ (hs' _ (.tail _ (hs _ (hsub9 q hq))))⟩
  · rintro i a9 u9 nw hx9 ⟨o9, S9, hsub9, τ1, τ2, T9, e1, e2⟩ v9 h9 tk9 hv9 F9 oI hI N9
    have hi : i < 12 := (List.getElem?_eq_some_iff.mp hx9).1
    obtain ⟨p9, k9, m9, st9, hA, hK9, hst⟩ := asked_all i hi
    obtain ⟨hG1, hG2⟩ := sigma_good i (by omega)
    have hF1 : Fine 25 40 (τ1.map (·.1)) := by rw [e1]; exact hG1.mono (by omega) (by omega)
    have hz1 : ∀ q ∈ τ1, q.1.rows.length ≤ 30 := fun q hq => Nat.le_trans (hF1.1 q.1 (List.mem_map_of_mem hq)) (by omega)
    have hlen1 : τ1.length < 64 := by have := hF1.2; rw [List.length_map] at this; omega
    have hkinds : ∀ q ∈ τ1, q.1.kind = Str.ofString "sequential" ∨ q.1.kind = relS ∨ q.1.kind = Str.ofString "indexed" := fun q hq => hG2 q.1 (by rw [← e1]; exact List.mem_map_of_mem hq)
    have hx9' := S9.inst
    obtain ⟨_, _, hdx9'⟩ := S9.dict
    have hoI : oI.cls ≠ .type "tuple" := by rw [hI]; show Value.type "tuple_iterator" ≠ Value.type "tuple"; decide
    have T9' := T9.keepI (oI := oI) o9
    have e12 : τ1.map (·.1) = τ2.map (·.1) := e1.trans e2.symm
    have hb : ∃ b t1 t2 t3 t4 n, a9 = Itm.val (.ref b) ∧ (hd.heap_39 w.params).lookup b = some (tupOf [.str p9 t1, .str k9 t2, .str m9 t3, .str st9 t4] n) := by
      clear e1 e2 T9 T9' hG1 hG2 hF1 hz1 hlen1 hkinds hst hK9 e12
      have : i = 0 ∨ i = 1 ∨ i = 2 ∨ i = 3 ∨ i = 4 ∨ i = 5 ∨ i = 6 ∨ i = 7 ∨ i = 8 ∨ i = 9 ∨ i = 10 ∨ i = 11 := by omega
      rcases this with h | h | h | h | h | h | h | h | h | h | h | h <;> subst h
      all_goals
        simp only [List.map_cons, List.getElem?_cons_zero, List.getElem?_cons_succ, Option.some.injEq] at hx9
        simp only [asked, List.getElem?_cons_zero, List.getElem?_cons_succ, Option.some.injEq, Prod.mk.injEq] at hA
        obtain ⟨rfl, rfl, rfl, rfl⟩ := hA
        exact ⟨_, _, _, _, _, _, hx9.symm, by k_dflt k_is⟩
    obtain ⟨b9, t1, t2, t3, t4, n9, rfl, hb⟩ := hb
    obtain rfl : v9 = .ref b9 := hv9
    have hss : (st9 != st9) = false := by simp
    simp only [upd] at F9
    dsimp only [List.cons_append, List.nil_append] at N9 ⊢
    k_dflt (refine unpackK (by k_asm) (by k_asm) (by k_in) hb rfl rfl rfl rfl rfl ?_)
    intro h8 F8 N8
    (try dsimp only)
    k_steps
    ktr_call (copied_ (S9.sub subCons) (T9.one.sub subCons) hz1 hlen1 hkinds) 0
    rintro r3 news3 h3 tk3 F3 N3 ⟨hs3, x2, d2, D3, τ3, rfl, S3, H3, hn3, len3, fr3, look3⟩
    have hx3' := S3.inst
    obtain ⟨_, _, hdx3'⟩ := S3.dict
    have hx1' := hs3 _ (.tail _ hx9')
    have hdx1' := hs3 _ (.tail _ hdx9')
    (try dsimp only)
    k_steps
    ktr_call (opened_ S3 H3 hn3 (by omega) hK9) 0
    rintro r4 news4 h4 tk4 F4 N4 ⟨T4, n4, tk4', y4, rfl, hT4, K4⟩
    have hsub4 : Sub ((I, oI) :: nw) news4 := fun q hq => K4 q (hs3 q hq) (fr3 q hq)
    rw [statusS_look (look3 _), e1, hst] at hT4
    (try dsimp only)
    k_steps
    ktr_call (law_opened_right_ (S9.sub (subCons.trans hsub4)) (by simp) (by simp) (T9'.sub hsub4) e12 hF1 hK9) 0
    rintro r5 news5 h5 tk5 F5 N5 ⟨rfl, K5, τ1', τ2', T5, e1', e2'⟩
    obtain ⟨hI5, hJ5⟩ := JJ_end hA o9 S9 hsub9 T9 hsub4 K5 (fun_of N5) T5 e1 e1' e2' hoI
    (try dsimp only)
    k_steps
    refine unrEndW_one F5 N5 hI5 (nw := dropL I news5) (fun q hq => (mem_dropL.mp hq).1) (fun q hq => (mem_dropL.mp hq).2) ⟨trivial, fun y hy => ?_, hJ5⟩
    simp only [List.mem_cons, List.not_mem_nil, or_false, not_or] at hy
    simp [hy]
end Mine
end

section
open PySem PySem.Spec PySem.Calls PySem.W PyProof.Rows PyProof.V
set_option Elab.async false
set_option maxRecDepth 100000
namespace Mine
/-- the closure take with its two lists -/
structure TakeAt (news : Led) (f c cp cc pl cl : Addr) (oF oc op occ : Obj) (ws : List Value) (m k : Nat) : Prop where
  hf : (f, oF) ∈ news
  hc : (c, oc) ∈ news
  hcp : (cp, op) ∈ news
  hcc : (cc, occ) ∈ news
  hcl : (cl, listOf ws.toArray m) ∈ news
  ne : (@Ne Nat f pl) ∧ (@Ne Nat c pl) ∧ (@Ne Nat cp pl) ∧ (@Ne Nat cc pl) ∧ (@Ne Nat cl pl)
  hpl : ∃ o t n, (pl, o) ∈ news ∧ o.cls = .type "list" ∧ o.data = .seq #[.int k t] n
def TakeSpec (w : World) (f c cp cc pl cl : Addr) (oF oc op occ : Obj) (ws : List Value) (m : Nat) : Prop :=
  ∀ (news : Led) (k : Nat) (lim : Int) (t : Tok), TakeAt news f c cp cc pl cl oF oc op occ ws m k → k < 60 → 0 < lim → Does w f 2 news [.int lim t] (fun news' r => ∃ v t', r = .int v t' ∧ 0 ≤ v ∧ v < lim ∧ TakeAt news' f c cp cc pl cl oF oc op occ ws m (k + 1) ∧ Keep pl news news' ∧ Fun news)
theorem TakeAt.sub {news news' : Led} {f c cp cc pl cl : Addr} {oF oc op occ : Obj} {ws : List Value} {m k : Nat} (h : TakeAt news f c cp cc pl cl oF oc op occ ws m k) (hs : Sub news news') : TakeAt news' f c cp cc pl cl oF oc op occ ws m k :=
  ⟨hs _ h.hf, hs _ h.hc, hs _ h.hcp, hs _ h.hcc, hs _ h.hcl, h.ne, let ⟨o, t, n, x, r⟩ := h.hpl; ⟨o, t, n, hs _ x, r⟩⟩
theorem TakeAt.kept {pr : List Addr} {news news' : Led} {f c cp cc pl cl : Addr} {oF oc op occ : Obj} {ws : List Value} {m k : Nat} (h : TakeAt news f c cp cc pl cl oF oc op occ ws m k) (hs : Kept pr news news') (hp : ∀ a ∈ [f, c, cp, cc, pl, cl], a ∈ pr) : TakeAt news' f c cp cc pl cl oF oc op occ ws m k :=
  ⟨hs _ h.hf (hp _ (by simp)), hs _ h.hc (hp _ (by simp)), hs _ h.hcp (hp _ (by simp)), hs _ h.hcc (hp _ (by simp)), hs _ h.hcl (hp _ (by simp)), h.ne, let ⟨o, t, n, x, r⟩ := h.hpl; ⟨o, t, n, hs _ x (hp _ (by simp)), r⟩⟩
/-- the law's own cells and the table of its codes -/
structure CellsAt (news : Led) (f tc rc : Addr) (oT : Obj) (ps : Array Value) : Prop where
  tab : (172, tabObj ps) ∈ news
  tcell : (tc, oT) ∈ news
  tdata : oT.data = .cell (some (.ref f))
  rcell : ∃ oR v, (rc, oR) ∈ news ∧ oR.data = .cell v
structure Apart (f c cp cc pl cl tc rc : Addr) : Prop where
  p : (@Ne Nat 172 pl) ∧ (@Ne Nat tc pl) ∧ (@Ne Nat rc pl)
  r : (@Ne Nat f rc) ∧ (@Ne Nat c rc) ∧ (@Ne Nat cp rc) ∧ (@Ne Nat cc rc) ∧ (@Ne Nat cl rc) ∧ (@Ne Nat 172 rc) ∧ (@Ne Nat tc rc)
theorem take_cut {w : World} {α : Type} {A : Around} {tr : Sem α} {Q : α → Shared → Prop} {E : Value → Shared → Prop} {s : Shared} {h₀ h : Heap} {L : Addr} {news : Led} {f c cp cc pl cl tc rc : Addr} {oF oc op occ oT : Obj} {ws : List Value} {m : Nat} {ps : Array Value} (_N : News h₀ L h news) (hI : ∃ ns, IntsAre ws ns ∧ 0 < ns.length ∧ ns.length ≤ 40) (h0 : TakeAt news f c cp cc pl cl oF oc op occ ws m 0) (g0 : CellsAt news f tc rc oT ps) (a0 : Apart f c cp cc pl cl tc rc)
    (spec : ∀ ns, IntsAre ws ns → 0 < ns.length → ns.length ≤ 40 → TakeSpec w f c cp cc pl cl oF oc op occ ws m) (go : TakeSpec w f c cp cc pl cl oF oc op occ ws m → TakeAt news f c cp cc pl cl oF oc op occ ws m 0 → CellsAt news f tc rc oT ps → Apart f c cp cc pl cl tc rc → wpAny (model PySem.Challenge.rw_og0070_01.row.prog w) A tr Q E s) : wpAny (model PySem.Challenge.rw_og0070_01.row.prog w) A tr Q E s := let ⟨ns, a, b, c⟩ := hI; go (spec ns a b c) h0 g0 a0
theorem memUpd {d : Addr} {q : Addr × Obj} {news : Led} (o : Obj) (h : q ∈ news) (ne : @Ne Nat q.1 d) : q ∈ (d, o) :: dropL d news := .tail _ (mem_dropL.mpr ⟨h, ne⟩)
theorem setlist_led {w : World} {A : Around} {E : Value → Shared → Prop} {s : Shared} {h₀ : Heap} {L d : Addr} {m : Str → Option Value} {news : Led} {o : Obj} {prog : Program} {its : Array Value} {n : Nat} {k : Int} {t : Tok} {v : Value} {Q : Unit → Shared → Prop} (F : Fr h₀ L s.heap m) (N : News h₀ L s.heap news) (hm : (d, o) ∈ news) (hc : o.cls = .type "list") (hd : o.data = .seq its n) (h0 : 0 ≤ k) (hfit : k < 2 ^ 63) (hk : k < its.size)
    (h : ∀ h' o' n', Fr h₀ L h' m → News h₀ L h' ((d, o') :: dropL d news) → o'.cls = .type "list" → o'.data = .seq (its.setIfInBounds k.toNat v) n' → Q () { s with heap := h' }) : wpAny (model prog w) A (setItem (.ref d) (.int k t) v) Q E s := by
  have hm' := N _ hm
  refine wpAny_setItem_list ⟨o, hm'.1, hc, n, hd⟩ h0 hfit hk fun h' ⟨o', ho', hc', n', hd'⟩ hs => ?_
  exact h h' o' n' (F.change hs hm'.2.1 hm'.2.2) (news_led N hm hs ho') hc' hd'
theorem lev_bound (k n : Nat) (_hn : 0 < n) : 0 ≤ Int.fdiv (k : Int) (n : Int) ∧ Int.fdiv (k : Int) (n : Int) ≤ (k : Int) := by
  rw [Int.fdiv_eq_ediv_of_nonneg _ (Int.natCast_nonneg n)]
  exact ⟨Int.ediv_nonneg (Int.natCast_nonneg k) (Int.natCast_nonneg n), Int.ediv_le_self _ (Int.natCast_nonneg k)⟩
theorem log_small {n : Int} (h0 : 0 ≤ n) (h : n ≤ 40) : n.natAbs.log2 < 9000 := by
  have : n.natAbs.log2 ≤ n.natAbs := Nat.log2_le_self _
  omega
theorem log_pow {e : Int} (h : e ≤ 60) : ((720720 : Int) ^ e.toNat).natAbs.log2 < 9000 := by
  rw [Int.natAbs_pow]
  have hne : (Int.natAbs 720720) ^ e.toNat ≠ 0 := Nat.pos_iff_ne_zero.mp (Nat.pow_pos (by decide))
  rw [Nat.log2_lt hne]
  calc (Int.natAbs 720720) ^ e.toNat ≤ (2 ^ 20) ^ e.toNat := Nat.pow_le_pow_left (by decide) _
    _ = 2 ^ (20 * e.toNat) := (Nat.pow_mul ..).symm
    _ < 2 ^ 9000 := Nat.pow_lt_pow_right (by decide) (by omega)
end Mine
end

section
open PySem PySem.Spec PySem.Calls PySem.W PyProof.Rows PyProof.V
set_option Elab.async false
set_option maxRecDepth 100000
namespace Mine
section
variable {w : World} {pr : List Addr} {news news' : Led} {D1 D2 d I : Addr} {τ1 τ2 : Tau} {od oI : Obj}
theorem FsAre.keepX {kvs : List (Str × Value)} {τ : Tau} (h : FsAre w news kvs τ) (hf : Fun news) (hd : (d, od) ∈ news) (ht : ∀ vs n, od ≠ tupOf vs n) (hs : Keep d news news') (hn : d ∉ τ.map (·.2)) : FsAre w news' kvs τ := by
  induction h with
  | nil => exact .nil
  | @cons f c tup tk n o kvs τ h1 h2 h3 h4 _ ih =>
    simp only [List.map_cons, List.mem_cons, not_or] at hn
    exact .cons (hs _ h1 fun e => by have e' : tup = d := e; subst e'; exact ht _ _ (hf _ _ _ hd h1)) (hs _ h2 fun e => hn.1 e.symm) h3 h4 (ih hn.2)
theorem FilesAt.keepX {D : Addr} {τ : Tau} (h : FilesAt w news D τ) (hf : Fun news) (hd : (d, od) ∈ news) (ht : ∀ vs n, od ≠ tupOf vs n) (hs : Keep d news news') (hD : D ≠ d) (hn : d ∉ τ.map (·.2)) : FilesAt w news' D τ :=
  let ⟨⟨o, kvs, hD', hk, hF⟩, lo⟩ := h; ⟨⟨o, kvs, hs _ hD' hD, hk, hF.keepX hf hd ht hs hn⟩, lo⟩
/-- one protected object changes -/
theorem Two.keepD (h : Two w pr news D1 D2 τ1 τ2) (hf : Fun news) (hd : (d, od) ∈ news) (ht : ∀ vs n, od ≠ tupOf vs n) (hK : Keep d news news') (hp : d ∈ pr) (hn : ∃ o, (d, o) ∈ news') : Two w pr news' D1 D2 τ1 τ2 := by
  have ho := h.off d hp
  simp only [List.mem_cons, List.mem_append, not_or] at ho
  refine ⟨h.one.keepX hf hd ht hK (Ne.symm ho.1) ho.2.2.1, h.two.keepX hf hd ht hK (Ne.symm ho.2.1) ho.2.2.2, h.apart, h.off, fun a ha => ?_⟩
  by_cases e : a = d
  · rw [e]; exact hn
  · obtain ⟨o, hao⟩ := h.there a ha
    exact ⟨o, hK _ hao e⟩
theorem list_noTup {o : Obj} (h : o.cls = .type "list") : ∀ vs n, o ≠ tupOf vs n := fun vs n e => by
  rw [e] at h; revert h; show ¬ (Value.type _ = _); decide
theorem cell_noTup {o : Obj} {v : Option Value} (h : o.data = .cell v) : ∀ vs n, o ≠ tupOf vs n := fun vs n e => by
  rw [e] at h; cases h
theorem cls_noTup {o : Obj} (h : o.cls ≠ .type "tuple") : ∀ vs n, o ≠ tupOf vs n := fun vs n e => h (by rw [e])
end
abbrev base12 (f c cp cc pl cl tc rc x dx : Addr) : List Addr := [x, dx, f, c, cp, cc, pl, cl, 172, tc, rc]
/-- everything that holds between the statements of law -/
structure Sit (w : World) (news : Led) (pr : List Addr) (f c cp cc pl cl tc rc x dx D1 D2 : Addr) (oF oc op occ oT : Obj) (ws : List Value) (m k : Nat) (ps : Array Value) (τ1 τ2 : Tau) : Prop where
  take : TakeAt news f c cp cc pl cl oF oc op occ ws m k
  cells : CellsAt news f tc rc oT ps
  shelf : ShelfAt w.params news x dx D1
  two : Two w pr news D1 D2 τ1 τ2
  same : τ1.map (·.1) = τ2.map (·.1)
  apart : Apart f c cp cc pl cl tc rc
  xpl : (@Ne Nat x pl) ∧ (@Ne Nat dx pl) ∧ (@Ne Nat x rc) ∧ (@Ne Nat dx rc)
  prs : ∀ a ∈ base12 f c cp cc pl cl tc rc x dx, a ∈ pr
section
variable {w : World} {news news' : Led} {pr : List Addr} {f c cp cc pl cl tc rc x dx D1 D2 : Addr} {oF oc op occ oT : Obj} {ws : List Value} {m k k' : Nat} {ps : Array Value} {τ1 τ2 τ1' τ2' : Tau}
theorem CellsAt.sub (h : CellsAt news f tc rc oT ps) (hs : Sub news news') : CellsAt news' f tc rc oT ps :=
  ⟨hs _ h.tab, hs _ h.tcell, h.tdata, let ⟨o, v, a, b⟩ := h.rcell; ⟨o, v, hs _ a, b⟩⟩
theorem CellsAt.kept (h : CellsAt news f tc rc oT ps) (hs : Kept pr news news') (h1 : (172 : Nat) ∈ pr) (h2 : tc ∈ pr) (h3 : rc ∈ pr) : CellsAt news' f tc rc oT ps :=
  ⟨hs _ h.tab h1, hs _ h.tcell h2, h.tdata, let ⟨o, v, a, b⟩ := h.rcell; ⟨o, v, hs _ a h3, b⟩⟩
theorem Sit.sub (h : Sit w news pr f c cp cc pl cl tc rc x dx D1 D2 oF oc op occ oT ws m k ps τ1 τ2) (hs : Sub news news') : Sit w news' pr f c cp cc pl cl tc rc x dx D1 D2 oF oc op occ oT ws m k ps τ1 τ2 :=
  ⟨h.take.sub hs, h.cells.sub hs, h.shelf.sub hs, h.two.sub hs, h.same, h.apart, h.xpl, h.prs⟩
theorem Sit.kept (h : Sit w news pr f c cp cc pl cl tc rc x dx D1 D2 oF oc op occ oT ws m k ps τ1 τ2) (hs : Kept pr news news') (T : Two w pr news' D1 D2 τ1' τ2') (e : τ1'.map (·.1) = τ2'.map (·.1)) : Sit w news' pr f c cp cc pl cl tc rc x dx D1 D2 oF oc op occ oT ws m k ps τ1' τ2' :=
  ⟨h.take.kept hs fun a ha => h.prs a (by simp only [List.mem_cons, List.not_mem_nil, or_false] at ha ⊢; rcases ha with e | e | e | e | e | e <;> simp [e]), h.cells.kept hs (h.prs _ (by simp)) (h.prs _ (by simp)) (h.prs _ (by simp)), h.shelf.kept hs (h.prs _ (by simp)) (h.prs _ (by simp)), T, e, h.apart, h.xpl, h.prs⟩
/-- take(limit) was called -/
theorem Sit.took (h : Sit w news pr f c cp cc pl cl tc rc x dx D1 D2 oF oc op occ oT ws m k ps τ1 τ2) (hf : Fun news) (hT : TakeAt news' f c cp cc pl cl oF oc op occ ws m k') (hK : Keep pl news news') : Sit w news' pr f c cp cc pl cl tc rc x dx D1 D2 oF oc op occ oT ws m k' ps τ1 τ2 := by
  obtain ⟨o, t, n, hpl, hc, _⟩ := h.take.hpl
  obtain ⟨o', t', n', hpl', _⟩ := hT.hpl
  refine ⟨hT, ?_, h.shelf.keep hK h.xpl.1 h.xpl.2.1, h.two.keepD hf hpl (list_noTup hc) hK (h.prs _ (by simp)) ⟨o', hpl'⟩, h.same, h.apart, h.xpl, h.prs⟩
  exact ⟨hK _ h.cells.tab h.apart.p.1, hK _ h.cells.tcell h.apart.p.2.1, h.cells.tdata, let ⟨o, v, a, b⟩ := h.cells.rcell; ⟨o, v, hK _ a h.apart.p.2.2, b⟩⟩
end
section
variable {w : World} {news news1 news2 news' : Led} {pr : List Addr} {f c cp cc pl cl tc rc x dx D1 D2 : Addr} {oF oc op occ oT : Obj} {ws : List Value} {m k k' : Nat} {ps : Array Value} {τ1 τ2 τ1' τ2' : Tau}
/-- rows was stored -/
theorem Sit.rows (h : Sit w news pr f c cp cc pl cl tc rc x dx D1 D2 oF oc op occ oT ws m k ps τ1 τ2) (hf : Fun news) {o' : Obj} {v : Option Value} (hm : (rc, o') ∈ news') (hd : o'.data = .cell v) (hK : Keep rc news news') : Sit w news' pr f c cp cc pl cl tc rc x dx D1 D2 oF oc op occ oT ws m k ps τ1 τ2 := by
  obtain ⟨o, v0, hr, hd0⟩ := h.cells.rcell
  obtain ⟨r1, r2, r3, r4, r5, r6, r7⟩ := h.apart.r
  refine ⟨⟨hK _ h.take.hf r1, hK _ h.take.hc r2, hK _ h.take.hcp r3, hK _ h.take.hcc r4, hK _ h.take.hcl r5, h.take.ne, let ⟨o, t, n, a, b⟩ := h.take.hpl; ⟨o, t, n, hK _ a (Ne.symm h.apart.p.2.2), b⟩⟩, ⟨hK _ h.cells.tab r6, hK _ h.cells.tcell r7, h.cells.tdata, ⟨o', v, hm, hd⟩⟩, h.shelf.keep hK h.xpl.2.2.1 h.xpl.2.2.2, h.two.keepD hf hr (cell_noTup hd0) hK (h.prs _ (by simp)) ⟨o', hm⟩, h.same, h.apart, h.xpl, h.prs⟩
theorem sit_start {o2 : Obj} (TA : TakeAt news1 f c cp cc pl cl oF oc op occ ws m k) (CA : CellsAt news1 f tc rc oT ps) (AP : Apart f c cp cc pl cl tc rc) (hs : Sub news1 news2) (S : ShelfAt w.params news2 x dx D1) (H : FilesAt w news2 D1 []) (nx : x ≠ D1) (nd : dx ≠ D1) (l1 : ∀ q ∈ news1, q.1 < dx ∧ q.1 < x ∧ q.1 < D1) (hd2 : o2.IsDictOf (sK w) []) (l2 : ∀ q ∈ news2, q.1 < D2) :
    Sit w ((D2, o2) :: news2) (base12 f c cp cc pl cl tc rc x dx) f c cp cc pl cl tc rc x dx D1 D2 oF oc op occ oT ws m k ps [] [] := by
  have inn : ∀ a ∈ base12 f c cp cc pl cl tc rc x dx, (a ≠ x → a ≠ dx → ∃ o, (a, o) ∈ news1) ∧ ∃ o, (a, o) ∈ news2 := fun a ha => by
    have old : (∃ o, (a, o) ∈ news1) → ∃ o, (a, o) ∈ news2 := fun ⟨o, ho⟩ => ⟨o, hs _ ho⟩
    simp only [base12, List.mem_cons, List.not_mem_nil, or_false] at ha
    rcases ha with e | e | e | e | e | e | e | e | e | e | e <;> subst e
    · exact ⟨fun h => absurd rfl h, _, S.inst⟩
    · obtain ⟨t, n, h⟩ := S.dict; exact ⟨fun _ h => absurd rfl h, _, h⟩
    · exact ⟨fun _ _ => ⟨_, TA.hf⟩, old ⟨_, TA.hf⟩⟩
    · exact ⟨fun _ _ => ⟨_, TA.hc⟩, old ⟨_, TA.hc⟩⟩
    · exact ⟨fun _ _ => ⟨_, TA.hcp⟩, old ⟨_, TA.hcp⟩⟩
    · exact ⟨fun _ _ => ⟨_, TA.hcc⟩, old ⟨_, TA.hcc⟩⟩
    · obtain ⟨o, _, _, h, _⟩ := TA.hpl; exact ⟨fun _ _ => ⟨_, h⟩, old ⟨_, h⟩⟩
    · exact ⟨fun _ _ => ⟨_, TA.hcl⟩, old ⟨_, TA.hcl⟩⟩
    · exact ⟨fun _ _ => ⟨_, CA.tab⟩, old ⟨_, CA.tab⟩⟩
    · exact ⟨fun _ _ => ⟨_, CA.tcell⟩, old ⟨_, CA.tcell⟩⟩
    · obtain ⟨o, _, h, _⟩ := CA.rcell; exact ⟨fun _ _ => ⟨_, h⟩, old ⟨_, h⟩⟩
  obtain ⟨op9, _, _, hpl, _⟩ := TA.hpl
  obtain ⟨or9, _, hrc, _⟩ := CA.rcell
  have hD12 : @LT.lt Nat _ D1 D2 := by obtain ⟨o, ho, _⟩ := H.mem; exact l2 _ ho
  refine ⟨TA.sub (hs.trans subCons), CA.sub (hs.trans subCons), S.sub subCons, ⟨H.sub subCons, ⟨⟨o2, [], .head _, hd2, .nil⟩, Nat.lt_trans H.lo hD12⟩, ?_, fun a ha hm => ?_, fun a ha => ?_⟩, rfl, AP, ⟨Nat.ne_of_gt (l1 _ hpl).2.1, Nat.ne_of_gt (l1 _ hpl).1, Nat.ne_of_gt (l1 _ hrc).2.1, Nat.ne_of_gt (l1 _ hrc).1⟩, fun a ha => ha⟩
  · show [D1, D2].Nodup
    simpa using Nat.ne_of_lt hD12
  · have hm' : a = D1 ∨ a = D2 := by simpa using hm
    obtain ⟨i1, ⟨o, ho⟩⟩ := inn a ha
    rcases hm' with e | e
    · by_cases ex : a = x
      · exact nx (ex ▸ e)
      · by_cases ed : a = dx
        · exact nd (ed ▸ e)
        · obtain ⟨o', ho'⟩ := i1 ex ed
          exact Nat.ne_of_lt (l1 _ ho').2.2 e
    · exact Nat.ne_of_lt (l2 _ ho) e
  · obtain ⟨_, ⟨o, ho⟩⟩ := inn a ha
    exact ⟨o, .tail _ ho⟩
end
/-- a name of a cell is stored -/
theorem storeC_led {M : Model} {A : Around} {E : Value → Shared → Prop} {s : Shared} {h₀ : Heap} {L a : Addr} {m : Str → Option Value} {cn : Str} {cs : Scope} {ccd : Value} {cl : List (Str × Addr)} {x : Str} {v : Value} {Q : Unit → Shared → Prop} {news : Led} {c : Addr} {o : Obj} {v₀ : Option Value}
    (F : Fr h₀ L s.heap m) (N : News h₀ L s.heap news) (hc : cl.lookup x = some c) (hm : (c, o) ∈ news) (hd : o.data = .cell v₀)
    (h : ∀ h' o', Fr h₀ L h' m → News h₀ L h' ((c, o') :: dropL c news) → o'.data = .cell (some v) → Q () { s with heap := h' })
    (hk : cs.kind = .function := by rfl) (hx : (envX cn cs L a ccd cl).kindOf x = some .cell := by rfl) : wpAny M A (storeName (envX cn cs L a ccd cl) x v) Q E s := by
  have hmem := N _ hm
  refine wpAny_storeName_cell hk hx hc ⟨o, hmem.1, hd⟩ fun h' hv hs => ?_
  obtain ⟨o', ho', hd'⟩ := hv
  exact h h' o' (F.change hs hmem.2.1 hmem.2.2) (news_led N hm hs ho') hd'
end Mine
end

section
open PySem PySem.Spec PySem.Calls PySem.W PyProof.Rows PyProof.V
set_option Elab.async false
set_option maxRecDepth 100000
namespace Mine
section
variable {prog : Program} {w : World} {A : Around} {E : Value → Shared → Prop} {s : Shared} {h₀ : Heap} {L : Addr} {m : Str → Option Value} {news : Led}
theorem adjust_upto (v n : Nat) (hv : v ≤ n) : Builtin.Slice.sliceAdjust none (some (v : Int)) 1 (n : Int) = ((0 : Int), (v : Int)) := by
  unfold Builtin.Slice.sliceAdjust
  have h1 : ¬ ((1 : Int) < 0) := by omega
  have h2 : ¬ ((v : Int) < 0) := by omega
  simp only [h1, h2, if_false]
  congr 1
  omega
theorem places_upto (v : Nat) : Builtin.Slice.slicePlaces 0 (v : Int) 1 = v := by
  unfold Builtin.Slice.slicePlaces
  have h1 : (1 : Int) > 0 := by omega
  simp only [h1, if_true, Int.ediv_one]
  split <;> omega
theorem applied_upto {sl : Addr} {v n : Nat} {u : Tok} {Q : Int × Int × Nat → Shared → Prop} (hs : s.heap.IsSliceOf sl .none (.int v u) .none) (hv : v ≤ n) (h : Q ((0 : Int), 1, v) s) :
    wpAny (model prog w) A (Builtin.Slice.sliceApplied (.ref sl) (pure (n : Int))) Q E s := by
  obtain ⟨os, hos, hcs, hds⟩ := id hs
  unfold Builtin.Slice.sliceApplied Builtin.Slice.sliceFields
  refine wpAny_bind (wpAny_bind (wpAny_field hos hds (x := .none) rfl (wpAny_bind (wpAny_field hos hds (x := .int v u) rfl (wpAny_bind (wpAny_field hos hds (x := .none) rfl (wpAny_pure ?_)))))))
  refine wpAny_bind (slicePart_none ?_)
  show wpAny _ _ (if ((1 : Int) == 0) = true then _ else _) _ _ s
  rw [if_neg (by decide)]
  refine wpAny_bind (slicePart_none (wpAny_bind (slicePart_int (wpAny_bind (wpAny_pure ?_)))))
  show wpAny _ _ (match Builtin.Slice.sliceAdjust none (some (v : Int)) 1 (n : Int) with | (lo, hi) => pure (lo, (1 : Int), Builtin.Slice.slicePlaces lo hi 1)) _ _ s
  rw [adjust_upto v n hv]
  show wpAny _ _ (pure ((0 : Int), (1 : Int), Builtin.Slice.slicePlaces 0 (v : Int) 1)) _ _ s
  rw [places_upto v]
  exact wpAny_pure h
theorem pick_upto (xs : Array Value) (v : Nat) : ((List.range v).filterMap fun (k : Nat) => xs[((0 : Int) + (k : Int) * 1).toNat]?).toArray = (xs.toList.take v).toArray := by
  have e : (fun (k : Nat) => xs[((0 : Int) + (k : Int) * 1).toNat]?) = fun k => xs[0 + k]? := by
    funext k
    have : ((0 : Int) + (k : Int) * 1).toNat = 0 + k := by omega
    rw [this]
  rw [e]
  have := pick_run xs 0 v
  rw [List.filterMap_map] at this
  have e2 : ((fun x => xs[x]?) ∘ fun x => 0 + x) = fun k => xs[0 + k]? := rfl
  rw [e2] at this
  rw [this, List.drop_zero]
theorem getItem_upto {t sl : Addr} {items : Array Value} {v : Nat} {u : Tok} {Q : Value → Shared → Prop} (ht : IsTup s.heap t items) (hs : s.heap.IsSliceOf sl .none (.int v u) .none) (hv : v ≤ items.size)
    (h1 : v ≠ items.size → Q (.ref s.heap.objs.size) { s with heap := s.heap.push { cls := .type "tuple", data := .seq (items.toList.take v).toArray } }) (h2 : v = items.size → Q (.ref t) s)
    (hsz : items.size ≤ sizeLine) : wpAny (model prog w) A (getItem (.ref t) (.ref sl)) Q E s := by
  have htake : sizeOk (.seq (items.toList.take v).toArray) := by
    show (items.toList.take v).toArray.size ≤ sizeLine
    rw [List.size_toArray, List.length_take, Array.length_toList]
    omega
  obtain ⟨os, hos, hcs, hds⟩ := id hs
  have hTs : s.TypeIs (.ref sl) "slice" := ⟨os, hos, hcs⟩
  unfold getItem
  try with_reducible refine wpAny_holding ?_
  first | refine wpAny_bind (wpAny_pure ?_) | skip
  refine wpAny_bind (wpAny_sequenceKey ht.typeIs (by decide) ?_)
  refine wpAny_bind (wpAny_callSpecial?_slot (name := Str.ofString "__getitem__") ht.typeIs slot_tuple_getitem
    (wpAny_call_entry slot_tuple_getitem ht.typeIs entry_tuple_getitem ?_ (args_tuple_getitem _ _)))
  show wpAny _ _ (Builtin.Tuple.tupleItemsOf (.ref t) >>= _) _ _ s
  refine wpAny_bind (tupleItemsOf_ ht ?_)
  refine wpAny_bind (wpAny_typeOf hTs ?_)
  rw [if_pos (by decide)]
  refine wpAny_bind (applied_upto hs hv ?_)
  by_cases e : v = items.size
  · have hyes : (((0 : Int) == 0 && (1 : Int) == 1 && v == items.size) = true) := by simp [e]
    show wpAny _ _ (if ((0 : Int) == 0 && (1 : Int) == 1 && v == items.size) = true then _ else _) _ _ s
    rw [if_pos hyes]
    refine wpAny_bind ?_
    unfold Builtin.Tuple.tupleIsExact
    refine wpAny_bind (wpAny_typeOf ht.typeIs (wpAny_pure ?_))
    rw [if_pos (by decide)]
    refine wpAny_bind (wpAny_rule ?_)
    exact wpAny_pure ⟨_, rfl, wpAny_pure (h2 e)⟩
  · have hno : ¬ (((0 : Int) == 0 && (1 : Int) == 1 && v == items.size) = true) := by simp [e]
    show wpAny _ _ (if ((0 : Int) == 0 && (1 : Int) == 1 && v == items.size) = true then _ else _) _ _ s
    rw [if_neg hno, pick_upto items v]
    first
      | exact wpAny_bind (m := Builtin.Tuple.tupleExact _) (wpAny_newObj_type (wpAny_pure ⟨_, rfl, wpAny_pure (h1 e)⟩) htake)
      | exact wpAny_bind (m := Builtin.Tuple.tupleExact _) (wpAny_newObj_type (wpAny_bind (wpAny_pure (wpAny_pure ⟨_, rfl, wpAny_pure (h1 e)⟩))) htake)
      | exact wpAny_bind (wpAny_bind (m := Builtin.Tuple.tupleExact _) (wpAny_newObj_type (wpAny_pure (wpAny_pure ⟨_, rfl, wpAny_pure (h1 e)⟩)) htake))
      | exact wpAny_bind (wpAny_bind (m := Builtin.Tuple.tupleExact _) (wpAny_newObj_type (wpAny_pure ⟨_, rfl, wpAny_pure (h1 e)⟩) htake))
theorem slice_upto {value slice : Expr} {t : Addr} {vs : List Value} {n : Nat} {v : Int} {u : Tok} {Q : Value → Shared → Prop}
    (F : Fr h₀ L s.heap m) (N : News h₀ L s.heap news) (ht : (t, tupOf vs n) ∈ news) (h0 : 0 ≤ v) (hv : v ≤ vs.length)
    (h : ∀ h' T k news', Fr h₀ L h' m → News h₀ L h' news' → Sub news news' → (T, tupOf (vs.take v.toNat) k) ∈ news' → Q (.ref T) { s with heap := h' })
    (hs : subscripted slice false (.ref t) (.ref s.heap.objs.size) = operate [.ref s.heap.objs.size, .ref t] (getItem (.ref t) (.ref s.heap.objs.size)) := by with_unfolding_all rfl)
    (hsz : vs.length ≤ sizeLine := by rw [sizeLine_eq]; exact Nat.le_of_ble_eq_true rfl) :
    wpAny (model prog w) A (subscriptTail value slice (.ref t) (.ref s.heap.objs.size)) Q E { s with heap := s.heap.push { cls := .type "slice", data := .fields #[.none, .int v u, .none] } } := by
  obtain ⟨a, rfl⟩ : ∃ a : Nat, v = (a : Int) := ⟨v.toNat, by omega⟩
  have hts : IsTup s.heap t vs.toArray := ⟨_, (N _ ht).1, rfl, n, rfl⟩
  have ht' : IsTup (s.heap.push { cls := .type "slice", data := .fields #[.none, .int a u, .none] }) t vs.toArray := hts.keeps fun _ _ e => Heap.get?_push_of_some _ e
  refine tail_any (s := { s with heap := s.heap.push { cls := .type "slice", data := .fields #[.none, .int a u, .none] } }) ht'.typeIs slot_tuple_getitem.lookup
    (getItem_upto ht' (Heap.IsSliceOf.new ..) (by rw [List.size_toArray]; omega) (fun _ => ?_) (fun e => ?_) (by rw [List.size_toArray]; exact hsz)) hs
  · have N1 := News.push (F.push { cls := .type "slice", data := .fields #[.none, .int a u, .none] }) (N.grown fun _ _ e => Heap.get?_push_of_some _ e) { cls := .type "tuple", data := .seq (vs.take a).toArray }
    exact h _ _ 0 _ ((F.push _).push _) N1 subCons (.head _)
  · have e' : (a : Int).toNat = vs.length := by rw [List.size_toArray] at e; omega
    refine h _ t n news (F.push _) (N.grown fun _ _ e => Heap.get?_push_of_some _ e) subRefl ?_
    rw [e', List.take_length]; exact ht
end
end Mine
end

section
open PySem PySem.Spec PySem.Calls PySem.W PyProof.Rows PyProof.V
set_option Elab.async false
set_option maxRecDepth 100000
namespace Mine
section
variable {w : World} {news news' : Led} {pr : List Addr} {f c cp cc pl cl tc rc x dx D1 D2 I : Addr} {oF oc op occ oT oI : Obj} {ws : List Value} {m k k' : Nat} {ps : Array Value} {τ1 τ2 τ1' τ2' : Tau}
/-- at a turn's start: the iterator is kept too -/
theorem Sit.keepI (h : Sit w news pr f c cp cc pl cl tc rc x dx D1 D2 oF oc op occ oT ws m k ps τ1 τ2) (off : ∀ q ∈ news, @Ne Nat q.1 I) : Sit w ((I, oI) :: news) (I :: pr) f c cp cc pl cl tc rc x dx D1 D2 oF oc op occ oT ws m k ps τ1 τ2 :=
  ⟨h.take.sub subCons, h.cells.sub subCons, h.shelf.sub subCons, h.two.keepI off, h.same, h.apart, h.xpl, fun a ha => .tail _ (h.prs a ha)⟩
/-- at a turn's end -/
theorem Sit.dropI (h : Sit w news (I :: pr) f c cp cc pl cl tc rc x dx D1 D2 oF oc op occ oT ws m k ps τ1 τ2) (hf : Fun news) (hI : (I, oI) ∈ news) (ht : oI.cls ≠ .type "tuple") (hp : ∀ a ∈ pr, @Ne Nat a I) (prs : ∀ a ∈ base12 f c cp cc pl cl tc rc x dx, a ∈ pr) : Sit w (dropL I news) pr f c cp cc pl cl tc rc x dx D1 D2 oF oc op occ oT ws m k ps τ1 τ2 := by
  have K : ∀ q ∈ news, q.1 ∈ base12 f c cp cc pl cl tc rc x dx → q ∈ dropL I news := fun q hq ha => mem_dropL.mpr ⟨hq, hp _ (prs _ ha)⟩
  refine ⟨⟨K _ h.take.hf (by simp), K _ h.take.hc (by simp), K _ h.take.hcp (by simp), K _ h.take.hcc (by simp), K _ h.take.hcl (by simp), h.take.ne, let ⟨o, t, n, a, b⟩ := h.take.hpl; ⟨o, t, n, K _ a (by simp), b⟩⟩, ⟨K _ h.cells.tab (by simp), K _ h.cells.tcell (by simp), h.cells.tdata, let ⟨o, v, a, b⟩ := h.cells.rcell; ⟨o, v, K _ a (by simp), b⟩⟩, ?_, h.two.dropI hf hI ht hp, h.same, h.apart, h.xpl, prs⟩
  obtain ⟨a, t, n, b⟩ := h.shelf
  exact ⟨K _ a (by simp), t, n, K _ b (by simp)⟩
theorem Sit.prOff (h : Sit w news pr f c cp cc pl cl tc rc x dx D1 D2 oF oc op occ oT ws m k ps τ1 τ2) (off : ∀ q ∈ news, @Ne Nat q.1 I) : ∀ a ∈ pr, @Ne Nat a I := fun a ha => by
  obtain ⟨o, ho⟩ := h.two.there a ha; exact off _ ho
end
/-- what holds between the turns of law's first loop (b turns' worth of takes: 5 a turn) -/
def JA (w : World) (pr : List Addr) (f c cp cc pl cl tc rc x dx D1 D2 : Addr) (oF oc op occ oT : Obj) (ws : List Value) (m : Nat) (ps : Array Value) (k0 n0 r0 : Nat) (step : Nat) (I : Addr) (i : Nat) (nw : Led) : Prop :=
  (∀ q ∈ nw, @Ne Nat q.1 I) ∧ ∃ k τ1 τ2, k ≤ k0 + step * i ∧ Sit w nw pr f c cp cc pl cl tc rc x dx D1 D2 oF oc op occ oT ws m k ps τ1 τ2 ∧ Fine (r0 + i) (n0 + i) (τ1.map (·.1)) ∧ OffP (Str.ofString "f") (τ1.map (·.1))
theorem JA_start {w : World} {news : Led} {pr : List Addr} {f c cp cc pl cl tc rc x dx D1 D2 I : Addr} {oF oc op occ oT : Obj} {ws : List Value} {m k k0 n0 r0 step : Nat} {ps : Array Value} {τ1 τ2 : Tau}
    (h : Sit w news pr f c cp cc pl cl tc rc x dx D1 D2 oF oc op occ oT ws m k ps τ1 τ2) (hk : k ≤ k0) (hF : Fine r0 n0 (τ1.map (·.1))) (hO : OffP (Str.ofString "f") (τ1.map (·.1))) (lI : ∀ q ∈ news, q.1 < I) : JA w pr f c cp cc pl cl tc rc x dx D1 D2 oF oc op occ oT ws m ps k0 n0 r0 step I 0 news :=
  ⟨fun q hq => Nat.ne_of_lt (lI q hq), k, τ1, τ2, by omega, h, hF, hO⟩
theorem paths3 {n i : Nat} {a : Itm} {v : Value} {h : Heap} {t1 t2 t3 : Tok} (hx : (([Value.str "a" t1, Value.str "b" t2, Value.str "c d" t3].take n).map Itm.val)[i]? = some a) (hv : a.Is v h) : ∃ p t, v = .str p t ∧ p ≠ Str.ofString "f" := by
  rw [List.getElem?_map] at hx
  obtain ⟨v8, hv8, rfl⟩ := Option.map_eq_some_iff.mp hx
  have e : v = v8 := hv
  subst e
  have hm := List.mem_of_mem_take (List.mem_of_getElem? hv8)
  simp only [List.mem_cons, List.not_mem_nil, or_false] at hm
  rcases hm with rfl | rfl | rfl
  · exact ⟨_, _, rfl, by decide⟩
  · exact ⟨_, _, rfl, by decide⟩
  · exact ⟨_, _, rfl, by decide⟩
end Mine
end

section
open PySem PySem.Spec PySem.Calls PySem.W PyProof.Rows PyProof.V
set_option Elab.async false
set_option maxRecDepth 100000
namespace Mine
theorem kinds_top {w : World} : ∀ {g : Heap} (_ : PySem.Challenge.rw_og0070_01 = PySem.Challenge.rw_og0070_01) (_ : (hd.heap_39 w.params).In g), ∃ vs : List Value, IsTup g 142 vs.toArray ∧ StrsAre vs [Str.ofString "sequential", relS, Str.ofString "indexed"] := by
  k_fill
  intro g _ X
  exact ⟨_, ⟨_, X 142 _ (by k_dflt k_is), rfl, _, rfl⟩, .cons _ _ (.cons _ _ (.cons _ _ .nil))⟩
theorem kind_at {j : Nat} (h : j < 3) : IsKind ([Str.ofString "sequential", relS, Str.ofString "indexed"].getD j Str.empty) := by
  have : j = 0 ∨ j = 1 ∨ j = 2 := by omega
  rcases this with rfl | rfl | rfl
  · exact .inl rfl
  · exact .inr (.inl rfl)
  · exact .inr (.inr rfl)
end Mine
end

section
open PySem PySem.Spec PySem.Calls PySem.W PyProof.Rows PyProof.V
set_option Elab.async false
set_option maxRecDepth 100000
namespace Mine
open LCg
def drop3 (I C D : Addr) (l : Led) : Led := dropL D (dropL C (dropL I l))
theorem mem_drop3 {I C D : Addr} {l : Led} {q : Addr × Obj} : q ∈ drop3 I C D l ↔ q ∈ l ∧ q.1 ≠ I ∧ q.1 ≠ C ∧ q.1 ≠ D := by
  unfold drop3
  simp only [mem_dropL, and_assoc]
theorem off3_drop {I C D : Addr} {l : Led} : Off3 I C D (drop3 I C D l) := Off3.of fun p hp => (mem_drop3.mp hp).2
theorem off1_all {D : Addr} : ∀ {l : Led}, Off1 D l → ∀ q ∈ l, @Ne Nat q.1 D
  | [], _, _, h => nomatch h
  | _ :: _, x, q, h => by
    rcases List.mem_cons.mp h with rfl | h
    · exact x.1
    · exact off1_all x.2 q h
theorem base12_sub {pr : List Addr} {f c cp cc pl cl tc rc x dx : Addr} (h : ∀ a ∈ base12 f c cp cc pl cl tc rc x dx, a ∈ pr) (D : Addr) : ∀ a ∈ base12 f c cp cc pl cl tc rc x dx, a ∈ D :: pr := fun a ha => .tail _ (h a ha)
theorem fun_sub {l l' : Led} (hf : Fun l') (hs : Sub l l') : Fun l := fun a o o' h h' => hf a o o' (hs _ h) (hs _ h')
theorem sub_tail3 {a b c : Addr × Obj} {l : Led} : Sub l (a :: b :: c :: l) := fun _ h => .tail _ (.tail _ (.tail _ h))
theorem comp_sub {I C D : Addr} {oI oC oD : Obj} {all nw7 nw : Led} {pl : Addr} (hs : Sub nw7 all) (K : Keep pl ((I, oI) :: (C, oC) :: (D, oD) :: nw) nw7) (off : Off3 I C D nw) (hp : ∃ o, (pl, o) ∈ nw) : ∀ p ∈ (I, oI) :: (C, oC) :: (D, oD) :: drop3 I C D nw7, p ∈ all := by
  obtain ⟨o, ho⟩ := hp
  obtain ⟨h1, h2, h3⟩ := off.mem _ ho
  intro p hp
  rcases List.mem_cons.mp hp with rfl | hp
  · exact hs _ (K _ (.head _) (Ne.symm h1))
  · rcases List.mem_cons.mp hp with rfl | hp
    · exact hs _ (K _ (.tail _ (.head _)) (Ne.symm h2))
    · rcases List.mem_cons.mp hp with rfl | hp
      · exact hs _ (K _ (.tail _ (.tail _ (.head _))) (Ne.symm h3))
      · exact hs _ (mem_drop3.mp hp).1
section
variable {w : World} {nw nw7 : Led} {pr : List Addr} {f c cp cc pl cl tc rc x dx D1 D2 : Addr} {oF oc op occ oT : Obj} {ws : List Value} {m k k' : Nat} {ps : Array Value} {τ1 τ2 : Tau} {I C D : Addr} {oI oC oD : Obj}
theorem Sit.plIn (h : Sit w nw pr f c cp cc pl cl tc rc x dx D1 D2 oF oc op occ oT ws m k ps τ1 τ2) : ∃ o, (pl, o) ∈ nw := by
  obtain ⟨o, _, _, h1, _⟩ := h.take.hpl; exact ⟨o, h1⟩
theorem comp_took (h : Sit w nw pr f c cp cc pl cl tc rc x dx D1 D2 oF oc op occ oT ws m k ps τ1 τ2) (off : Off3 I C D nw) (hf0 : Fun ((I, oI) :: (C, oC) :: (D, oD) :: nw)) (T : TakeAt nw7 f c cp cc pl cl oF oc op occ ws m k') (K : Keep pl ((I, oI) :: (C, oC) :: (D, oD) :: nw) nw7) :
    Sit w (drop3 I C D nw7) pr f c cp cc pl cl tc rc x dx D1 D2 oF oc op occ oT ws m k' ps τ1 τ2 := by
  have hp := h.plIn
  have T7 : TakeAt (drop3 I C D nw7) f c cp cc pl cl oF oc op occ ws m k' := by
    obtain ⟨o, _, _, h1, _⟩ := h.take.hpl
    exact ⟨mem_drop3.mpr ⟨T.hf, off.mem _ h.take.hf⟩, mem_drop3.mpr ⟨T.hc, off.mem _ h.take.hc⟩, mem_drop3.mpr ⟨T.hcp, off.mem _ h.take.hcp⟩, mem_drop3.mpr ⟨T.hcc, off.mem _ h.take.hcc⟩, mem_drop3.mpr ⟨T.hcl, off.mem _ h.take.hcl⟩, T.ne, let ⟨o', t, n, a, b⟩ := T.hpl; ⟨o', t, n, mem_drop3.mpr ⟨a, (off.mem _ h1 : pl ≠ I ∧ pl ≠ C ∧ pl ≠ D)⟩, b⟩⟩
  exact h.took (fun_sub hf0 sub_tail3) T7 fun q hq hn => mem_drop3.mpr ⟨K _ (.tail _ (.tail _ (.tail _ hq))) hn, off.mem _ hq⟩
/-- what holds between the turns of the comprehension of rows -/
def JC (w : World) (pr : List Addr) (f c cp cc pl cl tc rc x dx D1 D2 : Addr) (oF oc op occ oT : Obj) (ws : List Value) (m : Nat) (ps : Array Value) (τ1 τ2 : Tau) (k0 : Nat) (nw0 : Led) (i : Nat) (ys : List Value) (nw : Led) : Prop :=
  Keep pl nw0 nw ∧ ∃ k bs, k ≤ k0 + i ∧ Sit w nw pr f c cp cc pl cl tc rc x dx D1 D2 oF oc op occ oT ws m k ps τ1 τ2 ∧ BytesAre ys bs ∧ bs.length = i
theorem JC_start (h : Sit w nw pr f c cp cc pl cl tc rc x dx D1 D2 oF oc op occ oT ws m k ps τ1 τ2) : JC w pr f c cp cc pl cl tc rc x dx D1 D2 oF oc op occ oT ws m ps τ1 τ2 k nw 0 [] nw :=
  ⟨fun _ hq _ => hq, k, [], Nat.le_refl _, h, .nil, rfl⟩
theorem JC_step {nw0 : Led} {k0 i : Nat} {ys : List Value} {bs : List By} {b : By} {t : Tok} (hI : Keep pl nw0 nw) (hk : k ≤ k0 + i) (h : Sit w nw pr f c cp cc pl cl tc rc x dx D1 D2 oF oc op occ oT ws m k ps τ1 τ2) (hB : BytesAre ys bs) (hl : bs.length = i) (off : Off3 I C D nw) (hf0 : Fun ((I, oI) :: (C, oC) :: (D, oD) :: nw)) (T : TakeAt nw7 f c cp cc pl cl oF oc op occ ws m (k + 1)) (K : Keep pl ((I, oI) :: (C, oC) :: (D, oD) :: nw) nw7) :
    JC w pr f c cp cc pl cl tc rc x dx D1 D2 oF oc op occ oT ws m ps τ1 τ2 k0 nw0 (i + 1) (ys ++ [.bytes b t]) (drop3 I C D nw7) :=
  ⟨fun q hq hn => mem_drop3.mpr ⟨K _ (.tail _ (.tail _ (.tail _ (hI q hq hn)))) hn, off.mem _ (hI q hq hn)⟩, k + 1, bs ++ [b], by omega, comp_took h off hf0 T K, hB.snoc b t, by rw [List.length_append, hl]; rfl⟩
theorem Sit.tupNe (h : Sit w nw pr f c cp cc pl cl tc rc x dx D1 D2 oF oc op occ oT ws m k ps τ1 τ2) (hf : Fun nw) {T : Addr} {vs : List Value} {n : Nat} (hT : (T, tupOf vs n) ∈ nw) : (@Ne Nat T pl) ∧ (@Ne Nat T rc) := by
  obtain ⟨o, _, _, hp, hc, _⟩ := h.take.hpl
  obtain ⟨o2, v, hr, hd⟩ := h.cells.rcell
  refine ⟨fun e => ?_, fun e => ?_⟩
  · have e' : T = pl := e
    subst e'; exact list_noTup hc _ _ (hf _ _ _ hp hT)
  · have e' : T = rc := e
    subst e'; exact cell_noTup hd _ _ (hf _ _ _ hr hT)
theorem FilesAt.tupOff {D T : Addr} {τ : Tau} {vs : List Value} {n : Nat} (h : FilesAt w nw D τ) (hf : Fun nw) (hT : (T, tupOf vs n) ∈ nw) : T ≠ D ∧ T ∉ τ.map (·.2) := by
  obtain ⟨⟨o, kvs, hD, hk, hF⟩, lo⟩ := h
  refine ⟨fun e => ?_, fun hm => ?_⟩
  · subst e
    obtain ⟨es, ep, hx, _⟩ := hk
    have := hf _ _ _ hD hT
    rw [this] at hx
    have h1 := hx.1; revert h1; show ¬ (Value.type _ = _); decide
  · clear hD hk
    induction hF with
    | nil => simp at hm
    | cons _ h2 h3 _ _ ih =>
      rcases List.mem_cons.mp hm with e | hm
      · have e' : T = _ := e
        subst e'
        exact h3.noTup (by rw [hf _ _ _ h2 hT])
      · exact ih hm
theorem Sit.moreTup (h : Sit w nw pr f c cp cc pl cl tc rc x dx D1 D2 oF oc op occ oT ws m k ps τ1 τ2) (hf : Fun nw) {T : Addr} {vs : List Value} {n : Nat} (hT : (T, tupOf vs n) ∈ nw) : Sit w nw (T :: pr) f c cp cc pl cl tc rc x dx D1 D2 oF oc op occ oT ws m k ps τ1 τ2 := by
  obtain ⟨a1, a2⟩ := h.two.one.tupOff hf hT
  obtain ⟨b1, b2⟩ := h.two.two.tupOff hf hT
  refine ⟨h.take, h.cells, h.shelf, ⟨h.two.one, h.two.two, h.two.apart, fun a ha hm => ?_, fun a ha => ?_⟩, h.same, h.apart, h.xpl, base12_sub h.prs T⟩
  · rcases List.mem_cons.mp ha with e | ha
    · subst e
      simp only [List.mem_cons, List.mem_append] at hm
      rcases hm with e | e | e | e
      · exact a1 e
      · exact b1 e
      · exact a2 e
      · exact b2 e
    · exact h.two.off a ha hm
  · rcases List.mem_cons.mp ha with e | ha
    · subst e; exact ⟨_, hT⟩
    · exact h.two.there a ha
theorem Sit.shrink {pr' : List Addr} (h : Sit w nw pr f c cp cc pl cl tc rc x dx D1 D2 oF oc op occ oT ws m k ps τ1 τ2) (hs : ∀ a ∈ pr', a ∈ pr) (hb : ∀ a ∈ base12 f c cp cc pl cl tc rc x dx, a ∈ pr') : Sit w nw pr' f c cp cc pl cl tc rc x dx D1 D2 oF oc op occ oT ws m k ps τ1 τ2 :=
  ⟨h.take, h.cells, h.shelf, ⟨h.two.one, h.two.two, h.two.apart, fun a ha => h.two.off a (hs a ha), fun a ha => h.two.there a (hs a ha)⟩, h.same, h.apart, h.xpl, hb⟩
end
theorem add_put (τ : Tau) (p k : Str) (r : List By) (b : By) (c : Addr) : addT (putT τ ⟨p, k, r⟩ c) p b = putT τ ⟨p, k, r ++ [b]⟩ c := by
  unfold addT putT
  show _ = if τ.any (fun q => decide (q.1.path = p)) = true then _ else _
  show List.map _ (if τ.any (fun q => decide (q.1.path = p)) = true then _ else _) = _
  split
  · rw [List.map_map]
    refine List.map_congr_left fun q _ => ?_
    show (if (if q.1.path = p then ((⟨p, k, r⟩ : File), c) else q).1.path = p then _ else _) = _
    by_cases e : q.1.path = p
    · simp [e]
    · simp [e]
  · rename_i h
    rw [List.map_append]
    congr 1
    · refine (List.map_congr_left (g := id) fun q hq => ?_).trans (List.map_id _)
      have : q.1.path ≠ p := fun e => h (List.any_eq_true.mpr ⟨q, hq, by simp [e]⟩)
      simp [this]
    · simp
theorem begin_rows {w : World} {news : Led} {D l T : Addr} {pth kind : Str} {rows : List By} {u : Tok} {n : Nat} {o o9 oc : Obj} {kvs : List (Str × Value)} {τ : Tau} (hf : Fun news) (hD : (D, o) ∈ news) (hk : o.IsDictOf (sK w) kvs) (hF : FsAre w news kvs τ) (lo : @LT.lt Nat _ 1 D) (hn : D ∉ τ.map (·.2)) (l1 : ∀ q ∈ news, q.1 < l) (l2 : @LT.lt Nat _ l T) (hC : ContIs w kind rows oc) (hd9 : o9.IsDictOf (sK w) (stored kvs pth (.ref T))) :
    FilesAt w ((D, o9) :: dropL D ((T, tupOf [.str kind u, .ref l] n) :: (l, oc) :: news)) D (putT τ ⟨pth, kind, rows⟩ l) ∧ Keep D news ((D, o9) :: dropL D ((T, tupOf [.str kind u, .ref l] n) :: (l, oc) :: news)) := by
  have hDl : @LT.lt Nat _ D l := l1 _ hD
  have loc : @LT.lt Nat _ 1 l := Nat.lt_trans lo hDl
  have nl : l ≠ D := Nat.ne_of_gt hDl
  have nT : T ≠ D := Nat.ne_of_gt (Nat.lt_trans hDl l2)
  have hl : (l, oc) ∈ (D, o9) :: dropL D ((T, tupOf [.str kind u, .ref l] n) :: (l, oc) :: news) := .tail _ (mem_dropL.mpr ⟨.tail _ (.head _), nl⟩)
  have hT : (T, tupOf [.str kind u, .ref l] n) ∈ (D, o9) :: dropL D ((T, tupOf [.str kind u, .ref l] n) :: (l, oc) :: news) := .tail _ (mem_dropL.mpr ⟨.head _, nT⟩)
  have hK : Keep D news ((D, o9) :: dropL D ((T, tupOf [.str kind u, .ref l] n) :: (l, oc) :: news)) := fun q hq h => .tail _ (mem_dropL.mpr ⟨.tail _ (.tail _ hq), h⟩)
  have hno : o.cls ≠ .type "tuple" := by obtain ⟨es, ep, hx, _⟩ := hk; rw [hx.1]; decide
  exact ⟨⟨⟨o9, _, .head _, hd9, FsAre.put (f := ⟨pth, kind, rows⟩) (hF.keep hf hD hno hK hn) hT hl hC loc⟩, lo⟩, hK⟩
/-- files[path] = (kind, a new content), of any rows -/
theorem put_ledR {w : World} {A : Around} {E : Value → Shared → Prop} {s : Shared} {h₀ : Heap} {L D T l : Addr} {m : Str → Option Value} {news : Led} {oc : Obj} {τ : Tau} {pth kind : Str} {rows : List By} {t u : Tok} {n : Nat} {Q : Unit → Shared → Prop}
    (F : Fr h₀ L s.heap m) (N : News h₀ L s.heap ((T, tupOf [.str kind u, .ref l] n) :: (l, oc) :: news)) (H : FilesAt w news D τ) (hn : D ∉ τ.map (·.2)) (hlen : τ.length ≤ 1000) (l1 : ∀ q ∈ news, q.1 < l) (l2 : @LT.lt Nat _ l T) (hC : ContIs w kind rows oc)
    (h : ∀ h' news', Fr h₀ L h' m → News h₀ L h' news' → FilesAt w news' D (putT τ ⟨pth, kind, rows⟩ l) → Keep D news news' → Q () { s with heap := h', toks := s.toks + 1 }) :
    wpAny (model PySem.Challenge.rw_og0070_01.row.prog w) A (setItem (.ref D) (.str pth t) (.ref T)) Q E s := by
  obtain ⟨⟨o, kvs, hD, hk, hF⟩, lo⟩ := H
  have hsz : kvs.length ≤ sizeLine := by rw [hF.length, sizeLine_eq]; omega
  have hfun : Fun news := fun_of (h₀ := h₀) (h := s.heap) (L := L) fun q hq => N q (.tail _ (.tail _ hq))
  refine set_led (knd := sK w) F N (.tail _ (.tail _ hD)) hk (strKind_is _ _ _ _) hsz fun h9 o9 F9 N9 hd9 => ?_
  obtain ⟨P1, P3⟩ := begin_rows hfun hD hk hF lo hn l1 l2 hC hd9
  exact h h9 _ F9 N9 P1 P3
section
variable {w : World} {pr : List Addr} {news news' news1 : Led} {D1 D2 c x dx : Addr} {τ1 τ2 : Tau}
/-- the second dict got a file -/
theorem Two.put2 {f : File} (h : Two w pr news D1 D2 τ1 τ2) (hf : Fun news) (h1 : FilesAt w news' D2 (putT τ2 f c)) (hK : Keep D2 news news') (hc : ∀ q ∈ news, q.1 < c) : Two w pr news' D1 D2 τ1 (putT τ2 f c) ∧ Kept pr news news' :=
  ⟨(h.swap.put hf h1 hK hc).swap, hK.kept h.off2⟩
/-- between the turns of the loop that adds the rows -/
def JB (w : World) (pr : List Addr) (news1 : Led) (D1 D2 : Addr) (τ1 τ2 : Tau) (p kd : Str) (c : Addr) (bs : List By) (I : Addr) (i : Nat) (nw : Led) : Prop :=
  (∀ q ∈ nw, @Ne Nat q.1 I) ∧ Two w pr nw D1 D2 τ1 (putT τ2 ⟨p, kd, bs.take i⟩ c) ∧ Kept pr news1 nw
theorem JB_start {I : Addr} {bs : List By} {p kd : Str} (h : Two w pr news1 D1 D2 τ1 (putT τ2 ⟨p, kd, []⟩ c)) (lI : ∀ q ∈ news1, q.1 < I) : JB w pr news1 D1 D2 τ1 τ2 p kd c bs I 0 news1 :=
  ⟨fun q hq => Nat.ne_of_lt (lI q hq), h, fun _ hq _ => hq⟩
/-- the shelf's dict got a file as the law's did -/
theorem Two.lay {f : File} {c1 c2 : Addr} (h : Two w pr news D1 D2 τ1 (putT τ2 f c2)) (he : τ1.map (·.1) = τ2.map (·.1)) (hf : Fun news) (h1 : FilesAt w news' D1 (putT τ1 f c1)) (hK : Keep D1 news news') (hc : ∀ q ∈ news, q.1 < c1) : Two w pr news' D1 D2 (putT τ1 f c1) (putT τ2 f c2) ∧ Kept pr news news' ∧ (putT τ1 f c1).map (·.1) = (putT τ2 f c2).map (·.1) :=
  ⟨h.put hf h1 hK hc, hK.kept h.off1, by rw [putT_fst, putT_fst, he]⟩
theorem Two.addPut {p kd : Str} {b : By} {rs : List By} {oc oc' : Obj} (h : Two w pr news D1 D2 τ1 (putT τ2 ⟨p, kd, rs⟩ c)) (hf : Fun news) (hc : (c, oc) ∈ news) (ht : oc.cls ≠ .type "tuple") (hc' : (c, oc') ∈ news') (hC : ContIs w kd (rs ++ [b]) oc') (hK : Keep c news news') : Two w pr news' D1 D2 τ1 (putT τ2 ⟨p, kd, rs ++ [b]⟩ c) ∧ Kept pr news news' := by
  have hl := look_put τ2 ⟨p, kd, rs⟩ c
  have h1 := (h.swap.add hf hl hc ht hc' hC hK).swap
  rw [add_put] at h1
  exact ⟨h1, hK.kept (h.offc2 hl)⟩
end
end Mine
end

section
open PySem PySem.Spec PySem.Calls PySem.W PyProof.Rows PyProof.V
set_option Elab.async false
set_option maxRecDepth 100000
namespace Mine
theorem BytesAre.get {xs : List Value} {bs : List By} (h : BytesAre xs bs) {i : Nat} {v : Value} (hv : xs[i]? = some v) : ∃ b t, bs[i]? = some b ∧ v = .bytes b t := by
  induction h generalizing i with
  | nil => simp at hv
  | @cons b t vs bs _ ih =>
    cases i with
    | zero => exact ⟨b, t, rfl, by simpa using hv.symm⟩
    | succ i => exact ih (by simpa using hv)
section
variable {prog : Program} {w : World} {A : Around} {E : Value → Shared → Prop} {s : Shared} {h₀ : Heap} {L : Addr} {m : Str → Option Value} {news : Led}
theorem item_tupN {value slice : Expr} {T : Addr} {vs : List Value} {n : Nat} {k : Int} {u : Tok} {x : Value} {Q : Value → Shared → Prop} (N : News h₀ L s.heap news) (hm : (T, tupOf vs n) ∈ news)
    (h0 : 0 ≤ k) (hfit : k < 2 ^ 63) (hx : vs[k.toNat]? = some x) (h : Q x s)
    (hs : subscripted slice false (.ref T) (.int k u) = operate [.ref T, .int k u] (getItem (.ref T) (.int k u)) := by with_unfolding_all rfl) :
    wpAny (model prog w) A (subscriptTail value slice (.ref T) (.int k u)) Q E s := by
  have ht : IsTup s.heap T vs.toArray := ⟨_, (N _ hm).1, rfl, n, rfl⟩
  have hlt : k.toNat < vs.length := (List.getElem?_eq_some_iff.mp hx).1
  have hn : k < ((vs.toArray.size : Nat) : Int) := by rw [List.size_toArray]; omega
  exact tail_any ht.typeIs slot_tuple_getitem.lookup (getItem_tuple ht (by omega) hfit (seqIndex_of h0 hn) (by simpa using hx) h) hs
end
theorem chain12 {pl d : Addr} {a b c e f : Led} {p : Addr × Obj} (K1 : Keep pl a b) (K2 : Keep pl b c) (K3 : Keep pl c e) (K4 : Keep d (p :: e) f) (q : Addr × Obj) (hq : q ∈ a) (h1 : @Ne Nat q.1 pl) (h2 : @Ne Nat q.1 d) : q ∈ f := K4 q (List.Mem.tail p (K3 q (K2 q (K1 q hq h1) h1) h1)) h2
/-- a name of a cell is stored; the ledger after it has no shape -/
theorem storeC_ab {M : Model} {A : Around} {E : Value → Shared → Prop} {s : Shared} {h₀ : Heap} {L a : Addr} {m : Str → Option Value} {cn : Str} {cs : Scope} {ccd : Value} {cl : List (Str × Addr)} {x : Str} {v : Value} {Q : Unit → Shared → Prop} {news : Led} {c : Addr} {o : Obj} {v₀ : Option Value}
    (F : Fr h₀ L s.heap m) (N : News h₀ L s.heap news) (hc : cl.lookup x = some c) (hm : (c, o) ∈ news) (hd : o.data = .cell v₀)
    (h : ∀ h' o' news', Fr h₀ L h' m → News h₀ L h' news' → (c, o') ∈ news' → Keep c news news' → o'.data = .cell (some v) → Q () { s with heap := h' })
    (hk : cs.kind = .function := by rfl) (hx : (envX cn cs L a ccd cl).kindOf x = some .cell := by rfl) : wpAny M A (storeName (envX cn cs L a ccd cl) x v) Q E s :=
  storeC_led F N hc hm hd (fun h' o' F' N' hd' => h h' o' _ F' N' (.head _) (keep_drop subRefl) hd') hk hx
def Stays (a : Addr) (nw₀ nw : Led) : Prop := ∀ o, (a, o) ∈ nw₀ → (a, o) ∈ nw
section
variable {w : World} {news : Led} {pr : List Addr} {f c cp cc pl cl tc rc x dx D1 D2 I : Addr} {oF oc op occ oT oI : Obj} {ws : List Value} {m k k0 n0 r0 step i : Nat} {ps : Array Value} {τ1 τ2 : Tau}
theorem JA_end (h : Sit w news (I :: pr) f c cp cc pl cl tc rc x dx D1 D2 oF oc op occ oT ws m k ps τ1 τ2) (hf : Fun news) (hI : (I, oI) ∈ news) (ht : oI.cls ≠ .type "tuple") (hp : ∀ a ∈ pr, @Ne Nat a I) (prs : ∀ a ∈ base12 f c cp cc pl cl tc rc x dx, a ∈ pr)
    (hk : k ≤ k0 + step * (i + 1)) (hF : Fine (r0 + (i + 1)) (n0 + (i + 1)) (τ1.map (·.1))) (hO : OffP (Str.ofString "f") (τ1.map (·.1))) : JA w pr f c cp cc pl cl tc rc x dx D1 D2 oF oc op occ oT ws m ps k0 n0 r0 step I (i + 1) (dropL I news) :=
  ⟨fun q hq => (mem_dropL.mp hq).2, k, τ1, τ2, hk, h.dropI hf hI ht hp prs, hF, hO⟩
end
theorem putFine {σ : List File} {p kd : Str} {bs : List By} {k n : Nat} (h : Fine k n σ) (hb : bs.length ≤ k + 1) : Fine (k + 1) (n + 1) (putF σ ⟨p, kd, bs⟩) := (h.mono (Nat.le_succ k) (Nat.le_refl n)).put hb
theorem JB_end {w : World} {pr : List Addr} {news1 nw news : Led} {D1 D2 c I : Addr} {τ1 τ2 : Tau} {p kd : Str} {bs rs : List By} {b : By} {i : Nat} {oI : Obj} (h0 : Two w pr nw D1 D2 τ1 (putT τ2 ⟨p, kd, rs⟩ c)) (o : ∀ q ∈ nw, @Ne Nat q.1 I) (h : Two w (I :: pr) news D1 D2 τ1 (putT τ2 ⟨p, kd, bs.take i ++ [b]⟩ c)) (hf : Fun news) (hI : (I, oI) ∈ news) (ht : oI.cls ≠ .type "tuple") (J : Kept (I :: pr) ((I, oI) :: nw) news) (J0 : Kept pr news1 nw) (hb : bs[i]? = some b) :
    JB w pr news1 D1 D2 τ1 τ2 p kd c bs I (i + 1) (dropL I news) := by
  have hp : ∀ a ∈ pr, @Ne Nat a I := fun a ha => by obtain ⟨o', ho'⟩ := h0.there a ha; exact o _ ho'
  refine ⟨fun q hq => (mem_dropL.mp hq).2, ?_, fun q hq ha => mem_dropL.mpr ⟨J _ (.tail _ (J0 q hq ha)) (.tail _ ha), hp _ ha⟩⟩
  rw [List.take_add_one, hb]
  exact h.dropI hf hI ht hp
theorem putFine3 {σ : List File} {p kd : Str} {bs : List By} {i : Nat} (h : Fine (3 + i) (0 + i) σ) (hb : bs.length ≤ 3) : Fine (3 + (i + 1)) (0 + (i + 1)) (putF σ ⟨p, kd, bs⟩) := putFine h (by show bs.length ≤ 3 + i + 1; omega)
end Mine
end

section
open PySem PySem.Spec PySem.Calls PySem.W PyProof.Rows PyProof.V
set_option Elab.async false
set_option maxRecDepth 100000
namespace Mine
section
variable {prog : Program} {w : World} {A : Around} {E : Value → Shared → Prop} {h₀ : Heap} {env : Env} {x : Str} {body : List Stmt} {Q : Flow → Shared → Prop} {s : Shared} {I : Addr} {a : Int} {n : Nat}
theorem unrPost_monoR {s₁ : Shared} {it : Obj} {L : Addr} {r r' : (Str → Option Value) → List (Addr × Obj) → Prop} (h : ∀ m nw, r m nw → r' m nw) (f : Flow) (s₂ : Shared) (p : UnrPost h₀ L s₁ I it r Q f s₂) : UnrPost h₀ L s₁ I it r' Q f s₂ := by
  cases f with
  | ret v => exact p
  | brk => exact p
  | next => obtain ⟨h', tk, m', nw', e, F, N, o, q⟩ := p; exact ⟨h', tk, m', nw', e, F, N, o, h _ _ q⟩
  | cont => obtain ⟨h', tk, m', nw', e, F, N, o, q⟩ := p; exact ⟨h', tk, m', nw', e, F, N, o, h _ _ q⟩
/-- a for over a range whose turns change the ledger and some names -/
theorem rangeRest_vars (l : List Str) (m₀ : Str → Option Value) (J : Nat → Led → Prop) (nw₀ : Led) (h0 : J 0 nw₀)
    (fin : ∀ (u : Str → Option Value) (nw : Led) (h : Heap) (tk : Nat), J n nw → Fr h₀ env.locals h (upd l u m₀) → News h₀ env.locals h nw → Q .next { s with heap := h, toks := tk })
    (turn : ∀ (i : Nat) (u : Str → Option Value) (nw : Led), i < n → J i nw → ∀ (t : Tok) (h : Heap) (tk : Nat), Fr h₀ env.locals h (fun y => if y = x then some (.int (a + (i : Int)) t) else upd l u m₀ y) → ∀ oI : Obj, oI.cls = .type "range_iterator" → News h₀ env.locals h ((I, oI) :: nw) →
      wpAny (model prog w) A (execs body env) (UnrPost h₀ env.locals { s with heap := h, toks := tk } I oI (fun m' n' => (∀ y, y ∉ l → m' y = m₀ y) ∧ J (i + 1) n') Q) E { s with heap := h, toks := tk }) :
    RangeRest prog w A E h₀ env x body Q s I a n n 0 m₀ nw₀ := by
  have go : ∀ (k i : Nat) (m : Str → Option Value) (nw : Led), i + k = n → (∀ y, y ∉ l → m y = m₀ y) → J i nw → RangeRest prog w A E h₀ env x body Q s I a n k i m nw := by
    intro k
    induction k with
    | zero =>
      intro i m nw e hm hJ
      refine RangeRest.zero fun h tk F N => ?_
      obtain ⟨u, rfl⟩ := updOf l m₀ m hm
      have e' : i = n := by omega
      exact fin u nw h tk (e' ▸ hJ) F N
    | succ k ih =>
      intro i m nw e hm hJ
      refine RangeRest.succ fun t h tk F N => ?_
      obtain ⟨u, rfl⟩ := updOf l m₀ m hm
      refine wpAny_mono (turn i u nw (by omega) hJ t h tk F _ rfl N) (fun f s₂ p => unrPost_monoR (fun m' nw' q => ?_) f s₂ p) fun _ _ y => y
      exact ih (i + 1) m' nw' (by omega) q.1 q.2
  exact go n 0 m₀ nw₀ (Nat.zero_add _) (fun _ _ => rfl) h0
/-- the end of a turn -/
theorem unrEnd_oneR {L : Addr} {s₁ : Shared} {it : Obj} {rest : (Str → Option Value) → List (Addr × Obj) → Prop} {h' : Heap} {tk : Nat} {m' : Str → Option Value} {all : Led} (F : Fr h₀ L h' m') (N : News h₀ L h' all) (hI : (I, it) ∈ all) (r : rest m' (dropL I all)) :
    UnrEnd h₀ L s₁ I it rest { s₁ with heap := h', toks := tk } :=
  UnrEnd.intro F N (dropL I all) (fun p hp => by
    rcases List.mem_cons.mp hp with rfl | hp
    · exact hI
    · exact (mem_dropL.mp hp).1) (fun p hp => (mem_dropL.mp hp).2) r
end
section
variable {prog : Program} {w : World} {A : Around} {s : Shared} {env : Env} {h₀ : Heap}
theorem For_one {E : Value → Shared → Prop} {Q : Flow → Shared → Prop} {x : Str} {px pos : Pos} {iter : Expr} {body : List Stmt} {m : Str → Option Value} (_F : Fr h₀ env.locals s.heap m) (hx : env.kindOf x = some .local)
    (hp : (env.scope.kind == .class || (env.scope.kind == .module && env.locals != env.globals)) = false)
    (h : wpAny (model prog w) A (eval iter env) (fun xv s₁ => wpAny (model prog w) A (pyIter xv) (fun it s₂ => LoopAtV prog w A h₀ env x body Q E it s₂) E s₁) E s)
    (hs : ∀ x, foldedSetIterable iter env x = pure x := by intro _; rfl)
    (hE : PassesOwn (model prog w) A env E := by passes_own) :
    wpAny (model prog w) A (exec (.For (.Name x px) iter body [] pos) env) Q E s := For_invV h₀ hx hp h hs hE
end
theorem subOfNews {h₀ h : Heap} {L : Addr} {q : Addr × Obj} {nw : Led} (_N : News h₀ L h (q :: nw)) : Sub nw (q :: nw) := subCons
theorem path4 {t1 t2 t3 t4 : Tok} {j : Nat} (h : j < 4) : ∃ p t, [Value.str "a" t1, Value.str "b" t2, Value.str "c d" t3, Value.str "e" t4][j]? = some (.str p t) ∧ p ≠ Str.ofString "f" := by
  have : j = 0 ∨ j = 1 ∨ j = 2 ∨ j = 3 := by omega
  rcases this with rfl | rfl | rfl | rfl
  · exact ⟨_, _, rfl, by decide⟩
  · exact ⟨_, _, rfl, by decide⟩
  · exact ⟨_, _, rfl, by decide⟩
  · exact ⟨_, _, rfl, by decide⟩
theorem mode4 {a b c d : Str} {t1 t2 t3 t4 : Tok} {j : Nat} (h : j < 4) : ∃ p t, [Value.str a t1, Value.str b t2, Value.str c t3, Value.str d t4][j]? = some (.str p t) := by
  have : j = 0 ∨ j = 1 ∨ j = 2 ∨ j = 3 := by omega
  rcases this with rfl | rfl | rfl | rfl <;> exact ⟨_, _, rfl⟩
end Mine
end

section
open PySem PySem.Spec PySem.Calls PySem.W PyProof.Rows PyProof.V
set_option Elab.async false
set_option maxRecDepth 100000
namespace Mine
theorem mem_one {env : Env} {L b : Addr} (hf : env.frame = some L) (h : b ∈ [env].filterMap (·.frame)) : b = L := by
  obtain ⟨e, he, hb⟩ := List.mem_filterMap.mp h
  obtain rfl := List.mem_singleton.mp he
  exact Option.some.inj (hb.symm.trans hf)
section
variable {prog : Program} {w : World} {A₀ A : Around} {s : Shared} {base h₀ : Heap} {L : Addr} {m : Str → Option Value} {env : Env} {news : List (Addr × Obj)} {K : Frag} {p : Program} {loose : List Str} {mean : ExcName → Option Value} {mg mb : Str → Option Value}
    {R : Result → Shared → Prop} {name qual : Str} {params : Arguments} {body : List Stmt} {scope : Scope} {dV kV doc pm cdv ct oc : Value} {an od : Option Addr} {osl : Array (Option Value)} {f : Addr} {args : Args} {binds : List (Str × Value)}
/-- a def that may catch, called from the lowest frame; the frame may have cells -/
theorem code_defSX (B : Below A₀ base [] h₀) (F : Fr h₀ L s.heap m) (X₀ : K.In h₀) (N : News h₀ L s.heap news) (T : Top p loose mean mg mb h₀) (hA : A.frames = some [env]) (hf : env.frame = some L) (hke : env.scope.kind = .function)
    (ho : K.lookup f = some ⟨oc, od, .func (fnOf name qual params body scope dV kV doc pm an cdv ct), osl⟩) (hcd : codeIn K cdv qual = true) (hroom : A.depth < recursionLimit)
    (hbind : BindsTo s (fnOf name qual params body scope dV kV doc pm an cdv ct) args binds) (hloc : ∀ y ∈ binds, scope.names.lookup y.1 = some .local)
    (h : ∀ g L' h₁, Fr h₀ L g m → Fr g L' h₁ (fun y => binds.reverse.lookup y) → News g L' h₁ news → Below A base [env] g → K.In g → Top p loose mean mg mb g → KtsDicts ([env].filterMap (·.frame)) g →
      wpAny (model prog w) (A.deeper (envOf qual scope L' f cdv)) (execs body (envOf qual scope L' f cdv))
        (fun fl s' => LeaveS0 ([env].filterMap (·.frame)) h₀ L m g R (match fl with | .ret v => v | _ => .none) s')
        (fun e s' => wpAny (model prog w) (A.deeper (envOf qual scope L' f cdv)) (leaving (envOf qual scope L' f cdv) e) (fun _ s'' => R (.error e) s'') (fun e' s'' => R (.error e') s'') s')
        { s with heap := h₁, toks := s.toks + binds.length })
    (hco : scope.isCoroutine = false) (hgen : scope.isGenerator = false) (hk : scope.kind = .function)
    (hcell : ∀ x ∈ scope.names, x.2 ≠ .cell) : codeAny (model prog w) A (.call (.ref f) args) R s := by
  have X := X₀.keeps F.keep
  obtain ⟨FG, BG, st, _⟩ := groundX (R := R) B F N hA hf hke
  refine codeAny_call_def (fd := fnOf name qual params body scope dV kV doc pm an cdv ct) (body := body) (binds := binds) hroom (X _ _ ho) rfl (T.nolimit.keeps F.keep) (codeRec_of X hcd) rfl hbind hcell hloc (fun h₁ hns hk₁ => ?_) hco hgen hk
  obtain ⟨oL, es, ep, hLg, hLd, hLk, hLf⟩ := FG.ns
  refine wpAny_mono (h _ s.heap.objs.size h₁ FG ⟨hns, fun b o e => hk₁ b o (of_hideAll _ e), Nat.le_of_eq (hideAll_size _ _)⟩
    (fun p hp => ⟨hk₁ _ _ (N p hp).1, Nat.ne_of_lt (Heap.lt_size (N p hp).1), hideAll_none _ (List.mem_map_of_mem hp)⟩) BG (X₀.keeps st) (T.keeps st) (fun b hb => by
      obtain rfl := mem_one hf hb
      exact ⟨oL, es, ep, hLg, hLd⟩)) (fun fl s' hl => ?_) fun _ _ y => y
  obtain ⟨g', L', m', news', T', F', N', k⟩ := hl
  have nL₀ : h₀.get? L = none := kts_self F
  obtain ⟨sl, hs⟩ := T'.up hLg
  refine k ⟨⟨_, es, ep, F'.keep _ _ hs, hLd, hLk, hLf⟩, fun b o e => F'.keep b o (T'.other b o (st b o e) (fun q => by
    have z := mem_one hf q
    rw [z, nL₀] at e
    cases e)), F.above⟩ fun p hp => ⟨(N' p hp).1, fun q => ?_, ?_⟩
  · have := (N' p hp).2.2; rw [q, hs] at this; cases this
  · cases q : h₀.get? p.1 with
    | none => rfl
    | some o =>
      obtain ⟨sl', hs'⟩ := T'.up (st _ _ q)
      have := (N' p hp).2.2
      rw [hs'] at this
      cases this
end
end Mine
end

section
open PySem PySem.Spec PySem.Calls PySem.W PyProof.Rows PyProof.V
set_option Elab.async false
set_option maxRecDepth 100000
namespace Mine
open PySem
/-- an own class of faults: which built-in words stand in its mro -/
structure FaultTail (B : String) (bm : List Value) : Prop where
  hasB : bm.contains (.type B) = true
  noAttr : bm.contains (.type "AttributeError") = false
  noName : bm.contains (.type "NameError") = false
section
variable {M : Model} {A : Around} {E : Value → Shared → Prop} {h : Heap} {g : Array GenState} {d : Drawn} {t : Nat} {os : OsState}
variable {nm q : Str} {C N : Addr} {bs bm bmB : List Value} {hdct : Bool} {sn : List Str} {sub : List Value} {ab : Bool} {col : Option Bool} {dd : Option Addr} {k0 k1 k2 k3 k5 : Option Value} {B newId initId : String}
theorem check_new_G (F : ExcBaseFacts B newId initId bmB) (T : FaultTail B bm) {rest : List Value} {Q : Unit → Shared → Prop} (hC : h.get? C = some (excClassObj nm q C N bs bm hdct sn sub ab col dd k0 k1 k2 k3 k5 newId))
    (hq : Q () ⟨h, g, d, t, os⟩) : wpAny M A (checkBuiltinCall newId ⟨.ref C :: rest, []⟩) Q E ⟨h, g, d, t, os⟩ := by
  have hcont : (Value.ref C :: bm).contains (.type B) = true := by rw [List.contains_cons, T.hasB, Bool.or_true]
  have hstar := F.noStar
  simp only [checkBuiltinCall, F.newKind, F.newSplit, F.newRow]
  repeat (first | refine wpAny_loadPart_at hC ?_ | (refine wpAny_isSubtype_exc hC ?_; rw [hcont]) | refine wpAny_staticBase_exc hC ?_ | refine wpAny_madeBy_exc hC ?_ | simp only [bne_self_eq_false, Bool.false_eq_true, if_false] | wp_step)
  exact hq
theorem check_init_G (F : ExcBaseFacts B newId initId bmB) (T : FaultTail B bm) {e : Addr} {oe : Obj} {rest : List Value} {Q : Unit → Shared → Prop}
    (hC : h.get? C = some (excClassObj nm q C N bs bm hdct sn sub ab col dd k0 k1 k2 k3 k5 newId)) (he : h.get? e = some oe) (hcls : oe.cls = .ref C) (hq : Q () ⟨h, g, d, t, os⟩) :
    wpAny M A (checkBuiltinCall initId ⟨.ref e :: rest, []⟩) Q E ⟨h, g, d, t, os⟩ := by
  have hcB : (Value.ref C :: bm).contains (.type B) = true := by rw [List.contains_cons, T.hasB, Bool.or_true]
  have hshort := F.noStar
  simp only [checkBuiltinCall, F.initKind, F.initSplit, F.initRow]
  repeat (first | (with_reducible refine wpAny_loadPart_at he ?_; rw [hcls]) | with_reducible refine wpAny_loadPart_at hC ?_ | (with_reducible refine wpAny_isSubtype_exc hC ?_; rw [hcB]) | wp_step)
  refine wpAny_onRaise ?_
  rw [show ∀ (a b : String) (n : Nat), Bind.check ⟨.positional, "*", B, .self, [⟨"args", .varPos, false⟩]⟩ a b n (List.map (fun x => x.fst) ({ pos := Value.ref e :: rest } : Args).kw) = pure () from
    fun a b n => check_star_args _ _ _ _ _ _]
  exact wpAny_pure hq
end
section
variable {prog : Program} {w : World} {A : Around} {R : Result → Shared → Prop} {E : Value → Shared → Prop} {h : Heap} {g : Array GenState} {d : Drawn} {t : Nat} {os : OsState}
variable {nm q : Str} {C N : Addr} {bs bm bmB : List Value} {hdct : Bool} {sn : List Str} {sub : List Value} {ab : Bool} {col : Option Bool} {dd : Option Addr} {k0 k1 k2 k3 k5 : Option Value} {B newId initId : String}
theorem exc_new_G (F : ExcBaseFacts B newId initId bmB) (T : FaultTail B bm) {rest : List Value} (hC : h.get? C = some (excClassObj nm q C N bs bm hdct sn sub ab col dd k0 k1 k2 k3 k5 newId))
    (hq : R (.ok (.ret (.ref (h.objs.size + 1)))) ⟨(h.push { cls := .type "tuple", data := .seq rest.toArray }).push
      { cls := .ref C, data := .fields #[.ref h.objs.size, .none, .none, .none, .bool false, .none] }, g, d, t, os⟩) (hrest : rest.length ≤ sizeLine) :
    codeAny (model prog w) A (.builtin newId ⟨.ref C :: rest, []⟩) R ⟨h, g, d, t, os⟩ := by
  have hends := F.ends
  have hcB : (Value.ref C :: bm).contains (.type B) = true := by rw [List.contains_cons, T.hasB, Bool.or_true]
  have hcA : (Value.ref C :: bm).contains (.type "AttributeError") = false := by rw [List.contains_cons, T.noAttr]; rfl
  have hcN : (Value.ref C :: bm).contains (.type "NameError") = false := by rw [List.contains_cons, T.noName]; rfl
  refine codeAny_builtinAt F.entry ?_
  unfold Builtin.«BaseException.__new__»
  refine PySem.wpAt_bind ?_
  show PySem.wpAt _ _ _ (stack >>= _) _ _ _
  refine PySem.wpAt_bind (PySem.wpAt_stack fun p below => PySem.wpAt_of_wpAny ?_)
  wp_walk
  refine PySem.wpAt_of_wpAny ?_
  rw [F.owner]
  repeat (first | with_reducible refine wpAny_madeHere_exc F.canon hC ?_ | with_reducible refine wpAny_loadPart_at hC ?_ | (with_reducible refine wpAny_isSubtype_exc hC ?_; first | rw [hcB] | rw [hcA] | rw [hcN]) | wp_step)
  show R _ _
  rw [Heap.size_push]
  exact hq
theorem type_call_G (F : ExcBaseFacts B newId initId bmB) (T : FaultTail B bm) {rest : List Value} {fI : Addr} {oI : Obj} {Q : Fin → Shared → Prop}
    (hC : h.get? C = some (excClassObj nm q C N bs bm hdct sn sub ab col dd k0 k1 k2 k3 k5 newId)) (hi : Looks (model prog w) h (typeLookup (.ref C) "__init__") (some (.ref fI)))
    (hfI : h.get? fI = some oI) (hfc : oI.cls = .type "function")
    (hq : ∀ h' e, Heap.MadeExcOf h h' e (.ref C) rest →
      wpAny (model prog w) A (call (.ref fI) (.ref e :: rest)) (fun r s' => r = .none ∧ Q (.done (.ret (.ref e))) s') E ⟨h', g, d, t, os⟩) (hrest : rest.length ≤ sizeLine) :
    wpAny (model prog w) A (Builtin.«type.__call__» ⟨.ref C :: rest, []⟩) Q E ⟨h, g, d, t, os⟩ := by
  repeat (first | with_reducible refine wpAny_loadPart_at hC ?_ | with_reducible refine wpAny_madeBy_exc hC ?_ | wp_step)
  refine codeAny_call_builtin_code (Code.quiet_builtin _ F.quiet) (check_new_G F T hC ?_)
  refine exc_new_G F T hC ?_ hrest
  show wpAny _ _ _ _ _ _
  have kp : ∀ b o, h.get? b = some o → ((h.push { cls := .type "tuple", data := .seq rest.toArray }).push { cls := .ref C, data := .fields #[.ref h.objs.size, .none, .none, .none, .bool false, .none] }).get? b = some o := fun b o e => Heap.get?_push_of_some _ (Heap.get?_push_of_some _ e)
  have hC₁ := kp _ _ hC
  have hfI₁ := kp _ _ hfI
  have hget : ((h.push { cls := .type "tuple", data := .seq rest.toArray }).push
      { cls := .ref C, data := .fields #[.ref h.objs.size, .none, .none, .none, .bool false, .none] }).get? (h.objs.size + 1) = some
      { cls := .ref C, data := .fields #[.ref h.objs.size, .none, .none, .none, .bool false, .none] } := by heap_get
  have hcC : (Value.ref C :: bm).contains (.ref C) = true := by simp
  unfold isInstance
  repeat (first | with_reducible refine wpAny_loadPart_at hget ?_ | (with_reducible refine wpAny_isSubtype_exc hC₁ ?_; rw [hcC]) | wp_step)
  show wpAny _ _ (typeLookup (.ref C) _) _ _ _
  refine hi _ _ _ _ kp ?_
  refine wpAny_holding (wpAny_bind ?_)
  unfold bindSpecial
  refine wpAny_bind (wpAny_typeOf (T := "function") ⟨_, hfI₁, hfc⟩ ?_)
  rw [if_pos (by decide)]
  refine wpAny_pure (wpAny_bind (wpAny_mono (hq _ (h.objs.size + 1) ⟨fun b o hb => Heap.get?_push_of_some _ (Heap.get?_push_of_some _ hb), Heap.get?_none_of_le (Nat.le_succ _), h.objs.size, hget, Heap.get?_none_of_le (Nat.le_refl _), ?_⟩) (fun r s' hr => ?_) fun _ _ x => x))
  · exact Heap.get?_push_of_some _ (Heap.get?_push_at rfl rfl)
  · obtain ⟨rfl, hQ⟩ := hr
    wp_walk
    exact hQ
/-- calling an own class of faults whose __init__ is anyone's in its mro -/
theorem call_exc_G (F : ExcBaseFacts B newId initId bmB) (T : FaultTail B bm) {rest : List Value} {fI : Addr} {oI : Obj} {Q : Value → Shared → Prop}
    (hC : h.get? C = some (excClassObj nm q C N bs bm hdct sn sub ab col dd k0 k1 k2 k3 k5 newId)) (hi : Looks (model prog w) h (typeLookup (.ref C) "__init__") (some (.ref fI)))
    (hfI : h.get? fI = some oI) (hfc : oI.cls = .type "function")
    (hq : ∀ h' e, Heap.MadeExcOf h h' e (.ref C) rest →
      wpAny (model prog w) (A.under (.builtin "type.__call__" ⟨.ref C :: rest, []⟩)) (call (.ref fI) (.ref e :: rest)) (fun r s' => r = .none ∧ Q (.ref e) s') E ⟨h', g, d, t, os⟩) (hrest : rest.length ≤ sizeLine) :
    wpAny (model prog w) A (call (.ref C) rest) Q E ⟨h, g, d, t, os⟩ := by
  have f1 := tc_lookup
  have f2 := PySem.tc_bind (.ref C)
  have hT : (⟨h, g, d, t, os⟩ : Shared).TypeIs (.ref C) "type" := ⟨_, hC, rfl⟩
  refine wpAny_call (codeAny_of_tree ?_)
  show wpAny _ _ (callAny (.ref C) _) _ _ _
  repeat (any_goals (first | assumption | with_reducible refine wpAny_loadPart_at hC ?_ | wp_step))
  refine ⟨rfl, ?_⟩
  refine codeAny_call_builtin_at (Code.quiet_builtin _ (by decide +kernel)) entry_typeCall (wpAny_check_type_call_sub hC (type_call_G (hrest := hrest) F T hC hi hfI hfc fun h' e hm => ?_))
  exact hq h' e hm
end
end Mine
end

section
open PySem PySem.Spec PySem.Calls PySem.W PyProof.Rows PyProof.V
set_option Elab.async false
set_option maxRecDepth 100000
namespace Mine
section
variable {M : Model} {A : Around} {E : Value → Shared → Prop} {env : Env}
variable {nm q : Str} {C N : Addr} {bs bm bmB : List Value} {hdct : Bool} {sn : List Str} {sub : List Value} {ab : Bool} {col : Option Bool} {dd : Option Addr} {k0 k1 k2 k3 k5 : Option Value} {B newId initId : String}
/-- raising a fault of an own class that has a dict of its own -/
theorem raiseStmt_made_G {s : Shared} {x : Sem Value} {Q : Flow → Shared → Prop} (hbase : bm.contains (.type "BaseException") = true) (hh : A.handled = none)
    (h : wpAny M A x (fun v s₁ => ∃ e o tp, v = .ref e ∧ s₁.heap.get? C = some (excClassObj nm q C N bs bm hdct sn sub ab col dd k0 k1 k2 k3 k5 newId) ∧
      s₁.heap.get? e = some o ∧ o.cls = .ref C ∧ o.data = .fields #[tp, .none, .none, .none, .bool false, .none] ∧ E (.ref e) s₁) E s) :
    wpAny M A (raiseStmt env (some x) none) Q E s := by
  have hcB : (Value.ref C :: bm).contains (.type "BaseException") = true := by rw [List.contains_cons, hbase, Bool.or_true]
  unfold raiseStmt
  refine wpAny_bind (wpAny_mono h (fun v s₁ h₁ => ?_) fun _ _ x => x)
  obtain ⟨e, o, tp, rfl, hC, he, hc, hd, hE⟩ := h₁
  obtain ⟨hp, g, d, tk, os⟩ := s₁
  obtain ⟨oc, od, odt, osl⟩ := o
  dsimp only at hc hd
  subst hc hd
  repeat (first | with_reducible refine wpAny_loadPart_at he ?_ | with_reducible refine wpAny_loadPart_at hC ?_ | (with_reducible refine wpAny_isSubtype_exc hC ?_; rw [hcB]) | wp_step)
  exact wpAny_raiseNew_none hh hE
end
section
variable {M : Model} {A : Around} {E : Value → Shared → Prop} {s' : Shared} {base g : Heap} {outer : List Env} {L a e : Addr} {m : Str → Option Value} {name : Str} {scope : Scope} {cd cls : Value} {Q : Unit → Shared → Prop} {news : List (Addr × Obj)} {oe : Obj}
/-- the frame of a raise is left: the fault may be of an own class -/
theorem leave_newG (K : Below A base outer g) (F : Fr g L s'.heap m) (N : News g L s'.heap ((e, oe) :: news)) (hne : ∀ q ∈ news, q.1 ≠ e) {tp : Value} (hc : oe.cls = cls) (hd : oe.data = .fields #[tp, .none, .none, .none, .bool false, .none])
    (hQ : ∀ h', RaisedSN base g outer e cls news h' → g.UpToSlots h' → Q () { s' with heap := h' }) (hk : scope.kind = .function := by rfl) :
    wpAny M (A.deeper (envOf name scope L a cd)) (leaving (envOf name scope L a cd) (.ref e)) Q E s' := by
  have Ne := N _ (.head _)
  have keepH : ∀ b o, (hideAll s'.heap [e]).get? b = some o → s'.heap.get? b = some o := fun b o q => of_hideAll _ q
  have newH : (hideAll s'.heap [e]).get? e = none := hideAll_none _ (.head _)
  have FH : Fr g L (hideAll s'.heap [e]) m := by
    obtain ⟨oL, es, ep, hL, r⟩ := F.ns
    refine ⟨⟨oL, es, ep, hideAll_get _ hL fun q => Ne.2.1 (List.mem_singleton.mp q).symm, r⟩, fun b o q => hideAll_get _ (F.keep b o q) fun z => ?_, F.above⟩
    rw [List.mem_singleton.mp z, Ne.2.2] at q; cases q
  have NH : News g L (hideAll s'.heap [e]) news := fun q hq => ⟨hideAll_get _ (N q (.tail _ hq)).1 fun z => hne q hq (List.mem_singleton.mp z), (N q (.tail _ hq)).2⟩
  generalize hideAll s'.heap [e] = h at *
  have K' := K.push (name := name) (a := a) (cd := cd) FH hk
  have hin : ∀ env ∈ (envOf name scope L a cd :: outer), ∀ b, env.frame = some b → b ∈ (envOf name scope L a cd :: outer).filterMap (·.frame) := fun env he b hb => List.mem_filterMap.mpr ⟨env, he, hb⟩
  have st : base.StaysIn (hideAll h ((envOf name scope L a cd :: outer).filterMap (·.frame))) := fun b o q => hideAll_get _ (K'.stays b o q) fun hm => by
    rw [(K'.frames.mem hm).1] at q; cases q
  have sg : ∀ b o, g.get? b = some o → b ∉ outer.filterMap (·.frame) → (hideAll h ((envOf name scope L a cd :: outer).filterMap (·.frame))).get? b = some o := fun b o q nm => hideAll_get _ (FH.keep b o q) fun hm => by
    rcases kts_mem hm with z | z
    · rw [z, kts_self FH] at q
      cases q
    · exact nm z
  have hl : ∀ q ∈ news, (hideAll h ((envOf name scope L a cd :: outer).filterMap (·.frame))).get? q.1 = some q.2 ∧ g.get? q.1 = none ∧ base.get? q.1 = none := fun q hq => by
    refine ⟨hideAll_get _ (NH q hq).1 fun hm => ?_, (NH q hq).2.2, fresh_of_stays K.stays (NH q hq).2.2⟩
    obtain ⟨env, he, hf⟩ := List.mem_filterMap.mp hm
    rcases List.mem_cons.mp he with rfl | he
    · exact (NH q hq).2.1 (Option.some.inj hf).symm
    · obtain ⟨o, ho, _⟩ := (K.frames.mem (List.mem_filterMap.mpr ⟨env, he, hf⟩)).2
      rw [(NH q hq).2.2] at ho; cases ho
  have hen : (hideAll h ((envOf name scope L a cd :: outer).filterMap (·.frame))).get? e = none := by
    cases q : (hideAll h ((envOf name scope L a cd :: outer).filterMap (·.frame))).get? e with
    | none => rfl
    | some o => have := of_hideAll _ q; rw [newH] at this; cases this
  refine wpAny_leaving_firstW (a0 := tp) K'.stack ((funFrames_hide K'.frames hin).of_keeps fun b o hb _ => ⟨o, keepH b o hb, rfl⟩) rfl Ne.1 (fun b o hb => keepH b o (of_hideAll _ hb)) hen hd rfl rfl fun h' hL => ?_
  obtain ⟨k1, ⟨_, _, k2⟩, k3, k4⟩ := hL
  exact hQ h' ⟨_, tp, st, sg, hl, k1, hen, k2, by rw [← hc]; exact k3⟩ ((Heap.UpToSlots.of_keeps F.keep).trans k4)
end
end Mine
end

section
open PySem PySem.Spec PySem.Calls PySem.W PyProof.Rows PyProof.V
set_option Elab.async false
set_option maxRecDepth 100000
namespace Mine
section
variable {prog : Program} {w : World} {A : Around} {E : Value → Shared → Prop} {h : Heap} {g : Array GenState} {d : Drawn} {t : Nat} {os : OsState}
variable {nm q : Str} {C N : Addr} {bs bm bmB : List Value} {hdct : Bool} {sn : List Str} {sub : List Value} {ab : Bool} {col : Option Bool} {dd : Option Addr} {k0 k1 k2 k3 k5 : Option Value} {B newId initId : String}
/-- the built-in __init__ of a fault -/
theorem call_init_G (F : ExcBaseFacts B newId initId bmB) (T : FaultTail B bm) {e t0 : Addr} {rest : List Value} {Q : Value → Shared → Prop}
    (hC : h.get? C = some (excClassObj nm q C N bs bm hdct sn sub ab col dd k0 k1 k2 k3 k5 newId)) (hget : h.get? e = some { cls := .ref C, data := .fields #[.ref t0, .none, .none, .none, .bool false, .none] }) (hrest : rest.length ≤ sizeLine)
    (hq : Q .none ⟨(h.push { cls := .type "tuple", data := .seq rest.toArray }).update e (Obj.mapFields fun x => x.setIfInBounds 0 (.ref h.objs.size)), g, d, t, os⟩) :
    wpAny (model prog w) A (call (.builtin initId) (.ref e :: rest)) Q E ⟨h, g, d, t, os⟩ := by
  refine wpAny_call (codeAny_call_builtin F.init.plain F.initEntry (check_init_G F T hC hget rfl ?_))
  wp_walk
  exact hq
end
section
variable {prog : Program} {w : World} {A : Around} {E : Value → Shared → Prop} {s : Shared} {h₀ : Heap} {L : Addr} {m : Str → Option Value} {news : List (Addr × Obj)}
variable {nm q : Str} {C N' : Addr} {bs bm bmB : List Value} {hdct : Bool} {sn : List Str} {sub : List Value} {ab : Bool} {col : Option Bool} {dd : Option Addr} {k0 k1 k2 k3 k5 : Option Value} {B newId initId : String}
abbrev faultObj (C t : Addr) : Obj := { cls := .ref C, data := .fields #[.ref t, .none, .none, .none, .bool false, .none] }
theorem init_led (FE : ExcBaseFacts B newId initId bmB) (T : FaultTail B bm) {e t0 : Addr} {rest : List Value} {Q : Value → Shared → Prop}
    (F : Fr h₀ L s.heap m) (N : News h₀ L s.heap ((e, faultObj C t0) :: news)) (hne : ∀ q ∈ news, q.1 ≠ e)
    (hC : s.heap.get? C = some (excClassObj nm q C N' bs bm hdct sn sub ab col dd k0 k1 k2 k3 k5 newId)) (hrest : rest.length ≤ sizeLine)
    (hq : ∀ h' t, Fr h₀ L h' m → News h₀ L h' ((e, faultObj C t) :: (t, { cls := .type "tuple", data := .seq rest.toArray }) :: news) → t ≠ e → (∀ q ∈ news, q.1 < t) → Q .none { s with heap := h' }) :
    wpAny (model prog w) A (call (.builtin initId) (.ref e :: rest)) Q E s := by
  obtain ⟨hh, g, d, tk, os⟩ := s
  refine call_init_G FE T hC (N _ (.head _)).1 hrest ?_
  have F1 := F.push { cls := .type "tuple", data := .seq rest.toArray }
  have N1 := N.push F { cls := .type "tuple", data := .seq rest.toArray }
  have lte : e < hh.objs.size := Heap.lt_size (N _ (.head _)).1
  obtain ⟨U1, U2⟩ := news_upd (pre := [(hh.objs.size, { cls := .type "tuple", data := .seq rest.toArray })]) (post := news) (o' := faultObj C hh.objs.size) (f := Obj.mapFields fun x => x.setIfInBounds 0 (.ref hh.objs.size)) F1 N1
    (fun p hp => by obtain rfl := List.mem_singleton.mp hp; exact Nat.ne_of_gt lte) hne rfl rfl
  refine hq _ hh.objs.size U1 (fun p hp => U2 p ?_) (Nat.ne_of_gt lte) (fun p hp => Heap.lt_size (N p (.tail _ hp)).1)
  simp only [List.mem_cons, List.cons_append, List.nil_append] at hp ⊢
  rcases hp with h | h | h <;> simp [h]
end
section
open Builtin Builtin.ObjectAttr
variable {prog : Program} {w : World} {A : Around} {E : Value → Shared → Prop} {h : Heap} {g : Array GenState} {d : Drawn} {t : Nat} {os : OsState}
variable {nm q : Str} {C N x : Addr} {bs bm bmB : List Value} {sn : List Str} {sub : List Value} {ab : Bool} {col : Option Bool} {dd : Option Addr} {k0 k1 k2 k3 k5 : Option Value} {B newId sa owner : String}
  {mA : Str → Option Value} {name : Str} {v : Value}
theorem check_sa_G {M : Model} {o : Obj} {nameV : Value} {Q : Unit → Shared → Prop} (SF : StoreFacts B bmB sa owner) (hown : bm.contains (.type owner) = true)
    (hC : h.get? C = some (excClassObj nm q C N bs bm true sn sub ab col dd k0 k1 k2 k3 k5 newId)) (hx : h.get? x = some o) (hc : o.cls = .ref C) (hq : Q () ⟨h, g, d, t, os⟩) :
    wpAny M A (checkBuiltinCall sa ⟨[.ref x, nameV, v], []⟩) Q E ⟨h, g, d, t, os⟩ := by
  have hcB : (Value.ref C :: bm).contains (.type owner) = true := by rw [List.contains_cons, hown, Bool.or_true]
  have ha := SF.args (.ref x) nameV v
  simp only [checkBuiltinCall, SF.kind, SF.split]
  refine wpAny_bind ?_
  · unfold isInstance
    repeat (first | (with_reducible refine wpAny_loadPart_at hx ?_; rw [hc]) | (with_reducible refine wpAny_isSubtype_exc hC ?_; rw [hcB]) | wp_step)
    cases hsig : Manifest.signature? sa with
    | none => exact wpAny_pure hq
    | some sig =>
      simp only [argsOk, hsig] at ha
      have h2 : Bind.checkArgs sa sig ⟨[.ref x, nameV, v], []⟩ = pure () := ha
      show wpAny M A (Bind.checkArgs sa sig ⟨[.ref x, nameV, v], []⟩) Q E _
      rw [h2]; exact wpAny_pure hq
theorem store_entry_G {tk : Tok} {Q : Fin → Shared → Prop} {ns : List Str} (hpass : refuseLoop (.ref x) "__setattr__" bm = pure ())
    (hC : h.get? C = some (excClassObj nm q C N bs bm true sn sub ab col dd k0 k1 k2 k3 k5 newId)) (hlk : Looks (model prog w) h (typeLookup (.ref C) name) none) (I : h.Inst x C mA)
    (hq : ∀ h' tk', h'.Inst x C (fun y => if y = name then some v else mA y) →
      (∀ b o, b ≠ x → (∀ o₀ dx, h.get? x = some o₀ → o₀.dict = some dx → b ≠ dx) → h.get? b = some o → h'.get? b = some o) →
      (∀ o₀, h.get? x = some o₀ → ∃ o₁ dx, h'.get? x = some o₁ ∧ o₁.cls = o₀.cls ∧ o₁.data = o₀.data ∧ o₁.dict = some dx ∧ (o₀.dict = some dx ∨ h.get? dx = none)) → Q (.done (.ret .none)) ⟨h', g, d, tk', os⟩) (hw : Within mA ns) (hsz : ns.length ≤ 100) :
    wpAny (model prog w) A (Builtin.«object.__setattr__» ⟨[.ref x, .str name tk, v], []⟩) Q E ⟨h, g, d, t, os⟩ := by
  obtain ⟨o, hx, hc, hnc, hd⟩ := I
  unfold Builtin.«object.__setattr__»
  repeat (first | rw [refuse_eq] | (rw [refuseLoop_ref, hpass]) | (with_reducible refine wpAny_loadPart_at hx ?_; rw [hc]) | with_reducible refine wpAny_mroOf_exc hC ?_ | (with_reducible refine hlk.here ?_) | wp_step)
  rcases hd with ⟨hdn, hmA⟩ | ⟨dx, hdx, hne, hns⟩
  ·
    rw [hdn, if_neg (by simp [typeHasDict])]
    split
    · rename_i hcd
      cases hcd
    split
    · rename_i c hcd
      exact absurd hcd (hnc c)
    · have hx₁ : (h.push { cls := .type "dict", data := .dict #[] }).get? x = some o := Heap.get?_push_of_some _ hx
      have hxs : x ≠ h.objs.size := Nat.ne_of_lt (Heap.lt_size hx)
      refine wpAny_bind (wpAny_alloc' ?_)
      refine wpAny_bind (wpAny_update' hx₁ ?_)
      refine wpAny_pure ?_
      have hgd : ((h.push { cls := .type "dict", data := .dict #[] }).update x fun o => { cls := o.cls, dict := some h.objs.size, data := o.data, slots := o.slots }).get? h.objs.size
          = some { cls := .type "dict", data := .dict #[] } :=
        (Heap.get?_update_ne _ _ _ _ hxs.symm).trans (Heap.get?_push_at rfl rfl)
      have hnd : ((h.push { cls := .type "dict", data := .dict #[] }).update x fun o => { cls := o.cls, dict := some h.objs.size, data := o.data, slots := o.slots }).Ns h.objs.size (fun _ => none) :=
        ⟨_, #[], _, hgd, rfl, fun e he => absurd he (by simp), fun _ => rfl⟩
      show wpAny _ _ (storeInDict h.objs.size (.str name tk) name v) _ _ _
      unfold storeInDict newKeyGuard
      refine wpAny_bind (wpAny_pure (wpAny_bind (wpAny_nsSet1 (Heap.Ns1.of_empty hnd) fun h' hn' hs => ?_)))
      obtain ⟨oD, esD, epD, hoD, hdD, hcD⟩ := hn'.count (Within.cons name v Within.nil)
      refine wpAny_bind (wpAny_lookBehind hoD (by rw [hdD]; exact pastItsLine_dict (Nat.le_trans hcD (by rw [List.length_cons, List.length_nil, sizeLine_eq]; omega))) ?_)
      wp_walk
      have hx' : h'.get? x = some { cls := o.cls, dict := some h.objs.size, data := o.data, slots := o.slots } := ?_
      refine hq h' _ ⟨{ cls := o.cls, dict := some h.objs.size, data := o.data, slots := o.slots }, hx', hc, hnc, .inr ⟨h.objs.size, rfl, hxs.symm, ?_⟩⟩ (fun b ob hbx _ hb => ?_)
        (fun o₀ h₀ => by obtain rfl : o = o₀ := Option.some.inj (hx.symm.trans h₀); exact ⟨_, _, hx', rfl, rfl, rfl, .inr (Heap.get?_none_of_le (Nat.le_refl _))⟩)
      · obtain ⟨o', es, ep, e1, e2, e3, eu, e4⟩ := hn'
        exact ⟨o', es, ep, e1, e2, e3, eu, fun y => by rw [e4 y]; by_cases hy : y = name <;> simp [hy, hmA]⟩
      · exact (hs.2 b (Nat.ne_of_lt (Heap.lt_size hb))).trans ((Heap.get?_update_ne _ _ _ _ hbx).trans (Heap.get?_push_of_some _ hb))
      · refine (hs.2 x hxs).trans (Heap.get?_update_self _ hx₁ ?_)
        have hfr := (Heap.get?_some_iff.mp hx).2
        obtain ⟨oc, od, odt, osl⟩ := o
        cases odt <;> first | rfl | exact hfr
  ·
    rw [hdx]
    refine wpAny_pure ?_
    show wpAny _ _ (storeInDict dx (.str name tk) name v) _ _ _
    unfold storeInDict newKeyGuard
    refine wpAny_bind (wpAny_pure (wpAny_bind (wpAny_nsSet1 hns fun h' hn' hs => ?_)))
    obtain ⟨oD, esD, epD, hoD, hdD, hcD⟩ := hn'.count (Within.cons name v hw)
    refine wpAny_bind (wpAny_lookBehind hoD (by rw [hdD]; exact pastItsLine_dict (Nat.le_trans hcD (by rw [List.length_cons, sizeLine_eq]; omega))) ?_)
    wp_walk
    refine hq h' _ ⟨o, (hs.2 x hne.symm).trans hx, hc, hnc, .inr ⟨dx, hdx, hne, hn'⟩⟩ (fun b ob _ hbd hb => ?_)
      (fun o₀ h₀ => ⟨o₀, dx, (hs.2 x hne.symm).trans h₀, rfl, rfl, by rw [← Option.some.inj (hx.symm.trans h₀)]; exact hdx, .inl (by rw [← Option.some.inj (hx.symm.trans h₀)]; exact hdx)⟩)
    exact (hs.2 b (hbd o dx hx hdx)).trans hb
theorem store_attr_G {Q : Unit → Shared → Prop} {ns : List Str} (SF : StoreFacts B bmB sa owner) (hown : bm.contains (.type owner) = true) (hpass : refuseLoop (.ref x) "__setattr__" bm = pure ())
    (hC : h.get? C = some (excClassObj nm q C N bs bm true sn sub ab col dd k0 k1 k2 k3 k5 newId)) (hls : Looks (model prog w) h (typeLookup (.ref C) "__setattr__") (some (.builtin sa))) (hlk : Looks (model prog w) h (typeLookup (.ref C) name) none) (I : h.Inst x C mA)
    (hq : ∀ h' tk', h'.Inst x C (fun y => if y = name then some v else mA y) →
      (∀ b o, b ≠ x → (∀ o₀ dx, h.get? x = some o₀ → o₀.dict = some dx → b ≠ dx) → h.get? b = some o → h'.get? b = some o) →
      (∀ o₀, h.get? x = some o₀ → ∃ o₁ dx, h'.get? x = some o₁ ∧ o₁.cls = o₀.cls ∧ o₁.data = o₀.data ∧ o₁.dict = some dx ∧ (o₀.dict = some dx ∨ h.get? dx = none)) → Q () ⟨h', g, d, tk', os⟩) (hw : Within mA ns) (hsz : ns.length ≤ 100) (he : Builtin.«object.__setattr__» = Builtin.«object.__setattr__» := by rfl) :
    wpAny (model prog w) A (setAttr (.ref x) name v) Q E ⟨h, g, d, t, os⟩ := by
  obtain ⟨o, hx, hc, _⟩ := id I
  have f3 := SF.slot.bind (.ref x)
  unfold setAttr callSpecial? specialOf
  repeat (any_goals (first | assumption | (with_reducible refine wpAny_loadPart_at hx ?_; rw [hc]) | (with_reducible refine hls.here ?_) | wp_step))
  refine codeAny_call_builtin SF.slot.plain SF.entry (check_sa_G SF hown hC hx hc (store_entry_G hpass hC hlk I (fun h' tk' I' hk hsame => ?_) hw hsz))
  repeat (any_goals (first | assumption | wp_step))
  exact hq h' tk' I' hk hsame
end
end Mine
end

section
open PySem PySem.Spec PySem.Calls PySem.W PyProof.Rows PyProof.V
set_option Elab.async false
set_option maxRecDepth 100000
namespace Mine
/-- the dict of an object lies apart from the frame, from what lay there and from the ledger -/
def DictOff (h₀ : Heap) (L : Addr) (news : List (Addr × Obj)) (o : Obj) : Prop :=
  ∀ dx, o.dict = some dx → dx ≠ L ∧ h₀.get? dx = none ∧ ∀ q ∈ news, q.1 ≠ dx
theorem DictOff.of_none {h₀ : Heap} {L : Addr} {news : List (Addr × Obj)} {o : Obj} (h : o.dict = none) : DictOff h₀ L news o := fun dx e => by rw [h] at e; cases e
section
variable {prog : Program} {w : World} {A : Around} {E : Value → Shared → Prop} {s : Shared} {h₀ : Heap} {L : Addr} {m : Str → Option Value} {news : List (Addr × Obj)}
variable {nm q : Str} {C N' x : Addr} {bs bm bmB : List Value} {sn : List Str} {sub : List Value} {ab : Bool} {col : Option Bool} {dd : Option Addr} {k0 k1 k2 k3 k5 : Option Value} {B newId sa owner : String} {mA : Str → Option Value} {name : Str} {v : Value} {o : Obj}
/-- a field is stored on the fault in the ledger -/
theorem fault_store {Q : Unit → Shared → Prop} {ns : List Str} (SF : StoreFacts B bmB sa owner) (hown : bm.contains (.type owner) = true) (hpass : refuseLoop (.ref x) "__setattr__" bm = pure ())
    (F : Fr h₀ L s.heap m) (Nx : News h₀ L s.heap ((x, o) :: news)) (hne : ∀ q ∈ news, q.1 ≠ x) (I : s.heap.Inst x C mA) (hD : DictOff h₀ L news o)
    (hC : s.heap.get? C = some (excClassObj nm q C N' bs bm true sn sub ab col dd k0 k1 k2 k3 k5 newId)) (hls : Looks (model prog w) s.heap (typeLookup (.ref C) "__setattr__") (some (.builtin sa))) (hlk : Looks (model prog w) s.heap (typeLookup (.ref C) name) none)
    (h : ∀ h' tk o', Fr h₀ L h' m → News h₀ L h' ((x, o') :: news) → h'.Inst x C (fun y => if y = name then some v else mA y) → o'.cls = o.cls → o'.data = o.data → DictOff h₀ L news o' → Q () { s with heap := h', toks := tk })
    (hw : Within mA ns) (hsz : ns.length ≤ 100) : wpAny (model prog w) A (setAttr (.ref x) name v) Q E s := by
  obtain ⟨hh, g, d, t, os⟩ := s
  have Hx := Nx _ (.head _)
  refine store_attr_G SF hown hpass hC hls hlk I (fun h' tk' I' hk hsame => ?_) hw hsz
  obtain ⟨o', dx, hx', c', d', e', f'⟩ := hsame o Hx.1
  have kk : ∀ b ob, b ≠ x → (∀ dx, o.dict = some dx → b ≠ dx) → hh.get? b = some ob → h'.get? b = some ob := fun b ob h1 h2 e => hk b ob h1 (fun o₀ dx e0 hd => by
    obtain rfl : o = o₀ := Option.some.inj (Hx.1.symm.trans e0); exact h2 dx hd) e
  obtain ⟨oL, es, ep, eL, rL⟩ := F.ns
  have F' : Fr h₀ L h' m := ⟨⟨oL, es, ep, kk L oL Hx.2.1.symm (fun dx hd => (hD dx hd).1.symm) eL, rL⟩, fun b ob e => kk b ob (by rintro rfl; have := Hx.2.2; rw [this] at e; cases e) (fun dx hd z => by rw [z, (hD dx hd).2.1] at e; cases e) (F.keep b ob e), F.above⟩
  refine h h' tk' o' F' (fun p hp => ?_) I' c' d' fun dx₁ e₁ => ?_
  · rcases List.mem_cons.mp hp with rfl | hp
    · exact ⟨hx', Hx.2⟩
    · exact ⟨kk p.1 p.2 (hne p hp) (fun dx hd => (hD dx hd).2.2 p hp) (Nx p (.tail _ hp)).1, (Nx p (.tail _ hp)).2⟩
  · obtain rfl : dx = dx₁ := Option.some.inj (e'.symm.trans e₁)
    rcases f' with f' | f'
    · exact hD _ f'
    · refine ⟨fun z => ?_, ?_, fun p hp z => ?_⟩
      · rw [z] at f'; have : hh.get? L = some oL := eL; rw [f'] at this; cases this
      · cases q : h₀.get? dx with
        | none => rfl
        | some ob => have := F.keep _ _ q; rw [show hh.get? dx = none from f'] at this; cases this
      · have := (Nx p (.tail _ hp)).1; rw [z, show hh.get? dx = none from f'] at this; cases this
end
end Mine
end

section
open PySem PySem.Spec PySem.Calls PySem.W PyProof.Rows PyProof.V
set_option Elab.async false
set_option maxRecDepth 100000
set_option maxHeartbeats 4000000
namespace Mine
local macro_rules | `(tactic| k_mem) => `(tactic| (refine memOf ?_; ktr_member))
local macro_rules | `(tactic| walk_at "setAttr ref") => `(tactic| (k_here; refine stop_ ?_))
theorem init_ {w : World} {news : Led} {e t0 : Addr} {what : Str} {u : Tok} (hne : ∀ q ∈ news, q.1 ≠ e) :
   Does w 30 3 ((e, faultObj 53 t0) :: news) [.ref e, .str what u] (fun news' r => r = .none ∧ ∃ o' news'' tp, news' = (e, o') :: news'' ∧ o'.cls = .ref 53 ∧ o'.data = .fields #[tp, .none, .none, .none, .bool false, .none] ∧ Sub news news'' ∧ ∀ q ∈ news'', q.1 ≠ e) := by
  unfold Does; k_fill
  intro p loose mean mg mb dp un gd cn cs a ccd cl outer A₀ base h₀ L m s Q E B F X N T hkf hd hu hret
  refine wpAny_call ?_
  k_dflt (refine' code_def ?k1 ?k2 ?k3 ?k4 ?k5 ?kA ?kF ?kK ?k6 ?k7 ?k8 ?k9 ?kB ?_ ?c2 ?c3 ?c4 ?c5; (case kA => exact rfl); (case kF => exact rfl); (case kK => assumption); (case k1 => k_asm); (case k2 => k_asm); (case k3 => k_asm); (case k4 => k_asm); (case k5 => k_asm); (case k6 => k_is); (case k7 => k_is); (case k8 => ktr_room); (case k9 => exact binds_K (by k_in) rfl (by k_is) rfl rfl rfl); (case c5 => decide); (case kB => exact locs rfl); (case c2 => exact rfl); (case c3 => exact rfl); (case c4 => exact rfl); k_whole; intro g' L' h' FG' F' N' B' X' T'; (try dsimp only); (try k_fold))
  k_steps
  refine method_type (T := "Exception") (v := .builtin "Exception.__init__") (by k_asm) (by k_asm) ?t (by decide +kernel) ?e (by decide +kernel) ?_
  case t => rfl
  case e => k_is
  k_steps
  have hC53 := X 53 _ (by k_dflt k_is)
  refine init_led PySem.F.excBase_Exception (bm := [  .ref 40, .type "Exception", .type "BaseException", .type "object"]) ⟨by decide +kernel, by decide +kernel, by decide +kernel⟩ (by k_asm) (by k_asm) hne (Fr.keep (by k_asm) _ _ (Fr.keep (by k_asm) _ _ hC53)) (by show 1 ≤ sizeLine; rw [sizeLine_eq]; omega) ?_
  intro h2 t2 F2 N2 hte hlt
  have hne2 : ∀ q ∈ (t2, { cls := .type "tuple", data := .seq #[.str what u] }) :: news, q.1 ≠ e := fun q hq => by
    rcases List.mem_cons.mp hq with rfl | hq
    · exact hte
    · exact hne q hq
  (try dsimp only)
  k_steps
  refine fault_store (ns := []) (mA := fun _ => none) PySem.F.store_Exception (by decide +kernel) (by rw [refuseLoop_ref]; exact PySem.F.store_Exception.passes _) (by k_asm) N2 hne2 ⟨_, (N2 _ (.head _)).1, rfl, fun c => (by intro z; cases z), .inl ⟨rfl, fun _ => rfl⟩⟩ (DictOff.of_none rfl) (Fr.keep (by k_asm) _ _ (Fr.keep (by k_asm) _ _ hC53)) (looks_findIn (Frag.In.keeps (by k_asm) (Fr.keep (by k_asm))) (by k_is)) (looks_findIn (Frag.In.keeps (by k_asm) (Fr.keep (by k_asm))) (by k_is)) ?_ Within.nil (by decide)
  intro h3 tk3 o3 F3 N3 I3 c3 d3 D3
  (try dsimp only)
  k_steps
  refine fault_store (ns := ["what"]) (mA := _) PySem.F.store_Exception (by decide +kernel) (by rw [refuseLoop_ref]; exact PySem.F.store_Exception.passes _) (by k_asm) N3 hne2 I3 D3 (Fr.keep (by k_asm) _ _ (Fr.keep (by k_asm) _ _ hC53)) (looks_findIn (Frag.In.keeps (by k_asm) (Fr.keep (by k_asm))) (by k_is)) (looks_findIn (Frag.In.keeps (by k_asm) (Fr.keep (by k_asm))) (by k_is)) ?_ (Within.cons _ _ Within.nil) (by decide)
  intro h4 tk4 o4 F4 N4 I4 c4 d4 D4
  (try dsimp only)
  k_steps
  exact hret _ _ _ _ (by k_asm) (by k_asm) ⟨rfl, _, _, _, rfl, c4.trans c3, d4.trans d3, fun q hq => List.Mem.tail _ hq, hne2⟩
end Mine
end

section
open PySem PySem.Spec PySem.Calls PySem.W PyProof.Rows PyProof.V
set_option Elab.async false
set_option maxRecDepth 100000
namespace Mine
section
variable {prog : Program} {w : World} {A : Around} {E : Value → Shared → Prop} {s : Shared} {env : Env}
variable {nm q : Str} {C N : Addr} {bs bm bmB : List Value} {hdct : Bool} {sn : List Str} {sub : List Value} {ab : Bool} {col : Option Bool} {dd : Option Addr} {k0 k1 k2 k3 k5 : Option Value} {B newId initId : String}
/-- raise C(..) where C's base has an __init__ of its own -/
theorem Raise_call_G {x : Str} {np cpos pos : Pos} {args : List Expr} {fI : Addr} {Q : Flow → Shared → Prop} (F : ExcBaseFacts B newId initId bmB) (T : FaultTail B bm) {hh₀ : Heap} (_ : hh₀.get? C = some (excClassObj nm q C N bs bm hdct sn sub ab col dd k0 k1 k2 k3 k5 newId)) {oI : Obj} (_ : hh₀.get? fI = some oI) (hfc : oI.cls = .type "function")
    (hbase : bm.contains (.type "BaseException") = true) (hh : A.handled = none) (hplain : (backTo cpos (starEach args env)).any (·.1) = false)
    (h : wpAny (model prog w) A (eval (.Name x np) env) (fun f s₁ => f = .ref C ∧ wpAny (model prog w) A (evalArgs (.ref C) true (backTo cpos (starEach args env)) [])
      (fun a s₂ => a.kw = [] ∧ a.pos.length ≤ sizeLine ∧ s₂.heap.get? C = some (excClassObj nm q C N bs bm hdct sn sub ab col dd k0 k1 k2 k3 k5 newId) ∧ Looks (model prog w) s₂.heap (typeLookup (.ref C) "__init__") (some (.ref fI)) ∧ s₂.heap.get? fI = some oI ∧
        ∀ h' e, Heap.MadeExcOf s₂.heap h' e (.ref C) a.pos → wpAny (model prog w) (A.under (.builtin "type.__call__" ⟨.ref C :: a.pos, []⟩)) (call (.ref fI) (.ref e :: a.pos))
          (fun r s' => r = .none ∧ ∃ o tp, s'.heap.get? C = some (excClassObj nm q C N bs bm hdct sn sub ab col dd k0 k1 k2 k3 k5 newId) ∧ s'.heap.get? e = some o ∧ o.cls = .ref C ∧ o.data = .fields #[tp, .none, .none, .none, .bool false, .none] ∧ E (.ref e) s') E { s₂ with heap := h' }) E s₁) E s) :
    wpAny (model prog w) A (exec (.Raise (some (.Call (.Name x np) args [] cpos)) none pos) env) Q E s := by
  rw [arm_exec_Raise]
  refine wpAny_bind (wpAny_standAt (raiseStmt_made_G (C := C) (nm := nm) (q := q) (N := N) (bs := bs) (bm := bm) (hdct := hdct) (sn := sn) (sub := sub) (ab := ab) (col := col) (dd := dd) (k0 := k0) (k1 := k1) (k2 := k2) (k3 := k3) (k5 := k5) (newId := newId) hbase hh ?_))
  refine wpAny_bind (wpAny_mono (wpAny_Call_ofName (wpAny_mono h (fun f s₁ h₁ => ?_) fun _ _ x => x)) (fun v s₃ h₃ => wpAny_bind (wpAny_standAt (wpAny_pure h₃))) fun _ _ x => x)
  obtain ⟨rfl, h₁⟩ := h₁
  unfold callWith
  refine wpAny_bind (wpAny_holding (wpAny_mono h₁ (fun a s₂ h₂ => wpAny_bind (wpAny_standAt ?_)) fun _ _ x => x))
  obtain ⟨apos, akw⟩ := a
  obtain ⟨hkw, hlen, hC, hi, hoI, h₂⟩ := h₂
  obtain rfl : akw = [] := hkw
  obtain ⟨hp, g, d, tk, os⟩ := s₂
  simp only [hplain]
  refine wpAny_bind (wpAny_keeperOf_exc hC ?_)
  refine wpAny_bind (call_exc_G (hrest := hlen) F T hC hi hoI hfc fun h' e hm => wpAny_mono (h₂ h' e hm) (fun r s' hr => ⟨hr.1, wpAny_bind (wpAny_holding (wpAny_point (wpAny_pure ?_)))⟩) fun _ _ x => x)
  obtain ⟨_, o, tp, hC', he, hc, hd, hE⟩ := hr
  exact ⟨e, o, tp, rfl, hC', he, hc, hd, hE⟩
end
section
variable {h h₀ : Heap} {L : Addr} {m : Str → Option Value} {news : List (Addr × Obj)}
/-- a new fault enters the ledger -/
theorem made_led {h' : Heap} {e C : Addr} {args : List Value} (F : Fr h₀ L h m) (N : News h₀ L h news) (M : Heap.MadeExcOf h h' e (.ref C) args) :
    ∃ t, Fr h₀ L h' m ∧ News h₀ L h' ((e, faultObj C t) :: news) ∧ ∀ q ∈ news, q.1 ≠ e := by
  obtain ⟨k, n, t, he, _, _⟩ := M
  obtain ⟨oL, es, ep, eL, rL⟩ := F.ns
  refine ⟨t, ⟨⟨oL, es, ep, k _ _ eL, rL⟩, fun b o z => k _ _ (F.keep _ _ z), F.above⟩, fun p hp => ?_, fun q hq z => ?_⟩
  · rcases List.mem_cons.mp hp with rfl | hp
    · refine ⟨he, fun z => ?_, ?_⟩
      · have : h.get? L = some oL := eL
        rw [← (show e = L from z), n] at this; cases this
      · cases y : h₀.get? e with
        | none => rfl
        | some o => have := F.keep _ _ y; rw [n] at this; cases this
    · exact ⟨k _ _ (N p hp).1, (N p hp).2⟩
  · have := (N q hq).1; rw [z, n] at this; cases this
end
end Mine
end

section
open PySem PySem.Spec PySem.Calls PySem.W PyProof.Rows PyProof.V
set_option Elab.async false
set_option maxRecDepth 100000
set_option maxHeartbeats 4000000
namespace Mine
local macro_rules | `(tactic| k_mem) => `(tactic| (refine memOf ?_; ktr_member))
theorem tc_weight (C : Addr) (vs : List Value) : (Code.builtin "type.__call__" (Args.mk (.ref C :: vs) [])).weight = 1 := by rfl
theorem tc_units (C : Addr) (vs : List Value) : (Code.builtin "type.__call__" (Args.mk (.ref C :: vs) [])).cUnits = 1 := by rfl
/-- a contract for a def called from the lowest frame -/
def DoesTop (w : World) (f : Addr) (d : Nat) (news : Led) (vs : List Value) (Post : Led → Value → Prop) : Prop :=
  ∀ (p : Program) (loose : List Str) (mean : ExcName → Option Value) (mg mb : Str → Option Value) (dp un : Nat) (gd : Option (List Code)) (cn : Str) (cs : Scope) (a : Addr) (ccd : Value) (cl : List (Str × Addr)) (A₀ : Around) (base h₀ : Heap) (L : Addr) (m : Str → Option Value) (s : Shared) (Q E : Value → Shared → Prop),
    Below A₀ base [] h₀ → Fr h₀ L s.heap m → (hd.heap_39 w.params).In h₀ → News h₀ L s.heap news → Top p loose mean mg mb h₀ → (hd.heap_39 w.params).In base → Top p loose mean mg mb base → cs.kind = .function → dp + d < recursionLimit → un + 100 * d < cLine →
    (∀ r news' h' tk', Fr h₀ L h' m → News h₀ L h' news' → Post news' r → Q r { s with heap := h', toks := tk' }) →
    wpAny (model PySem.Challenge.rw_og0070_01.row.prog w) (ktrTop dp un gd cn cs L a ccd cl []) (call (.ref f) vs) Q E s
theorem DoesTop.use {w : World} {f : Addr} {d : Nat} {news : Led} {vs : List Value} {Post : Led → Value → Prop} (C : DoesTop w f d news vs Post) {p : Program} {loose : List Str} {mean : ExcName → Option Value} {mg mb : Str → Option Value} {dp un : Nat} {gd : Option (List Code)} {cn : Str} {cs : Scope} {a : Addr} {ccd : Value} {cl : List (Str × Addr)} {A₀ : Around} {base h₀ : Heap} {L : Addr} {m : Str → Option Value} {s : Shared} {Q E : Value → Shared → Prop}
    (B : Below A₀ base [] h₀) (F : Fr h₀ L s.heap m) (X : (hd.heap_39 w.params).In h₀) (N : News h₀ L s.heap news) (T : Top p loose mean mg mb h₀) (X0 : (hd.heap_39 w.params).In base) (T0 : Top p loose mean mg mb base) (hk : cs.kind = .function) (hd : dp + d < recursionLimit) (hu : un + 100 * d < cLine)
    (ret : ∀ r news' h' tk', Fr h₀ L h' m → News h₀ L h' news' → Post news' r → Q r { s with heap := h', toks := tk' }) :
    wpAny (model PySem.Challenge.rw_og0070_01.row.prog w) (ktrTop dp un gd cn cs L a ccd cl []) (call (.ref f) vs) Q E s := C p loose mean mg mb dp un gd cn cs a ccd cl A₀ base h₀ L m s Q E B F X N T X0 T0 hk hd hu ret
local macro_rules | `(tactic| walk_at "exec Raise some none") => `(tactic| (k_here; refine stop_ ?_))
theorem law_is_refused_ {w : World} {news : Led} {x dx D : Addr} {t : Tok} (S : ShelfAt w.params news x dx D) (H : NotAt w news D (Str.ofString "f")) :
   DoesTop w 208 8 news [.ref x, .str (Str.ofString "f") t] (fun news' r => r = .bool true ∧ Sub news news') := by
  unfold DoesTop; k_fill
  intro p loose mean mg mb dp un gd cn cs a ccd cl A₀ base h₀ L m s Q E B F X N T0 X0 TB hkf hd hu hret
  have S' := S
  obtain ⟨hx, _, _, hdx⟩ := S
  obtain ⟨⟨o, kvs, hD, hk, hf⟩, lo⟩ := H
  refine wpAny_call ?_
  k_dflt (refine' code_defSX ?k1 ?k2 ?kX ?k3 ?k4 ?kA ?kF ?kK ?k6 ?k7 ?k8 ?k9 ?kB ?_ ?c2 ?c3 ?c4 ?c5; (case kA => exact rfl); (case kF => exact rfl); (case kK => assumption); (case k1 => k_asm); (case k2 => k_asm); (case kX => k_asm); (case k3 => k_asm); (case k4 => k_asm); (case k6 => k_is); (case k7 => k_is); (case k8 => ktr_room); (case k9 => exact BindsTo.of_eq rfl); (case kB => exact locs rfl); (case c2 => exact rfl); (case c3 => exact rfl); (case c4 => exact rfl); (case c5 => decide); k_whole; intro g' L' h' FG' F' N' B' X' T' D'; (try dsimp only); (try k_fold))
  k_steps
  refine wpAny_call ?_
  k_dflt (refine' code_def ?k1 ?k2 ?k3 ?k4 ?k5 ?kA ?kF ?kK ?k6 ?k7 ?k8 ?k9 ?kB ?_ ?c2 ?c3 ?c4 ?c5; (case kA => exact rfl); (case kF => exact rfl); (case kK => first | assumption | exact rfl); (case k1 => k_asm); (case k2 => k_asm); (case k3 => k_asm); (case k4 => k_asm); (case k5 => k_asm); (case k6 => k_is); (case k7 => k_is); (case k8 => ktr_room); (case k9 => exact BindsTo.of_eq rfl); (case c5 => decide); (case kB => exact locs rfl); (case c2 => exact rfl); (case c3 => exact rfl); (case c4 => exact rfl); k_whole; intro g' L' h' FG' F' N' B' X' T'; (try dsimp only); (try k_fold))
  k_steps
  refine kdg_notin (knd := sK w) (by k_asm) (by k_mem) hk (loOf lo) (strKind_is _ _ _ _) false (by rw [hf]; rfl) ?_
  (try dsimp only)
  k_steps
  refine stopped ?_
  have hC53 := X 53 _ (by k_dflt k_is)
  have hI30 := X 30 _ (by k_dflt k_is)
  refine Raise_call_G (fI := 30) (bm := [.ref 40, .type "Exception", .type "BaseException", .type "object"]) PySem.F.excBase_Exception ⟨by decide +kernel, by decide +kernel, by decide +kernel⟩ hC53 hI30 rfl (by decide +kernel) rfl rfl ?_
  k_steps
  refine Calls.evalArgs_plain (Calls.spliced_cons ?_)
  simp only [Bool.false_eq_true, if_false]
  k_steps
  any_goals exact trivial
  any_goals exact (Fr.keep (by k_asm) _ _ (Fr.keep (by k_asm) _ _ (Fr.keep (by k_asm) _ _ hC53)))
  any_goals exact (Fr.keep (by k_asm) _ _ (Fr.keep (by k_asm) _ _ (Fr.keep (by k_asm) _ _ hI30)))
  any_goals exact (looks_findIn (Frag.In.keeps (by k_asm) (Fr.keep (by k_asm))) (by k_is))
  rename Heap.MadeExcOf _ _ _ _ _ => Mm
  obtain ⟨tm, Fm, Nm, nem⟩ := made_led (by k_asm) (by k_asm) Mm
  (try dsimp only)
  k_dflt (refine' Does.use (init_ nem) ?d1 ?d2 ?d3 ?d4 ?d5 ?d6 ?d7 ?d8 ?_; (case d1 => k_asm); (case d2 => exact Fm); (case d3 => k_asm); (case d4 => exact Nm); (case d5 => k_asm); (case d6 => first | exact rfl | assumption); (case d7 => (dsimp only [Around.under, Around.deeper, ktrTop]; (try simp only [tc_weight]); omega)); (case d8 => (have hcL9 := cLine_is; dsimp only [Around.under, Around.deeper, ktrTop]; (try simp only [tc_units]); omega)))
  rintro r3 news3 h3 tk3 F3 N3 ⟨rfl, o3, nw3, tp3, rfl, c3, d3, s3, ne3⟩
  have hx3 := s3 _ hx
  have hdx3 := s3 _ hdx
  have hD3 := s3 _ hD
  clear hx hdx hD
  refine ⟨rfl, o3, tp3, (Fr.keep (by k_asm) _ _ (Fr.keep (by k_asm) _ _ (Fr.keep (by k_asm) _ _ hC53))), (N3 _ (.head _)).1, c3, d3, ?_⟩
  (try dsimp only)
  k_steps
  refine leave_newG (by k_asm) F3 N3 ne3 c3 d3 ?_
  intro h4 R4 U4
  (try dsimp only)
  k_steps
  refine wpAny_call ?_
  have hdM : dp + 1 < recursionLimit := by omega
  k_dflt (refine' code_def ?k1 ?k2 ?k3 ?k4 ?k5 ?kA ?kF ?kK ?k6 ?k7 ?k8 ?k9 ?kB ?_ ?c2 ?c3 ?c4 ?c5; (case kA => exact rfl); (case kF => exact rfl); (case kK => first | assumption | exact rfl); (case k1 => k_asm); (case k2 => k_asm); (case k3 => k_asm); (case k4 => k_asm); (case k5 => k_asm); (case k6 => k_is); (case k7 => k_is); (case k8 => assumption); (case k9 => exact BindsTo.of_eq rfl); (case c5 => decide); (case kB => exact locs rfl); (case c2 => exact rfl); (case c3 => exact rfl); (case c4 => exact rfl); k_whole; intro g' L' h' FG' F' N' B' X' T'; (try dsimp only); (try k_fold))
  k_steps
  refine kda_in (knd := sK w) (by k_asm) (by k_mem) hk (loOf lo) (strKind_is _ _ _ _) false (by rw [hf]; rfl) ?_
  (try dsimp only)
  k_steps
  exact hret _ _ _ _ (by k_asm) (by k_asm) ⟨congrArg Value.bool (by decide), s3⟩
end Mine
end

section
open PySem PySem.Spec PySem.Calls PySem.W PyProof.Rows PyProof.V
set_option Elab.async false
set_option maxRecDepth 100000
namespace Mine
/-- the cut behind _law_taker: what was drawn on is any list of ints, the ledger any ledger -/
theorem take_cut2 {w : World} {α : Type} {A : Around} {tr : Sem α} {Q : α → Shared → Prop} {E : Value → Shared → Prop} {h₀ h : Heap} {L : Addr} {news : Led} {mm : PySem.Str → Option Value} {f c cp cc pl cl tc rc : Addr} {c0 : Value} {d0 : Option Addr} {fd : FuncData} {sl : Array (Option Value)} {oc op occ oT : Obj} {ws : List Value} {m : Nat} {ps : Array Value} {gs : Array GenState} {dr : Drawn} {tk : Tok} {os : OsState} (F : Fr h₀ L h mm) (N : News h₀ L h news) (hI : ∃ ns, IntsAre ws ns ∧ 0 < ns.length ∧ ns.length ≤ 40) (h0 : TakeAt news f c cp cc pl cl ⟨c0, d0, .func fd, sl⟩ oc op occ ws m 0) (g0 : CellsAt news f tc rc oT ps) (a0 : Apart f c cp cc pl cl tc rc)
    (spec : ∀ ns, IntsAre ws ns → 0 < ns.length → ns.length ≤ 40 → TakeSpec w f c cp cc pl cl ⟨c0, d0, .func fd, sl⟩ oc op occ ws m)
    (go : ∀ (h : Heap) (tk : Tok) (news : Led) (f c cp cc pl cl : Addr) (c0 : Value) (d0 : Option Addr) (fd : FuncData) (sl : Array (Option Value)) (oc op occ oT : Obj) (ws : List Value) (m : Nat) (ps : Array Value), TakeSpec w f c cp cc pl cl ⟨c0, d0, .func fd, sl⟩ oc op occ ws m → TakeAt news f c cp cc pl cl ⟨c0, d0, .func fd, sl⟩ oc op occ ws m 0 → CellsAt news f tc rc oT ps → Apart f c cp cc pl cl tc rc → Fr h₀ L h mm → News h₀ L h news → wpAny (model PySem.Challenge.rw_og0070_01.row.prog w) A tr Q E ⟨h, gs, dr, tk, os⟩) :
    wpAny (model PySem.Challenge.rw_og0070_01.row.prog w) A tr Q E ⟨h, gs, dr, tk, os⟩ := let ⟨ns, a, b, c'⟩ := hI; go h tk news _ _ _ _ _ _ _ _ _ _ _ _ _ _ _ _ _ (spec ns a b c') h0 g0 a0 F N
end Mine
end

section
open PySem PySem.Spec PySem.Calls PySem.W PyProof.Rows PyProof.V
set_option Elab.async false
set_option maxRecDepth 100000
set_option maxHeartbeats 4000000
namespace Mine
local macro_rules | `(tactic| k_mem) => `(tactic| (refine memOf ?_; ktr_member))
local macro_rules | `(tactic| walk_at "call ref") => `(tactic| (k_here; (fail_if_success (with_reducible show wpAny _ _ (call (Value.ref 177) _) _ _ _)); refine stop_ ?_))
local macro_rules | `(tactic| ktr_call $x:term $_c:term) => `(tactic| (refine stopped ?_; k_dflt (refine' Does.use $x ?d1 ?d2 ?d3 ?d4 ?d5 ?d6 ?d7 ?d8 ?_; (case d1 => k_asm); (case d2 => k_asm); (case d3 => k_asm); (case d4 => k_asm); (case d5 => k_asm); (case d6 => first | exact rfl | assumption); (case d7 => ktr_room); (case d8 => ktr_units))))
local macro_rules | `(tactic| k_all) => `(tactic| exact allNe (by assumption) (by omega))
local macro_rules | `(tactic| walk_at "eval ListComp") => `(tactic| (k_here; refine stop_ ?_))
local macro_rules | `(tactic| cell_enter) => `(tactic| (refine' code_defC ?k1 ?k2 ?k3 ?k4 ?k5 ?kA ?kF ?kK ?k6 ?k7 ?k8 ?k9 ?kB ?kD ?_ ?c2 ?c3 ?c4; (case kA => exact rfl); (case kF => exact rfl); (case kK => assumption); (case k1 => k_asm); (case k2 => k_asm); (case k3 => k_asm); (case k4 => k_asm); (case k5 => k_asm); (case k6 => k_is); (case k7 => k_is); (case k8 => ktr_room); (case k9 => exact BindsTo.of_eq rfl); (case kB => exact rfl); (case kD => decide +kernel); (case c2 => exact rfl); (case c3 => exact rfl); (case c4 => exact rfl); k_whole; intro g' L' h' tk' cells' FG' F' N' Y' B' X' T' l1; k_cells Y'; (try simp only [List.cons_append, List.nil_append] at N'); (try dsimp only); (try k_fold)))

local macro_rules | `(tactic| walk_at "exec For Name Name cons nil") => `(tactic| (k_here; refine stop_ ?_))
local macro_rules | `(tactic| walk_at "exec For Name Call cons nil") => `(tactic| (k_here; refine stop_ ?_))
local macro_rules | `(tactic| walk_at "exec For Name Call Attribute cons nil") => `(tactic| (k_here; refine stop_ ?_))
local macro_rules | `(tactic| walk_at "exec For Name Name cons cons") => `(tactic| (k_here; refine stop_ ?_))


local macro_rules | `(tactic| walk_at "exec For Tuple Name cons nil") => `(tactic| (k_here; refine stop_ ?_))

local macro_rules | `(tactic| walk_at "subscriptTail") => `(tactic| (k_here; refine stop_ ?_))
local macro_rules | `(tactic| walk_at "call builtin:len") => `(tactic| (k_here; refine stop_ ?_))
local macro_rules | `(tactic| walk_at "binaryOp FloorDiv int int") => `(tactic| (k_here; refine stop_ ?_))
local macro_rules | `(tactic| walk_at "binaryOp Mod int int") => `(tactic| (k_here; refine stop_ ?_))
local macro_rules | `(tactic| walk_at "binaryOp Pow int int") => `(tactic| (k_here; refine stop_ ?_))
local macro_rules | `(tactic| walk_at "binaryOp Mult int int") => `(tactic| (k_here; refine stop_ ?_))
local macro_rules | `(tactic| walk_at "setItem ref int") => `(tactic| (k_here; refine stop_ ?_))
local macro_rules | `(tactic| walk_at "exec For Name Subscript cons nil") => `(tactic| (k_here; refine stop_ ?_))
local macro_rules | `(tactic| walk_at "call type:bytes") => `(tactic| (k_here; refine stop_ ?_))
local macro_rules | `(tactic| walk_at "CompSrc") => `(tactic| (k_here; refine stop_ ?_))
local macro_rules | `(tactic| walk_at "pyIter ref") => `(tactic| ((with_reducible show wpAny _ _ (pyIter (Value.ref _)) (fun it s₂ => LoopAtV _ _ _ _ _ _ _ _ _ it s₂) _ _); k_here; refine stop_ ?_))
set_option maxHeartbeats 8000000 in
theorem go : PySem.Challenge.rw_og0070_01.Holds := Mine.hd (by
  k_go0
  all_goals try k_fold
  refine' have_key ?kk (fun key => ?mm)
  case mm =>
    k_steps
    all_goals refine stopped ?_
    all_goals (try dsimp only)
    all_goals first
      | refine take_cut2 (by k_asm) (by k_asm) ⟨[1], .cons _ _ .nil, by decide, by decide⟩ ⟨.head _, .tail _ (.head _), .tail _ (.tail _ (.tail _ (.tail _ (.tail _ (.tail _ (.head _)))))), .tail _ (.tail _ (.tail _ (.tail _ (.tail _ (.tail _ (.tail _ (.head _))))))), .tail _ (.tail _ (.tail _ (.head _))), ⟨by k_ne, by k_ne, by k_ne, by k_ne, by k_ne⟩, ⟨_, _, _, .tail _ (.tail _ (.head _)), rfl, rfl⟩⟩ ⟨.tail _ (.tail _ (.tail _ (.tail _ (.tail _ (.tail _ (.tail _ (.tail _ (.tail _ (.tail _ (.head _)))))))))), .tail _ (.tail _ (.tail _ (.tail _ (.tail _ (.tail _ (.tail _ (.tail _ (.tail _ (.head _))))))))), by assumption, ⟨_, _, .tail _ (.tail _ (.tail _ (.tail _ (.tail _ (.tail _ (.tail _ (.tail _ (.head _)))))))), by assumption⟩⟩ ⟨⟨by k_ne, by k_ne, by k_ne⟩, ⟨by k_ne, by k_ne, by k_ne, by k_ne, by k_ne, by k_ne, by k_ne⟩⟩ ?_ ?_
      | refine take_cut2 (by k_asm) (by k_asm) ⟨_, by assumption, List.length_pos_iff.mpr (of_decide_eq_false (by assumption)), by rw [List.length_take]; omega⟩ ⟨.head _, .tail _ (.head _), .tail _ (.tail _ (.tail _ (.tail _ (.tail _ (.head _))))), .tail _ (.tail _ (.tail _ (.tail _ (.tail _ (.tail _ (.head _)))))), .tail _ (.tail _ (.tail _ (.tail _ (.head _)))), ⟨by k_ne, by k_ne, by k_ne, by k_ne, by k_ne⟩, ⟨_, _, _, .tail _ (.tail _ (.head _)), rfl, rfl⟩⟩ ⟨.tail _ (.tail _ (.tail _ (.tail _ (.tail _ (.tail _ (.tail _ (.tail _ (.tail _ (.head _))))))))), .tail _ (.tail _ (.tail _ (.tail _ (.tail _ (.tail _ (.tail _ (.tail _ (.head _)))))))), by assumption, ⟨_, _, .tail _ (.tail _ (.tail _ (.tail _ (.tail _ (.tail _ (.tail _ (.head _))))))), by assumption⟩⟩ ⟨⟨by k_ne, by k_ne, by k_ne⟩, ⟨by k_ne, by k_ne, by k_ne, by k_ne, by k_ne, by k_ne, by k_ne⟩⟩ ?_ ?_
    all_goals first
      | exact key.it
      | (show ∀ ns, IntsAre _ ns → _
         intro ns hI hn0 hn40 news k lim t T hk hl
         obtain ⟨hf, hc, hcp, hcc, hcl, ⟨nef, nec, necp, necc, necl⟩, ⟨op9, tp, np, hpl, hpc, hpd⟩⟩ := T
         unfold Does
         intro p loose mean mg mb dp un gd cn cs a ccd cl outer A₀ base h₀ L m s Q E B F X N T0 hkf hdp hu hret
         have hlw := hI.length
         have hfunN := fun_of N
         refine wpAny_call ?_
         k_dflt (refine' code_nest ?k1 ?k2 ?k3 ?k4 ?k5 ?kA ?kF ?kK ?k6 ?k7 ?k8 ?k9 ?kB ?_ ?c2 ?c3 ?c4 ?c5; (case kA => exact rfl); (case kF => exact rfl); (case kK => assumption); (case k1 => exact B); (case k2 => exact F); (case k3 => exact X); (case k4 => exact N); (case k5 => exact T0); (case k6 => exact hf); (case k7 => exact codeRec_news N hc (by assumption) (by assumption)); (case k8 => ktr_room); (case k9 => exact BindsTo.of_eq rfl); (case c5 => decide); (case kB => exact locs rfl); (case c2 => exact rfl); (case c3 => exact rfl); (case c4 => exact rfl); k_whole; intro g' L' h' FG' F' N' B' X' T'; (try dsimp only); (try k_fold))
         k_steps
         refine stopped ?_
         refine item_list (x := .int k tp) ⟨op9, (News.get (by k_asm) hpl), hpc, np, hpd⟩ (by decide) (by decide) rfl ?_
         (try dsimp only)
         k_steps
         refine stopped ?_
         refine setlist_led (by k_asm) (by k_asm) hpl hpc hpd (by decide) (by decide) (by show (0 : Int) < ((1 : Nat) : Int); decide) ?_
         intro h8 o8 n8 F8 N8 hc8 hd8
         have hcp8 := memUpd o8 hcp necp
         have hcc8 := memUpd o8 hcc necc
         have hcl8 := memUpd o8 hcl necl
         (try dsimp only)
         k_steps
         refine stopped ?_
         refine call_len_list (isList_led (by k_asm) hcl8) (by rw [List.size_toArray, hlw]; omega) ?_
         rw [List.size_toArray, hlw]
         (try dsimp only)
         k_steps
         obtain ⟨lv0, lv1⟩ := lev_bound k ns.length hn0
         refine stopped ?_
         refine floordiv_int (by omega) ?_ (Or.inl (PyProof.noPylong_of_log2 (log_small (by omega) (by omega))))
         (try dsimp only)
         k_steps
         refine stopped ?_
         refine call_len_list (isList_led (by k_asm) hcl8) (by rw [List.size_toArray, hlw]; omega) ?_
         rw [List.size_toArray, hlw]
         (try dsimp only)
         k_steps
         refine stopped ?_
         refine mod_int' (by omega) ?_
         (try dsimp only)
         k_steps
         refine stopped ?_
         refine item_anyK (isList_led (by k_asm) hcl8) hI (Int.fmod_nonneg_of_pos _ (by omega)) (Int.fmod_lt_of_pos _ (by omega)) (Int.lt_of_lt_of_le (Int.fmod_lt_of_pos _ (by omega)) (by omega)) ?_
         intro t9
         (try dsimp only)
         k_steps
         refine stopped ?_
         refine pow_int_small lv0 (by omega) (by decide) ?_
         (try dsimp only)
         k_steps
         refine stopped ?_
         refine floordiv_int (by exact Int.pow_ne_zero (by decide)) ?_ (Or.inl (PyProof.noPylong_of_log2 (log_pow (by omega))))
         (try dsimp only)
         k_steps
         refine stopped ?_
         refine mul_int ?_ (IntMulOk.of_left (intBits_le (by decide)))
         (try dsimp only)
         k_steps
         refine stopped ?_
         refine mul_int ?_ (IntMulOk.of_left (intBits_le (by omega)))
         (try dsimp only)
         k_steps
         refine stopped ?_
         refine mod_int' (by omega) ?_
         (try dsimp only)
         k_steps
         exact hret _ _ _ _ (by k_asm) (by k_asm) ⟨_, _, rfl, Int.fmod_nonneg_of_pos _ hl, Int.fmod_lt_of_pos _ hl, ⟨memUpd o8 hf nef, memUpd o8 hc nec, hcp8, hcc8, hcl8, ⟨nef, nec, necp, necc, necl⟩, ⟨o8, _, _, .head _, hc8, hd8⟩⟩, fun q hq hn => memUpd o8 hq hn, hfunN⟩)
  case kk =>
    constructor
    intro h00 tk00 news f c cp cc pl cl c00 d00 fd00 sl00 oc op occ oT ws m ps TK T0 G0 A0 F00 N00
    (try dsimp only)
    ktr_call law_written_right_ 0
    rintro r1 news1 h1 tk1 F1 N1 ⟨rfl, hs1⟩
    have TA := T0.sub hs1
    have CA := G0.sub hs1
    clear T0 G0 hs1
    (try dsimp only)
    k_steps
    ktr_call shelf_new 0
    rintro r2 news2 h2 tk2 F2 N2 ⟨hs2, x1, d1, D1, rfl, S1, H1, ⟨nx1, nd1⟩, l1⟩
    have hf2 := hs2 _ TA.hf
    have ht2 := hs2 _ CA.tcell
    have hd2 := CA.tdata
    obtain ⟨o9, _, _, hplm, _⟩ := (TA.sub hs2).hpl
    (try dsimp only)
    k_steps
    have ST := sit_start TA CA A0 hs2 S1 H1 nx1 nd1 l1 (by assumption) (by assumption)
    refine stopped ?_
    refine For_turns (by k_asm) ?_
    k_steps
    ktr_call (TK _ 0 4 _ (ST.sub subDrop2).take (by decide) (by decide)) 0
    rintro r3 news3 h3 tk3 F3 N3 ⟨v3, t3, rfl, v30, v31, T3, K3, hfB⟩
    have S3 := (ST.sub subDrop2).took hfB T3 K3
    have hP3 := K3 _ (List.Mem.head _) (Ne.symm (Nat.ne_of_lt (allLt_mem (And.right (And.right (by assumption))) _ hplm)))
    clear hf2 ht2 hplm
    have hf3 := S3.take.hf
    have ht3 := S3.cells.tcell
    (try dsimp only)
    k_steps
    refine stopped ?_
    refine slice_upto (by k_asm) (by k_asm) hP3 v30 (by show v3 ≤ 3; omega) ?_
    intro h4 T4 n4 news4 F4 N4 hs4 hT4
    have u4 := fun_of N4
    (try dsimp only)
    k_steps
    have S4 := (S3.sub hs4).moreTup u4 hT4
    have hTpl := (S3.sub hs4).tupNe u4 hT4
    clear hs4 hf3 ht3
    refine iter_tupTurns (by rfl) (by k_asm) (by k_asm) hT4 rfl rfl ?_
    intro I lI
    refine itemsRest_vars ["path", "kind", "octets"] _ (fun i nw => Stays T4 news4 nw ∧ JA _ _ _ _ _ _ _ _ _ _ x1 d1 D1 _ _ _ _ _ _ _ _ _ 1 0 3 5 I i nw) _ _ ⟨fun _ ho => ho, JA_start S4 (by omega) ⟨fun _ h => absurd h List.not_mem_nil, Nat.zero_le _⟩ (fun _ h => absurd h List.not_mem_nil) lI⟩ ?_ ?_
    · rintro u9 nw9 h9 tk9 ⟨hJT, o9, k9, τ1, τ2, hk9, S9, hF9, hO9⟩ F9 N9
      simp only [upd] at F9
      have hf9 := S9.take.hf
      have ht9 := S9.cells.tcell
      (try dsimp only)
      k_steps
      refine stopped ?_
      refine For_one (by k_asm) (by rfl) (by rfl) ?_
      k_steps
      ktr_call (TK _ _ 9 _ S9.take (by rw [List.length_map, List.length_take] at hk9; show k9 < 60; omega) (by decide)) 0
      rintro r5 news5 h5 tk5 F5 N5 ⟨v5, t5, rfl, v50, v51, T5, K5, hf5⟩
      have S5 := S9.took hf5 T5 K5
      (try dsimp only)
      k_steps
      refine stopped ?_
      refine iter_rangeUnr (n := v5.toNat) (by rfl) (by assumption) (small_one (by decide) (by decide) (by omega) (by omega)) (by rw [rangeSize_nat, Int.sub_zero]) (by k_asm) (by k_asm) ?_
      intro I8 lI8
      refine rangeRest_vars ["turn", "path", "kind", "mode"] _ (JA _ _ _ _ _ _ _ _ _ _ x1 d1 D1 _ _ _ _ _ _ _ _ _ 17 3 6 4 I8) _ (JA_start S5 (by rw [List.length_map, List.length_take] at hk9; show k9 + 1 ≤ 17; simp only [List.length_cons, List.length_nil] at hk9; omega) (hF9.mono (by rw [List.length_map, List.length_take]; simp only [List.length_cons, List.length_nil]; omega) (by rw [List.length_map, List.length_take]; simp only [List.length_cons, List.length_nil]; omega)) hO9 lI8) ?_ ?_
      · rintro u12 nw12 h12 tk12 ⟨o12, k12, σ1, σ2, hk12, S12, hF12, hO12⟩ F12 N12
        simp only [upd] at F12
        (try dsimp only)
        k_steps
        refine stopped ?_
        k_dflt (refine' DoesTop.use (law_is_refused_ S12.shelf (S12.two.one.notAt hO12.none)) ?d1 ?d2 ?d3 ?d4 ?d5 ?dX ?dT ?d6 ?d7 ?d8 ?_; (case d1 => k_asm); (case d2 => k_asm); (case d3 => k_asm); (case d4 => k_asm); (case d5 => k_asm); (case dX => k_asm); (case dT => k_asm); (case d6 => first | exact rfl | assumption); (case d7 => ktr_room); (case d8 => ktr_units))
        rintro r19 news19 h19 tk19 F19 N19 ⟨rfl, s19⟩
        have S19 := S12.sub s19
        (try dsimp only)
        k_steps
        ktr_call (law_told_right_ S19.shelf S19.two.one S19.two.two S19.same (fun q hq => by have := hF12.1 q.1 (List.mem_map_of_mem hq); omega) (by have := hF12.2; rw [List.length_map] at this; omega)) 0
        rintro r20 news20 h20 tk20 F20 N20 ⟨s20, rfl⟩
        have tab20 := (S19.sub s20).cells.tab
        (try dsimp only)
        k_steps
      · rintro i11 u11 nw11 hi11 ⟨o11, k11, σ1, σ2, hk11, S11, hF11, hO11⟩ t11 h11 tk11 F11 oI11 cI11 N11
        simp only [upd] at F11
        have S11' := S11.keepI (oI := oI11) o11
        have hf11 := S11'.take.hf
        have ht11 := S11'.cells.tcell
        obtain ⟨o10, _, _, hpl11, _⟩ := S11'.take.hpl
        have lt11 := Heap.lt_size (N11 _ hpl11).1
        (try dsimp only)
        k_steps
        have hk60 : k11 + 4 < 60 := by omega
        ktr_call (TK _ _ 4 _ (S11'.sub subCons).take (by omega) (by decide)) 0
        rintro r13 news13 h13 tk13 F13 N13 ⟨v13, t13, rfl, v130, v131, T13, K13, hf13⟩
        have S13 := (S11'.sub subCons).took hf13 T13 K13
        have hT13 := K13 _ (List.Mem.head _) (Nat.ne_of_gt lt11)
        clear hf11 ht11
        have hf13' := S13.take.hf
        have ht13' := S13.cells.tcell
        (try dsimp only)
        k_steps
        refine stopped ?_
        obtain ⟨p13, pt13, hp13, hpf⟩ := path4 (t1 := tk11) (t2 := tk11 + 1) (t3 := tk11 + 1 + 1) (t4 := tk11 + 1 + 1 + 1) (j := v13.toNat) (by omega)
        refine item_tupN (by k_asm) hT13 v130 (by show v13 < _; omega) hp13 ?_
        (try dsimp only)
        k_steps
        ktr_call (TK _ _ 3 _ S13.take (by omega) (by decide)) 0
        rintro r14 news14 h14 tk14 F14 N14 ⟨v14, t14, rfl, v140, v141, T14, K14, hf14⟩
        have S14 := S13.took hf14 T14 K14
        clear hf13' ht13'
        have hf14' := S14.take.hf
        have ht14' := S14.cells.tcell
        (try dsimp only)
        k_steps
        obtain ⟨kv9, hkt, hks⟩ := kinds_top rfl (by assumption)
        refine stopped ?_
        refine item_strsTu (hkt.keeps (Fr.keep (by k_asm))) hks v140 (by show v14 < 3; omega) (by omega) ?_
        intro t6
        have hk6 := kind_at (j := v14.toNat) (by omega)
        generalize List.getD [Str.ofString "sequential", relS, Str.ofString "indexed"] v14.toNat Str.empty = kd at hk6 ⊢
        (try dsimp only)
        k_steps
        ktr_call (TK _ _ 4 _ (S14.sub (Sub.trans subCons subCons)).take (by omega) (by decide)) 0
        rintro r15 news15 h15 tk15 F15 N15 ⟨v15, t15, rfl, v150, v151, T15, K15, hf15⟩
        have S15 := (S14.sub (Sub.trans subCons subCons)).took hf15 T15 K15
        have hT15 := K15 _ (List.Mem.head _) ((S14.sub (Sub.trans subCons subCons)).tupNe hf15 (List.Mem.head _)).1
        clear hf14' ht14'
        have hf15' := S15.take.hf
        have ht15' := S15.cells.tcell
        (try dsimp only)
        k_steps
        refine stopped ?_
        obtain ⟨m15, mt15, hm15⟩ : ∃ p t, _ = some (Value.str p t) := mode4 (j := v15.toNat) (by omega)
        refine item_tupN (by k_asm) hT15 v150 (by show v15 < _; omega) hm15 ?_
        (try dsimp only)
        k_steps
        ktr_call (TK _ _ 256 _ S15.take (by omega) (by decide)) 0
        rintro r16 news16 h16 tk16 F16 N16 ⟨v16, t16, rfl, v160, v161, T16, K16, hf16⟩
        have S16 := S15.took hf16 T16 K16
        (try dsimp only)
        k_steps
        refine stopped ?_
        refine bytes_K (by k_asm) (by k_asm) ⟨_, (News.get (by k_asm) (by k_mem)), rfl, _, rfl⟩ (.cons _ _ (.cons _ _ .nil)) (by simp only [List.forall_mem_cons, List.not_mem_nil, false_implies, implies_true, and_true]; omega) (by rw [sizeLine_eq]; exact Nat.le_of_ble_eq_true rfl) (by with_unfolding_all rfl) ?_
        intro h17 t17 k17 F17 N17 _
        have S17 := S16.sub (subOfNews N17)
        (try dsimp only)
        k_steps
        ktr_call (law_opened_right_ S17.shelf (S17.prs _ (by simp)) (S17.prs _ (by simp)) S17.two S17.same (hF11.mono (by omega) (by omega)) hk6) 0
        rintro r18 news18 h18 tk18 F18 N18 ⟨rfl, J18, ρ1, ρ2, W18, e18, e18'⟩
        have u18 := fun_of N18
        obtain ⟨opl11, hpl11'⟩ := S11.plIn
        have nIpl := Ne.symm (o11 _ hpl11')
        have hI18 := J18 _ (List.Mem.tail _ (K16 _ (K15 _ (List.Mem.tail _ (List.Mem.tail _ (K14 _ (K13 _ (List.Mem.tail _ (List.Mem.head _)) nIpl) nIpl))) nIpl) nIpl)) (List.Mem.head _)
        have S18 := S17.kept J18 W18 (e18.trans e18'.symm)
        (try dsimp only)
        k_steps
        refine unrEnd_oneR (by k_asm) (by k_asm) hI18 ⟨fun y hy => ?_, JA_end S18 u18 hI18 (by rw [cI11]; show Value.type "range_iterator" ≠ Value.type "tuple"; decide) (S11.prOff o11) S11.prs (by omega) (by rw [e18]; exact hF11.next) (by rw [e18]; exact hO11.next hpf)⟩
        simp only [List.mem_cons, List.not_mem_nil, or_false, not_or] at hy
        simp [hy]
    · rintro i a9 u9 nw hx9 ⟨hJT, o9, k9, τ1, τ2, hk9, S9, hF9, hO9⟩ v9 h9 tk9 hv9 F9 oI hI N9
      simp only [upd] at F9
      have S9' := S9.keepI (oI := oI) o9
      have hf9 := S9'.take.hf
      have ht9 := S9'.cells.tcell
      obtain ⟨p9, t9, rfl, hp9⟩ := paths3 hx9 hv9
      have hi9 : i < 3 := by
        have hi := (List.getElem?_eq_some_iff.mp hx9).1
        rw [List.length_map, List.length_take] at hi
        exact Nat.lt_of_lt_of_le hi (Nat.min_le_right _ _)
      dsimp only [List.cons_append, List.nil_append] at N9 ⊢
      k_steps
      ktr_call (TK _ _ 3 _ S9'.take (by omega) (by decide)) 0
      rintro r5 news5 h5 tk5 F5 N5 ⟨v5, t5, rfl, v50, v51, T5, K5, hf5⟩
      have S5 := S9'.took hf5 T5 K5
      (try dsimp only)
      k_steps
      have hf6 := S5.take.hf
      have ht6 := S5.cells.tcell
      clear hf9 ht9
      obtain ⟨kv9, hkt, hks⟩ := kinds_top rfl (by assumption)
      refine stopped ?_
      refine item_strsTu (hkt.keeps (Fr.keep (by k_asm))) hks v50 (by show v5 < 3; omega) (by omega) ?_
      intro t6
      have hk6 := kind_at (j := v5.toNat) (by omega)
      generalize List.getD [Str.ofString "sequential", relS, Str.ofString "indexed"] v5.toNat Str.empty = kd at hk6 ⊢
      (try dsimp only)
      k_steps
      refine stopped ?_
      k_dflt (refine LCg.ListComp_U (F₀ := by k_asm) (by with_unfolding_all rfl) (by decide) (by rfl) (by decide) (by rfl) ?_)
      k_steps
      ktr_call (TK _ _ 4 _ S5.take (by omega) (by decide)) 0
      rintro r6 news6 h6 tk6 F6 N6 ⟨v6, t6', rfl, v60, v61, T6, K6, hf6'⟩
      have S6 := S5.took hf6' T6 K6
      obtain ⟨opl9, hpl9⟩ := S9.plIn
      have hIpl := Ne.symm (o9 _ hpl9)
      (try dsimp only)
      k_steps
      refine stopped ?_
      refine LCg.CompSrc.range (n := v6.toNat) (by rfl) (by k_asm) (by k_asm) (by assumption) (small_one (by decide) (by decide) (by omega) (by omega)) (by rw [rangeSize_nat, Int.sub_zero]) (by rw [sizeLine_eq]; omega) ?_
      intro g9
      refine compRest_ind (JC _ _ _ _ _ _ _ _ _ _ x1 d1 D1 _ _ _ _ _ _ _ _ _ τ1 τ2 _ news6) _ ?_ ?_ _ 0 [] _ (Nat.zero_add _) (JC_start S6)
      · rintro ys nw10 ⟨K10, k10, bs, hk10, S10, hB10, hl10⟩
        intro DL h10 tk10 F10 N10 off10
        have u10 := fun_of N10
        have S11 := S10.keepI (oI := LCg.lst ys) (off1_all off10)
        have o11 := S10.prOff (off1_all off10)
        obtain ⟨oR, vR, hrc, hdR⟩ := S11.cells.rcell
        refine storeC_ab (by k_asm) (by k_asm) (by rfl) hrc hdR ?_
        intro h11 oR11 nw12 F11 N11 hr12 K12 hd11
        have u12 := fun_of N11
        have S12 := S11.rows u10 hr12 hd11 K12
        have hrcD := o11 _ (S10.prs _ (List.Mem.tail _ (List.Mem.tail _ (List.Mem.tail _ (List.Mem.tail _ (List.Mem.tail _ (List.Mem.tail _ (List.Mem.tail _ (List.Mem.tail _ (List.Mem.tail _ (List.Mem.tail _ (List.Mem.head _))))))))))))
        have hDL12 := K12 _ (List.Mem.head _) (Ne.symm hrcD)
        have hIrc := Ne.symm (S9.prOff o9 _ (S9.prs _ (List.Mem.tail _ (List.Mem.tail _ (List.Mem.tail _ (List.Mem.tail _ (List.Mem.tail _ (List.Mem.tail _ (List.Mem.tail _ (List.Mem.tail _ (List.Mem.tail _ (List.Mem.tail _ (List.Mem.head _)))))))))))))
        have hI12 := chain12 K5 K6 K10 K12 (I, oI) (List.Mem.head _) hIpl hIrc
        have hT12 := fun (o : Obj) (ho : (T4, o) ∈ news4) => chain12 K5 K6 K10 K12 (T4, o) (List.Mem.tail _ (hJT o ho)) hTpl.1 hTpl.2
        have hbs3 : bs.length ≤ 3 := by rw [hl10]; omega
        clear K10 K12 S10 S11 off10 hrcD hrc
        by_cases hrel : kd = relS
        · have hrel' : (kd == Str.ofString "relative") = true := by rw [beq_iff_eq]; exact hrel
          k_steps
          refine put_ledR (rows := []) (by k_asm) (by k_asm) S12.two.two S12.two.swap.ne.2.1 (by have := hF9.2; rw [S9.same, List.length_map] at this; omega) (by assumption) (And.left (by assumption)) (.inl ⟨hrel, [], by assumption, .nil⟩) ?_
          intro h14 news14 F14 N14 Q14 K14
          obtain ⟨W14, J14⟩ := S12.two.put2 u12 Q14 K14 (by assumption)
          have hr14 := J14 _ hr12 (S12.prs _ (by simp))
          have hDL14 := J14 _ hDL12 (List.Mem.head _)
          (try dsimp only)
          k_steps
          refine stopped ?_
          refine For_turns (by k_asm) ?_
          k_steps
          refine iter_listTurns (by rfl) (by k_asm) (by k_asm) hDL14 rfl rfl ?_
          intro I2 lI2
          refine itemsRest_var (Str.ofString "octets") _ (JB _ _ _ _ _ _ _ _ _ _ bs I2) _ _ (JB_start W14 lI2) ?_ ?_
          · rintro u15 nw15 h15 tk15 ⟨o15, W15, J15⟩ F15 N15
            have u15' := fun_of N15
            rw [List.take_of_length_le (by rw [List.length_map, hB10.length]; exact Nat.le_refl _)] at W15
            have J15' := J14.trans J15
            have hr15 := J15' _ hr12 (S12.prs _ (by simp))
            have hDL15 := J15' _ hDL12 (List.Mem.head _)
            have Sh15 := S12.shelf.kept J15' (S12.prs _ (by simp)) (S12.prs _ (by simp))
            obtain ⟨hx15, _, _, hdx15⟩ := id Sh15
            clear hr14 hDL14
            (try dsimp only)
            k_steps
            refine stopped ?_
            k_dflt (refine LCg.ListComp_U (F₀ := by k_asm) (by with_unfolding_all rfl) (by decide) (by rfl) (by decide) (by rfl) ?_)
            k_steps
            refine stopped ?_
            refine call_len_list (isList_led (by k_asm) hDL15) (by rw [List.size_toArray, hB10.length, hl10]; omega) ?_
            rw [show ys.toArray.size = ys.length from List.size_toArray ..]
            (try dsimp only)
            k_steps
            refine stopped ?_
            refine LCg.CompSrc.range (n := ys.length) (by rfl) (by k_asm) (by k_asm) (by assumption) (small_one (by decide) (by decide) (by omega) (by rw [hB10.length, hl10]; omega)) (by rw [rangeSize_nat, Int.sub_zero]; rfl) (by rw [hB10.length, hl10, sizeLine_eq]; omega) ?_
            intro g18
            refine compRest_ind (fun i y2 nw => Sub nw15 nw ∧ DatAll nw y2 ((numDat 1 bs).take i)) _ ?_ ?_ _ 0 [] _ (Nat.zero_add _) ⟨subRefl, DatAll.nil⟩
            · rintro y2 nw18 ⟨hs18, hd18⟩
              intro DL2 h18 tk18 F18 N18 off18
              have u18 := fun_of N18
              rw [List.take_of_length_le (by rw [numDat_length, hB10.length]; exact Nat.le_refl _)] at hd18
              have Sh18 := Sh15.sub (hs18.trans (subCons (a := (DL2, LCg.lst y2))))
              obtain ⟨hx18, _, _, hdx18⟩ := id Sh18
              k_steps
              ktr_call (lay_ Sh18 (W15.one.sub (hs18.trans subCons)) W15.ne.2.1 W15.ne.2.2.2.2.2.1 (by have := hF9.2; rw [List.length_map] at this; omega) hk6 (List.Mem.head _) (.inr ⟨_, rfl⟩) (by rw [if_pos hrel]; exact hd18.mono subCons) (by rw [hl10]; omega)) 0
              rintro r17 news17 h17 tk17 F17 N17 ⟨rfl, c17, P17, K17, l17⟩
              have u17 := fun_of N17
              obtain ⟨W17, J17, e17⟩ := (W15.sub (hs18.trans (subCons (a := (DL2, LCg.lst y2))))).lay S9.same u18 P17 K17 l17
              have J17' := (J15'.trans (hs18.trans (subCons (a := (DL2, LCg.lst y2)))).kept).trans J17
              (try dsimp only)
              k_steps
              have hI17 := J17' _ hI12 (List.Mem.tail _ (List.Mem.head _))
              have S17 := ((S12.kept J17' W17 e17).shrink (pr' := I :: T4 :: _) (fun _ ha => List.Mem.tail _ ha) (base12_sub S9.prs I))
              refine unrEndW_one (by k_asm) (by k_asm) hI17 (nw := dropL I news17) (fun q hq => (mem_dropL.mp hq).1) (fun q hq => (mem_dropL.mp hq).2) ⟨⟨mem_dropL.mpr ⟨J17' _ (hT12 _ hT4) (List.Mem.tail _ (List.Mem.tail _ (List.Mem.head _))), o9 _ (hJT _ hT4)⟩, trivial⟩, fun y hy => ?_, fun o ho => mem_dropL.mpr ⟨J17' _ (hT12 o ho) (List.Mem.tail _ (List.Mem.tail _ (List.Mem.head _))), o9 _ (hJT o ho)⟩, JA_end S17 u17 hI17 (by rw [hI]; show Value.type "tuple_iterator" ≠ Value.type "tuple"; decide) (S9.prOff o9) S9.prs (by omega) (by rw [putT_fst]; exact putFine3 hF9 hbs3) (by rw [putT_fst]; exact hO9.put hp9)⟩
              simp only [List.mem_cons, List.not_mem_nil, or_false, not_or] at hy
              simp [hy]
            · rintro i18 y2 nw18 hi18 ⟨hs18, hd18⟩ v18 I18 oI18 C18 oC18 D18 m18 h18 tk18 E18 ⟨t18, rfl⟩ hC18 hx18 F18 N18 off18 ne18
              have lT18 := fun q hq => Heap.lt_size (N18 q hq).1
              have hr18 := hs18 _ hr15
              have hDL18 := hs18 _ hDL15
              k_steps
              refine stopped ?_
              have hyl18 : i18 < bs.length := by rw [← hB10.length]; exact hi18
              obtain ⟨x18, hx18'⟩ : ∃ x, ys[i18]? = some x := ⟨_, List.getElem?_eq_getElem hi18⟩
              obtain ⟨b18, tb18, hb18, rfl⟩ := hB10.get hx18'
              refine item_list (x := .bytes b18 tb18) (isList_led (by k_asm) (.tail _ (.tail _ (.tail _ hDL18)))) (by omega) (by omega) (by simpa using hx18') ?_
              (try dsimp only)
              k_steps
              refine compEnd_one (by k_asm) (by k_asm) ⟨lT18 _ (.head _), lT18 _ (.tail _ (.head _)), lT18 _ (.tail _ (.tail _ (.head _))), allLt_of fun q hq => lT18 q (.tail _ (.tail _ (.tail _ hq)))⟩ off18 trivial ⟨fun q hq => .tail _ (hs18 q hq), ?_⟩
              rw [List.take_add_one, numDat_get _ _ _ hyl18]
              have hb18' : bs[i18] = b18 := by
                have := List.getElem?_eq_getElem hyl18
                rw [this] at hb18; exact Option.some.inj hb18
              rw [hb18']
              refine (hd18.mono subCons).append (.one (.tuple (.head _) (.cons ?_ (.cons (.bytes _ _) .nil))))
              rw [show (0 + (i18 : Int) + 1) = (1 : Int) + i18 from by omega]
              exact .int _ _
          · rintro i15 a15 u15 nw15 hx15 ⟨o15, W15, J15⟩ v15 h15 tk15 hv15 F15 oI15 hI15 N15
            rw [List.getElem?_map] at hx15
            obtain ⟨v8, hv8, rfl⟩ := Option.map_eq_some_iff.mp hx15
            obtain rfl : v15 = v8 := hv15
            obtain ⟨b15, t15, hb15, rfl⟩ := hB10.get hv8
            have W15' := W15.keepI (oI := oI15) o15
            obtain ⟨⟨o16, kv16, tup16, tk16, n16, hD16, hk16, hf16, ht16⟩, ⟨oc16, hc16, hC16⟩, lo16, loc16⟩ := W15'.two.at (look_put _ _ _)
            replace ht16 : (tup16, tupOf [.str kd tk16, .ref _] n16) ∈ _ := ht16
            replace hC16 : ContIs _ kd (bs.take i15) oc16 := hC16
            dsimp only [List.cons_append, List.nil_append] at N15 ⊢
            have u15' := fun_of N15
            k_steps
            refine stopped ?_
            refine kda_item (knd := sK _) (by k_asm) (by k_mem) hk16 (strKind_is _ _ _ _) hf16 ?_
            (try dsimp only)
            k_steps
            refine stopped ?_
            refine item_tupN (by k_asm) ht16 (by decide) (by decide) rfl ?_
            (try dsimp only)
            k_steps
            ktr_call (law_added_ hc16 hC16 loc16 (by rw [List.length_take]; omega)) 0
            rintro r17 news17 h17 tk17 F17 N17 ⟨rfl, oc17, hc17, hC17, K17⟩
            have u17 := fun_of N17
            obtain ⟨W17, J17⟩ := W15'.addPut u15' hc16 hC16.noTup hc17 hC17 K17
            (try dsimp only)
            k_steps
            have hI17 := J17 _ (List.Mem.head _) (List.Mem.head _)
            have hne17 := o15 _ (J15 _ hDL14 (List.Mem.head _))
            exact unrEndW_one (by k_asm) (by k_asm) hI17 (nw := dropL I2 news17) (fun q hq => (mem_dropL.mp hq).1) (fun q hq => (mem_dropL.mp hq).2) ⟨⟨mem_dropL.mpr ⟨J17 _ (List.Mem.tail _ (J15 _ hDL14 (List.Mem.head _))) (List.Mem.tail _ (List.Mem.head _)), hne17⟩, trivial⟩, ⟨_, if_step _ _ _ _⟩, JB_end W15 o15 W17 u17 hI17 (by rw [hI15]; show Value.type "list_iterator" ≠ Value.type "tuple"; decide) J17 J15 hb15⟩
        · have hrel' : (kd == Str.ofString "relative") = false := by rw [beq_eq_false_iff_ne]; exact hrel
          k_steps
          refine kup_listOf (zs := ys) (by k_asm) (by k_asm) hDL12 (by simp) ?_ (by rw [hB10.length, hl10, sizeLine_eq]; omega)
          intro D13 c13 h13 F13 N13 l13
          have l213 := Heap.lt_size (N13 _ (List.Mem.head _)).1
          (try dsimp only)
          k_steps
          refine put_ledR (rows := bs) (by k_asm) (by k_asm) S12.two.two S12.two.swap.ne.2.1 (by have := hF9.2; rw [S9.same, List.length_map] at this; omega) l13 l213 (.inr ⟨hrel, ys, _, rfl, hB10⟩) ?_
          intro h14 news14 F14 N14 Q14 K14
          have u14 := fun_of N14
          obtain ⟨W14, J14⟩ := S12.two.put2 u12 Q14 K14 l13
          have hr14 := J14 _ hr12 (S12.prs _ (by simp))
          have hDL14 := J14 _ hDL12 (List.Mem.head _)
          have Sh14 := S12.shelf.kept J14 (S12.prs _ (by simp)) (S12.prs _ (by simp))
          obtain ⟨hx14, _, _, hdx14⟩ := id Sh14
          (try dsimp only)
          k_steps
          ktr_call (lay_ Sh14 W14.one W14.ne.2.1 W14.ne.2.2.2.2.2.1 (by have := hF9.2; rw [List.length_map] at this; omega) hk6 hDL14 (.inr ⟨_, rfl⟩) (bytesDat hrel hB10) (by omega)) 0
          rintro r17 news17 h17 tk17 F17 N17 ⟨rfl, c17, P17, K17, l17⟩
          have u17 := fun_of N17
          obtain ⟨W17, J17, e17⟩ := W14.lay S9.same u14 P17 K17 l17
          have J17' := J14.trans J17
          (try dsimp only)
          k_steps
          have hI17 := J17' _ hI12 (List.Mem.tail _ (List.Mem.head _))
          have S17 := ((S12.kept J17' W17 e17).shrink (pr' := I :: T4 :: _) (fun _ ha => List.Mem.tail _ ha) (base12_sub S9.prs I))
          refine unrEndW_one (by k_asm) (by k_asm) hI17 (nw := dropL I news17) (fun q hq => (mem_dropL.mp hq).1) (fun q hq => (mem_dropL.mp hq).2) ⟨⟨mem_dropL.mpr ⟨J17' _ (hT12 _ hT4) (List.Mem.tail _ (List.Mem.tail _ (List.Mem.head _))), o9 _ (hJT _ hT4)⟩, trivial⟩, fun y hy => ?_, fun o ho => mem_dropL.mpr ⟨J17' _ (hT12 o ho) (List.Mem.tail _ (List.Mem.tail _ (List.Mem.head _))), o9 _ (hJT o ho)⟩, JA_end S17 u17 hI17 (by rw [hI]; show Value.type "tuple_iterator" ≠ Value.type "tuple"; decide) (S9.prOff o9) S9.prs (by omega) (by rw [putT_fst]; exact putFine3 hF9 hbs3) (by rw [putT_fst]; exact hO9.put hp9)⟩
          simp only [List.mem_cons, List.not_mem_nil, or_false, not_or] at hy
          simp [hy]
      · rintro i10 ys nw10 hi10 ⟨K10, k10, bs, hk10, S10, hB10, hl10⟩ v10 I10 oI10 C10 oC10 D10 m10 h10 tk10 E10 ⟨t10, rfl⟩ hC10 hx10 F10 N10 off10 ne10
        have u10 := fun_of N10
        have hf10 := S10.take.hf
        have ht10 := S10.cells.tcell
        obtain ⟨opl10, hpl10⟩ := S10.plIn
        k_steps
        ktr_call (TK _ _ 256 _ (S10.sub sub_tail3).take (by omega) (by decide)) 0
        rintro r12 news12 h12 tk12 F12 N12 ⟨v12, t12, rfl, v120, v121, T12, K12, hf12⟩
        have hC12 := K12 _ (List.Mem.tail _ (List.Mem.head _)) (Ne.symm (off10.mem _ hpl10).2.1)
        (try dsimp only)
        k_steps
        refine stopped ?_
        refine bytes_K (by k_asm) (by k_asm) ⟨_, (News.get (by k_asm) (by k_mem)), rfl, _, rfl⟩ (.cons _ _ (.cons _ _ .nil)) (by simp only [List.forall_mem_cons, List.not_mem_nil, false_implies, implies_true, and_true]; omega) (by rw [sizeLine_eq]; exact Nat.le_of_ble_eq_true rfl) (by with_unfolding_all rfl) ?_
        intro h13 t13 k13 F13 N13 _
        (try dsimp only)
        k_steps
        refine LCg.CompEnd.intro (by k_asm) (by k_asm) (drop3 I10 C10 D10 news12) (comp_sub subCons K12 off10 S10.plIn) off3_drop trivial (JC_step K10 hk10 S10 hB10 hl10 off10 u10 T12 K12))
end Mine
end

theorem PySem.Challenge.cw_og0070_01_holds : PySem.Challenge.rw_og0070_01.Holds :=
  Mine.go
